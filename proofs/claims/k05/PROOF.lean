import PyProof.Rows.All
import Wide.All
import OpenK.AllK
import Wide.FinOn
import HandS.ForSpec
import HandS.TupAny
import HandS.TupMul
import HandS.Style
import HandS.Deep
import HandS.IsInst
import KE.KDictKeyed
import KE.KDictDisplayH
import KE.KLam
import HandS.Dict
import HandS.NoneIn
import KE.GoesEnum
import KE.GoesMore
import HandS.Iter
import HandS.Zip
import HandS.Walk
import KE.KTupSum
import HandS.Comp
import HandS.Exc
import HandS.ExcOwn
import HandS.Lambda
import HandS.ExcCtx
import HandS.Nested
import HandS.TryMany
import HandS.Hot
import HandS.HotCalls
import HandS.ExcIs
import HandS.Defaults
import HandS.Text
import KE.GoesNew
import KE.KRevSl
import HandS.Conv
import HandS.HeadHook2
import HandS.HeadHook4
import HandS.HeadWalk
import HandS.EndTab
import KE.KStateDown
import HandS.Base
import HandS.Call
import HandS.Ends
import HandS.More
import HandS.Words
import HandS.WordsExc
import HandS.Head0
import HandS.Head1
import HandS.Head2
import HandS.HeadEnd
import HandS.HeadHook1
import PySem.Challenge.RW_habitrow_k05_guests_who_change_places_or
set_option Elab.async false
set_option linter.all false
set_option maxRecDepth 100000
set_option maxHeartbeats 4000000
/-! The core: data without a heap, expressions and statements without places, and what they come to. -/
namespace Hb
open PySem

/-- data -/
inductive P where
  | non | bl (b : Bool) | int (i : Int) | str (s : Str)
  | tup (ps : List P) | lst (ps : List P) | dct (ks vs : List P) | set (ps : List P)
  | gl (g : Nat) | fn (id : Nat) (caps : List P)
  /-- what enumerate and zip give: a tuple of which less is known -/
  | wtup (ps : List P)
/-! ### expressions -/
inductive O2 where
  | add | sub | mul | fdiv | mod | pow | lt | le | gt | ge | eq | ne | isin | notin | is | isnot
  deriving DecidableEq
inductive B where
  | len | tuple | list | all | any | sum | sorted | set | max | min | int | str | bool | dict
  deriving DecidableEq
inductive Ty where
  | bool | int | str | list | tuple
  deriving DecidableEq
inductive T where
  | nm (i : Nat) | tp (ts : T) | tnil | tcons (t ts : T)
inductive Mt where
  | append | pop | index | count
  deriving DecidableEq
inductive E where
  | cst (d : P) | var (i : Nat) | glb (g : Nat)
  | op (o : O2) (a b : E) | neg (a : E) | chain (o1 o2 : O2) (a b c : E)
  | and (es : E) | or (es : E) | not (a : E) | ite (c a b : E)
  | tup (es : E) | lst (es : E) | nil | cons (a es : E)
  | idx (a i : E) | slc (a lo hi : E) | rev (a : E)
  | call (f : Nat) (es : E) | app (f es : E) | tryl (e : E)
  | bi (b : B) (es : E) | met (m : Mt) (o es : E) | cnt (o a : E)
  | isi (a : E) (tys : List Ty)
  | lc (t : T) (it c elt : E) (own : List Nat)
  /-- what a name holds, called: a def or a lambda that was handed in; a def called with a lambda -/
  | appc (i : Nat) (es : E) | capp (f : Nat) (a b : E) (np : Nat) (caps : List Nat) (body : E) (g : Nat)
  | lrng (a : E) | dsp0 | dsp1 (k v : E) | dget (o k d : E) | dc (t : T) (it kx vx : E) (own : List Nat)
  -- what is walked
  | itm (e : E) | pl (e : E) | rng (a : E) | rng2 (a b : E) | enm (a : E) | zip (a b : E) | zip3 (a b c : E)

/-- data, or the place of a thing that may change, or a lambda of np parameters, its body over them and over what it captured -/
inductive Val where
  | p (d : P) | l (n : Nat) | f (np : Nat) (b : E) (cs : List P)
abbrev Env := List (Option Val)
abbrev Sto := List (Nat × P)
def Sto.get : Sto → Nat → Option P
  | [], _ => none
  | (k, o) :: r, n => if k = n then some o else Sto.get r n
def Sto.put : Sto → Nat → P → Sto
  | [], n, o => [(n, o)]
  | (k, q) :: r, n, o => if k = n then (k, o) :: r else (k, q) :: Sto.put r n o
def Sto.del : Sto → Nat → Sto
  | [], _ => []
  | (k, q) :: r, n => if k = n then Sto.del r n else (k, q) :: Sto.del r n

mutual
/-- as the library's data; what is none of it becomes none (asked ahead by cmpb) -/
def P.toD : P → PyData
  | .non => .none
  | .bl b => .bool b
  | .int i => .int i
  | .str s => .str s
  | .tup ps => .tuple (P.toDs ps)
  | .lst ps => .list (P.toDs ps)
  | _ => .none
def P.toDs : List P → List PyData
  | [] => []
  | p :: ps => P.toD p :: P.toDs ps
end
mutual
/-- may be compared: plain data no deeper than n -/
def P.dep : P → Nat → Bool
  | .non, _ => true
  | .bl _, _ => true
  | .int _, _ => true
  | .str s, _ => PyData.strOk s
  | .tup ps, 0 => false
  | .tup ps, n + 1 => P.deps ps n
  | .lst ps, 0 => false
  | .lst ps, n + 1 => P.deps ps n
  | _, _ => false
def P.deps : List P → Nat → Bool
  | [], _ => true
  | p :: ps, n => P.dep p n && P.deps ps n
end
abbrev LIM : Nat := 60
def P.eqv (a b : P) : Bool := PyData.eqv a.toD b.toD

/-! ### dicts: keys are whole numbers alone, or tuples of such -/
mutual
def P.key : P → Nat → Bool
  | .int _, _ => true
  | .non, _ => true
  | .tup ps, n + 1 => P.keys ps n
  | _, _ => false
def P.keys : List P → Nat → Bool
  | [], _ => true
  | p :: ps, n => P.key p n && P.keys ps n
end
def keyT (a : P) : Bool := match a with
  | .tup ps => P.keys ps 7
  | _ => false
/-- the dict's keys are whole numbers -/
def intKs (ks : List P) : Bool := match ks with
  | .int _ :: _ => true
  | _ => false
def dkOk (ks : List P) (a : P) : Bool := match a with
  | .int _ => intKs ks
  | a => keyT a && !intKs ks
def kHas (ks : List P) (a : P) : Bool := ks.any fun z => P.eqv z a
def kGet : List P → List P → P → Option P
  | k :: ks, v :: vs, a => if P.eqv k a then some v else kGet ks vs a
  | _, _, _ => none
def kPutV (ks vs : List P) (a d : P) : List P := List.zipWith (fun k v => if P.eqv k a then d else v) ks vs
def kPut (ks vs : List P) (a d : P) : P := if kHas ks a = true then .dct ks (kPutV ks vs a d) else .dct (ks ++ [a]) (vs ++ [d])
inductive Res (α : Type) where
  | ok (a : α) (S : Sto)
  | exc (c : Nat) (d : Option P) (S : Sto)
  | stk
def Res.bind {α β : Type} (r : Res α) (f : α → Sto → Res β) : Res β :=
  match r with
  | .ok a S => f a S
  | .exc c d S => .exc c d S
  | .stk => .stk
/-- an option's value, or stuck -/
def Res.of {α : Type} (o : Option α) (S : Sto) : Res α :=
  match o with
  | some a => .ok a S
  | none => .stk

def Val.toP : Val → Option P
  | .p d => some d
  | .l _ => none
  | .f _ _ _ => none
def toPs : List Val → Option (List P)
  | [] => some []
  | v :: vs => match v.toP, toPs vs with
    | some d, some ds => some (d :: ds)
    | _, _ => none
/-- as it stands now -/
def rd (S : Sto) : Val → Option P
  | .p d => some d
  | .l n => S.get n
  | .f _ _ _ => none
def rds (S : Sto) : List Val → Option (List P)
  | [] => some []
  | v :: vs => match rd S v, rds S vs with
    | some d, some ds => some (d :: ds)
    | _, _ => none

/-! ### operations on data -/
def BIG : Nat := 100000
def cmpb (a b : P) : Bool := a.dep LIM && b.dep LIM
def items : P → Option (List P)
  | .tup ps => some ps
  | .lst ps => some ps
  | .wtup ps => some ps
  | _ => none
def isNon : P → Option Bool
  | .non => some true
  | .gl _ => none
  | .fn _ _ => none
  | _ => some false
def isOp : P → P → Option Bool
  | a, .non => isNon a
  | .bl a, .bl b => some (decide (a = b))
  | _, _ => none
def intOp (o : O2) (i j : Int) : Option P :=
  match o with
  | .add => some (.int (i + j))
  | .sub => some (.int (i - j))
  | .mul => if (-(2 ^ 64) < i ∧ i < 2 ^ 64) ∨ (-(2 ^ 64) < j ∧ j < 2 ^ 64) then some (.int (i * j)) else none
  | .fdiv => if 0 < j ∧ j < 1073741824 then some (.int (i / j)) else none
  | .mod => if 0 < j then some (.int (i % j)) else none
  | .pow => if 0 ≤ j ∧ j ≤ 1000 ∧ i.natAbs < 2 ^ 64 then some (.int (i ^ j.toNat)) else none
  | .lt => some (.bl (decide (i < j)))
  | .le => some (.bl (decide (i ≤ j)))
  | .gt => some (.bl (decide (j < i)))
  | .ge => some (.bl (decide (j ≤ i)))
  | _ => none
def arith (o : O2) (a b : P) : Option P :=
  match a, b with
  | .int i, .int j => intOp o i j
  | .str x, .str y => if o = .add ∧ x.length + y.length ≤ BIG then some (.str (x ++ y)) else none
  | .tup xs, .tup ys => if o = .add ∧ xs.length + ys.length ≤ BIG then some (.tup (xs ++ ys)) else none
  | .lst xs, .lst ys => if o = .add ∧ xs.length + ys.length ≤ BIG then some (.lst (xs ++ ys)) else none
  | .tup xs, .int k => if o = .mul ∧ 0 ≤ k ∧ k ≤ 1000 ∧ xs.length ≤ 1000 then some (.tup (List.replicate k.toNat xs).flatten) else none
  | .lst xs, .int k => if o = .mul ∧ 0 ≤ k ∧ k ≤ 1000 ∧ xs.length ≤ 1000 then some (.lst (List.replicate k.toNat xs).flatten) else none
  | _, _ => none
def inOp (a b : P) : Option Bool :=
  match b with
  | .dct ks _ => if dkOk ks a then some (kHas ks a) else none
  | b => match items b with
    | some ys => if cmpb a b then some (ys.any fun z => P.eqv z a) else none
    | none => none
def op2 (o : O2) (a b : P) : Option P :=
  match o with
  | .eq => if cmpb a b then some (.bl (P.eqv a b)) else none
  | .ne => if cmpb a b then some (.bl (!P.eqv a b)) else none
  | .isin => (inOp a b).map .bl
  | .notin => (inOp a b).map fun c => .bl (!c)
  | .is => (isOp a b).map .bl
  | .isnot => (isOp a b).map fun c => .bl (!c)
  | o => arith o a b
def isTy : Ty → P → Option Bool
  | .bool, .bl _ => some true
  | .int, .bl _ => some true
  | .int, .int _ => some true
  | .str, .str _ => some true
  | .list, .lst _ => some true
  | .tuple, .tup _ => some true
  | _, .gl _ => none
  | _, .fn _ _ => none
  | _, .dct _ _ => none
  | _, .set _ => none
  | _, .wtup _ => none
  | _, _ => some false
/-- a[i] -/
def ix (a i : P) : Option P :=
  match a, i with
  | .tup xs, .int j => L2.atI xs j
  | .lst xs, .int j => L2.atI xs j
  | .dct ks vs, k => if dkOk ks k then kGet ks vs k else none
  | _, _ => none
def cut {α : Type} (xs : List α) (lo hi : Option Int) : List α := (xs.drop (HT.sIx xs.length 0 lo)).take (HT.sIx xs.length xs.length hi - HT.sIx xs.length 0 lo)
/-- a[lo:hi] -/
def slc (a : P) (lo hi : Option Int) : Option P :=
  match a with
  | .tup xs => some (.tup (cut xs lo hi))
  | .lst xs => some (.lst (cut xs lo hi))
  | _ => none
def bls : List P → Option (List Bool)
  | [] => some []
  | .bl b :: r => (bls r).map (b :: ·)
  | _ => none
def intsP : List P → Option (List Int)
  | [] => some []
  | .int i :: r => (intsP r).map (i :: ·)
  | _ => none
def bi (b : B) (as : List P) : Option P :=
  match b, as with
  | .len, [.tup xs] => some (.int xs.length)
  | .len, [.lst xs] => some (.int xs.length)
  | .tuple, [.tup xs] => some (.tup xs)
  | .tuple, [.lst xs] => some (.tup xs)
  | .list, [.tup xs] => some (.lst xs)
  | .list, [.lst xs] => some (.lst xs)
  | .all, [.lst xs] => (bls xs).map fun bs => .bl (bs.all id)
  | .any, [.lst xs] => (bls xs).map fun bs => .bl (bs.any id)
  | .sum, [.lst xs] => (intsP xs).map fun ns => .int ns.sum
  | .sum, [.tup xs] => (intsP xs).map fun ns => .int ns.sum
  | .int, [.int i] => some (.int i)
  | .int, [.bl b] => some (.int (if b then 1 else 0))
  | _, _ => none

/-! ### expressions -/
mutual
def T.bind : T → P → Env → Option Env
  | .nm i, d, env => some (env.set i (some (.p d)))
  | .tp ts, d, env => match items d with
    | some ds => T.binds ts ds env
    | none => none
  | .tnil, _, _ => none
  | .tcons _ _, _, _ => none
def T.binds : T → List P → Env → Option Env
  | .tnil, ds, env => match ds with
    | [] => some env
    | _ :: _ => none
  | .tcons t ts, ds, env => match ds with
    | [] => none
    | d :: ds => match T.bind t d env with
      | some e' => T.binds ts ds e'
      | none => none
  | .nm _, _, _ => none
  | .tp _, _, _ => none
end

/-! ### calls: what is handed over is numbered anew -/
def addL (l : List Nat) (n : Nat) : List Nat := if n ∈ l then l else l ++ [n]
def locsV : List Val → List Nat → List Nat
  | [], l => l
  | .p _ :: r, l => locsV r l
  | .l n :: r, l => locsV r (addL l n)
  | .f _ _ _ :: r, l => locsV r l
def at0 (ls : List Nat) (n : Nat) : Nat := match ls with
  | [] => 0
  | k :: r => if k = n then 0 else at0 r n + 1
def renV (ls : List Nat) : Val → Val
  | .p d => .p d
  | .l n => .l (at0 ls n)
  | .f np b cs => .f np b cs
def handS (S : Sto) : List Nat → Nat → Option Sto
  | [], _ => some []
  | n :: r, i => match S.get n, handS S r (i + 1) with
    | some o, some S' => some ((i, o) :: S')
    | _, _ => none
def backS (S' : Sto) : List Nat → Nat → Sto → Option Sto
  | [], _, S => some S
  | n :: r, i, S => match S'.get i with
    | some o => backS S' r (i + 1) (S.put n o)
    | none => none
abbrev Hd := Val → List Val → Sto → Res Val
def backR (ls : List Nat) (S : Sto) (r : Res Val) : Res Val :=
  match r with
  | .stk => .stk
  | .exc c d S' => match backS S' ls 0 S with
    | some S2 => .exc c d S2
    | none => .stk
  | .ok v S' => match backS S' ls 0 S with
    | some S2 => match v with
      | .p d => .ok (.p d) S2
      | .l i => match ls[i]? with
        | some n => .ok (.l n) S2
        | none => .stk
      | .f _ _ _ => .stk
    | none => .stk
def callV (h : Hd) (f : Val) (as : List Val) (S : Sto) : Res Val :=
  match handS S (locsV (f :: as) []) 0 with
  | some S0 => backR (locsV (f :: as) []) S (h (renV (locsV (f :: as) []) f) (as.map (renV (locsV (f :: as) []))) S0)
  | none => .stk

/-! ### what an expression comes to -/
def wipeE (env : Env) : List Nat → Env
  | [] => env
  | v :: vs => (wipeE env vs).set v none
def lcGo (f : P → Sto → Res (Option P)) : List P → List P → Sto → Res (List P)
  | [], acc, S => .ok acc S
  | x :: xs, acc, S => match f x S with
    | .ok (some y) S1 => lcGo f xs (acc ++ [y]) S1
    | .ok none S1 => lcGo f xs acc S1
    | _ => .stk
def dcGo (f : P → Sto → Res (P × P)) : List P → List P → List P → Sto → Res (List P × List P)
  | [], ks, vs, S => .ok (ks, vs) S
  | x :: xs, ks, vs, S => match f x S with
    | .ok (k, v) S1 => if keyT k = true ∧ ks.length < BIG then match kPut ks vs k v with
      | .dct ks' vs' => dcGo f xs ks' vs' S1
      | _ => .stk
      else .stk
    | _ => .stk
def enumP : Nat → List P → List P
  | _, [] => []
  | i, x :: xs => .wtup [.int i, x] :: enumP (i + 1) xs
def zipP : List P → List P → List P
  | x :: xs, y :: ys => .wtup [x, y] :: zipP xs ys
  | _, _ => []
def zip3P : List P → List P → List P → List P
  | x :: xs, y :: ys, z :: zs => .wtup [x, y, z] :: zip3P xs ys zs
  | _, _, _ => []
def rangeP (lo : Int) : Nat → List P
  | 0 => []
  | n + 1 => .int lo :: rangeP (lo + 1) n
def capsOf (env : Env) : List Nat → Option (List P)
  | [] => some []
  | i :: r => match env[i]?, capsOf env r with
    | some (some (.p d)), some cs => some (d :: cs)
    | _, _ => none
/-- what is got of a call with data alone -/
def Res.cl (S : Sto) (r : Res Val) : Res Val := match r with
  | .ok (.p d) _ => .ok (.p d) S
  | .exc c d _ => .exc c d S
  | _ => .stk
def metP (m : Mt) (a : P) (as : List P) : Option P :=
  match m, a, as with
  | .index, .lst xs, [y] => if cmpb a y then (xs.findIdx? fun z => P.eqv z y).map fun i => .int i else none
  | .count, .lst xs, [.int k] => (intsP xs).map fun ns => .int (ns.count k)
  | _, _, _ => none
def metV (m : Mt) (o : Val) (as : List Val) (S : Sto) : Res Val :=
  match toPs as with
  | none => .stk
  | some ds => match m with
    | .append => match o, ds with
      | .l n, [d] => match S.get n with
        | some (.lst xs) => if xs.length < BIG then .ok (.p .non) (S.put n (.lst (xs ++ [d]))) else .stk
        | _ => .stk
      | _, _ => .stk
    | .pop => match o, ds with
      | .l n, [] => match S.get n with
        | some (.lst xs) => match xs.getLast? with
          | some d => .ok (.p d) (S.put n (.lst xs.dropLast))
          | none => .stk
        | _ => .stk
      | _, _ => .stk
    | m => match rd S o with
      | some a => (Res.of (metP m a ds) S).bind fun d S => .ok (.p d) S
      | none => .stk
structure Prog where
  glb : Nat → P
  ar : Nat → Option Nat
  /-- .. of defs that may be called where a lambda was handed in -/
  arc : Nat → Option Nat
  kin : Nat → Option (Str × Bool)
mutual
def ev (G : Prog) (h : Hd) : E → Env → Sto → Res Val
  | .cst d, _, S => .ok (.p d) S
  | .var i, env, S => match env[i]? with
    | some (some v) => .ok v S
    | _ => .stk
  | .glb g, _, S => .ok (.p (G.glb g)) S
  | .op o a b, env, S => (ev G h a env S).bind fun x S => (ev G h b env S).bind fun y S =>
    match rd S x, rd S y with
    | some x, some y => (Res.of (op2 o x y) S).bind fun d S => .ok (.p d) S
    | _, _ => .stk
  | .neg a, env, S => (ev G h a env S).bind fun x S => match x with
    | .p (.int i) => .ok (.p (.int (-i))) S
    | _ => .stk
  | .chain o1 o2 a b c, env, S => (ev G h a env S).bind fun x S => (ev G h b env S).bind fun y S =>
    match x, y with
    | .p x, .p y => match arith o1 x y with
      | some (.bl true) => (ev G h c env S).bind fun z S => match z with
        | .p z => match arith o2 y z with
          | some (.bl r) => .ok (.p (.bl r)) S
          | _ => .stk
        | _ => .stk
      | some (.bl false) => .ok (.p (.bl false)) S
      | _ => .stk
    | _, _ => .stk
  | .and es, env, S => evAO G h true es env S
  | .or es, env, S => evAO G h false es env S
  | .not a, env, S => (ev G h a env S).bind fun x S => match x with
    | .p (.bl b) => .ok (.p (.bl (!b))) S
    | _ => .stk
  | .ite c a b, env, S => (ev G h c env S).bind fun x S => match x with
    | .p (.bl true) => ev G h a env S
    | .p (.bl false) => ev G h b env S
    | _ => .stk
  | .tup es, env, S => (evs G h es env S).bind fun vs S => match toPs vs with
    | some ds => if ds.length ≤ BIG then .ok (.p (.tup ds)) S else .stk
    | none => .stk
  | .lst es, env, S => (evs G h es env S).bind fun vs S => match toPs vs with
    | some ds => if ds.length ≤ BIG then .ok (.p (.lst ds)) S else .stk
    | none => .stk
  | .idx a i, env, S => (ev G h a env S).bind fun x S => (ev G h i env S).bind fun y S =>
    match rd S x, y with
    | some a, .p i => (Res.of (ix a i) S).bind fun d S => .ok (.p d) S
    | _, _ => .stk
  | .slc a lo hi, env, S => (ev G h a env S).bind fun x S => (evO G h lo env S).bind fun l S => (evO G h hi env S).bind fun u S =>
    match rd S x with
    | some a => (Res.of (slc a l u) S).bind fun d S => .ok (.p d) S
    | none => .stk
  | .rev a, env, S => (ev G h a env S).bind fun x S => match rd S x with
    | some (.tup xs) => .ok (.p (.tup xs.reverse)) S
    | some (.lst xs) => .ok (.p (.lst xs.reverse)) S
    | _ => .stk
  | .call f es, env, S => (evs G h es env S).bind fun vs S => callV h (.p (.gl f)) vs S
  | .app f es, env, S => (ev G h f env S).bind fun v S => match v with
    | .p (.gl g) => match G.ar g with
      | some n => (evs G h es env S).bind fun vs S => if vs.length = n then callV h (.p (.gl g)) vs S else .stk
      | none => .stk
    | _ => .stk
  | .tryl e, env, S => match ev G h e env S with
    | .ok v S => match v.toP with
      | some d => .ok (.p (.tup [.str "told", d])) S
      | none => .stk
    | .exc c d S => match G.kin c, d with
      | some (w, false), none => .ok (.p (.str w)) S
      | some (w, true), some d => .ok (.p (.tup [.str w, d])) S
      | _, _ => .stk
    | .stk => .stk
  | .bi b es, env, S => (evs G h es env S).bind fun vs S => match rds S vs with
    | some ds => (Res.of (bi b ds) S).bind fun d S => .ok (.p d) S
    | none => .stk
  | .met m o es, env, S => (ev G h o env S).bind fun x S => match rd S x with
    | some (.lst _) => (evs G h es env S).bind fun vs S => metV m x vs S
    | _ => .stk
  | .cnt o a, env, S => (ev G h o env S).bind fun x S => match x with
    | .p (.tup xs) => (ev G h a env S).bind fun v S => match v with
      | .p d => if cmpb (.tup xs) d then .ok (.p (.int (xs.countP fun z => P.eqv z d))) S else .stk
      | _ => .stk
    | _ => .stk
  | .isi a tys, env, S => (ev G h a env S).bind fun x S => match rd S x with
    | some d => match tys.mapM (fun t => isTy t d) with
      | some bs => .ok (.p (.bl (bs.any id))) S
      | none => .stk
    | none => .stk
  | .lc t it c elt own, env, S => (evI G h it env S).bind fun xs S =>
    (lcGo (fun x S => match T.bind t x (wipeE env own) with
      | some e' => (ev G h c e' S).bind fun b S => match b with
        | .p (.bl true) => (ev G h elt e' S).bind fun v S => match v.toP with
          | some d => .ok (some d) S
          | none => .stk
        | .p (.bl false) => .ok none S
        | _ => .stk
      | none => .stk) xs [] S).bind fun ds S => if ds.length ≤ BIG then .ok (.p (.lst ds)) S else .stk
  | .appc i es, env, S => match env[i]? with
    | some (some (.p (.gl g))) => match G.arc g with
      | some n => (evs G h es env S).bind fun vs S => if vs.length = n then callV h (.p (.gl g)) vs S else .stk
      | none => .stk
    | some (some (.f np b cs)) => (evs G h es env S).bind fun vs S => match toPs vs with
      | some ds => if ds.length = np then (h (.f np b cs) (ds.map .p) []).cl S else .stk
      | none => .stk
    | _ => .stk
  | .capp f a b np caps body g, env, S => (ev G h a env S).bind fun x S => (ev G h b env S).bind fun y S => match x.toP, y.toP, capsOf env caps with
    | some x, some y, some cs => (h (.p (.gl f)) [.p x, .p y, .f np body cs, .p (G.glb g)] []).cl S
    | _, _, _ => .stk
  | .lrng a, env, S => (ev G h a env S).bind fun v S => match v with
    | .p (.int j) => if -1000 ≤ j ∧ j ≤ BIG then .ok (.p (.lst (rangeP 0 j.toNat))) S else .stk
    | _ => .stk
  | .dsp0, _, S => .ok (.p (.dct [] [])) S
  | .dsp1 k v, env, S => (ev G h k env S).bind fun x S => (ev G h v env S).bind fun y S => match x.toP, y.toP with
    | some k, some v => if keyT k = true ∨ intKs [k] = true then .ok (.p (.dct [k] [v])) S else .stk
    | _, _ => .stk
  | _, _, _ => .stk
/-- and (c = true), or (c = false) -/
def evAO (G : Prog) (h : Hd) (c : Bool) : E → Env → Sto → Res Val
  | .cons a es, env, S => (ev G h a env S).bind fun x S => match x with
    | .p (.bl b) => match es with
      | .nil => .ok (.p (.bl b)) S
      | es => if b = c then evAO G h c es env S else .ok (.p (.bl b)) S
    | _ => .stk
  | _, _, _ => .stk
def evs (G : Prog) (h : Hd) : E → Env → Sto → Res (List Val)
  | .nil, _, S => .ok [] S
  | .cons a es, env, S => (ev G h a env S).bind fun v S => (evs G h es env S).bind fun vs S => .ok (v :: vs) S
  | _, _, _ => .stk
def evO (G : Prog) (h : Hd) : E → Env → Sto → Res (Option Int)
  | .nil, _, S => .ok none S
  | .pl a, env, S => (ev G h a env S).bind fun v S => match v with
    | .p (.int i) => .ok (some i) S
    | _ => .stk
  | _, _, _ => .stk
def evI (G : Prog) (h : Hd) : E → Env → Sto → Res (List P)
  | .pl a, env, S => (ev G h a env S).bind fun v S => match v with
    | .p d => Res.of (items d) S
    | _ => .stk
  | .rng a, env, S => (ev G h a env S).bind fun v S => match v with
    | .p (.int j) => if -1000 ≤ j ∧ j ≤ BIG then .ok (rangeP 0 j.toNat) S else .stk
    | _ => .stk
  | .enm a, env, S => (ev G h a env S).bind fun v S => match v with
    | .p d => (Res.of (items d) S).bind fun xs S => .ok (enumP 0 xs) S
    | _ => .stk
  | .zip a b, env, S => (ev G h a env S).bind fun v S => (ev G h b env S).bind fun w S => match v, w with
    | .p (.lst xs), .p (.lst ys) => .ok (zipP xs ys) S
    | .p (.tup xs), .p (.tup ys) => .ok (zipP xs ys) S
    | _, _ => .stk
  | .zip3 a b c, env, S => (ev G h a env S).bind fun v S => (ev G h b env S).bind fun w S => (ev G h c env S).bind fun u S => match v, w, u with
    | .p (.lst xs), .p (.lst ys), .p (.lst zs) => .ok (zip3P xs ys zs) S
    | _, _, _ => .stk
  | _, _, _ => .stk
end

/-! ### statements -/
/-- makes a dict -/
def isDk : E → Bool
  | .dsp0 => true
  | .dsp1 _ _ => true
  | .dc _ _ _ _ _ => true
  | _ => false
/-- what a maker makes: a list, or a dict -/
def mkP (e : E) (d : P) : Bool := match d with
  | .lst _ => !isDk e
  | .dct _ _ => isDk e
  | _ => false
/-- c[j] = d -/
def sidxP (c j d : P) : Option P := match c with
  | .lst xs => match j with
    | .int j => (L2.ixN xs.length j).map fun k => .lst (xs.set k d)
    | _ => none
  | .dct ks vs => if dkOk ks j = true ∧ ks.length < BIG then some (kPut ks vs j d) else none
  | _ => none
inductive PL where
  | nil | e (i : Nat) (e : E) (r : PL) | a (i n : Nat) (e : E) (r : PL)
inductive S where
  | nil | seq (a b : S)
  | set (i : Nat) (e : E) | setA (i n : Nat) (e : E) | setC (i n : Nat) (f : Nat) (es : E)
  | asg (t : T) (e : E) | par (xs : PL)
  | sidx (o i v : E) | aug (i : Nat) (o : O2) (e : E)
  | expr (e : E) | ret (e : E) | retn | ite (c : E) (a b : S)
  | floop (t : T) (it : E) (body : S) | wloop (c : E) (body : S)
  | frzv (i : Nat) | retA (n : Nat) (e : E) | rais (c : Nat) | raisF (c : Nat) (e : E) | doc | brk | cnt | stk
inductive SR where
  | nx (env : Env) (S : Sto) | ret (v : Val) (S : Sto) | bk (env : Env) (S : Sto) | ct (env : Env) (S : Sto)
  | exc (c : Nat) (d : Option P) (S : Sto) | stk
def SR.of {α : Type} (r : Res α) (f : α → Sto → SR) : SR :=
  match r with
  | .ok a S => f a S
  | .exc c d S => .exc c d S
  | .stk => .stk
def clearE (n : Nat) : Env → Env
  | [] => []
  | (some (.l k)) :: r => (if k = n then none else some (.l k)) :: clearE n r
  | x :: r => x :: clearE n r
def frzE (n : Nat) (d : P) : Env → Env
  | [] => []
  | (some (.l k)) :: r => (if k = n then some (.p d) else some (.l k)) :: frzE n d r
  | x :: r => x :: frzE n d r
def forGo (f : P → Env → Sto → SR) : List P → Env → Sto → SR
  | [], env, S => .nx env S
  | x :: xs, env, S => match f x env S with
    | .nx e S => forGo f xs e S
    | .ct e S => forGo f xs e S
    | .bk e S => .nx e S
    | r => r
def whileGo (c : Env → Sto → Res Val) (f : Env → Sto → SR) : Nat → Env → Sto → SR
  | 0, _, _ => .stk
  | n + 1, env, S => SR.of (c env S) fun v S => match v with
    | .p (.bl true) => match f env S with
      | .nx e S => whileGo c f n e S
      | .ct e S => whileGo c f n e S
      | .bk e S => .nx e S
      | r => r
    | .p (.bl false) => .nx env S
    | _ => .stk
def FUEL : Nat := 1000000
def evPL (G : Prog) (h : Hd) : PL → Env → Sto → Res (List Val)
  | .nil, _, S => .ok [] S
  | .e _ e r, env, S => (ev G h e env S).bind fun v S => (evPL G h r env S).bind fun vs S => .ok (v :: vs) S
  | .a _ _ e r, env, S => (ev G h e env S).bind fun v S => match v with
    | .p d => if mkP e d = true then (evPL G h r env S).bind fun vs S => .ok (.p d :: vs) S else .stk
    | _ => .stk
def stPL : PL → List Val → Env → Sto → Option (Env × Sto)
  | .nil, vs, env, S => match vs with
    | [] => some (env, S)
    | _ => none
  | .e i _ r, vs, env, S => match vs with
    | v :: vs => stPL r vs (env.set i (some v)) S
    | [] => none
  | .a i n e r, vs, env, S => match vs with
    | .p d :: vs => match stPL r vs env S with
      | some (env, S) => if mkP e d = true then some ((clearE n env).set i (some (.l n)), S.put n d) else none
      | none => none
    | _ => none
def augI (o : O2) (x y : Int) : Option Int := match o with
  | .add => some (x + y)
  | .sub => some (x - y)
  | _ => none
def ex (G : Prog) (h : Hd) : S → Env → Sto → SR
  | .nil, env, S => .nx env S
  | .seq a b, env, S => match ex G h a env S with
    | .nx e S => ex G h b e S
    | r => r
  | .set i e, env, S => SR.of (ev G h e env S) fun v S => .nx (env.set i (some v)) S
  | .setA i n e, env, S => SR.of (ev G h e env S) fun v S => match v with
    | .p d => if mkP e d = true then .nx ((clearE n env).set i (some (.l n))) (S.put n d) else .stk
    | _ => .stk
  | .setC i n f es, env, S => SR.of (evs G h es env S) fun vs S =>
    match handS S (locsV vs []) 0 with
    | some S0 => match h (.p (.gl f)) (vs.map (renV (locsV vs []))) S0 with
      | .ok (.l k) S' => match backS S' (locsV vs []) 0 S, S'.get k with
        | some S2, some o => if (locsV vs []).length ≤ k then .nx ((clearE n env).set i (some (.l n))) (S2.put n o) else .stk
        | _, _ => .stk
      | .exc c d S' => match backS S' (locsV vs []) 0 S with
        | some S2 => .exc c d S2
        | none => .stk
      | _ => .stk
    | none => .stk
  | .asg t e, env, S => SR.of (ev G h e env S) fun v S => match v with
    | .p d => match T.bind t d env with
      | some e' => .nx e' S
      | none => .stk
    | _ => .stk
  | .par xs, env, S => SR.of (evPL G h xs env S) fun vs S => match stPL xs vs env S with
    | some (e', S') => .nx e' S'
    | none => .stk
  | .sidx o i v, env, S => SR.of (ev G h v env S) fun v S => SR.of (ev G h o env S) fun o S => SR.of (ev G h i env S) fun i S =>
    match v, o, i with
    | .p d, .l n, .p j => match S.get n with
      | some c => match sidxP c j d with
        | some c' => .nx env (S.put n c')
        | none => .stk
      | none => .stk
    | _, _, _ => .stk
  | .aug i o e, env, S => match env[i]? with
    | some (some (.p (.int x))) => SR.of (ev G h e env S) fun y S => match y with
      | .p (.int y) => match augI o x y with
        | some z => .nx (env.set i (some (.p (.int z)))) S
        | none => .stk
      | _ => .stk
    | _ => .stk
  | .expr e, env, S => SR.of (ev G h e env S) fun _ S => .nx env S
  | .ret e, env, S => SR.of (ev G h e env S) fun v S => .ret v S
  | .retn, env, S => .ret (.p .non) S
  | .ite c a b, env, S => SR.of (ev G h c env S) fun v S => match v with
    | .p (.bl true) => ex G h a env S
    | .p (.bl false) => ex G h b env S
    | _ => .stk
  | .floop t it body, env, S => SR.of (evI G h it env S) fun xs S =>
    forGo (fun x env S => match T.bind t x env with
      | some e' => ex G h body e' S
      | none => .stk) xs env S
  | .wloop c body, env, S => whileGo (fun env S => ev G h c env S) (fun env S => ex G h body env S) FUEL env S
  | .frzv i, env, S => match env[i]? with
    | some (some (.l n)) => if 100 ≤ n then match S.get n with
      | some d => .nx (frzE n d env) (S.del n)
      | none => .stk
      else .stk
    | some (some (.p _)) => .nx env S
    | _ => .stk
  | .retA n e, env, S => SR.of (ev G h e env S) fun v S => match v with
    | .p d => if mkP e d = true then .ret (.l n) (S.put n d) else .stk
    | _ => .stk
  | .rais c, _, S => .exc c none S
  | .raisF c e, env, S => SR.of (ev G h e env S) fun v S => match v with
    | .p d => .exc c (some d) S
    | _ => .stk
  | .doc, env, S => .nx env S
  | .brk, env, S => .bk env S
  | .cnt, env, S => .ct env S
  | .stk, _, _ => .stk

/-! ### defs -/
structure FD where
  np : Nat
  nl : Nat
  body : S
structure LD where
  caps : List Nat
  ps : List Nat
  n : Nat
  body : E
structure Pg extends Prog where
  fn : Nat → Option FD
  lam : Nat → Option LD
  prim : Nat → Option (Hd → List Val → Sto → Res Val)
/-- what comes back: a list that was filled here is now a list; one that was handed in stays itself -/
def retR (np : Nat) (r : SR) : Res Val :=
  match r with
  | .nx _ S => .ok (.p .non) S
  | .ret v S => match v with
    | .p d => .ok (.p d) S
    | .l n => .ok (.l n) S
    | .f _ _ _ => .stk
  | .exc c d S => .exc c d S
  | _ => .stk
def callF (G : Pg) : Nat → Hd
  | 0, _, _, _ => .stk
  | k + 1, .p (.gl f), as, S => match G.prim f with
    | some p => p (callF G k) as S
    | none => match G.fn f with
      | some fd => if as.length = fd.np ∧ (S.all fun p => decide (p.1 < 100)) = true then retR fd.np (ex G.toProg (callF G k) fd.body (as.map some ++ List.replicate fd.nl none) S) else .stk
      | none => .stk
  | k + 1, .f np b cs, as, S => if as.length = np ∧ S.isEmpty = true then ev G.toProg (callF G k) b (as.map some ++ cs.map fun d => some (.p d)) [] else .stk
  | _ + 1, _, _, _ => .stk
end Hb

/-! How data lies in the heap. -/
namespace Hb
open PySem PySem.Spec PyProof.Rows L2

/-- a lambda that was handed in: its text, its cells, its code object; what it captured -/
structure Clo where
  np : Nat
  b : E
  ds : List P
  ws : List V
  q : Str
  ps : List Str
  fr : List Str
  params : Arguments
  body : Expr
  sc : Scope
  cl : List (Str × Addr)
  c : Addr
structure Gm where
  K : PySem.W.Frag
  mg : Str → Option Value
  gnm : Nat → Str
  T : List (Addr × Str)
  cl : Addr → Option Clo

/-- a list that stands still for ever -/
def SqF (K : PySem.W.Frag) (H : Hp) (a : Addr) (xs : List V) : Prop :=
  (∃ o, H a = some (.frz o (.lst xs))) ∨
    ∃ (o : Obj) (its : Array Value) (n : Nat), K.lookup a = some o ∧ o.cls = .type "list" ∧ o.dict = none ∧ o.data = .seq its n ∧ its.size ≤ sizeLine ∧ Vals xs its.toList
theorem SqF.sql {K : PySem.W.Frag} {H : Hp} {a : Addr} {xs : List V} (h : SqF K H a xs) : SqL K H a xs := by
  rcases h with h | h
  · exact .inl (.inr h)
  · exact .inr h
/-- a tuple of this run: it has no dict -/
def SqC (H : Hp) (a : Addr) (xs : List V) : Prop := ∃ o, H a = some (.frz o (.tup xs)) ∧ o.dict = none
theorem SqC.sqt {K : PySem.W.Frag} {H : Hp} {a : Addr} {xs : List V} (h : SqC H a xs) : SqT K H a xs := let ⟨o, h, _⟩ := h; .inl (.inr ⟨o, h⟩)
/-! ### dicts with keys that are tuples: what is true of the object, by addresses -/
mutual
def khash : NestedKey → Int
  | .none => reduceHash 0xFCA86420
  | .num i => hashInt i
  | .text _ => 0
  | .tup ks => reduceHash (Builtin.Tuple.tupleHashOf (khashes ks))
def khashes : List NestedKey → List Int
  | [] => []
  | k :: ks => khash k :: khashes ks
end
mutual
def keyNK : P → NestedKey
  | .int i => .num i
  | .tup ps => .tup (keysNK ps)
  | _ => .none
def keysNK : List P → List NestedKey
  | [] => []
  | p :: ps => keyNK p :: keysNK ps
end
mutual
theorem khash_eq (w : World) : ∀ (d : P) (n : Nat), d.key n = true → NestedKey.hash w (keyNK d) = khash (keyNK d)
  | .int _, _, _ => rfl
  | .non, _, _ => rfl
  | .tup ps, 0, h => by simp [P.key] at h
  | .tup ps, n + 1, h => by
    simp only [P.key] at h
    show reduceHash (Builtin.Tuple.tupleHashOf (NestedKey.hashes w (keysNK ps))) = reduceHash (Builtin.Tuple.tupleHashOf (khashes (keysNK ps)))
    rw [khashes_eq w ps n h]
  | .bl _, _, h => by simp [P.key] at h
  | .str _, _, h => by simp [P.key] at h
  | .lst _, _, h => by simp [P.key] at h
  | .dct _ _, _, h => by simp [P.key] at h
  | .set _, _, h => by simp [P.key] at h
  | .gl _, _, h => by simp [P.key] at h
  | .fn _ _, _, h => by simp [P.key] at h
  | .wtup _, _, h => by simp [P.key] at h
theorem khashes_eq (w : World) : ∀ (ds : List P) (n : Nat), P.keys ds n = true → NestedKey.hashes w (keysNK ds) = khashes (keysNK ds)
  | [], _, _ => rfl
  | d :: ds, n, h => by
    simp only [P.keys, Bool.and_eq_true] at h
    show NestedKey.hash w (keyNK d) :: NestedKey.hashes w (keysNK ds) = khash (keyNK d) :: khashes (keysNK ds)
    rw [khash_eq w d n h.1, khashes_eq w ds n h.2]
end
mutual
theorem kdepth : ∀ (d : P) (n : Nat), d.key n = true → (keyNK d).depth ≤ n
  | .int _, _, _ => Nat.zero_le _
  | .non, _, _ => Nat.zero_le _
  | .tup ps, 0, h => by simp [P.key] at h
  | .tup ps, n + 1, h => by
    simp only [P.key] at h
    have := kdepths ps n h
    show NestedKey.depthAll (keysNK ps) + 1 ≤ n + 1
    omega
  | .bl _, _, h => by simp [P.key] at h
  | .str _, _, h => by simp [P.key] at h
  | .lst _, _, h => by simp [P.key] at h
  | .dct _ _, _, h => by simp [P.key] at h
  | .set _, _, h => by simp [P.key] at h
  | .gl _, _, h => by simp [P.key] at h
  | .fn _ _, _, h => by simp [P.key] at h
  | .wtup _, _, h => by simp [P.key] at h
theorem kdepths : ∀ (ds : List P) (n : Nat), P.keys ds n = true → NestedKey.depthAll (keysNK ds) ≤ n
  | [], _, _ => Nat.zero_le _
  | d :: ds, n, h => by
    simp only [P.keys, Bool.and_eq_true] at h
    have h1 := kdepth d n h.1
    have h2 := kdepths ds n h.2
    show max (keyNK d).depth (NestedKey.depthAll (keysNK ds)) ≤ n
    omega
end
mutual
theorem eqv_key : ∀ (a b : P) (n m : Nat), a.key n = true → b.key m = true → P.eqv a b = NestedKey.beq (keyNK a) (keyNK b)
  | .int i, b, n, m, ha, hb => by
    cases b <;> simp only [P.key, Bool.false_eq_true] at hb <;> first | rfl | skip
    all_goals simp [P.eqv, P.toD, PyData.eqv, keyNK, NestedKey.beq]
  | .non, b, n, m, ha, hb => by
    cases b <;> simp only [P.key, Bool.false_eq_true] at hb <;> first | rfl | skip
    all_goals simp [P.eqv, P.toD, PyData.eqv, keyNK, NestedKey.beq]
  | .tup ps, b, 0, m, ha, hb => by simp [P.key] at ha
  | .tup ps, b, n + 1, m, ha, hb => by
    simp only [P.key] at ha
    cases b with
    | tup qs =>
      cases m with
      | zero => simp [P.key] at hb
      | succ m =>
        simp only [P.key] at hb
        show PyData.eqv (.tuple (P.toDs ps)) (.tuple (P.toDs qs)) = NestedKey.beqAll (keysNK ps) (keysNK qs)
        rw [← eqvs_key ps qs n m ha hb]
        simp [PyData.eqv]
    | int i => simp [P.eqv, P.toD, PyData.eqv, keyNK, NestedKey.beq]
    | non => simp [P.eqv, P.toD, PyData.eqv, keyNK, NestedKey.beq]
    | _ => simp [P.key] at hb
  | .bl _, _, _, _, h, _ => by simp [P.key] at h
  | .str _, _, _, _, h, _ => by simp [P.key] at h
  | .lst _, _, _, _, h, _ => by simp [P.key] at h
  | .dct _ _, _, _, _, h, _ => by simp [P.key] at h
  | .set _, _, _, _, h, _ => by simp [P.key] at h
  | .gl _, _, _, _, h, _ => by simp [P.key] at h
  | .fn _ _, _, _, _, h, _ => by simp [P.key] at h
  | .wtup _, _, _, _, h, _ => by simp [P.key] at h
theorem eqvs_key : ∀ (as bs : List P) (n m : Nat), P.keys as n = true → P.keys bs m = true → PyData.eqvAll (P.toDs as) (P.toDs bs) = NestedKey.beqAll (keysNK as) (keysNK bs)
  | [], [], _, _, _, _ => by simp [P.toDs, PyData.eqvAll, keysNK, NestedKey.beqAll]
  | [], _ :: _, _, _, _, _ => by simp [P.toDs, PyData.eqvAll, keysNK, NestedKey.beqAll]
  | _ :: _, [], _, _, _, _ => by simp [P.toDs, PyData.eqvAll, keysNK, NestedKey.beqAll]
  | a :: as, b :: bs, n, m, ha, hb => by
    simp only [P.keys, Bool.and_eq_true] at ha hb
    have h1 := eqv_key a b n m ha.1 hb.1
    simp only [P.eqv] at h1
    simp only [P.toDs, PyData.eqvAll, keysNK, NestedKey.beqAll, h1, eqvs_key as bs n m ha.2 hb.2]
end
theorem keyT_key {a : P} (h : keyT a = true) : a.key 8 = true := by
  unfold keyT at h
  split at h
  · simpa only [P.key] using h
  · cases h
theorem eqv_keyT {a b : P} (ha : keyT a = true) (hb : keyT b = true) : P.eqv a b = decide (keyNK a = keyNK b) := by
  rw [NestedKey.decide_eq]
  exact eqv_key a b 8 8 (keyT_key ha) (keyT_key hb)
def entK (x : NestedKey × Addr × Value) : DictEntry := ⟨khash x.1, .ref x.2.1, x.2.2⟩
def DN (xs : List (NestedKey × Addr × Value)) (a : Addr) (h : Heap) : Prop :=
  ∃ o es ep, h.get? a = some o ∧ o.ExactDict ∧ o.data = .dict es ep ∧ es.toList = xs.map entK ∧ (xs.map (·.1)).Nodup ∧ xs.length ≤ sizeLine ∧ (a == sysModules) = false
section
variable (Γ : Gm)
mutual
def Rep (H : Hp) : P → V → Prop
  | .non, x => x = .non
  | .bl b, x => x = .bl b
  | .int i, x => x = .int i
  | .str s, x => x = .str s
  | .tup ps, x => ∃ a xs, x = .ref a ∧ SqC H a xs ∧ Reps H ps xs
  | .wtup ps, x => ∃ a xs, x = .ref a ∧ SqT Γ.K H a xs ∧ Reps H ps xs
  | .lst ps, x => ∃ a xs, x = .ref a ∧ SqF Γ.K H a xs ∧ Reps H ps xs
  | .gl g, x => ∃ u, Γ.mg (Γ.gnm g) = some u ∧ RelV x u
  | .dct ks vs, x => (∃ a ob xs zs, x = .ref a ∧ H a = some (.frz ob (.ext (DN xs a))) ∧ ks.all keyT = true ∧ xs.map (·.1) = ks.map keyNK ∧ Reps H ks (xs.map fun p => .ref p.2.1) ∧ Reps H vs zs ∧ Vals zs (xs.map (·.2.2))) ∨
    ∃ a ob kvs ns, x = .ref a ∧ H a = some (.frz ob (.dK kvs)) ∧ intsP ks = some ns ∧ kvs.map (·.1) = ns.map Sum.inl ∧ ns ≠ [] ∧ Reps H vs (kvs.map (·.2))
  | .set _, _ => False
  | .fn _ _, _ => False
def Reps (H : Hp) : List P → List V → Prop
  | [], xs => xs = []
  | p :: ps, xs => ∃ y ys, xs = y :: ys ∧ Rep H p y ∧ Reps H ps ys
end
/-- a dict's keys and values -/
def KT (H : Hp) (ks vs : List P) (xs : List (NestedKey × Addr × Value)) : Prop := ∃ zs, ks.all keyT = true ∧ xs.map (·.1) = ks.map keyNK ∧ Reps Γ H ks (xs.map fun p => .ref p.2.1) ∧ Reps Γ H vs zs ∧ Vals zs (xs.map (·.2.2))
def KI (H : Hp) (ks vs : List P) (kvs : List (Key × V)) : Prop := ∃ ns, intsP ks = some ns ∧ kvs.map (·.1) = ns.map Sum.inl ∧ ns ≠ [] ∧ Reps Γ H vs (kvs.map (·.2))
/-- what stands at a, of a thing that may change -/
def CRep (H : Hp) (d : P) (o : HO) (a : Addr) : Prop := match d with
  | .lst ps => ∃ xs, o = .lst xs ∧ Reps Γ H ps xs
  | .dct ks vs => (∃ xs, o = .ext (DN xs a) ∧ KT Γ H ks vs xs) ∨ ∃ kvs, o = .dK kvs ∧ KI Γ H ks vs kvs
  | _ => False
/-- as it stands now: a list may be one that changes later -/
def RRep (H : Hp) (d : P) (x : V) : Prop := Rep Γ H d x ∨ ∃ a o, x = .ref a ∧ H a = some o ∧ CRep Γ H d o a
end
/-- what may change -/
def MutC (o : HO) (a : Addr) : Prop := (∃ xs, o = .lst xs) ∨ (∃ xs, o = .ext (DN xs a)) ∨ ∃ kvs, o = .dK kvs
/-- what is tuples and frozen things stays, and what is known of code and lambdas -/
structure Per (H H' : Hp) : Prop where
  tup : ∀ b xs, H b = some (.tup xs) → H' b = some (.tup xs)
  frz : ∀ b o u, H b = some (.frz o u) → H' b = some (.frz o u)
  ext : ∀ b p, H b = some (.ext p) → ¬ MutC (.ext p) b → H' b = some (.ext p)
theorem Per.refl (H : Hp) : Per H H := ⟨fun _ _ h => h, fun _ _ _ h => h, fun _ _ h _ => h⟩
theorem Per.trans {H H1 H2 : Hp} (a : Per H H1) (b : Per H1 H2) : Per H H2 := ⟨fun c xs h => b.tup c xs (a.tup c xs h), fun c o u h => b.frz c o u (a.frz c o u h), fun c p h n => b.ext c p (a.ext c p h n) n⟩
theorem Per.sqt {K : PySem.W.Frag} {H H' : Hp} {a : Addr} {xs : List V} (e : Per H H') (h : SqT K H a xs) : SqT K H' a xs := by
  rcases h with (h | ⟨o, h⟩) | h
  · exact .inl (.inl (e.tup _ _ h))
  · exact .inl (.inr ⟨o, e.frz _ _ _ h⟩)
  · exact .inr h
theorem Per.sqc {H H' : Hp} {a : Addr} {xs : List V} (e : Per H H') (h : SqC H a xs) : SqC H' a xs := let ⟨o, h, d⟩ := h; ⟨o, e.frz _ _ _ h, d⟩
theorem Per.sqf {K : PySem.W.Frag} {H H' : Hp} {a : Addr} {xs : List V} (e : Per H H') (h : SqF K H a xs) : SqF K H' a xs := by
  rcases h with ⟨o, h⟩ | h
  · exact .inl ⟨o, e.frz _ _ _ h⟩
  · exact .inr h
section
variable {Γ : Gm} {H H' : Hp}
mutual
theorem Rep.per (e : Per H H') : ∀ (d : P) (x : V), Rep Γ H d x → Rep Γ H' d x
  | .non, _, h => by simpa only [Rep] using h
  | .bl _, _, h => by simpa only [Rep] using h
  | .int _, _, h => by simpa only [Rep] using h
  | .str _, _, h => by simpa only [Rep] using h
  | .gl _, _, h => by simpa only [Rep] using h
  | .dct ks vs, _, h => by
    simp only [Rep] at h ⊢
    rcases h with ⟨a, ob, xs, zs, hx, h1, h2, h3, h4, h5, h6⟩ | ⟨a, ob, kvs, ns, hx, h1, h2, h3, h4, h5⟩
    · exact .inl ⟨a, ob, xs, zs, hx, e.frz _ _ _ h1, h2, h3, Reps.per e ks _ h4, Reps.per e vs zs h5, h6⟩
    · exact .inr ⟨a, ob, kvs, ns, hx, e.frz _ _ _ h1, h2, h3, h4, Reps.per e vs _ h5⟩
  | .set _, _, h => by simp only [Rep] at h
  | .fn _ _, _, h => by simp only [Rep] at h
  | .tup ps, x, h => by
    simp only [Rep] at h ⊢
    obtain ⟨a, xs, hx, h1, h2⟩ := h
    exact ⟨a, xs, hx, e.sqc h1, Reps.per e ps xs h2⟩
  | .wtup ps, x, h => by
    simp only [Rep] at h ⊢
    obtain ⟨a, xs, hx, h1, h2⟩ := h
    exact ⟨a, xs, hx, e.sqt h1, Reps.per e ps xs h2⟩
  | .lst ps, x, h => by
    simp only [Rep] at h ⊢
    obtain ⟨a, xs, hx, h1, h2⟩ := h
    exact ⟨a, xs, hx, e.sqf h1, Reps.per e ps xs h2⟩
theorem Reps.per (e : Per H H') : ∀ (ds : List P) (xs : List V), Reps Γ H ds xs → Reps Γ H' ds xs
  | [], _, h => by simpa only [Reps] using h
  | d :: ds, xs, h => by
    simp only [Reps] at h ⊢
    obtain ⟨y, ys, hx, h1, h2⟩ := h
    exact ⟨y, ys, hx, Rep.per e d y h1, Reps.per e ds ys h2⟩
end
theorem KT.per (e : Per H H') {ks vs : List P} {xs : List (NestedKey × Addr × Value)} (h : KT Γ H ks vs xs) : KT Γ H' ks vs xs := by
  obtain ⟨zs, h1, h2, h3, h4, h5⟩ := h
  exact ⟨zs, h1, h2, Reps.per e _ _ h3, Reps.per e _ _ h4, h5⟩
theorem KI.per (e : Per H H') {ks vs : List P} {kvs : List (Key × V)} (h : KI Γ H ks vs kvs) : KI Γ H' ks vs kvs := by
  obtain ⟨ns, h1, h2, h3, h4⟩ := h
  exact ⟨ns, h1, h2, h3, Reps.per e _ _ h4⟩
theorem CRep.per (e : Per H H') {d : P} {o : HO} {a : Addr} (h : CRep Γ H d o a) : CRep Γ H' d o a := by
  cases d <;> simp only [CRep] at h ⊢
  · obtain ⟨xs, h1, h2⟩ := h
    exact ⟨xs, h1, Reps.per e _ _ h2⟩
  · rcases h with ⟨xs, h1, h2⟩ | ⟨kvs, h1, h2⟩
    · exact .inl ⟨xs, h1, h2.per e⟩
    · exact .inr ⟨kvs, h1, h2.per e⟩
/-- frozen -/
theorem CRep.rep {d : P} {o : HO} {a : Addr} {ob : Obj} (h : CRep Γ H d o a) (e : H a = some (.frz ob o)) : Rep Γ H d (.ref a) := by
  cases d <;> simp only [CRep] at h
  · obtain ⟨xs, rfl, h2⟩ := h
    simp only [Rep]
    exact ⟨a, xs, rfl, .inl ⟨ob, e⟩, h2⟩
  · simp only [Rep]
    rcases h with ⟨xs, rfl, zs, h1, h2, h3, h4, h5⟩ | ⟨kvs, rfl, ns, h1, h2, h3, h4⟩
    · exact .inl ⟨a, ob, xs, zs, rfl, e, h1, h2, h3, h4, h5⟩
    · exact .inr ⟨a, ob, kvs, ns, rfl, e, h1, h2, h3, h4⟩
theorem CRep.mutC {d : P} {o : HO} {a : Addr} (h : CRep Γ H d o a) : MutC o a := by
  cases d <;> simp only [CRep] at h
  · obtain ⟨xs, h1, _⟩ := h
    exact .inl ⟨xs, h1⟩
  · rcases h with ⟨xs, h1, _⟩ | ⟨kvs, h1, _⟩
    · exact .inr (.inl ⟨xs, h1⟩)
    · exact .inr (.inr ⟨kvs, h1⟩)
theorem MutC.ntup {o : HO} {a : Addr} (h : MutC o a) (xs : List V) : o ≠ .tup xs := by
  rcases h with ⟨_, rfl⟩ | ⟨_, rfl⟩ | ⟨_, rfl⟩ <;> exact fun z => nomatch z
theorem MutC.nfrz {o : HO} {a : Addr} (h : MutC o a) (ob : Obj) (u : HO) : o ≠ .frz ob u := by
  rcases h with ⟨_, rfl⟩ | ⟨_, rfl⟩ | ⟨_, rfl⟩ <;> exact fun z => nomatch z
theorem MutC.ntbl {o : HO} {a : Addr} (h : MutC o a) (ps : Array Value) : o ≠ .tbl ps := by
  rcases h with ⟨_, rfl⟩ | ⟨_, rfl⟩ | ⟨_, rfl⟩ <;> exact fun z => nomatch z
theorem MutC.own {o : HO} {a : Addr} (h : MutC o a) (x : Addr) : o ≠ .own x := by
  rcases h with ⟨_, rfl⟩ | ⟨_, rfl⟩ | ⟨_, rfl⟩ <;> exact fun z => nomatch z
theorem MutC.mu {o : HO} {a : Addr} (h : MutC o a) : Mut (some o) := by
  rcases h with ⟨_, rfl⟩ | ⟨_, rfl⟩ | ⟨_, rfl⟩ <;> trivial
theorem reps_nil {xs : List V} : Reps Γ H [] xs ↔ xs = [] := by simp only [Reps]
theorem reps_cons {d : P} {ds : List P} {xs : List V} : Reps Γ H (d :: ds) xs ↔ ∃ y ys, xs = y :: ys ∧ Rep Γ H d y ∧ Reps Γ H ds ys := by simp only [Reps]
theorem reps_cons' {d : P} {ds : List P} {x : V} {xs : List V} : Reps Γ H (d :: ds) (x :: xs) ↔ Rep Γ H d x ∧ Reps Γ H ds xs := by
  rw [reps_cons]
  constructor
  · rintro ⟨y, ys, h, h1, h2⟩
    cases h
    exact ⟨h1, h2⟩
  · rintro ⟨h1, h2⟩
    exact ⟨x, xs, rfl, h1, h2⟩
theorem Reps.length : ∀ {ds : List P} {xs : List V}, Reps Γ H ds xs → ds.length = xs.length
  | [], xs, h => by
    rw [reps_nil] at h
    subst h
    rfl
  | d :: ds, xs, h => by
    obtain ⟨y, ys, rfl, _, h2⟩ := reps_cons.mp h
    rw [List.length_cons, List.length_cons, Reps.length h2]
theorem Reps.get : ∀ {ds : List P} {xs : List V} {i : Nat} {d : P}, Reps Γ H ds xs → ds[i]? = some d → ∃ x, xs[i]? = some x ∧ Rep Γ H d x
  | [], _, _, _, _, e => by simp at e
  | p :: ds, xs, i, d, h, e => by
    obtain ⟨y, ys, rfl, h1, h2⟩ := reps_cons.mp h
    cases i with
    | zero =>
      simp at e
      subst e
      exact ⟨y, rfl, h1⟩
    | succ i =>
      obtain ⟨x, e1, e2⟩ := Reps.get (i := i) h2 (by simpa using e)
      exact ⟨x, by simpa using e1, e2⟩
theorem Reps.getV : ∀ {ds : List P} {xs : List V} {i : Nat} {x : V}, Reps Γ H ds xs → xs[i]? = some x → ∃ d, ds[i]? = some d ∧ Rep Γ H d x := fun {ds xs i x} h e => by
  have hi := (List.getElem?_eq_some_iff.mp e).1
  have hl := h.length
  have hd : i < ds.length := by omega
  obtain ⟨y, e1, r⟩ := h.get (List.getElem?_eq_getElem hd)
  rw [e] at e1
  cases e1
  exact ⟨_, List.getElem?_eq_getElem hd, r⟩
theorem Reps.append : ∀ {ds es : List P} {xs ys : List V}, Reps Γ H ds xs → Reps Γ H es ys → Reps Γ H (ds ++ es) (xs ++ ys)
  | [], es, xs, ys, h, h' => by
    rw [reps_nil] at h
    subst h
    exact h'
  | d :: ds, es, xs, ys, h, h' => by
    obtain ⟨y, zs, rfl, h1, h2⟩ := reps_cons.mp h
    exact reps_cons.mpr ⟨y, zs ++ ys, rfl, h1, Reps.append h2 h'⟩
theorem Reps.take : ∀ {ds : List P} {xs : List V} (n : Nat), Reps Γ H ds xs → Reps Γ H (ds.take n) (xs.take n)
  | _, _, 0, _ => by simp [reps_nil]
  | [], xs, n + 1, h => by
    rw [reps_nil] at h
    subst h
    simp [reps_nil]
  | d :: ds, xs, n + 1, h => by
    obtain ⟨y, ys, rfl, h1, h2⟩ := reps_cons.mp h
    exact reps_cons.mpr ⟨y, _, rfl, h1, Reps.take n h2⟩
theorem Reps.drop : ∀ {ds : List P} {xs : List V} (n : Nat), Reps Γ H ds xs → Reps Γ H (ds.drop n) (xs.drop n)
  | _, _, 0, h => by simpa using h
  | [], xs, n + 1, h => by
    rw [reps_nil] at h
    subst h
    simp [reps_nil]
  | d :: ds, xs, n + 1, h => by
    obtain ⟨y, ys, rfl, h1, h2⟩ := reps_cons.mp h
    simpa using Reps.drop n h2
theorem Reps.set : ∀ {ds : List P} {xs : List V} {d : P} {x : V} (n : Nat), Reps Γ H ds xs → Rep Γ H d x → Reps Γ H (ds.set n d) (xs.set n x)
  | [], xs, _, _, _, h, _ => by
    rw [reps_nil] at h
    subst h
    simp [reps_nil]
  | d :: ds, xs, e, x, 0, h, r => by
    obtain ⟨y, ys, rfl, h1, h2⟩ := reps_cons.mp h
    exact reps_cons.mpr ⟨x, ys, rfl, r, h2⟩
  | d :: ds, xs, e, x, n + 1, h, r => by
    obtain ⟨y, ys, rfl, h1, h2⟩ := reps_cons.mp h
    exact reps_cons.mpr ⟨y, _, rfl, h1, Reps.set n h2 r⟩
theorem Reps.reverse : ∀ {ds : List P} {xs : List V}, Reps Γ H ds xs → Reps Γ H ds.reverse xs.reverse
  | [], xs, h => by
    rw [reps_nil] at h
    subst h
    simp [reps_nil]
  | d :: ds, xs, h => by
    obtain ⟨y, ys, rfl, h1, h2⟩ := reps_cons.mp h
    rw [List.reverse_cons, List.reverse_cons]
    exact Reps.append (Reps.reverse h2) (reps_cons.mpr ⟨y, [], rfl, h1, reps_nil.mpr rfl⟩)
theorem Reps.dropLast {ds : List P} {xs : List V} (h : Reps Γ H ds xs) : Reps Γ H ds.dropLast xs.dropLast := by
  rw [List.dropLast_eq_take, List.dropLast_eq_take, h.length]
  exact h.take _
theorem Reps.rep {ds : List P} {xs : List V} (h : Reps Γ H ds xs) : ∀ k : Nat, Reps Γ H (List.replicate k ds).flatten (List.replicate k xs).flatten
  | 0 => by simp [reps_nil]
  | k + 1 => by
    simp only [List.replicate_succ, List.flatten_cons]
    exact h.append (Reps.rep h k)

mutual
theorem Rep.dp : ∀ (d : P) (x : V) (n : Nat), Rep Γ H d x → d.dep n = true → Dp Γ.K H x d.toD
  | .non, _, _, h, _ => by
    simp only [Rep] at h
    subst h
    exact .non
  | .bl _, _, _, h, _ => by
    simp only [Rep] at h
    subst h
    exact .bl _
  | .int _, _, _, h, _ => by
    simp only [Rep] at h
    subst h
    exact .int _
  | .str _, _, _, h, _ => by
    simp only [Rep] at h
    subst h
    exact .str _
  | .gl _, _, _, _, h => by simp [P.dep] at h
  | .dct _ _, _, _, _, h => by simp [P.dep] at h
  | .set _, _, _, _, h => by simp [P.dep] at h
  | .fn _ _, _, _, _, h => by simp [P.dep] at h
  | .wtup _, _, _, _, h => by simp [P.dep] at h
  | .tup ps, x, 0, _, h => by simp [P.dep] at h
  | .lst ps, x, 0, _, h => by simp [P.dep] at h
  | .tup ps, x, n + 1, h, hd => by
    simp only [Rep] at h
    obtain ⟨a, xs, rfl, h1, h2⟩ := h
    simp only [P.dep] at hd
    exact .tup h1.sqt (Reps.dp ps xs n h2 hd)
  | .lst ps, x, n + 1, h, hd => by
    simp only [Rep] at h
    obtain ⟨a, xs, rfl, h1, h2⟩ := h
    simp only [P.dep] at hd
    exact .lst h1.sql (Reps.dp ps xs n h2 hd)
theorem Reps.dp : ∀ (ds : List P) (xs : List V) (n : Nat), Reps Γ H ds xs → P.deps ds n = true → DpAll Γ.K H xs (P.toDs ds)
  | [], xs, n, h, _ => by
    rw [reps_nil] at h
    subst h
    exact .nil
  | d :: ds, xs, n, h, hd => by
    obtain ⟨y, ys, rfl, h1, h2⟩ := reps_cons.mp h
    simp only [P.deps, Bool.and_eq_true] at hd
    exact .cons (Rep.dp d y n h1 hd.1) (Reps.dp ds ys n h2 hd.2)
end
theorem RRep.dp {d : P} {x : V} {n : Nat} (h : RRep Γ H d x) (hd : d.dep n = true) : Dp Γ.K H x d.toD := by
  rcases h with h | ⟨a, o, rfl, h1, h2⟩
  · exact Rep.dp d x n h hd
  · cases d <;> simp only [CRep] at h2
    · obtain ⟨xs, rfl, h2⟩ := h2
      cases n with
      | zero => simp [P.dep] at hd
      | succ n =>
        simp only [P.dep] at hd
        exact .lst (SqL.of h1) (Reps.dp _ xs n h2 hd)
    · simp [P.dep] at hd
theorem RRep.lst {ps : List P} {x : V} (h : RRep Γ H (.lst ps) x) : ∃ a xs, x = .ref a ∧ SqL Γ.K H a xs ∧ Reps Γ H ps xs := by
  rcases h with h | ⟨a, o, rfl, h1, xs, rfl, h2⟩
  · simp only [Rep] at h
    obtain ⟨a, xs, rfl, h1, h2⟩ := h
    exact ⟨a, xs, rfl, h1.sql, h2⟩
  · exact ⟨a, xs, rfl, SqL.of h1, h2⟩
/-- to be read as o -/
theorem RRep.dct {ks vs : List P} {x : V} (h : RRep Γ H (.dct ks vs) x) : ∃ a o, x = .ref a ∧ Rd H a o ∧ CRep Γ H (.dct ks vs) o a := by
  rcases h with h | ⟨a, o, rfl, h1, h2⟩
  · simp only [Rep] at h
    rcases h with ⟨a, ob, xs, zs, rfl, e, h1, h2, h3, h4, h5⟩ | ⟨a, ob, kvs, ns, rfl, e, h1, h2, h3, h4⟩
    · exact ⟨a, _, rfl, .inr ⟨ob, e⟩, .inl ⟨xs, rfl, zs, h1, h2, h3, h4, h5⟩⟩
    · exact ⟨a, _, rfl, .inr ⟨ob, e⟩, .inr ⟨kvs, rfl, ns, h1, h2, h3, h4⟩⟩
  · exact ⟨a, o, rfl, .inl h1, h2⟩
theorem RRep.tupC {ps : List P} {x : V} (h : RRep Γ H (.tup ps) x) : ∃ a xs, x = .ref a ∧ SqC H a xs ∧ Reps Γ H ps xs := by
  rcases h with h | ⟨a, o, _, _, h⟩
  · simpa only [Rep] using h
  · exact h.elim
theorem RRep.tup {ps : List P} {x : V} (h : RRep Γ H (.tup ps) x) : ∃ a xs, x = .ref a ∧ SqT Γ.K H a xs ∧ Reps Γ H ps xs := by
  obtain ⟨a, xs, h1, h2, h3⟩ := h.tupC
  exact ⟨a, xs, h1, h2.sqt, h3⟩
theorem RRep.non {x : V} (h : RRep Γ H .non x) : x = .non := by
  rcases h with h | ⟨a, o, _, _, h⟩
  · simpa only [Rep] using h
  · exact h.elim
theorem RRep.bl {b : Bool} {x : V} (h : RRep Γ H (.bl b) x) : x = .bl b := by
  rcases h with h | ⟨a, o, _, _, h⟩
  · simpa only [Rep] using h
  · exact h.elim
theorem RRep.int {b : Int} {x : V} (h : RRep Γ H (.int b) x) : x = .int b := by
  rcases h with h | ⟨a, o, _, _, h⟩
  · simpa only [Rep] using h
  · exact h.elim
theorem RRep.str {b : Str} {x : V} (h : RRep Γ H (.str b) x) : x = .str b := by
  rcases h with h | ⟨a, o, _, _, h⟩
  · simpa only [Rep] using h
  · exact h.elim
end

/-! ### what may be compared -/
mutual
theorem dep_shape : ∀ (d : P) (n : Nat), d.dep n = true → d.toD.canLay0 = true ∧ d.toD.depth ≤ n
  | .non, n, _ => by simp [P.toD, PyData.canLay0, PyData.depth]
  | .bl _, n, _ => by simp [P.toD, PyData.canLay0, PyData.depth]
  | .int _, n, _ => by simp [P.toD, PyData.canLay0, PyData.depth]
  | .str s, n, h => by
    simp only [P.dep] at h
    simp [P.toD, PyData.canLay0, PyData.depth, h]
  | .gl _, n, h => by simp [P.dep] at h
  | .dct _ _, n, h => by simp [P.dep] at h
  | .set _, n, h => by simp [P.dep] at h
  | .fn _ _, n, h => by simp [P.dep] at h
  | .tup ps, 0, h => by simp [P.dep] at h
  | .lst ps, 0, h => by simp [P.dep] at h
  | .tup ps, n + 1, h => by
    simp only [P.dep] at h
    have := deps_shape ps n h
    simp only [P.toD, PyData.canLay0, PyData.depth]
    exact ⟨this.1, by omega⟩
  | .lst ps, n + 1, h => by
    simp only [P.dep] at h
    have := deps_shape ps n h
    simp only [P.toD, PyData.canLay0, PyData.depth]
    exact ⟨this.1, by omega⟩
theorem deps_shape : ∀ (ds : List P) (n : Nat), P.deps ds n = true → PyData.canLayAll0 (P.toDs ds) = true ∧ PyData.depthAll (P.toDs ds) ≤ n
  | [], n, _ => by simp [P.toDs, PyData.canLayAll0, PyData.depthAll]
  | d :: ds, n, h => by
    simp only [P.deps, Bool.and_eq_true] at h
    have h1 := dep_shape d n h.1
    have h2 := deps_shape ds n h.2
    simp only [P.toDs, PyData.canLayAll0, PyData.depthAll]
    exact ⟨by rw [h1.1, h2.1]; rfl, by omega⟩
end
theorem dep_shaped {d : P} (h : d.dep LIM = true) : SeqAt.shaped d.toD = true := by
  have := dep_shape d LIM h
  unfold SeqAt.shaped
  rw [this.1, Bool.true_and]
  exact decide_eq_true (Nat.le_trans this.2 (by decide))
theorem toDs_any (f : PyData → Bool) : ∀ ds : List P, (P.toDs ds).any f = ds.any fun d => f d.toD
  | [] => rfl
  | d :: ds => by
    simp only [P.toDs, List.any_cons]
    rw [toDs_any f ds]
/-! ### what a datum is does not hang on the lambdas -/
def Gm.wc (Γ : Gm) (c : Addr → Option Clo) : Gm := { Γ with cl := c }
mutual
theorem Rep.wc {Γ : Gm} {c : Addr → Option Clo} {H : Hp} : ∀ (d : P) (x : V), Rep (Γ.wc c) H d x ↔ Rep Γ H d x
  | .non, _ => by simp only [Rep]
  | .bl _, _ => by simp only [Rep]
  | .int _, _ => by simp only [Rep]
  | .str _, _ => by simp only [Rep]
  | .gl _, _ => by simp only [Rep]; exact Iff.rfl
  | .set _, _ => by simp only [Rep]
  | .fn _ _, _ => by simp only [Rep]
  | .tup ps, x => by simp only [Rep, Reps.wc ps]
  | .wtup ps, x => by simp only [Rep, Reps.wc ps]; exact Iff.rfl
  | .lst ps, x => by simp only [Rep, Reps.wc ps]; exact Iff.rfl
  | .dct ks vs, x => by simp only [Rep, Reps.wc ks, Reps.wc vs]
theorem Reps.wc {Γ : Gm} {c : Addr → Option Clo} {H : Hp} : ∀ (ds : List P) (xs : List V), Reps (Γ.wc c) H ds xs ↔ Reps Γ H ds xs
  | [], _ => by simp only [Reps]
  | d :: ds, xs => by simp only [Reps, Rep.wc d, Reps.wc ds]
end
theorem CRep.wc {Γ : Gm} {c : Addr → Option Clo} {H : Hp} {d : P} {o : HO} {a : Addr} : CRep (Γ.wc c) H d o a ↔ CRep Γ H d o a := by
  cases d <;> simp only [CRep, KT, KI, Reps.wc]
end Hb

/-! Operations on data, by the library's rules. -/
namespace Hb
open PySem PySem.Spec PyProof.Rows L2

/-- a result: a list is always a new one, not yet frozen -/
def Raw (Γ : Gm) (H : Hp) (d : P) (Q : VK) : Prop :=
  match d with
  | .lst ds => ∀ p xs, H p = none → Reps Γ H ds xs → Q (.ref p) (upd H p (.lst xs))
  | d => ∀ z H', Same H H' → Rep Γ H' d z → Q z H'
theorem Raw.lst {Γ : Gm} {H : Hp} {ds : List P} {Q : VK} (h : Raw Γ H (.lst ds) Q) : ∀ p xs, H p = none → Reps Γ H ds xs → Q (.ref p) (upd H p (.lst xs)) := h
theorem Same.new {H : Hp} {p : Addr} {o : HO} (h : H p = none) : Same H (upd H p o) := fun a u e => by
  rw [upd_ne (ne_of_none e h)]
  exact e
theorem per_of {H H' : Hp} (e : Same H H') : Per H H' := ⟨fun b xs h => e b _ h, fun b o u h => e b _ h, fun b p h _ => e b _ h⟩
theorem Raw.int {Γ : Gm} {H : Hp} {i : Int} {Q : VK} (h : Raw Γ H (.int i) Q) : Q (.int i) H := h _ H (Same.refl H) (by simp only [Rep])
theorem Raw.bl {Γ : Gm} {H : Hp} {i : Bool} {Q : VK} (h : Raw Γ H (.bl i) Q) : Q (.bl i) H := h _ H (Same.refl H) (by simp only [Rep])
theorem Raw.str {Γ : Gm} {H : Hp} {i : Str} {Q : VK} (h : Raw Γ H (.str i) Q) : Q (.str i) H := h _ H (Same.refl H) (by simp only [Rep])
theorem Raw.tup {Γ : Gm} {H : Hp} {ds : List P} {Q : VK} (h : Raw Γ H (.tup ds) Q) : ∀ p o xs, H p = none → o.dict = none → Reps Γ H ds xs → Q (.ref p) (upd H p (.frz o (.tup xs))) := fun p o xs hp hd r =>
  h _ _ (Same.new hp) (by
    simp only [Rep]
    exact ⟨p, xs, rfl, ⟨o, upd_same, hd⟩, Reps.per (per_of (Same.new hp)) _ _ r⟩)
/-- a new tuple, laid and known -/
theorem laidT {X : Cx} {pins : List (Addr × Obj)} {σ : L2.St} {H : Hp} {s : Shared} {h' : Heap} {xs : List V} {its : List Value} {a : Addr} {t' : Tok} {o : Obj} (I : Inv X pins σ H s) (kp : ∀ b ob, s.heap.get? b = some ob → h'.get? b = some ob) (ha : s.heap.objs.size ≤ a) (e : h'.get? a = some o) (hc : o.cls = .type "tuple") (hdat : o.data = .seq its.toArray 0) (hz : xs.length ≤ sizeLine) (r : Vals xs its) :
    Inv X pins σ (upd H a (.frz o (.tup xs))) { s with heap := h', toks := t' } :=
  I.laid (o := .frz o (.tup xs)) kp ha ⟨e, hz, its, r, o, e, hc, 0, hdat⟩
def tTupC (t : TA) : TE := fun σ H Q => t σ H fun xs H1 => xs.length ≤ sizeLine ∧ ∀ p o, H1 p = none → o.dict = none → Q (.ref p) (upd H1 p (.frz o (.tup xs)))
theorem pe_tupC {X : Cx} {es : List Expr} {t : TA} {pos : Pos} {x1 : Nat} (h : PA X es t) : PE X (.Tuple es x1 pos) (tTupC t) := by
  refine ⟨fun pins s σ H Q I hq => ?_⟩
  refine wpAny_Tuple_spliced (thn (h.run pos pins s σ H _ I hq) fun us s1 ⟨xs, H1, I1, r, z, q⟩ => ⟨by rw [← r.length]; exact z, ?_⟩)
  exact ⟨.ref s1.heap.objs.size, _, laidT (t' := s1.toks) I1 (fun b u e => Heap.get?_push_of_some _ e) (Nat.le_refl _) (Heap.get?_push_size _ rfl) rfl rfl z r, rfl, q _ _ (I1.hok.fresh (Nat.le_refl _)) rfl⟩
theorem Raw.tupOld {Γ : Gm} {H : Hp} {ds : List P} {Q : VK} {a : Addr} {xs : List V} (h : Raw Γ H (.tup ds) Q) (ht : SqC H a xs) (r : Reps Γ H ds xs) : Q (.ref a) H :=
  h _ _ (Same.refl H) (by
    simp only [Rep]
    exact ⟨a, xs, rfl, ht, r⟩)

/-! ### tuple * k, the odd cases -/
theorem tuple_mulS (l : Addr) (items : Array Value) (n : Nat) (dd : Option Addr) (sl : Array (Option Value)) (x : Int) (u : Tok) (c0 : (decide (x < -(2 ^ 63)) || decide (x ≥ 2 ^ 63)) = false) (c1 : (items.isEmpty || x == 1) = true) :
    Meets (Builtin.«tuple.__mul__» ⟨[.ref l, .int x u], []⟩) (fun _ R s => s.heap.get? l = some { cls := .type "tuple", dict := dd, data := .seq items n, slots := sl } ∧ R (.ok (.ret (Value.ref l))) s) :=
  .of_wp fun prog w A R s h => by
    obtain ⟨hp, g, d, tk, os⟩ := s
    obtain ⟨hl, h⟩ := h
    have f1 := AutoSeq1.idx_int
    wp_walk using wpAny_loadPart' hl
    repeat (first
      | (refine wpAny_ite_false (decide_eq_false (by rw [c0]; exact Bool.false_ne_true)) ?_; wp_walk using wpAny_loadPart' hl)
      | (refine wpAny_ite_true (decide_eq_true c1) ?_; wp_walk using wpAny_loadPart' hl))
    exact ⟨_, rfl, h⟩
theorem tuple_mulN (l : Addr) (items : Array Value) (n : Nat) (dd : Option Addr) (sl : Array (Option Value)) (x : Int) (u : Tok) (c0 : (decide (x < -(2 ^ 63)) || decide (x ≥ 2 ^ 63)) = false) (c1 : (items.isEmpty || x == 1) = false) (c2 : (decide (x ≤ 0) || items.isEmpty) = true) :
    Meets (Builtin.«tuple.__mul__» ⟨[.ref l, .int x u], []⟩) (fun _ R s => s.heap.get? l = some { cls := .type "tuple", dict := dd, data := .seq items n, slots := sl } ∧
      R (.ok (.ret (Value.ref s.heap.objs.size))) { s with heap := s.heap.push { cls := Value.type "tuple", data := Data.seq #[] }, toks := s.toks }) :=
  .of_wp fun prog w A R s h => by
    obtain ⟨hp, g, d, tk, os⟩ := s
    obtain ⟨hl, h⟩ := h
    have f1 := AutoSeq1.idx_int
    wp_walk using wpAny_loadPart' hl
    repeat (first
      | (refine wpAny_ite_false (decide_eq_false (by rw [c0]; exact Bool.false_ne_true)) ?_; wp_walk using wpAny_loadPart' hl)
      | (refine wpAny_ite_false (decide_eq_false (by rw [c1]; exact Bool.false_ne_true)) ?_; wp_walk using wpAny_loadPart' hl)
      | (refine wpAny_ite_true (decide_eq_true c2) ?_; wp_walk using wpAny_loadPart' hl))
    exact ⟨_, rfl, h⟩
section
variable {X : Cx}
/-- t * k, 0 ≤ k -/
def rRepA (K : PySem.W.Frag) : R2 := fun x y H Q => ∃ l k xs, x = .ref l ∧ y = .int k ∧ SqT K H l xs ∧ 0 ≤ k ∧ k ≤ 1000 ∧ xs.length ≤ 1000 ∧
  ((xs = [] ∨ k = 1) → Q (.ref l) H) ∧ (¬ (xs = [] ∨ k = 1) → ∀ p o, H p = none → o.dict = none → Q (.ref p) (upd H p (.frz o (.tup (List.replicate k.toNat xs).flatten))))
theorem op_repA : OpR X (binaryOp .Mult) (rRepA X.K) := by
  intro pins s σ H x y v u Q I rx ry h
  obtain ⟨l, k, xs, rfl, rfl, hT, h1, h2, hz, q1, q2⟩ := h
  by_cases hk : 2 ≤ k ∧ xs ≠ []
  · obtain ⟨h1, hne⟩ := hk
    have q := q2 (by
      intro z
      rcases z with z | z
      · exact hne z
      · omega)
    cases rx
    obtain ⟨t, rfl⟩ := ry
    obtain ⟨its, r, ⟨⟨cls, dd, data, sl⟩, ho, hc, n, hd⟩, hs⟩ := I.tuple hT
    simp only at hc hd
    subst hc hd
    have hle := r.length
    have hi : its.toArray.isEmpty = false := by
      cases its with
      | nil => exact absurd (List.eq_nil_of_length_eq_zero hle) hne
      | cons a b => rfl
    have hz0 : its.toArray.size = xs.length := by rw [List.size_toArray, hle]
    have hm : ((its.toArray.size : Nat) : Int) * k ≤ 1000000 := by
      rw [hz0]
      have a1 : ((xs.length : Nat) : Int) * k ≤ 1000 * k := Int.mul_le_mul_of_nonneg_right (by omega) (by omega)
      omega
    have fl : ∀ {α : Type} (ys : List α), ys.length = xs.length → (List.replicate k.toNat ys).flatten.length ≤ sizeLine := fun ys e => by
      rw [PyProof.Rows.lm_len_rep_flat, e, sizeLine_eq]
      have a1 : k.toNat * xs.length ≤ 1000 * 1000 := Nat.mul_le_mul (by omega) hz
      omega
    have c0 : (decide (k < -(2 ^ 63)) || decide (k ≥ 2 ^ 63)) = false := by
      rw [decide_eq_false (by omega), decide_eq_false (by omega)] <;> rfl
    have c1 : (its.toArray.isEmpty || k == 1) = false := by
      rw [hi, Bool.false_or]
      exact beq_eq_false_iff_ne.mpr (by omega)
    have c2 : (decide (k ≤ 0) || its.toArray.isEmpty) = false := by
      rw [hi, Bool.or_false]
      exact decide_eq_false (by omega)
    have c4 : Builtin.Tuple.tupleTooMany (((its.toArray.size : Nat) : Int) * k) = false := by
      unfold Builtin.Tuple.tupleTooMany
      rw [sizeLine_eq]
      exact decide_eq_false (by omega)
    refine wpAny_binaryOp_repeat_ref (T := "tuple") (U := "int") (by decide) ⟨_, ho, rfl⟩ (fun s' => typeIs_int s' k t) noFill_tuple_mul F.fills_int_mul F.slot_int_rmul repeat_tuple F.slot_int_index.lookup
      (call_meets F.slot_int_rmul (typeIs_int s k t) F.entry_int_rmul (F.args_int_rmul_2 _ _) (int_rmul_tuple k t l its.toArray n dd sl)
        ⟨ho, rfl, ⟨_, ho, rfl⟩, call_meets F.slot_tuple_mul ⟨_, ho, rfl⟩ F.entry_tuple_mul (F.args_tuple_mul_2 _ _) (tuple_mulW l its.toArray n dd sl k t c0 c1 c2 (by omega) c4 (by rw [size_rep, List.size_toArray]; exact fl its hle.symm)) ⟨ho, ?_⟩⟩)
    rw [size_rep]
    exact ⟨.ref s.heap.objs.size, _, laidT (t' := s.toks) I (fun b ob q => Heap.get?_push_of_some _ q) (Nat.le_refl _) (Heap.get?_push_size _ rfl) rfl rfl (fl xs rfl) (r.rep k.toNat), rfl, q _ _ (I.hok.fresh (Nat.le_refl _)) rfl⟩
  cases rx
  obtain ⟨t, rfl⟩ := ry
  obtain ⟨its, r, ⟨⟨cls, dd, data, sl⟩, ho, hc, n, hd⟩, hs⟩ := I.tuple hT
  simp only at hc hd
  subst hc hd
  have hle : its.length = xs.length := r.length.symm
  have c0 : (decide (k < -(2 ^ 63)) || decide (k ≥ 2 ^ 63)) = false := by
    rw [decide_eq_false (by omega), decide_eq_false (by omega)] <;> rfl
  by_cases hs1 : xs = [] ∨ k = 1
  · have c1 : (its.toArray.isEmpty || k == 1) = true := by
      rcases hs1 with z | z
      · have : its = [] := List.eq_nil_of_length_eq_zero (by rw [hle, z]; rfl)
        rw [this]
        rfl
      · rw [z]
        simp
    exact wpAny_binaryOp_repeat_ref (T := "tuple") (U := "int") (by decide) ⟨_, ho, rfl⟩ (fun s' => typeIs_int s' k t) noFill_tuple_mul F.fills_int_mul F.slot_int_rmul repeat_tuple F.slot_int_index.lookup
      (call_meets F.slot_int_rmul (typeIs_int s k t) F.entry_int_rmul (F.args_int_rmul_2 _ _) (int_rmul_tuple k t l its.toArray n dd sl)
        ⟨ho, rfl, ⟨_, ho, rfl⟩, call_meets F.slot_tuple_mul ⟨_, ho, rfl⟩ F.entry_tuple_mul (F.args_tuple_mul_2 _ _) (tuple_mulS l its.toArray n dd sl k t c0 c1) ⟨ho, ⟨.ref l, H, I, rfl, q1 hs1⟩⟩⟩)
  · have hx : xs ≠ [] := fun e => hs1 (.inl e)
    have hk0 : k = 0 := by
      have : ¬ k = 1 := fun e => hs1 (.inr e)
      have : ¬ 2 ≤ k := fun e => hk ⟨e, hx⟩
      omega
    have hn : its ≠ [] := fun e => hx (by
      rw [e] at hle
      exact List.eq_nil_of_length_eq_zero hle.symm)
    have hi : its.toArray.isEmpty = false := by
      cases its with
      | nil => exact absurd rfl hn
      | cons a b => rfl
    have c1 : (its.toArray.isEmpty || k == 1) = false := by
      rw [hi, hk0]
      rfl
    have c2 : (decide (k ≤ 0) || its.toArray.isEmpty) = true := by
      rw [hk0]
      rfl
    refine wpAny_binaryOp_repeat_ref (T := "tuple") (U := "int") (by decide) ⟨_, ho, rfl⟩ (fun s' => typeIs_int s' k t) noFill_tuple_mul F.fills_int_mul F.slot_int_rmul repeat_tuple F.slot_int_index.lookup
      (call_meets F.slot_int_rmul (typeIs_int s k t) F.entry_int_rmul (F.args_int_rmul_2 _ _) (int_rmul_tuple k t l its.toArray n dd sl)
        ⟨ho, rfl, ⟨_, ho, rfl⟩, call_meets F.slot_tuple_mul ⟨_, ho, rfl⟩ F.entry_tuple_mul (F.args_tuple_mul_2 _ _) (tuple_mulN l its.toArray n dd sl k t c0 c1 c2) ⟨ho, ?_⟩⟩)
    have q := q2 hs1
    rw [hk0] at q
    exact ⟨.ref s.heap.objs.size, _, laidT (t' := s.toks) (xs := []) (its := []) I (fun b ob q => Heap.get?_push_of_some _ q) (Nat.le_refl _) (Heap.get?_push_size _ rfl) rfl rfl (by show 0 ≤ sizeLine; decide) .nil, rfl, q _ _ (I.hok.fresh (Nat.le_refl _)) rfl⟩
/-- t + u -/
def rCatC (K : PySem.W.Frag) : R2 := fun x y H Q => ∃ a b xs ys, x = .ref a ∧ y = .ref b ∧ SqT K H a xs ∧ SqT K H b ys ∧ xs.length + ys.length ≤ sizeLine ∧
  (xs = [] → Q (.ref b) H) ∧ (xs ≠ [] → ys = [] → Q (.ref a) H) ∧ (xs ≠ [] → ys ≠ [] → ∀ p o, H p = none → o.dict = none → Q (.ref p) (upd H p (.frz o (.tup (xs ++ ys)))))
theorem op_catC : OpR X (binaryOp .Add) (rCatC X.K) := by
  intro pins s σ H x y v u Q I rx ry h
  obtain ⟨a, b, xs, ys, rfl, rfl, ha, hb, hz, q0, q1, q2⟩ := h
  cases rx
  cases ry
  obtain ⟨its, r1, p1, _⟩ := I.tuple ha
  obtain ⟨its2, r2, p2, _⟩ := I.tuple hb
  by_cases hx : xs = []
  · subst hx
    cases r1
    exact L2.cat_tup0 p1 p2 ⟨.ref b, H, I, rfl, q0 rfl⟩
  · refine HT.cat_tup p1 p2 (fun z => hx (r1.nil_iff.mp z)) (fun z => ⟨.ref a, H, I, rfl, q1 hx (r2.nil_iff.mp z)⟩) (fun z => ?_) (by rw [← r1.length, ← r2.length]; exact hz)
    exact ⟨.ref s.heap.objs.size, _, laidT (t' := s.toks) I (fun b ob q => Heap.get?_push_of_some _ q) (Nat.le_refl _) (Heap.get?_push_size _ rfl) rfl rfl (by rw [List.length_append]; exact hz) (r1.append r2), rfl, q2 hx (fun w => z (r2.nil_iff.mpr w)) _ _ (I.hok.fresh (Nat.le_refl _)) rfl⟩
/-- xs + ys, xs * k of lists that are read -/
def rCatL (K : PySem.W.Frag) : R2 := fun x y H Q => ∃ l b xs zs, x = .ref l ∧ y = .ref b ∧ SqL K H l xs ∧ SqL K H b zs ∧ xs.length + zs.length ≤ sizeLine ∧ ∀ p, H p = none → Q (.ref p) (upd H p (.lst (xs ++ zs)))
theorem op_catL : OpR X (binaryOp .Add) (rCatL X.K) := by
  intro pins s σ H x y v u Q I rx ry h
  obtain ⟨l, b, xs, zs, rfl, rfl, hH, hB, hz, q⟩ := h
  cases rx
  cases ry
  obtain ⟨its, r, ⟨⟨cls, dd, data, sl⟩, n, ho, hc, hdd, hd⟩, _⟩ := I.list hH
  obtain ⟨its2, r2, ⟨⟨cls2, dd2, data2, sl2⟩, n2, ho2, hc2, hdd2, hd2⟩, _⟩ := I.list hB
  simp only at hc hd hc2 hd2
  subst hc hd hc2 hd2
  have hl := r.length
  have hl2 := r2.length
  refine concat_meets ⟨_, ho, rfl⟩ ⟨_, ho2, rfl⟩ noFill_list_add seq_list_add PySem.F.slot_list_add PySem.F.entry_list_add (PySem.F.args_list_add_2 _ _) (list_addW l b its.toArray its2.toArray n n2 dd dd2 sl sl2 (by rw [List.size_toArray, List.size_toArray]; omega)) ⟨ho, ho2, ?_⟩
  have ea : its.toArray ++ its2.toArray = (its ++ its2).toArray := by simp
  rw [ea]
  exact ⟨.ref _, _, I.lnew (t' := s.toks) (r.append r2) (by rw [List.length_append]; omega), rfl, q _ I.fresh⟩
theorem int_rmul_listG (a : Int) (t : Tok) (l : Addr) (items : Array Value) (n : Nat) (dd : Option Addr) (sl : Array (Option Value)) :
    Meets (Builtin.«int.__rmul__» ⟨[.int a t, .ref l], []⟩) (fun _ R s => s.heap.get? l = some { cls := .type "list", dict := dd, data := .seq items n, slots := sl } ∧ R (.ok (.ret Value.notImplemented)) s) :=
  .of_wp fun prog w A R s h => by obtain ⟨hp, g, d, tk, os⟩ := s; obtain ⟨hl, h⟩ := h; wp_walk using wpAny_loadPart' hl; exact ⟨_, rfl, h⟩
theorem list_mulG (l : Addr) (items : Array Value) (n : Nat) (dd : Option Addr) (sl : Array (Option Value)) (x : Int) (u : Tok) (hc0 : ¬(!Builtin.List.listFitsIndex x) = true) (hc1 : ¬items.size * x.toNat > (2 ^ 63 - 1) / 8) (hc2 : ¬Builtin.List.listTooLong (items.size * x.toNat) = true) :
    Meets (Builtin.«list.__mul__» ⟨[.ref l, .int x u], []⟩) (fun _ R s => s.heap.get? l = some { cls := .type "list", dict := dd, data := .seq items n, slots := sl } ∧ R (.ok (.ret (Value.ref s.heap.objs.size))) { s with heap := s.heap.push { cls := Value.type "list", data := Data.seq (List.foldl (fun x1 x2 => x1 ++ x2) #[] (List.replicate (if items.isEmpty = true then 0 else x.toNat) items)) }, toks := s.toks }) :=
  .of_wp fun prog w A R s h => by
    obtain ⟨hp, g, d, tk, os⟩ := s; obtain ⟨hl, h⟩ := h
    have hsz := AutoListH.joined_fits hc2
    wp_walk using wpAny_loadPart' hl
    refine wpAny_ite_false (decide_eq_false (Nat.not_lt.mpr hsz)) ?_; wp_walk using wpAny_loadPart' hl; exact ⟨_, rfl, h⟩
def rRepL (K : PySem.W.Frag) : R2 := fun x y H Q => ∃ l k xs, x = .ref l ∧ y = .int k ∧ SqL K H l xs ∧ -(2 ^ 63) ≤ k ∧ k < 2 ^ 63 ∧ xs.length * k.toNat ≤ sizeLine ∧
  ∀ p, H p = none → Q (.ref p) (upd H p (.lst (List.replicate k.toNat xs).flatten))
theorem op_repL : OpR X (binaryOp .Mult) (rRepL X.K) := by
  intro pins s σ H x y v u Q I rx ry h
  obtain ⟨l, k, xs, rfl, rfl, hH, h1, h2, hz, q⟩ := h
  cases rx
  obtain ⟨t, rfl⟩ := ry
  obtain ⟨its, r, ⟨⟨cls, dd, data, sl⟩, n, e, hc, hdd, hd⟩, _⟩ := I.list hH
  simp only at hc hd
  subst hc hd
  have hl := r.length
  have hlen : its.toArray.size * k.toNat ≤ sizeLine := by rw [List.size_toArray, ← hl]; exact hz
  have hcap : ¬ its.toArray.size * k.toNat > (2 ^ 63 - 1) / 8 := by
    have : (sizeLine : Nat) ≤ (2 ^ 63 - 1) / 8 := by decide
    omega
  have hfit : ¬ (!Builtin.List.listFitsIndex k) = true := by
    rw [fitsIndex_both h1 h2]
    exact Bool.false_ne_true
  have hlong : ¬ Builtin.List.listTooLong (its.toArray.size * k.toNat) = true := by
    rw [notLongL hlen]
    exact Bool.false_ne_true
  have hnew : List.foldl (fun x1 x2 => x1 ++ x2) #[] (List.replicate (if its.toArray.isEmpty = true then 0 else k.toNat) its.toArray) = (List.replicate k.toNat its).flatten.toArray := by
    have f0 : ∀ m : Nat, List.foldl (fun x1 x2 => x1 ++ x2) #[] (List.replicate m its.toArray) = (List.replicate m its).flatten.toArray := fun m => by
      have := foldl_rep its m []
      rw [List.nil_append] at this
      exact this
    rw [f0]
    cases its with
    | nil => simp
    | cons a r' => rw [if_neg (by simp)]
  refine wpAny_binaryOp_repeat_ref (T := "list") (U := "int") (by decide) ⟨_, e, rfl⟩ (fun s' => typeIs_int s' k t) noFill_list_mul F.fills_int_mul F.slot_int_rmul repeat_list F.slot_int_index.lookup
    (call_meets F.slot_int_rmul (typeIs_int s k t) F.entry_int_rmul (F.args_int_rmul_2 _ _) (int_rmul_listG k t l its.toArray n dd sl)
      ⟨e, rfl, ⟨_, e, rfl⟩, call_meets F.slot_list_mul ⟨_, e, rfl⟩ F.entry_list_mul (F.args_list_mul_2 _ _) (list_mulG l its.toArray n dd sl k t hfit hcap hlong) ⟨e, ?_⟩⟩)
  rw [hnew]
  exact ⟨.ref _, _, I.lnew (t' := s.toks) (r.rep k.toNat) (by rw [PyProof.Rows.lm_len_rep_flat, Nat.mul_comm]; exact hz), rfl, q _ I.fresh⟩
end

/-! ### all of them -/
def O2.bop : O2 → Option Operator
  | .add => some .Add
  | .sub => some .Sub
  | .mul => some .Mult
  | .fdiv => some .FloorDiv
  | .mod => some .Mod
  | .pow => some .Pow
  | _ => none
def O2.cop : O2 → Option CmpOp
  | .lt => some .Lt
  | .le => some .LtE
  | .gt => some .Gt
  | .ge => some .GtE
  | .eq => some .Eq
  | .ne => some .NotEq
  | .isin => some .In
  | .notin => some .NotIn
  | .is => some .Is
  | .isnot => some .IsNot
  | _ => none
theorem big_line : BIG + BIG ≤ sizeLine := by decide
section
variable {X : Cx} {Γ : Gm} {pins : List (Addr × Obj)} {s : Shared} {σ : L2.St} {H : Hp} {x y : V} {v u : Value} {Q : VK} {a b d : P}
theorem arith_ok (hK : X.K = Γ.K) {o : O2} {op : Operator} (ho : o.bop = some op) (I : Inv X pins σ H s) (rx : RelV x v) (ry : RelV y u) (ha : RRep Γ H a x) (hb : RRep Γ H b y) (e : arith o a b = some d) (q : Raw Γ H d Q) :
    wpAny (model X.prog X.w) X.A (binaryOp op v u) (EP X pins σ Q) X.xe s := by
  unfold arith at e
  split at e
  · rename_i i j
    have hx := ha.int
    have hy := hb.int
    subst hx hy
    cases o <;> cases ho <;> simp only [intOp] at e
    · cases e
      exact op_add pins s σ H _ _ v u Q I rx ry ⟨i, j, rfl, rfl, q.int⟩
    · cases e
      exact op_sub pins s σ H _ _ v u Q I rx ry ⟨i, j, rfl, rfl, q.int⟩
    · split at e
      · rename_i h
        cases e
        exact op_mul pins s σ H _ _ v u Q I rx ry ⟨i, j, rfl, rfl, h, q.int⟩
      · cases e
    · split at e
      · rename_i h
        cases e
        exact op_fdiv pins s σ H _ _ v u Q I rx ry ⟨i, j, rfl, rfl, h, q.int⟩
      · cases e
    · split at e
      · rename_i h
        cases e
        exact op_mod pins s σ H _ _ v u Q I rx ry ⟨i, j, rfl, rfl, h, q.int⟩
      · cases e
    · split at e
      · rename_i h
        cases e
        exact op_pow pins s σ H _ _ v u Q I rx ry ⟨i, j, rfl, rfl, ⟨h.1, by omega, h.2.2⟩, q.int⟩
      · cases e
  · rename_i z w
    split at e
    · rename_i h
      cases e
      have hx := ha.str
      have hy := hb.str
      subst hx hy
      obtain ⟨rfl, hz⟩ := h
      cases ho
      exact op_add_str pins s σ H _ _ v u Q I rx ry ⟨z, w, rfl, rfl, Nat.le_trans hz (Nat.le_trans (Nat.le_add_right _ _) big_line), q.str⟩
    · cases e
  · rename_i xs ys
    split at e
    · rename_i h
      cases e
      obtain ⟨p, us, rfl, g1, h2⟩ := ha.tupC
      obtain ⟨p', ws, rfl, g1', h2'⟩ := hb.tupC
      have h1 : SqT X.K H p us := g1.sqt
      have h1' : SqT X.K H p' ws := g1'.sqt
      obtain ⟨rfl, hz⟩ := h
      cases ho
      have l1 := h2.length
      have l2 := h2'.length
      have hap := h2.append h2'
      refine op_catC pins s σ H _ _ v u Q I rx ry ⟨p, p', us, ws, rfl, rfl, h1, h1', by have := big_line; omega, fun e => ?_, fun _ e => ?_, fun _ _ p o hp ho => ?_⟩
      · subst e
        have : xs = [] := List.eq_nil_of_length_eq_zero l1
        subst this
        exact q.tupOld g1' (by simpa using h2')
      · subst e
        have : ys = [] := List.eq_nil_of_length_eq_zero l2
        subst this
        exact q.tupOld g1 (by simpa using h2)
      · exact q.tup p o _ hp ho hap
    · cases e
  · rename_i xs ys
    split at e
    · rename_i h
      cases e
      obtain ⟨p, us, rfl, h1, h2⟩ := ha.lst
      obtain ⟨p', ws, rfl, h1', h2'⟩ := hb.lst
      obtain ⟨rfl, hz⟩ := h
      cases ho
      rw [← hK] at h1 h1'
      have l1 := h2.length
      have l2 := h2'.length
      exact op_catL pins s σ H _ _ v u Q I rx ry ⟨p, p', us, ws, rfl, rfl, h1, h1', by have := big_line; omega, fun p hp => q.lst p _ hp (h2.append h2')⟩
    · cases e
  · rename_i xs k
    split at e
    · rename_i h
      cases e
      obtain ⟨p, us, rfl, g1, h2⟩ := ha.tupC
      have h1 : SqT X.K H p us := g1.sqt
      have hy := hb.int
      subst hy
      obtain ⟨rfl, h3, h4, h5⟩ := h
      cases ho
      have l1 := h2.length
      refine op_repA pins s σ H _ _ v u Q I rx ry ⟨p, k, us, rfl, rfl, h1, h3, h4, by omega, fun e => ?_, fun _ p o hp ho => ?_⟩
      · have : (List.replicate k.toNat xs).flatten = xs := by
          rcases e with e | e
          · subst e
            have : xs = [] := List.eq_nil_of_length_eq_zero l1
            subst this
            simp
          · subst e
            simp
        exact q.tupOld g1 (by rw [this]; exact h2)
      · exact q.tup p o _ hp ho (h2.rep _)
    · cases e
  · rename_i xs k
    split at e
    · rename_i h
      cases e
      obtain ⟨p, us, rfl, h1, h2⟩ := ha.lst
      have hy := hb.int
      subst hy
      obtain ⟨rfl, h3, h4, h5⟩ := h
      cases ho
      rw [← hK] at h1
      have l1 := h2.length
      refine op_repL pins s σ H _ _ v u Q I rx ry ⟨p, k, us, rfl, rfl, h1, by omega, by omega, ?_, fun p hp => q.lst p _ hp (h2.rep _)⟩
      have a1 : us.length * k.toNat ≤ 1000 * 1000 := Nat.mul_le_mul (by omega) (by omega)
      rw [sizeLine_eq]
      omega
    · cases e
  · cases e
end
end Hb

/-! Dicts: what stands in the heap, what is asked of it. -/
namespace Hb
open PySem PySem.Spec PyProof.Rows L2

theorem intsP_mem : ∀ {ks : List P} {ns : List Int}, intsP ks = some ns → ks = ns.map P.int
  | [], ns, h => by
    cases h
    rfl
  | k :: ks, ns, h => by
    cases k <;> simp only [intsP] at h <;> try cases h
    rename_i i
    obtain ⟨ms, h1, rfl⟩ := Option.map_eq_some_iff.mp h
    rw [intsP_mem h1]
    rfl
theorem kHas_get : ∀ (ks vs : List P) (a : P), ks.length = vs.length → (kGet ks vs a).isSome = kHas ks a
  | [], vs, a, _ => by cases vs <;> rfl
  | k :: ks, [], a, h => by simp at h
  | k :: ks, v :: vs, a, h => by
    simp only [kGet, kHas, List.any_cons]
    by_cases e : P.eqv k a = true
    · simp [e]
    · rw [if_neg e, Bool.eq_false_iff.mpr e, Bool.false_or]
      exact kHas_get ks vs a (by simpa using h)
section
variable {X : Cx} {Γ : Gm} {pins : List (Addr × Obj)} {s : Shared} {σ : L2.St} {H : Hp} {x y : V} {v u : Value} {Q : VK} {a b d : P} {ks vs : List P} {xs : List (NestedKey × Addr × Value)} {kvs : List (Key × V)} {p : Addr}
mutual
theorem nested_of (I : Inv X pins σ H s) : ∀ (d : P) (n : Nat) (x : V) (u : Value), Rep Γ H d x → d.key n = true → RelV x u → NestedIs s.heap (keyNK d) u
  | .int i, _, x, u, h, _, r => by
    simp only [Rep] at h
    subst h
    obtain ⟨t, rfl⟩ := r
    exact .int i t
  | .non, _, x, u, h, _, r => by
    simp only [Rep] at h
    subst h
    cases (show u = Value.none from r)
    exact .none
  | .tup ps, 0, x, u, h, hk, r => by simp [P.key] at hk
  | .tup ps, n + 1, x, u, h, hk, r => by
    simp only [Rep] at h
    obtain ⟨a, ys, rfl, ⟨o, ho, _⟩, hr⟩ := h
    cases (show u = Value.ref a from r)
    simp only [P.key] at hk
    obtain ⟨_, _, its, rv, ob, e1, e2, m, e3⟩ := I.hok a _ ho
    exact .tup e1 e2 e3 (nesteds_of I ps n ys its hr hk rv)
  | .bl _, _, _, _, _, h, _ => by simp [P.key] at h
  | .str _, _, _, _, _, h, _ => by simp [P.key] at h
  | .lst _, _, _, _, _, h, _ => by simp [P.key] at h
  | .dct _ _, _, _, _, _, h, _ => by simp [P.key] at h
  | .set _, _, _, _, _, h, _ => by simp [P.key] at h
  | .gl _, _, _, _, _, h, _ => by simp [P.key] at h
  | .fn _ _, _, _, _, _, h, _ => by simp [P.key] at h
  | .wtup _, _, _, _, _, h, _ => by simp [P.key] at h
theorem nesteds_of (I : Inv X pins σ H s) : ∀ (ds : List P) (n : Nat) (ys : List V) (us : List Value), Reps Γ H ds ys → P.keys ds n = true → Vals ys us → NestedAll s.heap (keysNK ds) us
  | [], _, ys, us, h, _, r => by
    cases reps_nil.mp h
    cases r
    exact .nil
  | d :: ds, n, ys, us, h, hk, r => by
    obtain ⟨z, zs, rfl, h1, h2⟩ := reps_cons.mp h
    simp only [P.keys, Bool.and_eq_true] at hk
    cases r with
    | cons r1 r2 => exact .cons (nested_of I d n z _ h1 hk.1 r1) (nesteds_of I ds n zs _ h2 hk.2 r2)
end
theorem kis_of (I : Inv X pins σ H s) (hr : Rep Γ H d (.ref p)) (hk : keyT d = true) : (nestedKind X.prog X.w).is s.heap (keyNK d) p :=
  ⟨nested_of I d 8 _ _ hr (keyT_key hk) rfl, kdepth d 8 (keyT_key hk)⟩
theorem KT.at (kt : KT Γ H ks vs xs) {q : NestedKey × Addr × Value} (h : q ∈ xs) : ∃ k, k ∈ ks ∧ keyT k = true ∧ q.1 = keyNK k ∧ Rep Γ H k (.ref q.2.1) := by
  obtain ⟨zs, h1, h2, h3, h4, h5⟩ := kt
  obtain ⟨j, hj⟩ := List.mem_iff_getElem?.mp h
  obtain ⟨k, e, r⟩ := h3.getV (i := j) (x := .ref q.2.1) (by rw [List.getElem?_map, hj]; rfl)
  have hm := List.mem_of_getElem? e
  have e2 : (xs.map (·.1))[j]? = (ks.map keyNK)[j]? := by rw [h2]
  rw [List.getElem?_map, List.getElem?_map, hj, e] at e2
  exact ⟨k, hm, List.all_eq_true.mp h1 k hm, Option.some.inj e2, r⟩
/-- .. as the library says it -/
theorem dn_of (I : Inv X pins σ H s) (e : Rd H p (.ext (DN xs p))) (kt : KT Γ H ks vs xs) : s.heap.DictOfH (nestedKind X.prog X.w) p xs ∧ xs.length ≤ sizeLine ∧ (p == sysModules) = false := by
  obtain ⟨⟨o, es, ep, h1, h2, h3, h4, h5, h6, h7⟩, _, _⟩ := e.ok I.hok
  refine ⟨⟨o, es, ep, h1, h2, h3, ?_, fun q hq => ?_, h5⟩, h6, h7⟩
  · rw [h4]
    refine List.map_congr_left fun q hq => ?_
    obtain ⟨k, _, hk, e, _⟩ := kt.at hq
    unfold entK entryOfKey
    rw [show (nestedKind X.prog X.w).hash q.1 = khash q.1 from by rw [e]; exact khash_eq X.w k 8 (keyT_key hk)]
  · obtain ⟨k, _, hk, e, r⟩ := kt.at hq
    rw [e]
    exact kis_of I r hk
theorem dn_new {h' : Heap} {P' : Program} {w' : World} {H' : Hp} (kt : ∀ q ∈ xs, ∃ k, keyT k = true ∧ q.1 = keyNK k) (h : h'.DictOfH (nestedKind X.prog X.w) p xs) (hz : xs.length ≤ sizeLine) (hm : (p == sysModules) = false) : ObjOk P' w' H' h' p (.ext (DN xs p)) := by
  obtain ⟨o, es, ep, h1, h2, h3, h4, h5, h6⟩ := h
  refine ⟨⟨o, es, ep, h1, h2, h3, ?_, h6, hz, hm⟩, ⟨o, h1⟩, fun g1 g2 ⟨o, es, ep, q1, q2⟩ st => ⟨o, es, ep, st _ q1, q2⟩⟩
  rw [h4]
  refine List.map_congr_left fun q hq => ?_
  obtain ⟨k, hk, e⟩ := kt q hq
  unfold entK entryOfKey
  rw [show (nestedKind X.prog X.w).hash q.1 = khash q.1 from by rw [e]; exact khash_eq X.w k 8 (keyT_key hk)]
theorem atKey_cons (q : NestedKey × Addr × Value) (xs : List (NestedKey × Addr × Value)) (k : NestedKey) : atKey (q :: xs) k = if q.1 = k then some q.2 else atKey xs k := by
  unfold atKey
  rw [List.find?_cons]
  by_cases e : q.1 = k <;> simp [e]
/-- what is asked of it -/
theorem KT.get : ∀ {ks vs : List P} {xs : List (NestedKey × Addr × Value)}, KT Γ H ks vs xs → keyT a = true →
    (kGet ks vs a = none ∧ atKey xs (keyNK a) = none) ∨ ∃ d q z, kGet ks vs a = some d ∧ atKey xs (keyNK a) = some q ∧ RelV z q.2 ∧ Rep Γ H d z
  | [], vs, xs, ⟨zs, h1, h2, h3, h4, h5⟩, ha => by
    cases xs with
    | nil => exact .inl ⟨rfl, rfl⟩
    | cons q xs => simp at h2
  | k :: ks, vs, xs, ⟨zs, h1, h2, h3, h4, h5⟩, ha => by
    cases xs with
    | nil => simp at h2
    | cons q xs =>
      simp only [List.map_cons, List.cons.injEq] at h2
      simp only [List.all_cons, Bool.and_eq_true] at h1
      cases h5 with
      | cons r5 t5 =>
        rename_i z zs
        cases vs with
        | nil => exact absurd (reps_nil.mp h4) (by simp)
        | cons w ws =>
          have h3 := reps_cons'.mp h3
          have h4 := reps_cons'.mp h4
          simp only [kGet, atKey_cons, h2.1]
          have e := eqv_keyT h1.1 ha
          by_cases hk : keyNK k = keyNK a
          · rw [if_pos hk, if_pos (by rw [e]; exact decide_eq_true hk)]
            exact .inr ⟨_, _, _, rfl, rfl, r5, h4.1⟩
          · rw [if_neg hk, if_neg (by rw [e]; simpa using hk)]
            exact KT.get ⟨zs, h1.2, h2.2, h3.2, h4.2, t5⟩ ha
theorem KT.len (kt : KT Γ H ks vs xs) : ks.length = xs.length ∧ vs.length = xs.length := by
  obtain ⟨zs, h1, h2, h3, h4, h5⟩ := kt
  have a1 := h3.length
  have a2 := h4.length
  have a3 := h5.length
  rw [List.length_map] at a1 a3
  exact ⟨a1, by omega⟩
theorem KT.nint (kt : KT Γ H ks vs xs) : intKs ks = false := by
  obtain ⟨zs, h1, _⟩ := kt
  cases ks with
  | nil => rfl
  | cons k ks =>
    cases k <;> first | rfl | (simp [keyT] at h1)
theorem KI.int (ki : KI Γ H ks vs kvs) : intKs ks = true := by
  obtain ⟨ns, h1, _, h3, _⟩ := ki
  rw [intsP_mem h1]
  cases ns with
  | nil => exact absurd rfl h3
  | cons n ns => rfl
theorem dk_tup (kt : KT Γ H ks vs xs) (e : dkOk ks a = true) : keyT a = true := by
  unfold dkOk at e
  split at e
  · rw [kt.nint] at e
    cases e
  · simp only [Bool.and_eq_true] at e
    exact e.1
theorem dk_int (ki : KI Γ H ks vs kvs) (e : dkOk ks a = true) : ∃ i, a = .int i := by
  unfold dkOk at e
  split at e
  · exact ⟨_, rfl⟩
  · simp [ki.int] at e
theorem KI.get : ∀ {ks vs : List P} {kvs : List (Key × V)} {ns : List Int}, intsP ks = some ns → kvs.map (·.1) = ns.map Sum.inl → Reps Γ H vs (kvs.map (·.2)) → ∀ i : Int,
    (kGet ks vs (.int i) = none ∧ valV kvs (Sum.inl i) = none) ∨ ∃ d z, kGet ks vs (.int i) = some d ∧ valV kvs (Sum.inl i) = some z ∧ Rep Γ H d z
  | ks, vs, kvs, [], h1, h2, h3, i => by
    rw [intsP_mem h1]
    cases kvs with
    | nil => exact .inl ⟨rfl, rfl⟩
    | cons q kvs => simp at h2
  | ks, vs, kvs, n :: ns, h1, h2, h3, i => by
    rw [intsP_mem h1]
    cases kvs with
    | nil => simp at h2
    | cons q kvs =>
      obtain ⟨k, z⟩ := q
      simp only [List.map_cons, List.cons.injEq] at h2
      obtain ⟨rfl, h2⟩ := h2
      cases vs with
      | nil => exact absurd (reps_nil.mp h3) (by simp)
      | cons w ws =>
        have h3 := reps_cons'.mp h3
        have hi : intsP (ns.map P.int) = some ns := by
          clear h2 h3 h1
          induction ns with
          | nil => rfl
          | cons m ns ih => simp only [List.map_cons, intsP, ih, Option.map_some]
        have ih := KI.get (ks := ns.map P.int) hi h2 h3.2 i
        have ev : P.eqv (.int n) (.int i) = decide (n = i) := by
          simp only [P.eqv, P.toD, PyData.eqv]
          by_cases h : n = i <;> simp [h]
        have ec : valV ((Sum.inl n, z) :: kvs) (Sum.inl i) = if n = i then some z else valV kvs (Sum.inl i) := by
          unfold valV
          rw [List.find?_cons]
          by_cases h : n = i <;> simp [h]
        simp only [List.map_cons, kGet, ev, ec]
        by_cases h : n = i
        · exact .inr ⟨w, z, by simp [h], by simp [h], h3.1⟩
        · simp only [h, decide_false, Bool.false_eq_true, if_false]
          exact ih
end
end Hb

/-! Dicts: asked, stored to, made. -/
namespace Hb
open PySem PySem.Spec PyProof.Rows L2

section
variable {X : Cx} {Γ : Gm} {pins : List (Addr × Obj)} {s : Shared} {σ : L2.St} {H : Hp} {x y z : V} {v u w : Value} {Q : VK} {a b d : P} {ks vs : List P} {xs : List (NestedKey × Addr × Value)} {kvs : List (Key × V)} {p : Addr}
theorem key_ref (hk : keyT a = true) (ha : RRep Γ H a x) : ∃ b, x = .ref b ∧ Rep Γ H a (.ref b) := by
  unfold keyT at hk
  split at hk
  · obtain ⟨b, ys, rfl, h1, h2⟩ := ha.tupC
    exact ⟨b, rfl, by simp only [Rep]; exact ⟨b, ys, rfl, h1, h2⟩⟩
  · cases hk
theorem room8 (hu : X.A.units + 65 < cLine) : (nestedKind X.prog X.w).room X.A.in1 := by
  show X.A.units + 1 + 8 < cLine
  omega
theorem room8' (hu : X.A.units + 65 < cLine) : (nestedKind X.prog X.w).room X.A := by
  show X.A.units + 8 < cLine
  omega
theorem KI.len (ki : KI Γ H ks vs kvs) : ks.length = vs.length ∧ ks.length = kvs.length := by
  obtain ⟨ns, k1, k2, k3, k4⟩ := ki
  have e1 := congrArg List.length k2
  rw [List.length_map, List.length_map] at e1
  have e2 := k4.length
  rw [List.length_map] at e2
  have e3 : ks.length = ns.length := by rw [intsP_mem k1, List.length_map]
  exact ⟨by omega, by omega⟩
theorem dct_in (hu : X.A.units + 65 < cLine) (I : Inv X pins σ H s) (rx : RelV x v) (ry : RelV y u) (ha : RRep Γ H a x) (hb : RRep Γ H (.dct ks vs) y) (e : dkOk ks a = true) (q : Q (.bl (kHas ks a)) H) :
    wpAny (model X.prog X.w) X.A (compareOp .In v u) (EP X pins σ Q) X.xe s := by
  obtain ⟨p, o, rfl, hr, hc⟩ := hb.dct
  cases ry
  rcases hc with ⟨xs, rfl, kt⟩ | ⟨kvs, rfl, ki⟩
  · have hk := dk_tup kt e
    obtain ⟨b, rfl, hrep⟩ := key_ref hk ha
    cases rx
    obtain ⟨h1, h2, h3⟩ := dn_of I hr kt
    have hl := kt.len
    refine wpAny_in_heap (room8 hu) (kis_of I hrep hk) h3 h1 ⟨.bl (kHas ks a), H, I.tok _, ?_, q⟩
    have := kHas_get ks vs a (by omega)
    rw [← this]
    rcases kt.get hk with ⟨g1, g2⟩ | ⟨d, q', z, g1, g2, _, _⟩
    · rw [g1, g2]; rfl
    · rw [g1, g2]; rfl
  · obtain ⟨i, rfl⟩ := dk_int ki e
    obtain rfl := ha.int
    obtain ⟨ns, k1, k2, k3, k4⟩ := ki
    have hl : ks.length = vs.length := (KI.len ⟨ns, k1, k2, k3, k4⟩).1
    refine d_in (by omega) I (.inl ⟨kvs, .inl i, hr, rfl, rfl⟩) rx fun s' I' => ⟨.bl (kHas ks (.int i)), H, I', ?_, q⟩
    rw [← kHas_get ks vs _ hl]
    rcases KI.get k1 k2 k4 i with ⟨g1, g2⟩ | ⟨d, z, g1, g2, _⟩
    · rw [g1, g2]; rfl
    · rw [g1, g2]; rfl
theorem dct_notin (hu : X.A.units + 65 < cLine) (I : Inv X pins σ H s) (rx : RelV x v) (ry : RelV y u) (ha : RRep Γ H a x) (hb : RRep Γ H (.dct ks vs) y) (e : dkOk ks a = true) (q : Q (.bl (!kHas ks a)) H) :
    wpAny (model X.prog X.w) X.A (compareOp .NotIn v u) (EP X pins σ Q) X.xe s := by
  obtain ⟨p, o, rfl, hr, hc⟩ := hb.dct
  cases ry
  rcases hc with ⟨xs, rfl, kt⟩ | ⟨kvs, rfl, ki⟩
  · have hk := dk_tup kt e
    obtain ⟨b, rfl, hrep⟩ := key_ref hk ha
    cases rx
    obtain ⟨h1, h2, h3⟩ := dn_of I hr kt
    have hl := kt.len
    refine wpAny_notIn_heap (room8 hu) (kis_of I hrep hk) h3 h1 ⟨.bl (!kHas ks a), H, I.tok _, ?_, q⟩
    have := kHas_get ks vs a (by omega)
    rw [← this]
    rcases kt.get hk with ⟨g1, g2⟩ | ⟨d, q', z, g1, g2, _, _⟩
    · rw [g1, g2]; rfl
    · rw [g1, g2]; rfl
  · obtain ⟨i, rfl⟩ := dk_int ki e
    obtain rfl := ha.int
    obtain ⟨ns, k1, k2, k3, k4⟩ := ki
    have hl : ks.length = vs.length := (KI.len ⟨ns, k1, k2, k3, k4⟩).1
    refine d_notIn (by omega) I (.inl ⟨kvs, .inl i, hr, rfl, rfl⟩) rx fun s' I' => ⟨.bl (!kHas ks (.int i)), H, I', ?_, q⟩
    rw [← kHas_get ks vs _ hl]
    rcases KI.get k1 k2 k4 i with ⟨g1, g2⟩ | ⟨d, z, g1, g2, _⟩
    · rw [g1, g2]; rfl
    · rw [g1, g2]; rfl
/-- d[k] -/
def rIxD (Γ : Gm) : R2 := fun x y H Q => ∃ ks vs a d, RRep Γ H (.dct ks vs) x ∧ RRep Γ H a y ∧ dkOk ks a = true ∧ kGet ks vs a = some d ∧ ∀ z, Rep Γ H d z → Q z H
theorem dct_get (hu : X.A.units + 65 < cLine) (I : Inv X pins σ H s) (rx : RelV x v) (ry : RelV y u) (hb : RRep Γ H (.dct ks vs) x) (ha : RRep Γ H a y) (e : dkOk ks a = true) (g : kGet ks vs a = some d) (q : ∀ z, Rep Γ H d z → Q z H) :
    s.TypeIs v "dict" ∧ wpAny (model X.prog X.w) X.A (getItem v u) (EP X pins σ Q) X.xe s := by
  obtain ⟨p, o, rfl, hr, hc⟩ := hb.dct
  cases rx
  rcases hc with ⟨xs, rfl, kt⟩ | ⟨kvs, rfl, ki⟩
  · have hk := dk_tup kt e
    obtain ⟨b, rfl, hrep⟩ := key_ref hk ha
    cases ry
    obtain ⟨h1, h2, h3⟩ := dn_of I hr kt
    refine ⟨h1.typeIs, ?_⟩
    rcases kt.get hk with ⟨g1, g2⟩ | ⟨d', q', z, g1, g2, g3, g4⟩
    · rw [g1] at g; cases g
    · rw [g1] at g
      cases g
      exact wpAny_getItem_heap (room8 hu) (kis_of I hrep hk) h1 g2 ⟨z, H, I.tok _, g3, q z g4⟩
  · obtain ⟨i, rfl⟩ := dk_int ki e
    obtain rfl := ha.int
    obtain ⟨ns, k1, k2, k3, k4⟩ := ki
    rcases KI.get k1 k2 k4 i with ⟨g1, g2⟩ | ⟨d', z, g1, g2, g3⟩
    · rw [g1] at g; cases g
    · rw [g1] at g
      cases g
      have dg : DGet H p (.int i) (some z) := .inl ⟨kvs, .inl i, hr, rfl, g2.symm⟩
      exact ⟨dict_typeIs I dg, d_getItem (by omega) I dg ry fun w' s' I' rw' => ⟨z, H, I', rw', q z g3⟩⟩
theorem ix_dct (hu : X.A.units + 65 < cLine) : IxR X (rIxD Γ) := by
  intro value slice pins s σ H x y v u Q I rx ry h hs
  obtain ⟨ks, vs, a, d, h1, h2, h3, h4, q⟩ := h
  obtain ⟨hT, hw⟩ := dct_get hu I rx ry h1 h2 h3 h4 q
  have key : ∀ (R : Value → Shared → Prop), wpAny (model X.prog X.w) X.A (getItem v u) R X.xe s → wpAny (model X.prog X.w) X.A (subscriptTail value slice v u) R X.xe s := by
    intro R hR
    have hl : typeLookup (.type "dict") "__getitem__" = pure (some (.builtin "dict.__getitem__")) := PySem.F.slot_dict_getitem.lookup
    unfold subscriptTail
    refine wpAny_bind ?_
    rw [getitemInPython_of_ne hT.not_modules]
    refine wpAny_bind (wpAny_specialOf hT hl ?_)
    have fin : wpAny (model X.prog X.w) X.A (subscripted slice false v u) (fun r s₃ => wpAny (model X.prog X.w) X.A (letTemporaryGo value v r >>= fun _ => pure r) R X.xe s₃) X.xe s := by
      rw [hs]
      refine wpAny_operating (wpAny_mono hR (fun r s3 h3 => ?_) fun _ _ e => e)
      exact wpAny_bind (wpAny_letTemporaryGo (wpAny_pure h3))
    first
      | exact wpAny_pure (wpAny_bind fin)
      | exact wpAny_bind (wpAny_pure (wpAny_bind fin))
      | exact wpAny_bind fin
  exact key _ hw
/-! ### d[k] = v -/
theorem all_snoc {ks : List P} (h : ks.all keyT = true) (hk : keyT a = true) : (ks ++ [a]).all keyT = true := by
  rw [List.all_append, h]
  simp [hk]
theorem eqv_keys : ∀ {ks : List P} {xs : List (NestedKey × Addr × Value)}, ks.all keyT = true → keyT a = true → xs.map (·.1) = ks.map keyNK → (atKey xs (keyNK a)).isSome = kHas ks a
  | [], xs, _, _, h => by
    cases xs with
    | nil => rfl
    | cons q xs => simp at h
  | k :: ks, xs, h1, hk, h => by
    cases xs with
    | nil => simp at h
    | cons q xs =>
      simp only [List.map_cons, List.cons.injEq] at h
      simp only [List.all_cons, Bool.and_eq_true] at h1
      rw [atKey_cons, h.1]
      have e := eqv_keyT h1.1 hk
      show _ = (P.eqv k a || kHas ks a)
      rw [e]
      by_cases hka : keyNK k = keyNK a
      · rw [if_pos hka, decide_eq_true hka]; rfl
      · rw [if_neg hka, decide_eq_false hka, Bool.false_or]
        exact eqv_keys h1.2 hk h.2
theorem put_vals : ∀ {ks vs : List P} {xs : List (NestedKey × Addr × Value)} {zs : List V}, ks.all keyT = true → keyT a = true → xs.map (·.1) = ks.map keyNK → Reps Γ H vs zs → Vals zs (xs.map (·.2.2)) → Rep Γ H d z → RelV z w →
    ∃ zs', Reps Γ H (kPutV ks vs a d) zs' ∧ Vals zs' ((xs.map (putAt (keyNK a) w)).map (·.2.2))
  | [], vs, xs, zs, _, _, h, _, _, _, _ => by
    cases xs with
    | nil => exact ⟨[], reps_nil.mpr rfl, .nil⟩
    | cons q xs => simp at h
  | k :: ks, vs, xs, zs, h1, hk, h, hr, hv, rd, rz => by
    cases xs with
    | nil => simp at h
    | cons q xs =>
      simp only [List.map_cons, List.cons.injEq] at h
      simp only [List.all_cons, Bool.and_eq_true] at h1
      cases hv with
      | cons r5 t5 =>
        rename_i z0 zs
        cases vs with
        | nil => exact absurd (reps_nil.mp hr) (by simp)
        | cons v0 vs =>
          have hr := reps_cons'.mp hr
          obtain ⟨zs', i1, i2⟩ := put_vals h1.2 hk h.2 hr.2 t5 rd rz
          have e := eqv_keyT h1.1 hk
          by_cases hka : keyNK k = keyNK a
          · refine ⟨z :: zs', ?_, ?_⟩
            · show Reps Γ H ((if P.eqv k a then d else v0) :: kPutV ks vs a d) _
              rw [if_pos (by rw [e]; exact decide_eq_true hka)]
              exact reps_cons'.mpr ⟨rd, i1⟩
            · simp only [List.map_cons]
              refine .cons ?_ i2
              show RelV z (putAt (keyNK a) w q).2.2
              unfold putAt
              rw [if_pos (by rw [h.1]; exact hka)]
              exact rz
          · refine ⟨z0 :: zs', ?_, ?_⟩
            · show Reps Γ H ((if P.eqv k a then d else v0) :: kPutV ks vs a d) _
              rw [if_neg (by rw [e]; simpa using hka)]
              exact reps_cons'.mpr ⟨hr.1, i1⟩
            · simp only [List.map_cons]
              refine .cons ?_ i2
              show RelV z0 (putAt (keyNK a) w q).2.2
              unfold putAt
              rw [if_neg (by rw [h.1]; exact hka)]
              exact r5
/-- the entries behind a store -/
theorem KT.put (kt : KT Γ H ks vs xs) (hk : keyT a = true) (ra : Rep Γ H a (.ref p)) (rd : Rep Γ H d z) (rz : RelV z w) : ∃ ks' vs', kPut ks vs a d = .dct ks' vs' ∧ KT Γ H ks' vs' (storedH xs (keyNK a) p w) := by
  obtain ⟨zs, h1, h2, h3, h4, h5⟩ := kt
  have e := eqv_keys (a := a) h1 hk h2
  by_cases hc : kHas ks a = true
  · refine ⟨ks, kPutV ks vs a d, by unfold kPut; rw [if_pos hc], ?_⟩
    obtain ⟨zs', i1, i2⟩ := put_vals h1 hk h2 h4 h5 rd rz
    unfold storedH
    rw [e, if_pos hc]
    have ka : (xs.map (putAt (keyNK a) w)).map (·.1) = xs.map (·.1) := keys_map_putAt xs _ w
    have kb : ((xs.map (putAt (keyNK a) w)).map fun q => V.ref q.2.1) = xs.map fun q => V.ref q.2.1 := by
      rw [List.map_map]
      refine List.map_congr_left fun q _ => ?_
      show V.ref (putAt (keyNK a) w q).2.1 = _
      unfold putAt
      split <;> rfl
    exact ⟨zs', h1, by rw [ka]; exact h2, by rw [kb]; exact h3, i1, i2⟩
  · refine ⟨ks ++ [a], vs ++ [d], by unfold kPut; rw [if_neg hc], zs ++ [z], all_snoc h1 hk, ?_, ?_, ?_, ?_⟩
    all_goals
      try unfold storedH
      try rw [e, if_neg hc]
    · rw [List.map_append, List.map_append, h2]; rfl
    · rw [List.map_append]
      exact h3.append (reps_cons'.mpr ⟨ra, reps_nil.mpr rfl⟩)
    · exact h4.append (reps_cons'.mpr ⟨rd, reps_nil.mpr rfl⟩)
    · rw [List.map_append]
      exact h5.append (.cons rz .nil)
theorem stored_len (xs : List (NestedKey × Addr × Value)) (k : NestedKey) (p : Addr) (w : Value) : (storedH xs k p w).length ≤ xs.length + 1 := by
  unfold storedH
  split
  · rw [List.length_map]; omega
  · rw [List.length_append]; simp
theorem big_sl : BIG < sizeLine := by rw [sizeLine_eq]; decide
/-- the dict at p is stored to -/
theorem dn_put (I : Inv X pins σ H s) (e : H p = some (.ext (DN xs p))) (kt : KT Γ H ks vs xs) (hz : ks.length < BIG) {b : Addr} (hk : keyT a = true) (ra : Rep Γ H a (.ref b)) (rd : Rep Γ H d z) (rz : RelV z w) {h' : Heap} {t' : Nat}
    (hm : h'.DictOfH (nestedKind X.prog X.w) p (storedH xs (keyNK a) b w)) (sb : Heap.SameBut p s.heap h') : Inv X pins σ (upd H p (.ext (DN (storedH xs (keyNK a) b w) p))) { s with heap := h', toks := t' } := by
  obtain ⟨_, h2, h3⟩ := dn_of I (.inl e) kt
  have hl := kt.len
  have hb := big_sl
  have hs := stored_len xs (keyNK a) b w
  obtain ⟨ks', vs', _, kt'⟩ := kt.put hk ra rd rz
  obtain ⟨q, _, _, hq, _⟩ := id hm
  refine d_write I (by rw [e]; trivial) sb ⟨q, hq⟩ (dn_new (X := X) (fun q hq => ?_) hm (by omega) h3)
  obtain ⟨k, _, e1, e2, _⟩ := kt'.at hq
  exact ⟨k, e1, e2⟩
theorem KI.put (ki : KI Γ H ks vs kvs) (i : Int) (rd : Rep Γ H d z) : ∃ ks' vs', kPut ks vs (.int i) d = .dct ks' vs' ∧ KI Γ H ks' vs' (L2.putK kvs (.inl i) z) := by
  obtain ⟨ns, k1, k2, k3, k4⟩ := ki
  have hks := intsP_mem k1
  have int_of : ∀ ms : List Int, intsP (ms.map P.int) = some ms := by
    intro ms
    induction ms with
    | nil => rfl
    | cons m ms ih => simp only [List.map_cons, intsP, ih, Option.map_some]
  have hany : (kvs.any fun kv => decide (kv.1 = (Sum.inl i : Key))) = kHas ks (.int i) := by
    rw [hks]
    unfold kHas
    rw [List.any_map]
    have : (kvs.any fun kv => decide (kv.1 = (Sum.inl i : Key))) = (kvs.map (·.1)).any fun k => decide (k = (Sum.inl i : Key)) := by
      rw [List.any_map]; rfl
    rw [this, k2, List.any_map]
    congr 1
    funext n
    show decide ((Sum.inl n : Key) = Sum.inl i) = P.eqv (.int n) (.int i)
    simp only [P.eqv, P.toD, PyData.eqv]
    by_cases h : n = i <;> simp [h]
  by_cases hc : kHas ks (.int i) = true
  · refine ⟨ks, kPutV ks vs (.int i) d, by unfold kPut; rw [if_pos hc], ns, k1, ?_, k3, ?_⟩
    · unfold L2.putK
      rw [hany, if_pos hc, List.map_map, ← k2]
      refine List.map_congr_left fun q _ => ?_
      simp only [Function.comp]
      split <;> simp_all
    · unfold L2.putK
      rw [hany, if_pos hc]
      clear hany hc
      subst hks
      clear k1 k3
      induction ns generalizing kvs vs with
      | nil =>
        cases kvs with
        | nil => exact reps_nil.mpr rfl
        | cons q kvs => simp at k2
      | cons n ns ih =>
        cases kvs with
        | nil => simp at k2
        | cons q kvs =>
          simp only [List.map_cons, List.cons.injEq] at k2
          cases vs with
          | nil => exact absurd (reps_nil.mp k4) (by simp)
          | cons v0 vs =>
            have k4 := reps_cons'.mp k4
            have ih := ih k2.2 k4.2
            have ev : P.eqv (.int n) (.int i) = decide (n = i) := by
              simp only [P.eqv, P.toD, PyData.eqv]
              by_cases h : n = i <;> simp [h]
            show Reps Γ H ((if P.eqv (.int n) (.int i) then d else v0) :: kPutV (ns.map P.int) vs (.int i) d) _
            simp only [List.map_cons]
            refine reps_cons'.mpr ⟨?_, ih⟩
            rw [ev, k2.1]
            by_cases h : n = i
            · simp [h]; exact rd
            · simp [h]; exact k4.1
  · refine ⟨ks ++ [.int i], vs ++ [d], by unfold kPut; rw [if_neg hc], ns ++ [i], ?_, ?_, by simp, ?_⟩
    · rw [hks, ← int_of (ns ++ [i])]; simp
    all_goals
      unfold L2.putK
      rw [hany, if_neg hc, List.map_append]
    · rw [k2]; simp
    · exact k4.append (reps_cons'.mpr ⟨rd, reps_nil.mpr rfl⟩)
def rSetD (Γ : Gm) : TSet := fun o i v H Q => ∃ p u ks vs a d, o = .ref p ∧ H p = some u ∧ CRep Γ H (.dct ks vs) u p ∧ RRep Γ H a i ∧ Rep Γ H d v ∧ dkOk ks a = true ∧ ks.length < BIG ∧
  ∀ u' ks' vs', kPut ks vs a d = .dct ks' vs' → CRep Γ H (.dct ks' vs') u' p → Q (upd H p u')
theorem set_dct (hu : X.A.units + 65 < cLine) : PSet X (rSetD Γ) := by
  intro pins s σ H o i v ov iv u Q I ro ri rv h
  obtain ⟨p, c, ks, vs, a, d, rfl, hp, hc, ha, hd, hk, hz, q⟩ := h
  cases ro
  rcases hc with ⟨xs, rfl, kt⟩ | ⟨kvs, rfl, ki⟩
  · have hkt := dk_tup kt hk
    obtain ⟨b, rfl, hrep⟩ := key_ref hkt ha
    cases ri
    obtain ⟨h1, h2, h3⟩ := dn_of I (.inl hp) kt
    refine wpAny_setItem_heap (hsz := h2) (room8 hu) (kis_of I hrep hkt) h1 fun h' hm sb => ?_
    obtain ⟨ks', vs', e, kt'⟩ := kt.put hkt hrep hd rv
    exact ⟨_, dn_put I hp kt hz hkt hrep hd rv hm sb, q _ _ _ e (.inl ⟨_, rfl, kt'⟩)⟩
  · obtain ⟨j, rfl⟩ := dk_int ki hk
    obtain rfl := ha.int
    obtain ⟨ks', vs', e, ki'⟩ := ki.put j hd
    have hl : kvs.length < sizeLine := by
      have hb := big_sl
      have := ki.len
      omega
    exact d_setItem (by omega) I (.inl ⟨kvs, .inl j, hp, rfl, hl, rfl⟩) ri rv fun s' I' => ⟨_, I', q _ _ _ e (.inr ⟨_, rfl, ki'⟩)⟩
end
end Hb

namespace Hb
open PySem PySem.Spec PyProof.Rows L2
theorem toD_lst (ps : List P) : P.toD (.lst ps) = .list (P.toDs ps) := by simp only [P.toD]
theorem toD_tup (ps : List P) : P.toD (.tup ps) = .tuple (P.toDs ps) := by simp only [P.toD]
section
variable {X : Cx} {Γ : Gm} {pins : List (Addr × Obj)} {s : Shared} {σ : L2.St} {H : Hp} {x y : V} {v u : Value} {Q : VK} {a b d : P}
theorem in_ok (hK : X.K = Γ.K) (hu : X.A.units + 65 < cLine) (I : Inv X pins σ H s) (rx : RelV x v) (ry : RelV y u) (ha : RRep Γ H a x) (hb : RRep Γ H b y) {c : Bool} (e : inOp a b = some c) (q : Q (.bl c) H) :
    wpAny (model X.prog X.w) X.A (compareOp .In v u) (EP X pins σ Q) X.xe s := by
  unfold inOp at e
  split at e
  · split at e
    · rename_i hk
      cases e
      exact dct_in hu I rx ry ha hb hk q
    · cases e
  split at e
  · rename_i ys hi
    split at e
    · rename_i hc
      cases e
      simp only [cmpb, Bool.and_eq_true] at hc
      have d1 := ha.dp hc.1
      have d2 := hb.dp hc.2
      rw [← hK] at d1 d2
      obtain ⟨as, r1⟩ := Dp.reads I _ x v d1 rx
      obtain ⟨bs, r2⟩ := Dp.reads I _ y u d2 ry
      have s1 := dep_shaped hc.1
      have s2 := dep_shaped hc.2
      cases b <;> cases hi
      · rw [toD_tup] at r2 s2
        refine SeqAt.in_tuple_reads r2 r1 (SeqAt.canLay_of_shaped s2) (SeqAt.canLay_of_shaped s1) (room_in_shaped s1 hu) ?_
        rw [toDs_any]
        exact ⟨.bl _, H, I, rfl, q⟩
      · rw [toD_lst] at r2 s2
        refine SeqAt.in_list_reads r2 r1 (SeqAt.canLay_of_shaped s2) (SeqAt.canLay_of_shaped s1) (room_in_shaped s1 hu) ?_
        rw [toDs_any]
        exact ⟨.bl _, H, I, rfl, q⟩
      · exact absurd hc.2 (by simp [P.dep])
    · cases e
  · cases e
theorem notin_ok (hK : X.K = Γ.K) (hu : X.A.units + 65 < cLine) (I : Inv X pins σ H s) (rx : RelV x v) (ry : RelV y u) (ha : RRep Γ H a x) (hb : RRep Γ H b y) {c : Bool} (e : inOp a b = some c) (q : Q (.bl (!c)) H) :
    wpAny (model X.prog X.w) X.A (compareOp .NotIn v u) (EP X pins σ Q) X.xe s := by
  unfold inOp at e
  split at e
  · split at e
    · rename_i hk
      cases e
      exact dct_notin hu I rx ry ha hb hk q
    · cases e
  split at e
  · rename_i ys hi
    split at e
    · rename_i hc
      cases e
      simp only [cmpb, Bool.and_eq_true] at hc
      have d1 := ha.dp hc.1
      have d2 := hb.dp hc.2
      rw [← hK] at d1 d2
      obtain ⟨as, r1⟩ := Dp.reads I _ x v d1 rx
      obtain ⟨bs, r2⟩ := Dp.reads I _ y u d2 ry
      have s1 := dep_shaped hc.1
      have s2 := dep_shaped hc.2
      cases b <;> cases hi
      · rw [toD_tup] at r2 s2
        refine SeqAt.notIn_tuple_reads r2 r1 (SeqAt.canLay_of_shaped s2) (SeqAt.canLay_of_shaped s1) (room_in_shaped s1 hu) ?_
        rw [toDs_any]
        exact ⟨.bl _, H, I, rfl, q⟩
      · rw [toD_lst] at r2 s2
        refine SeqAt.notIn_list_reads r2 r1 (SeqAt.canLay_of_shaped s2) (SeqAt.canLay_of_shaped s1) (room_in_shaped s1 hu) ?_
        rw [toDs_any]
        exact ⟨.bl _, H, I, rfl, q⟩
      · exact absurd hc.2 (by simp [P.dep])
    · cases e
  · cases e
theorem eq_ok (hK : X.K = Γ.K) (hu : X.A.units + 64 < cLine) (I : Inv X pins σ H s) (rx : RelV x v) (ry : RelV y u) (ha : RRep Γ H a x) (hb : RRep Γ H b y) (e : cmpb a b = true) (q : Q (.bl (P.eqv a b)) H) :
    wpAny (model X.prog X.w) X.A (compareOp .Eq v u) (EP X pins σ Q) X.xe s := by
  simp only [cmpb, Bool.and_eq_true] at e
  have d1 := ha.dp e.1
  have d2 := hb.dp e.2
  rw [← hK] at d1 d2
  exact op_eqD hu pins s σ H x y v u Q I rx ry ⟨_, _, d1, d2, dep_shaped e.1, dep_shaped e.2, q⟩
theorem ne_ok (hK : X.K = Γ.K) (hu : X.A.units + 64 < cLine) (I : Inv X pins σ H s) (rx : RelV x v) (ry : RelV y u) (ha : RRep Γ H a x) (hb : RRep Γ H b y) (e : cmpb a b = true) (q : Q (.bl (!P.eqv a b)) H) :
    wpAny (model X.prog X.w) X.A (compareOp .NotEq v u) (EP X pins σ Q) X.xe s := by
  simp only [cmpb, Bool.and_eq_true] at e
  have d1 := ha.dp e.1
  have d2 := hb.dp e.2
  rw [← hK] at d1 d2
  exact op_neD hu pins s σ H x y v u Q I rx ry ⟨_, _, d1, d2, dep_shaped e.1, dep_shaped e.2, q⟩
theorem rrep_non {x : V} {c : Bool} (h : RRep Γ H a x) (e : isNon a = some c) : decide (x = V.non) = c := by
  rcases h with h | ⟨p, o, rfl, h1, h2⟩
  · cases a <;> cases e <;> simp only [Rep] at h
    · subst h; rfl
    · subst h; rfl
    · subst h; rfl
    · subst h; rfl
    · obtain ⟨_, _, rfl, _⟩ := h; rfl
    · obtain ⟨_, _, rfl, _⟩ := h; rfl
    · rcases h with ⟨_, _, _, _, rfl, _⟩ | ⟨_, _, _, _, rfl, _⟩ <;> rfl
    · obtain ⟨_, _, rfl, _⟩ := h; rfl
  · cases a <;> cases e <;> first | rfl | exact h2.elim
theorem is_ok (I : Inv X pins σ H s) (rx : RelV x v) (ry : RelV y u) (ha : RRep Γ H a x) (hb : RRep Γ H b y) {c : Bool} (e : isOp a b = some c) (q : Q (.bl c) H) :
    wpAny (model X.prog X.w) X.A (compareOp .Is v u) (EP X pins σ Q) X.xe s := by
  unfold isOp at e
  split at e
  · have hy := hb.non
    subst hy
    exact op_isN pins s σ H x _ v u Q I rx ry ⟨rfl, by rw [rrep_non ha e]; exact q⟩
  · have hx := ha.bl
    have hy := hb.bl
    subst hx hy
    cases e
    exact op_isBl pins s σ H _ _ v u Q I rx ry ⟨_, _, rfl, rfl, q⟩
  · cases e
theorem isnot_ok (I : Inv X pins σ H s) (rx : RelV x v) (ry : RelV y u) (ha : RRep Γ H a x) (hb : RRep Γ H b y) {c : Bool} (e : isOp a b = some c) (q : Q (.bl (!c)) H) :
    wpAny (model X.prog X.w) X.A (compareOp .IsNot v u) (EP X pins σ Q) X.xe s := by
  unfold isOp at e
  split at e
  · have hy := hb.non
    subst hy
    exact op_notN pins s σ H x _ v u Q I rx ry ⟨rfl, by rw [rrep_non ha e]; exact q⟩
  · have hx := ha.bl
    have hy := hb.bl
    subst hx hy
    cases e
    exact op_notBl pins s σ H _ _ v u Q I rx ry ⟨_, _, rfl, rfl, q⟩
  · cases e
/-- a comparison -/
theorem cmp_ok (hK : X.K = Γ.K) (hu : X.A.units + 65 < cLine) {o : O2} {op : CmpOp} (ho : o.cop = some op) (I : Inv X pins σ H s) (rx : RelV x v) (ry : RelV y u) (ha : RRep Γ H a x) (hb : RRep Γ H b y) (e : op2 o a b = some d)
    (q : ∀ c, d = .bl c → Q (.bl c) H) : wpAny (model X.prog X.w) X.A (compareOp op v u) (EP X pins σ Q) X.xe s := by
  have hint : ∀ {o : O2} {f : Int → Int → Bool}, (∀ i j, intOp o i j = some (.bl (f i j))) → o.bop = none → arith o a b = some d → (∀ i j, x = .int i → y = .int j → Q (.bl (f i j)) H → wpAny (model X.prog X.w) X.A (compareOp op v u) (EP X pins σ Q) X.xe s) →
      wpAny (model X.prog X.w) X.A (compareOp op v u) (EP X pins σ Q) X.xe s := by
    intro o f hf hbo e k
    unfold arith at e
    split at e
    · rename_i i j _
      rw [hf] at e
      cases e
      exact k i j ha.int hb.int (q _ rfl)
    all_goals first
      | (split at e
         · rename_i h
           obtain ⟨rfl, _⟩ := h
           cases hbo
         · cases e)
      | cases e
  cases o <;> cases ho <;> simp only [op2] at e
  · exact hint (f := fun i j => decide (i < j)) (fun _ _ => rfl) rfl e fun i j hx hy q => op_lt pins s σ H x y v u Q I rx ry ⟨i, j, hx, hy, q⟩
  · exact hint (f := fun i j => decide (i ≤ j)) (fun _ _ => rfl) rfl e fun i j hx hy q => op_le pins s σ H x y v u Q I rx ry ⟨i, j, hx, hy, q⟩
  · exact hint (f := fun i j => decide (j < i)) (fun _ _ => rfl) rfl e fun i j hx hy q => op_gt pins s σ H x y v u Q I rx ry ⟨i, j, hx, hy, q⟩
  · exact hint (f := fun i j => decide (j ≤ i)) (fun _ _ => rfl) rfl e fun i j hx hy q => op_ge pins s σ H x y v u Q I rx ry ⟨i, j, hx, hy, q⟩
  · split at e
    · rename_i h
      cases e
      exact eq_ok hK (by omega) I rx ry ha hb h (q _ rfl)
    · cases e
  · split at e
    · rename_i h
      cases e
      exact ne_ok hK (by omega) I rx ry ha hb h (q _ rfl)
    · cases e
  · cases h : inOp a b with
    | none => rw [h] at e; cases e
    | some c =>
      rw [h] at e
      cases e
      exact in_ok hK hu I rx ry ha hb h (q _ rfl)
  · cases h : inOp a b with
    | none => rw [h] at e; cases e
    | some c =>
      rw [h] at e
      cases e
      exact notin_ok hK hu I rx ry ha hb h (q _ rfl)
  · cases h : isOp a b with
    | none => rw [h] at e; cases e
    | some c =>
      rw [h] at e
      cases e
      exact is_ok I rx ry ha hb h (q _ rfl)
  · cases h : isOp a b with
    | none => rw [h] at e; cases e
    | some c =>
      rw [h] at e
      cases e
      exact isnot_ok I rx ry ha hb h (q _ rfl)

/-! ### items, slices -/
theorem reps_atI {ds : List P} {xs : List V} {i : Int} (r : Reps Γ H ds xs) (e : atI ds i = some d) : ∃ z, atI xs i = some z ∧ Rep Γ H d z := by
  unfold atI at e ⊢
  rw [← r.length]
  cases h : ixN ds.length i with
  | none => rw [h] at e; cases e
  | some j =>
    rw [h] at e
    exact r.get e
theorem ix_ok (hK : X.K = Γ.K) (ha : RRep Γ H a x) (hb : RRep Γ H b y) (e : ix a b = some d) (q : ∀ z, Rep Γ H d z → Q z H) : rIx X.K x y H Q ∨ rIxD Γ x y H Q := by
  unfold ix at e
  split at e
  · rename_i ds j
    obtain ⟨p, xs, rfl, h1, h2⟩ := ha.tup
    have hy := hb.int
    subst hy
    obtain ⟨z, e1, r⟩ := reps_atI h2 e
    rw [← hK] at h1
    exact .inl (.inr (.inl ⟨p, xs, j, z, rfl, rfl, h1, e1, q z r⟩))
  · rename_i ds j
    obtain ⟨p, xs, rfl, h1, h2⟩ := ha.lst
    have hy := hb.int
    subst hy
    obtain ⟨z, e1, r⟩ := reps_atI h2 e
    rw [← hK] at h1
    exact .inl (.inl ⟨p, xs, j, z, rfl, rfl, h1, e1, q z r⟩)
  · split at e
    · rename_i hk
      exact .inr ⟨_, _, _, _, ha, hb, hk, e, q⟩
    · cases e
  · cases e
theorem reps_cut {ds : List P} {xs : List V} (r : Reps Γ H ds xs) (lo hi : Option Int) : Reps Γ H (cut ds lo hi) (cutV xs lo hi) := by
  unfold cut cutV
  rw [r.length]
  exact (r.drop _).take _
theorem cut_whole {α : Type} (xs : List α) (lo hi : Option Int) (h : HT.sIx xs.length 0 lo = 0 ∧ HT.sIx xs.length xs.length hi = xs.length) : cut xs lo hi = xs := by
  unfold cut
  rw [h.1, h.2]
  simp
/-- t[lo:hi] -/
def rSlC (K : PySem.W.Frag) : V → Option Int → Option Int → Hp → VK → Prop := fun x lo hi H Q => ∃ a xs, x = .ref a ∧ SqT K H a xs ∧
  (HT.sIx xs.length 0 lo = 0 ∧ HT.sIx xs.length xs.length hi = xs.length → Q (.ref a) H) ∧ (¬ (HT.sIx xs.length 0 lo = 0 ∧ HT.sIx xs.length xs.length hi = xs.length) → ∀ p o, H p = none → o.dict = none → Q (.ref p) (upd H p (.frz o (.tup (cutV xs lo hi)))))
theorem sl_tupC : SlR X (rSlC X.K) := by
  intro pins s σ H x v vl vu lo hi sl Q I rx hs pl pu h
  obtain ⟨a, xs, rfl, hx, q1, q2⟩ := h
  cases rx
  obtain ⟨its, r, ht, hz⟩ := I.tuple hx
  have hlen : its.toArray.size = xs.length := by rw [List.size_toArray]; exact r.length.symm
  refine ⟨"tuple", _, PyProof.Rows.slot_tuple_getitem.lookup, ht.typeIs, ?_⟩
  by_cases hw : HT.sIx xs.length 0 lo = 0 ∧ HT.sIx xs.length xs.length hi = xs.length
  · exact L2.getItem_tuple_whole ht hs pl pu (by rw [hlen]; exact hw) ⟨.ref a, H, I, rfl, q1 hw⟩
  · refine HT.getItem_tuple_cut ht hs pl pu (by rw [hlen]; exact hw) ?_ (by rw [hlen]; exact hz)
    rw [hlen]
    exact ⟨.ref s.heap.objs.size, _, laidT (t' := s.toks) I (fun b ob q => Heap.get?_push_of_some _ q) (Nat.le_refl _) (Heap.get?_push_size _ rfl) rfl rfl (Nat.le_trans (cutV_length xs lo hi) hz) ((r.drop _).take _), rfl, q2 hw _ _ (I.hok.fresh (Nat.le_refl _)) rfl⟩
def rSl (K : PySem.W.Frag) : V → Option Int → Option Int → Hp → VK → Prop := fun x lo hi H Q => rSlC K x lo hi H Q ∨ rSlL K x lo hi H Q
theorem sl_seq : SlR X (rSl X.K) := sl_tupC.or sl_list
theorem slc_ok (hK : X.K = Γ.K) (ha : RRep Γ H a x) {lo hi : Option Int} (e : slc a lo hi = some d) (q : Raw Γ H d Q) : rSl X.K x lo hi H Q := by
  unfold slc at e
  split at e
  · rename_i ds
    cases e
    obtain ⟨p, xs, rfl, g1, h2⟩ := ha.tupC
    have hl := h2.length
    refine .inl ⟨p, xs, rfl, g1.sqt, fun hw => ?_, fun _ p' o hp ho => q.tup _ o _ hp ho (reps_cut h2 lo hi)⟩
    refine q.tupOld g1 ?_
    rw [cut_whole ds lo hi (by rw [hl]; exact hw)]
    exact h2
  · rename_i ds
    cases e
    obtain ⟨p, xs, rfl, h1, h2⟩ := ha.lst
    exact .inr ⟨p, xs, rfl, hK ▸ h1, fun p' hp => q.lst _ _ hp (reps_cut h2 lo hi)⟩
  · cases e
end
end Hb

/-! What is walked. -/
namespace Hb
open PySem PySem.Spec PyProof.Rows L2

/-! ### enumerate(tuple) -/
theorem meets_enumerate_newT (l : Addr) (items : Array Value) :
    Meets (Builtin.«enumerate.__new__» ⟨[.type "enumerate", .ref l], []⟩) (fun _ R s => s.heap.IsTuple l items ∧
      R (.ok (.ret (.ref (s.heap.push { cls := .type "tuple_iterator", data := .fields #[.ref l, .int 0 0] }).objs.size)))
        { s with heap := (s.heap.push { cls := .type "tuple_iterator", data := .fields #[.ref l, .int 0 0] }).push { cls := .type "enumerate", data := .fields #[.none, .bool false, .ref s.heap.objs.size, rawInt 0, .none, .none] } }) :=
  .of_wp fun prog w A R s h => by
    obtain ⟨hp, g, d, tk, os⟩ := s; obtain ⟨hL, h⟩ := h
    have hsub := sub_enumerate
    have hL : Heap.IsTuple (Shared.heap ⟨hp, g, d, tk, os⟩) l items := hL
    wp_walk using wpAny_pyIter_tuple hL
    refine wpAny_stack_any fun st => wpAny_pure ?_
    split
    · rename_i c _ _ _ _ _
      cases (c == Value.type "enumerate")
      · wp_walk using wpAny_pyIter_tuple hL
        exact ⟨_, rfl, h⟩
      · wp_walk using wpAny_pyIter_tuple hL
        exact ⟨_, rfl, h⟩
    · wp_walk using wpAny_pyIter_tuple hL
      exact ⟨_, rfl, h⟩
section
variable {prog : Program} {w : World} {A : Around} {E : Value → Shared → Prop} {s : Shared}
theorem call_enumerate_tuple {l : Addr} {items : Array Value} {Q : Value → Shared → Prop} (hL : s.heap.IsTuple l items)
    (h : ∀ h', IsEnum h' (s.heap.objs.size + 1) s.heap.objs.size 0 .none → h'.IsTupleIter s.heap.objs.size l 0 → h'.objs.size = s.heap.objs.size + 2 →
      (∀ b o, s.heap.get? b = some o → h'.get? b = some o) → Q (.ref (s.heap.objs.size + 1)) { s with heap := h' }) :
    wpAny (model prog w) A (call (.type "enumerate") [.ref l]) Q E s := by
  refine callType_new F.called_enumerate (by decide) (F.typeCall_enumerate_1 _) (F.newCall_enumerate_1 _) (fun obj => F.args_object_init_2 obj _) F.entry_enumerate_new
    (meets_enumerate_newT l items) ⟨hL, ?_⟩
  have hz : (s.heap.push { cls := .type "tuple_iterator", data := .fields #[.ref l, .int 0 0] }).objs.size = s.heap.objs.size + 1 := Heap.size_push ..
  show _ ∧ _
  rw [hz]
  have he : IsEnum ((s.heap.push { cls := .type "tuple_iterator", data := .fields #[.ref l, .int 0 0] }).push
      { cls := .type "enumerate", data := .fields #[.none, .bool false, .ref s.heap.objs.size, rawInt 0, .none, .none] }) (s.heap.objs.size + 1) s.heap.objs.size 0 .none := by
    have := Heap.get?_push_size (s.heap.push { cls := .type "tuple_iterator", data := .fields #[.ref l, .int 0 0] }) (o := { cls := .type "enumerate", data := .fields #[.none, .bool false, .ref s.heap.objs.size, rawInt 0, .none, .none] }) rfl
    rw [hz] at this
    exact this
  refine ⟨⟨_, he, rfl⟩, h _ he ⟨_, Heap.get?_push_of_some _ (Heap.get?_push_size _ rfl), rfl, rfl⟩ (by rw [Heap.size_push, hz]) fun b o x => Heap.get?_push_of_some _ (Heap.get?_push_of_some _ x)⟩
end
def IteT (K : PySem.W.Frag) (a : Addr) : It :=
  ⟨fun i H => ∃ (xs : List V) (x : V), SqT K H a xs ∧ xs[i]? = some x, fun i H v H' => ∃ T x, v = .ref T ∧ H T = none ∧ H' = upd H T (.tup [.int (i : Nat), x]) ∧ ∀ xs, SqT K H a xs → xs[i]? = some x, fun i H => ∃ xs : List V, SqT K H a xs ∧ xs.length = i⟩
theorem turn_enumT {P : Program} {w : World} {K : PySem.W.Frag} {elts : List Expr} {kk : Nat} {tpos : Pos} (a e it : Addr) :
    Turn P w K (.Tuple elts kk tpos) (IteT K a) [e, it] e (fun i h => (∃ old, IsEnum h e it ((i : Nat) : Int) old) ∧ h.IsTupleIter it a i ∧ e ≠ it ∧ a ≠ it ∧ a ≠ e) where
  mem := by simp
  obj := fun i h st b hb => by
    obtain ⟨⟨old, he⟩, ⟨o, ho, hc, hd⟩, _⟩ := st
    have e' : b = e ∨ b = it := by simpa using hb
    rcases e' with z | z
    · rw [z]; exact ⟨_, he, fun v q => nomatch q⟩
    · rw [z]; exact ⟨o, ho, fun v q => by rw [hd] at q; cases q⟩
  keep := fun i h h' st k => let ⟨⟨old, he⟩, hi, hne⟩ := st; ⟨⟨old, k e (by simp) _ he⟩, hi.at fun o q => k it (by simp) o q, hne⟩
  item := by
    intro X hP hw hK hc i pins s σ H E I hf st hg
    subst hP hw hK
    obtain ⟨⟨old, he⟩, hit, hne, hai, hae⟩ := st
    obtain ⟨xs, x, hq, hx⟩ := hg
    obtain ⟨its, rv, p, hz⟩ := I.tuple hq
    obtain ⟨u, hu, ru⟩ := rv.get hx
    have hel : e < s.heap.objs.size := Heap.lt_size he
    have hil : it < s.heap.objs.size := by obtain ⟨_, q, _⟩ := hit; exact Heap.lt_size q
    have hu' : its.toArray[i]? = some u := by simpa using hu
    have hlt : i < its.toArray.size := (Array.getElem?_eq_some_iff.mp hu').1
    refine wpAny_pyNext_enum_itemD (Draws.tuple (A := X.A.in1) (I.ok.hd hc) it a hai its.toArray) he ⟨hit, p⟩ hlt hne (by simp [hne, Ne.symm hae]) fun v h' tk hv ho hs' hT hsz hk => ?_
    rw [hu'] at hv
    cases hv
    refine ⟨_, rfl, wpAny_letOwnedTupleGo_enum (s := { s with heap := h', toks := tk + 1 }) ho fun h'' he' sb => ?_⟩
    have hT2 : h''.get? s.heap.objs.size = some { cls := .type "tuple", data := .seq #[.int i tk, u] } := (sb.2 _ (Nat.ne_of_gt hel)).trans hT
    have new : ObjOk X.prog X.w (upd H s.heap.objs.size (.tup [.int (i : Nat), x])) h'' s.heap.objs.size (.tup [.int (i : Nat), x]) :=
      ⟨by show 2 ≤ sizeLine; decide, [.int i tk, u], .cons ⟨_, rfl⟩ (.cons ru .nil), ⟨_, hT2, rfl, _, rfl⟩⟩
    have I1 : Inv X pins σ (upd H s.heap.objs.size (.tup [.int (i : Nat), x])) { s with heap := h'', toks := tk + 1 } :=
      I.turnedNew (ch := [e, it]) (fun b ob hb q => (sb.2 b (fun z => hb (by simp [z]))).trans (hk b ob (fun z => hb (by simp [z])) (fun z => hb (by simp [z])) q)) hf (Nat.le_refl _) new
    refine ⟨.ref s.heap.objs.size, _, I1, rfl, ⟨_, x, rfl, I.hok.fresh (Nat.le_refl _), rfl, fun ys hy => by rw [I.tuple_inj hy hq]; exact hx⟩, ⟨⟨u, ?_⟩, hs'.1.at fun o q => (sb.2 it (Ne.symm hne)).trans q, hne, hai, hae⟩, fun b hb => ?_⟩
    · have e1 : ((i + 1 : Nat) : Int) = (i : Int) + 1 := by omega
      rw [e1]; exact he'
    · have hb' : b < s.heap.objs.size := by
        have e' : b = e ∨ b = it := by simpa using hb
        rcases e' with z | z
        · rw [z]; exact hel
        · rw [z]; exact hil
      rw [upd_ne (Nat.ne_of_lt hb')]
      exact (hf b hb).1
  done := by
    intro X hP hw hK hc i pins s σ H E I hf st hg
    subst hP hw hK
    obtain ⟨⟨old, he⟩, hit, hne, hai, hae⟩ := st
    obtain ⟨xs, hq, hx⟩ := hg
    obtain ⟨its, rv, p, hz⟩ := I.tuple hq
    obtain ⟨f0, f1, f2, f3, f4, f5⟩ := hf it (by simp)
    have hl := rv.length
    have hsz : its.toArray.size = i := by rw [List.size_toArray]; omega
    refine wpAny_pyNext_enum_endD (Draws.tuple (A := X.A.in1) (I.ok.hd hc) it a hai its.toArray) he (by rw [hsz]; exact ⟨hit, p⟩) fun h' eb => ⟨rfl, I.turned (t' := s.toks) (fun b o hb q => eb b o hb q) f0 f1 f3 f4 f5⟩
  self := fun A i s Q E st h => let ⟨⟨_, he⟩, _⟩ := st; wpAny_pyIter_enum he h
/-- enumerate of a list or of a tuple -/
def iEnumA (K : PySem.W.Frag) (ta : TA) : TI := fun σ H R => ta σ H fun vs H1 => ∃ a xs, vs = [.ref a] ∧ ((SqL K H1 a xs ∧ R (Ite K a) H1) ∨ (SqT K H1 a xs ∧ R (IteT K a) H1))
theorem pi_enumA {X : Cx} {e : Expr} {ta : TA} {p pos tpos : Pos} {elts : List Expr} {kk : Nat} (hg : Gl X "enumerate") (hm : X.mg "enumerate" = none) (ha : PA X [e] ta) (hs : starEach [e] X.env = [(false, eval e X.env)] := by rfl) :
    PI X (.Tuple elts kk tpos) (.Call (.Name "enumerate" p) [e] [] pos) (iEnumA X.K ta) := by
  refine ⟨fun pins s σ H R I h => ?_⟩
  refine Call_ (ld_blt I hg hm boot_enumerate (PyProof.Rows.callWith_type1 (thn (ha.run pos pins s σ H _ I h) fun us s1 ⟨vs, H1, I1, r1, q1⟩ => ?_) hs rfl))
  obtain ⟨a, xs, ex, q⟩ := q1
  subst ex
  cases r1 with
  | cons r rr =>
    cases rr
    cases r
    have fp2 : ∀ b ∈ [s1.heap.objs.size + 1, s1.heap.objs.size], FpOk X pins H1 b := fun b hb => by
      have e' : b = s1.heap.objs.size + 1 ∨ b = s1.heap.objs.size := by simpa using hb
      have hle : s1.heap.objs.size ≤ b := by
        rcases e' with z | z
        · rw [z]; exact Nat.le_add_right _ _
        · rw [z]; exact Nat.le_refl _
      exact I1.fpOk hle (I1.hok.fresh hle)
    rcases q with ⟨hq, q⟩ | ⟨hq, q⟩
    · obtain ⟨its, rv, p', hz⟩ := I1.list hq
      refine call_enumerate_list p'.isList fun h' he hit hsz hk => wpAny_pyIter_enum he ?_
      have I2 : Inv X pins σ H1 { s1 with heap := h' } := I1.kept (t' := s1.toks) hk
      exact ⟨s1.heap.objs.size + 1, [s1.heap.objs.size + 1, s1.heap.objs.size], _, _, H1, rfl, I2, turn_enum a (s1.heap.objs.size + 1) s1.heap.objs.size, ⟨⟨.none, he⟩, hit, Nat.succ_ne_self _⟩, fp2, q⟩
    · obtain ⟨its, rv, p', hz⟩ := I1.tuple hq
      have hlt : a < s1.heap.objs.size := p'.lt
      refine call_enumerate_tuple p' fun h' he hit hsz hk => wpAny_pyIter_enum he ?_
      have I2 : Inv X pins σ H1 { s1 with heap := h' } := I1.kept (t' := s1.toks) hk
      exact ⟨s1.heap.objs.size + 1, [s1.heap.objs.size + 1, s1.heap.objs.size], _, _, H1, rfl, I2, turn_enumT a (s1.heap.objs.size + 1) s1.heap.objs.size, ⟨⟨.none, he⟩, hit, Nat.succ_ne_self _, Nat.ne_of_lt hlt, Nat.ne_of_lt (Nat.lt_succ_of_lt hlt)⟩, fp2, q⟩

/-! ### the items, as data -/
/-- it gives ds, one after another -/
def Gives (Γ : Gm) (J : It) (ds : List P) (H0 : Hp) : Prop := L2.Walk J ds.length (fun H => Per H0 H) fun i H x H' => Same H H' ∧ ∃ d, ds[i]? = some d ∧ Rep Γ H' d x
section
variable {Γ : Gm} {H : Hp} {x : V}
theorem gives_list {ps : List P} {a : Addr} {xs : List V} (h : SqF Γ.K H a xs) (r : Reps Γ H ps xs) : Gives Γ (Itl Γ.K a) ps H := by
  unfold Gives
  rw [r.length]
  refine L2.Walk.mono walk_list (fun H' p => (p.sqf h).sql) fun i H1 x H' hi p y => ?_
  obtain ⟨rfl, hx⟩ := y
  obtain ⟨d, e, rd⟩ := r.getV hx
  exact ⟨Same.refl _, d, e, Rep.per p d x rd⟩
theorem gives_tup {ps : List P} {a : Addr} {xs : List V} (h : SqT Γ.K H a xs) (r : Reps Γ H ps xs) : Gives Γ (Itt Γ.K a) ps H := by
  unfold Gives
  rw [r.length]
  refine L2.Walk.mono walk_tup (fun H' p => p.sqt h) fun i H1 x H' hi p y => ?_
  obtain ⟨rfl, hx⟩ := y
  obtain ⟨d, e, rd⟩ := r.getV hx
  exact ⟨Same.refl _, d, e, Rep.per p d x rd⟩
theorem rangeP_len (lo : Int) : ∀ n, (rangeP lo n).length = n := fun n => by
  induction n generalizing lo with
  | zero => rfl
  | succ n ih => simp only [rangeP, List.length_cons, ih]
theorem rangeP_get (lo : Int) (n i : Nat) (h : i < n) : (rangeP lo n)[i]? = some (.int (lo + i)) := by
  induction n generalizing lo i with
  | zero => omega
  | succ n ih =>
    cases i with
    | zero => simp [rangeP]
    | succ i =>
      simp only [rangeP, List.getElem?_cons_succ]
      rw [ih (lo + 1) i (by omega)]
      have : lo + 1 + (i : Int) = lo + ((i + 1 : Nat) : Int) := by omega
      rw [this]
theorem gives_range {lo : Int} {n : Nat} : Gives Γ (Itr lo n) (rangeP lo n) H := by
  unfold Gives
  rw [rangeP_len]
  refine L2.Walk.mono walk_range (fun _ _ => trivial) fun i H1 x H' hi p y => ?_
  obtain ⟨rfl, rfl⟩ := y
  exact ⟨Same.refl _, _, rangeP_get lo n i hi, by simp only [Rep]⟩
theorem enumP_len : ∀ (k : Nat) (ps : List P), (enumP k ps).length = ps.length
  | _, [] => rfl
  | k, p :: ps => by simp only [enumP, List.length_cons, enumP_len]
theorem enumP_get : ∀ (k : Nat) (ps : List P) (i : Nat) (d : P), ps[i]? = some d → (enumP k ps)[i]? = some (.wtup [.int ((k + i : Nat) : Int), d])
  | _, [], _, _, h => by simp at h
  | k, p :: ps, 0, d, h => by
    simp at h
    subst h
    simp [enumP]
  | k, p :: ps, i + 1, d, h => by
    have := enumP_get (k + 1) ps i d (by simpa using h)
    simp only [enumP, List.getElem?_cons_succ, this]
    have : k + 1 + i = k + (i + 1) := by omega
    rw [this]
theorem rep_pair {H : Hp} {T : Addr} {a b : P} {x y : V} (hT : H T = none) (ha : Rep Γ H a x) (hb : Rep Γ H b y) : Rep Γ (upd H T (.tup [x, y])) (.wtup [a, b]) (.ref T) := by
  have e := per_of (Same.new (o := .tup [x, y]) hT)
  simp only [Rep]
  exact ⟨T, _, rfl, SqT.of upd_same, reps_cons'.mpr ⟨Rep.per e _ _ ha, reps_cons'.mpr ⟨Rep.per e _ _ hb, reps_nil.mpr rfl⟩⟩⟩
theorem gives_enumL {ps : List P} {a : Addr} {xs : List V} (h : SqF Γ.K H a xs) (r : Reps Γ H ps xs) : Gives Γ (Ite Γ.K a) (enumP 0 ps) H := by
  unfold Gives
  rw [enumP_len, r.length]
  refine ⟨fun i H1 hi p => ⟨xs, xs[i], (p.sqf h).sql, by simp [hi]⟩, fun H1 p => ⟨xs, (p.sqf h).sql, Nat.le_refl _⟩, fun i H1 v H' hi p y => ?_⟩
  obtain ⟨T, x, rfl, hT, rfl, hx⟩ := y
  obtain ⟨d, e, rd⟩ := r.getV (hx xs (p.sqf h).sql)
  refine ⟨Same.new hT, _, enumP_get 0 ps i d e, ?_⟩
  rw [Nat.zero_add]
  exact rep_pair hT (by simp only [Rep]) (Rep.per p d x rd)
theorem gives_enumT {ps : List P} {a : Addr} {xs : List V} (h : SqT Γ.K H a xs) (r : Reps Γ H ps xs) : Gives Γ (IteT Γ.K a) (enumP 0 ps) H := by
  unfold Gives
  rw [enumP_len, r.length]
  refine ⟨fun i H1 hi p => ⟨xs, xs[i], p.sqt h, by simp [hi]⟩, fun H1 p => ⟨xs, p.sqt h, rfl⟩, fun i H1 v H' hi p y => ?_⟩
  obtain ⟨T, x, rfl, hT, rfl, hx⟩ := y
  obtain ⟨d, e, rd⟩ := r.getV (hx xs (p.sqt h))
  refine ⟨Same.new hT, _, enumP_get 0 ps i d e, ?_⟩
  rw [Nat.zero_add]
  exact rep_pair hT (by simp only [Rep]) (Rep.per p d x rd)
theorem zipP_len : ∀ (ps qs : List P), (zipP ps qs).length = min ps.length qs.length
  | [], _ => by simp [zipP]
  | _ :: _, [] => by simp [zipP]
  | p :: ps, q :: qs => by
    simp only [zipP, List.length_cons, zipP_len]
    omega
theorem zipP_get : ∀ (ps qs : List P) (i : Nat) (d e : P), ps[i]? = some d → qs[i]? = some e → (zipP ps qs)[i]? = some (.wtup [d, e])
  | [], _, _, _, _, h, _ => by simp at h
  | _ :: _, [], _, _, _, _, h => by simp at h
  | p :: ps, q :: qs, 0, d, e, h, h' => by
    simp at h h'
    subst h h'
    simp [zipP]
  | p :: ps, q :: qs, i + 1, d, e, h, h' => by
    simp only [zipP, List.getElem?_cons_succ]
    exact zipP_get ps qs i d e (by simpa using h) (by simpa using h')
theorem gives_zipL {ps qs : List P} {a b : Addr} {xs ys : List V} (h : SqF Γ.K H a xs) (r : Reps Γ H ps xs) (h' : SqF Γ.K H b ys) (r' : Reps Γ H qs ys) : Gives Γ (Itz Γ.K a b) (zipP ps qs) H := by
  unfold Gives
  rw [zipP_len, r.length, r'.length]
  refine ⟨fun i H1 hi p => ⟨xs, ys, xs[i]'(by omega), ys[i]'(by omega), (p.sqf h).sql, (p.sqf h').sql, by simp, by simp⟩, fun H1 p => ⟨xs, ys, (p.sqf h).sql, (p.sqf h').sql, by omega⟩, fun i H1 v H' hi p y => ?_⟩
  obtain ⟨T, x, y, rfl, hT, rfl, hx, hy⟩ := y
  obtain ⟨d, e, rd⟩ := r.getV (hx xs (p.sqf h).sql)
  obtain ⟨d', e', rd'⟩ := r'.getV (hy ys (p.sqf h').sql)
  exact ⟨Same.new hT, _, zipP_get ps qs i d d' e e', rep_pair hT (Rep.per p d x rd) (Rep.per p d' y rd')⟩
end
end Hb

/-! Built-ins on data. -/
namespace Hb
open PySem PySem.Spec PyProof.Rows L2

def RReps (Γ : Gm) (H : Hp) : List P → List V → Prop
  | [], xs => xs = []
  | d :: ds, xs => ∃ y ys, xs = y :: ys ∧ RRep Γ H d y ∧ RReps Γ H ds ys
section
variable {X : Cx} {Γ : Gm} {pins : List (Addr × Obj)} {s : Shared} {σ : L2.St} {H : Hp} {x y : V} {v u : Value} {Q : VK} {a b d : P}
theorem rreps1 {xs : List V} (h : RReps Γ H [a] xs) : ∃ x, xs = [x] ∧ RRep Γ H a x := by
  obtain ⟨x, ys, rfl, h1, h2⟩ := h
  cases (show ys = [] from h2)
  exact ⟨x, rfl, h1⟩
theorem reps_bls : ∀ {ds : List P} {bs : List Bool} {xs : List V}, bls ds = some bs → Reps Γ H ds xs → xs = bs.map V.bl
  | [], bs, xs, e, h => by
    cases e
    rw [reps_nil] at h
    exact h
  | d :: ds, bs, xs, e, h => by
    obtain ⟨y, ys, rfl, h1, h2⟩ := reps_cons.mp h
    cases d <;> simp only [bls] at e <;> try cases e
    rename_i b
    cases h3 : bls ds with
    | none => rw [h3] at e; cases e
    | some bs' =>
      rw [h3] at e
      cases e
      simp only [Rep] at h1
      rw [h1, reps_bls h3 h2]
      rfl
theorem reps_ints : ∀ {ds : List P} {ns : List Int} {xs : List V}, intsP ds = some ns → Reps Γ H ds xs → xs = ns.map V.int
  | [], bs, xs, e, h => by
    cases e
    rw [reps_nil] at h
    exact h
  | d :: ds, bs, xs, e, h => by
    obtain ⟨y, ys, rfl, h1, h2⟩ := reps_cons.mp h
    cases d <;> simp only [intsP] at e <;> try cases e
    rename_i b
    cases h3 : intsP ds with
    | none => rw [h3] at e; cases e
    | some bs' =>
      rw [h3] at e
      cases e
      simp only [Rep] at h1
      rw [h1, reps_ints h3 h2]
      rfl
/-- what a built-in's call asks and gives -/
def rBi (Γ : Gm) (b : B) : List V → Hp → VK → Prop := fun xs H Q => ∃ ds d, RReps Γ H ds xs ∧ bi b ds = some d ∧ Raw Γ H d Q
/-- the name, and what it stands for -/
def B.nm : B → String × Value
  | .len => ("len", .builtin "len")
  | .tuple => ("tuple", .type "tuple")
  | .list => ("list", .type "list")
  | .all => ("all", .builtin "all")
  | .any => ("any", .builtin "any")
  | .sum => ("sum", .builtin "sum")
  | .sorted => ("sorted", .builtin "sorted")
  | .set => ("set", .type "set")
  | .max => ("max", .builtin "max")
  | .min => ("min", .builtin "min")
  | .int => ("int", .type "int")
  | .str => ("str", .type "str")
  | .bool => ("bool", .type "bool")
  | .dict => ("dict", .type "dict")
/-- tuple(l): a new one -/
theorem call_tupleC : CallR X (.type "tuple") (fun xs H Q => ∃ p ys, xs = [.ref p] ∧ SqL X.K H p ys ∧ ∀ l o, H l = none → o.dict = none → Q (.ref l) (upd H l (.frz o (.tup ys)))) := by
  intro pins s σ H xs us Q I r h
  obtain ⟨p, ys, rfl, hq, q⟩ := h
  obtain ⟨u, rfl, rx⟩ := vals1 r
  cases rx
  obtain ⟨its, r', pl, hz⟩ := I.list hq
  have hlen := r'.length
  refine call_tuple_list pl.isList (fun h' kp => ?_) (by simp only [List.size_toArray] <;> omega)
  have I1 : Inv X pins σ H { s with heap := h' } := I.kept (t' := s.toks) kp
  have I2 := laidT (xs := ys) (its := its) (a := h'.objs.size) (h' := h'.push { cls := .type "tuple", data := .seq its.toArray }) (t' := s.toks) I1 (fun b o e => Heap.get?_push_of_some _ e) (Nat.le_refl _) (Heap.get?_push_size _ rfl) rfl rfl hz r'
  exact ⟨.ref h'.objs.size, _, I2, rfl, q _ _ (I1.hok.fresh (Nat.le_refl _)) rfl⟩
/-- sum(t) of a tuple of ints -/
theorem cr_sumT (hc : X.calm = true) : CallR X (.builtin "sum") (fun vs H Q => ∃ (a : Addr) (ns : List Int), vs = [V.ref a] ∧ SqT X.K H a (ns.map V.int) ∧ Q (.int ns.sum) H) := by
  intro pins s σ H vs us Q I r h
  obtain ⟨a, ns, rfl, hs, q⟩ := h
  obtain ⟨its, rv, p, hz⟩ := I.tuple hs
  rw [Vals.ref1 r]
  have hi := rv.ints
  obtain ⟨xs, e⟩ := hi.allInts.items
  have hn : numsOf (intItems xs).toList = ns := by rw [← e]; exact hi.numsOf
  rw [nums_intItems] at hn
  have hl : s.heap.IsTuple a its.toArray := p
  rw [e] at hl
  refine PySem.W.ktm_sumG (I.ok.hd hc) hl fun h' tk t' hk => ?_
  rw [preSum_eq, List.take_of_length_le (by simp), hn]
  exact ⟨.int _, H, I.kept hk, ⟨_, rfl⟩, q⟩
theorem bi_ok (hK : X.K = Γ.K) (hc : X.calm = true) (b : B) : CallR X b.nm.2 (rBi Γ b) := by
  intro pins s σ H xs us Q I r h
  obtain ⟨ds, d, hr, e, q⟩ := h
  unfold bi at e
  split at e
  · cases e
    obtain ⟨x, rfl, h⟩ := rreps1 hr
    obtain ⟨a, ys, rfl, h1, h2⟩ := h.tup
    refine call_len_seq pins s σ H _ us Q I r ⟨a, ys, rfl, .inr (hK ▸ h1), ?_⟩
    rw [← h2.length]
    exact q.int
  · cases e
    obtain ⟨x, rfl, h⟩ := rreps1 hr
    obtain ⟨a, ys, rfl, h1, h2⟩ := h.lst
    refine call_len_seq pins s σ H _ us Q I r ⟨a, ys, rfl, .inl (hK ▸ h1), ?_⟩
    rw [← h2.length]
    exact q.int
  · cases e
    obtain ⟨x, rfl, h⟩ := rreps1 hr
    obtain ⟨a, ys, rfl, h1, h2⟩ := h.tupC
    exact call_tupleT pins s σ H _ us Q I r ⟨a, ys, rfl, h1.sqt, q.tupOld h1 h2⟩
  · cases e
    obtain ⟨x, rfl, h⟩ := rreps1 hr
    obtain ⟨a, ys, rfl, h1, h2⟩ := h.lst
    exact call_tupleC pins s σ H _ us Q I r ⟨a, ys, rfl, hK ▸ h1, fun l o hl ho => q.tup l o _ hl ho h2⟩
  · cases e
    obtain ⟨x, rfl, h⟩ := rreps1 hr
    obtain ⟨a, ys, rfl, h1, h2⟩ := h.tup
    exact call_list_of pins s σ H _ us Q I r ⟨a, ys, rfl, .inr (hK ▸ h1), fun l hl => q.lst l _ hl h2⟩
  · cases e
    obtain ⟨x, rfl, h⟩ := rreps1 hr
    obtain ⟨a, ys, rfl, h1, h2⟩ := h.lst
    exact call_list_of pins s σ H _ us Q I r ⟨a, ys, rfl, .inl (hK ▸ h1), fun l hl => q.lst l _ hl h2⟩
  · rename_i ps
    obtain ⟨x, rfl, h⟩ := rreps1 hr
    obtain ⟨a, ys, rfl, h1, h2⟩ := h.lst
    cases hb : bls ps with
    | none => rw [hb] at e; cases e
    | some bs =>
      rw [hb] at e
      cases e
      have := reps_bls hb h2
      subst this
      exact cr_all hc pins s σ H _ us Q I r ⟨a, bs, rfl, hK ▸ h1, q.bl⟩
  · rename_i ps
    obtain ⟨x, rfl, h⟩ := rreps1 hr
    obtain ⟨a, ys, rfl, h1, h2⟩ := h.lst
    cases hb : bls ps with
    | none => rw [hb] at e; cases e
    | some bs =>
      rw [hb] at e
      cases e
      have := reps_bls hb h2
      subst this
      exact cr_any hc pins s σ H _ us Q I r ⟨a, bs, rfl, hK ▸ h1, q.bl⟩
  · rename_i ps
    obtain ⟨x, rfl, h⟩ := rreps1 hr
    obtain ⟨a, ys, rfl, h1, h2⟩ := h.lst
    cases hb : intsP ps with
    | none => rw [hb] at e; cases e
    | some bs =>
      rw [hb] at e
      cases e
      have := reps_ints hb h2
      subst this
      exact cr_sum hc pins s σ H _ us Q I r ⟨a, bs, rfl, hK ▸ h1, q.int⟩
  · rename_i ps
    obtain ⟨x, rfl, h⟩ := rreps1 hr
    obtain ⟨a, ys, rfl, h1, h2⟩ := h.tup
    cases hb : intsP ps with
    | none => rw [hb] at e; cases e
    | some bs =>
      rw [hb] at e
      cases e
      have := reps_ints hb h2
      subst this
      exact cr_sumT hc pins s σ H _ us Q I r ⟨a, bs, rfl, hK ▸ h1, q.int⟩
  · cases e
    obtain ⟨x, rfl, h⟩ := rreps1 hr
    have := h.int
    subst this
    exact call_int1 pins s σ H _ us Q I r (.inl ⟨_, rfl, q.int⟩)
  · cases e
    obtain ⟨x, rfl, h⟩ := rreps1 hr
    have := h.bl
    subst this
    exact call_int1 pins s σ H _ us Q I r (.inr ⟨_, rfl, q.int⟩)
  · cases e

/-! ### isinstance -/
def Ty.nm : Ty → String
  | .bool => "bool"
  | .int => "int"
  | .str => "str"
  | .list => "list"
  | .tuple => "tuple"
def kindOf : P → Option String
  | .non => some "NoneType"
  | .bl _ => some "bool"
  | .int _ => some "int"
  | .str _ => some "str"
  | .tup _ => some "tuple"
  | .lst _ => some "list"
  | _ => none
theorem rrep_ty {x : V} (hK : X.K = Γ.K) (h : RRep Γ H d x) {k : String} (e : kindOf d = some k) : TyX X.K H x (.type k) := by
  rcases h with h | ⟨a, u, rfl, h1, h2⟩
  · cases d <;> cases e <;> simp only [Rep] at h
    · subst h; exact .base .non
    · subst h; exact .base (.bl _)
    · subst h; exact .base (.int _)
    · subst h; exact .base (.str _)
    · obtain ⟨a, xs, rfl, h1, _⟩ := h
      obtain ⟨o, h1, _⟩ := h1
      exact .fTuple h1
    · obtain ⟨a, xs, rfl, h1, _⟩ := h
      rcases h1 with ⟨o, h1⟩ | ⟨o, its, n, h1, h2, _⟩
      · exact .base (.frz h1)
      · rw [hK]; exact .kList h1 h2
  · cases d <;> simp only [CRep] at h2
    · cases e
      obtain ⟨xs, rfl, _⟩ := h2
      exact .base (.lst h1)
    · cases e
theorem kit_all : ∀ (t : Ty) (k : String), k ∈ ["NoneType", "bool", "int", "str", "tuple", "list"] → kitB k t.nm = some (k == t.nm || (k == "bool" && t.nm == "int")) := by
  intro t k hk
  simp only [List.mem_cons, List.not_mem_nil, or_false] at hk
  rcases hk with rfl | rfl | rfl | rfl | rfl | rfl <;> cases t <;> decide +kernel
theorem isTy_kit {t : Ty} {c : Bool} (e : isTy t d = some c) : ∃ k, kindOf d = some k ∧ kitB k t.nm = some c := by
  cases d <;> (try (cases t <;> simp [isTy] at e; done))
  all_goals (refine ⟨_, rfl, ?_⟩; rw [kit_all _ _ (by simp)]; cases t <;> simp [isTy] at e <;> subst e <;> decide)
theorem isi_ok (hK : X.K = Γ.K) {t : Ty} {x : V} (h : RRep Γ H d x) {c : Bool} (e : isTy t d = some c) (q : Q (.bl c) H) : rIsi X.K [x, .ty t.nm] H Q := by
  obtain ⟨k, h1, h2⟩ := isTy_kit e
  exact ⟨x, .ty t.nm, .type k, .type t.nm, c, rfl, .ty _, rrep_ty hK h h1, kit_ty h2, q⟩
end
end Hb

/-! What an expression comes to is what the machine does: expressions. -/
namespace Hb
open PySem PySem.Spec PyProof.Rows L2

/-! ### what stays -/
/-- all but what stands at L is as it was (tables of code objects may grow) -/
def Keep (L : Addr → Prop) (H H' : Hp) : Prop := ∀ b o, H b = some o → ¬ L b → (∀ ps, o ≠ .tbl ps) → H' b = some o
theorem Keep.refl (L : Addr → Prop) (H : Hp) : Keep L H H := fun b o h _ _ => h
theorem Keep.of {L : Addr → Prop} {H H' : Hp} (e : Same H H') : Keep L H H' := fun b o h _ _ => e b o h
theorem Keep.trans {L : Addr → Prop} {H H1 H2 : Hp} (a : Keep L H H1) (b : Keep L H1 H2) : Keep L H H2 := fun c o h n t => b c o (a c o h n t) n t
/-- nothing stands there, but perhaps a table -/
def Fresh (H : Hp) (a : Addr) : Prop := ∀ o, H a = some o → ∃ ps, o = .tbl ps
theorem Fresh.of {H : Hp} {a : Addr} (h : H a = none) : Fresh H a := fun o e => by rw [h] at e; cases e
/-- a code object is no dict -/
theorem code_ne (c : Addr) (q : Str) : ¬ MutC (LamX.CodeO c q) c := by
  rintro (⟨xs, h⟩ | ⟨xs, h⟩ | ⟨xs, h⟩)
  · unfold LamX.CodeO at h; cases h
  · unfold LamX.CodeO at h
    have h := HO.ext.inj h
    let ob : Obj := { cls := .none, data := .fields #[.none, .str q 0] }
    let g : Heap := { objs := Array.replicate (c + 1) ob }
    have hg : g.get? c = some ob := by
      show (match (Array.replicate (c + 1) ob)[c]? with
        | some ⟨_, _, .freed, _⟩ => none
        | o => o) = some ob
      simp [ob]
    have h1 : DN xs c g := by
      rw [← h]
      exact ⟨ob, #[.none, .str q 0], 0, hg, rfl, rfl⟩
    obtain ⟨o, es, ep, e1, _, e3, _⟩ := h1
    rw [hg] at e1
    cases e1
    cases e3
  · unfold LamX.CodeO at h; cases h
/-- the tables stay as they are, the code objects known -/
theorem tabs_of {T : List (Addr × Str)} {H H' : Hp} (t : LamX.Tabs T H) (e : ∀ b o, H b = some o → ¬ MutC o b → H' b = some o) : LamX.Tabs T H' := fun p hp => by
  obtain ⟨ps, h1, h2, h3⟩ := t p hp
  refine ⟨ps, e _ _ h1 (fun z => z.ntbl _ rfl), h2, fun pos cv hc => ?_⟩
  obtain ⟨c, e1, e2⟩ := h3 pos cv hc
  exact ⟨c, e1, e _ _ e2 (code_ne _ _)⟩
def Lists (L : Addr → Prop) (H : Hp) : Prop := ∀ b, L b → ∃ u, H b = some u ∧ MutC u b
theorem Keep.per {L : Addr → Prop} {H H' : Hp} (k : Keep L H H') (l : Lists L H) : Per H H' := by
  refine ⟨fun b xs h => k b _ h (fun z => ?_) (by intro ps z; cases z), fun b o u h => k b _ h (fun z => ?_) (by intro ps z; cases z), fun b p h n => k b _ h (fun z => ?_) (by intro ps z; cases z)⟩ <;>
  · obtain ⟨ys, e, m⟩ := l b z
    rw [h] at e
    cases e
    first
      | exact m.ntup _ rfl
      | exact m.nfrz _ _ rfl
      | exact n m
def Dom (S S' : Sto) : Prop := ∀ n, (S.get n).isSome = true → (S'.get n).isSome = true
theorem Dom.refl (S : Sto) : Dom S S := fun _ h => h
theorem Dom.trans {S S1 S2 : Sto} (a : Dom S S1) (b : Dom S1 S2) : Dom S S2 := fun n h => b n (a n h)

/-! ### the state -/
section
variable (Γ : Gm)
def ORep (H : Hp) (d : P) (a : Addr) : Prop := ∃ u, H a = some u ∧ CRep Γ H d u a
structure StoR (m : Nat → Addr) (S : Sto) (H : Hp) : Prop where
  at_ : ∀ n o, S.get n = some o → ORep Γ H o (m n)
  inj : ∀ n n', (S.get n).isSome = true → (S.get n').isSome = true → m n = m n' → n = n'
  tabs : LamX.Tabs Γ.T H
def VRep (m : Nat → Addr) (S : Sto) (H : Hp) : Val → V → Prop
  | .p d, x => Rep Γ H d x
  | .l n, x => x = .ref (m n) ∧ (S.get n).isSome = true
  | .f np b cs, x => ∃ f o, x = .ref f ∧ Γ.cl f = some o ∧ o.np = np ∧ o.b = b ∧ o.ds = cs ∧ H o.c = some (LamX.CodeO o.c o.q) ∧ Reps Γ H o.ds o.ws
def VReps (m : Nat → Addr) (S : Sto) (H : Hp) : List Val → List V → Prop
  | [], xs => xs = []
  | v :: vs, xs => ∃ y ys, xs = y :: ys ∧ VRep Γ m S H v y ∧ VReps m S H vs ys
structure SRep (L : Addr → Prop) (m : Nat → Addr) (env : Env) (S : Sto) (σ : L2.St) (H : Hp) : Prop where
  len : env.length = σ.length
  ee : ∀ (i : Nat) (v : Val), env[i]? = some (some v) → ∃ x, σ[i]? = some (some x) ∧ VRep Γ m S H v x
  sto : StoR Γ m S H
  live : ∀ n, (S.get n).isSome = true → L (m n)
  lm : Lists L H
/-- an exception: its class, its field -/
def ExcR (H : Hp) (c : Nat) (d : Option P) (cls : Value) (dx : Option Addr) : Prop :=
  Γ.mg (Γ.gnm c) = some cls ∧ match d with
    | none => dx = none
    | some p => ∃ a f v, dx = some a ∧ H a = some (.xd [(f, v)]) ∧ Rep Γ H p v
end
section
variable {Γ : Gm} {L : Addr → Prop} {m : Nat → Addr} {env : Env} {S S' : Sto} {σ : L2.St} {H H' : Hp} {v : Val} {x : V}
theorem VRep.mono (p : Per H H') (d : Dom S S') (h : VRep Γ m S H v x) : VRep Γ m S' H' v x := by
  cases v with
  | p d => exact Rep.per p _ _ h
  | l n => exact ⟨h.1, d n h.2⟩
  | f _ _ _ =>
    obtain ⟨f, o, h1, h2, h3, h4, h5, h7, h8⟩ := h
    exact ⟨f, o, h1, h2, h3, h4, h5, p.ext _ _ h7 (code_ne _ _), Reps.per p _ _ h8⟩
theorem VReps.mono (p : Per H H') (d : Dom S S') : ∀ {vs : List Val} {xs : List V}, VReps Γ m S H vs xs → VReps Γ m S' H' vs xs
  | [], _, h => h
  | v :: vs, xs, h => by
    obtain ⟨y, ys, e, h1, h2⟩ := h
    exact ⟨y, ys, e, h1.mono p d, VReps.mono p d h2⟩
theorem VReps.length : ∀ {vs : List Val} {xs : List V}, VReps Γ m S H vs xs → vs.length = xs.length
  | [], xs, h => by
    cases (show xs = [] from h)
    rfl
  | v :: vs, xs, h => by
    obtain ⟨y, ys, rfl, h1, h2⟩ := h
    rw [List.length_cons, List.length_cons, VReps.length h2]
theorem Lists.same (l : Lists L H) (e : Same H H') : Lists L H' := fun b h => by
  obtain ⟨xs, h1, h2⟩ := l b h
  exact ⟨xs, e _ _ h1, h2⟩
theorem ORep.lst {ps : List P} {a : Addr} (h : ORep Γ H (.lst ps) a) : ∃ xs, H a = some (.lst xs) ∧ Reps Γ H ps xs := by
  obtain ⟨u, h1, xs, rfl, h2⟩ := h
  exact ⟨xs, h1, h2⟩
theorem ORep.per (e : Per H H') {d : P} {a : Addr} (h : ORep Γ H d a) (k : ∀ u, H a = some u → MutC u a → H' a = some u) : ORep Γ H' d a := by
  obtain ⟨u, h1, h2⟩ := h
  exact ⟨u, k u h1 h2.mutC, h2.per e⟩
theorem StoR.same (h : StoR Γ m S H) (e : Same H H') : StoR Γ m S H' := ⟨fun n o g => (h.at_ n o g).per (per_of e) fun u h1 _ => e _ _ h1, h.inj, h.tabs.ext e⟩
theorem SRep.same (h : SRep Γ L m env S σ H) (e : Same H H') : SRep Γ L m env S σ H' :=
  ⟨h.len, fun i v g => by
    obtain ⟨x, h1, h2⟩ := h.ee i v g
    exact ⟨x, h1, h2.mono (per_of e) (Dom.refl _)⟩, h.sto.same e, h.live, h.lm.same e⟩
theorem rd_rep (st : StoR Γ m S H) {d : P} (h : VRep Γ m S H v x) (e : rd S v = some d) : RRep Γ H d x := by
  cases v with
  | p d' =>
    cases e
    exact .inl h
  | l n =>
    obtain ⟨rfl, _⟩ := h
    obtain ⟨u, h1, h2⟩ := st.at_ n d e
    exact .inr ⟨_, u, rfl, h1, h2⟩
  | f _ _ _ => cases e
theorem rds_rep (st : StoR Γ m S H) : ∀ {vs : List Val} {xs : List V} {ds : List P}, VReps Γ m S H vs xs → rds S vs = some ds → RReps Γ H ds xs
  | [], xs, ds, h, e => by
    cases e
    exact h
  | v :: vs, xs, ds, h, e => by
    obtain ⟨y, ys, rfl, h1, h2⟩ := h
    simp only [rds] at e
    split at e
    · rename_i d ds' e1 e2
      cases e
      exact ⟨y, ys, rfl, rd_rep st h1 e1, rds_rep st h2 e2⟩
    · cases e
theorem toP_rep {d : P} (h : VRep Γ m S H v x) (e : v.toP = some d) : Rep Γ H d x := by
  cases v with
  | p d' =>
    cases e
    exact h
  | l n => cases e
  | f _ _ _ => cases e
theorem toPs_rep : ∀ {vs : List Val} {xs : List V} {ds : List P}, VReps Γ m S H vs xs → toPs vs = some ds → Reps Γ H ds xs
  | [], xs, ds, h, e => by
    cases e
    cases (show xs = [] from h)
    exact reps_nil.mpr rfl
  | v :: vs, xs, ds, h, e => by
    obtain ⟨y, ys, rfl, h1, h2⟩ := h
    simp only [toPs] at e
    split at e
    · rename_i d ds' e1 e2
      cases e
      exact reps_cons'.mpr ⟨toP_rep h1 e1, toPs_rep h2 e2⟩
    · cases e
end

/-! ### results -/
section
variable (Γ : Gm) (W : WX) (L : Addr → Prop) (m : Nat → Addr) (env : Env) (σ : L2.St)
def EvR {α : Type} (S : Sto) (H : Hp) (r : Res α) (K : α → Sto → Hp → Prop) : Prop :=
  match r with
  | .ok a S' => ∀ H', Keep L H H' → Dom S S' → SRep Γ L m env S' σ H' → K a S' H'
  | .exc c d S' => ∀ cls dx H', Keep L H H' → Dom S S' → SRep Γ L m env S' σ H' → ExcR Γ H' c d cls dx → W cls dx σ H'
  | .stk => False
end
section
variable {Γ : Gm} {W : WX} {L : Addr → Prop} {m : Nat → Addr} {env : Env} {σ : L2.St} {S S1 : Sto} {H H1 : Hp}
theorem EvR.shift {α : Type} {r : Res α} {K : α → Sto → Hp → Prop} (k : Keep L H H1) (d : Dom S S1) (h : EvR Γ W L m env σ S H r K) : EvR Γ W L m env σ S1 H1 r K := by
  cases r with
  | ok a S' => exact fun H' k' d' s => h H' (k.trans k') (d.trans d') s
  | exc c e S' => exact fun cls dx H' k' d' s x => h cls dx H' (k.trans k') (d.trans d') s x
  | stk => exact h
theorem EvR.bind {α β : Type} {r : Res α} {f : α → Sto → Res β} {K : β → Sto → Hp → Prop} (h : EvR Γ W L m env σ S H (r.bind f) K) :
    EvR Γ W L m env σ S H r fun a S' H' => EvR Γ W L m env σ S' H' (f a S') K := by
  cases r with
  | ok a S' => exact fun H' k d s => EvR.shift k d h
  | exc c e S' => exact h
  | stk => exact h
theorem EvR.mono {α : Type} {r : Res α} {K K' : α → Sto → Hp → Prop} (h : EvR Γ W L m env σ S H r K) (i : ∀ a S' H', Keep L H H' → Dom S S' → SRep Γ L m env S' σ H' → K a S' H' → K' a S' H') : EvR Γ W L m env σ S H r K' := by
  cases r with
  | ok a S' => exact fun H' k d s => i a S' H' k d s (h H' k d s)
  | exc c e S' => exact h
  | stk => exact h
theorem EvR.ok {α : Type} {a : α} {K : α → Sto → Hp → Prop} (sr : SRep Γ L m env S σ H) (h : EvR Γ W L m env σ S H (.ok a S) K) : K a S H := h H (Keep.refl _ _) (Dom.refl _) sr
/-- a value that lies in a greater heap -/
theorem EvR.okSame {α : Type} {a : α} {K : α → Sto → Hp → Prop} (sr : SRep Γ L m env S σ H) (h : EvR Γ W L m env σ S H (.ok a S) K) {H' : Hp} (e : Same H H') : K a S H' := h H' (Keep.of e) (Dom.refl _) (sr.same e)
end

/-! ### readings -/
section
variable (Γ : Gm) (W : WX) (G : Prog) (h : Hd)
/-- a value's end -/
def VK' (m : Nat → Addr) (Q : VK) : Val → Sto → Hp → Prop := fun v S' H' => ∀ x, VRep Γ m S' H' v x → Q x H'
def tE (e : E) : TE := fun σ H Q => ∃ L m env S, SRep Γ L m env S σ H ∧ EvR Γ W L m env σ S H (ev G h e env S) (VK' Γ m Q)
def tT (e : E) : TT := fun σ H Q => ∃ L m env S, SRep Γ L m env S σ H ∧ EvR Γ W L m env σ S H (ev G h e env S) fun v S' H' => ∃ b, v = .p (.bl b) ∧ Q b H'
def tA (es : E) : TA := fun σ H Q => ∃ L m env S, SRep Γ L m env S σ H ∧ EvR Γ W L m env σ S H (evs G h es env S) fun vs S' H' => ∀ xs, VReps Γ m S' H' vs xs → Q xs H'
def tO (e : E) : TO := fun σ H Q => ∃ L m env S, SRep Γ L m env S σ H ∧ EvR Γ W L m env σ S H (evO G h e env S) fun o S' H' => Q o H'
def tI (e : E) : TI := fun σ H R => ∃ L m env S, SRep Γ L m env S σ H ∧ EvR Γ W L m env σ S H (evI G h e env S) fun ds S' H' => ∀ J, Gives Γ J ds H' → R J H'
def tAO (c : Bool) (es : E) : TE := fun σ H Q => ∃ L m env S, SRep Γ L m env S σ H ∧ EvR Γ W L m env σ S H (evAO G h c es env S) (VK' Γ m Q)
def tAOT (c : Bool) (es : E) : TT := fun σ H Q => ∃ L m env S, SRep Γ L m env S σ H ∧ EvR Γ W L m env σ S H (evAO G h c es env S) fun v S' H' => ∃ b, v = .p (.bl b) ∧ Q b H'
/-- a maker of a new list: the list as it is made -/
def tN (e : E) : TE := fun σ H Q => ∃ L m env S, SRep Γ L m env S σ H ∧ EvR Γ W L m env σ S H (ev G h e env S) fun v S' H' => ∃ d, v = .p d ∧ mkP e d = true ∧ ∀ a u, H' a = none → CRep Γ H' d u a → Q (.ref a) (upd H' a u)
end
theorem PE.imp {X : Cx} {e : Expr} {t t' : TE} (h : PE X e t) (i : ∀ σ H Q, t' σ H Q → t σ H Q) : PE X e t' := ⟨fun pins s σ H Q I q => h.run pins s σ H Q I (i _ _ _ q)⟩
theorem PT.imp {X : Cx} {e : Expr} {t t' : TT} (h : PT X e t) (i : ∀ σ H Q, t' σ H Q → t σ H Q) : PT X e t' := ⟨fun pins s σ H Q I q => h.run pins s σ H Q I (i _ _ _ q)⟩
theorem PW.imp {X : Cx} {e : Expr} {t t' : TT} (h : PW X e t) (i : ∀ σ H Q, t' σ H Q → t σ H Q) : PW X e t' := ⟨fun w pins s σ H Q I q => h.run w pins s σ H Q I (i _ _ _ q)⟩
theorem PA.imp {X : Cx} {e : List Expr} {t t' : TA} (h : PA X e t) (i : ∀ σ H Q, t' σ H Q → t σ H Q) : PA X e t' := ⟨fun p pins s σ H Q I q => h.run p pins s σ H Q I (i _ _ _ q)⟩
theorem PS.imp {X : Cx} {st : Stmt} {t t' : TS} (h : PS X st t) (i : ∀ D σ H, t' D σ H → t D σ H) : PS X st t' := ⟨fun pins s σ H D I q => h.run pins s σ H D I (i _ _ _ q)⟩
theorem PSs.imp {X : Cx} {st : List Stmt} {t t' : TS} (h : PSs X st t) (i : ∀ D σ H, t' D σ H → t D σ H) : PSs X st t' := ⟨fun pins s σ H D I q => h.run pins s σ H D I (i _ _ _ q)⟩
theorem PI.imp {X : Cx} {tg e : Expr} {t t' : TI} (h : PI X tg e t) (i : ∀ σ H Q, t' σ H Q → t σ H Q) : PI X tg e t' := ⟨fun pins s σ H Q I q => h.run pins s σ H Q I (i _ _ _ q)⟩

/-- a list or dict that stands may be frozen for ever -/
theorem inv_frzC {X : Cx} {pins : List (Addr × Obj)} {σ : L2.St} {H : Hp} {s : Shared} {a : Addr} {u0 : HO} (I : Inv X pins σ H s) (h : H a = some u0) (hm : MutC u0 a) : ∃ o, Inv X pins σ (upd H a (.frz o u0)) s := by
  have hok := I.hok a _ h
  obtain ⟨o, ho⟩ : ∃ o, s.heap.get? a = some o := by
    rcases hm with ⟨xs, rfl⟩ | ⟨xs, rfl⟩ | ⟨kvs, rfl⟩
    · obtain ⟨_, its, n, _, e⟩ := hok
      exact ⟨_, e⟩
    · exact hok.2.1
    · obtain ⟨_, _, vs, _, o, es, ep, e, _⟩ := hok
      exact ⟨o, e⟩
  refine ⟨o, ?_⟩
  have ne : ∀ b u, H b = some u → u ≠ u0 → b ≠ a := fun b u e q z => by
    subst z
    rw [h] at e
    exact q (Option.some.inj e).symm
  have nn : ∀ b, H b = none → b ≠ a := fun b e z => by
    subst z
    rw [h] at e
    cases e
  have nt : ∀ xs, HO.tup xs ≠ u0 := fun xs z => hm.ntup xs z.symm
  have nf : ∀ ob u, HO.frz ob u ≠ u0 := fun ob u z => hm.nfrz ob u z.symm
  have nb : ∀ ps, HO.tbl ps ≠ u0 := fun ps z => hm.ntbl ps z.symm
  have no : ∀ x, HO.own x ≠ u0 := fun x z => hm.own x z.symm
  have u : Un X.fs [] H (upd H a (.frz o u0)) s.heap s.heap := by
    refine ⟨fun b u e n _ _ => e, fun b u e n _ _ => ⟨u.slots, e⟩, fun b u e n _ => by rw [upd_ne (nn b n)]; exact n, fun b u e _ => ⟨u, e⟩, fun b ys e => by rw [upd_ne (ne b _ e (nt ys))]; exact e, fun b ob ys e => by rw [upd_ne (ne b _ e (nf ob ys))]; exact e, fun b ps e => ⟨#[], by rw [upd_ne (ne b _ e (nb ps)), e]; simp⟩⟩
  refine I.un (t' := s.toks) u fun b u e => ?_
  by_cases hb : b = a
  · subst hb
    rw [upd_same] at e
    cases e
    refine ⟨ho, ?_⟩
    refine hok.stay (fun _ _ _ q => q) (fun c q => ?_) fun c ys q => ?_
    · rw [upd_ne (ne c _ q (no _))]
      exact q
    · rw [upd_ne (ne c _ q (nt _))]
      exact q
  · rw [upd_ne hb] at e
    refine (I.hok b u e).stay (fun _ _ _ q => q) (fun c q => ?_) fun c ys q => ?_
    · rw [upd_ne (ne c _ q (no _))]
      exact q
    · rw [upd_ne (ne c _ q (nt _))]
      exact q
theorem inv_frz {X : Cx} {pins : List (Addr × Obj)} {σ : L2.St} {H : Hp} {s : Shared} {a : Addr} {xs : List V} (I : Inv X pins σ H s) (h : H a = some (.lst xs)) : ∃ o, Inv X pins σ (upd H a (.frz o (.lst xs))) s := inv_frzC I h (.inl ⟨xs, rfl⟩)
/-- what is made is frozen at once -/
theorem pe_frz {X : Cx} {e : Expr} {t : TE} (h : PE X e t) : PE X e fun σ H Q => t σ H fun z H' => Q z H' ∨ ∃ a xs, z = .ref a ∧ H' a = some (.lst xs) ∧ ∀ o, Q z (upd H' a (.frz o (.lst xs))) := by
  refine ⟨fun pins s σ H Q I q => ?_⟩
  refine thn (h.run pins s σ H _ I q) fun u s1 ⟨z, H1, I1, r1, q1⟩ => ?_
  rcases q1 with q1 | ⟨a, xs, rfl, ha, q1⟩
  · exact ⟨z, H1, I1, r1, q1⟩
  · obtain ⟨o, I2⟩ := inv_frz I1 ha
    exact ⟨_, _, I2, r1, q1 o⟩
theorem pe_frzC {X : Cx} {e : Expr} {t : TE} (h : PE X e t) : PE X e fun σ H Q => t σ H fun z H' => Q z H' ∨ ∃ a u, z = .ref a ∧ H' a = some u ∧ MutC u a ∧ ∀ o, Q z (upd H' a (.frz o u)) := by
  refine ⟨fun pins s σ H Q I q => ?_⟩
  refine thn (h.run pins s σ H _ I q) fun u s1 ⟨z, H1, I1, r1, q1⟩ => ?_
  rcases q1 with q1 | ⟨a, u0, rfl, ha, hm, q1⟩
  · exact ⟨z, H1, I1, r1, q1⟩
  · obtain ⟨o, I2⟩ := inv_frzC I1 ha hm
    exact ⟨_, _, I2, r1, q1 o⟩
theorem crep_frz {Γ : Gm} {H : Hp} {a : Addr} {o : Obj} {u : HO} {d : P} (ha : H a = none) (r : CRep Γ H d u a) : Rep Γ (upd H a (.frz o u)) d (.ref a) :=
  (r.per (per_of (Same.new ha))).rep upd_same
theorem upd_frz {H : Hp} {a : Addr} {o : Obj} {xs : List V} : upd (upd H a (.lst xs)) a (.frz o (.lst xs)) = upd H a (.frz o (.lst xs)) := upd_upd
theorem rep_frz {Γ : Gm} {H : Hp} {a : Addr} {o : Obj} {xs : List V} {ps : List P} (ha : H a = none) (r : Reps Γ H ps xs) : Rep Γ (upd H a (.frz o (.lst xs))) (.lst ps) (.ref a) := by
  simp only [Rep]
  exact ⟨a, xs, rfl, .inl ⟨o, upd_same⟩, Reps.per (per_of (Same.new ha)) _ _ r⟩
end Hb

/-! Whether an expression of ours writes one of the text. -/
namespace Hb
open PySem PySem.Spec PyProof.Rows L2

structure Ctx where
  N : List Str
  sc : Scope
  gn : Nat → Str
  fs : List Nat
  ar : Nat → Nat
  gs : List Nat
  st : Str → Bool
  es : List Nat
  lam : Bool
  hi : Bool
  clo : Bool
  cs : List Nat
def visB (sc : Scope) (x : Str) : Bool := match sc.names.lookup x with
  | some .local => true
  | some .cell => true
  | some .free => true
  | _ => false
def locB (sc : Scope) (x : Str) : Bool := match sc.names.lookup x with
  | some .local => true
  | some .cell => true
  | _ => false
def glB (sc : Scope) (x : Str) : Bool := match sc.names.lookup x with
  | some .globalImplicit => true
  | _ => false
/-- may be stored to -/
def stB (C : Ctx) (x : Str) : Bool := (C.st x && locB C.sc x) || (match C.sc.names.lookup x with
  | some .local => true
  | _ => false)
def dbg (x : Str) : Bool := !(x == ("__debug__" : Str)) && !(x == ("__classdict__" : Str))
def notStar : Expr → Bool
  | .Starred _ _ => false
  | _ => true
def notSlice : Expr → Bool
  | .Slice _ _ _ _ => false
  | _ => true
def notSet : Expr → Bool
  | .Set _ _ _ => false
  | _ => true
def plainT : Expr → Bool
  | .UnaryOp .Not _ _ => false
  | .BoolOp _ _ _ => false
  | .IfExp _ _ _ _ => false
  | .Compare _ _ _ _ => false
  | _ => true
def isTup : Expr → Bool
  | .Tuple _ _ _ => true
  | _ => false
def O2.ord : O2 → Bool
  | .lt => true
  | .le => true
  | .gt => true
  | .ge => true
  | _ => false
def chkTys (C : Ctx) : List Ty → List Expr → Bool
  | [], [] => true
  | t :: ts, .Name x _ :: es => decide ((t.nm : Str) = x) && glB C.sc x && chkTys C ts es
  | _, _ => false
def ownP (N : List Str) (own : List Nat) : List (Str × Nat) := own.filterMap fun i => (N[i]?).map fun x => (x, i)
mutual
def chkT (C : Ctx) : T → Expr → Bool
  | .nm i, a => match a with
    | .Name x _ => decide (C.N[i]? = some x) && stB C x
    | _ => false
  | .tp ts, a => match a with
    | .Tuple l _ _ => chkTs C ts l
    | _ => false
  | .tnil, _ => false
  | .tcons _ _, _ => false
def chkTs (C : Ctx) : T → List Expr → Bool
  | .tnil, l => match l with
    | [] => true
    | _ => false
  | .tcons t ts, l => match l with
    | a :: l => notStar a && chkT C t a && chkTs C ts l
    | [] => false
  | .nm _, _ => false
  | .tp _, _ => false
end
def Ctx.blk (C : Ctx) (scope : Scope) : Ctx := { C with sc := relS scope C.sc, st := fun x => scope.names.lookup x == some .cell, lam := false, clo := false, cs := [] }
def Ctx.lamb (C : Ctx) (scope : Scope) : Ctx := { C with sc := scope, st := fun _ => false, lam := false, clo := false, cs := [] }
/-- a lambda's body -/
def Ctx.clam (C : Ctx) (N : List Str) (scope : Scope) : Ctx := { C with N := N, sc := scope, st := fun _ => false, lam := false, clo := false, cs := [] }
def lamP : Arguments → Option Str
  | ⟨[], [⟨x, none, _⟩], none, [], [], none, []⟩ => some x
  | _ => none
def capN (N : List Str) : List Nat → Option (List Str)
  | [] => some []
  | i :: r => match N[i]?, capN N r with
    | some x, some xs => some (x :: xs)
    | _, _ => none
def noArgs : Arguments → Bool
  | ⟨[], [], none, [], [], none, []⟩ => true
  | _ => false
/-- may be asked for its truth -/
def tst : E → Bool
  | .ite _ _ _ => false
  | _ => true
mutual
def T.slots : T → List Nat
  | .nm i => [i]
  | .tp ts => T.slotss ts
  | _ => []
def T.slotss : T → List Nat
  | .tcons t ts => T.slots t ++ T.slotss ts
  | _ => []
end
def Mt.nm : Mt → Str
  | .append => "append"
  | .pop => "pop"
  | .index => "index"
  | .count => "count"
def Mt.ar : Mt → Nat
  | .pop => 0
  | _ => 1
def Mt.ok : Mt → Bool
  | .append => true
  | .pop => true
  | .index => true
  | _ => false
def isName : Expr → Bool
  | .Name _ _ => true
  | _ => false
def isM1 : Expr → Bool
  | .UnaryOp .USub (.Constant (.int j) _ _) _ => decide (j = 1)
  | _ => false
mutual
def chk : E → Ctx → Expr → Bool
  | .cst d, C, a => match a with
    | .Constant c _ _ => match c, d with
      | .none, .non => true
      | .bool b, .bl b' => b == b'
      | .int i, .int j => i == j
      | .str x, .str y => decide (x = y)
      | _, _ => false
    | _ => false
  | .var i, C, a => match a with
    | .Name x _ => decide (C.N[i]? = some x) && visB C.sc x && dbg x
    | _ => false
  | .glb g, C, a => match a with
    | .Name x _ => decide (g ∈ C.gs) && decide (C.gn g = x) && glB C.sc x && dbg x
    | _ => false
  | .op o l r, C, a => match a with
    | .BinOp x op y _ => decide (o.bop = some op) && chk l C x && chk r C y
    | .Compare x ops ys _ => match ops, ys with
      | [op], [y] => decide (o.cop = some op) && !behindInMarks op y && chk l C x && chk r C y
      | _, _ => false
    | _ => false
  | .neg e, C, a => match a with
    | .UnaryOp .USub x _ => chk e C x
    | _ => false
  | .chain o1 o2 x y z, C, a => match a with
    | .Compare l ops rs _ => match ops, rs with
      | [p1, p2], [r1, r2] => decide (o1.cop = some p1) && o1.ord && decide (o2.cop = some p2) && o2.ord && !lastMarks [p1, p2] [r1, r2] && chk x C l && chk y C r1 && chk z C r2
      | _, _ => false
    | _ => false
  | .and es, C, a => match a with
    | .BoolOp .And vs _ => chkAO es C vs
    | _ => false
  | .or es, C, a => match a with
    | .BoolOp .Or vs _ => chkAO es C vs
    | _ => false
  | .not e, C, a => match a with
    | .UnaryOp .Not x _ => tst e && chk e C x
    | _ => false
  | .ite c x y, C, a => match a with
    | .IfExp t b o _ => tst c && chk c C t && chk x C b && chk y C o
    | _ => false
  | .tup es, C, a => match a with
    | .Tuple l _ _ => chks es C l
    | _ => false
  | .lst es, C, a => match a with
    | .List l _ => chks es C l
    | _ => false
  | .idx x i, C, a => match a with
    | .Subscript v s _ => notSlice s && chk x C v && chk i C s
    | _ => false
  | .slc x lo hi, C, a => match a with
    | .Subscript v s _ => match s with
      | .Slice l u st _ => st.isNone && chk x C v && chkO lo C l && chkO hi C u
      | _ => false
    | _ => false
  | .rev x, C, a => match a with
    | .Subscript v s _ => match s with
      | .Slice l u st _ => match st with
        | some st => l.isNone && u.isNone && isM1 st && chk x C v
        | none => false
      | _ => false
    | _ => false
  | .call f es, C, a => match a with
    | .Call (.Name x _) args [] _ => decide (f ∈ C.fs) && decide (args.length = C.ar f) && decide (C.gn f = x) && glB C.sc x && dbg x && chks es C args
    | _ => false
  | .app f es, C, a => match a with
    | .Call (.Name x _) args [] _ => (match f with
      | .var i => decide (C.N[i]? = some x)
      | _ => false) && visB C.sc x && dbg x && !args.isEmpty && C.hi && chks es C args
    | _ => false
  | .appc i es, C, a => match a with
    | .Call (.Name x _) args [] _ => decide (C.N[i]? = some x) && visB C.sc x && dbg x && !args.isEmpty && C.clo && chks es C args
    | _ => false
  | .capp f e1 e2 np caps body g, C, a => match a with
    | .Call (.Name x _) args [] _ => match args with
      | [y1, y2, .Lambda ps lb sc _, .Name gx _] => C.lam && decide (f ∈ C.cs) && decide (C.ar f = 4) && decide (C.gn f = x) && glB C.sc x && dbg x && notStar y1 && notStar y2 && chk e1 C y1 && chk e2 C y2 && decide (np = 1) && decide (g ∈ C.gs) && decide (C.gn g = gx) && glB C.sc gx && dbg gx &&
        (match lamP ps, capN C.N caps with
          | some p, some fr => NdefX.nscB (p :: fr) [p] fr sc && NdefX.ndefB C.sc sc fr && chk body (C.clam (p :: fr) sc) lb
          | _, _ => false)
      | _ => false
    | _ => false
  | .bi b es, C, a => match a with
    | .Call (.Name x _) args [] _ => decide ((b.nm.1 : Str) = x) && glB C.sc x && !args.isEmpty && chks es C args
    | _ => false
  | .met m o es, C, a => match a with
    | .Call (.Attribute y n ap) args [] cp => m.ok && decide (m.nm = n) && isName y && (ap.endLine == cp.line) && decide (args.length = m.ar) && chk o C y && chks es C args
    | _ => false
  | .cnt o e, C, a => match a with
    | .Call (.Attribute y n ap) args [] cp => decide (n = ("count" : Str)) && isName y && (ap.endLine == cp.line) && (match args with
      | [z] => notStar z && chk o C y && chk e C z
      | _ => false)
    | _ => false
  | .isi e tys, C, a => match a with
    | .Call (.Name f _) args [] _ => match args with
      | [x, .Name t _] => decide (f = ("isinstance" : Str)) && glB C.sc f && chk e C x && notStar x && (match tys with | [ty] => decide ((ty.nm : Str) = t) && glB C.sc t | _ => false)
      | [x, .Tuple l _ _] => decide (f = ("isinstance" : Str)) && glB C.sc f && chk e C x && notStar x && !tys.isEmpty && decide (tys.length ≤ 10) && chkTys C tys l
      | _ => false
    | _ => false
  | .lc t it c elt own, C, a => match a with
    | .ListComp el gs scope _ => match gs with
      | [⟨tg, iter, ifs, as⟩] => decide (as = 0) && decide ((ownP C.N own).map (·.2) = own) && blkC C.N C.sc scope (ownP C.N own) && notSet iter && chkI it C iter tg && chkT (C.blk scope) t tg && decide (T.slots t ⊆ own) &&
        (match ifs with
          | [] => (match c with | .cst (.bl true) => true | _ => false)
          | [i] => tst c && chk c (C.blk scope) i
          | _ => false) && chk elt (C.blk scope) el
      | _ => false
    | _ => false
  | .lrng e, C, a => match a with
    | .Call (.Name x _) args [] _ => match args with
      | [.Call (.Name y _) [z] [] _] => decide (x = ("list" : Str)) && decide (y = ("range" : Str)) && glB C.sc x && glB C.sc y && notStar z && chk e C z
      | _ => false
    | _ => false
  | .dsp0, C, a => match a with
    | .Dict ks vs _ => ks.isEmpty && vs.isEmpty
    | _ => false
  | .dsp1 k v, C, a => match a with
    | .Dict ks vs _ => match ks, vs with
      | [some x], [y] => chk k C x && chk v C y
      | _, _ => false
    | _ => false
  | .tryl e, C, a => match a with
    | .Call (.Name x _) args [] _ => match args with
      | [.Lambda ps body scope _] => C.lam && decide (x = ("_law_try" : Str)) && glB C.sc x && noArgs ps && LamX.lamSB C.sc scope && chk e (C.lamb scope) body
      | _ => false
    | _ => false
  | _, _, _ => false
def chks : E → Ctx → List Expr → Bool
  | .nil, _, l => match l with
    | [] => true
    | _ => false
  | .cons e es, C, l => match l with
    | a :: l => notStar a && chk e C a && chks es C l
    | [] => false
  | _, _, _ => false
def chkAO : E → Ctx → List Expr → Bool
  | .cons e es, C, l => match l with
    | [] => false
    | [a] => tst e && chk e C a && (match es with | .nil => true | _ => false)
    | a :: b :: l => tst e && chk e C a && chkAO es C (b :: l)
  | _, _, _ => false
def chkO : E → Ctx → Option Expr → Bool
  | .nil, _, o => o.isNone
  | .pl e, C, o => match o with
    | some a => chk e C a
    | none => false
  | _, _, _ => false
def chkI : E → Ctx → Expr → Expr → Bool
  | .pl e, C, a, _ => chk e C a
  | .rng e, C, a, _ => match a with
    | .Call (.Name f _) args [] _ => match args with
      | [x] => decide (f = ("range" : Str)) && glB C.sc f && notStar x && chk e C x
      | _ => false
    | _ => false
  | .enm e, C, a, tg => match a with
    | .Call (.Name f _) args [] _ => match args with
      | [x] => decide (f = ("enumerate" : Str)) && glB C.sc f && notStar x && chk e C x && isTup tg
      | _ => false
    | _ => false
  | .zip e e', C, a, tg => match a with
    | .Call (.Name f _) args [] _ => match args with
      | [x, y] => decide (f = ("zip" : Str)) && glB C.sc f && notStar x && notStar y && chk e C x && chk e' C y && isTup tg
      | _ => false
    | _ => false
  | .zip3 e e' e2, C, a, tg => match a with
    | .Call (.Name f _) args [] _ => match args with
      | [x, y, z] => decide (f = ("zip" : Str)) && glB C.sc f && notStar x && notStar y && notStar z && chk e C x && chk e' C y && chk e2 C z && isTup tg
      | _ => false
    | _ => false
  | _, _, _, _ => false
end

/-! ### small facts -/
theorem visB_ok {sc : Scope} {x : Str} (h : visB sc x = true) : Vis sc x := by
  unfold visB at h
  split at h
  · exact .inl (by assumption)
  · exact .inr (.inl (by assumption))
  · exact .inr (.inr (by assumption))
  · cases h
theorem locB_ok {sc : Scope} {x : Str} (h : locB sc x = true) : Loc sc x := by
  unfold locB at h
  split at h
  · exact .inl (by assumption)
  · exact .inr (by assumption)
  · cases h
theorem stB_ok {C : Ctx} {x : Str} (h : stB C x = true) : Loc C.sc x ∧ (C.st x = true ∨ C.sc.names.lookup x = some .local) := by
  unfold stB at h
  simp only [Bool.or_eq_true, Bool.and_eq_true] at h
  rcases h with ⟨h1, h2⟩ | h
  · exact ⟨locB_ok h2, .inl h1⟩
  · split at h
    · exact ⟨.inl (by assumption), .inr (by assumption)⟩
    · cases h
theorem glB_ok {sc : Scope} {x : Str} (h : glB sc x = true) : sc.names.lookup x = some .globalImplicit := by
  unfold glB at h
  split at h
  · assumption
  · cases h
theorem dbg_ok {x : Str} (h : dbg x = true) : (x == ("__debug__" : Str)) = false ∧ (x == ("__classdict__" : Str)) = false := by
  simp only [dbg, Bool.and_eq_true, Bool.not_eq_true'] at h
  exact h
theorem star_ok {e : Expr} {es : List Expr} {env : PySem.Env} (h : notStar e = true) : starEach (e :: es) env = (false, eval e env) :: starEach es env := by
  cases e <;> first | rfl | (exact absurd h (by simp [notStar]))
theorem assignEach_ok {e : Expr} {es : List Expr} {env : PySem.Env} (h : notStar e = true) : assignEach (e :: es) env = (false, assign e env) :: assignEach es env := by
  cases e <;> first | rfl | (exact absurd h (by simp [notStar]))
theorem plainIx_ok {e : Expr} (h : notSlice e = true) : PlainIx e := by
  intro o i
  cases e <;> first | rfl | (exact absurd h (by simp [notSlice]))
theorem foldedSet_ok {e : Expr} {env : PySem.Env} (h : notSet e = true) : ∀ x, foldedSetIterable e env x = pure x := by
  intro x
  cases e <;> first | rfl | (exact absurd h (by simp [notSet]))
theorem plainT_ok {e : Expr} {env : PySem.Env} (h : plainT e = true) : ∀ whole, isTrue e env whole = (do let v ← whole; standAt e.pos; holding [v] (truthy v)) := by
  intro w
  cases e <;> first | rfl | (exact absurd h Bool.false_ne_true) | (rename_i op _ _; cases op <;> first | rfl | (exact absurd h Bool.false_ne_true))
end Hb

/-! Calls: what is handed over, what comes back. -/
namespace Hb
open PySem PySem.Spec PyProof.Rows L2

theorem addL_mem {l : List Nat} {n k : Nat} : k ∈ addL l n ↔ k ∈ l ∨ k = n := by
  unfold addL
  split
  · rename_i h
    constructor
    · exact .inl
    · rintro (h1 | rfl)
      · exact h1
      · exact h
  · simp
theorem addL_nodup {l : List Nat} {n : Nat} (h : l.Nodup) : (addL l n).Nodup := by
  unfold addL
  split
  · exact h
  · rename_i hn
    rw [List.nodup_append]
    refine ⟨h, by simp, fun a ha b hb => ?_⟩
    have : b = n := by simpa using hb
    subst this
    rintro rfl
    exact hn ha
theorem locsV_mem : ∀ {vs : List Val} {l : List Nat} {k : Nat}, k ∈ l → k ∈ locsV vs l
  | [], _, _, h => h
  | .p _ :: r, _, _, h => locsV_mem (vs := r) h
  | .l n :: r, _, _, h => locsV_mem (vs := r) (addL_mem.mpr (.inl h))
  | .f _ _ _ :: r, _, _, h => locsV_mem (vs := r) h
theorem locsV_nodup : ∀ {vs : List Val} {l : List Nat}, l.Nodup → (locsV vs l).Nodup
  | [], _, h => h
  | .p _ :: r, _, h => locsV_nodup (vs := r) h
  | .l n :: r, _, h => locsV_nodup (vs := r) (addL_nodup h)
  | .f _ _ _ :: r, _, h => locsV_nodup (vs := r) h
theorem locsV_in : ∀ {vs : List Val} {l : List Nat} {n : Nat}, Val.l n ∈ vs → n ∈ locsV vs l
  | .p _ :: r, l, n, h => by
    have h : Val.l n ∈ r := by simpa using h
    exact locsV_in (vs := r) h
  | .l k :: r, l, n, h => by
    rcases List.mem_cons.mp h with e | h
    · cases e
      show k ∈ locsV r (addL l k)
      exact locsV_mem (addL_mem.mpr (.inr rfl))
    · exact locsV_in (vs := r) h
  | .f _ _ _ :: r, l, n, h => by
    have h : Val.l n ∈ r := by simpa using h
    exact locsV_in (vs := r) h
theorem at0_get : ∀ {ls : List Nat} {n : Nat}, n ∈ ls → ls[at0 ls n]? = some n
  | k :: r, n, h => by
    unfold at0
    split
    · rename_i e
      subst e
      rfl
    · rename_i e
      rcases List.mem_cons.mp h with e' | h
      · exact absurd e'.symm e
      · simpa using at0_get h
theorem handS_get {S : Sto} : ∀ {ls : List Nat} {k : Nat} {S0 : Sto}, handS S ls k = some S0 → ∀ i, S0.get i = if k ≤ i then (ls[i - k]?).bind S.get else none
  | [], k, S0, h, i => by
    cases h
    simp [Sto.get]
  | n :: r, k, S0, h, i => by
    simp only [handS] at h
    split at h
    · rename_i o S' e1 e2
      cases h
      simp only [Sto.get]
      have ih := handS_get e2 i
      by_cases hk : k = i
      · subst hk
        simp [e1]
      · rw [if_neg hk, ih]
        by_cases h1 : k ≤ i
        · have h2 : k + 1 ≤ i := by omega
          rw [if_pos h1, if_pos h2]
          have : i - k = (i - (k + 1)) + 1 := by omega
          rw [this]
          simp
        · have h2 : ¬ k + 1 ≤ i := by omega
          rw [if_neg h1, if_neg h2]
    · cases h
theorem handS_all {S : Sto} : ∀ {ls : List Nat} {k : Nat} {S0 : Sto}, handS S ls k = some S0 → ∀ n ∈ ls, (S.get n).isSome = true
  | n :: r, k, S0, h, i, hi => by
    simp only [handS] at h
    split at h
    · rename_i o S' e1 e2
      rcases List.mem_cons.mp hi with rfl | hi
      · rw [e1]; rfl
      · exact handS_all e2 i hi
    · cases h
theorem put_get {S : Sto} {n k : Nat} {o : P} : (S.put n o).get k = if k = n then some o else S.get k := by
  induction S with
  | nil =>
    simp only [Sto.put, Sto.get]
    by_cases h : k = n
    · subst h; simp
    · rw [if_neg h, if_neg (fun e => h e.symm)]
  | cons p S ih =>
    obtain ⟨j, q⟩ := p
    simp only [Sto.put]
    by_cases h : j = n
    · subst h
      rw [if_pos rfl]
      simp only [Sto.get]
      by_cases h2 : k = j
      · subst h2; simp
      · rw [if_neg h2, if_neg (fun e => h2 e.symm), if_neg (fun e => h2 e.symm)]
    · rw [if_neg h]
      simp only [Sto.get, ih]
      by_cases h2 : j = k
      · subst h2
        rw [if_pos rfl, if_neg h, if_pos rfl]
      · rw [if_neg h2, if_neg h2]
theorem del_get {S : Sto} {n k : Nat} : (S.del n).get k = if k = n then none else S.get k := by
  induction S with
  | nil => simp [Sto.del, Sto.get]
  | cons p S ih =>
    obtain ⟨j, q⟩ := p
    simp only [Sto.del]
    by_cases h : j = n
    · subst h
      rw [if_pos rfl, ih]
      by_cases h2 : k = j
      · rw [if_pos h2, if_pos h2]
      · rw [if_neg h2, if_neg h2]
        simp only [Sto.get]
        rw [if_neg (fun e => h2 e.symm)]
    · rw [if_neg h]
      simp only [Sto.get, ih]
      by_cases h2 : j = k
      · subst h2
        rw [if_pos rfl, if_neg h, if_pos rfl]
      · rw [if_neg h2, if_neg h2]
theorem backS_get {S' : Sto} : ∀ {ls : List Nat} {k : Nat} {S S2 : Sto}, ls.Nodup → backS S' ls k S = some S2 →
    (∀ n, n ∉ ls → S2.get n = S.get n) ∧ ∀ (j n : Nat), ls[j]? = some n → S2.get n = S'.get (k + j) ∧ (S2.get n).isSome = true
  | [], k, S, S2, _, h => by
    cases h
    exact ⟨fun _ _ => rfl, fun j n e => by simp at e⟩
  | a :: r, k, S, S2, nd, h => by
    simp only [backS] at h
    split at h
    · rename_i o e
      obtain ⟨nd1, nd2⟩ := List.nodup_cons.mp nd
      obtain ⟨h1, h2⟩ := backS_get nd2 h
      refine ⟨fun n hn => ?_, fun j n e2 => ?_⟩
      · rw [h1 n (fun z => hn (List.mem_cons_of_mem _ z)), put_get, if_neg]
        rintro rfl
        exact hn List.mem_cons_self
      · cases j with
        | zero =>
          have : a = n := by simpa using e2
          subst this
          rw [h1 a nd1, put_get, if_pos rfl, Nat.add_zero, e]
          exact ⟨rfl, rfl⟩
        | succ j =>
          have := h2 j n (by simpa using e2)
          rw [show k + (j + 1) = k + 1 + j by omega]
          exact this
    · cases h

/-! ### a def's promise -/
section
variable (Γ : Gm)
def CalR (m : Nat → Addr) (S : Sto) (H : Hp) (r : Res Val) (Q : VK) (E : XK) : Prop :=
  match r with
  | .ok v S' => ∀ x m' H', (∀ n, (S.get n).isSome = true → m' n = m n) → Keep (fun b => ∃ n, (S.get n).isSome = true ∧ m n = b) H H' → StoR Γ m' S' H' → Dom S S' → (∀ n, (S'.get n).isSome = true → (S.get n).isSome = true ∨ Fresh H (m' n)) → VRep Γ m' S' H' v x → Q x H'
  | .exc c d S' => ∀ cls dx m' H', (∀ n, (S.get n).isSome = true → m' n = m n) → Keep (fun b => ∃ n, (S.get n).isSome = true ∧ m n = b) H H' → StoR Γ m' S' H' → Dom S S' → ExcR Γ H' c d cls dx → E cls dx H'
  | .stk => False
def spH (h : Hd) (f : Nat) (n : Nat) : Sp := fun vs H Q E => ∃ as S m, as.length = n ∧ VReps Γ m S H as vs ∧ StoR Γ m S H ∧ CalR Γ m S H (h (.p (.gl f)) as S) Q E
/-- a def of the text at the level k -/
def FOk (P : Program) (w : World) (base : Heap) (k : Nat) (h : Hd) (f n : Nat) : Prop :=
  ∃ a fd ps, ps.length = n ∧ Γ.mg (Γ.gnm f) = some (.ref a) ∧ PySem.W.keepIn Γ.K (.ref a) = true ∧ Binds Γ.K fd ps [] ∧ FnOk P w Γ.K Γ.mg base (L2N.CX P w) k a fd ps (spH Γ h f n)
end
theorem sto_lists {Γ : Gm} {m : Nat → Addr} {S : Sto} {H : Hp} (h : StoR Γ m S H) : Lists (fun b => ∃ n, (S.get n).isSome = true ∧ m n = b) H := by
  rintro b ⟨n, hn, rfl⟩
  obtain ⟨o, e⟩ := Option.isSome_iff_exists.mp hn
  obtain ⟨u, q1, q2⟩ := h.at_ n o e
  exact ⟨u, q1, q2.mutC⟩
section
variable {Γ : Gm} {W : XK} {L : Addr → Prop} {m : Nat → Addr} {env : Env} {S : Sto} {σ : L2.St} {H : Hp} {h : Hd}
/-- what comes back of a call, in the caller's words -/
theorem call_back {vs : List Val} {S0 S' S2 : Sto} {m' : Nat → Addr} {H' : Hp} {ls : List Nat} (nd : ls.Nodup) (sr : SRep Γ L m env S σ H) (h0 : handS S ls 0 = some S0) (hb : backS S' ls 0 S = some S2)
    (hm : ∀ i, (S0.get i).isSome = true → m' i = m (ls.getD i 0)) (hk : Keep (fun b => ∃ i, (S0.get i).isSome = true ∧ m (ls.getD i 0) = b) H H') (st : StoR Γ m' S' H') (hd : Dom S0 S') :
    Keep L H H' ∧ Dom S S2 ∧ SRep Γ L m env S2 σ H' := by
  have g0 : ∀ i, S0.get i = (ls[i]?).bind S.get := fun i => by
    have := handS_get h0 i
    simpa using this
  have gi : ∀ i n, ls[i]? = some n → (S0.get i).isSome = true := fun i n e => by
    rw [g0, e]
    exact handS_all h0 n (List.mem_of_getElem? e)
  have gl : ∀ i, (S0.get i).isSome = true → ∃ n, ls[i]? = some n ∧ ls.getD i 0 = n := fun i e => by
    rw [g0] at e
    cases h : ls[i]? with
    | none => rw [h] at e; cases e
    | some n => exact ⟨n, rfl, by rw [List.getD_eq_getElem?_getD, h]; rfl⟩
  obtain ⟨b1, b2⟩ := backS_get nd hb
  have hL : ∀ b, (∃ i, (S0.get i).isSome = true ∧ m (ls.getD i 0) = b) → L b := by
    rintro b ⟨i, hi, rfl⟩
    obtain ⟨n, e, e2⟩ := gl i hi
    rw [e2]
    exact sr.live n (handS_all h0 n (List.mem_of_getElem? e))
  have kL : Keep L H H' := fun b o e n => hk b o e fun z => n (hL b z)
  have per : Per H H' := kL.per sr.lm
  have dom : Dom S S2 := fun n hn => by
    by_cases hn' : n ∈ ls
    · obtain ⟨j, hj⟩ := List.mem_iff_getElem?.mp hn'
      exact (b2 j n hj).2
    · rw [b1 n hn']
      exact hn
  have dom' : ∀ n, (S2.get n).isSome = true → (S.get n).isSome = true := fun n hn => by
    by_cases hn' : n ∈ ls
    · exact handS_all h0 n hn'
    · rw [b1 n hn'] at hn
      exact hn
  have sto : StoR Γ m S2 H' := by
    refine ⟨fun n o e => ?_, fun n n' e1 e2 e3 => sr.sto.inj n n' (dom' n e1) (dom' n' e2) e3, st.tabs⟩
    by_cases hn' : n ∈ ls
    · obtain ⟨j, hj⟩ := List.mem_iff_getElem?.mp hn'
      have q := (b2 j n hj).1
      rw [e, Nat.zero_add] at q
      have q2 := st.at_ j o q.symm
      rw [hm j (gi j n hj)] at q2
      obtain ⟨n2, e2, e3⟩ := gl j (gi j n hj)
      rw [hj] at e2
      cases e2
      rw [e3] at q2
      exact q2
    · rw [b1 n hn'] at e
      refine (sr.sto.at_ n o e).per per fun u q1 mu => ?_
      exact hk (m n) _ q1 (by
        rintro ⟨i, hi, e3⟩
        obtain ⟨n2, e4, e5⟩ := gl i hi
        rw [e5] at e3
        have : n2 = n := sr.sto.inj n2 n (handS_all h0 n2 (List.mem_of_getElem? e4)) (by rw [e]; rfl) e3
        subst this
        exact hn' (List.mem_of_getElem? e4)) (fun ps z => mu.ntbl ps z)
  refine ⟨kL, dom, ⟨sr.len, fun i v e => ?_, sto, fun n hn => sr.live n (dom' n hn), fun b hb => ?_⟩⟩
  · obtain ⟨x, e1, e2⟩ := sr.ee i v e
    exact ⟨x, e1, e2.mono per dom⟩
  · by_cases hb' : ∃ i, (S0.get i).isSome = true ∧ m (ls.getD i 0) = b
    · obtain ⟨i, hi, rfl⟩ := hb'
      obtain ⟨o, e⟩ := Option.isSome_iff_exists.mp (hd i hi)
      have q := st.at_ i o e
      rw [hm i hi] at q
      obtain ⟨u, q1, q2⟩ := q
      exact ⟨u, q1, q2.mutC⟩
    · obtain ⟨xs, e, mu⟩ := sr.lm b hb
      exact ⟨xs, hk b _ e hb' (fun ps z => mu.ntbl ps z), mu⟩
theorem hand_reps {S0 : Sto} {ls : List Nat} (h0 : handS S ls 0 = some S0) : ∀ {vs : List Val} {xs : List V}, (∀ n, Val.l n ∈ vs → n ∈ ls) → VReps Γ m S H vs xs → VReps Γ (fun i => m (ls.getD i 0)) S0 H (vs.map (renV ls)) xs
  | [], xs, _, h => h
  | v :: vs, xs, hl, h => by
    obtain ⟨y, ys, rfl, h1, h2⟩ := h
    refine ⟨y, ys, rfl, ?_, hand_reps h0 (fun n hn => hl n (List.mem_cons_of_mem _ hn)) h2⟩
    cases v with
    | p d => exact h1
    | l n =>
      have hn := hl n List.mem_cons_self
      have e := at0_get hn
      refine ⟨?_, ?_⟩
      · show y = V.ref (m (ls.getD (at0 ls n) 0))
        rw [List.getD_eq_getElem?_getD, e]
        exact h1.1
      · have := handS_get h0 (at0 ls n)
        simp only [Nat.zero_le, if_true, Nat.sub_zero, e] at this
        rw [this]
        exact h1.2
    | f _ _ _ => exact h1
theorem hand_sto {S0 : Sto} {ls : List Nat} (nd : ls.Nodup) (st : StoR Γ m S H) (h0 : handS S ls 0 = some S0) : StoR Γ (fun i => m (ls.getD i 0)) S0 H := by
  have g0 : ∀ i, S0.get i = (ls[i]?).bind S.get := fun i => by
    have := handS_get h0 i
    simpa using this
  have gl : ∀ i, (S0.get i).isSome = true → ∃ n, ls[i]? = some n ∧ ls.getD i 0 = n := fun i e => by
    rw [g0] at e
    cases h : ls[i]? with
    | none => rw [h] at e; cases e
    | some n => exact ⟨n, rfl, by rw [List.getD_eq_getElem?_getD, h]; rfl⟩
  refine ⟨fun i o e => ?_, fun i j hi hj e => ?_, st.tabs⟩
  · obtain ⟨n, e1, e2⟩ := gl i (by rw [e]; rfl)
    rw [g0, e1] at e
    show ORep Γ H o (m (ls.getD i 0))
    rw [e2]
    exact st.at_ n o e
  · obtain ⟨n, e1, e2⟩ := gl i hi
    obtain ⟨n', e1', e2'⟩ := gl j hj
    have e : m (ls.getD i 0) = m (ls.getD j 0) := e
    rw [e2, e2'] at e
    have := st.inj n n' (handS_all h0 n (List.mem_of_getElem? e1)) (handS_all h0 n' (List.mem_of_getElem? e1')) e
    subst this
    obtain ⟨hi', q1⟩ := List.getElem?_eq_some_iff.mp e1
    obtain ⟨hj', q2⟩ := List.getElem?_eq_some_iff.mp e1'
    exact (List.getElem_inj nd).mp (q1.trans q2.symm)
/-- the caller's side of a call -/
theorem callV_ok {f : Nat} {vs : List Val} {xs : List V} {Q : VK} {n : Nat} (hn : vs.length = n) (sr : SRep Γ L m env S σ H) (hv : VReps Γ m S H vs xs)
    (q : EvR Γ (fun c d _ H => W c d H) L m env σ S H (callV h (.p (.gl f)) vs S) (VK' Γ m Q)) : spH Γ h f n xs H Q W := by
  unfold callV at q
  split at q
  · rename_i S0 h0
    have nd : (locsV (Val.p (.gl f) :: vs) []).Nodup := locsV_nodup List.nodup_nil
    have hl : ∀ n, Val.l n ∈ vs → n ∈ locsV (Val.p (.gl f) :: vs) [] := fun n hn => locsV_in (vs := Val.p (.gl f) :: vs) (List.mem_cons_of_mem _ hn)
    generalize locsV (Val.p (.gl f) :: vs) [] = ls at *
    have g0 : ∀ i, S0.get i = (ls[i]?).bind S.get := fun i => by
      have := handS_get h0 i
      simpa using this
    refine ⟨vs.map (renV ls), S0, fun i => m (ls.getD i 0), by rw [List.length_map]; exact hn, hand_reps h0 hl hv, hand_sto nd sr.sto h0, ?_⟩
    show CalR Γ _ S0 H (h (renV ls (.p (.gl f))) (vs.map (renV ls)) S0) Q W
    cases hr : h (renV ls (.p (.gl f))) (vs.map (renV ls)) S0 with
    | stk => rw [hr] at q; exact q
    | ok v S' =>
      rw [hr] at q
      intro x m' H' hm hk st hd hf hx
      simp only [backR] at q
      split at q
      · rename_i S2 hb
        obtain ⟨k1, k2, k3⟩ := call_back (vs := vs) nd sr h0 hb hm hk st hd
        cases v with
        | p d => exact q H' k1 k2 k3 x hx
        | f _ _ _ => exact q.elim
        | l i =>
          simp only at q
          split at q
          · rename_i n' e
            refine q H' k1 k2 k3 x ⟨?_, ?_⟩
            · rw [hx.1]
              have hs : (S0.get i).isSome = true := by
                rw [g0, e]
                exact handS_all h0 n' (List.mem_of_getElem? e)
              rw [hm i hs]
              show V.ref (m (ls.getD i 0)) = _
              rw [List.getD_eq_getElem?_getD, e]
              rfl
            · exact k2 n' (handS_all h0 n' (List.mem_of_getElem? e))
          · exact q.elim
      · exact q.elim
    | exc c d S' =>
      rw [hr] at q
      intro cls dx m' H' hm hk st hd hx
      simp only [backR] at q
      split at q
      · rename_i S2 hb
        obtain ⟨k1, k2, k3⟩ := call_back (vs := vs) nd sr h0 hb hm hk st hd
        exact q cls dx H' k1 k2 k3 hx
      · exact q.elim
  · exact q.elim
end
/-! ### lambdas handed in -/
/-- a lambda's text is written by its term -/
structure CloT (lc : List Str → Scope → Ctx) (o : Clo) : Prop where
  np : o.ps.length = o.np
  sco : NdefX.NScope (o.ps ++ o.fr) o.ps o.fr o.sc
  bind : ∀ (pm ctv : Value) (us : List Value), us.length = o.ps.length → bindArgs (PySem.W.kla_fn "<lambda>" o.q o.params o.body o.sc o.cl pm (.ref o.c) ctv) ⟨us, []⟩ = pure (o.ps.zip us)
  chk : chk o.b (lc (o.ps ++ o.fr) o.sc) o.body = true
  dsl : o.ds.length = o.fr.length
  wsl : o.ws.length = o.fr.length
/-- where it stands -/
structure CloAt (o : Clo) (f : Addr) (s : Shared) (H : Hp) : Prop where
  ob : ∃ (pm ctv : Value), s.heap.get? f = some (PySem.W.kla_obj "<lambda>" o.q o.params o.body o.sc o.cl pm o.c ctv)
  cells : NdefX.CellsAt o.cl o.fr (o.ws.map some) s.heap H
section
variable (Γ : Gm) (P : Program) (w : World) (base : Heap)
def spC (h : Hd) (o : Clo) : Sp := fun vs H Q E => ∃ as : List Hb.P, as.length = o.np ∧ Reps Γ H as vs ∧ LamX.Tabs Γ.T H ∧ CalR Γ (fun _ => 0) [] H ((h (.f o.np o.b o.ds) (as.map .p) []).cl []) Q E
/-- lambdas at the level k -/
def LOk (lc : List Str → Scope → Ctx) (k : Nat) (h : Hd) : Prop := ∀ (o : Clo) (f : Addr) (A : Around) (outer : List PySem.Env) (s : Shared) (H : Hp) (us : List Value) (vs : List V) (Q : VK) (E : XK), CloT lc o → Room k A → Env0 P w Γ.K Γ.mg base A outer s H →
  CloAt o f s H → H o.c = some (LamX.CodeO o.c o.q) → Reps Γ H o.ds o.ws → Vals vs us → spC Γ h o vs H Q E → codeAny (model P w) A (.call (.ref f) ⟨us, []⟩) (CR (L2N.CX P w) outer P w H s Q E) s
def oneC (f : Addr) (o : Clo) : Addr → Option Clo := fun x => if x = f then some o else none
/-- a def that a lambda is handed to -/
def FOkC (lc : List Str → Scope → Ctx) (k : Nat) (h : Hd) (f n : Nat) : Prop :=
  ∃ a fd ps, ps.length = n ∧ Γ.mg (Γ.gnm f) = some (.ref a) ∧ PySem.W.keepIn Γ.K (.ref a) = true ∧ Binds Γ.K fd ps [] ∧
    ∀ (o : Clo) (fa : Addr) (A : Around) (outer : List PySem.Env) (s : Shared) (H : Hp) (us : List Value) (vs : List V) (Q : VK) (E : XK), CloT lc o → Room k A → Env0 P w Γ.K Γ.mg base A outer s H → CloAt o fa s H → H fa = none → fa ∉ frs outer →
      H o.c = some (LamX.CodeO o.c o.q) → Reps Γ H o.ds o.ws → Vals vs us → spH (Γ.wc (oneC fa o)) h f n vs H Q E → codeAny (model P w) A (.call (.ref a) ⟨us, []⟩) (CR (L2N.CX P w) outer P w H s Q E) s
end
/-- the names of built-ins that the module must not hide -/
def bnames : List Str := ["len", "tuple", "list", "all", "any", "sum", "sorted", "set", "max", "min", "int", "str", "bool", "dict", "range", "enumerate", "zip", "isinstance"]
theorem boot_isi : bootBuiltins ("isinstance" : Str) = some (.builtin "isinstance") := by decide +kernel
end Hb

/-! try with several clauses «except X as n», one name n. -/
namespace Hb
open PySem PySem.Spec PyProof.Rows L2

abbrev SuT : Type := Addr → Value → Option Addr → TS
/-- what the clauses wish of an exception of the body; the suite begins with the name set, and ends with it gone -/
def wManyA (K : PySem.W.Frag) (Wout : WX) (i : Nat) (D : Ends) : List (Value × SuT) → WX
  | [] => Wout
  | (c, ts) :: r => fun cls d σ H => ∃ b, PySem.W.exmOne K cls c = some b ∧
      (b = true → ∀ a, H a = none → ts a cls d { nx := fun σ' H' => D.nx (σ'.set i none) H', rt := D.rt, bk := fun σ' H' => D.bk (σ'.set i none) H', ct := fun σ' H' => D.ct (σ'.set i none) H' } (σ.set i (some (.ref a))) H) ∧
      (b = false → wManyA K Wout i D r cls d σ H)
inductive HdsA (X : Cx) (n : Str) : List ExceptHandler → List (Value × SuT) → Prop
  | nil : HdsA X n [] []
  | cons {x : Str} {c : Value} {ts : SuT} {b₀ : Stmt} {suite : List Stmt} {np pos' : Pos} {hds : List ExceptHandler} {l : List (Value × SuT)} (hc : Names X x c)
      (hsu : ∀ (a : Addr) (oe : Obj) (cls : Value) (d : Option Addr) (pn : List (Addr × Obj)), L2N.Zn cls d oe → (∃ vs, oe.data = .fields vs) → PSs (X.suite a ((a, oe) :: pn)) (b₀ :: suite) (ts a cls d)) (r : HdsA X n hds l) :
      HdsA X n (.ExceptHandler (some (.Name x np)) (some n) (b₀ :: suite) pos' :: hds) ((c, ts) :: l)
theorem ps_try_manyA {X : Cx} {n : Str} {i : Nat} {body : List Stmt} {h₀ : ExceptHandler} {hds : List ExceptHandler} {l : List (Value × SuT)} {pos : Pos} {tb : WX → TS} {Wout : WX} (hs : X.stack = X.env :: X.outer) (hf : X.env.frame = some X.env.locals)
    (hN : X.N.Nodup) (hi : X.N[i]? = some n) (hln : X.env.kindOf n = some .local) (tk : L2N.Takes X Wout)
    (hb : ∀ (W : WX) (pn : List (Addr × Obj)) (xe : Value → Shared → Prop), L2N.Takes (X.tr pn xe) W → PassesOwn (model X.prog X.w) X.A X.env xe → PSs (X.tr pn xe) body (tb W))
    (hh : HdsA X n (h₀ :: hds) l) : PS X (.Try body (h₀ :: hds) [] [] pos) (fun D σ H => tb (wManyA X.K Wout i D l) D σ H) := by
  refine ⟨fun pins s σ H D I h => ?_⟩
  have ok := I.ok
  have hfr : X.A.frames = some (X.env :: X.outer) := by rw [ok.frames, hs]
  have hloc : Loc X.env.scope n := .inl hln
  refine wpAny_Try_except ?_
  refine wpAny_mono ((hb (wManyA X.K Wout i D l) (X.pn ++ pins) (fun e s₁ => wpAny (model X.prog X.w) X.A (noteFrame e X.env) (fun _ s₂ => wpAny (model X.prog X.w) X.A (setFlight e none) (fun _ s₃ =>
    wpAny (model X.prog X.w) X.A (handleBy e X.env (h₀ :: hds)) (SP X pins D) X.xe s₃) X.xe s₂) X.xe s₁) (fun u s' xx => ?_) PassesOwn.looking).run [] s σ H D (I.toTry _) h) (fun f s1 hsp => ?_) (fun e s1 he => he)
  · obtain ⟨a, B, sI, pins', σ', H', cls, d, rfl, J', nb, up, sky, na, os, ag, w⟩ := xx
    have J : Inv X pins σ' H' sI := J'.ofTry ok
    have sky' : L2.Sky B (X.env :: X.outer) a (L2N.Zn cls d) X.env.locals s'.heap := by rw [← hs]; exact sky
    show wpAny (model X.prog X.w) X.A (noteFrame (.ref a) X.env) _ _ _
    refine L2N.Sky.land L2N.Zn.steady hfr hf sky' fun h3 fl3 up3 => ?_
    have J3 : Inv X pins σ' H' { s' with heap := h3 } := J.landed nb fl3.1 (up.trans up3) os ag
    obtain ⟨oe3, vs3, he3, hz3, hd3⟩ := fl3.there
    have nfr : a ∉ frs (X.env :: X.outer) := fun hm => by
      obtain ⟨_, o', e', hnf⟩ := fl3.2.2.1.mem hm
      rw [he3] at e'
      cases e'
      exact hnf _ hd3
    have nL : a ≠ X.env.locals := fun z => nfr (List.mem_filterMap.mpr ⟨X.env, List.mem_cons_self, by rw [hf, z]⟩)
    have nF : a ∉ X.fs := fun hm => by
      obtain ⟨e, he, q⟩ := List.mem_filterMap.mp hm
      exact nfr (List.mem_filterMap.mpr ⟨e, List.mem_cons_of_mem _ he, q⟩)
    have S3 := J3.suite he3 hd3 na nL nF
    have go : ∀ {hds' : List ExceptHandler} {l' : List (Value × SuT)}, HdsA X n hds' l' → wManyA X.K Wout i D l' cls d σ' H' →
        wpAny (model X.prog X.w) X.A (handleBy (.ref a) X.env hds') (SP X pins D) X.xe { s' with heap := h3 } := by
      intro hds' l' hk
      induction hk with
      | nil =>
        intro w
        refine wpAny_handleBy_nil ?_
        obtain ⟨k1, k2, k3, oe, vs, T, oT, ts', he, hz, hd, h1, hr⟩ := id fl3
        unfold PySem.passOn
        refine wpAny_bind (wpAny_field he hd h1 ?_)
        rw [if_neg (show ¬ ((Value.ref T == Value.none) = true) from by simp)]
        have fin : wpAny (model X.prog X.w) X.A (setFlight (.ref a) X.env.frame) (fun _ s4 => wpAny (model X.prog X.w) X.A (throw (.ref a) : Sem Flow) (SP X pins D) X.xe s4) X.xe { s' with heap := h3 } := by
          rw [hf]
          refine HandSPX.setFlight_upZ fl3 fun h4 hh4 up4 => wpAny_throw (tk _ _ ?_)
          exact ⟨a, B, sI, pins, σ', H', cls, d, rfl, J, nb, (up.trans up3).trans up4, .inr (.inr (by rw [hs]; exact hh4)), na, os, ag, w⟩
        first
          | exact wpAny_bind (wpAny_pure (wpAny_bind fin))
          | exact wpAny_bind fin
      | @cons x c ts b₀ suite np pos' hds2 l2 hc hsu r ih =>
        intro w
        obtain ⟨b, hb1, hyes, hno⟩ := w
        refine wpAny_handleBy_cons (codeAny_handlers_test ?_) (by intro q; cases q)
        have LT : PySem.W.Looks (model X.prog X.w) h3 (typeOf (.ref a)) cls := fun A Q E s k q => wpAny_typeOf_ref (k _ _ he3) (by rw [hz3.1]; exact q)
        have LM := PySem.W.exm_one (M := model X.prog X.w) (J3.kIn) LT hb1
        have test : ∀ {Q : Value → Shared → Prop} {E : Value → Shared → Prop}, Q c { s' with heap := h3 } → wpAny (model X.prog X.w) (X.A.mark (some (.ref a))) (eval (.Name x np) X.env) Q E { s' with heap := h3 } := fun {Q E} q => by
          obtain ⟨hg, hdbg, hm | ⟨hm, hv, hnn⟩⟩ := hc
          · exact ld_glob (X := X.suite a ((a, oe3) :: (X.pn ++ pins))) S3 hg hm q hdbg
          · exact ld_blt (X := X.suite a ((a, oe3) :: (X.pn ++ pins))) S3 hg hm hv q hnn hdbg
        refine test (LM.here ?_)
        cases b with
        | true =>
          refine codeAny_handlers_suite_as ?_
          refine HandSPX.lands_againZ fl3 fun h4 fl4 up4 => ?_
          have J4 : Inv X pins σ' H' { s' with heap := h4 } := J.landed nb fl4.1 ((up.trans up3).trans up4) os ag
          obtain ⟨oe4, vs4, he4, hz4, hd4⟩ := fl4.there
          have S4 := J4.suite he4 hd4 na nL nF
          refine store_ok (X := X.suite a ((a, oe4) :: (X.pn ++ pins))) (v := .ref a) S4 hN hi hloc rfl (fun s5 S5 => ?_) (.inr hln)
          refine wpAny_mono ((hsu a oe4 cls d (X.pn ++ pins) hz4 ⟨_, hd4⟩).run [] s5 _ H' _ S5 (hyes rfl a na)) (fun f s6 hsp => ?_) (fun _ _ z => False.elim z)
          have end_ : ∀ {σ6 : L2.St} {H6 : Hp} {Q : Shared → Prop}, Inv (X.suite a ((a, oe4) :: (X.pn ++ pins))) [] σ6 H6 s6 → (∀ s7, Inv X pins (σ6.set i none) H6 s7 → Q s7) →
              wpAny (model X.prog X.w) X.A (do bindName X.env n .none; unbindBehindTheSuite X.env n pos') (fun _ s7 => Q s7) X.xe s6 := fun {σ6 H6 Q} S6 hq => gone_ok (S6.unsuite ok) hN hi hln hq
          cases f with
          | next =>
            obtain ⟨σ6, H6, S6, q6⟩ := hsp
            exact end_ S6 fun s7 J7 => ⟨_, _, J7, q6⟩
          | brk =>
            obtain ⟨σ6, H6, S6, q6⟩ := hsp
            exact end_ S6 fun s7 J7 => ⟨_, _, J7, q6⟩
          | cont =>
            obtain ⟨σ6, H6, S6, q6⟩ := hsp
            exact end_ S6 fun s7 J7 => ⟨_, _, J7, q6⟩
          | ret u =>
            obtain ⟨v6, σ6, H6, S6, r6, q6⟩ := hsp
            exact end_ S6 fun s7 J7 => ⟨_, _, _, J7, r6, q6⟩
        | false =>
          show wpAny _ X.A (handleBy (.ref a) X.env hds2) _ _ _
          exact ih (hno rfl)
    exact go hh w
  · cases f with
    | next =>
      obtain ⟨σ', H', J', q⟩ := hsp
      exact wpAny_execs_nil ⟨σ', H', J'.ofTry ok, q⟩
    | brk =>
      obtain ⟨σ', H', J', q⟩ := hsp
      exact ⟨σ', H', J'.ofTry ok, q⟩
    | cont =>
      obtain ⟨σ', H', J', q⟩ := hsp
      exact ⟨σ', H', J'.ofTry ok, q⟩
    | ret u =>
      obtain ⟨v, σ', H', J', r, q⟩ := hsp
      exact ⟨v, σ', H', J'.ofTry ok, r, q⟩
end Hb

/-! The ends of iterators while an exception is handled. -/
namespace Hb
open PySem PySem.Spec PyProof.Rows L2 HotX

section
variable {prog : Program} {w : World} {A : Around} {E : Value → Shared → Prop} {s : Shared}
/-- a new exception of a type, raised while x1 is handled -/
theorem stop_hot {α : Type} {x1 it : Addr} {f : Obj → Obj} {Q : α → Shared → Prop} (hot : HotAt A x1 s.heap) (hne : x1 ≠ it)
    (hE : ∀ h' e, Heap.ExtBut it s.heap h' → (∃ o, h'.get? e = some o ∧ o.cls = .type "StopIteration") → E (.ref e) { s with heap := h' }) :
    wpAny (model prog w) A (newExc (.type "StopIteration") [] >>= fun e => (raiseNew e : Sem α)) Q E { s with heap := s.heap.update it f } := by
  obtain ⟨hh, o1, vs1, h1, d1, c1⟩ := hot
  have h1' : (s.heap.update it f).get? x1 = some o1 := (Heap.get?_update_other s.heap f hne.symm).trans h1
  refine wpAny_bind ?_
  simp only [newExc, newTuple]
  refine wpAny_bind (wpAny_newObj_type ?_ (by size_fits))
  refine wpAny_bind (m := firstArgMember _ _) (wpAny_of_eq (a := Value.none) (by first | rfl | (simp only [firstArgMember]; rfl)) ?_)
  refine wpAny_newObj_type ?_ (by size_fits)
  refine raiseNew_hot ⟨hh, o1, vs1, Heap.get?_push_of_some _ (Heap.get?_push_of_some _ h1'), d1, c1⟩ (Nat.ne_of_lt (Heap.lt_size (Heap.get?_push_of_some _ h1'))) (Heap.get?_push_size _ rfl) rfl (by first | (simp; done) | (simp; omega) | (simp only [Array.size_append]; simp; omega)) ?_
  refine hE _ _ (fun b o hb e => ?_) ⟨_, Heap.get?_update_self _ (Heap.get?_push_size _ rfl) rfl, rfl⟩
  have e2 : (s.heap.update it f).get? b = some o := (Heap.get?_update_other s.heap f (Ne.symm hb)).trans e
  rw [Heap.get?_update_other _ _ (Nat.ne_of_gt (Heap.lt_size (Heap.get?_push_of_some _ e2)))]
  exact Heap.get?_push_of_some _ (Heap.get?_push_of_some _ e2)
theorem nextOf_list_end_hot {it l x1 : Addr} {i : Nat} {items : Array Value} {Q : Value → Shared → Prop} (hot : HotAt A x1 s.heap) (hne : x1 ≠ it) (hit : s.heap.IsListIter it l i) (hl : s.heap.IsList l items) (hx : items[i]? = none)
    (hE : ∀ h' e, Heap.ExtBut it s.heap h' → (∃ o, h'.get? e = some o ∧ o.cls = .type "StopIteration") → E (.ref e) { s with heap := h' }) :
    wpAny (model prog w) A (Builtin.SmallTypes.nextOf (.ref it)) Q E s := by
  obtain ⟨o, ho, hc, hd⟩ := id hit
  obtain ⟨ol, hol, _, nl, hdl⟩ := hl
  unfold Builtin.SmallTypes.nextOf
  refine wpAny_bind (wpAny_callSpecial?_slot (name := Str.ofString "__next__") hit.typeIs slot_listiter_next
    (wpAny_call_entry slot_listiter_next hit.typeIs entry_listiter_next ?_ (args_listiter_next _)))
  show wpAny _ _ (field (.ref it) 0 >>= _) _ _ s
  refine wpAny_bind (wpAny_field ho hd (x := .ref l) rfl ?_)
  show wpAny _ _ (if (Value.ref l == Value.none) = true then _ else _) _ _ s
  rw [if_neg (show ¬ ((Value.ref l == Value.none) = true) from Bool.false_ne_true)]
  show wpAny _ _ (field (.ref it) 1 >>= _) _ _ s
  refine wpAny_bind (wpAny_field ho hd (x := .int i 0) rfl ?_)
  show wpAny _ _ (seqItems? (.ref l) >>= _) _ _ s
  refine wpAny_bind (wpAny_seqItems hol hdl ?_)
  simp only [Int.toNat_natCast, hx]
  refine wpAny_bind (wpAny_rule (wpAny_bind (wpAny_setField ho hd (by simp) ?_)))
  exact stop_hot (A := A.in1) hot hne hE
theorem next_tuple_end_hot {it t x1 : Addr} {i : Nat} {items : Array Value} {Q : Option Value → Shared → Prop} (hot : HotAt A x1 s.heap) (hne : x1 ≠ it) (hit : IsTupIter s.heap it t i) (ht : IsTup s.heap t items) (hx : items[i]? = none)
    (hQ : ∀ h', Heap.ExtBut it s.heap h' → Q none { s with heap := h' }) : wpAny (model prog w) A (pyNext (.ref it)) Q E s := by
  obtain ⟨o, ho, hc, hd⟩ := id hit
  obtain ⟨ol, hol, _, nl, hdl⟩ := ht
  unfold pyNext
  refine wpAny_bind (wpAny_attempt (wpAny_callSpecial?_slot (name := Str.ofString "__next__") hit.typeIs slot_tupleiter_next
    (wpAny_call_entry slot_tupleiter_next hit.typeIs entry_tupleiter_next ?_ (args_tupleiter_next _))))
  show wpAny _ _ (field (.ref it) 0 >>= _) _ _ s
  refine wpAny_bind (wpAny_field ho hd (x := .ref t) rfl ?_)
  show wpAny _ _ (if (Value.ref t == Value.none) = true then _ else _) _ _ s
  rw [if_neg (show ¬ ((Value.ref t == Value.none) = true) from Bool.false_ne_true)]
  show wpAny _ _ (field (.ref it) 1 >>= _) _ _ s
  refine wpAny_bind (wpAny_field ho hd (x := .int i 0) rfl ?_)
  show wpAny _ _ (seqItems? (.ref t) >>= _) _ _ s
  refine wpAny_bind (wpAny_seqItems hol hdl ?_)
  simp only [Int.toNat_natCast, hx]
  refine wpAny_bind (wpAny_rule (wpAny_bind (wpAny_setField ho hd (by simp) ?_)))
  refine stop_hot (A := A.in1) hot hne fun h' e hk ⟨oe, he, hce⟩ => ?_
  refine wpAny_bind (wpAny_isInstance (T := "StopIteration") (b := true) ⟨oe, he, hce⟩ isSubtype_stop ?_)
  exact wpAny_pure (hQ _ hk)
theorem pyNext_list_end_hot {it l x1 : Addr} {i : Nat} {items : Array Value} {Q : Option Value → Shared → Prop} (hot : HotAt A x1 s.heap) (hne : x1 ≠ it) (hit : s.heap.IsListIter it l i) (hl : s.heap.IsList l items) (hx : items[i]? = none)
    (hQ : ∀ h', Heap.ExtBut it s.heap h' → Q none { s with heap := h' }) : wpAny (model prog w) A (pyNext (.ref it)) Q E s := by
  obtain ⟨o, ho, hc, hd⟩ := id hit
  obtain ⟨ol, hol, _, nl, hdl⟩ := hl
  unfold pyNext
  refine wpAny_bind (wpAny_attempt (wpAny_callSpecial?_slot (name := Str.ofString "__next__") hit.typeIs slot_listiter_next
    (wpAny_call_entry slot_listiter_next hit.typeIs entry_listiter_next ?_ (args_listiter_next _))))
  show wpAny _ _ (field (.ref it) 0 >>= _) _ _ s
  refine wpAny_bind (wpAny_field ho hd (x := .ref l) rfl ?_)
  show wpAny _ _ (if (Value.ref l == Value.none) = true then _ else _) _ _ s
  rw [if_neg (show ¬ ((Value.ref l == Value.none) = true) from Bool.false_ne_true)]
  show wpAny _ _ (field (.ref it) 1 >>= _) _ _ s
  refine wpAny_bind (wpAny_field ho hd (x := .int i 0) rfl ?_)
  show wpAny _ _ (seqItems? (.ref l) >>= _) _ _ s
  refine wpAny_bind (wpAny_seqItems hol hdl ?_)
  simp only [Int.toNat_natCast, hx]
  refine wpAny_bind (wpAny_rule (wpAny_bind (wpAny_setField ho hd (by simp) ?_)))
  refine stop_hot (A := A.in1) hot hne fun h' e hk ⟨oe, he, hce⟩ => ?_
  refine wpAny_bind (wpAny_isInstance (T := "StopIteration") (b := true) ⟨oe, he, hce⟩ isSubtype_stop ?_)
  exact wpAny_pure (hQ _ hk)
theorem hot_keep {x1 : Addr} {h h' : Heap} (hot : HotAt A x1 h) (k : ∀ o, h.get? x1 = some o → h'.get? x1 = some o) : HotAt A x1 h' := by
  obtain ⟨hh, o1, vs1, h1, d1, c1⟩ := hot
  exact ⟨hh, o1, vs1, k o1 h1, d1, c1⟩
theorem zip_next_end_hot {z TI TO i1 i2 l1 l2 x1 : Addr} {k1 k2 : Nat} {xs ys : Array Value} {a b : Value} {Q : Fin → Shared → Prop} (hot : HotAt A x1 s.heap) (n1 : x1 ≠ z) (n2 : x1 ≠ TO) (n3 : x1 ≠ i1) (n4 : x1 ≠ i2) (D : ZipApart z TI TO i1 i2 l1 l2)
    (hz : IsZip s.heap z TI TO .none) (hTI : IsPair s.heap TI (.ref i1) (.ref i2)) (hTO : IsPair s.heap TO a b)
    (h1 : s.heap.IsListIter i1 l1 k1) (h2 : s.heap.IsListIter i2 l2 k2) (hl1 : s.heap.IsList l1 xs) (hl2 : s.heap.IsList l2 ys) (hend : xs[k1]? = none ∨ ys[k2]? = none)
    (hE : ∀ h' e, (∀ c o, c ≠ z → c ≠ TO → c ≠ i1 → c ≠ i2 → s.heap.get? c = some o → h'.get? c = some o) → (∃ o, h'.get? e = some o ∧ o.cls = .type "StopIteration") → E (.ref e) { s with heap := h' }) :
    wpAny (model prog w) A (Builtin.«zip.__next__» ⟨[.ref z], []⟩) Q E s := by
  show wpAny _ _ (field (.ref z) 2 >>= _) _ _ _
  refine wpAny_bind (wpAny_field hz rfl (x := .bool false) rfl ?_)
  show wpAny _ _ (field (.ref z) 3 >>= _) _ _ _
  refine wpAny_bind (wpAny_field hz rfl (x := .ref TI) rfl ?_)
  refine wpAny_bind (wpAny_seqItems hTI rfl ?_)
  show wpAny _ _ (Builtin.SmallTypes.ownedTupleIsFree (.ref z) >>= _) _ _ _
  refine wpAny_bind ?_
  unfold Builtin.SmallTypes.ownedTupleIsFree
  refine wpAny_bind (wpAny_field hz rfl (x := .none) rfl (wpAny_pure ?_))
  simp only [if_true]
  refine wpAny_bind (wpAny_rule ?_)
  refine wpAny_bind (wpAny_field hz rfl (x := .ref TO) rfl ?_)
  refine wpAny_bind (wpAny_setField_rec hz (by simp) fun h₁ hz₁ hs₁ => ?_)
  replace hz₁ : IsZip h₁ z TI TO .ellipsis := hz₁
  have hot1 : HotAt A x1 h₁ := hot_keep hot fun o e => (hs₁.2 _ n1).trans e
  refine wpAny_bind ?_
  simp only [List.zipIdx_cons, List.zipIdx_nil, List.forIn_cons, List.forIn_nil]
  refine wpAny_bind (wpAny_bind (wpAny_onRaise ?_))
  show wpAny _ _ (Builtin.SmallTypes.nextOf (.ref i1) >>= _) _ _ _
  cases hx : xs[k1]? with
  | none =>
    refine wpAny_bind (nextOf_list_end_hot hot1 n3 (h1.extBut hs₁.extBut D.i1z) (hl1.extBut hs₁.extBut D.l1z) hx fun h₂ e hs₂ he => ?_)
    obtain ⟨oe, hoe, hce⟩ := he
    have hz₂ : IsZip h₂ z TI TO .ellipsis := hs₂ _ _ D.i1z.symm hz₁
    have hez : e ≠ z := fun x => by subst x; rw [hz₂] at hoe; cases hoe; simp at hce
    refine wpAny_setField_rec hz₂ (by simp) fun h₃ _ hs₃ => hE h₃ e (fun c o c1 _ c3 _ x => hs₃.extBut _ _ c1 (hs₂ _ _ c3 (hs₁.extBut _ _ c1 x))) ⟨oe, hs₃.extBut _ _ hez hoe, hce⟩
  | some x =>
    have hy : ys[k2]? = none := by rcases hend with h | h; rw [hx] at h; cases h; exact h
    refine wpAny_bind (wpAny_nextOf_list_item (h1.extBut hs₁.extBut D.i1z) (hl1.extBut hs₁.extBut D.l1z) hx fun h₂ h1₂ hs₂ => wpAny_pure ?_)
    have hTO₂ : IsPair h₂ TO a b := hs₂.extBut _ _ D.TOi1 (hs₁.extBut _ _ D.TOz hTO)
    have hot2 : HotAt A x1 h₂ := hot_keep hot1 fun o e => (hs₂.2 _ n3).trans e
    refine wpAny_bind (wpAny_seqItems hTO₂ rfl ?_)
    refine wpAny_bind (wpAny_updateSeq_pair hTO₂ fun h₃ hTO₃ hs₃ => ?_)
    have hot3 : HotAt A x1 h₃ := hot_keep hot2 fun o e => (hs₃.2 _ n2).trans e
    refine wpAny_bind (wpAny_letGo (wpAny_pure ?_))
    refine wpAny_bind (wpAny_bind (wpAny_onRaise ?_))
    show wpAny _ _ (Builtin.SmallTypes.nextOf (.ref i2) >>= _) _ _ _
    refine wpAny_bind (nextOf_list_end_hot hot3 n4 (((h2.extBut hs₁.extBut D.i2z).extBut hs₂.extBut D.i12.symm).extBut hs₃.extBut D.TOi2.symm)
      (((hl2.extBut hs₁.extBut D.l2z).extBut hs₂.extBut D.l2i1).extBut hs₃.extBut D.l2TO) hy fun h₄ e hs₄ he => ?_)
    obtain ⟨oe, hoe, hce⟩ := he
    have hz₄ : IsZip h₄ z TI TO .ellipsis := hs₄ _ _ D.i2z.symm (hs₃.extBut _ _ D.TOz.symm (hs₂.extBut _ _ D.i1z.symm hz₁))
    have hez : e ≠ z := fun x => by subst x; rw [hz₄] at hoe; cases hoe; simp at hce
    refine wpAny_setField_rec hz₄ (by simp) fun h₅ _ hs₅ => hE h₅ e (fun c o c1 c2 c3 c4 x => hs₅.extBut _ _ c1 (hs₄ _ _ c4 (hs₃.extBut _ _ c2 (hs₂.extBut _ _ c3 (hs₁.extBut _ _ c1 x))))) ⟨oe, hs₅.extBut _ _ hez hoe, hce⟩
theorem pyNext_zip_end_hot {z TI TO i1 i2 l1 l2 x1 : Addr} {k1 k2 : Nat} {xs ys : Array Value} {a b : Value} {Q : Option Value → Shared → Prop} (hot : HotAt A x1 s.heap) (n1 : x1 ≠ z) (n2 : x1 ≠ TO) (n3 : x1 ≠ i1) (n4 : x1 ≠ i2) (D : ZipApart z TI TO i1 i2 l1 l2)
    (hz : IsZip s.heap z TI TO .none) (hTI : IsPair s.heap TI (.ref i1) (.ref i2)) (hTO : IsPair s.heap TO a b)
    (h1 : s.heap.IsListIter i1 l1 k1) (h2 : s.heap.IsListIter i2 l2 k2) (hl1 : s.heap.IsList l1 xs) (hl2 : s.heap.IsList l2 ys) (hend : xs[k1]? = none ∨ ys[k2]? = none)
    (hQ : ∀ h', (∀ c o, c ≠ z → c ≠ TO → c ≠ i1 → c ≠ i2 → s.heap.get? c = some o → h'.get? c = some o) → Q none { s with heap := h' }) : wpAny (model prog w) A (pyNext (.ref z)) Q E s := by
  have hT : s.TypeIs (.ref z) "zip" := ⟨_, hz, rfl⟩
  unfold pyNext
  refine wpAny_bind (wpAny_attempt (wpAny_callSpecial?_slot (name := Str.ofString "__next__") hT F.slot_zip_next
    (wpAny_call_entry F.slot_zip_next hT F.entry_zip_next (zip_next_end_hot (A := A.in1) hot n1 n2 n3 n4 D hz hTI hTO h1 h2 hl1 hl2 hend fun h' e hk he => ?_) (F.args_zip_next_1 _))))
  obtain ⟨o, ho, hc⟩ := he
  refine wpAny_bind (wpAny_isInstance (T := "StopIteration") (b := true) ⟨o, ho, hc⟩ isSubtype_stop ?_)
  exact wpAny_pure (hQ _ hk)
theorem unpackItems_tuple_hot {t x1 : Addr} {items : Array Value} {Q : List Value → Shared → Prop} (hot : HotAt A x1 s.heap) (ht : IsTup s.heap t items)
    (hQ : ∀ h', Heap.ExtBut s.heap.objs.size s.heap h' → Q items.toList { s with heap := h' }) : wpAny (model prog w) A (unpackItems (.ref t) items.size none) Q E s := by
  have hlt : t ≠ s.heap.objs.size := by obtain ⟨o, ho, _⟩ := ht; exact Nat.ne_of_lt (Heap.lt_size ho)
  have hne : x1 ≠ s.heap.objs.size := by obtain ⟨_, o, _, ho, _⟩ := hot; exact Nat.ne_of_lt (Heap.lt_size ho)
  unfold unpackItems
  refine wpAny_bind ?_
  · unfold notIterableAtAll
    refine wpAny_bind (wpAny_specialOf ht.typeIs slot_tuple_iter.lookup ?_)
    refine wpAny_pure ?_
    simp only [Bool.false_eq_true, if_false]
    refine wpAny_bind (wpAny_holding (iter_tuple ht ?_))
    refine wpAny_bind (wpAny_holding (draw_tuple hlt items.size 0 _ _ ⟨_, Heap.get?_push_size _ rfl, rfl, rfl⟩ (ht.push _) (by omega) fun h₁ hit₁ hs₁ => ?_))
    have hall : List.take items.size (List.drop 0 items.toList) = items.toList := by
      rw [List.drop_zero]; exact List.take_of_length_le (by simp)
    rw [hall]
    rw [if_neg (by simp)]
    have ht₁ : IsTup h₁ t items := (ht.push _).extBut hs₁.extBut hlt
    have hot₁ : HotAt A x1 h₁ := hot_keep hot fun o e => (hs₁.2 _ hne).trans (Heap.get?_push_of_some _ e)
    refine wpAny_bind (wpAny_holding (next_tuple_end_hot hot₁ hne hit₁ ht₁ (by simp) fun h₂ he₂ => ?_))
    simp only [Option.isSome_none, Bool.false_eq_true, if_false]
    refine wpAny_pure (hQ h₂ fun b o hb e => he₂ b o hb (hs₁.extBut b o hb (Heap.get?_push_of_some _ e)))
end
end Hb

/-! zip of two lists, a pair taken apart: while an exception is handled. -/
namespace Hb
open PySem PySem.Spec PyProof.Rows L2 HotX L2H

theorem turn_zipH {P : Program} {w : World} {K : PySem.W.Frag} {elts : List Expr} {kk : Nat} {tpos : Pos} {a b z TI TO i1 i2 : Addr} (D : ZipApart z TI TO i1 i2 a b) :
    TurnH P w K (.Tuple elts kk tpos) (Itz K a b) [z, TI, TO, i1, i2] z (fun i h => IsZip h z TI TO .none ∧ IsPair h TI (.ref i1) (.ref i2) ∧ (∃ x y, IsPair h TO x y) ∧ h.IsListIter i1 a i ∧ h.IsListIter i2 b i) where
  mem := by simp
  obj := (turn_zip (P := P) (w := w) (K := K) (elts := elts) (kk := kk) (tpos := tpos) D).obj
  keep := (turn_zip (P := P) (w := w) (K := K) (elts := elts) (kk := kk) (tpos := tpos) D).keep
  item := by
    intro X hP hw hK hc i pins s σ H E I hf st hg
    subst hP hw hK
    obtain ⟨hz, hTI, ⟨x0, y0, hTO⟩, h1, h2⟩ := st
    obtain ⟨xs, ys, x, y, hqx, hqy, hx, hy⟩ := hg
    obtain ⟨its, rv, p, _⟩ := I.list hqx
    obtain ⟨its2, rv2, p2, _⟩ := I.list hqy
    obtain ⟨u, hu, ru⟩ := rv.get hx
    obtain ⟨u2, hu2, ru2⟩ := rv2.get hy
    have hzl : z < s.heap.objs.size := Heap.lt_size hz
    refine wpAny_pyNext_zip_item D hz hTI hTO h1 h2 p.isList p2.isList (x := u) (y := u2) (by simpa using hu) (by simpa using hu2) fun h' z' TO' h1' h2' hT hsz hk => ?_
    refine ⟨_, rfl, wpAny_letOwnedTupleGo_zip (s := { s with heap := h' }) z' fun h'' z'' sb => ?_⟩
    have hT2 : h''.get? s.heap.objs.size = some { cls := .type "tuple", data := .seq #[u, u2] } := (sb.2 _ (Nat.ne_of_gt hzl)).trans hT
    have new : ObjOk X.prog X.w (upd H s.heap.objs.size (.tup [x, y])) h'' s.heap.objs.size (.tup [x, y]) :=
      ⟨by show 2 ≤ sizeLine; decide, [u, u2], .cons ru (.cons ru2 .nil), ⟨_, hT2, rfl, _, rfl⟩⟩
    have I1 : Inv X pins σ (upd H s.heap.objs.size (.tup [x, y])) { s with heap := h'' } :=
      I.turnedNew (t' := s.toks) (ch := [z, TI, TO, i1, i2]) (fun c o hb q => (sb.2 c (fun q' => hb (by simp [q']))).trans (hk c o (fun q' => hb (by simp [q'])) (fun q' => hb (by simp [q'])) (fun q' => hb (by simp [q'])) (fun q' => hb (by simp [q'])) q)) hf (Nat.le_refl _) new
    refine ⟨.ref s.heap.objs.size, _, I1, rfl, ⟨_, x, y, rfl, I.hok.fresh (Nat.le_refl _), rfl, fun l hl => by rw [I.list_inj hl hqx]; exact hx, fun l hl => by rw [I.list_inj hl hqy]; exact hy⟩, ⟨z'', ?_, ⟨u, u2, ?_⟩, ?_, ?_⟩, fun c hcm => ?_⟩
    · exact (sb.2 _ D.TIz).trans (hk _ _ D.TIz D.TITO D.TIi1 D.TIi2 hTI)
    · exact (sb.2 _ D.TOz).trans TO'
    · exact h1'.at fun o q => (sb.2 _ D.i1z).trans q
    · exact h2'.at fun o q => (sb.2 _ D.i2z).trans q
    · have hlt : c < s.heap.objs.size := by
        have e' : c = z ∨ c = TI ∨ c = TO ∨ c = i1 ∨ c = i2 := by simpa using hcm
        rcases e' with q | q | q | q | q
        · rw [q]; exact hzl
        · rw [q]; exact Heap.lt_size hTI
        · rw [q]; exact Heap.lt_size hTO
        · rw [q]; obtain ⟨_, e1, _⟩ := h1; exact Heap.lt_size e1
        · rw [q]; obtain ⟨_, e2, _⟩ := h2; exact Heap.lt_size e2
      rw [upd_ne (Nat.ne_of_lt hlt)]
      exact (hf c hcm).1
  done := by
    intro X hP hw hK hc i pins s σ H E I hf st hg
    subst hP hw hK
    obtain ⟨hz, hTI, ⟨x0, y0, hTO⟩, h1, h2⟩ := st
    obtain ⟨xs, ys, hqx, hqy, hend⟩ := hg
    obtain ⟨its, rv, p, _⟩ := I.list hqx
    obtain ⟨its2, rv2, p2, _⟩ := I.list hqy
    have l1 := rv.length
    have l2 := rv2.length
    have he : its.toArray[i]? = none ∨ its2.toArray[i]? = none := by
      rcases hend with q | q
      · exact .inl (by simp; omega)
      · exact .inr (by simp; omega)
    obtain ⟨q, ⟨hh, v1, e1, c1⟩, hq⟩ := hc
    have hot : HotAt X.A q.1 s.heap := ⟨hh, q.2, v1, (I.pin q (List.mem_append_left _ hq)).1, e1, c1⟩
    have ne : ∀ c ∈ [z, TI, TO, i1, i2], q.1 ≠ c := fun c hcm => (hf c hcm).2.2.2.2.2 q (List.mem_append_left _ hq)
    exact pyNext_zip_end_hot hot (ne z (by simp)) (ne TO (by simp)) (ne i1 (by simp)) (ne i2 (by simp)) D hz hTI hTO h1 h2 p.isList p2.isList he fun h' hk => ⟨rfl, I.turnedL (t' := s.toks) (ch := [z, TI, TO, i1, i2]) (fun c o hb q =>
      hk c o (fun q' => hb (by simp [q'])) (fun q' => hb (by simp [q'])) (fun q' => hb (by simp [q'])) (fun q' => hb (by simp [q'])) q) hf⟩
  self := fun A i s Q E st h => wpAny_pyIter_zip st.1 h
/-- (a, b) = a tuple of that length, hot -/
theorem pg_tupH {X : Cx} {es : List Expr} {k : Nat} {pos : Pos} {t : TGs} {n : Nat} (hc : HotC X) (h : PGs X es t)
    (hn : (assignEach es X.env).length = n) (hst : (assignEach es X.env).findIdx? (·.1) = none) : PG X (.Tuple es k pos) (gTup X.K n t) := by
  refine ⟨fun pins s σ H v u Q I r hw => ?_⟩
  obtain ⟨a, xs, e1, hq, hl, hw⟩ := hw
  subst e1
  cases r
  obtain ⟨its, rv, ht, hz⟩ := I.tuple hq
  obtain ⟨x1, hot⟩ := hc.at I
  rw [assign_Tuple]
  refine wpAny_bind (wpAny_standAt ?_)
  unfold unpack
  have e : (assignEach es X.env).length = its.toArray.size := by rw [hn, List.size_toArray, ← rv.length, hl]
  rw [e, hst]
  refine wpAny_bind (wpAny_holding (unpackItems_tuple_hot hot ht fun h' hx => ?_))
  have I1 : Inv X pins σ H { s with heap := h' } := I.kept (t' := s.toks) fun b o e => hx b o (Nat.ne_of_lt (Heap.lt_size e)) e
  exact h.run pins _ σ H xs _ Q I1 (by simpa using rv) hw
end Hb

/-! A list comprehension while an exception is handled. -/
namespace Hb
open PySem PySem.Spec PyProof.Rows L2 HotX L2H

theorem pi_zipH {X : Cx} {e e2 : Expr} {ta : TA} {p pos tpos : Pos} {elts : List Expr} {kk : Nat} (hg : Gl X "zip") (hm : X.mg "zip" = none) (ha : PA X [e, e2] ta)
    (hs : starEach [e, e2] X.env = (false, eval e X.env) :: starEach [e2] X.env := by rfl) (hpl : (backTo pos (starEach [e2] X.env)).any (·.1) = false := by rfl) :
    PIH X (.Tuple elts kk tpos) (.Call (.Name "zip" p) [e, e2] [] pos) (iZip X.K ta) := by
  refine ⟨fun pins s σ H R I h => ?_⟩
  refine Call_ (ld_blt I hg hm PyProof.Rows.boot_zip (PyProof.Rows.callWith_type1 (thn (ha.run pos pins s σ H _ I h) fun us s1 ⟨vs, H1, I1, r1, q1⟩ => ?_) hs hpl))
  obtain ⟨a, b, xs, ys, ex, hqx, hqy, q⟩ := q1
  subst ex
  obtain ⟨u1, u2, rfl, r, r'⟩ := vals2 r1
  cases r
  cases r'
  obtain ⟨its, rv, p1, _⟩ := I1.list hqx
  obtain ⟨its2, rv2, p2, _⟩ := I1.list hqy
  refine call_zip_2 p1.isList p2.isList fun h' hz hTI hTO h1 h2 hsz hk => wpAny_pyIter_zip hz ?_
  have I2 : Inv X pins σ H1 { s1 with heap := h' } := I1.kept (t' := s1.toks) hk
  refine ⟨s1.heap.objs.size + 4, [s1.heap.objs.size + 4, s1.heap.objs.size + 2, s1.heap.objs.size + 3, s1.heap.objs.size, s1.heap.objs.size + 1], _, _, H1, rfl, I2, turn_zipH (PySem.W.ktu_apart s1.heap.objs.size a b p1.lt p2.lt), ⟨hz, hTI, ⟨_, _, hTO⟩, h1, h2⟩, fun c hcm => ?_, q⟩
  have e' : c = s1.heap.objs.size + 4 ∨ c = s1.heap.objs.size + 2 ∨ c = s1.heap.objs.size + 3 ∨ c = s1.heap.objs.size ∨ c = s1.heap.objs.size + 1 := by simpa using hcm
  have hle : s1.heap.objs.size ≤ c := by
    rcases e' with z | z | z | z | z <;> rw [z] <;> first | exact Nat.le_add_right _ _ | exact Nat.le_refl _
  exact I1.fpOk hle (I1.hok.fresh hle)
/-- the block's context, the handled exception told -/
abbrev blkH (X : Cx) (p : Addr × Obj) (s : Shared) (H : Hp) (scope : Scope) (cenv : PySem.Env) (fp : List Addr) : Cx := (X.blk s H scope cenv fp).tr [p] fun _ _ => False
theorem pe_lcH {X : Cx} {p : Addr × Obj} {elt tg iter : Expr} {ifs : List Expr} {scope : Scope} {own : List (Str × Nat)} {pos : Pos} {wi : TI} {g : TG} {tt : TT} {te : TE} (h1 : Hot1 X.A p) (hp : p ∈ X.pn) (hN : X.N.Nodup) (hi : PIH X tg iter wi) (ok : BlkOk X.N X.env.scope scope own)
    (hg : ∀ (s : Shared) (H : Hp) (C : Addr) (cl : List (Str × Addr)) (fp : List Addr), PG (blkH X p s H scope (compEnvC scope cl C X.env) fp) tg g) (ht : ∀ (s : Shared) (H : Hp) (C : Addr) (cl : List (Str × Addr)) (fp : List Addr), PTs (blkH X p s H scope (compEnvC scope cl C X.env) fp) ifs tt)
    (he : ∀ (s : Shared) (H : Hp) (C : Addr) (cl : List (Str × Addr)) (fp : List Addr), PE (blkH X p s H scope (compEnvC scope cl C X.env) fp) elt te) (hs : ∀ x, foldedSetIterable iter X.env x = pure x) :
    PE X (.ListComp elt [⟨tg, iter, ifs, 0⟩] scope pos) (tLc wi g tt te (own.map (·.2))) := by
  refine ⟨fun pins s σ H Q I h => ?_⟩
  rw [eval_ListComp]
  have hfree : ∀ y ∈ scope.names, y.2 = .free → ∃ c, X.env.cells.lookup y.1 = some c := fun y hy e => by
    rcases ok.free y hy e with k | k
    · exact I.ok.has _ (.inl k)
    · exact I.ok.has _ (.inr k)
  refine wpAny_comprehension_free (use := none) rfl hs (closure_ok hfree) ok.kind (fun y hy e => by rw [ok.uniq y hy, e])
    (thn (hi.run pins s σ H _ I h) fun xv s1 hx => thn hx fun itv s2 h2 => ?_)
  obtain ⟨it, fp, tn, J, H2, e, I2, T, st2, f2, q⟩ := h2
  subst e
  refine wpAny_newObj_type (newEnv_comp ?_) (by show 0 ≤ sizeLine; decide)
  generalize hD : s2.heap.objs.size = D
  have hDn : H2 D = none := I2.hok.fresh (Nat.le_of_eq hD)
  obtain ⟨W, ⟨m0, w0⟩, turn⟩ := q D hDn
  generalize hs3 : ({ s2 with heap := s2.heap.push { cls := .type "list", data := .seq ([] : List Value).toArray } } : Shared) = s3
  have I3 : Inv X pins σ (upd H2 D (.lst [])) s3 := by
    rw [← hs3]
    refine I2.laid (t' := s2.toks) (fun b o e => Heap.get?_push_of_some _ e) (Nat.le_of_eq hD) ⟨Nat.zero_le _, [], 0, .nil, ?_⟩
    rw [← hD]
    exact Heap.get?_push_size _ rfl
  have h3 : s3.heap = s2.heap.push { cls := .type "list", data := .seq ([] : List Value).toArray } := by rw [← hs3]
  have sz : ∀ b ∈ fp, b < s2.heap.objs.size := fun b hb => by
    obtain ⟨o, e, _⟩ := T.obj _ _ st2 b hb
    exact Heap.lt_size e
  have f3 : ∀ b ∈ fp, FpOk X pins (upd H2 D (.lst [])) b ∧ b < s3.heap.objs.size := fun b hb => by
    have hlt := sz b hb
    refine ⟨⟨?_, (f2 b hb).2⟩, by rw [h3, Heap.size_push]; exact Nat.lt_succ_of_lt hlt⟩
    rw [upd_ne (by rw [← hD]; exact Nat.ne_of_lt hlt)]
    exact (f2 b hb).1
  have st3 : tn 0 s3.heap := T.keep _ _ _ st2 fun b _ o e => by rw [h3]; exact Heap.get?_push_of_some _ e
  have I4 := block_start I3 ok hN f3
  have pg := hg s3 (upd H2 D (.lst [])) s3.heap.objs.size (cellsFrom (s3.heap.objs.size + 1) scope.names (cloFrom X.env.cells scope.names [])) fp
  have pt := ht s3 (upd H2 D (.lst [])) s3.heap.objs.size (cellsFrom (s3.heap.objs.size + 1) scope.names (cloFrom X.env.cells scope.names [])) fp
  have pe := he s3 (upd H2 D (.lst [])) s3.heap.objs.size (cellsFrom (s3.heap.objs.size + 1) scope.names (cloFrom X.env.cells scope.names [])) fp
  show codeAny _ _ (.compStart (.ListComp elt [⟨tg, iter, ifs, 0⟩] scope pos) 0 (.ref it) (.ref D) (compEnvC scope (cellsFrom (s3.heap.objs.size + 1) scope.names (cloFrom X.env.cells scope.names [])) s3.heap.objs.size X.env)) (compPost (model X.prog X.w) X.A X.xe none (EP X pins σ Q) (.ref D) s3.heap.objs.size) { s3 with heap := pushCells (s3.heap.push { cls := .type "dict", data := .dict #[] }) scope.names }
  have nfp : ∀ b ∈ fp, (upd H2 D (.lst [])) b = none := fun b hb => (f3 b hb).1.1
  have P3 := I3.pin p (List.mem_append_left _ hp)
  have nst : p.1 ∉ frs X.stack := fun hm => (List.mem_cons.mp (I3.stkSub p.1 hm)).elim P3.2.2.1 P3.2.2.2.1
  generalize hce : compEnvC scope (cellsFrom (s3.heap.objs.size + 1) scope.names (cloFrom X.env.cells scope.names [])) s3.heap.objs.size X.env = ce at I4 pg pt pe ⊢
  have cL : ce.locals = s3.heap.objs.size := by subst hce; rfl
  generalize hH3 : upd H2 D (.lst []) = H3 at I3 I4 pg pt pe w0 nfp f3 P3
  have kp4 : ∀ b o, s3.heap.get? b = some o → (pushCells (s3.heap.push { cls := .type "dict", data := .dict #[] }) scope.names).get? b = some o := fun b o e => pushCells_keeps _ _ _ _ (Heap.get?_push_of_some _ e)
  have I4 : Inv (blkH X p s3 H3 scope ce fp) [] (wipe σ (own.map (·.2))) H3 { s3 with heap := pushCells (s3.heap.push { cls := .type "dict", data := .dict #[] }) scope.names } :=
    (I4.pins_of (pins' := [p]) fun q hq => by
      have eq : q = p := by simpa using hq
      rw [eq]
      exact ⟨kp4 _ _ P3.1, P3.2.1, by show p.1 ≠ ce.locals; rw [cL]; exact Nat.ne_of_lt (Heap.lt_size P3.1), nst, P3.2.2.2.2⟩).toTry _
  have hotB : HotC (blkH X p s3 H3 scope ce fp) := ⟨p, h1, List.mem_cons_self⟩
  generalize hs4 : ({ s3 with heap := pushCells (s3.heap.push { cls := .type "dict", data := .dict #[] }) scope.names } : Shared) = s4 at I4 ⊢
  have st4 : tn 0 s4.heap := T.keep _ _ _ st3 fun b _ o e => by rw [← hs4]; exact kp4 _ _ e
  have stat : ∀ {σ' : L2.St} {H' : Hp} {s' : Shared}, Inv (blkH X p s3 H3 scope ce fp) [] σ' H' s' → (∀ b ∈ fp, H' b = none) → ∀ b ∈ fp, FpOk (blkH X p s3 H3 scope ce fp) [] H' b := fun {σ' H' s'} I' hn b hb =>
    ⟨hn b hb, (I'.ok.exf b hb).1, I'.ok.exfs b hb, .inl hb, fun x c e => (I'.ok.exf b hb).2 x c e, fun q hq => by
      have eq : q = p := by simpa using hq
      rw [eq]
      exact (f3 b hb).1.2.2.2.2.2 p (List.mem_append_left _ hp)⟩
  have loop : codeAny (model X.prog X.w) X.A (.compLoop (.ListComp elt [⟨tg, iter, ifs, 0⟩] scope pos) 0 (.ref it) (.ref D) ce) (compPost (model X.prog X.w) X.A X.xe none (EP X pins σ Q) (.ref D) s3.heap.objs.size) s4 := by
    refine compLoop_any (fun n s' => ∃ i H', Inv (blkH X p s3 H3 scope ce fp) [] (wipe σ (own.map (·.2))) H' s' ∧ tn i s'.heap ∧ (∀ b ∈ fp, H' b = none) ∧ W i n H') ?_ m0 ⟨0, H3, I4, st4, nfp, w0⟩
    rintro n s5 ⟨i, H5, I5, st5, n5, w5⟩
    rcases turn i n H5 w5 with ⟨stop, qq⟩ | ⟨go, Nx, hNx, step⟩
    · have td := T.done (blkH X p s3 H3 scope ce fp) rfl rfl rfl hotB i [] s5 _ H5 (fun _ _ => False) I5 (stat I5 n5) st5 stop
      refine thnF td fun r s6 ⟨hr, I6⟩ => ?_
      subst hr
      have I7 : Inv X pins σ H5 s6 := I3.call' (ch := fp) I6.os I6.base I6.hok I6.bare fun b hb => ⟨(f3 b hb).1.2.2.2.1, (f3 b hb).1.2.1, (f3 b hb).1.2.2.2.2.1, (f3 b hb).1.2.2.2.2.2⟩
      have nC : H5 s3.heap.objs.size = none := by
        have z : H5 ce.locals = none := I6.free
        rw [cL] at z
        exact z
      obtain ⟨m, hn, _⟩ := I6.loc
      have hn : s6.heap.Ns ce.locals m := hn
      rw [cL] at hn
      refine ⟨m, hn, fun h'' sb => ?_⟩
      obtain ⟨f0, f1, f2, f3, f4, f5⟩ := I3.fpOk (Nat.le_refl _) nC
      exact ⟨.ref D, H5, I7.turned (t' := s6.toks) (fun b o hb e => (sb.2 b hb).trans e) f0 f1 f3 f4 f5, rfl, qq⟩
    · have ti := T.item (blkH X p s3 H3 scope ce fp) rfl rfl rfl hotB i [] s5 _ H5 (fun _ _ => False) I5 (stat I5 n5) st5 go
      refine thnF ti fun r s6 ⟨u, hr, h6⟩ => ?_
      subst hr
      refine thnF h6 fun _ s7 ⟨x, H7, I7, r7, y7, st7, n7⟩ => ?_
      have I7' := I7.pinned (stat I7 n7) (T.obj _ _ st7)
      refine thnF (pg.run _ s7 _ H7 x u _ I7' r7 (step x H7 y7)) fun _ s8 ⟨σ8, H8, I8, hw8, q8⟩ => ?_
      refine thnF (pt.run _ s8 σ8 H8 _ I8 q8) fun b s9 ⟨H9, I9, q9⟩ => ?_
      have fin : ∀ {s' : Shared} {H' : Hp}, Inv (blkH X p s3 H3 scope ce fp) ([] ++ pinsAt fp s7.heap) σ8 H' s' → Nx H' → ∃ m, m < n ∧ ∃ i H', Inv (blkH X p s3 H3 scope ce fp) [] (wipe σ (own.map (·.2))) H' s' ∧ tn i s'.heap ∧ (∀ b ∈ fp, H' b = none) ∧ W i m H' := fun {s' H'} I' nx => by
        obtain ⟨m', hm, w'⟩ := hNx H' nx
        have pin' : ∀ b ∈ fp, ∀ o, s7.heap.get? b = some o → s'.heap.get? b = some o ∧ H' b = none := fun b hb o e =>
          let z := I'.pin (b, o) (List.mem_append_right _ (List.mem_append_right _ (mem_pinsAt hb e)))
          ⟨z.1, z.2.1⟩
        have hl : (wipe σ (own.map (·.2))).length = σ8.length := by rw [← hw8, wipe_length]
        refine ⟨m', hm, i + 1, H', (I'.unpinned (pins := [])).weak hl (fun j v e => ?_), T.keep _ _ _ st7 fun b hb o e => (pin' b hb o e).1, fun b hb => ?_, w'⟩
        · rw [← hw8] at e
          exact (wipe_some e).1
        · obtain ⟨o, e, _⟩ := T.obj _ _ st7 b hb
          exact (pin' b hb o e).2
      cases b with
      | false =>
        simp only [Bool.false_eq_true, if_false] at q9 ⊢
        exact fin I9 q9
      | true =>
        simp only [if_true] at q9 ⊢
        refine thnF (pe.run _ s9 σ8 H9 _ I9 q9) fun z s10 ⟨yv, H10, I10, r10, acc, hD10, hz10, nx⟩ => ?_
        exact app_ok (X := blkH X p s3 H3 scope ce fp) I10 hD10 hz10 r10 fun s11 I11 => fin I11 nx
  exact codeAny_compStart_list loop (T.self X.A 0 _ _ _ st4 loop)
end Hb

/-! A def called with the exception that is handled. -/
namespace Hb
open PySem PySem.Spec PyProof.Rows L2 HotX L2H

/-- a def's promise, told of the handled exception -/
def FnP (P : Program) (w : World) (K : PySem.W.Frag) (mg : Str → Option Value) (base : Heap) (CX : CXT) (k : Nat) (f : Addr) (fd : FuncData) (ps : List Str) (p : Addr × Obj) (sp : Sp) : Prop :=
  ∀ (A : Around) (outer : List PySem.Env) (s : Shared) (H : Hp) (args : Args) (us : List Value) (vs : List V) (Q : VK) (E : XK), RoomH k A → Hot1 A p → PinOk outer H s p → Env0 P w K mg base A outer s H → BindsTo s fd args (ps.zip us) → Vals vs us → vs.length = ps.length → sp vs H Q E →
    codeAny (model P w) A (.call (.ref f) args) (CR CX outer P w H s Q E) s
theorem fnP_of {CX : CXT} {P : Program} {w : World} {K : PySem.W.Frag} {mg : Str → Option Value} {base : Heap} {k : Nat} {f : Addr} {name qual : Str} {params : Arguments} {body : List Stmt} {scope : Scope} {dvs : List V} {kws : List (Str × V)} {fd : FuncData}
    {N ps : List Str} {p : Addr × Obj} {sp : Sp} (F : FunD K name qual params body scope dvs kws f fd) (S : FnScope N ps scope)
    (hbody : ∀ (cdv : Value) (A : Around) (outer : List PySem.Env) (s : Shared) (H : Hp) (vs : List V) (Q : VK) (E : XK), Hot1 A p → RoomH k (A.deeper (envOfC qual scope s.heap.objs.size f cdv)) → sp vs H Q E →
      ∃ t, PSs (cxH CX P w K mg base N qual scope f cdv A outer s H E p) body t ∧ t { nx := fun _ H' => Q .non H', rt := Q } (L2.start N vs) H) :
    FnP P w K mg base CX (k + 1) f fd ps p sp := by
  obtain ⟨oc, od, dV, kV, doc, pm, an, cdv, ct, osl, rfl, lk, hcd, _, _⟩ := F.ex
  intro A outer s H args us vs Q E hr hot hpin e0 hb r hl hsp
  have KX : K.In s.heap := e0.mod.kin.keeps fun b o e => (e0.bs b o e).1
  have lim : s.heap.NoLimit := e0.mod.nolimit.keeps fun b o e => (e0.bs b o e).1
  have hkind : ∀ y ∈ ps.zip us, scope.names.lookup y.1 = some .local ∨ (scope.names.lookup y.1 = some .cell ∧ ((cellsFrom (s.heap.objs.size + 1) scope.names []).lookup y.1).isSome = true) := fun ⟨n, v⟩ hy => by
    rcases S.par n (List.of_mem_zip hy).1 with q | q
    · exact .inl q
    · exact .inr ⟨q, PySem.W.cellsFrom_some _ _ _ (.inl q)⟩
  refine codeAny_call_function hr.depth (KX _ _ lk) rfl S.co S.gen rfl (PySem.W.codeRec_of KX hcd) (hb _ _ _ _ ?_)
  refine wpAny_newFunctionEnv_cells S.kind hkind fun env he s1 x => ?_
  subst he
  refine ⟨lim.keeps x.toInCall.keep, codeAny_func ?_⟩
  obtain ⟨t, ht, hq⟩ := hbody cdv A outer s H vs Q E hot (hr.deeper _) hsp
  have I : Inv (cxH CX P w K mg base N qual scope f cdv A outer s H E p) [] (L2.start N vs) H s1 := inv_startH S hpin e0 hl r x
  refine wpAny_mono (ht.run [] s1 (L2.start N vs) H _ I hq) (fun fl s' hs => ?_) fun e s' hs => hs
  cases fl with
  | ret u =>
    obtain ⟨v, σ', H', J, rv, q⟩ := hs
    exact ⟨v, H', J.os, J.bare, J.base, J.hok, rv, q⟩
  | next =>
    obtain ⟨σ', H', J, q⟩ := hs
    exact ⟨.non, H', J.os, J.bare, J.base, J.hok, rfl, q⟩
  | brk =>
    obtain ⟨_, _, _, q⟩ := hs
    exact False.elim q
  | cont =>
    obtain ⟨_, _, _, q⟩ := hs
    exact False.elim q
/-- .. called, where no exception leaves -/
theorem pe_callP {X : Cx} {CX : CXT} {k : Nat} {f : Addr} {fd : FuncData} {ps : List Str} {p : Addr × Obj} {sp : Sp} {x : Str} {q pos : Pos} {e : Expr} {es : List Expr} {t : TA} (F : FnP X.prog X.w X.K X.mg X.base CX k f fd ps p sp) (hr : RoomH k X.A) (h1 : Hot1 X.A p) (hp : p ∈ X.pn)
    (hg : Gl X x) (hm : X.mg x = some (.ref f)) (hk : PySem.W.keepIn X.K (.ref f) = true) (hb : Binds X.K fd ps []) (hx : ∀ (H : Hp) (s : Shared) (e : Value) (s' : Shared), CX X.stack H s (fun _ _ _ => False) e s' → False)
    (ha : PA X (e :: es) t) (hdb : (x == ("__debug__" : Str)) = false) (he : starEach (e :: es) X.env = (false, eval e X.env) :: starEach es X.env) (hpl : (backTo pos (starEach es X.env)).any (·.1) = false) :
    PE X (.Call (.Name x q) (e :: es) [] pos) fun σ H Q => t σ H fun vs H1 => vs.length = ps.length ∧ sp vs H1 Q fun _ _ _ => False := by
  refine ⟨fun pins s σ H Q I h => ?_⟩
  refine wpAny_Call_Name_kw (ld_glob I hg hm ?_ hdb)
  refine PySem.W.callWith_K (h₀ := X.base) I.ok.mod.kin hk (thn (ha.run pos pins s σ H _ I h) fun us s1 ⟨vs, H1, I1, r, hl, q⟩ => ⟨I1.kIn, ?_⟩) he hpl
  have hlu : us.length = ps.length := by rw [← r.length]; exact hl
  have b := hb s1 us I1.kIn (by rw [List.append_nil]; exact hlu)
  rw [List.append_nil] at b
  have P1 := I1.pin p (List.mem_append_left _ hp)
  have hpin : PinOk X.stack H1 s1 p := ⟨P1.1, P1.2.1, fun hm => (List.mem_cons.mp (I1.stkSub p.1 hm)).elim P1.2.2.1 P1.2.2.2.1, P1.2.2.2.2⟩
  refine wpAny_call (codeAny_mono (F X.A X.stack s1 H1 ⟨us, []⟩ us vs Q (fun _ _ _ => False) hr h1 hpin I1.env0 b r hl q) fun r s' hq => ?_)
  cases r with
  | error e => exact (hx H1 s1 e s' hq).elim
  | ok fl =>
    cases fl with
    | ret u => exact I1.after hq
    | next => exact False.elim hq
    | brk => exact False.elim hq
    | cont => exact False.elim hq
/-- isinstance of the handled exception -/
theorem call_isP {X : Cx} {D : Addr} {p : Addr × Obj} (hp : p ∈ X.pn) (C : ExcC X.K D) (hz : Zc (.ref D) none p.2) (hf : ∃ vs, p.2.data = .fields vs) : CallR X (.builtin "isinstance") (rIsE X.K D p.1) := by
  intro pins s σ H xs us Q I r h
  obtain ⟨c, cv, b, rfl, hcv, e, q⟩ := h
  obtain ⟨u1, u2, rfl, rx, rt⟩ := vals2 r
  cases rx
  have ec := hcv _ rt
  subst ec
  obtain ⟨hget, _⟩ := I.pin p (List.mem_append_left _ hp)
  obtain ⟨vs, hv⟩ := hf
  obtain ⟨a, oe⟩ := p
  have J : PySem.W.InstAt s.heap a oe D none := by
    obtain ⟨oc, od, oda, osl⟩ := oe
    obtain ⟨h1, h2⟩ := hz
    dsimp only at h1 h2 hv
    subst h1 h2 hv
    exact ⟨hget, rfl, rfl, trivial⟩
  exact PySem.W.kia_one (PySem.W.handS_kitx_exc C.hg C.hk C.hs C.hd C.ha C.hn C.ht C.hm) I.kIn J e (fun z => nomatch z) fun tk => ⟨.bl b, H, I.kept (t' := tk) fun _ _ z => z, rfl, q⟩
end Hb

/-! The names of all classes that a handled exception is of. -/
namespace Hb
open PySem PySem.Spec PyProof.Rows L2 HotX L2H

def kinNm : List Str := [("InvalidRow" : Str), ("InvalidStream" : Str), ("InvalidGuest" : Str), ("InvalidKinds" : Str), ("InvalidLot" : Str), ("InvalidNumber" : Str), ("InvalidPaper" : Str), ("InvalidIndex" : Str), ("Impossible" : Str), ("Unlike" : Str), ("NothingToUndo" : Str), ("TooMany" : Str), ("InvalidText" : Str)]
/-- what the class at D is one of -/
structure KinC (Γ : Gm) (D : Addr) (bs : List Bool) : Prop where
  exc : ExcC Γ.K D
  cls : ∀ (i : Nat) (x : Str), kinNm[i]? = some x → ∃ C, Γ.mg x = some (.ref C) ∧ PySem.W.kitOne Γ.K (.ref D) (.ref C) = some (bs.getD i false)
  ve : PySem.W.kitOne Γ.K (.ref D) (.type "ValueError") = some (bs.getD 13 false)
structure KinX (Γ : Gm) (D : Addr) (bs : List Bool) (p : Addr × Obj) (X : Cx) : Prop where
  K : X.K = Γ.K
  mg : X.mg = Γ.mg
  kc : KinC Γ D bs
  h1 : Hot1 X.A p
  hp : p ∈ X.pn
  hz : Zc (.ref D) none p.2
  hf : ∃ vs, p.2.data = .fields vs
  bl : ∀ x ∈ bnames, Γ.mg x = none
  ven : Γ.mg ("ValueError" : Str) = none
  nd : X.N.Nodup
section
variable {Γ : Gm} {D : Addr} {bs : List Bool} {p : Addr × Obj} {X : Cx}
def tIs (p : Addr × Obj) (b : Bool) : TE := fun σ H Q => σ[0]? = some (some (.ref p.1)) ∧ Q (.bl b) H
theorem pe_isx (k : KinX Γ D bs p X) {j : Nat} {x e : Str} {q1 q2 q3 q4 : Pos} (hx : kinNm[j]? = some x) (gi : Gl X ("isinstance" : Str)) (gx : Gl X x) (hN : X.N[0]? = some e) (hv : Vis X.env.scope e) (hd : (e == ("__debug__" : Str)) = false) (hc : (e == ("__classdict__" : Str)) = false) (hdx : (x == ("__debug__" : Str)) = false) :
    PE X (.Call (.Name ("isinstance" : Str) q1) [.Name e q2, .Name x q3] [] q4) (tIs p (bs.getD j false)) := by
  obtain ⟨C, hC, hk⟩ := k.kc.cls j x hx
  have hC : X.mg x = some (.ref C) := by rw [k.mg]; exact hC
  have ha : PA X [.Name e q2, .Name x q3] (tCons (fun σ H Q => ∃ v, σ[0]? = some (some v) ∧ Q v H) (tCons (tC (.ref C)) tNil)) := pa_cons (pe_var hN hv hd hc) (pa_cons (pe_glob gx hC rfl hdx) pa_nil rfl) rfl
  have mi : X.mg ("isinstance" : Str) = none := by rw [k.mg]; exact k.bl _ (by decide)
  refine PE.imp (pe_callB (call_isP k.hp (by rw [k.K]; exact k.kc.exc) k.hz k.hf) gi mi boot_isi ha (by decide) (by decide) rfl rfl) fun σ H Q ⟨h1, h2⟩ => ?_
  exact ⟨_, h1, ⟨_, .ref C, _, rfl, fun u r => r, by rw [k.K]; exact hk, h2⟩⟩
theorem pe_isv (k : KinX Γ D bs p X) {e : Str} {q1 q2 q3 q4 : Pos} (gi : Gl X ("isinstance" : Str)) (gx : Gl X ("ValueError" : Str)) (hN : X.N[0]? = some e) (hv : Vis X.env.scope e) (hd : (e == ("__debug__" : Str)) = false) (hc : (e == ("__classdict__" : Str)) = false) :
    PE X (.Call (.Name ("isinstance" : Str) q1) [.Name e q2, .Name ("ValueError" : Str) q3] [] q4) (tIs p (bs.getD 13 false)) := by
  have ha : PA X [.Name e q2, .Name ("ValueError" : Str) q3] (tCons (fun σ H Q => ∃ v, σ[0]? = some (some v) ∧ Q v H) (tCons (tC (.ty "ValueError")) tNil)) :=
    pa_cons (pe_var hN hv hd hc) (pa_cons (pe_bltn (v := .ty "ValueError") (u := .type "ValueError") gx (by rw [k.mg]; exact k.ven) (by decide +kernel) rfl) pa_nil rfl) rfl
  have mi : X.mg ("isinstance" : Str) = none := by rw [k.mg]; exact k.bl _ (by decide)
  refine PE.imp (pe_callB (call_isP k.hp (by rw [k.K]; exact k.kc.exc) k.hz k.hf) gi mi boot_isi ha (by decide) (by decide) rfl rfl) fun σ H Q ⟨h1, h2⟩ => ?_
  exact ⟨_, h1, ⟨_, .type "ValueError", _, rfl, fun u r => r, by rw [k.K]; exact k.kc.ve, h2⟩⟩
/-- some of them in a row -/
def tIss (p : Addr × Obj) (cs : List Bool) : TA := fun σ H Q => σ[0]? = some (some (.ref p.1)) ∧ Q (cs.map V.bl) H
theorem pa_is0 : PA X [] (tIss p []) := PA.imp pa_nil fun σ H Q ⟨_, h⟩ => h
theorem pa_is1 {e : Expr} {es : List Expr} {c : Bool} {cs : List Bool} (h : PE X e (tIs p c)) (r : PA X es (tIss p cs)) (hs : starEach (e :: es) X.env = (false, eval e X.env) :: starEach es X.env := by rfl) : PA X (e :: es) (tIss p (c :: cs)) :=
  PA.imp (pa_cons h r hs) fun σ H Q ⟨h1, h2⟩ => ⟨h1, h1, h2⟩
def tKin1 (p : Addr × Obj) (cs : List Bool) : TS := fun D σ H => σ[0]? = some (some (.ref p.1)) ∧ cs.length ≤ 20 ∧ ∀ q H', Same H H' → H' q = some (.lst (cs.map V.bl)) → D.nx (σ.set 1 (some (.ref q))) H'
theorem len20 {α : Type} {xs : List α} (h : xs.length ≤ 20) : xs.length ≤ sizeLine := Nat.le_trans h (by decide)
theorem ps_kin1 {n : Str} {es : List Expr} {cs : List Bool} {q1 q2 q3 : Pos} (hN : X.N.Nodup) (hi : X.N[1]? = some n) (hl : X.env.scope.names.lookup n = some .local) (h : PA X es (tIss p cs)) : PS X (.Assign [.Name n q1] (.List es q2) q3) (tKin1 p cs) := by
  refine PS.imp (ps_set hN hi (.inl hl) (pe_lst h) rfl (.inr hl)) fun D σ H ⟨h1, h2, h3⟩ => ⟨h1, by rw [List.length_map]; exact len20 h2, fun q hq => ?_⟩
  exact h3 q _ (Same.new hq) upd_same
def tKin2 (p : Addr × Obj) (cs : List Bool) : TS := fun D σ H => σ[0]? = some (some (.ref p.1)) ∧ ∃ q ds, σ[1]? = some (some (.ref q)) ∧ H q = some (.lst (ds.map V.bl)) ∧ ds.length ≤ 20 ∧ cs.length ≤ 20 ∧
  ∀ q' H', Same H H' → H' q' = some (.lst ((ds ++ cs).map V.bl)) → D.nx (σ.set 1 (some (.ref q'))) H'
theorem ps_kin2 {n : Str} {es : List Expr} {cs : List Bool} {q1 q2 q3 q4 q5 : Pos} (hN : X.N.Nodup) (hi : X.N[1]? = some n) (hl : X.env.scope.names.lookup n = some .local) (hd : (n == ("__debug__" : Str)) = false) (hc : (n == ("__classdict__" : Str)) = false) (h : PA X es (tIss p cs)) :
    PS X (.Assign [.Name n q1] (.BinOp (.Name n q2) .Add (.List es q3) q4) q5) (tKin2 p cs) := by
  refine PS.imp (ps_set hN hi (.inl hl) (pe_op op_catL (pe_var hi (.inl hl) hd hc) (pe_lst h)) rfl (.inr hl)) fun D σ H ⟨h1, q, ds, h2, h3, h4, h5, h6⟩ => ?_
  refine ⟨_, h2, h1, by rw [List.length_map]; exact len20 h5, fun r hr => ?_⟩
  have hq : upd H r (.lst (cs.map V.bl)) q = some (.lst (ds.map V.bl)) := by rw [upd_ne (ne_of_none h3 hr)]; exact h3
  refine ⟨q, r, _, _, rfl, rfl, SqL.of hq, SqL.of upd_same, by rw [List.length_map, List.length_map]; exact Nat.le_trans (Nat.add_le_add h4 h5) (by decide), fun r2 hr2 => ?_⟩
  refine h6 r2 _ (fun a u e => Same.new hr2 a u (Same.new hr a u e)) ?_
  rw [upd_same, List.map_append]
/-- the words of what holds -/
def kept : List Str → List Bool → List Str
  | w :: ws, b :: bs => if b = true then w :: kept ws bs else kept ws bs
  | _, _ => []
theorem kept_take : ∀ (ws : List Str) (bs : List Bool) (i : Nat) (w : Str) (b : Bool), ws[i]? = some w → bs[i]? = some b → kept (ws.take (i + 1)) (bs.take (i + 1)) = kept (ws.take i) (bs.take i) ++ (if b = true then [w] else [])
  | [], _, i, w, b, h, _ => by simp at h
  | _ :: _, [], i, w, b, _, h => by simp at h
  | w0 :: ws, b0 :: bs, 0, w, b, h1, h2 => by
    simp at h1 h2
    subst h1 h2
    cases b0 <;> simp [kept]
  | w0 :: ws, b0 :: bs, i + 1, w, b, h1, h2 => by
    have ih := kept_take ws bs i w b (by simpa using h1) (by simpa using h2)
    simp only [List.take_succ_cons, kept]
    rw [ih]
    cases b0 <;> simp
theorem kept_len : ∀ (ws : List Str) (bs : List Bool), (kept ws bs).length ≤ ws.length
  | [], _ => by simp [kept]
  | _ :: _, [] => by simp [kept]
  | w :: ws, b :: bs => by
    have := kept_len ws bs
    simp only [kept]
    split <;> simp <;> omega
def tKin3 (ws : List Str) (sep : Str) : TS := fun D σ H => 5 ≤ σ.length ∧ ∃ q cs lab, σ[1]? = some (some (.ref q)) ∧ H q = some (.lst (cs.map V.bl)) ∧ σ[2]? = some (some (.str lab)) ∧ Txt.split lab sep = ws ∧ ws.length = cs.length ∧ ws.length ≤ 20 ∧
  (sep.length == 0) = false ∧ lab.length + 2 ≤ sizeLine ∧ ((kept ws cs).map (·.length)).sum + (kept ws cs).length * sep.length ≤ 16777216 ∧ ∀ H', Same H H' → D.rt (.str (Txt.join sep (kept ws cs))) H'
theorem ps_kin3 {ws : List Str} {so la lb go : Str} {sep : Str} {scope : Scope} {k1 : Nat} {q1 q2 q3 q4 q5 q6 q7 q8 q9 q10 q11 q12 q13 q14 q15 q16 q17 : Pos} {j1 j2 : Nat} (h1 : Hot1 X.A p) (hp : p ∈ X.pn) (hN : X.N.Nodup)
    (i1 : X.N[1]? = some so) (i2 : X.N[2]? = some la) (i3 : X.N[3]? = some lb) (i4 : X.N[4]? = some go) (l1 : X.env.scope.names.lookup so = some .local) (l2 : X.env.scope.names.lookup la = some .local)
    (d1 : (so == ("__debug__" : Str)) = false ∧ (so == ("__classdict__" : Str)) = false) (d2 : (la == ("__debug__" : Str)) = false ∧ (la == ("__classdict__" : Str)) = false) (d3 : (lb == ("__debug__" : Str)) = false ∧ (lb == ("__classdict__" : Str)) = false) (d4 : (go == ("__debug__" : Str)) = false ∧ (go == ("__classdict__" : Str)) = false)
    (gz : Gl X ("zip" : Str)) (mz : X.mg ("zip" : Str) = none) (ok : BlkOk X.N X.env.scope scope [(lb, 3), (go, 4)]) (s3 : scope.names.lookup lb = some .local) (s4 : scope.names.lookup go = some .local)
    (ln : (q5.endLine == q6.line) = true) (ln2 : (q7.endLine == q8.line) = true) :
    PS X (.Return (some (.Call (.Attribute (.Constant (.str sep) j1 q1) ("join" : Str) q5) [.ListComp (.Name lb q2) [⟨.Tuple [.Name lb q3, .Name go q4] k1 q9, .Call (.Name ("zip" : Str) q10) [.Call (.Attribute (.Name la q11) ("split" : Str) q7) [.Constant (.str sep) j2 q12] [] q8, .Name so q13] [] q14, [.Name go q15], 0⟩] scope q16] [] q6)) q17) (tKin3 ws sep) := by
  have hz : PIH X (.Tuple [.Name lb q3, .Name go q4] k1 q9) (.Call (.Name ("zip" : Str) q10) [.Call (.Attribute (.Name la q11) ("split" : Str) q7) [.Constant (.str sep) j2 q12] [] q8, .Name so q13] [] q14) _ :=
    pi_zipH gz mz (pa_cons (pe_bm PySem.F.plainAttrs_str PySem.F.slot_str_split PySem.F.type_str_split mt_split (pe_var i2 (.inl l2) d2.1 d2.2) (pa_cons pe_str pa_nil rfl) rfl rfl ln2 rfl rfl) (pa_cons (pe_var i1 (.inl l1) d1.1 d1.2) pa_nil rfl) rfl) rfl rfl
  have lloc : ∀ {x : Str}, scope.names.lookup x = some .local → ∀ (s : Shared) (H : Hp) (C : Addr) (cl : List (Str × Addr)) (fp : List Addr), (blkH X p s H scope (compEnvC scope cl C X.env) fp).env.scope.names.lookup x = some .local := fun h s H C cl fp => PySem.lookup_relabel_local h
  have lc := pe_lcH (pos := q16) (elt := .Name lb q2) (ifs := [.Name go q15]) (te := fun σ H Q => ∃ v, σ[3]? = some (some v) ∧ Q v H) (tt := fun σ H Q => ∃ b, σ[4]? = some (some (.bl b)) ∧ Q b H) (g := gTup X.K 2 (gCons (gName 3) (gCons (gName 4) gNil))) h1 hp hN hz ok
    (fun s H C cl fp => pg_tupH ⟨p, h1, List.mem_cons_self⟩ (pgs_cons (pg_name hN i3 (.inl (lloc s3 s H C cl fp)) (.inr (lloc s3 s H C cl fp))) (pgs_cons (pg_name hN i4 (.inl (lloc s4 s H C cl fp)) (.inr (lloc s4 s H C cl fp))) pgs_nil rfl) rfl) rfl rfl)
    (fun s H C cl fp => pts_one (PT.imp (pt_val (pe_var i4 (.inl (lloc s4 s H C cl fp)) d4.1 d4.2) (fun _ => rfl)) fun σ H Q ⟨b, e, q⟩ => ⟨_, e, _, rfl, q⟩))
    (fun s H C cl fp => pe_var i3 (.inl (lloc s3 s H C cl fp)) d3.1 d3.2) (fun _ => rfl)
  refine PS.imp (ps_ret (pe_bm PySem.F.plainAttrs_str PySem.F.slot_str_join PySem.F.type_str_join mt_join pe_str (pa_cons lc pa_nil rfl) rfl rfl ln rfl rfl)) fun Dn σ H hyp => ?_
  obtain ⟨hl, q, cs, lab, e1, e2, e3, e4, e5, e6, e7, e8, e9, e10⟩ := hyp
  refine ⟨rfl, ⟨.str lab, e3, rfl, lab, sep, rfl, rfl, e7, e8, fun a ha => ?_⟩⟩
  rw [e4]
  have hq : upd H a (.lst (ws.map V.str)) q = some (.lst (cs.map V.bl)) := by rw [upd_ne (ne_of_none e2 ha)]; exact e2
  refine ⟨_, e1, a, q, _, _, rfl, SqL.of upd_same, SqL.of hq, fun C hC => ?_⟩
  have hCa : a ≠ C := fun z => by rw [← z, upd_same] at hC; cases hC
  have hCq : q ≠ C := ne_of_none hq hC
  have hHC : H C = none := by rw [upd_ne hCa.symm] at hC; exact hC
  let Pv : Nat → Hp → Prop := fun i H' => Same H H' ∧ H' a = some (.lst (ws.map V.str)) ∧ H' q = some (.lst (cs.map V.bl)) ∧ H' C = some (.lst ((kept (ws.take i) (cs.take i)).map V.str))
  refine ⟨fun i m H' => m = ws.length - i ∧ i ≤ ws.length ∧ Pv i H', ⟨ws.length, by simp, Nat.zero_le _, ?_, ?_, ?_, ?_⟩, fun i m H' ⟨em, ei, s1, s2, s3', s4'⟩ => ?_⟩
  · exact fun b u e => by rw [upd_ne (ne_of_none e hHC), upd_ne (ne_of_none e ha)]; exact e
  · rw [upd_ne hCa]; exact upd_same
  · rw [upd_ne hCq]; exact hq
  · rw [upd_same]; simp [kept]
  · by_cases hi : i = ws.length
    · subst hi
      refine .inl ⟨⟨_, _, SqL.of s2, SqL.of s3', .inl (by simp)⟩, ?_⟩
      rw [List.take_length, e5, List.take_length] at s4'
      exact ⟨sep, C, _, rfl, rfl, .inl (SqL.of s4'), e9, e10 _ s1⟩
    · have hi : i < ws.length := by omega
      have hic : i < cs.length := by omega
      refine .inr ⟨⟨_, _, V.str ws[i], V.bl cs[i], SqL.of s2, SqL.of s3', by simp [hi], by simp [hic]⟩, fun H2 => ∃ m', m' < m ∧ (m' = ws.length - (i + 1) ∧ i + 1 ≤ ws.length ∧ Pv (i + 1) H2), fun H2 h => h, ?_⟩
      rintro x H2 ⟨T, u, v, rfl, hT, rfl, hx, hy⟩
      have hx := hx _ (SqL.of s2)
      have hy := hy _ (SqL.of s3')
      simp only [List.getElem?_map, List.getElem?_eq_getElem hi, List.getElem?_eq_getElem hic, Option.map_some, Option.some.injEq] at hx hy
      subst hx hy
      refine ⟨T, _, rfl, SqT.of upd_same, rfl, _, _, rfl, _, _, rfl, rfl, ?_, ?_⟩
      · refine List.ext_getElem? fun j => ?_
        simp only [L2.wipe, List.map_cons, List.map_nil, List.getElem?_set, List.length_set]
        by_cases j3 : 3 = j
        · simp [j3]
        · by_cases j4 : 4 = j
          · simp [j3, j4]
          · simp [j3, j4]
      · have nTa : a ≠ T := ne_of_none s2 hT
        have nTq : q ≠ T := ne_of_none s3' hT
        have nTC : C ≠ T := ne_of_none s4' hT
        have sT : Same H (upd H' T (.tup [V.str ws[i], V.bl cs[i]])) := fun b u e => Same.new hT b u (s1 b u e)
        have kt := kept_take ws cs i ws[i] cs[i] (List.getElem?_eq_getElem hi) (List.getElem?_eq_getElem hic)
        refine ⟨cs[i], ?_, ?_⟩
        · simp [L2.wipe, List.getElem?_set]; omega
        · cases hb : cs[i] with
          | true =>
            rw [if_pos rfl]
            refine ⟨V.str ws[i], by simp [L2.wipe, List.getElem?_set]; omega, (kept (ws.take i) (cs.take i)).map V.str, ?_, ?_, ws.length - (i + 1), by omega, rfl, by omega, ?_, ?_, ?_, ?_⟩
            · rw [upd_ne nTC]; exact s4'
            · have h1 := kept_len (ws.take i) (cs.take i)
              have h2 : (ws.take i).length ≤ 20 := by rw [List.length_take]; omega
              rw [List.length_map]
              have : (20 : Nat) < sizeLine := by decide
              omega
            · intro b u e
              have hbC : b ≠ C := ne_of_none e hHC
              rw [upd_ne hbC]
              rw [hb] at sT
              exact sT b u e
            · rw [upd_ne hCa, upd_ne nTa]; exact s2
            · rw [upd_ne hCq, upd_ne nTq]; exact s3'
            · rw [upd_same, kt, hb]; simp
          | false =>
            rw [if_neg (by simp)]
            refine ⟨ws.length - (i + 1), by omega, rfl, by omega, ?_, ?_, ?_, ?_⟩
            · rw [hb] at sT; exact sT
            · rw [upd_ne nTa]; exact s2
            · rw [upd_ne nTq]; exact s3'
            · rw [upd_ne nTC, kt, hb]; simpa using s4'
/-- the whole body -/
def tKin (p : Addr × Obj) (bs : List Bool) (lab sep : Str) : TS := tSeq (tKin1 p (bs.take 3)) (tSeq (tKin2 p ((bs.drop 3).take 3)) (tSeq (tKin2 p ((bs.drop 6).take 3)) (tSeq (tKin2 p ((bs.drop 9).take 3)) (tSeq (tKin2 p ((bs.drop 12).take 2)) (tSeq (tAsg (tC (.str lab)) (gName 2)) (tKin3 (Txt.split lab sep) sep))))))
def kinS (bs : List Bool) (lab sep : Str) : Str := Txt.join sep (kept (Txt.split lab sep) bs)
/-- labels fit -/
def kinB (bs : List Bool) (lab sep : Str) : Bool := decide (bs.length = 14) && decide ((Txt.split lab sep).length = 14) && !(sep.length == 0) && decide (lab.length ≤ 1000) && decide (((kept (Txt.split lab sep) bs).map (·.length)).sum + (kept (Txt.split lab sep) bs).length * sep.length ≤ 16777216)
theorem kin_read {p : Addr × Obj} {bs : List Bool} {lab sep : Str} {H : Hp} {Q : VK} {N : List Str} (hN : N.length = 5) (hb : kinB bs lab sep = true) (h : ∀ H', Same H H' → Q (.str (kinS bs lab sep)) H') :
    tKin p bs lab sep { nx := fun _ H' => Q .non H', rt := Q } (L2.start N [.ref p.1]) H := by
  unfold kinB at hb
  simp only [Bool.and_eq_true, decide_eq_true_eq, Bool.not_eq_true'] at hb
  obtain ⟨⟨⟨⟨b1, b2⟩, b3⟩, b4⟩, b5⟩ := hb
  have h0 : L2.start N [V.ref p.1] = [some (.ref p.1), none, none, none, none] := by
    unfold L2.start
    rw [hN]
    rfl
  rw [h0]
  have e1 : bs.take 3 ++ (bs.drop 3).take 3 = bs.take 6 := by rw [show (6 : Nat) = 3 + 3 by rfl, List.take_add]
  have e2 : bs.take 6 ++ (bs.drop 6).take 3 = bs.take 9 := by rw [show (9 : Nat) = 6 + 3 by rfl, List.take_add]
  have e3 : bs.take 9 ++ (bs.drop 9).take 3 = bs.take 12 := by rw [show (12 : Nat) = 9 + 3 by rfl, List.take_add]
  have e4 : bs.take 12 ++ (bs.drop 12).take 2 = bs := by
    rw [← List.take_add, List.take_of_length_le (by omega)]
  have l20 : ∀ n m, (List.take n (List.drop m bs)).length ≤ 20 := fun n m => by simp; omega
  have l20' : ∀ n, (List.take n bs).length ≤ 20 := fun n => by simp; omega
  refine ⟨rfl, l20' 3, fun q1 H1 s1 h1 => ?_⟩
  refine ⟨rfl, q1, _, rfl, h1, l20' 3, l20 3 3, fun q2 H2 s2 h2 => ?_⟩
  rw [e1] at h2
  refine ⟨rfl, q2, _, rfl, h2, l20' 6, l20 3 6, fun q3 H3 s3 h3 => ?_⟩
  rw [e2] at h3
  refine ⟨rfl, q3, _, rfl, h3, l20' 9, l20 3 9, fun q4 H4 s4 h4 => ?_⟩
  rw [e3] at h4
  refine ⟨rfl, q4, _, rfl, h4, l20' 12, l20 2 12, fun q5 H5 s5 h5 => ?_⟩
  rw [e4] at h5
  refine ⟨by simp, q5, bs, lab, rfl, h5, rfl, rfl, by omega, by omega, b3, ?_, b5, fun H6 s6 => ?_⟩
  · have : (1002 : Nat) ≤ sizeLine := by decide
    omega
  · exact h H6 fun a u e => s6 a u (s5 a u (s4 a u (s3 a u (s2 a u (s1 a u e)))))
end
end Hb

/-! A lambda handed to a def that calls it in a try: exceptions with no context. -/
namespace Hb
open PySem PySem.Spec PyProof.Rows L2

/-- the lambda's context -/
def lamCxN (X : Cx) (A : Around) (outer : List PySem.Env) (s : Shared) (H : Hp) (E : XK) (scope : Scope) (f c' : Addr) : Cx :=
  (LamX.lamCx X A outer s H E scope f c').wish fun e s' => wpAny (model X.prog X.w) (A.deeper (LamX.lamEnv X scope s.heap.objs.size f c')) (leaving (LamX.lamEnv X scope s.heap.objs.size f c') e) (fun _ s'' => L2N.CX X.prog X.w outer H s E e s'') (fun e' s'' => L2N.CX X.prog X.w outer H s E e' s'') s'
theorem lam_takes {X : Cx} {A : Around} {outer : List PySem.Env} {s : Shared} {H : Hp} {E : XK} {scope : Scope} {f c' : Addr} : L2N.Takes (lamCxN X A outer s H E scope f c') (fun cls d _ H => E cls d H) := L2N.takes_of rfl rfl rfl rfl
section
variable {X : Cx} {pins : List (Addr × Obj)} {σ : L2.St} {H HZ : Hp} {s s1 : Shared}
/-- the lambda that was handed over, called -/
theorem pe_actN {CXg : CXT} {Eg : XK} {Ng : List Str} {qg : Str} {sg : Scope} {g f c' : Addr} {cdg pm ctv : Value} {params : Arguments} {body : Expr} {scope : Scope} {k i : Nat} {a : Str} {pn : List (Addr × Obj)} {xe : Value → Shared → Prop} {W : WX} {E : XK} {tb : TE} {p1 p2 : Pos}
    (I : Inv X pins σ H s) (L : LamX.LamS X.env.scope scope) (hf : s.heap.get? f = some (PySem.W.kla_obj "<lambda>" (X.env.qual ++ "<lambda>") params body scope (cloFrom X.env.cells scope.names []) pm c' ctv)) (hfn : H f = none) (hfr : f ∉ frs X.stack)
    (hbind : bindArgs (PySem.W.kla_fn "<lambda>" (X.env.qual ++ "<lambda>") params body scope (cloFrom X.env.cells scope.names []) pm (.ref c') ctv) ⟨[], []⟩ = pure [])
    (tk : L2N.Takes ((cxOf CXg X.prog X.w X.K X.mg X.base Ng qg sg g cdg X.A X.stack s H Eg).tr pn xe) W) (hW : ∀ cls d σ' H', E cls d H' → W cls d σ' H') (hr : Room (k + 1) (X.A.deeper (envOfC qg sg s.heap.objs.size g cdg)))
    (hbody : ∀ (A : Around) (outer : List PySem.Env) (s : Shared) (H : Hp), Room k (A.deeper (LamX.lamEnv X scope s.heap.objs.size f c')) → PE (lamCxN X A outer s H E scope f c') body tb)
    (hN : Ng[i]? = some a) (hv : Vis sg a) (hd : (a == ("__debug__" : Str)) = false := by decide) (hcd : (a == ("__classdict__" : Str)) = false := by decide) :
    PE ((cxOf CXg X.prog X.w X.K X.mg X.base Ng qg sg g cdg X.A X.stack s H Eg).tr pn xe) (.Call (.Name a p1) [] [] p2)
      (fun σZ HZ Q => σZ[i]? = some (some (.ref f)) ∧ HZ c' = some (LamX.CodeO c' (X.env.qual ++ "<lambda>")) ∧ tb σ HZ Q) := by
  refine ⟨fun pinsZ sZ σZ HZ Q IZ h => ?_⟩
  obtain ⟨hs, hc, ht⟩ := h
  refine wpAny_Call_Name_kw (thn ((pe_var (pos := p1) (i := i) hN hv hd hcd).run pinsZ sZ σZ HZ (fun v H1 => v = .ref f ∧ H1 = HZ) IZ ⟨.ref f, hs, rfl, rfl⟩) fun u s1 ⟨v, H1, I1, r1, q1⟩ => ?_)
  obtain ⟨ev, eH⟩ := q1
  subst ev
  rw [eH] at I1
  obtain rfl : u = Value.ref f := r1
  have of1 : s1.heap.get? f = some (PySem.W.kla_obj "<lambda>" (X.env.qual ++ "<lambda>") params body scope (cloFrom X.env.cells scope.names []) pm c' ctv) := I1.base.keep f _ hf hfn hfr (fun z => nomatch (show f ∈ ([] : List Addr) from z))
  refine PySem.W.callWith_F0 ⟨_, _, _, _, of1⟩ ?_
  have un : Un (frs X.stack) [] H HZ s.heap s1.heap := I1.base
  obtain ⟨⟨oc, vs, t, hoc, hdc, hvc⟩, _, _⟩ := I1.hok c' _ hc
  have rc : codeAny (model X.prog X.w) (X.A.deeper (envOfC qg sg s.heap.objs.size g cdg)) (.call (.ref f) ⟨[], []⟩) (CR (L2N.CX X.prog X.w) (envOfC qg sg s.heap.objs.size g cdg :: X.stack) X.prog X.w HZ s1 Q E) s1 := by
    refine PySem.W.kla_callFunE hr.depth of1 rfl L.co L.gen rfl ⟨c', oc, vs, t, rfl, hoc, hdc, hvc⟩ ?_
    rw [hbind]
    refine wpAny_pure (wpAny_newFunctionEnv (fun y hy => (L.own y hy).2) (fun y hy => absurd hy (by simp)) (fun h₁ hns hsb => ⟨I1.nolimit.fresh _ hsb, ?_⟩) L.kind)
    show codeAny _ _ (.expr body (LamX.lamEnv X scope s1.heap.objs.size f c')) _ _
    have kp : ∀ b o, s1.heap.get? b = some o → h₁.get? b = some o := fun b o e => hsb.extBut b o (Nat.ne_of_lt (Heap.lt_size e)) (Heap.get?_push_of_some _ e)
    have J : Inv (lamCxN X (X.A.deeper (envOfC qg sg s.heap.objs.size g cdg)) (envOfC qg sg s.heap.objs.size g cdg :: X.stack) s1 HZ E scope f c') [] σ HZ { s1 with heap := h₁, toks := s1.toks + ([] : List (Str × Value)).length } :=
      (LamX.lam_start2 (E := E) I L I1.env0 hr.hd un hns kp).wish _
    refine PySem.W.kla_codeExpr (wpAny_mono ((hbody _ _ s1 HZ (hr.deeper _)).run [] _ _ HZ Q J ht) (fun v s' hq => ?_) fun e s' hq => hq)
    obtain ⟨w', H', J', rv, q⟩ := hq
    exact ⟨w', H', J'.os, J'.bare, J'.base, J'.hok, rv, q⟩
  have hx : Passes (L2N.CX X.prog X.w) ((cxOf CXg X.prog X.w X.K X.mg X.base Ng qg sg g cdg X.A X.stack s H Eg).tr pn xe) E := L2N.passes_call tk hW
  refine wpAny_call (codeAny_mono rc fun r s' hq => ?_)
  cases r with
  | error e => exact hx pinsZ σZ HZ s1 e s' I1 hq
  | ok fl =>
    cases fl with
    | ret u => exact I1.after hq
    | next => exact False.elim hq
    | brk => exact False.elim hq
    | cont => exact False.elim hq
end
/-- the def that got the lambda, and what it makes of it -/
def GivesN (X : Cx) (Ng : List Str) (x : Str) (sg : Scope) (g : Addr) (cdg : Value) (bg : List Stmt) (a : Str) (q : Str) (TT : (XK → Hp → VK → Prop) → Hp → VK → Prop) : Prop :=
  ∀ (f c' : Addr) (s : Shared) (H : Hp) (Q : VK) (tl : XK → Hp → VK → Prop),
    (∀ (W : WX) (pn : List (Addr × Obj)) (xe : Value → Shared → Prop) (E : XK) (p1 p2 : Pos), L2N.Takes ((cxOf C8.CX0 X.prog X.w X.K X.mg X.base Ng x sg g cdg X.A X.stack s H C8.E0).tr pn xe) W → (∀ cls d σ' H', E cls d H' → W cls d σ' H') →
      PE ((cxOf C8.CX0 X.prog X.w X.K X.mg X.base Ng x sg g cdg X.A X.stack s H C8.E0).tr pn xe) (.Call (.Name a p1) [] [] p2) (fun σZ HZ Q => σZ[0]? = some (some (.ref f)) ∧ HZ c' = some (LamX.CodeO c' q) ∧ tl E HZ Q)) →
    H c' = some (LamX.CodeO c' q) → TT tl H Q →
    ∃ t, PSs (cxOf C8.CX0 X.prog X.w X.K X.mg X.base Ng x sg g cdg X.A X.stack s H C8.E0).nox bg t ∧ t { nx := fun _ H' => Q .non H', rt := Q } (L2.start Ng [.ref f]) H
def tLamN (T : List (Addr × Str)) (TT : (XK → Hp → VK → Prop) → Hp → VK → Prop) (t : XK → TE) : TE := fun σ H Q => LamX.Tabs T H ∧ ∀ H1, LamX.ExtN H H1 → LamX.Tabs T H1 → TT (fun E H' Q' => t E σ H' Q') H1 Q
section
variable {X : Cx}
/-- x(lambda: e) -/
theorem pe_lamcallN {T : List (Addr × Str)} {TT : (XK → Hp → VK → Prop) → Hp → VK → Prop} {x a : Str} {g c P : Addr} {k : Nat} {pg : Arguments} {bg : List Stmt} {sg : Scope} {dV kV doc pm cdv ct oc : Value} {an od : Option Addr} {osl : Array (Option Value)} {Ng : List Str}
    {params : Arguments} {body : Expr} {scope : Scope} {t : XK → TE} {p lpos pos : Pos} (hg : Gl X x) (hm : X.mg x = some (.ref g)) (hk : PySem.W.keepIn X.K (.ref g) = true)
    (lk : X.K.lookup g = some ⟨oc, od, .func (PySem.W.fnOf x x pg bg sg dV kV doc pm an cdv ct), osl⟩) (hcg : PySem.W.codeIn X.K cdv x = true) (hb : L2.Binds X.K (PySem.W.fnOf x x pg bg sg dV kV doc pm an cdv ct) [a] []) (Sg : FnScope Ng [a] sg) (hNg : Ng[0]? = some a) (hva : Vis sg a)
    (hG : GivesN X Ng x sg g cdv bg a (X.env.qual ++ "<lambda>") TT)
    (TB : LamX.TabB X.base X.mg c P) (hcode : X.env.code = .ref c) (hmT : (P, X.env.qual ++ "<lambda>") ∈ T) (hu : ∀ p ∈ T, p.1 = P → p.2 = X.env.qual ++ "<lambda>") (hr : Room (k + 2) X.A) (L : LamX.LamS X.env.scope scope) (hdef : defaultsOf params X.env = ([], []))
    (hbind : ∀ (q : Str) (cl : List (Str × Addr)) (pm cv ctv : Value), bindArgs (PySem.W.kla_fn "<lambda>" q params body scope cl pm cv ctv) ⟨[], []⟩ = pure [])
    (hbody : ∀ (A : Around) (outer : List PySem.Env) (s : Shared) (H : Hp) (E : XK) (f c' : Addr), Room k (A.deeper (LamX.lamEnv X scope s.heap.objs.size f c')) → PE (lamCxN X A outer s H E scope f c') body (t E))
    (hdb : (x == ("__debug__" : Str)) = false := by decide) (hd : (a == ("__debug__" : Str)) = false := by decide) (hcd : (a == ("__classdict__" : Str)) = false := by decide) :
    PE X (.Call (.Name x p) [.Lambda params body scope lpos] [] pos) (tLamN T TT t) := by
  refine ⟨fun pins s σ H Q I h => ?_⟩
  obtain ⟨hT, h⟩ := h
  refine wpAny_Call_Name_kw (ld_glob I hg hm ?_ hdb)
  refine PySem.W.callWith_K (h₀ := X.base) I.ok.mod.kin hk ?_ (by rfl) (by rfl)
  show wpAny _ _ (spliced ((false, eval (.Lambda params body scope lpos) X.env) :: backTo pos (starEach [] X.env))) _ _ s
  refine Calls.spliced_cons (LamX.lam_make2 I TB hcode hmT hu hT hdef (L.has I.ok) fun f c' pm' ctv H1 s' I1 eN T1 hf hfn hfr hco => ?_)
  refine Calls.spliced_nil ⟨I1.kIn, ?_⟩
  have rc : codeAny (model X.prog X.w) X.A (.call (.ref g) ⟨[.ref f], []⟩) (CR C8.CX0 X.stack X.prog X.w H1 s' Q C8.E0) s' := by
    refine LamX.run_ofS (N := Ng) (ps := [a]) (us := [.ref f]) (vs := [.ref f]) lk hcg Sg hr I1.env0 (hb s' [.ref f] I1.kIn rfl) (.cons rfl .nil) rfl fun hr' => ?_
    obtain ⟨t', ht', hq'⟩ := hG f c' s' H1 Q (fun E H' Q' => t E σ H' Q') (fun W pn xe E p1 p2 tk hW => pe_actN (i := 0) I1 L hf hfn hfr (hbind _ _ _ _ _) tk hW hr' (fun A outer s H hr2 => hbody A outer s H E f c' hr2) hNg hva hd hcd) hco (h H1 eN T1)
    exact ⟨t', ht'.nox, hq'⟩
  refine wpAny_call (codeAny_mono rc fun r s2 hq => ?_)
  cases r with
  | error e => exact (show False from hq).elim
  | ok fl =>
    cases fl with
    | ret u => exact I1.after hq
    | next => exact False.elim hq
    | brk => exact False.elim hq
    | cont => exact False.elim hq
end
end Hb

/-! The def that calls what it is handed, in a try with three clauses. -/
namespace Hb
open PySem PySem.Spec PyProof.Rows L2 HotX L2H

def kinLab : Str := "row stream guest kinds lot number paper index impossible unlike undo many text +"
/-- a class without a field: its words, and how the clauses take it -/
structure PlainE (Γ : Gm) (cls : Value) (w : Str) : Prop where
  ex : ∃ (D : Addr) (bs : List Bool) (CT CM CH : Addr), cls = .ref D ∧ KinC Γ D bs ∧ kinB bs kinLab " " = true ∧ kinS bs kinLab " " = w ∧ Γ.mg ("InvalidText" : Str) = some (.ref CT) ∧ Γ.mg ("TooMany" : Str) = some (.ref CM) ∧ Γ.mg ("HabitError" : Str) = some (.ref CH) ∧
    PySem.W.exmOne Γ.K cls (.ref CT) = some false ∧ PySem.W.exmOne Γ.K cls (.ref CM) = some false ∧ PySem.W.exmOne Γ.K cls (.ref CH) = some true
def spKin (p : Addr × Obj) (wd : Str) : Sp := fun vs H Q _ => vs = [.ref p.1] ∧ ∀ H', Same H H' → Q (.str wd) H'
structure KinF (Γ : Gm) (P : Program) (w : World) (base : Heap) : Prop where
  ex : ∃ (f : Addr) (fd : FuncData), Γ.mg ("_law_kin" : Str) = some (.ref f) ∧ PySem.W.keepIn Γ.K (.ref f) = true ∧ L2.Binds Γ.K fd [("e" : Str)] [] ∧
    ∀ (D : Addr) (bs : List Bool) (p : Addr × Obj), KinC Γ D bs → kinB bs kinLab " " = true → Zc (.ref D) none p.2 → (∃ vs, p.2.data = .fields vs) → FnP P w Γ.K Γ.mg base C8.CX0 1 f fd [("e" : Str)] p (spKin p (kinS bs kinLab " "))
  bl : ∀ x ∈ bnames, Γ.mg x = none
section
variable {Γ : Gm}
def tSu (Γ : Gm) : SuT := fun a cls d => fun D σ H => ∃ w, PlainE Γ cls w ∧ d = none ∧ σ[2]? = some (some (.ref a)) ∧ ∀ H', Same H H' → D.nx (σ.set 1 (some (.str w))) H'
def tNo : SuT := fun _ _ _ => fun _ _ _ => False
theorem pss_no {X : Cx} {l : List Stmt} {a : Addr} {c : Value} {d : Option Addr} : PSs X l (tNo a c d) := ⟨fun _ _ _ _ _ _ h => h.elim⟩
theorem pss_su {X : Cx} (hK : X.K = Γ.K) (hm : X.mg = Γ.mg) (kf : KinF Γ X.prog X.w X.base) (hr : Room 1 X.A) {a : Addr} {oe : Obj} {cls : Value} {d : Option Addr} {pn : List (Addr × Obj)} {fo e : Str} {q1 q2 q3 q4 q5 : Pos} (hz : L2N.Zn cls d oe) (hf : ∃ vs, oe.data = .fields vs)
    (hN : X.N.Nodup) (i1 : X.N[1]? = some fo) (i2 : X.N[2]? = some e) (l1 : X.env.scope.names.lookup fo = some .local) (l2 : X.env.scope.names.lookup e = some .local) (hd : (e == ("__debug__" : Str)) = false) (hc : (e == ("__classdict__" : Str)) = false) (gk : Gl X ("_law_kin" : Str)) :
    PSs (X.suite a ((a, oe) :: pn)) [.Assign [.Name fo q1] (.Call (.Name ("_law_kin" : Str) q2) [.Name e q3] [] q4) q5] (tSu Γ a cls d) := by
  refine ⟨fun pins s σ H Dn I hh => ?_⟩
  obtain ⟨w, ⟨D, bs, CT, CM, CH, rfl, kc, kb, rfl, _⟩, rfl, h2, h3⟩ := hh
  obtain ⟨f, fd, m1, m2, m3, m4⟩ := kf.ex
  have hot : Hot1 (X.suite a ((a, oe) :: pn)).A (a, oe) := by
    obtain ⟨vs, hv⟩ := hf
    exact ⟨rfl, vs, hv, hz.2.2 vs hv⟩
  have hrh : RoomH 1 (X.suite a ((a, oe) :: pn)).A := ⟨hr.dp, hr.un⟩
  have F := m4 D bs (a, oe) kc kb hz.zc hf
  rw [← hK, ← hm] at F
  rw [← hK] at m2 m3
  rw [← hm] at m1
  have pc := pe_callP (X := X.suite a ((a, oe) :: pn)) (q := q2) (pos := q4) F hrh hot List.mem_cons_self gk m1 m2 m3 (fun _ _ _ _ z => z) (pa_cons (pe_var (pos := q3) i2 (.inl l2) hd hc) pa_nil rfl) (by decide) rfl rfl
  have st := pss_one (ps_set (X := X.suite a ((a, oe) :: pn)) (pos := q5) (pos' := q1) hN i1 (.inl l1) pc rfl (.inr l1))
  exact st.run pins s σ H Dn I ⟨_, h2, rfl, rfl, fun H' s' => h3 H' s'⟩
end
/-- what the def makes of the lambda's reading -/
def TTry (Γ : Gm) : (XK → Hp → VK → Prop) → Hp → VK → Prop := fun tl H Q =>
  tl (fun cls d H' => ∃ w, PlainE Γ cls w ∧ d = none ∧ ∀ H'', Same H' H'' → Q (.str w) H'') H (fun v H' => [V.str ("told" : Str), v].length ≤ sizeLine ∧ ∀ p o, H' p = none → o.dict = none → ∃ z, some (some (V.ref p)) = some (some z) ∧ Q z (upd H' p (.frz o (.tup [.str ("told" : Str), v]))))
theorem takes_len {X : Cx} {W : WX} (t : L2N.Takes X W) : L2N.Takes X (fun c d σ H => σ.length = X.N.length → W c d σ H) := fun u s' ⟨a, B, sI, pins, σ, H, cls, d, e, I, nb, up, sky, na, os, ag, w⟩ =>
  t u s' ⟨a, B, sI, pins, σ, H, cls, d, e, I, nb, up, sky, na, os, ag, w I.len⟩
theorem takes_none {X : Cx} : L2N.Takes X (fun _ _ _ _ => False) := fun _ _ ⟨_, _, _, _, _, _, _, _, _, _, _, _, _, _, _, _, w⟩ => w.elim
def tryN : List Str := [("call_so" : Str), ("found" : Str), ("e" : Str)]
theorem try_gives {Γ : Gm} {X : Cx} {sg : Scope} {g : Addr} {cdg : Value} {q : Str} {k0 k1 : Nat} {p0 p1 p2 p3 p4 p5 p6 p7 p8 p9 p10 p11 p12 p13 p14 p15 p16 p17 p18 p19 p20 p21 p22 : Pos} {su1 su2 : List Stmt} {s1 s2 : Stmt} {j1 : Nat}
    (hK : X.K = Γ.K) (hm : X.mg = Γ.mg) (kf : KinF Γ X.prog X.w X.base) (hr : Room 2 X.A) (S : FnScope tryN [("call_so" : Str)] sg) (l0 : sg.names.lookup ("call_so" : Str) = some .local) (l1 : sg.names.lookup ("found" : Str) = some .local) (l2 : sg.names.lookup ("e" : Str) = some .local)
    (g1 : sg.names.lookup ("InvalidText" : Str) = some .globalImplicit) (g2 : sg.names.lookup ("TooMany" : Str) = some .globalImplicit) (g3 : sg.names.lookup ("HabitError" : Str) = some .globalImplicit) (g4 : sg.names.lookup ("_law_kin" : Str) = some .globalImplicit)
    (m1 : ∃ C, Γ.mg ("InvalidText" : Str) = some (.ref C)) (m2 : ∃ C, Γ.mg ("TooMany" : Str) = some (.ref C)) (m3 : ∃ C, Γ.mg ("HabitError" : Str) = some (.ref C)) :
    GivesN X tryN ("_law_try" : Str) sg g cdg [.Assign [.Name ("found" : Str) p0] (.Constant .none k0 p1) p2,
      .Try [.Assign [.Name ("found" : Str) p3] (.Tuple [.Constant (.str ("told" : Str)) j1 p4, .Call (.Name ("call_so" : Str) p5) [] [] p6] k1 p7) p8]
        [.ExceptHandler (some (.Name ("InvalidText" : Str) p9)) (some ("e" : Str)) (s1 :: su1) p10, .ExceptHandler (some (.Name ("TooMany" : Str) p11)) (some ("e" : Str)) (s2 :: su2) p12,
          .ExceptHandler (some (.Name ("HabitError" : Str) p13)) (some ("e" : Str)) [.Assign [.Name ("found" : Str) p14] (.Call (.Name ("_law_kin" : Str) p15) [.Name ("e" : Str) p16] [] p17) p18] p19] [] [] p20,
      .Return (some (.Name ("found" : Str) p21)) p22] ("call_so" : Str) q (TTry Γ) := by
  obtain ⟨CT, m1⟩ := m1
  obtain ⟨CM, m2⟩ := m2
  obtain ⟨CH, m3⟩ := m3
  intro f c' s H Q tl act hc h
  generalize hX : (cxOf C8.CX0 X.prog X.w X.K X.mg X.base tryN ("_law_try" : Str) sg g cdg X.A X.stack s H C8.E0).nox = Y
  have hr1 : Room 1 Y.A := by subst hX; exact hr.deeper _
  have yN : Y.N = tryN := by subst hX; rfl
  have ysc : Y.env.scope = sg := by subst hX; rfl
  have yK : Y.K = Γ.K := by subst hX; exact hK
  have ym : Y.mg = Γ.mg := by subst hX; exact hm
  have ykf : KinF Γ Y.prog Y.w Y.base := by subst hX; exact kf
  have nd : Y.N.Nodup := by rw [yN]; exact S.nd
  have n1 : Y.N[1]? = some ("found" : Str) := by rw [yN]; rfl
  have n2 : Y.N[2]? = some ("e" : Str) := by rw [yN]; rfl
  have yl1 : Y.env.scope.names.lookup ("found" : Str) = some .local := by rw [ysc]; exact l1
  have yl2 : Y.env.scope.names.lookup ("e" : Str) = some .local := by rw [ysc]; exact l2
  have gg : ∀ {x : Str}, sg.names.lookup x = some .globalImplicit → Gl Y x := fun e => by
    show Y.env.scope.names.lookup _ = _
    rw [ysc]
    exact e
  have ystk : Y.stack = Y.env :: Y.outer := by subst hX; rfl
  have yfr : Y.env.frame = some Y.env.locals := by subst hX; rfl
  have yk : Y.env.kindOf ("e" : Str) = some .local := yl2
  let tb : WX → TS := fun W D σ H => ∃ Ech : XK, (∀ cls d σ' H', σ'.length = 3 → Ech cls d H' → W cls d σ' H') ∧ σ[0]? = some (some (.ref f)) ∧ H c' = some (LamX.CodeO c' q) ∧ tl Ech H fun v H1 => [V.str ("told" : Str), v].length ≤ sizeLine ∧ ∀ p o, H1 p = none → o.dict = none → D.nx (σ.set 1 (some (.ref p))) (upd H1 p (.frz o (.tup [.str ("told" : Str), v])))
  have body : ∀ (W : WX) (pn : List (Addr × Obj)) (xe : Value → Shared → Prop), L2N.Takes (Y.tr pn xe) W → PassesOwn (model Y.prog Y.w) Y.A Y.env xe → PSs (Y.tr pn xe) [.Assign [.Name ("found" : Str) p3] (.Tuple [.Constant (.str ("told" : Str)) j1 p4, .Call (.Name ("call_so" : Str) p5) [] [] p6] k1 p7) p8] (tb W) := by
    intro W pn xe tk _
    refine ⟨fun pins s' σ H' D I h' => ?_⟩
    obtain ⟨Ech, hW, h1, h2, h3⟩ := h'
    have tk2 := takes_len tk
    have hp : PE (Y.tr pn xe) (.Call (.Name ("call_so" : Str) p5) [] [] p6) (fun σZ HZ Q => σZ[0]? = some (some (.ref f)) ∧ HZ c' = some (LamX.CodeO c' q) ∧ tl Ech HZ Q) := by
      subst hX
      exact act _ pn xe Ech p5 p6 tk2 fun cls d σ' H' e hl => hW cls d σ' H' hl e
    have st := pss_one (ps_set (X := Y.tr pn xe) (pos := p8) (pos' := p3) nd n1 (.inl yl1) (pe_tupC (x1 := k1) (pos := p7) (pa_cons (pe_str (x := ("told" : Str)) (pos := p4) (j := j1)) (pa_cons hp pa_nil rfl) rfl)) rfl (.inr yl1))
    exact st.run pins s' σ H' D I ⟨h1, h2, h3⟩
  have hds : HdsA Y ("e" : Str) [.ExceptHandler (some (.Name ("InvalidText" : Str) p9)) (some ("e" : Str)) (s1 :: su1) p10, .ExceptHandler (some (.Name ("TooMany" : Str) p11)) (some ("e" : Str)) (s2 :: su2) p12,
      .ExceptHandler (some (.Name ("HabitError" : Str) p13)) (some ("e" : Str)) [.Assign [.Name ("found" : Str) p14] (.Call (.Name ("_law_kin" : Str) p15) [.Name ("e" : Str) p16] [] p17) p18] p19] [(.ref CT, tNo), (.ref CM, tNo), (.ref CH, tSu Γ)] :=
    .cons ⟨gg g1, by decide, .inl (by rw [ym]; exact m1)⟩ (fun a oe cls d pn hz hf => pss_no) (.cons ⟨gg g2, by decide, .inl (by rw [ym]; exact m2)⟩ (fun a oe cls d pn hz hf => pss_no)
      (.cons ⟨gg g3, by decide, .inl (by rw [ym]; exact m3)⟩ (fun a oe cls d pn hz hf => pss_su yK ym ykf hr1 hz hf nd n1 n2 yl1 yl2 (by decide) (by decide) (gg g4)) .nil))
  have st : PSs Y _ _ := pss_cons (ps_set (pos := p2) (pos' := p0) nd n1 (.inl yl1) (pe_non (j := k0) (pos := p1)) rfl (.inr yl1)) (pss_cons (ps_try_manyA (pos := p20) (i := 2) ystk yfr nd n2 yk takes_none body hds) (pss_one (ps_ret (pos := p22) (pe_var (pos := p21) n1 (.inl yl1) (by decide) (by decide)))))
  refine ⟨_, st, ?_⟩
  have h0 : L2.start tryN [V.ref f] = [some (.ref f), none, none] := rfl
  rw [h0]
  refine ⟨fun cls d H' => ∃ w, PlainE Γ cls w ∧ d = none ∧ ∀ H'', Same H' H'' → Q (.str w) H'', fun cls d σ' H' hl ⟨w, pe, hd, hq⟩ => ?_, rfl, hc, ?_⟩
  · obtain ⟨D, bs, CT', CM', CH', e1, kc, kb, ks, n1', n2', n3', x1, x2, x3⟩ := id pe.ex
    rw [m1] at n1'; cases n1'
    rw [m2] at n2'; cases n2'
    rw [m3] at n3'; cases n3'
    rw [yK]
    refine ⟨false, x1, fun z => (Bool.noConfusion z), fun _ => ⟨false, x2, fun z => (Bool.noConfusion z), fun _ => ⟨true, x3, fun _ a na => ?_, fun z => Bool.noConfusion z⟩⟩⟩
    refine ⟨w, pe, hd, by rw [List.getElem?_set]; simp [hl], fun H'' s'' => ⟨.str w, ?_, hq H'' s''⟩⟩
    simp [List.getElem?_set, hl]
  · exact h
/-- the def of the try, as the module holds it -/
structure TryF (Γ : Gm) (P : Program) (w : World) (base : Heap) : Prop where
  ex : ∃ (g : Addr) (pg : Arguments) (bg : List Stmt) (sg : Scope) (dV kV doc pm cdv ct oc : Value) (an od : Option Addr) (osl : Array (Option Value)), Γ.mg ("_law_try" : Str) = some (.ref g) ∧ PySem.W.keepIn Γ.K (.ref g) = true ∧
    Γ.K.lookup g = some ⟨oc, od, .func (PySem.W.fnOf ("_law_try" : Str) ("_law_try" : Str) pg bg sg dV kV doc pm an cdv ct), osl⟩ ∧ PySem.W.codeIn Γ.K cdv ("_law_try" : Str) = true ∧ L2.Binds Γ.K (PySem.W.fnOf ("_law_try" : Str) ("_law_try" : Str) pg bg sg dV kV doc pm an cdv ct) [("call_so" : Str)] [] ∧
    FnScope tryN [("call_so" : Str)] sg ∧ Vis sg ("call_so" : Str) ∧ ∀ (X : Cx) (q : Str), X.K = Γ.K → X.mg = Γ.mg → X.prog = P → X.w = w → X.base = base → Room 2 X.A → GivesN X tryN ("_law_try" : Str) sg g cdv bg ("call_so" : Str) q (TTry Γ)
end Hb

/-! zip of three lists. -/
namespace Hb
open PySem PySem.Spec PyProof.Rows L2

def Itz3 (K : PySem.W.Frag) (a b c : Addr) : It :=
  ⟨fun i H => ∃ (xs ys zs : List V), SqL K H a xs ∧ SqL K H b ys ∧ SqL K H c zs ∧ i < xs.length ∧ i < ys.length ∧ i < zs.length,
    fun i H v H' => ∃ T x y z, v = .ref T ∧ H T = none ∧ H' = upd H T (.tup [x, y, z]) ∧ (∀ xs, SqL K H a xs → xs[i]? = some x) ∧ (∀ ys, SqL K H b ys → ys[i]? = some y) ∧ ∀ zs, SqL K H c zs → zs[i]? = some z,
    fun i H => ∃ xs ys zs : List V, SqL K H a xs ∧ SqL K H b ys ∧ SqL K H c zs ∧ i = min (min xs.length ys.length) zs.length⟩
theorem turn_zip3 {P : Program} {w : World} {K : PySem.W.Frag} {elts : List Expr} {kk : Nat} {tpos : Pos} {a b c z TI TO i1 i2 i3 : Addr} (S : ZipSep3 z TI TO i1 i2 i3 [i1, a] [i2, b] [i3, c]) (na : a ≠ i1) (nb : b ≠ i2) (nc : c ≠ i3) :
    Turn P w K (.Tuple elts kk tpos) (Itz3 K a b c) [z, TI, TO, i1, i2, i3] z (fun i h => IsZip h z TI TO .none ∧ IsTupOf3 h TI (.ref i1) (.ref i2) (.ref i3) ∧ (∃ x y u, IsTupOf3 h TO x y u) ∧ h.IsListIter i1 a i ∧ h.IsListIter i2 b i ∧ h.IsListIter i3 c i) where
  mem := by simp
  obj := fun i h st d hd => by
    obtain ⟨hz, hTI, ⟨x, y, u, hTO⟩, ⟨o1, e1, _, d1⟩, ⟨o2, e2, _, d2⟩, ⟨o3, e3, _, d3⟩⟩ := st
    have e' : d = z ∨ d = TI ∨ d = TO ∨ d = i1 ∨ d = i2 ∨ d = i3 := by simpa using hd
    rcases e' with q | q | q | q | q | q
    · rw [q]; exact ⟨_, hz, fun v q => nomatch q⟩
    · rw [q]; exact ⟨_, hTI, fun v q => nomatch q⟩
    · rw [q]; exact ⟨_, hTO, fun v q => nomatch q⟩
    · rw [q]; exact ⟨o1, e1, fun v q => by rw [d1] at q; cases q⟩
    · rw [q]; exact ⟨o2, e2, fun v q => by rw [d2] at q; cases q⟩
    · rw [q]; exact ⟨o3, e3, fun v q => by rw [d3] at q; cases q⟩
  keep := fun i h h' st k => by
    obtain ⟨hz, hTI, ⟨x, y, u, hTO⟩, h1, h2, h3⟩ := st
    exact ⟨k z (by simp) _ hz, k TI (by simp) _ hTI, ⟨x, y, u, k TO (by simp) _ hTO⟩, h1.at fun o q => k i1 (by simp) o q, h2.at fun o q => k i2 (by simp) o q, h3.at fun o q => k i3 (by simp) o q⟩
  item := by
    intro X hP hw hK hc i pins s σ H E I hf st hg
    subst hP hw hK
    obtain ⟨hz, hTI, hTO, h1, h2, h3⟩ := st
    obtain ⟨xs, ys, zs, hqx, hqy, hqz, l1, l2, l3⟩ := hg
    obtain ⟨its, rv, p, _⟩ := I.list hqx
    obtain ⟨its2, rv2, p2, _⟩ := I.list hqy
    obtain ⟨its3, rv3, p3, _⟩ := I.list hqz
    have n1 := rv.length
    have n2 := rv2.length
    have n3 := rv3.length
    have hd := I.ok.hd hc
    have W := GoesN.zip3 (prog := X.prog) (w := X.w) (A := X.A) (elts := elts) (x1 := kk) (pos := tpos) S (Draws.list (A := X.A.in1) hd i1 a na its.toArray) (Draws.list (A := X.A.in1) hd i2 b nb its2.toArray) (Draws.list (A := X.A.in1) hd i3 c nc its3.toArray)
    refine W.goes i s _ E (by simp; omega) ⟨hz, hTI, hTO, ⟨h1, p.isList⟩, ⟨h2, p2.isList⟩, ⟨h3, p3.isList⟩⟩ ?_
    rintro v h' tk ⟨T, x, y, u, rfl, hT, hx, hy, hu, hTT⟩ ⟨z', TI', TO', ⟨s1, _⟩, ⟨s2, _⟩, ⟨s3, _⟩⟩ hk htk
    obtain ⟨x', ex, rx⟩ := rv.get (List.getElem?_eq_getElem l1)
    obtain ⟨y', ey, ry⟩ := rv2.get (List.getElem?_eq_getElem l2)
    obtain ⟨u', eu, ru⟩ := rv3.get (List.getElem?_eq_getElem l3)
    have hx : its[i]? = some x := by simpa using hx
    have hy : its2[i]? = some y := by simpa using hy
    have hu : its3[i]? = some u := by simpa using hu
    rw [hx] at ex; cases ex
    rw [hy] at ey; cases ey
    rw [hu] at eu; cases eu
    have new : ObjOk X.prog X.w (upd H T (.tup [xs[i], ys[i], zs[i]])) h' T (.tup [xs[i], ys[i], zs[i]]) :=
      ⟨by show 3 ≤ sizeLine; decide, [x, y, u], .cons rx (.cons ry (.cons ru .nil)), hTT⟩
    have sub : ∀ d ∈ [z, TO, i1, i2, i3], d ∈ [z, TI, TO, i1, i2, i3] := by simp
    have I1 : Inv X pins σ (upd H T (.tup [xs[i], ys[i], zs[i]])) { s with heap := h', toks := tk } :=
      I.turnedNew (t' := tk) (ch := [z, TI, TO, i1, i2, i3]) (fun d o hb q => hk d o (fun q' => hb (sub d q')) q) hf hT new
    refine ⟨.ref T, _, I1, rfl, ⟨T, _, _, _, rfl, I.hok.fresh hT, rfl, fun l hl => by rw [I.list_inj hl hqx]; exact List.getElem?_eq_getElem l1, fun l hl => by rw [I.list_inj hl hqy]; exact List.getElem?_eq_getElem l2, fun l hl => by rw [I.list_inj hl hqz]; exact List.getElem?_eq_getElem l3⟩, ⟨z', TI', TO', s1, s2, s3⟩, fun d hd => ?_⟩
    have hlt : d < s.heap.objs.size := by
      have e' : d = z ∨ d = TI ∨ d = TO ∨ d = i1 ∨ d = i2 ∨ d = i3 := by simpa using hd
      rcases e' with q | q | q | q | q | q
      · rw [q]; exact Heap.lt_size hz
      · rw [q]; exact Heap.lt_size hTI
      · rw [q]; obtain ⟨_, _, _, e⟩ := hTO; exact Heap.lt_size e
      · rw [q]; obtain ⟨_, e1, _⟩ := h1; exact Heap.lt_size e1
      · rw [q]; obtain ⟨_, e1, _⟩ := h2; exact Heap.lt_size e1
      · rw [q]; obtain ⟨_, e1, _⟩ := h3; exact Heap.lt_size e1
    rw [upd_ne (Nat.ne_of_lt (Nat.lt_of_lt_of_le hlt hT))]
    exact (hf d hd).1
  done := by
    intro X hP hw hK hc i pins s σ H E I hf st hg
    subst hP hw hK
    obtain ⟨hz, hTI, hTO, h1, h2, h3⟩ := st
    obtain ⟨xs, ys, zs, hqx, hqy, hqz, rfl⟩ := hg
    obtain ⟨its, rv, p, _⟩ := I.list hqx
    obtain ⟨its2, rv2, p2, _⟩ := I.list hqy
    obtain ⟨its3, rv3, p3, _⟩ := I.list hqz
    have n1 := rv.length
    have n2 := rv2.length
    have n3 := rv3.length
    have hd := I.ok.hd hc
    have W := GoesN.zip3 (prog := X.prog) (w := X.w) (A := X.A) (elts := elts) (x1 := kk) (pos := tpos) S (Draws.list (A := X.A.in1) hd i1 a na its.toArray) (Draws.list (A := X.A.in1) hd i2 b nb its2.toArray) (Draws.list (A := X.A.in1) hd i3 c nc its3.toArray)
    have en : min (min its.toArray.size its2.toArray.size) its3.toArray.size = min (min xs.length ys.length) zs.length := by simp [n1, n2, n3]
    rw [en] at W
    have sub : ∀ d ∈ [z, TO, i1, i2, i3], d ∈ [z, TI, TO, i1, i2, i3] := by simp
    exact W.stops s _ E ⟨hz, hTI, hTO, ⟨h1, p.isList⟩, ⟨h2, p2.isList⟩, ⟨h3, p3.isList⟩⟩ fun h' tk hk _ => I.turnedL (t' := tk) (ch := [z, TI, TO, i1, i2, i3]) (fun d o hb q => hk d o (fun q' => hb (sub d q')) q) hf
  self := fun A i s Q E st h => wpAny_pyIter_zip st.1 h
theorem sep3 (n a b c : Nat) (la : a < n) (lb : b < n) (lc : c < n) : ZipSep3 (n + 5) (n + 3) (n + 4) n (n + 1) (n + 2) [n, a] [n + 1, b] [n + 2, c] := by
  have ne : ∀ {x y : Nat}, x ≠ y → (x : Addr) ≠ y := fun h => h
  have nm : ∀ {x y z : Nat}, x ≠ y → x ≠ z → (x : Addr) ∉ [(y : Addr), z] := fun h1 h2 h => by
    rcases List.mem_cons.mp h with e | h
    · exact h1 e
    · rcases List.mem_cons.mp h with e | h
      · exact h2 e
      · cases h
  exact ⟨ne (by omega), ne (by omega), ne (by omega), ne (by omega), List.mem_cons_self, nm (by omega) (by omega), nm (by omega) (by omega), ne (by omega), List.mem_cons_self, nm (by omega) (by omega), nm (by omega) (by omega), ne (by omega), List.mem_cons_self, nm (by omega) (by omega), nm (by omega) (by omega),
    nm (by omega) (by omega), nm (by omega) (by omega), nm (by omega) (by omega), nm (by omega) (by omega), nm (by omega) (by omega), nm (by omega) (by omega)⟩
def iZip3 (K : PySem.W.Frag) (ta : TA) : TI := fun σ H R => ta σ H fun vs H1 => ∃ a b c xs ys zs, vs = [.ref a, .ref b, .ref c] ∧ SqL K H1 a xs ∧ SqL K H1 b ys ∧ SqL K H1 c zs ∧ R (Itz3 K a b c) H1
theorem pi_zip3 {X : Cx} {e e2 e3 : Expr} {ta : TA} {p pos tpos : Pos} {elts : List Expr} {kk : Nat} (hg : Gl X "zip") (hm : X.mg "zip" = none) (ha : PA X [e, e2, e3] ta)
    (hs : starEach [e, e2, e3] X.env = (false, eval e X.env) :: starEach [e2, e3] X.env := by rfl) (hpl : (backTo pos (starEach [e2, e3] X.env)).any (·.1) = false := by rfl) :
    PI X (.Tuple elts kk tpos) (.Call (.Name "zip" p) [e, e2, e3] [] pos) (iZip3 X.K ta) := by
  refine ⟨fun pins s σ H R I h => ?_⟩
  refine Call_ (ld_blt I hg hm PyProof.Rows.boot_zip (PyProof.Rows.callWith_type1 (thn (ha.run pos pins s σ H _ I h) fun us s1 ⟨vs, H1, I1, r1, q1⟩ => ?_) hs hpl))
  obtain ⟨a, b, c, xs, ys, zs, ex, hqx, hqy, hqz, q⟩ := q1
  subst ex
  cases r1 with
  | cons r rr =>
    cases rr with
    | cons r' rr =>
      cases rr with
      | cons r'' rr =>
        cases rr
        cases r
        cases r'
        cases r''
        obtain ⟨its, rv, p1, _⟩ := I1.list hqx
        obtain ⟨its2, rv2, p2, _⟩ := I1.list hqy
        obtain ⟨its3, rv3, p3, _⟩ := I1.list hqz
        have la : a < s1.heap.objs.size := p1.lt
        have lb : b < s1.heap.objs.size := p2.lt
        have lc : c < s1.heap.objs.size := p3.lt
        refine zip_begins3 (begins_list a its.toArray) (begins_list b its2.toArray) (begins_list c its3.toArray) p1.isList p2.isList p3.isList fun h' hz hTI hTO h1 h2 h3 hsz hk => wpAny_pyIter_zip hz ?_
        have I2 : Inv X pins σ H1 { s1 with heap := h' } := I1.kept (t' := s1.toks) hk
        refine ⟨s1.heap.objs.size + 5, [s1.heap.objs.size + 5, s1.heap.objs.size + 3, s1.heap.objs.size + 4, s1.heap.objs.size, s1.heap.objs.size + 1, s1.heap.objs.size + 2], _, _, H1, rfl, I2, turn_zip3 (a := a) (b := b) (c := c) (elts := elts) (kk := kk) (tpos := tpos) (sep3 _ a b c la lb lc) (Nat.ne_of_lt la) (Nat.ne_of_lt (Nat.lt_succ_of_lt lb)) (Nat.ne_of_lt (Nat.lt_succ_of_lt (Nat.lt_succ_of_lt lc))), ⟨hz, hTI, ⟨_, _, _, hTO⟩, ⟨_, h1, rfl, rfl⟩, ⟨_, h2, rfl, rfl⟩, ⟨_, h3, rfl, rfl⟩⟩, fun d hd => ?_, q⟩
        · have e' : d = s1.heap.objs.size + 5 ∨ d = s1.heap.objs.size + 3 ∨ d = s1.heap.objs.size + 4 ∨ d = s1.heap.objs.size ∨ d = s1.heap.objs.size + 1 ∨ d = s1.heap.objs.size + 2 := by simpa using hd
          have hle : s1.heap.objs.size ≤ d := by
            rcases e' with z | z | z | z | z | z <;> rw [z] <;> first | exact Nat.le_add_right _ _ | exact Nat.le_refl _
          exact I1.fpOk hle (I1.hok.fresh hle)
end Hb

/-! a list or a tuple, backwards. -/
namespace HT
open PySem PySem.Spec PySem.Calls PyProof.Rows
section
variable {prog : Program} {w : World} {A : Around} {E : Value → Shared → Prop} {s : Shared}
theorem adjust_rev (n : Nat) : Builtin.Slice.sliceAdjust none none (-1) (n : Int) = ((n : Int) - 1, -1) := by
  have h1 : (-1 : Int) < 0 := by omega
  unfold Builtin.Slice.sliceAdjust
  simp only [h1, if_true]
theorem places_rev (n : Nat) : Builtin.Slice.slicePlaces ((n : Int) - 1) (-1) (-1) = n := by
  unfold Builtin.Slice.slicePlaces
  have h1 : ¬ ((-1 : Int) > 0) := by omega
  simp only [h1, if_false]
  rw [show (-(-1) : Int) = 1 by decide, Int.ediv_one]
  split <;> omega
theorem sliceApplied_rev {sl : Addr} {vk : Value} {n : Nat} {Q : Int × Int × Nat → Shared → Prop} (hs : s.heap.IsSliceOf sl .none .none vk) (pk : IsPart vk (some (-1)))
    (h : Q ((n : Int) - 1, -1, n) s) : wpAny (model prog w) A (Builtin.Slice.sliceApplied (.ref sl) (pure (n : Int))) Q E s := by
  obtain ⟨os, hos, hcs, hds⟩ := id hs
  unfold Builtin.Slice.sliceApplied Builtin.Slice.sliceFields
  refine wpAny_bind (wpAny_bind (wpAny_field hos hds (x := .none) rfl (wpAny_bind (wpAny_field hos hds (x := .none) rfl (wpAny_bind (wpAny_field hos hds (x := vk) rfl (wpAny_pure ?_)))))))
  refine wpAny_bind (slicePart_ pk ?_)
  show wpAny _ _ (if ((-1 : Int) == 0) = true then _ else _) _ _ s
  rw [if_neg (by decide)]
  refine wpAny_bind (slicePart_none (wpAny_bind (slicePart_none (wpAny_bind (wpAny_pure ?_)))))
  show wpAny _ _ (match Builtin.Slice.sliceAdjust none none (-1) (n : Int) with | (lo, hi) => pure (lo, (-1 : Int), Builtin.Slice.slicePlaces lo hi (-1))) _ _ s
  rw [adjust_rev n]
  show wpAny _ _ (pure ((n : Int) - 1, (-1 : Int), Builtin.Slice.slicePlaces ((n : Int) - 1) (-1) (-1))) _ _ s
  rw [places_rev]
  exact wpAny_pure h
theorem pick_rev (xs : Array Value) : ((List.range xs.size).filterMap fun (m : Nat) => xs[((xs.size : Int) - 1 + (m : Int) * (-1)).toNat]?).toArray = xs.toList.reverse.toArray := by
  rw [← PySem.W.krv_pick]
  unfold slicePick
  rw [PySem.W.krv_bounds]
  show _ = ((sliceRange ((xs.size : Int) - 1) (-1) (-1)).filterMap (xs[·]?)).toArray
  rw [PySem.W.krv_sliceRange, List.filterMap_map]
  congr 1
  have g : ∀ l : List Nat, (∀ m ∈ l, m < xs.size) → l.filterMap (fun (m : Nat) => xs[((xs.size : Int) - 1 + (m : Int) * (-1)).toNat]?) = l.filterMap ((xs[·]?) ∘ fun k => xs.size - 1 - k) := by
    intro l hl
    induction l with
    | nil => rfl
    | cons m l ih =>
      have hm := hl m (.head _)
      have e : ((xs.size : Int) - 1 + (m : Int) * (-1)).toNat = xs.size - 1 - m := by omega
      rw [List.filterMap_cons, List.filterMap_cons, ih fun m h => hl m (.tail _ h), e]
      rfl
  exact g _ fun m hm => List.mem_range.mp hm
theorem getItem_tuple_rev {t sl : Addr} {items : Array Value} {vk : Value} {Q : Value → Shared → Prop} (ht : IsTup s.heap t items) (hs : s.heap.IsSliceOf sl .none .none vk) (pk : IsPart vk (some (-1)))
    (h : Q (.ref s.heap.objs.size) { s with heap := s.heap.push { cls := .type "tuple", data := .seq items.toList.reverse.toArray } })
    (hsz : items.size ≤ sizeLine) : wpAny (model prog w) A (getItem (.ref t) (.ref sl)) Q E s := by
  have htake : sizeOk (.seq items.toList.reverse.toArray) := by
    show items.toList.reverse.toArray.size ≤ sizeLine
    rw [List.size_toArray, List.length_reverse, Array.length_toList]
    omega
  obtain ⟨os, hos, hcs, hds⟩ := id hs
  have hTs : s.TypeIs (.ref sl) "slice" := ⟨os, hos, hcs⟩
  unfold getItem
  try with_reducible refine wpAny_holding ?_
  first | refine wpAny_bind (wpAny_pure ?_) | skip
  refine wpAny_bind (wpAny_sequenceKey ht.typeIs (by decide) ?_)
  refine wpAny_bind (wpAny_callSpecial?_slot (name := Str.ofString "__getitem__") ht.typeIs PyProof.Rows.slot_tuple_getitem
    (wpAny_call_entry PyProof.Rows.slot_tuple_getitem ht.typeIs entry_tuple_getitem ?_ (args_tuple_getitem _ _)))
  show wpAny _ _ (Builtin.Tuple.tupleItemsOf (.ref t) >>= _) _ _ s
  refine wpAny_bind (tupleItemsOf_ ht ?_)
  refine wpAny_bind (wpAny_typeOf hTs ?_)
  rw [if_pos (by decide)]
  refine wpAny_bind (sliceApplied_rev hs pk ?_)
  have hno : ¬ ((((items.size : Int) - 1) == 0 && (-1 : Int) == 1 && items.size == items.size) = true) := by
    intro q
    rw [Bool.and_eq_true, Bool.and_eq_true] at q
    exact absurd q.1.2 (by decide)
  show wpAny _ _ (if (((items.size : Int) - 1) == 0 && (-1 : Int) == 1 && items.size == items.size) = true then _ else _) _ _ s
  rw [if_neg hno, pick_rev]
  first
    | exact wpAny_bind (m := Builtin.Tuple.tupleExact _) (wpAny_newObj_type (wpAny_pure ⟨_, rfl, wpAny_pure h⟩) htake)
    | exact wpAny_bind (m := Builtin.Tuple.tupleExact _) (wpAny_newObj_type (wpAny_bind (wpAny_pure (wpAny_pure ⟨_, rfl, wpAny_pure h⟩))) htake)
    | exact wpAny_bind (wpAny_bind (m := Builtin.Tuple.tupleExact _) (wpAny_newObj_type (wpAny_pure (wpAny_pure ⟨_, rfl, wpAny_pure h⟩)) htake))
    | exact wpAny_bind (wpAny_bind (m := Builtin.Tuple.tupleExact _) (wpAny_newObj_type (wpAny_pure ⟨_, rfl, wpAny_pure h⟩) htake))
end
end HT
namespace Hb
open PySem PySem.Spec PyProof.Rows L2
def rRev (K : PySem.W.Frag) : V → Hp → VK → Prop := fun x H Q => (∃ a xs, x = .ref a ∧ SqL K H a xs ∧ ∀ p, H p = none → Q (.ref p) (upd H p (.lst xs.reverse))) ∨ ∃ a xs, x = .ref a ∧ SqT K H a xs ∧ ∀ p o, H p = none → o.dict = none → Q (.ref p) (upd H p (.frz o (.tup xs.reverse)))
def tRevA (K : PySem.W.Frag) (te : TE) : TE := fun σ H Q => te σ H fun x H1 => rRev K x H1 Q
theorem pe_revA {X : Cx} {te : TE} {e : Expr} {k : Nat} {p1 p2 p3 pos : Pos} (he : PE X e te) : PE X (.Subscript e (.Slice none none (some (.UnaryOp .USub (.Constant (.int 1) k p1) p2)) p3) pos) (tRevA X.K te) := by
  refine ⟨fun pins s σ H Q I h => ?_⟩
  refine Subscript_ (thn (he.run pins s σ H _ I h) fun v s1 ⟨x, H1, I1, r1, q1⟩ => ?_)
  have hst : PO X (some (.UnaryOp .USub (.Constant (.int 1) k p1) p2)) (tPart (tUn (rU fun i => .int (-i)) (tC (.int 1)))) := po_some (pe_un un_neg pe_int)
  refine wpAny_Slice (thn (po_none.run pins s1 σ H1 (fun o H2 => o = none ∧ H2 = H1) I1 ⟨rfl, rfl⟩) fun vl s2 ⟨l, H2, I2, pl, el, e2⟩ => ?_)
  subst el e2
  refine thn (po_none.run pins s2 σ H2 (fun o H3 => o = none ∧ H3 = H2) I2 ⟨rfl, rfl⟩) fun vu s3 ⟨u, H3, I3, pu, eu, e3⟩ => ?_
  subst eu e3
  refine thn (hst.run pins s3 σ H3 (fun o H4 => o = some (-1) ∧ H4 = H3) I3 ⟨1, rfl, -1, rfl, rfl, rfl⟩) fun vs s4 ⟨o, H4, I4, ps, eo, e4⟩ => ?_
  subst eo e4
  have I5 : Inv X pins σ H4 { s4 with heap := s4.heap.push { cls := .type "slice", data := .fields #[vl, vu, vs] } } := I4.kept (t' := s4.toks) fun b ob q => Heap.get?_push_of_some _ q
  rcases q1 with ⟨a, xs, ex, hx, q⟩ | ⟨a, xs, ex, hx, q⟩
  · subst ex
    cases r1
    obtain ⟨its, r, ht, hz⟩ := I5.list hx
    have hlen := r.length
    show wpAny (model X.prog X.w) X.A (subscriptTail e (.Slice none none (some (.UnaryOp .USub (.Constant (.int 1) k p1) p2)) p3) (.ref a) (.ref s4.heap.objs.size)) (EP X pins σ Q) X.xe { s4 with heap := s4.heap.push { cls := .type "slice", data := .fields #[vl, vu, vs] } }
    refine tail_any (ops := [.ref a, .ref s4.heap.objs.size]) ht.isList.typeIs (PySem.slot_list_getitem.lookup) ?_ (by with_unfolding_all rfl)
    refine wpAny_getItem_list_slice ht.isList (Heap.IsSliceOf.new _ vl vu vs) pl pu ps (by decide) ?_ (by rw [List.size_toArray]; omega)
    rw [PySem.W.krv_pick]
    refine ⟨.ref _, _, I5.laid (t' := s4.toks) (o := .lst xs.reverse) (fun b ob q => Heap.get?_push_of_some _ q) (Nat.le_refl _) ?_, rfl, q _ (I5.hok.fresh (Nat.le_refl _))⟩
    exact ⟨by rw [List.length_reverse]; exact hz, _, 0, r.reverse, Heap.get?_push_size _ rfl⟩
  · subst ex
    cases r1
    obtain ⟨its, r, ht, hz⟩ := I5.tuple hx
    have hlen := r.length
    show wpAny (model X.prog X.w) X.A (subscriptTail e (.Slice none none (some (.UnaryOp .USub (.Constant (.int 1) k p1) p2)) p3) (.ref a) (.ref s4.heap.objs.size)) (EP X pins σ Q) X.xe { s4 with heap := s4.heap.push { cls := .type "slice", data := .fields #[vl, vu, vs] } }
    refine tail_any (ops := [.ref a, .ref s4.heap.objs.size]) ht.typeIs (PyProof.Rows.slot_tuple_getitem.lookup) ?_ (by with_unfolding_all rfl)
    cases pl
    cases pu
    refine HT.getItem_tuple_rev ht (Heap.IsSliceOf.new _ .none .none vs) ps ?_ (by rw [List.size_toArray]; omega)
    exact ⟨.ref _, _, laidT (t' := s4.toks) I5 (fun b ob q => Heap.get?_push_of_some _ q) (Nat.le_refl _) (Heap.get?_push_size _ rfl) rfl rfl (by rw [List.length_reverse]; exact hz) r.reverse, rfl, q _ _ (I5.hok.fresh (Nat.le_refl _)) rfl⟩
end Hb

/-! Expressions: what they come to is what the machine does. -/
namespace Hb
open PySem PySem.Spec PyProof.Rows L2

abbrev wx (W : XK) : WX := fun c d _ H => W c d H
/-- what a lambda that is handed to the try asks of its maker -/
structure TrOk (Γ : Gm) (X : Cx) : Prop where
  tab : ∃ (c P : Addr), LamX.TabB X.base X.mg c P ∧ X.env.code = .ref c ∧ (P, X.env.qual ++ "<lambda>") ∈ Γ.T ∧ ∀ p ∈ Γ.T, p.1 = P → p.2 = X.env.qual ++ "<lambda>"
  tr : TryF Γ X.prog X.w X.base
/-- lambdas that were handed in, and defs that lambdas are handed to -/
structure CloK (Γ : Gm) (G : Prog) (h : Hd) (k : Nat) (C : Ctx) (W : XK) (X : Cx) : Prop where
  arc : C.clo = true → ∀ g n, G.arc g = some n → g ∈ C.fs ∧ C.ar g = n
  at_ : C.clo = true → ∀ f o, Γ.cl f = some o → ∀ pins σ H s, Inv X pins σ H s → PySem.W.FnAt f s.heap
  run : C.clo = true → ∀ f o, Γ.cl f = some o → ∀ pins σ H s, Inv X pins σ H s → H o.c = some (LamX.CodeO o.c o.q) → Reps Γ H o.ds o.ws → ∀ us vs Q, Vals vs us → spC Γ h o vs H Q W → wpAny (model X.prog X.w) X.A (call (.ref f) us) (EP X pins σ Q) X.xe s
  fnc : ∀ f ∈ C.cs, FOkC Γ X.prog X.w X.base C.clam k h f (C.ar f)
theorem CloK.no {Γ : Gm} {G : Prog} {h : Hd} {k : Nat} {C : Ctx} {W : XK} {X : Cx} (h1 : C.clo = false) (h2 : C.cs = []) : CloK Γ G h k C W X :=
  ⟨fun z => absurd (h1.symm.trans z) Bool.false_ne_true, fun z => absurd (h1.symm.trans z) Bool.false_ne_true, fun z => absurd (h1.symm.trans z) Bool.false_ne_true, fun f z => by rw [h2] at z; cases z⟩
structure XOk (Γ : Gm) (G : Prog) (h : Hd) (k : Nat) (C : Ctx) (W : XK) (X : Cx) : Prop where
  K : X.K = Γ.K
  mg : X.mg = Γ.mg
  gn : Γ.gnm = C.gn
  N : X.N = C.N
  nd : C.N.Nodup
  sc : X.env.scope = C.sc
  st : ∀ x, C.st x = true → X.fn x = true
  calm : X.calm = true
  tk : L2N.Takes X (wx W)
  room : Room k X.A
  room2 : C.lam = true → Room (k + 2) X.A
  bl : ∀ x ∈ bnames, Γ.mg x = none
  glb : ∀ g ∈ C.gs, ∃ u v, Γ.mg (C.gn g) = some u ∧ RelV v u ∧ ∀ H, Rep Γ H (G.glb g) v
  arr : C.hi = true → ∀ g n, G.ar g = some n → g ∈ C.fs ∧ C.ar g = n
  cl : CloK Γ G h k C W X
  fns : ∀ f ∈ C.fs, FOk Γ X.prog X.w X.base k h f (C.ar f)
  tr : C.lam = true → TrOk Γ X
  kin : ∀ c w b, G.kin c = some (w, b) → b = false ∧ ∃ cls, Γ.mg (Γ.gnm c) = some cls ∧ PlainE Γ cls w
section
variable {Γ : Gm} {G : Prog} {h : Hd} {k : Nat} {C : Ctx} {W : XK} {X : Cx}
theorem XOk.gl (o : XOk Γ G h k C W X) {x : Str} (e : glB C.sc x = true) : Gl X x := by
  show X.env.scope.names.lookup x = _
  rw [o.sc]
  exact glB_ok e
theorem XOk.mb (o : XOk Γ G h k C W X) {x : Str} (e : x ∈ bnames) : X.mg x = none := by
  rw [o.mg]
  exact o.bl x e
theorem XOk.u65 (o : XOk Γ G h k C W X) : X.A.units + 65 < cLine := by
  have := o.room.un
  omega
end
theorem boot_nm (b : B) : bootBuiltins (b.nm.1 : Str) = some b.nm.2 := by cases b <;> decide +kernel
theorem bnames_nm (b : B) : (b.nm.1 : Str) ∈ bnames := by cases b <;> decide +kernel
theorem nm_ne (b : B) : (b.nm.1 : Str) ≠ "__name__" ∧ ((b.nm.1 : Str) == ("__debug__" : Str)) = false := by cases b <;> decide +kernel
theorem boot_ty (t : Ty) : bootBuiltins (t.nm : Str) = some (.type t.nm) := by cases t <;> decide +kernel
theorem bnames_ty (t : Ty) : (t.nm : Str) ∈ bnames := by cases t <;> decide +kernel
theorem ty_ne (t : Ty) : (t.nm : Str) ≠ "__name__" ∧ ((t.nm : Str) == ("__debug__" : Str)) = false := by cases t <;> decide +kernel

/-! ### the equations -/
section
variable (G : Prog) (h : Hd) (env : Env) (S : Sto) (a b c e es : E)
theorem ev_cst (d : P) : ev G h (.cst d) env S = .ok (.p d) S := rfl
theorem ev_glb (g : Nat) : ev G h (.glb g) env S = .ok (.p (G.glb g)) S := rfl
theorem ev_op (o : O2) : ev G h (.op o a b) env S = (ev G h a env S).bind fun x S => (ev G h b env S).bind fun y S =>
    match rd S x, rd S y with
    | some x, some y => (Res.of (op2 o x y) S).bind fun d S => .ok (.p d) S
    | _, _ => .stk := rfl
theorem ev_neg : ev G h (.neg a) env S = (ev G h a env S).bind fun x S => match x with
    | .p (.int i) => .ok (.p (.int (-i))) S
    | _ => .stk := rfl
theorem ev_chain (o1 o2 : O2) : ev G h (.chain o1 o2 a b c) env S = (ev G h a env S).bind fun x S => (ev G h b env S).bind fun y S =>
    match x, y with
    | .p x, .p y => match arith o1 x y with
      | some (.bl true) => (ev G h c env S).bind fun z S => match z with
        | .p z => match arith o2 y z with
          | some (.bl r) => .ok (.p (.bl r)) S
          | _ => .stk
        | _ => .stk
      | some (.bl false) => .ok (.p (.bl false)) S
      | _ => .stk
    | _, _ => .stk := rfl
theorem ev_and : ev G h (.and es) env S = evAO G h true es env S := rfl
theorem ev_or : ev G h (.or es) env S = evAO G h false es env S := rfl
theorem ev_not : ev G h (.not a) env S = (ev G h a env S).bind fun x S => match x with
    | .p (.bl b) => .ok (.p (.bl (!b))) S
    | _ => .stk := rfl
theorem ev_ite : ev G h (.ite c a b) env S = (ev G h c env S).bind fun x S => match x with
    | .p (.bl true) => ev G h a env S
    | .p (.bl false) => ev G h b env S
    | _ => .stk := rfl
theorem ev_tup : ev G h (.tup es) env S = (evs G h es env S).bind fun vs S => match toPs vs with
    | some ds => if ds.length ≤ BIG then .ok (.p (.tup ds)) S else .stk
    | none => .stk := rfl
theorem ev_lst : ev G h (.lst es) env S = (evs G h es env S).bind fun vs S => match toPs vs with
    | some ds => if ds.length ≤ BIG then .ok (.p (.lst ds)) S else .stk
    | none => .stk := rfl
theorem ev_idx : ev G h (.idx a b) env S = (ev G h a env S).bind fun x S => (ev G h b env S).bind fun y S =>
    match rd S x, y with
    | some a, .p i => (Res.of (ix a i) S).bind fun d S => .ok (.p d) S
    | _, _ => .stk := rfl
theorem ev_slc (lo hi : E) : ev G h (.slc a lo hi) env S = (ev G h a env S).bind fun x S => (evO G h lo env S).bind fun l S => (evO G h hi env S).bind fun u S =>
    match rd S x with
    | some a => (Res.of (slc a l u) S).bind fun d S => .ok (.p d) S
    | none => .stk := rfl
theorem ev_call (f : Nat) : ev G h (.call f es) env S = (evs G h es env S).bind fun vs S => callV h (.p (.gl f)) vs S := rfl
theorem ev_bi (b : B) : ev G h (.bi b es) env S = (evs G h es env S).bind fun vs S => match rds S vs with
    | some ds => (Res.of (bi b ds) S).bind fun d S => .ok (.p d) S
    | none => .stk := rfl
theorem ev_isi (tys : List Ty) : ev G h (.isi a tys) env S = (ev G h a env S).bind fun x S => match rd S x with
    | some d => match tys.mapM (fun t => isTy t d) with
      | some bs => .ok (.p (.bl (bs.any id))) S
      | none => .stk
    | none => .stk := rfl
theorem ev_lc (t : T) (it c elt : E) (own : List Nat) : ev G h (.lc t it c elt own) env S = (evI G h it env S).bind fun xs S =>
    (lcGo (fun x S => match T.bind t x (wipeE env own) with
      | some e' => (ev G h c e' S).bind fun b S => match b with
        | .p (.bl true) => (ev G h elt e' S).bind fun v S => match v.toP with
          | some d => .ok (some d) S
          | none => .stk
        | .p (.bl false) => .ok none S
        | _ => .stk
      | none => .stk) xs [] S).bind fun ds S => if ds.length ≤ BIG then .ok (.p (.lst ds)) S else .stk := rfl
theorem evAO_one (k : Bool) : evAO G h k (.cons a .nil) env S = (ev G h a env S).bind fun x S => match x with
    | .p (.bl b) => .ok (.p (.bl b)) S
    | _ => .stk := by
  simp only [evAO]
  try congr 1
theorem evAO_cons (k : Bool) : evAO G h k (.cons a (.cons b c)) env S = (ev G h a env S).bind fun x S => match x with
    | .p (.bl b') => if b' = k then evAO G h k (.cons b c) env S else .ok (.p (.bl b')) S
    | _ => .stk := by
  rw [evAO]
  try congr 1
theorem evs_nil : evs G h .nil env S = .ok [] S := rfl
theorem evs_cons : evs G h (.cons a es) env S = (ev G h a env S).bind fun v S => (evs G h es env S).bind fun vs S => .ok (v :: vs) S := rfl
theorem evO_nil : evO G h .nil env S = .ok none S := rfl
theorem evO_pl : evO G h (.pl a) env S = (ev G h a env S).bind fun v S => match v with
    | .p (.int i) => .ok (some i) S
    | _ => .stk := rfl
theorem evI_pl : evI G h (.pl a) env S = (ev G h a env S).bind fun v S => match v with
    | .p d => Res.of (items d) S
    | _ => .stk := rfl
theorem evI_rng : evI G h (.rng a) env S = (ev G h a env S).bind fun v S => match v with
    | .p (.int j) => if -1000 ≤ j ∧ j ≤ BIG then .ok (rangeP 0 j.toNat) S else .stk
    | _ => .stk := rfl
theorem evI_enm : evI G h (.enm a) env S = (ev G h a env S).bind fun v S => match v with
    | .p d => (Res.of (items d) S).bind fun xs S => .ok (enumP 0 xs) S
    | _ => .stk := rfl
theorem evI_zip3 : evI G h (.zip3 a b c) env S = (ev G h a env S).bind fun v S => (ev G h b env S).bind fun w S => (ev G h c env S).bind fun u S => match v, w, u with
    | .p (.lst xs), .p (.lst ys), .p (.lst zs) => .ok (zip3P xs ys zs) S
    | _, _, _ => .stk := rfl
theorem evI_zip : evI G h (.zip a b) env S = (ev G h a env S).bind fun v S => (ev G h b env S).bind fun w S => match v, w with
    | .p (.lst xs), .p (.lst ys) => .ok (zipP xs ys) S
    | .p (.tup xs), .p (.tup ys) => .ok (zipP xs ys) S
    | _, _ => .stk := rfl
end
section
variable {Γ : Gm} {G : Prog} {h : Hd} {k : Nat} {C : Ctx} {W : XK} {X : Cx} {a b c : E} {x y z : Expr} {pos : Pos}
theorem pt_of (hp : plainT x = true) (hx : PE X x (tE Γ (wx W) G h a)) : PT X x (tT Γ (wx W) G h a) := by
  refine PT.imp (pt_val hx (plainT_ok hp)) fun σ H Q q => ?_
  obtain ⟨L, m, env, S, sr, q⟩ := q
  refine ⟨L, m, env, S, sr, q.mono fun v S' H' _ _ _ ⟨b, e, q⟩ x hx => ?_⟩
  subst e
  have hx : x = .bl b := by simpa only [VRep, Rep] using hx
  exact ⟨b, hx, q⟩
theorem pe_cst {d : P} (e : chk (.cst d) C x = true) : PE X x (tE Γ (wx W) G h (.cst d)) := by
  simp only [chk] at e
  split at e
  · rename_i c _ _
    split at e
    · refine PE.imp pe_non fun σ H Q ⟨L, m, env, S, sr, q⟩ => ?_
      exact q.ok sr _ (by simp only [VRep, Rep])
    · rename_i b b'
      have : b = b' := by simpa using e
      subst this
      refine PE.imp pe_bl fun σ H Q ⟨L, m, env, S, sr, q⟩ => ?_
      exact q.ok sr _ (by simp only [VRep, Rep])
    · rename_i b b'
      have : b = b' := by simpa using e
      subst this
      refine PE.imp pe_int fun σ H Q ⟨L, m, env, S, sr, q⟩ => ?_
      exact q.ok sr _ (by simp only [VRep, Rep])
    · rename_i b b'
      have : b = b' := by simpa using e
      subst this
      refine PE.imp pe_str fun σ H Q ⟨L, m, env, S, sr, q⟩ => ?_
      exact q.ok sr _ (by simp only [VRep, Rep])
    · cases e
  · cases e
theorem pe_vr (o : XOk Γ G h k C W X) {i : Nat} (e : chk (.var i) C x = true) : PE X x (tE Γ (wx W) G h (.var i)) := by
  simp only [chk] at e
  split at e
  · rename_i n _
    simp only [Bool.and_eq_true, decide_eq_true_eq] at e
    obtain ⟨⟨e1, e2⟩, e3⟩ := e
    refine PE.imp (pe_var (i := i) (by rw [o.N]; exact e1) (by rw [o.sc]; exact visB_ok e2) (dbg_ok e3).1 (dbg_ok e3).2) fun σ H Q ⟨L, m, env, S, sr, q⟩ => ?_
    simp only [ev] at q
    split at q
    · rename_i v hv
      obtain ⟨y, h1, h2⟩ := sr.ee i v hv
      exact ⟨y, h1, q.ok sr _ h2⟩
    · exact q.elim
  · cases e
theorem rep_bl {H : Hp} {S : Sto} {m : Nat → Addr} {b : Bool} : VRep Γ m S H (.p (.bl b)) (.bl b) := by simp only [VRep, Rep]
/-- arithmetic -/
theorem opR_arith (o : XOk Γ G h k C W X) {o2 : O2} {op : Operator} (ho : o2.bop = some op) : OpR X (binaryOp op) fun x y H Q => ∃ a b d, RRep Γ H a x ∧ RRep Γ H b y ∧ arith o2 a b = some d ∧ Raw Γ H d Q :=
  fun pins s σ H x y v u Q I rx ry ⟨a, b, d, h1, h2, h3, h4⟩ => arith_ok o.K ho I rx ry h1 h2 h3 h4
theorem opR_cmp (o : XOk Γ G h k C W X) {o2 : O2} {op : CmpOp} (ho : o2.cop = some op) : OpR X (compareOp op) fun x y H Q => ∃ a b d, RRep Γ H a x ∧ RRep Γ H b y ∧ op2 o2 a b = some d ∧ ∀ c, d = .bl c → Q (.bl c) H :=
  fun pins s σ H x y v u Q I rx ry ⟨a, b, d, h1, h2, h3, h4⟩ => cmp_ok o.K o.u65 ho I rx ry h1 h2 h3 h4
theorem op2_bop {o : O2} {op : Operator} (ho : o.bop = some op) (a b : P) : op2 o a b = arith o a b := by cases o <;> cases ho <;> rfl
/-- what a new list is frozen to -/
theorem raw_of {L : Addr → Prop} {m : Nat → Addr} {env : Env} {S : Sto} {σ : L2.St} {H : Hp} {d : P} {Q : VK} (sr : SRep Γ L m env S σ H) (q : EvR Γ (wx W) L m env σ S H (.ok (.p d) S) (VK' Γ m Q)) :
    Raw Γ H d fun z H' => Q z H' ∨ ∃ a xs, z = .ref a ∧ H' a = some (.lst xs) ∧ ∀ o, Q z (upd H' a (.frz o (.lst xs))) := by
  have g : ∀ z H', Same H H' → Rep Γ H' d z → Q z H' := fun z H' e r => q.okSame sr e z r
  unfold Raw
  split
  · rename_i ds
    intro p xs hp r
    refine .inr ⟨p, xs, rfl, upd_same, fun o => ?_⟩
    rw [upd_frz]
    exact g _ _ (Same.new hp) (rep_frz hp r)
  · exact fun z H' e r => .inl (g z H' e r)
theorem raw_n {e : E} {L : Addr → Prop} {m : Nat → Addr} {env : Env} {S : Sto} {σ : L2.St} {H : Hp} {d : P} {Q : VK} (sr : SRep Γ L m env S σ H)
    (q : EvR Γ (wx W) L m env σ S H (Res.ok (Val.p d) S) fun v S' H' => ∃ d, v = Val.p d ∧ mkP e d = true ∧ ∀ a u, H' a = none → CRep Γ H' d u a → Q (.ref a) (upd H' a u)) (hd : isDk e = false := by rfl) : Raw Γ H d Q := by
  obtain ⟨ps, e1, e2, q2⟩ := q.ok sr
  cases e1
  cases d <;> simp only [mkP, hd, Bool.false_eq_true] at e2
  exact fun p xs hp r => q2 p _ hp ⟨xs, rfl, r⟩

/-- two operands -/
theorem op_bin {o2 : O2} {L : Addr → Prop} {m : Nat → Addr} {env : Env} {S : Sto} {σ : L2.St} {H : Hp} {K : Val → Sto → Hp → Prop} {R : V → V → Hp → Prop} (sr : SRep Γ L m env S σ H) (q : EvR Γ (wx W) L m env σ S H (ev G h (.op o2 a b) env S) K)
    (i : ∀ S x y dx dy d H, SRep Γ L m env S σ H → RRep Γ H dx x → RRep Γ H dy y → op2 o2 dx dy = some d → EvR Γ (wx W) L m env σ S H (.ok (.p d) S) K → R x y H) :
    tE Γ (wx W) G h a σ H fun x H1 => tE Γ (wx W) G h b σ H1 fun y H2 => R x y H2 := by
  rw [ev_op] at q
  refine ⟨L, m, env, S, sr, q.bind.mono fun vx S1 H1 k1 d1 s1 q1 x hx => ?_⟩
  refine ⟨L, m, env, S1, s1, q1.bind.mono fun vy S2 H2 k2 d2 s2 q2 y hy => ?_⟩
  have hx2 := hx.mono (k2.per s1.lm) d2
  split at q2
  · rename_i dx dy e1 e2
    cases e : op2 o2 dx dy with
    | none =>
      rw [e] at q2
      exact q2.elim
    | some d =>
      rw [e] at q2
      exact i S2 x y dx dy d H2 s2 (rd_rep s2.sto hx2 e1) (rd_rep s2.sto hy e2) e q2
  · exact q2.elim
theorem pe_bin (o : XOk Γ G h k C W X) {o2 : O2} {op : Operator} (ho : o2.bop = some op) (ha : PE X x (tE Γ (wx W) G h a)) (hb : PE X y (tE Γ (wx W) G h b)) :
    PE X (.BinOp x op y pos) (tE Γ (wx W) G h (.op o2 a b)) ∧ PE X (.BinOp x op y pos) (tN Γ (wx W) G h (.op o2 a b)) := by
  have base := pe_op (pos := pos) (opR_arith o ho) ha hb
  refine ⟨PE.imp (pe_frz base) fun σ H Q ⟨L, m, env, S, sr, q⟩ => op_bin sr q fun S x y dx dy d H s2 h1 h2 e q2 => ?_, PE.imp base fun σ H Q ⟨L, m, env, S, sr, q⟩ => op_bin sr q fun S x y dx dy d H s2 h1 h2 e q2 => ?_⟩
  · exact ⟨dx, dy, d, h1, h2, by rw [← op2_bop ho]; exact e, raw_of s2 q2⟩
  · exact ⟨dx, dy, d, h1, h2, by rw [← op2_bop ho]; exact e, raw_n s2 q2⟩
theorem p_cmp (o : XOk Γ G h k C W X) {o2 : O2} {op : CmpOp} (ho : o2.cop = some op) (hm : behindInMarks op y = false) (ha : PE X x (tE Γ (wx W) G h a)) (hb : PE X y (tE Γ (wx W) G h b)) :
    PE X (.Compare x [op] [y] pos) (tE Γ (wx W) G h (.op o2 a b)) ∧ PT X (.Compare x [op] [y] pos) (tT Γ (wx W) G h (.op o2 a b)) := by
  refine ⟨PE.imp (pe_cmpR (opR_cmp o ho) ha hb hm) fun σ H Q ⟨L, m, env, S, sr, q⟩ => op_bin sr q fun S x y dx dy d H s2 h1 h2 e q2 => ?_, PT.imp (pt_cmpR (opR_cmp o ho) ha hb hm) fun σ H Q ⟨L, m, env, S, sr, q⟩ => op_bin sr q fun S x y dx dy d H s2 h1 h2 e q2 => ?_⟩
  · refine ⟨dx, dy, d, h1, h2, e, fun c ec => ?_⟩
    subst ec
    exact q2.ok s2 _ rep_bl
  · refine ⟨dx, dy, d, h1, h2, e, fun c ec => ?_⟩
    subst ec
    obtain ⟨b, e1, q3⟩ := q2.ok s2
    cases e1
    exact ⟨_, rfl, q3⟩
theorem pe_neg (ha : PE X x (tE Γ (wx W) G h a)) : PE X (.UnaryOp .USub x pos) (tE Γ (wx W) G h (.neg a)) := by
  refine PE.imp (pe_un un_neg ha) fun σ H Q ⟨L, m, env, S, sr, q⟩ => ?_
  rw [ev_neg] at q
  refine ⟨L, m, env, S, sr, q.bind.mono fun v S1 H1 k1 d1 s1 q1 x hx => ?_⟩
  split at q1
  · rename_i i
    have hx : x = .int i := by simpa only [VRep, Rep] using hx
    exact ⟨i, hx, q1.ok s1 _ (by simp only [VRep, Rep])⟩
  · exact q1.elim
theorem ord_op2 {o : O2} (ho : o.ord = true) (a b : P) : op2 o a b = arith o a b := by cases o <;> first | rfl | cases ho
theorem chain_bin {o1 o2 : O2} {L : Addr → Prop} {m : Nat → Addr} {env : Env} {S : Sto} {σ : L2.St} {H : Hp} {K : Val → Sto → Hp → Prop} {Q : VK} (g1 : o1.ord = true) (g2 : o2.ord = true) (sr : SRep Γ L m env S σ H) (q : EvR Γ (wx W) L m env σ S H (ev G h (.chain o1 o2 a b c) env S) K)
    (i : ∀ S H r, SRep Γ L m env S σ H → EvR Γ (wx W) L m env σ S H (.ok (.p (.bl r)) S) K → Q (.bl r) H) :
    tChain (fun x y H Q => ∃ a b d, RRep Γ H a x ∧ RRep Γ H b y ∧ op2 o1 a b = some d ∧ ∀ c, d = .bl c → Q (.bl c) H) (fun x y H Q => ∃ a b d, RRep Γ H a x ∧ RRep Γ H b y ∧ op2 o2 a b = some d ∧ ∀ c, d = .bl c → Q (.bl c) H) (tE Γ (wx W) G h a) (tE Γ (wx W) G h b) (tE Γ (wx W) G h c) σ H Q := by
  rw [ev_chain] at q
  refine ⟨L, m, env, S, sr, q.bind.mono fun vx S1 H1 k1 d1 s1 q1 x hx => ?_⟩
  refine ⟨L, m, env, S1, s1, q1.bind.mono fun vy S2 H2 k2 d2 s2 q2 y hy => ?_⟩
  have hx2 := hx.mono (k2.per s1.lm) d2
  split at q2
  · rename_i dx dy
    split at q2
    · rename_i e
      refine ⟨dx, dy, .bl true, .inl hx2, .inl hy, by rw [ord_op2 g1]; exact e, fun k ek => ?_⟩
      cases ek
      refine ⟨true, rfl, ?_⟩
      rw [if_pos rfl]
      refine ⟨L, m, env, S2, s2, q2.bind.mono fun vz S3 H3 k3 d3 s3 q3 z hz => ?_⟩
      split at q3
      · rename_i dz
        split at q3
        · rename_i r e2
          refine ⟨dy, dz, .bl r, .inl (hy.mono (k3.per s2.lm) d3), .inl hz, by rw [ord_op2 g2]; exact e2, fun k ek => ?_⟩
          cases ek
          exact i _ _ _ s3 q3
        · exact q3.elim
      · exact q3.elim
    · rename_i e
      refine ⟨dx, dy, .bl false, .inl hx2, .inl hy, by rw [ord_op2 g1]; exact e, fun k ek => ?_⟩
      cases ek
      refine ⟨false, rfl, ?_⟩
      rw [if_neg Bool.false_ne_true]
      exact i _ _ _ s2 q2
    · exact q2.elim
  · exact q2.elim
theorem p_chain (o : XOk Γ G h k C W X) {o1 o2 : O2} {p1 p2 : CmpOp} (h1 : o1.cop = some p1) (h2 : o2.cop = some p2) (g1 : o1.ord = true) (g2 : o2.ord = true) (hm : lastMarks [p1, p2] [y, z] = false)
    (ha : PE X x (tE Γ (wx W) G h a)) (hb : PE X y (tE Γ (wx W) G h b)) (hc : PE X z (tE Γ (wx W) G h c)) :
    PE X (.Compare x [p1, p2] [y, z] pos) (tE Γ (wx W) G h (.chain o1 o2 a b c)) ∧ PT X (.Compare x [p1, p2] [y, z] pos) (tT Γ (wx W) G h (.chain o1 o2 a b c)) := by
  refine ⟨PE.imp (pe_chain (opR_cmp o h1) (opR_cmp o h2) ha hb hc hm) fun σ H Q ⟨L, m, env, S, sr, q⟩ => chain_bin g1 g2 sr q fun S H r s2 q2 => q2.ok s2 _ rep_bl,
    PT.imp (pt_chain (opR_cmp o h1) (opR_cmp o h2) ha hb hc hm) fun σ H Q ⟨L, m, env, S, sr, q⟩ => chain_bin g1 g2 sr q fun S H r s2 q2 => ?_⟩
  obtain ⟨b, e1, q3⟩ := q2.ok s2
  cases e1
  exact ⟨_, rfl, q3⟩
theorem ao_one {n : Bool} {L : Addr → Prop} {m : Nat → Addr} {env : Env} {S : Sto} {σ : L2.St} {H : Hp} {K : Val → Sto → Hp → Prop} (q : EvR Γ (wx W) L m env σ S H (evAO G h n (.cons a .nil) env S) K) :
    EvR Γ (wx W) L m env σ S H (ev G h a env S) fun v S' H' => ∃ b, v = .p (.bl b) ∧ K v S' H' := by
  rw [evAO_one] at q
  refine q.bind.mono fun v S1 H1 k1 d1 s1 q1 => ?_
  split at q1
  · exact ⟨_, rfl, q1.ok s1⟩
  · exact q1.elim
theorem ao_cons {n : Bool} {L : Addr → Prop} {m : Nat → Addr} {env : Env} {S : Sto} {σ : L2.St} {H : Hp} {K : Val → Sto → Hp → Prop} (q : EvR Γ (wx W) L m env σ S H (evAO G h n (.cons a (.cons b c)) env S) K) :
    EvR Γ (wx W) L m env σ S H (ev G h a env S) fun v S' H' => ∃ b', v = .p (.bl b') ∧ (b' = n → EvR Γ (wx W) L m env σ S' H' (evAO G h n (.cons b c) env S') K) ∧ (b' ≠ n → K v S' H') := by
  rw [evAO_cons] at q
  refine q.bind.mono fun v S1 H1 k1 d1 s1 q1 => ?_
  split at q1
  · rename_i b'
    refine ⟨b', rfl, fun e => ?_, fun e => ?_⟩
    · simp only [e, if_true] at q1
      exact q1
    · simp only [e, if_false] at q1
      exact q1.ok s1
  · exact q1.elim
theorem p_ao1 {n : Bool} (ha : PE X x (tE Γ (wx W) G h a)) (ht : PT X x (tT Γ (wx W) G h a)) :
    PE X (.BoolOp (if n then .And else .Or) [x] pos) (tAO Γ (wx W) G h n (.cons a .nil)) ∧ PW X (.BoolOp (if n then .And else .Or) [x] pos) (tAOT Γ (wx W) G h n (.cons a .nil)) := by
  have j : ∀ σ H Q, tAO Γ (wx W) G h n (.cons a .nil) σ H Q → tE Γ (wx W) G h a σ H Q := fun σ H Q ⟨L, m, env, S, sr, q⟩ =>
    ⟨L, m, env, S, sr, (ao_one q).mono fun v S' H' _ _ _ ⟨b, e, q⟩ => q⟩
  have jt : ∀ σ H Q, tAOT Γ (wx W) G h n (.cons a .nil) σ H Q → tT Γ (wx W) G h a σ H Q := fun σ H Q ⟨L, m, env, S, sr, q⟩ =>
    ⟨L, m, env, S, sr, (ao_one q).mono fun v S' H' _ _ _ ⟨b, e, q⟩ => q⟩
  cases n
  · exact ⟨PE.imp (pe_one ha) j, PW.imp (pw_or1 ht) jt⟩
  · exact ⟨PE.imp (pe_one ha) j, PW.imp (pw_and1 ht) jt⟩
theorem p_ao2 {n : Bool} {l : List Expr} (ha : PE X x (tE Γ (wx W) G h a)) (ht : PT X x (tT Γ (wx W) G h a)) (hb : PE X (.BoolOp (if n then .And else .Or) (y :: l) pos) (tAO Γ (wx W) G h n (.cons b c))) (hw : PW X (.BoolOp (if n then .And else .Or) (y :: l) pos) (tAOT Γ (wx W) G h n (.cons b c))) :
    PE X (.BoolOp (if n then .And else .Or) (x :: y :: l) pos) (tAO Γ (wx W) G h n (.cons a (.cons b c))) ∧ PW X (.BoolOp (if n then .And else .Or) (x :: y :: l) pos) (tAOT Γ (wx W) G h n (.cons a (.cons b c))) := by
  cases n
  · refine ⟨PE.imp (pe_or ha hb) fun σ H Q ⟨L, m, env, S, sr, q⟩ => ⟨L, m, env, S, sr, (ao_cons q).mono fun v S' H' _ _ s1 ⟨b', e, q1, q2⟩ x hx => ?_⟩, PW.imp (pw_or ht hw) fun σ H Q ⟨L, m, env, S, sr, q⟩ => ⟨L, m, env, S, sr, (ao_cons q).mono fun v S' H' _ _ s1 ⟨b', e, q1, q2⟩ => ?_⟩⟩
    · subst e
      have hx : x = .bl b' := by simpa only [VRep, Rep] using hx
      refine ⟨b', hx, ?_⟩
      cases b'
      · exact ⟨L, m, env, S', s1, q1 rfl⟩
      · exact q2 (by simp) _ rep_bl
    · subst e
      refine ⟨b', rfl, ?_⟩
      cases b'
      · exact ⟨L, m, env, S', s1, q1 rfl⟩
      · obtain ⟨b, e, q3⟩ := q2 (by simp)
        cases e
        exact q3
  · refine ⟨PE.imp (pe_and ha hb) fun σ H Q ⟨L, m, env, S, sr, q⟩ => ⟨L, m, env, S, sr, (ao_cons q).mono fun v S' H' _ _ s1 ⟨b', e, q1, q2⟩ x hx => ?_⟩, PW.imp (pw_and ht hw) fun σ H Q ⟨L, m, env, S, sr, q⟩ => ⟨L, m, env, S, sr, (ao_cons q).mono fun v S' H' _ _ s1 ⟨b', e, q1, q2⟩ => ?_⟩⟩
    · subst e
      have hx : x = .bl b' := by simpa only [VRep, Rep] using hx
      refine ⟨b', hx, ?_⟩
      cases b'
      · exact q2 (by simp) _ rep_bl
      · exact ⟨L, m, env, S', s1, q1 rfl⟩
    · subst e
      refine ⟨b', rfl, ?_⟩
      cases b'
      · obtain ⟨b, e, q3⟩ := q2 (by simp)
        cases e
        exact q3
      · exact ⟨L, m, env, S', s1, q1 rfl⟩
theorem p_not (ha : PE X x (tE Γ (wx W) G h a)) (ht : PT X x (tT Γ (wx W) G h a)) : PE X (.UnaryOp .Not x pos) (tE Γ (wx W) G h (.not a)) ∧ PT X (.UnaryOp .Not x pos) (tT Γ (wx W) G h (.not a)) := by
  refine ⟨PE.imp (L2.pe_not ha) fun σ H Q ⟨L, m, env, S, sr, q⟩ => ?_, PT.imp (pt_not ht) fun σ H Q ⟨L, m, env, S, sr, q⟩ => ?_⟩
  all_goals
    rw [ev_not] at q
    refine ⟨L, m, env, S, sr, q.bind.mono fun v S1 H1 k1 d1 s1 q1 => ?_⟩
    split at q1
    · rename_i b
      first
        | exact fun x hx => ⟨b, by simpa only [VRep, Rep] using hx, q1.ok s1 _ rep_bl⟩
        | (obtain ⟨b', e, q3⟩ := q1.ok s1
           cases e
           exact ⟨b, rfl, q3⟩)
    · exact q1.elim
theorem pe_ite (hc : PT X z (tT Γ (wx W) G h c)) (ha : PE X x (tE Γ (wx W) G h a)) (hb : PE X y (tE Γ (wx W) G h b)) : PE X (.IfExp z x y pos) (tE Γ (wx W) G h (.ite c a b)) := by
  refine PE.imp (pe_ifExp hc ha hb) fun σ H Q ⟨L, m, env, S, sr, q⟩ => ?_
  rw [ev_ite] at q
  refine ⟨L, m, env, S, sr, q.bind.mono fun v S1 H1 k1 d1 s1 q1 => ?_⟩
  split at q1
  · exact ⟨true, rfl, ⟨L, m, env, S1, s1, q1⟩⟩
  · exact ⟨false, rfl, ⟨L, m, env, S1, s1, q1⟩⟩
  · exact q1.elim
theorem pe_tp {l : List Expr} {kk : Nat} {es : E} (ha : PA X l (tA Γ (wx W) G h es)) : PE X (.Tuple l kk pos) (tE Γ (wx W) G h (.tup es)) := by
  refine PE.imp (pe_tupC ha) fun σ H Q ⟨L, m, env, S, sr, q⟩ => ?_
  rw [ev_tup] at q
  refine ⟨L, m, env, S, sr, q.bind.mono fun vs S1 H1 k1 d1 s1 q1 xs hxs => ?_⟩
  split at q1
  · rename_i ds e
    split at q1
    · rename_i hl
      have r := toPs_rep hxs e
      refine ⟨by rw [← r.length]; have := big_line; omega, fun p o hp ho => ?_⟩
      refine q1.okSame s1 (Same.new hp) _ ?_
      simp only [VRep, Rep]
      exact ⟨p, xs, rfl, ⟨o, upd_same, ho⟩, Reps.per (per_of (Same.new hp)) _ _ r⟩
    · exact q1.elim
  · exact q1.elim
theorem pe_ls {l : List Expr} {es : E} (ha : PA X l (tA Γ (wx W) G h es)) : PE X (.List l pos) (tE Γ (wx W) G h (.lst es)) ∧ PE X (.List l pos) (tN Γ (wx W) G h (.lst es)) := by
  refine ⟨PE.imp (pe_frz (L2.pe_lst ha)) fun σ H Q ⟨L, m, env, S, sr, q⟩ => ?_, PE.imp (L2.pe_lst ha) fun σ H Q ⟨L, m, env, S, sr, q⟩ => ?_⟩
  all_goals
    rw [ev_lst] at q
    refine ⟨L, m, env, S, sr, q.bind.mono fun vs S1 H1 k1 d1 s1 q1 xs hxs => ?_⟩
    split at q1
    · rename_i ds e
      split at q1
      · rename_i hl
        have r := toPs_rep hxs e
        refine ⟨by rw [← r.length]; have := big_line; omega, fun p hp => ?_⟩
        first
          | exact Raw.lst (raw_of s1 q1) p xs hp r
          | exact Raw.lst (raw_n s1 q1) p xs hp r
      · exact q1.elim
    · exact q1.elim
theorem pe_idx (o : XOk Γ G h k C W X) (hs : notSlice y = true) (ha : PE X x (tE Γ (wx W) G h a)) (hb : PE X y (tE Γ (wx W) G h b)) : PE X (.Subscript x y pos) (tE Γ (wx W) G h (.idx a b)) := by
  refine PE.imp (pe_ix (ix_seq.or (ix_dct (Γ := Γ) o.u65)) ha hb (plainIx_ok hs)) fun σ H Q ⟨L, m, env, S, sr, q⟩ => ?_
  rw [ev_idx] at q
  refine ⟨L, m, env, S, sr, q.bind.mono fun vx S1 H1 k1 d1 s1 q1 x hx => ?_⟩
  refine ⟨L, m, env, S1, s1, q1.bind.mono fun vy S2 H2 k2 d2 s2 q2 y hy => ?_⟩
  have hx2 := hx.mono (k2.per s1.lm) d2
  split at q2
  · rename_i da di e1
    cases e : ix da di with
    | none =>
      rw [e] at q2
      exact q2.elim
    | some d =>
      rw [e] at q2
      exact ix_ok o.K (rd_rep s2.sto hx2 e1) (.inl hy) e fun z r => q2.ok s2 z r
  · exact q2.elim
theorem pe_sl (o : XOk Γ G h k C W X) {lo hi : E} {l u : Option Expr} {p2 : Pos} (ha : PE X x (tE Γ (wx W) G h a)) (hl : PO X l (tO Γ (wx W) G h lo)) (hu : PO X u (tO Γ (wx W) G h hi)) :
    PE X (.Subscript x (.Slice l u none p2) pos) (tE Γ (wx W) G h (.slc a lo hi)) ∧ PE X (.Subscript x (.Slice l u none p2) pos) (tN Γ (wx W) G h (.slc a lo hi)) := by
  refine ⟨PE.imp (pe_frz (pe_slice sl_seq ha hl hu)) fun σ H Q ⟨L, m, env, S, sr, q⟩ => ?_, PE.imp (pe_slice sl_seq ha hl hu) fun σ H Q ⟨L, m, env, S, sr, q⟩ => ?_⟩
  all_goals
    rw [ev_slc] at q
    refine ⟨L, m, env, S, sr, q.bind.mono fun vx S1 H1 k1 d1 s1 q1 x hx => ?_⟩
    refine ⟨L, m, env, S1, s1, q1.bind.mono fun lo S2 H2 k2 d2 s2 q2 => ?_⟩
    refine ⟨L, m, env, S2, s2, q2.bind.mono fun hi S3 H3 k3 d3 s3 q3 => ?_⟩
    have hx3 := (hx.mono (k2.per s1.lm) d2).mono (k3.per s2.lm) d3
    split at q3
    · rename_i da e1
      cases e : slc da lo hi with
      | none =>
        rw [e] at q3
        exact q3.elim
      | some d =>
        rw [e] at q3
        first
          | exact slc_ok o.K (rd_rep s3.sto hx3 e1) e (raw_of s3 q3)
          | exact slc_ok o.K (rd_rep s3.sto hx3 e1) e (raw_n s3 q3)
    · exact q3.elim
theorem ev_rev (env : Env) (S : Sto) : ev G h (.rev a) env S = (ev G h a env S).bind fun x S => match rd S x with
    | some (.tup xs) => .ok (.p (.tup xs.reverse)) S
    | some (.lst xs) => .ok (.p (.lst xs.reverse)) S
    | _ => .stk := rfl
theorem pe_rv (o : XOk Γ G h k C W X) {kk : Nat} {p1 p2 p3 : Pos} (ha : PE X x (tE Γ (wx W) G h a)) :
    PE X (.Subscript x (.Slice none none (some (.UnaryOp .USub (.Constant (.int 1) kk p1) p2)) p3) pos) (tE Γ (wx W) G h (.rev a)) := by
  refine PE.imp (pe_frz (pe_revA ha)) fun σ H Q ⟨L, m, env, S, sr, q⟩ => ?_
  rw [ev_rev] at q
  refine ⟨L, m, env, S, sr, q.bind.mono fun vx S1 H1 k1 d1 s1 q1 x hx => ?_⟩
  split at q1
  · rename_i ds e1
    obtain ⟨p, xs, rfl, h1, h2⟩ := (rd_rep s1.sto hx e1).tup
    exact .inr ⟨p, xs, rfl, by rw [o.K]; exact h1, fun p' o hp ho => (raw_of s1 q1).tup _ o _ hp ho h2.reverse⟩
  · rename_i ds e1
    obtain ⟨p, xs, rfl, h1, h2⟩ := (rd_rep s1.sto hx e1).lst
    exact .inl ⟨p, xs, rfl, by rw [o.K]; exact h1, fun p' hp => (raw_of s1 q1).lst _ _ hp h2.reverse⟩
  · exact q1.elim
theorem po_nil : PO X none (tO Γ (wx W) G h .nil) := by
  refine ⟨fun pins s σ H Q I hq => po_none.run pins s σ H Q I ?_⟩
  obtain ⟨L, m, env, S, sr, q⟩ := hq
  exact q.ok sr
theorem po_pl (ha : PE X x (tE Γ (wx W) G h a)) : PO X (some x) (tO Γ (wx W) G h (.pl a)) := by
  refine ⟨fun pins s σ H Q I hq => (po_some ha).run pins s σ H Q I ?_⟩
  obtain ⟨L, m, env, S, sr, q⟩ := hq
  rw [evO_pl] at q
  refine ⟨L, m, env, S, sr, q.bind.mono fun v S1 H1 k1 d1 s1 q1 x hx => ?_⟩
  split at q1
  · rename_i i
    exact ⟨i, by simpa only [VRep, Rep] using hx, q1.ok s1⟩
  · exact q1.elim
theorem pa_0 : PA X [] (tA Γ (wx W) G h .nil) := PA.imp pa_nil fun σ H Q ⟨L, m, env, S, sr, q⟩ => q.ok sr _ rfl
theorem pa_1 {l : List Expr} {es : E} (hn : notStar x = true) (ha : PE X x (tE Γ (wx W) G h a)) (hl : PA X l (tA Γ (wx W) G h es)) : PA X (x :: l) (tA Γ (wx W) G h (.cons a es)) := by
  refine PA.imp (pa_cons ha hl (star_ok hn)) fun σ H Q ⟨L, m, env, S, sr, q⟩ => ?_
  rw [evs_cons] at q
  refine ⟨L, m, env, S, sr, q.bind.mono fun v S1 H1 k1 d1 s1 q1 x hx => ?_⟩
  refine ⟨L, m, env, S1, s1, q1.bind.mono fun vs S2 H2 k2 d2 s2 q2 xs hxs => ?_⟩
  exact q2.ok s2 _ ⟨x, xs, rfl, hx.mono (k2.per s1.lm) d2, hxs⟩
end
end Hb

/-! Targets: a name, a tuple of targets (a tuple or a list taken apart). -/
namespace Hb
open PySem PySem.Spec PyProof.Rows L2

section
variable {prog : Program} {w : World} {A : Around} {E : Value → Shared → Prop} {s : Shared}
theorem draw_list {it t : Addr} {items : Array Value} (hne : t ≠ it) : ∀ (n i : Nat) (s : Shared) (Q : List Value → Shared → Prop), s.heap.IsListIter it t i → s.heap.IsList t items → i + n ≤ items.size →
    (∀ h', h'.IsListIter it t (i + n) → Heap.SameBut it s.heap h' → Q ((items.toList.drop i).take n) { s with heap := h' }) → wpAny (model prog w) A (draw (.ref it) n) Q E s
  | 0, i, s, Q, hit, _, _, hQ => by
    show wpAny _ _ (pure []) Q E s
    exact wpAny_pure (by simpa using hQ s.heap hit (Heap.SameBut.refl ..))
  | n + 1, i, s, Q, hit, ht, hle, hQ => by
    have hlt : i < items.size := by omega
    show wpAny _ _ (pyNext (.ref it) >>= _) Q E s
    refine wpAny_bind (wpAny_pyNext_list_item hit ht (x := items[i]) (by simp [hlt]) fun h₁ hit₁ hs₁ => ?_)
    have ht₁ : h₁.IsList t items := by
      obtain ⟨o, e, r⟩ := ht
      exact ⟨o, (hs₁.2 t hne).trans e, r⟩
    refine wpAny_bind (wpAny_holding (draw_list hne n (i + 1) _ _ hit₁ ht₁ (by omega) fun h₂ hit₂ hs₂ => wpAny_pure ?_))
    have hd : items.toList.drop i = items[i] :: items.toList.drop (i + 1) := by simp [List.drop_eq_getElem_cons, hlt]
    have := hQ h₂ (by rw [show i + (n + 1) = i + 1 + n by omega]; exact hit₂) (hs₁.trans hs₂)
    rw [hd, List.take_succ_cons] at this
    exact this
theorem unpackItems_list {t : Addr} {items : Array Value} {Q : List Value → Shared → Prop} (hh : A.handled = none) (ht : s.heap.IsList t items)
    (hQ : ∀ h', Heap.ExtBut s.heap.objs.size s.heap h' → Q items.toList { s with heap := h' }) : wpAny (model prog w) A (unpackItems (.ref t) items.size none) Q E s := by
  have hlt : t ≠ s.heap.objs.size := by obtain ⟨o, ho, _⟩ := ht; exact Nat.ne_of_lt (Heap.lt_size ho)
  have push : (s.heap.push { cls := .type "list_iterator", data := .fields #[.ref t, .int 0 0] }).IsList t items := by
    obtain ⟨o, e, r⟩ := ht
    exact ⟨o, Heap.get?_push_of_some _ e, r⟩
  unfold unpackItems
  refine wpAny_bind ?_
  · unfold notIterableAtAll
    refine wpAny_bind (wpAny_specialOf ht.typeIs slot_list_iter.lookup ?_)
    refine wpAny_pure ?_
    simp only [Bool.false_eq_true, if_false]
    refine wpAny_bind (wpAny_holding (wpAny_pyIter_list ht ?_))
    refine wpAny_bind (wpAny_holding (draw_list hlt items.size 0 _ _ ⟨_, Heap.get?_push_size _ rfl, rfl, rfl⟩ push (by omega) fun h₁ hit₁ hs₁ => ?_))
    have hall : List.take items.size (List.drop 0 items.toList) = items.toList := by
      rw [List.drop_zero]; exact List.take_of_length_le (by simp)
    rw [hall]
    rw [if_neg (by simp)]
    have ht₁ : h₁.IsList t items := by
      obtain ⟨o, e, r⟩ := push
      exact ⟨o, (hs₁.2 t hlt).trans e, r⟩
    refine wpAny_bind (wpAny_holding (wpAny_pyNext_list_end hh hit₁ ht₁ (by simp) fun h₂ he₂ => ?_))
    simp only [Option.isSome_none, Bool.false_eq_true, if_false]
    refine wpAny_pure (hQ h₂ fun b o hb e => he₂ b o hb ((hs₁.2 b hb).trans (Heap.get?_push_of_some _ e)))
theorem unpack_list {t : Addr} {items : Array Value} {targets : List (Bool × (Value → Sem Unit))} {Q : Unit → Shared → Prop} (hh : A.handled = none) (ht : s.heap.IsList t items)
    (hn : targets.length = items.size) (hstar : targets.findIdx? (·.1) = none)
    (h : ∀ h', Heap.ExtBut s.heap.objs.size s.heap h' → wpAny (model prog w) A (assignInOrder (targets.map (·.2)) items.toList) Q E { s with heap := h' }) :
    wpAny (model prog w) A (unpack (.ref t) targets) Q E s := by
  unfold unpack
  rw [hn, hstar]
  exact wpAny_bind (wpAny_holding (unpackItems_list hh ht h))
theorem assign_Tuple_list {env : PySem.Env} {elts : List Expr} {x1} {pos : Pos} {t : Addr} {items : Array Value} {Q : Unit → Shared → Prop} (hh : A.handled = none) (ht : s.heap.IsList t items)
    (hn : (assignEach elts env).length = items.size) (hstar : (assignEach elts env).findIdx? (·.1) = none)
    (h : ∀ h', Heap.ExtBut s.heap.objs.size s.heap h' → wpAny (model prog w) A (assignInOrder ((assignEach elts env).map (·.2)) items.toList) Q E { s with heap := h' }) :
    wpAny (model prog w) A (assign (.Tuple elts x1 pos) env (.ref t)) Q E s := by
  rw [assign_Tuple]
  exact wpAny_bind (wpAny_standAt (unpack_list hh ht hn hstar h))
end
def gSeq (K : PySem.W.Frag) (n : Nat) (t : TGs) : TG := fun v σ H Q => ∃ a xs, v = .ref a ∧ (SqT K H a xs ∨ SqL K H a xs) ∧ xs.length = n ∧ t xs σ H Q
theorem pg_seq {X : Cx} {es : List Expr} {k : Nat} {pos : Pos} {t : TGs} {n : Nat} (hc : X.calm = true) (h : PGs X es t)
    (hn : (assignEach es X.env).length = n) (hst : (assignEach es X.env).findIdx? (·.1) = none) : PG X (.Tuple es k pos) (gSeq X.K n t) := by
  refine ⟨fun pins s σ H v u Q I r hw => ?_⟩
  obtain ⟨a, xs, e1, hq, hl, hw⟩ := hw
  subst e1
  cases r
  rcases hq with hq | hq
  · obtain ⟨its, rv, ht, hz⟩ := I.tuple hq
    refine assign_Tuple_tuple (I.ok.hd hc) ht (by simp [hn, ← hl, rv.length]) hst fun h' hx => ?_
    have I1 : Inv X pins σ H { s with heap := h' } := I.kept (t' := s.toks) fun b o e => hx b o (Nat.ne_of_lt (Heap.lt_size e)) e
    exact h.run pins _ σ H xs _ Q I1 (by simpa using rv) hw
  · obtain ⟨its, rv, ht, hz⟩ := I.list hq
    refine assign_Tuple_list (I.ok.hd hc) ht.isList (by simp [hn, ← hl, rv.length]) hst fun h' hx => ?_
    have I1 : Inv X pins σ H { s with heap := h' } := I.kept (t' := s.toks) fun b o e => hx b o (Nat.ne_of_lt (Heap.lt_size e)) e
    exact h.run pins _ σ H xs _ Q I1 (by simpa using rv) hw

/-! ### ours -/
section
variable (Γ : Gm)
def gT (t : T) : TG := fun x σ H Q => ∃ L m env S d e', SRep Γ L m env S σ H ∧ Rep Γ H d x ∧ T.bind t d env = some e' ∧ ∀ σ', (∀ vs, T.slots t ⊆ vs → wipe σ' vs = wipe σ vs) → SRep Γ L m e' S σ' H → Q σ' H
def gTs (ts : T) : TGs := fun xs σ H Q => ∃ L m env S ds e', SRep Γ L m env S σ H ∧ Reps Γ H ds xs ∧ T.binds ts ds env = some e' ∧ ∀ σ', (∀ vs, T.slotss ts ⊆ vs → wipe σ' vs = wipe σ vs) → SRep Γ L m e' S σ' H → Q σ' H
end
theorem wipe_set {σ : L2.St} {i : Nat} {x : V} : ∀ {vs : List Nat}, i ∈ vs → wipe (σ.set i (some x)) vs = wipe σ vs
  | [], h => by cases h
  | v :: vs, h => by
    show (wipe (σ.set i (some x)) vs).set v none = (wipe σ vs).set v none
    rcases List.mem_cons.mp h with rfl | h
    · have g : ∀ vs : List Nat, (wipe (σ.set i (some x)) vs).set i none = (wipe σ vs).set i none := fun vs => by
        induction vs with
        | nil => simp [wipe]
        | cons v vs ih =>
          show ((wipe (σ.set i (some x)) vs).set v none).set i none = ((wipe σ vs).set v none).set i none
          by_cases e : v = i
          · subst e; rw [List.set_set, List.set_set, ih]
          · rw [List.set_comm _ _ e, List.set_comm _ _ e, ih]
      exact g vs
    · rw [wipe_set h]
section
variable {Γ : Gm} {L : Addr → Prop} {m : Nat → Addr} {env : Env} {S : Sto} {σ : L2.St} {H : Hp}
/-- a slot is set -/
theorem SRep.set (sr : SRep Γ L m env S σ H) {v : Val} {x : V} (h : VRep Γ m S H v x) (i : Nat) : SRep Γ L m (env.set i (some v)) S (σ.set i (some x)) H := by
  refine ⟨by rw [List.length_set, List.length_set, sr.len], fun j u e => ?_, sr.sto, sr.live, sr.lm⟩
  by_cases hj : i = j
  · subst hj
    have hl : i < env.length := by
      rcases Nat.lt_or_ge i env.length with h | h
      · exact h
      · rw [List.getElem?_eq_none (by simpa using h)] at e
        cases e
    rw [List.getElem?_set_self hl] at e
    cases e
    exact ⟨x, by rw [List.getElem?_set_self (by rw [← sr.len]; exact hl)], h⟩
  · rw [List.getElem?_set_ne hj] at e
    obtain ⟨y, h1, h2⟩ := sr.ee j u e
    exact ⟨y, by rw [List.getElem?_set_ne hj]; exact h1, h2⟩
end
theorem chkTs_each {C : Ctx} {env : PySem.Env} : ∀ {ts : T} {l : List Expr}, chkTs C ts l = true → (assignEach l env).findIdx? (·.1) = none ∧ (assignEach l env).length = l.length
  | .tnil, [], _ => ⟨rfl, rfl⟩
  | .tnil, _ :: _, h => by simp [chkTs] at h
  | .tcons t ts, [], h => by simp [chkTs] at h
  | .tcons t ts, a :: l, h => by
    simp only [chkTs, Bool.and_eq_true] at h
    obtain ⟨h1, h2⟩ := chkTs_each (env := env) h.2
    rw [assignEach_ok h.1.1]
    refine ⟨by simp [List.findIdx?_cons, h1], by simp [h2]⟩
  | .nm _, _, h => by simp [chkTs] at h
  | .tp _, _, h => by simp [chkTs] at h
theorem binds_len {env : Env} {e' : Env} {C : Ctx} : ∀ {ts : T} {ds : List P} {l : List Expr} {env : Env}, chkTs C ts l = true → T.binds ts ds env = some e' → ds.length = l.length
  | .tnil, ds, [], env, _, h => by
    cases ds
    · rfl
    · simp [T.binds] at h
  | .tnil, _, _ :: _, _, h, _ => by simp [chkTs] at h
  | .tcons t ts, _, [], _, h, _ => by simp [chkTs] at h
  | .tcons t ts, ds, a :: l, env, h, e => by
    simp only [chkTs, Bool.and_eq_true] at h
    cases ds with
    | nil => simp [T.binds] at e
    | cons d ds =>
      simp only [T.binds] at e
      split at e
      · rw [List.length_cons, List.length_cons, binds_len (env := env) h.2 e]
      · cases e
  | .nm _, _, _, _, h, _ => by simp [chkTs] at h
  | .tp _, _, _, _, h, _ => by simp [chkTs] at h
section
variable {Γ : Gm} {G : Prog} {h : Hd} {k : Nat} {C : Ctx} {W : XK} {X : Cx}
mutual
theorem pg_T (o : XOk Γ G h k C W X) : ∀ {t : T} {tg : Expr}, chkT C t tg = true → PG X tg (gT Γ t)
  | .nm i, tg, e => by
    unfold chkT at e
    split at e
    · rename_i x _
      simp only [Bool.and_eq_true, decide_eq_true_eq] at e
      obtain ⟨e1, e2⟩ := e
      obtain ⟨e2, e3⟩ := stB_ok e2
      have hN : X.N[i]? = some x := by rw [o.N]; exact e1
      have hl : Loc X.env.scope x := by rw [o.sc]; exact e2
      have hf : X.fn x = true ∨ X.env.scope.names.lookup x = some .local := by
        rcases e3 with e3 | e3
        · exact .inl (o.st x e3)
        · exact .inr (by rw [o.sc]; exact e3)
      refine ⟨fun pins s σ H v u Q I r hw => (pg_name (by rw [o.N]; exact o.nd) hN hl hf).run pins s σ H v u Q I r ?_⟩
      obtain ⟨L, m, env, S, d, e', sr, rd, eb, q⟩ := hw
      have eb : some (env.set i (some (.p d))) = some e' := by simpa only [T.bind] using eb
      cases eb
      exact q _ (fun vs hs => wipe_set (hs (by simp [T.slots]))) (sr.set (v := .p d) rd i)
    · cases e
  | .tp ts, tg, e => by
    unfold chkT at e
    split at e
    · rename_i l _ _
      obtain ⟨h1, h2⟩ := chkTs_each (env := X.env) e
      refine ⟨fun pins s σ H v u Q I r hw => (pg_seq o.calm (pgs_T o e) h2 h1).run pins s σ H v u Q I r ?_⟩
      obtain ⟨L, m, env, S, d, e', sr, rd, eb, q⟩ := hw
      simp only [T.bind] at eb
      split at eb
      · rename_i ds ed
        have hs : ∃ a xs, v = .ref a ∧ (SqT X.K H a xs ∨ SqL X.K H a xs) ∧ Reps Γ H ds xs := by
          rw [o.K]
          cases d <;> simp [items] at ed
          · subst ed
            simp only [Rep] at rd
            obtain ⟨a, xs, e1, e2, e3⟩ := rd
            exact ⟨a, xs, e1, .inl e2.sqt, e3⟩
          · subst ed
            simp only [Rep] at rd
            obtain ⟨a, xs, e1, e2, e3⟩ := rd
            exact ⟨a, xs, e1, .inr (SqF.sql e2), e3⟩
          · subst ed
            simp only [Rep] at rd
            obtain ⟨a, xs, e1, e2, e3⟩ := rd
            exact ⟨a, xs, e1, .inl e2, e3⟩
        obtain ⟨a, xs, rfl, hq, hr⟩ := hs
        exact ⟨a, xs, rfl, hq, by rw [← hr.length]; exact binds_len (env := env) e eb, L, m, env, S, ds, e', sr, hr, eb, fun σ' h' => q σ' (by simpa only [T.slots] using h')⟩
      · cases eb
    · cases e
  | .tnil, tg, e => by simp [chkT] at e
  | .tcons _ _, tg, e => by simp [chkT] at e
theorem pgs_T (o : XOk Γ G h k C W X) : ∀ {ts : T} {l : List Expr}, chkTs C ts l = true → PGs X l (gTs Γ ts)
  | .tnil, [], e => by
    refine ⟨fun pins s σ H v u Q I r hw => pgs_nil.run pins s σ H v u Q I r ?_⟩
    obtain ⟨L, m, env, S, ds, e', sr, rd, eb, q⟩ := hw
    cases ds with
    | nil =>
      cases (show some env = some e' by simpa only [T.binds] using eb)
      exact ⟨reps_nil.mp rd, q σ (fun _ _ => rfl) sr⟩
    | cons d ds => simp [T.binds] at eb
  | .tnil, _ :: _, e => by simp [chkTs] at e
  | .tcons t ts, [], e => by simp [chkTs] at e
  | .tcons t ts, a :: l, e => by
    simp only [chkTs, Bool.and_eq_true] at e
    obtain ⟨⟨e1, e2⟩, e3⟩ := e
    refine ⟨fun pins s σ H v u Q I r hw => (pgs_cons (pg_T o e2) (pgs_T o e3) (by rw [assignEach_ok e1]; rfl)).run pins s σ H v u Q I r ?_⟩
    obtain ⟨L, m, env, S, ds, e', sr, rd, eb, q⟩ := hw
    cases ds with
    | nil => simp [T.binds] at eb
    | cons d ds =>
      obtain ⟨y, ys, rfl, r1, r2⟩ := reps_cons.mp rd
      simp only [T.binds] at eb
      split at eb
      · rename_i env1 eb1
        refine ⟨y, ys, rfl, L, m, env, S, d, env1, sr, r1, eb1, fun σ1 w1 s1 => ⟨L, m, env1, S, ds, e', s1, r2, eb, fun σ2 w2 s2 => q σ2 (fun vs hs => ?_) s2⟩⟩
        simp only [T.slotss] at hs
        exact (w2 vs fun z hz => hs (List.mem_append_right _ hz)).trans (w1 vs fun z hz => hs (List.mem_append_left _ hz))
      · cases eb
  | .nm _, _, e => by simp [chkTs] at e
  | .tp _, _, e => by simp [chkTs] at e
end
end
end Hb

/-! Expressions, part 2: names of the module, calls, what is walked, comprehensions; then all of it. -/
namespace Hb
open PySem PySem.Spec PyProof.Rows L2

/-! ### the state, changed at one place that is none of ours -/
section
variable {Γ : Gm} {L : Addr → Prop} {m : Nat → Addr} {env e' : Env} {S S' : Sto} {σ σ' : L2.St} {H H' : Hp}
theorem per_atC {D : Addr} {w : HO} (hD : H D = some w) (hw : MutC w D) (he : ∀ b, b ≠ D → H' b = H b) : Per H H' := by
  have g : ∀ b u, H b = some u → u ≠ w → H' b = some u := fun b u e n => by
    rw [he b fun z => ?_]
    · exact e
    · subst z
      rw [hD] at e
      cases e
      exact n rfl
  refine ⟨fun b xs h => g b _ h fun z => hw.ntup xs z.symm, fun b o u h => g b _ h fun z => hw.nfrz o u z.symm, fun b p h n => ?_⟩
  rw [he b fun z => ?_]
  · exact h
  · subst z
    rw [hD] at h
    cases h
    exact n hw
theorem per_at {D : Addr} {xs : List V} (hD : H D = some (.lst xs)) (he : ∀ b, b ≠ D → H' b = H b) : Per H H' := per_atC hD (.inl ⟨xs, rfl⟩) he
theorem SRep.at_ {D : Addr} {w : HO} (sr : SRep Γ L m env S σ H) (nD : ¬ L D) (hD : H D = some w) (hw : MutC w D) (he : ∀ b, b ≠ D → H' b = H b) : SRep Γ L m env S σ H' := by
  have p := per_atC hD hw he
  refine ⟨sr.len, fun i v e => ?_, ⟨fun n o e => ?_, sr.sto.inj, tabs_of sr.sto.tabs fun b o e n => (he b fun z => n (by rw [z, hD] at e; cases e; rw [z]; exact hw)).trans e⟩, sr.live, fun b hb => ?_⟩
  · obtain ⟨x, h1, h2⟩ := sr.ee i v e
    exact ⟨x, h1, h2.mono p (Dom.refl _)⟩
  · have ne : m n ≠ D := fun z => nD (z ▸ sr.live n (by rw [e]; rfl))
    exact (sr.sto.at_ n o e).per p fun u h1 _ => (he _ ne).trans h1
  · obtain ⟨ys, e, mu⟩ := sr.lm b hb
    exact ⟨ys, (he b fun z => nD (z ▸ hb)).trans e, mu⟩
/-- the slots as they were, the heap gone on -/
theorem SRep.back {H0 : Hp} (sr : SRep Γ L m env S σ H0) (k : Keep L H0 H) (d : Dom S S') (s2 : SRep Γ L m e' S' σ' H) : SRep Γ L m env S' σ H :=
  ⟨sr.len, fun i v e => by
    obtain ⟨x, h1, h2⟩ := sr.ee i v e
    exact ⟨x, h1, h2.mono (k.per sr.lm) d⟩, s2.sto, s2.live, s2.lm⟩
theorem SRep.none (sr : SRep Γ L m env S σ H) (i : Nat) : SRep Γ L m (env.set i none) S (σ.set i none) H := by
  refine ⟨by rw [List.length_set, List.length_set, sr.len], fun j u e => ?_, sr.sto, sr.live, sr.lm⟩
  by_cases hj : i = j
  · subst hj
    rcases Nat.lt_or_ge i env.length with h | h
    · rw [List.getElem?_set_self h] at e
      cases e
    · rw [List.getElem?_eq_none (by simpa using h)] at e
      cases e
  · rw [List.getElem?_set_ne hj] at e
    obtain ⟨y, h1, h2⟩ := sr.ee j u e
    exact ⟨y, by rw [List.getElem?_set_ne hj]; exact h1, h2⟩
theorem SRep.wipe (sr : SRep Γ L m env S σ H) : ∀ own : List Nat, SRep Γ L m (wipeE env own) S (L2.wipe σ own) H
  | [] => sr
  | i :: own => (SRep.wipe sr own).none i
theorem keep_at {H1 : Hp} {D : Addr} (k : Keep L H1 H) (hD : Fresh H1 D) (he : ∀ b, b ≠ D → H' b = H b) : Keep L H1 H' := fun b o e n t =>
  (he b fun z => by
    rw [z] at e
    obtain ⟨ps, z⟩ := hD o e
    exact t ps z).trans (k b o e n t)
end
theorem lcGo_len {f : P → Sto → Res (Option P)} : ∀ {xs acc : List P} {S : Sto} {ds : List P} {S' : Sto}, lcGo f xs acc S = .ok ds S' → acc.length ≤ ds.length
  | [], acc, S, ds, S', h => by
    cases h
    exact Nat.le_refl _
  | x :: xs, acc, S, ds, S', h => by
    simp only [lcGo] at h
    split at h
    · have := lcGo_len h
      rw [List.length_append] at this
      exact Nat.le_trans (Nat.le_add_right _ _) this
    · exact lcGo_len h
    · cases h

/-! ### what is walked -/
def iSeq (K : PySem.W.Frag) (tl : TE) : TI := fun σ H R => tl σ H fun x H1 => ∃ a, x = .ref a ∧ ((∃ xs, SqL K H1 a xs ∧ R (Itl K a) H1) ∨ ∃ xs, SqT K H1 a xs ∧ R (Itt K a) H1)
theorem pi_seq {X : Cx} {tg l : Expr} {tl : TE} (hl : PE X l tl) : PI X tg l (iSeq X.K tl) := by
  refine ⟨fun pins s σ H R I h => ?_⟩
  refine thn (hl.run pins s σ H _ I h) fun v s1 ⟨x, H1, I1, r1, q1⟩ => ?_
  obtain ⟨a, e, q⟩ := q1
  subst e
  cases r1
  have fp : ∀ b ∈ [s1.heap.objs.size], FpOk X pins H1 b := fun b hb => by
    have e : b = s1.heap.objs.size := by simpa using hb
    subst e
    exact I1.fpOk (Nat.le_refl _) (I1.hok.fresh (Nat.le_refl _))
  rcases q with ⟨xs, hq, q⟩ | ⟨xs, hq, q⟩
  · obtain ⟨its, rv, p, hz⟩ := I1.list hq
    refine wpAny_pyIter_list p.isList ?_
    exact ⟨s1.heap.objs.size, [s1.heap.objs.size], _, _, H1, rfl, I1.kept (t' := s1.toks) fun b o e => Heap.get?_push_of_some _ e, turn_list a _, ⟨_, Heap.get?_push_size _ rfl, rfl, rfl⟩, fp, q⟩
  · obtain ⟨its, rv, p, hz⟩ := I1.tuple hq
    refine wpAny_pyIter_tuple (show s1.heap.IsTuple a its.toArray from p) ?_
    exact ⟨s1.heap.objs.size, [s1.heap.objs.size], _, _, H1, rfl, I1.kept (t' := s1.toks) fun b o e => Heap.get?_push_of_some _ e, turn_tuple a _, ⟨_, Heap.get?_push_size _ rfl, rfl, rfl⟩, fp, q⟩
theorem gives_zipT {Γ : Gm} {H : Hp} {ps qs : List P} {a b : Addr} {xs ys : List V} (h : SqT Γ.K H a xs) (r : Reps Γ H ps xs) (h' : SqT Γ.K H b ys) (r' : Reps Γ H qs ys) : Gives Γ (RZ.ItzT Γ.K a b) (zipP ps qs) H := by
  unfold Gives
  rw [zipP_len, r.length, r'.length]
  refine ⟨fun i H1 hi p => ⟨xs, ys, xs[i]'(by omega), ys[i]'(by omega), p.sqt h, p.sqt h', by simp, by simp⟩, fun H1 p => ⟨xs, ys, p.sqt h, p.sqt h', by omega⟩, fun i H1 v H' hi p y => ?_⟩
  obtain ⟨T, x, y, rfl, hT, rfl, hx, hy⟩ := y
  obtain ⟨d, e, rd⟩ := r.getV (hx xs (p.sqt h))
  obtain ⟨d', e', rd'⟩ := r'.getV (hy ys (p.sqt h'))
  exact ⟨Same.new hT, _, zipP_get ps qs i d d' e e', rep_pair hT (Rep.per p d x rd) (Rep.per p d' y rd')⟩

section
variable {Γ : Gm} {G : Prog} {h : Hd} {k : Nat} {C : Ctx} {W : XK} {X : Cx} {a b c es : E} {x y z : Expr} {pos : Pos}
theorem pe_gl (o : XOk Γ G h k C W X) {g : Nat} {n : Str} (h1 : g ∈ C.gs) (h2 : C.gn g = n) (h3 : glB C.sc n = true) (h4 : dbg n = true) : PE X (.Name n pos) (tE Γ (wx W) G h (.glb g)) := by
  obtain ⟨u, v, e1, e2, e3⟩ := o.glb g h1
  refine PE.imp (pe_glob (o.gl h3) (by rw [o.mg, ← h2]; exact e1) e2 (dbg_ok h4).1) fun σ H Q ⟨L, m, env, S, sr, q⟩ => ?_
  rw [ev_glb] at q
  exact q.ok sr _ (e3 H)
theorem chks_inv {C : Ctx} {es : E} {l : List Expr} (h : chks es C l = true) : (es = .nil ∧ l = []) ∨ ∃ a es' x l', es = .cons a es' ∧ l = x :: l' ∧ notStar x = true ∧ chk a C x = true ∧ chks es' C l' = true := by
  cases es
  case nil =>
    cases l
    · exact .inl ⟨rfl, rfl⟩
    · exact absurd h Bool.false_ne_true
  case cons a es =>
    cases l with
    | nil => exact absurd h Bool.false_ne_true
    | cons x l =>
      have h : (notStar x && chk a C x && chks es C l) = true := h
      simp only [Bool.and_eq_true] at h
      exact .inr ⟨_, _, _, _, rfl, rfl, h.1.1, h.1.2, h.2⟩
  all_goals exact absurd h Bool.false_ne_true
theorem chks_len {C : Ctx} : ∀ {l : List Expr} {es : E} {G : Prog} {h : Hd} {env : Env} {S S' : Sto} {vs : List Val}, chks es C l = true → evs G h es env S = .ok vs S' → vs.length = l.length := by
  intro l
  induction l with
  | nil =>
    intro es G h env S S' vs hh e
    rcases chks_inv hh with ⟨rfl, _⟩ | ⟨a, es', x, l', rfl, e2, _⟩
    · rw [evs_nil] at e
      cases e
      rfl
    · cases e2
  | cons x l ih =>
    intro es G h env S S' vs hh e
    rcases chks_inv hh with ⟨_, e2⟩ | ⟨a, es', x', l', rfl, e2, _, _, h3⟩
    · cases e2
    · cases e2
      rw [evs_cons] at e
      cases e1 : ev G h a env S with
      | ok v S1 =>
        rw [e1] at e
        cases e2 : evs G h es' env S1 with
        | ok vs' S2 =>
          simp only [Res.bind, e2] at e
          cases e
          rw [List.length_cons, List.length_cons, ih h3 e2]
        | exc _ _ _ => simp only [Res.bind, e2] at e; cases e
        | stk => simp only [Res.bind, e2] at e; cases e
      | exc _ _ _ => rw [e1] at e; cases e
      | stk => rw [e1] at e; cases e
theorem backTo_none {C : Ctx} {pos : Pos} {env : PySem.Env} : ∀ {l : List Expr} {es : E}, chks es C l = true → (backTo pos (starEach l env)).any (·.1) = false := by
  intro l
  induction l with
  | nil => intro es h; rfl
  | cons x l ih =>
    intro es h
    rcases chks_inv h with ⟨_, e2⟩ | ⟨a, es', x', l', rfl, e2, h1, _, h3⟩
    · cases e2
    · cases e2
      rw [star_ok h1]
      exact ih h3
theorem chks_ne {C : Ctx} {es : E} {x : Expr} {l : List Expr} (h : chks es C (x :: l) = true) : notStar x = true := by
  rcases chks_inv h with ⟨_, e2⟩ | ⟨a, es', x', l', rfl, e2, h1, _, h3⟩
  · cases e2
  · cases e2
    exact h1
theorem chks_tl {C : Ctx} {es : E} {x : Expr} {l : List Expr} (h : chks es C (x :: l) = true) : ∃ es', chks es' C l = true := by
  rcases chks_inv h with ⟨_, e2⟩ | ⟨a, es', x', l', rfl, e2, h1, _, h3⟩
  · cases e2
  · cases e2
    exact ⟨_, h3⟩
/-- a call of a def of the text -/
theorem pe_cl0 (o : XOk Γ G h k C W X) {f : Nat} {n : Str} {l : List Expr} {p : Pos} (h1 : f ∈ C.fs) (h5 : l.length = C.ar f) (h2 : C.gn f = n) (h3 : glB C.sc n = true) (h4 : dbg n = true) (hc : chks es C l = true) (ha : PA X l (tA Γ (wx W) G h es)) :
    PE X (.Call (.Name n p) l [] pos) (tCall (spH Γ h f (C.ar f)) [] W (tA Γ (wx W) G h es)) := by
  obtain ⟨a, fd, ps, e0, e1, e2, e3, F⟩ := o.fns f h1
  have hm : X.mg n = some (.ref a) := by rw [o.mg, ← h2, ← o.gn]; exact e1
  have hK : PySem.W.keepIn X.K (.ref a) = true := by rw [o.K]; exact e2
  have hb : Binds X.K fd ps [] := by rw [o.K]; exact e3
  have F : FnOk X.prog X.w X.K X.mg X.base (L2N.CX X.prog X.w) k a fd ps (spH Γ h f (C.ar f)) := by rw [o.K, o.mg]; exact F
  have hx : Passes (L2N.CX X.prog X.w) X W := L2N.passes_call o.tk fun cls d σ H w => w
  cases l with
  | nil =>
    refine PE.imp (pe_call0 F o.room (o.gl h3) hm hK hb .nil hx (dbg_ok h4).1) fun σ H Q q => ?_
    obtain ⟨L, m, env, S, sr, q⟩ := q
    rcases chks_inv hc with ⟨rfl, _⟩ | ⟨_, _, _, _, _, e2, _⟩
    · exact q.ok sr [] rfl
    · cases e2
  | cons x l =>
    obtain ⟨es', h6⟩ := chks_tl hc
    exact pe_call F o.room (o.gl h3) hm hK hb .nil hx ha (dbg_ok h4).1 (star_ok (chks_ne hc)) (backTo_none h6)
theorem pe_cl (o : XOk Γ G h k C W X) {f : Nat} {n : Str} {l : List Expr} {p : Pos} (h1 : f ∈ C.fs) (h5 : l.length = C.ar f) (h2 : C.gn f = n) (h3 : glB C.sc n = true) (h4 : dbg n = true) (hc : chks es C l = true) (ha : PA X l (tA Γ (wx W) G h es)) :
    PE X (.Call (.Name n p) l [] pos) (tE Γ (wx W) G h (.call f es)) := by
  refine PE.imp (pe_cl0 o h1 h5 h2 h3 h4 hc ha) fun σ H Q ⟨L, m, env, S, sr, q⟩ => ?_
  rw [ev_call] at q
  have q' := q.bind
  cases e : evs G h es env S with
  | stk => rw [e] at q'; exact q'.elim
  | exc c d S' => exact ⟨L, m, env, S, sr, by rw [e] at q' ⊢; exact q'⟩
  | ok vs S' =>
    have hl : vs.length = C.ar f := by rw [chks_len hc e]; exact h5
    refine ⟨L, m, env, S, sr, ?_⟩
    rw [e] at q' ⊢
    intro H1 k1 d1 s1 xs hxs
    rw [List.append_nil]
    exact callV_ok hl s1 hxs (q' H1 k1 d1 s1)
/-- a call of what a name holds -/
theorem ev_app (f es : E) (env : Env) (S : Sto) : ev G h (.app f es) env S = (ev G h f env S).bind fun v S => match v with
    | .p (.gl g) => match G.ar g with
      | some n => (evs G h es env S).bind fun vs S => if vs.length = n then callV h (.p (.gl g)) vs S else .stk
      | none => .stk
    | _ => .stk := rfl
theorem pe_ap (o : XOk Γ G h k C W X) {i : Nat} {n : Str} {x : Expr} {l : List Expr} {p : Pos} (h1 : C.N[i]? = some n) (h2 : visB C.sc n = true) (h3 : dbg n = true) (hc : chks es C (x :: l) = true) (hhi : C.hi = true) (ha : PA X (x :: l) (tA Γ (wx W) G h es)) :
    PE X (.Call (.Name n p) (x :: l) [] pos) (tE Γ (wx W) G h (.app (.var i) es)) := by
  refine ⟨fun pins s σ H Q I hq => ?_⟩
  obtain ⟨L, m, env, S, sr, q⟩ := hq
  rw [ev_app, show ev G h (.var i) env S = (match env[i]? with
    | some (some v) => .ok v S
    | _ => .stk) from rfl] at q
  cases hv : env[i]? with
  | none => rw [hv] at q; exact q.elim
  | some ov =>
    cases ov with
    | none => rw [hv] at q; exact q.elim
    | some v =>
      rw [hv] at q
      obtain ⟨xv, e1, e2⟩ := sr.ee i v hv
      have q : EvR Γ (wx W) L m env σ S H (match v with
        | .p (.gl g) => match G.ar g with
          | some n => (evs G h es env S).bind fun vs S => if vs.length = n then callV h (.p (.gl g)) vs S else .stk
          | none => .stk
        | _ => .stk) (VK' Γ m Q) := q
      cases v with
      | l _ => exact q.elim
      | f _ _ _ => exact q.elim
      | p d =>
        cases d with
        | gl g =>
          dsimp only at q
          cases hg : G.ar g with
          | none => rw [hg] at q; exact q.elim
          | some ng =>
            rw [hg] at q
            dsimp only at q
            obtain ⟨u, hu, ru⟩ : ∃ u, Γ.mg (Γ.gnm g) = some u ∧ RelV xv u := by simpa only [VRep, Rep] using e2
            obtain ⟨hgf, har⟩ := o.arr hhi g ng hg
            obtain ⟨a, fd, ps, e0, f1, f2, f3, F⟩ := o.fns g hgf
            rw [hu] at f1
            cases f1
            have hx : xv = .ref a := by
              cases xv <;> first | (cases ru; rfl) | (obtain ⟨t, z⟩ := ru; cases z) | (cases ru)
            subst hx
            have vis : Vis X.env.scope n := by rw [o.sc]; exact visB_ok h2
            obtain ⟨es', h6⟩ := chks_tl hc
            have hK : PySem.W.keepIn X.K (.ref a) = true := by rw [o.K]; exact f2
            have hb : Binds X.K fd ps [] := by rw [o.K]; exact f3
            have F : FnOk X.prog X.w X.K X.mg X.base (L2N.CX X.prog X.w) k a fd ps (spH Γ h g (C.ar g)) := by rw [o.K, o.mg]; exact F
            have hps : Passes (L2N.CX X.prog X.w) X W := L2N.passes_call o.tk fun cls d σ H w => w
            refine wpAny_Call_Name_kw (thn ((pe_var (pos := p) (i := i) (by rw [o.N]; exact h1) vis (dbg_ok h3).1 (dbg_ok h3).2).run pins s σ H (fun v H1 => v = .ref a ∧ H1 = H) I ⟨.ref a, e1, rfl, rfl⟩) fun u s1 ⟨v, H1, I1, r1, ev', eH⟩ => ?_)
            subst ev'
            rw [eH] at I1
            cases r1
            refine PySem.W.callWith_K (h₀ := X.base) I.ok.mod.kin hK (thn (ha.run pos pins s1 σ H (fun vs H' => spH Γ h g (C.ar g) vs H' Q W) I1 ⟨L, m, env, S, sr, ?_⟩) fun us s2 ⟨vs, H2, I2, r, q2⟩ => ⟨I2.kIn, ?_⟩) (star_ok (chks_ne hc)) (backTo_none h6)
            · have q' := q.bind
              refine q'.mono fun vs S' H' _ _ s' q3 xs hxs => ?_
              by_cases hl : vs.length = ng
              · rw [if_pos hl] at q3
                exact callV_ok (by rw [har]; exact hl) s' hxs q3
              · rw [if_neg hl] at q3
                exact q3.elim
            · exact run_fn F o.room hb .nil hps I2 r (by rw [List.append_nil]; exact q2)
        | _ => exact q.elim
theorem pe_b (o : XOk Γ G h k C W X) {b : B} {n : Str} {l : List Expr} {p : Pos} (h2 : (b.nm.1 : Str) = n) (h3 : glB C.sc n = true) (hne : l.isEmpty = false) (hc : chks es C l = true) (ha : PA X l (tA Γ (wx W) G h es)) :
    PE X (.Call (.Name n p) l [] pos) (tE Γ (wx W) G h (.bi b es)) ∧ PE X (.Call (.Name n p) l [] pos) (tN Γ (wx W) G h (.bi b es)) := by
  subst h2
  cases l with
  | nil => cases hne
  | cons x l =>
    obtain ⟨es', h6⟩ := chks_tl hc
    have hg := o.gl h3
    have hm := o.mb (bnames_nm b)
    have hr := bi_ok o.K o.calm b
    have base : PE X (.Call (.Name (b.nm.1 : Str) p) (x :: l) [] pos) (tCB (rBi Γ b) (tA Γ (wx W) G h es)) := by
      cases b
      all_goals first
        | exact pe_callB hr hg hm (boot_nm _) ha (nm_ne _).1 (nm_ne _).2 (star_ok (chks_ne hc)) (backTo_none h6)
        | exact pe_callTy hr hg hm (boot_nm _) ha (nm_ne _).1 (nm_ne _).2 (star_ok (chks_ne hc)) (backTo_none h6)
    refine ⟨PE.imp (pe_frz base) fun σ H Q ⟨L, m, env, S, sr, q⟩ => ?_, PE.imp base fun σ H Q ⟨L, m, env, S, sr, q⟩ => ?_⟩
    all_goals
      rw [ev_bi] at q
      refine ⟨L, m, env, S, sr, q.bind.mono fun vs S1 H1 k1 d1 s1 q1 xs hxs => ?_⟩
      split at q1
      · rename_i ds e1
        cases e : bi b ds with
        | none =>
          rw [e] at q1
          exact q1.elim
        | some d =>
          rw [e] at q1
          refine ⟨ds, d, rds_rep s1.sto hxs e1, e, ?_⟩
          first
            | exact raw_of s1 q1
            | exact raw_n s1 q1
      · exact q1.elim
theorem mapM_any {f : Ty → Option Bool} : ∀ {ts : List Ty} {bs : List Bool}, ts.mapM f = some bs → ∀ K t, (∀ ty c, f ty = some c → PySem.W.kitOne K t (.type ty.nm) = some c) → PySem.W.kitAny K t (ts.map fun ty => .type ty.nm) = some (bs.any id)
  | [], bs, e, K, t, h => by
    cases e
    rfl
  | ty :: ts, bs, e, K, t, h => by
    rw [List.mapM_cons] at e
    cases e1 : f ty with
    | none => rw [e1] at e; cases e
    | some c =>
      cases e2 : ts.mapM f with
      | none => rw [e1, e2] at e; cases e
      | some cs =>
        rw [e1, e2] at e
        cases e
        have ih := mapM_any e2 K t h
        show PySem.W.kitAny K t (.type ty.nm :: ts.map fun ty => .type ty.nm) = _
        unfold PySem.W.kitAny
        rw [h ty c e1]
        cases c
        · simpa using ih
        · rfl
theorem chkTys_ok (o : XOk Γ G h k C W X) : ∀ {ts : List Ty} {l : List Expr}, chkTys C ts l = true → ∀ (T' : List V → Hp → Prop) (σ : L2.St) (H : Hp), True → PA X l (fun σ H Q => Q (ts.map fun ty => V.ty ty.nm) H)
  | [], [], _, _, _, _, _ => pa_nil
  | t :: ts, [], e, _, _, _, _ => absurd e Bool.false_ne_true
  | [], _ :: _, e, _, _, _, _ => absurd e Bool.false_ne_true
  | t :: ts, x :: l, e, T', σ, H, z => by
    cases x with
    | Name n p =>
      have e : (decide ((t.nm : Str) = n) && glB C.sc n && chkTys C ts l) = true := e
      simp only [Bool.and_eq_true, decide_eq_true_eq] at e
      obtain ⟨⟨rfl, e2⟩, e3⟩ := e
      exact PA.imp (pa_cons (pe_bltn (v := .ty t.nm) (o.gl e2) (o.mb (bnames_ty t)) (boot_ty t) rfl (ty_ne t).1 (ty_ne t).2) (chkTys_ok o e3 T' σ H z) rfl) fun σ H Q q => q
    | _ => exact absurd e Bool.false_ne_true
theorem paired_ty : ∀ ts : List Ty, Paired ClsV (ts.map fun ty => V.ty ty.nm) (ts.map fun ty => Value.type ty.nm)
  | [] => .nil
  | t :: ts => .cons (.ty _) (paired_ty ts)
theorem pe_isi1 (o : XOk Γ G h k C W X) {t : Ty} {n : Str} {p p2 : Pos} (h1 : glB C.sc ("isinstance" : Str) = true) (h2 : (t.nm : Str) = n) (h3 : glB C.sc n = true) (hs : notStar x = true) (ha : PE X x (tE Γ (wx W) G h a)) :
    PE X (.Call (.Name ("isinstance" : Str) p) [x, .Name n p2] [] pos) (tE Γ (wx W) G h (.isi a [t])) := by
  subst h2
  have ht : PA X [.Name (t.nm : Str) p2] (tCons (tC (.ty t.nm)) tNil) := pa_cons (pe_bltn (v := .ty t.nm) (o.gl h3) (o.mb (bnames_ty t)) (boot_ty t) rfl (ty_ne t).1 (ty_ne t).2) pa_nil rfl
  refine PE.imp (pe_callB call_isi (o.gl h1) (o.mb (by decide)) boot_isi (pa_cons ha ht (star_ok hs)) (by decide) (by decide) (star_ok hs) rfl) fun σ H Q ⟨L, m, env, S, sr, q⟩ => ?_
  rw [ev_isi] at q
  refine ⟨L, m, env, S, sr, q.bind.mono fun v S1 H1 k1 d1 s1 q1 x hx => ?_⟩
  split at q1
  · rename_i d e1
    split at q1
    · rename_i bs e2
      have e2 : (do let r ← isTy t d; pure [r]) = some bs := by simpa using e2
      cases e3 : isTy t d with
      | none => rw [e3] at e2; cases e2
      | some c =>
        rw [e3] at e2
        cases e2
        exact isi_ok o.K (rd_rep s1.sto hx e1) e3 (by simpa using q1.ok s1 _ rep_bl)
    · exact q1.elim
  · exact q1.elim
theorem pe_isiT (o : XOk Γ G h k C W X) {ts : List Ty} {l : List Expr} {p p2 : Pos} {kk : Nat} (h1 : glB C.sc ("isinstance" : Str) = true) (h2 : chkTys C ts l = true) (hs : notStar x = true) (ha : PE X x (tE Γ (wx W) G h a)) (hl : ts.length ≤ 10) (hne : ts.isEmpty = false) :
    PE X (.Call (.Name ("isinstance" : Str) p) [x, .Tuple l kk p2] [] pos) (tE Γ (wx W) G h (.isi a ts)) := by
  have ht : PA X [.Tuple l kk p2] (tCons (tTup (fun σ H Q => Q (ts.map fun ty => V.ty ty.nm) H)) tNil) := pa_cons (L2.pe_tup (chkTys_ok o h2 (fun _ _ => True) [] (fun _ => none) trivial)) pa_nil rfl
  refine PE.imp (pe_callB call_isiT (o.gl h1) (o.mb (by decide)) boot_isi (pa_cons ha ht (star_ok hs)) (by decide) (by decide) (star_ok hs) rfl) fun σ H Q ⟨L, m, env, S, sr, q⟩ => ?_
  rw [ev_isi] at q
  refine ⟨L, m, env, S, sr, q.bind.mono fun v S1 H1 k1 d1 s1 q1 x hx => ⟨by rw [List.length_map]; exact Nat.le_trans hl (by decide), fun p hp => ?_⟩⟩
  split at q1
  · rename_i d e1
    split at q1
    · rename_i bs e2
      have hr := rd_rep s1.sto hx e1
      have hr' : RRep Γ (upd H1 p (.tup (ts.map fun ty => V.ty ty.nm))) d x := by
        have e := Same.new (o := .tup (ts.map fun ty => V.ty ty.nm)) hp
        rcases hr with hr | ⟨a, u, r1, r2, r3⟩
        · exact .inl (Rep.per (per_of e) _ _ hr)
        · exact .inr ⟨a, u, r1, e _ _ r2, r3.per (per_of e)⟩
      cases ts with
      | nil =>
        cases hne
      | cons t ts =>
        have hk : ∃ k, kindOf d = some k := by
          rw [List.mapM_cons] at e2
          cases e3 : isTy t d with
          | none => rw [e3] at e2; cases e2
          | some c =>
            obtain ⟨k', h1, _⟩ := isTy_kit e3
            exact ⟨k', h1⟩
        obtain ⟨k', hk⟩ := hk
        refine ⟨x, p, _, .type k', _, _, rfl, upd_same, paired_ty _, rrep_ty o.K hr' hk, mapM_any e2 _ _ fun ty c e3 => ?_, q1.okSame s1 (Same.new hp) _ rep_bl⟩
        obtain ⟨k2, g1, g2⟩ := isTy_kit e3
        rw [hk] at g1
        cases g1
        exact kit_ty g2
    · exact q1.elim
  · exact q1.elim
end
end Hb

/-! Expressions, part 3: what is walked, comprehensions, all of it. -/
namespace Hb
open PySem PySem.Spec PyProof.Rows L2

section
variable {Γ : Gm} {G : Prog} {h : Hd} {k : Nat} {C : Ctx} {W : XK} {X : Cx} {a b c es : E} {x y z tg : Expr} {pos : Pos}
theorem rep_items {H : Hp} {d : P} {ds : List P} {x : V} (r : Rep Γ H d x) (e : items d = some ds) : ∃ a xs, x = .ref a ∧ Reps Γ H ds xs ∧ ((d = .lst ds ∧ SqF Γ.K H a xs) ∨ ((d = .tup ds ∨ d = .wtup ds) ∧ SqT Γ.K H a xs)) := by
  cases d <;> simp [items] at e <;> subst e <;> simp only [Rep] at r <;> obtain ⟨a, xs, e1, e2, e3⟩ := r
  · exact ⟨a, xs, e1, e3, .inr ⟨.inl rfl, e2.sqt⟩⟩
  · exact ⟨a, xs, e1, e3, .inl ⟨rfl, e2⟩⟩
  · exact ⟨a, xs, e1, e3, .inr ⟨.inr rfl, e2⟩⟩
theorem pi_pl (o : XOk Γ G h k C W X) (ha : PE X x (tE Γ (wx W) G h a)) : PI X tg x (tI Γ (wx W) G h (.pl a)) := by
  refine PI.imp (pi_seq ha) fun σ H R ⟨L, m, env, S, sr, q⟩ => ?_
  rw [evI_pl] at q
  refine ⟨L, m, env, S, sr, q.bind.mono fun v S1 H1 k1 d1 s1 q1 x hx => ?_⟩
  split at q1
  · rename_i d
    cases e : items d with
    | none => rw [e] at q1; exact q1.elim
    | some ds =>
      rw [e] at q1
      obtain ⟨p, xs, rfl, r, ⟨_, hq⟩ | ⟨_, hq⟩⟩ := rep_items hx e
      · exact ⟨p, rfl, .inl ⟨xs, by rw [o.K]; exact hq.sql, by rw [o.K]; exact q1.ok s1 _ (gives_list hq r)⟩⟩
      · exact ⟨p, rfl, .inr ⟨xs, by rw [o.K]; exact hq, by rw [o.K]; exact q1.ok s1 _ (gives_tup hq r)⟩⟩
  · exact q1.elim
theorem big_line2 : (BIG : Int) < 2 ^ 62 := by decide
theorem pi_rng (o : XOk Γ G h k C W X) {p : Pos} (h1 : glB C.sc ("range" : Str) = true) (hs : notStar x = true) (ha : PE X x (tE Γ (wx W) G h a)) : PI X tg (.Call (.Name ("range" : Str) p) [x] [] pos) (tI Γ (wx W) G h (.rng a)) := by
  refine PI.imp (pi_range1 (o.gl h1) (o.mb (by decide)) (pa_cons ha pa_nil (star_ok hs)) (by rw [star_ok hs]; rfl)) fun σ H R ⟨L, m, env, S, sr, q⟩ => ?_
  rw [evI_rng] at q
  refine ⟨L, m, env, S, sr, q.bind.mono fun v S1 H1 k1 d1 s1 q1 x hx => ?_⟩
  split at q1
  · rename_i j
    have hx : x = .int j := by simpa only [VRep, Rep] using hx
    subst hx
    split at q1
    · rename_i hj
      have := big_line2
      exact ⟨j, rfl, by omega, by omega, q1.ok s1 _ gives_range⟩
    · exact q1.elim
  · exact q1.elim
theorem pi_enm (o : XOk Γ G h k C W X) {p p2 : Pos} {elts : List Expr} {kk : Nat} (h1 : glB C.sc ("enumerate" : Str) = true) (hs : notStar x = true) (ha : PE X x (tE Γ (wx W) G h a)) : PI X (.Tuple elts kk p2) (.Call (.Name ("enumerate" : Str) p) [x] [] pos) (tI Γ (wx W) G h (.enm a)) := by
  refine PI.imp (pi_enumA (o.gl h1) (o.mb (by decide)) (pa_cons ha pa_nil (star_ok hs)) (by rw [star_ok hs]; rfl)) fun σ H R ⟨L, m, env, S, sr, q⟩ => ?_
  rw [evI_enm] at q
  refine ⟨L, m, env, S, sr, q.bind.mono fun v S1 H1 k1 d1 s1 q1 x hx => ?_⟩
  split at q1
  · rename_i d
    cases e : items d with
    | none => rw [e] at q1; exact q1.elim
    | some ds =>
      rw [e] at q1
      obtain ⟨p, xs, rfl, r, ⟨_, hq⟩ | ⟨_, hq⟩⟩ := rep_items hx e
      · exact ⟨p, xs, rfl, .inl ⟨by rw [o.K]; exact hq.sql, by rw [o.K]; exact q1.ok s1 _ (gives_enumL hq r)⟩⟩
      · exact ⟨p, xs, rfl, .inr ⟨by rw [o.K]; exact hq, by rw [o.K]; exact q1.ok s1 _ (gives_enumT hq r)⟩⟩
  · exact q1.elim
theorem pi_zp (o : XOk Γ G h k C W X) {p p2 : Pos} {elts : List Expr} {kk : Nat} (h1 : glB C.sc ("zip" : Str) = true) (hs : notStar x = true) (hs2 : notStar y = true) (ha : PE X x (tE Γ (wx W) G h a)) (hb : PE X y (tE Γ (wx W) G h b)) :
    PI X (.Tuple elts kk p2) (.Call (.Name ("zip" : Str) p) [x, y] [] pos) (tI Γ (wx W) G h (.zip a b)) := by
  refine PI.imp (RZ.pi_zipA (o.gl h1) (o.mb (by decide)) (pa_cons ha (pa_cons hb pa_nil (star_ok hs2)) (star_ok hs)) (star_ok hs) (by rw [star_ok hs2]; rfl)) fun σ H R ⟨L, m, env, S, sr, q⟩ => ?_
  rw [evI_zip] at q
  refine ⟨L, m, env, S, sr, q.bind.mono fun v S1 H1 k1 d1 s1 q1 x hx => ⟨L, m, env, S1, s1, q1.bind.mono fun v2 S2 H2 k2 d2 s2 q2 y hy => ?_⟩⟩
  have hx2 := hx.mono (k2.per s1.lm) d2
  split at q2
  · rename_i ps qs
    simp only [VRep, Rep] at hx2 hy
    obtain ⟨p, xs, rfl, h1, h2⟩ := hx2
    obtain ⟨p', ys, rfl, h3, h4⟩ := hy
    exact ⟨p, p', xs, ys, rfl, .inl ⟨by rw [o.K]; exact h1.sql, by rw [o.K]; exact h3.sql, by rw [o.K]; exact q2.ok s2 _ (gives_zipL h1 h2 h3 h4)⟩⟩
  · rename_i ps qs
    simp only [VRep, Rep] at hx2 hy
    obtain ⟨p, xs, rfl, h1, h2⟩ := hx2
    obtain ⟨p', ys, rfl, h3, h4⟩ := hy
    exact ⟨p, p', xs, ys, rfl, .inr ⟨by rw [o.K]; exact h1.sqt, by rw [o.K]; exact h3.sqt, by rw [o.K]; exact q2.ok s2 _ (gives_zipT h1.sqt h2 h3.sqt h4)⟩⟩
  · exact q2.elim

theorem zip3P_len : ∀ (ps qs rs : List P), (zip3P ps qs rs).length = min (min ps.length qs.length) rs.length
  | [], qs, rs => by simp [zip3P]
  | _ :: _, [], rs => by simp [zip3P]
  | _ :: _, _ :: _, [] => by simp [zip3P]
  | p :: ps, q :: qs, r :: rs => by
    simp only [zip3P, List.length_cons, zip3P_len ps qs rs]
    omega
theorem zip3P_get : ∀ (ps qs rs : List P) (i : Nat) (d e f : P), ps[i]? = some d → qs[i]? = some e → rs[i]? = some f → (zip3P ps qs rs)[i]? = some (.wtup [d, e, f])
  | [], _, _, i, d, e, f, h, _, _ => by simp at h
  | _ :: _, [], _, i, d, e, f, _, h, _ => by simp at h
  | _ :: _, _ :: _, [], i, d, e, f, _, _, h => by simp at h
  | p :: ps, q :: qs, r :: rs, 0, d, e, f, h1, h2, h3 => by
    simp at h1 h2 h3
    subst h1 h2 h3
    simp [zip3P]
  | p :: ps, q :: qs, r :: rs, i + 1, d, e, f, h1, h2, h3 => by
    simp only [zip3P, List.getElem?_cons_succ]
    exact zip3P_get ps qs rs i d e f (by simpa using h1) (by simpa using h2) (by simpa using h3)
theorem rep_triple {H : Hp} {T : Addr} {a b c : P} {x y z : V} (hT : H T = none) (ha : Rep Γ H a x) (hb : Rep Γ H b y) (hc : Rep Γ H c z) : Rep Γ (upd H T (.tup [x, y, z])) (.wtup [a, b, c]) (.ref T) := by
  simp only [Rep]
  have e := per_of (Same.new (o := .tup [x, y, z]) hT)
  exact ⟨T, _, rfl, SqT.of upd_same, reps_cons.mpr ⟨_, _, rfl, Rep.per e _ _ ha, reps_cons.mpr ⟨_, _, rfl, Rep.per e _ _ hb, reps_cons.mpr ⟨_, _, rfl, Rep.per e _ _ hc, reps_nil.mpr rfl⟩⟩⟩⟩
theorem gives_zip3 {H : Hp} {ps qs rs : List P} {a b c : Addr} {xs ys zs : List V} (h : SqF Γ.K H a xs) (r : Reps Γ H ps xs) (h' : SqF Γ.K H b ys) (r' : Reps Γ H qs ys) (h'' : SqF Γ.K H c zs) (r'' : Reps Γ H rs zs) : Gives Γ (Itz3 Γ.K a b c) (zip3P ps qs rs) H := by
  unfold Gives
  rw [zip3P_len, r.length, r'.length, r''.length]
  refine ⟨fun i H1 hi p => ⟨xs, ys, zs, (p.sqf h).sql, (p.sqf h').sql, (p.sqf h'').sql, by omega, by omega, by omega⟩, fun H1 p => ⟨xs, ys, zs, (p.sqf h).sql, (p.sqf h').sql, (p.sqf h'').sql, rfl⟩, fun i H1 v H' hi p y => ?_⟩
  obtain ⟨T, x, y, z, rfl, hT, rfl, hx, hy, hz⟩ := y
  obtain ⟨d, e, rd⟩ := r.getV (hx xs (p.sqf h).sql)
  obtain ⟨d', e', rd'⟩ := r'.getV (hy ys (p.sqf h').sql)
  obtain ⟨d'', e'', rd''⟩ := r''.getV (hz zs (p.sqf h'').sql)
  exact ⟨Same.new hT, _, zip3P_get ps qs rs i d d' d'' e e' e'', rep_triple hT (Rep.per p d x rd) (Rep.per p d' y rd') (Rep.per p d'' z rd'')⟩
theorem pi_zp3 {c : E} {z : Expr} (o : XOk Γ G h k C W X) {p p2 : Pos} {elts : List Expr} {kk : Nat} (h1 : glB C.sc ("zip" : Str) = true) (hs : notStar x = true) (hs2 : notStar y = true) (hs3 : notStar z = true) (ha : PE X x (tE Γ (wx W) G h a)) (hb : PE X y (tE Γ (wx W) G h b)) (hc : PE X z (tE Γ (wx W) G h c)) :
    PI X (.Tuple elts kk p2) (.Call (.Name ("zip" : Str) p) [x, y, z] [] pos) (tI Γ (wx W) G h (.zip3 a b c)) := by
  refine PI.imp (pi_zip3 (o.gl h1) (o.mb (by decide)) (pa_cons ha (pa_cons hb (pa_cons hc pa_nil (star_ok hs3)) (star_ok hs2)) (star_ok hs)) (star_ok hs) (by rw [star_ok hs2, star_ok hs3]; rfl)) fun σ H R ⟨L, m, env, S, sr, q⟩ => ?_
  rw [evI_zip3] at q
  refine ⟨L, m, env, S, sr, q.bind.mono fun v S1 H1 k1 d1 s1 q1 x hx => ⟨L, m, env, S1, s1, q1.bind.mono fun v2 S2 H2 k2 d2 s2 q2 y hy => ⟨L, m, env, S2, s2, q2.bind.mono fun v3 S3 H3 k3 d3 s3 q3 z hz => ?_⟩⟩⟩
  have hx2 := (hx.mono (k2.per s1.lm) d2).mono (k3.per s2.lm) d3
  have hy2 := hy.mono (k3.per s2.lm) d3
  split at q3
  · rename_i ps qs rs
    simp only [VRep, Rep] at hx2 hy2 hz
    obtain ⟨p, xs, rfl, h1, h2⟩ := hx2
    obtain ⟨p', ys, rfl, h3, h4⟩ := hy2
    obtain ⟨p'', zs, rfl, h5, h6⟩ := hz
    exact ⟨p, p', p'', xs, ys, zs, rfl, by rw [o.K]; exact h1.sql, by rw [o.K]; exact h3.sql, by rw [o.K]; exact h5.sql, by rw [o.K]; exact q3.ok s3 _ (gives_zip3 h1 h2 h3 h4 h5 h6)⟩
  · exact q3.elim

/-! ### comprehensions -/
theorem wipe_none (σ : L2.St) (i : Nat) : ∀ vs : List Nat, i ∈ vs → wipe (σ.set i none) vs = wipe σ vs
  | [], h => by cases h
  | v :: vs, h => by
    show (wipe (σ.set i none) vs).set v none = (wipe σ vs).set v none
    rcases List.mem_cons.mp h with rfl | h
    · have g : ∀ vs : List Nat, (wipe (σ.set i none) vs).set i none = (wipe σ vs).set i none := fun vs => by
        induction vs with
        | nil => simp [wipe]
        | cons v vs ih =>
          show ((wipe (σ.set i none) vs).set v none).set i none = ((wipe σ vs).set v none).set i none
          by_cases e : v = i
          · subst e; rw [List.set_set, List.set_set, ih]
          · rw [List.set_comm _ _ e, List.set_comm _ _ e, ih]
      exact g vs
    · rw [wipe_none σ i vs h]
theorem wipe_wipe (σ : L2.St) (vs : List Nat) : ∀ us : List Nat, (∀ u ∈ us, u ∈ vs) → wipe (wipe σ us) vs = wipe σ vs
  | [], _ => rfl
  | u :: us, h => by
    show wipe ((wipe σ us).set u none) vs = _
    rw [wipe_none _ u vs (h u List.mem_cons_self), wipe_wipe σ vs us fun v hv => h v (List.mem_cons_of_mem _ hv)]
/-- a clause's test -/
def tC1 (Γ : Gm) (G : Prog) (h : Hd) (c : E) : TT := tT Γ (wx fun _ _ _ => False) G h c
def lcF (G : Prog) (h : Hd) (t : T) (c elt : E) (own : List Nat) (env : Env) (x : P) (S : Sto) : Res (Option P) :=
  match T.bind t x (wipeE env own) with
      | some e' => (ev G h c e' S).bind fun b S => match b with
        | .p (.bl true) => (ev G h elt e' S).bind fun v S => match v.toP with
          | some d => .ok (some d) S
          | none => .stk
        | .p (.bl false) => .ok none S
        | _ => .stk
      | none => .stk
theorem ev_lc' (env : Env) (S : Sto) (t : T) (it c elt : E) (own : List Nat) : ev G h (.lc t it c elt own) env S = (evI G h it env S).bind fun xs S =>
    (lcGo (lcF G h t c elt own env) xs [] S).bind fun ds S => if ds.length ≤ BIG then .ok (.p (.lst ds)) S else .stk := rfl
theorem lc_walk {t : T} {it elt : E} {own : List Nat} {L : Addr → Prop} {m : Nat → Addr} {env : Env} {S : Sto} {σ : L2.St} {H : Hp} {Kk : Val → Sto → Hp → Prop} {Q : VK} (ho : T.slots t ⊆ own)
    (sr : SRep Γ L m env S σ H) (q : EvR Γ (wx W) L m env σ S H (ev G h (.lc t it c elt own) env S) Kk)
    (fin : ∀ S ds D xs H, SRep Γ L m env S σ H → H D = some (.lst xs) → ¬ L D → Reps Γ H ds xs → (∀ H', (∀ b, b ≠ D → H' b = H b) → Kk (.p (.lst ds)) S H') → Q (.ref D) H) :
    tLc (tI Γ (wx W) G h it) (gT Γ t) (tC1 Γ G h c) (tE Γ (wx fun _ _ _ => False) G h elt) own σ H Q := by
  rw [ev_lc'] at q
  refine ⟨L, m, env, S, sr, q.bind.mono fun ds S1 H1 k1 d1 s1 q1 J hJ D hD => ?_⟩
  have nD : ¬ L D := fun z => by
    obtain ⟨xs, e, _⟩ := s1.lm D z
    rw [hD] at e
    cases e
  cases hgo : lcGo (lcF G h t c elt own env) ds [] S1 with
  | stk => rw [hgo] at q1; exact q1.elim
  | exc cc dd SS =>
    exfalso
    have g : ∀ (xs acc : List P) (S : Sto), lcGo (lcF G h t c elt own env) xs acc S ≠ .exc cc dd SS := fun xs => by
      induction xs with
      | nil => intro acc S z; cases z
      | cons x xs ih =>
        intro acc S z
        simp only [lcGo] at z
        split at z
        · exact ih _ _ z
        · exact ih _ _ z
        · cases z
    exact g _ _ _ hgo
  | ok dsF SF =>
    rw [hgo] at q1
    have q1 : EvR Γ (wx W) L m env σ S1 H1 (if dsF.length ≤ BIG then .ok (.p (.lst dsF)) SF else .stk) Kk := q1
    by_cases hb : dsF.length ≤ BIG
    case neg =>
      rw [if_neg hb] at q1
      exact q1.elim
    rw [if_pos hb] at q1
    have hJ : L2.Walk J ds.length (fun H => Per H1 H) fun i H x H' => Same H H' ∧ ∃ d, ds[i]? = some d ∧ Rep Γ H' d x := hJ
    refine lc_it hJ (fun i H => ∃ S' accP accV, lcGo (lcF G h t c elt own env) (ds.drop i) accP S' = .ok dsF SF ∧ H D = some (.lst accV) ∧ Reps Γ H accP accV ∧ SRep Γ L m env S' σ H ∧ Keep L H1 H ∧ Dom S1 S') ?_ ?_ ?_ ?_
    · exact ⟨S1, [], [], hgo, upd_same, reps_nil.mpr rfl, s1.same (Same.new hD), Keep.of (Same.new hD), Dom.refl _⟩
    · rintro i H _ ⟨S', accP, accV, _, _, _, _, kk, _⟩
      exact kk.per s1.lm
    · rintro i x H H' hi ⟨S', accP, accV, g1, g2, g3, g4, g5, g6⟩ ⟨sm, d, ed, rd⟩
      have hdr : ds.drop i = d :: ds.drop (i + 1) := by
        obtain ⟨hl, e⟩ := List.getElem?_eq_some_iff.mp ed
        rw [← e]
        exact List.drop_eq_getElem_cons hl
      rw [hdr] at g1
      simp only [lcGo] at g1
      have sr1 : SRep Γ L m env S' σ H' := g4.same sm
      have kH : Keep L H1 H' := g5.trans (Keep.of sm)
      unfold lcF at g1
      cases eb : T.bind t d (wipeE env own) with
      | none => rw [eb] at g1; cases g1
      | some e' =>
        rw [eb] at g1
        refine ⟨L, m, wipeE env own, S', d, e', sr1.wipe own, rd, eb, fun σ2 hw s2 => ⟨(hw own ho).trans (wipe_wipe σ own own fun _ h => h), L, m, e', S', s2, ?_⟩⟩
        cases ec : ev G h c e' S' with
        | stk => simp only [ec, Res.bind] at g1; cases g1
        | exc _ _ _ => simp only [ec, Res.bind] at g1; cases g1
        | ok v S2 =>
          simp only [ec, Res.bind] at g1
          intro H2 k2 d2 s3
          split at g1
          · rename_i y Sy ey
            split at ey
            · refine ⟨true, rfl, ?_⟩
              dsimp only
              rw [if_pos rfl]
              refine ⟨L, m, e', S2, s3, ?_⟩
              cases ee : ev G h elt e' S2 with
              | stk => rw [ee] at ey; cases ey
              | exc _ _ _ => rw [ee] at ey; cases ey
              | ok v2 S3 =>
                rw [ee] at ey
                simp only at ey
                intro H3 k3 d3 s4 yv hy
                split at ey
                · rename_i dd ed2
                  cases ey
                  have k4 : Keep L H' H3 := k2.trans k3
                  have hD3 : H3 D = some (.lst accV) := by
                    exact k4 D _ (sm _ _ g2) nD (by intro ps z; cases z)
                  have hlen := lcGo_len g1
                  have racc : Reps Γ H3 accP accV := Reps.per (k4.per sr1.lm) _ _ (Reps.per (per_of sm) _ _ g3)
                  refine ⟨accV, hD3, ?_, Sy, accP ++ [y], accV ++ [yv], g1, upd_same, ?_, ?_, ?_, ?_⟩
                  · rw [← racc.length]
                    rw [List.length_append] at hlen
                    have := big_line
                    have h1 : accP.length + 1 ≤ BIG := by
                      have : [y].length = 1 := rfl
                      omega
                    have : 0 < BIG := by decide
                    omega
                  · have p := per_at (H' := upd H3 D (.lst (accV ++ [yv]))) hD3 fun b hb => upd_ne hb
                    exact Reps.per p _ _ (racc.append (reps_cons'.mpr ⟨toP_rep hy ed2, reps_nil.mpr rfl⟩))
                  · exact (sr1.back k4 (d2.trans d3) s4).at_ nD hD3 (.inl ⟨_, rfl⟩) fun b hb => upd_ne hb
                  · exact keep_at (kH.trans k4) (Fresh.of hD) fun b hb => upd_ne hb
                  · exact g6.trans (d2.trans d3)
                · cases ey
            · cases ey
            · cases ey
          · rename_i Sy ey
            split at ey
            · exfalso
              cases ee : ev G h elt e' S2 with
              | stk => rw [ee] at ey; cases ey
              | exc _ _ _ => rw [ee] at ey; cases ey
              | ok v2 S3 =>
                rw [ee] at ey
                simp only at ey
                split at ey <;> cases ey
            · cases ey
              refine ⟨false, rfl, ?_⟩
              dsimp only
              rw [if_neg Bool.false_ne_true]
              have hD3 : H2 D = some (.lst accV) := by
                exact k2 D _ (sm _ _ g2) nD (by intro ps z; cases z)
              exact ⟨S2, accP, accV, g1, hD3, Reps.per (k2.per sr1.lm) _ _ (Reps.per (per_of sm) _ _ g3), sr1.back k2 d2 s3, kH.trans k2, g6.trans d2⟩
            · cases ey
          · cases g1
    · rintro H ⟨S', accP, accV, g1, g2, g3, g4, g5, g6⟩
      rw [List.drop_length] at g1
      cases g1
      exact fin SF dsF D accV H g4 g2 nD g3 fun H' he => q1 H' (keep_at g5 (Fresh.of hD) he) g6 (g4.at_ nD g2 (.inl ⟨_, rfl⟩) he)
theorem pe_lcx (o : XOk Γ G h k C W X) {t : T} {it elt : E} {own : List Nat} {el iter : Expr} {ifs : List Expr} {scope : Scope} (hb : blkC C.N C.sc scope (ownP C.N own) = true) (hown : (ownP C.N own).map (·.2) = own) (ho : T.slots t ⊆ own)
    (hi : PI X tg iter (tI Γ (wx W) G h it)) (hg : ∀ (X' : Cx), XOk Γ G h k (C.blk scope) (fun _ _ _ => False) X' → PG X' tg (gT Γ t))
    (ht : ∀ (X' : Cx), XOk Γ G h k (C.blk scope) (fun _ _ _ => False) X' → PTs X' ifs (tC1 Γ G h c)) (he : ∀ (X' : Cx), XOk Γ G h k (C.blk scope) (fun _ _ _ => False) X' → PE X' el (tE Γ (wx fun _ _ _ => False) G h elt))
    (hs : notSet iter = true) :
    PE X (.ListComp el [⟨tg, iter, ifs, 0⟩] scope pos) (tE Γ (wx W) G h (.lc t it c elt own)) ∧ PE X (.ListComp el [⟨tg, iter, ifs, 0⟩] scope pos) (tN Γ (wx W) G h (.lc t it c elt own)) := by
  have ok : BlkOk X.N X.env.scope scope (ownP C.N own) := by
    rw [o.N, o.sc]
    exact blkOk_by hb
  have xok : ∀ (s : Shared) (H : Hp) (D : Addr) (cl : List (Str × Addr)) (fp : List Addr), XOk Γ G h k (C.blk scope) (fun _ _ _ => False) (X.blk s H scope (compEnvC scope cl D X.env) fp) := fun s H D cl fp =>
    { K := o.K, mg := o.mg, gn := o.gn, N := o.N, nd := o.nd, sc := by rw [Ctx.blk, ← o.sc]; rfl, st := fun x e => e, calm := o.calm, tk := fun u s' ⟨a, B, sI, pins, σ, H, cls, d, e, I, nb, up, sky, na, os, ag, w⟩ => w, room := o.room, room2 := fun z => absurd z Bool.false_ne_true, tr := fun z => absurd z Bool.false_ne_true, kin := o.kin, bl := o.bl, glb := o.glb, arr := o.arr, cl := CloK.no rfl rfl, fns := o.fns }
  have base := pe_lc (pos := pos) (elt := el) o.calm (by rw [o.N]; exact o.nd) hi ok (fun s H D cl fp => hg _ (xok s H D cl fp)) (fun s H D cl fp => ht _ (xok s H D cl fp)) (fun s H D cl fp => he _ (xok s H D cl fp)) (foldedSet_ok hs)
  rw [hown] at base
  refine ⟨PE.imp (pe_frz base) fun σ H Q ⟨L, m, env, S, sr, q⟩ => ?_, PE.imp base fun σ H Q ⟨L, m, env, S, sr, q⟩ => ?_⟩
  · refine lc_walk ho sr q fun S ds D xs H s2 hD nD r g => .inr ⟨D, xs, rfl, hD, fun ob => ?_⟩
    have p := per_at (H' := upd H D (.frz ob (.lst xs))) hD fun b hb => upd_ne hb
    refine g _ (fun b hb => upd_ne hb) (.ref D) ?_
    simp only [VRep, Rep]
    exact ⟨D, xs, rfl, .inl ⟨ob, upd_same⟩, Reps.per p _ _ r⟩
  · refine lc_walk ho sr q fun S ds D xs H s2 hD nD r g => ?_
    have he : ∀ b, b ≠ D → (fun b => if b = D then none else H b : Hp) b = H b := fun b hb => if_neg hb
    obtain ⟨ps, e, _, q2⟩ := g (fun b => if b = D then none else H b) he
    cases e
    have := q2 D _ (if_pos rfl) ⟨xs, rfl, Reps.per (per_at hD he) _ _ r⟩
    have e2 : upd (fun b => if b = D then none else H b : Hp) D (.lst xs) = H := by
      funext b
      by_cases hb : b = D
      · subst hb
        rw [upd_same, hD]
      · rw [upd_ne hb, if_neg hb]
    rw [e2] at this
    exact this
end
end Hb

/-! Methods of lists. -/
namespace Hb
open PySem PySem.Spec PyProof.Rows L2

section
variable {Γ : Gm} {L : Addr → Prop} {m : Nat → Addr} {env : Env} {S : Sto} {σ : L2.St} {H : Hp}
/-- what stands at a place of ours is written -/
theorem SRep.writeC (sr : SRep Γ L m env S σ H) {n : Nat} {d d' : P} {u u' : HO} (e : S.get n = some d) (hH : H (m n) = some u) (mu : MutC u (m n)) (r : CRep Γ H d' u' (m n)) :
    SRep Γ L m env (S.put n d') σ (upd H (m n) u') ∧ Keep L H (upd H (m n) u') ∧ Dom S (S.put n d') := by
  have p : Per H (upd H (m n) u') := per_atC hH mu fun b hb => upd_ne hb
  have dm : Dom S (S.put n d') := fun k hk => by
    rw [put_get]
    split
    · rfl
    · exact hk
  have hn : (S.get n).isSome = true := by rw [e]; rfl
  have back : ∀ k, ((S.put n d').get k).isSome = true → (S.get k).isSome = true := fun k hk => by
    rw [put_get] at hk
    split at hk
    · rename_i q
      rw [q]
      exact hn
    · exact hk
  refine ⟨⟨sr.len, fun i v q => ?_, ⟨fun k o q => ?_, fun k k' h1 h2 h3 => sr.sto.inj k k' (back k h1) (back k' h2) h3, tabs_of sr.sto.tabs fun b o e n => (upd_ne fun z => n (by rw [z, hH] at e; cases e; rw [z]; exact mu)).trans e⟩, fun k hk => sr.live k (back k hk), fun b hb => ?_⟩, fun b o h1 h2 h3 => ?_, dm⟩
  · obtain ⟨x, h1, h2⟩ := sr.ee i v q
    exact ⟨x, h1, h2.mono p dm⟩
  · rw [put_get] at q
    by_cases hk : k = n
    · rw [if_pos hk] at q
      cases q
      subst hk
      exact ⟨u', upd_same, r.per p⟩
    · rw [if_neg hk] at q
      have ne : m k ≠ m n := fun z => hk (sr.sto.inj k n (by rw [q]; rfl) hn z)
      exact (sr.sto.at_ k o q).per p fun w q3 _ => by rw [upd_ne ne]; exact q3
  · by_cases hb2 : b = m n
    · subst hb2
      exact ⟨u', upd_same, r.mutC⟩
    · rw [upd_ne hb2]
      exact sr.lm b hb
  · have ne : b ≠ m n := fun z => h2 (z ▸ sr.live n hn)
    rw [upd_ne ne]
    exact h1
/-- a list of ours is written -/
theorem SRep.write (sr : SRep Γ L m env S σ H) {n : Nat} {ps ps' : List P} {xs xs' : List V} (e : S.get n = some (.lst ps)) (hH : H (m n) = some (.lst xs)) (r : Reps Γ H ps' xs') :
    SRep Γ L m env (S.put n (.lst ps')) σ (upd H (m n) (.lst xs')) ∧ Keep L H (upd H (m n) (.lst xs')) ∧ Dom S (S.put n (.lst ps')) :=
  sr.writeC e hH (.inl ⟨xs, rfl⟩) ⟨xs', rfl, r⟩
end
theorem getLast_rep {Γ : Gm} {H : Hp} {ps : List P} {xs : List V} {d : P} (r : Reps Γ H ps xs) (e : ps.getLast? = some d) : ∃ y, xs[xs.length - 1]? = some y ∧ Rep Γ H d y := by
  rw [List.getLast?_eq_getElem?] at e
  rw [← r.length]
  exact r.get e
section
variable {Γ : Gm} {G : Prog} {h : Hd} {k : Nat} {C : Ctx} {W : XK} {X : Cx} {a b c es : E} {x y z tg : Expr} {pos : Pos}
theorem ev_met (env : Env) (S : Sto) (m : Mt) (o : E) : ev G h (.met m o es) env S = (ev G h o env S).bind fun x S => match rd S x with
    | some (.lst _) => (evs G h es env S).bind fun vs S => metV m x vs S
    | _ => .stk := rfl
theorem tyV_l {L : Addr → Prop} {m : Nat → Addr} {env : Env} {S : Sto} {σ : L2.St} {H : Hp} (sr : SRep Γ L m env S σ H) {n : Nat} {v : V} {ps : List P} (hx : VRep Γ m S H (.l n) v) (e : S.get n = some (.lst ps)) : ∃ xs, v = .ref (m n) ∧ H (m n) = some (.lst xs) ∧ Reps Γ H ps xs := by
  obtain ⟨rfl, hs⟩ := hx
  obtain ⟨xs, h1, h2⟩ := (sr.sto.at_ n _ e).lst
  exact ⟨xs, rfl, h1, h2⟩
/-- what a method of a list does, behind its arguments -/
theorem met_ok (o : XOk Γ G h k C W X) {mt : Mt} {r : V → List V → Hp → VK → Prop} {t : TA} (hr : ∀ {L m env S σ H v xv vs xs Q}, SRep Γ L m env S σ H → VRep Γ m S H v xv → VReps Γ m S H vs xs → EvR Γ (wx W) L m env σ S H (metV mt v vs S) (VK' Γ m Q) → r xv xs H Q)
    {σ : L2.St} {H : Hp} {Q : VK} (ht : ∀ σ H Q, tA Γ (wx W) G h es σ H Q → t σ H Q) (q : tE Γ (wx W) G h (.met mt a es) σ H Q) : tBM X.K "list" r (tE Γ (wx W) G h a) t σ H Q := by
  obtain ⟨L, m, env, S, sr, q⟩ := q
  rw [ev_met] at q
  refine ⟨L, m, env, S, sr, q.bind.mono fun v S1 H1 k1 d1 s1 q1 xv hx => ?_⟩
  split at q1
  · rename_i ps e
    have hl : tyV X.K "list" xv H1 := by
      rw [o.K]
      obtain ⟨p, xs, rfl, h1, _⟩ := (rd_rep s1.sto hx e).lst
      exact .inl ⟨rfl, _, h1⟩
    refine ⟨hl, ht _ _ _ ⟨L, m, env, S1, s1, q1.bind.mono fun vs S2 H2 k2 d2 s2 q2 xs hxs => ?_⟩⟩
    exact hr s2 (hx.mono (k2.per s1.lm) d2) hxs q2
  · exact q1.elim
/-- xs.append(e) -/
theorem pe_app (o : XOk Γ G h k C W X) {ap : Pos} (hn : isName x = true) (hl : (ap.endLine == pos.line) = true) (hs : notStar y = true) (ha : PE X x (tE Γ (wx W) G h a)) (hb : PA X [y] (tA Γ (wx W) G h es)) :
    PE X (.Call (.Attribute x ("append" : Str) ap) [y] [] pos) (tE Γ (wx W) G h (.met .append a es)) := by
  have hbase : attributeBase x ("append" : Str) X.env (eval x X.env) = eval x X.env := by
    cases x <;> first | rfl | exact absurd hn Bool.false_ne_true
  refine PE.imp (pe_bm PySem.F.plainAttrs_list PySem.F.slot_list_append PySem.F.type_list_append mt_append ha hb hbase (by rw [star_ok hs]; rfl) hl (star_ok hs) rfl) fun σ H Q q => met_ok o ?_ (fun _ _ _ q => q) q
  intro L m env S σ H v xv vs xs Q sr hx hxs q
  unfold metV at q
  split at q
  · exact q.elim
  · rename_i ds ed
    have rs := toPs_rep hxs ed
    dsimp only at q
    split at q
    · rename_i n d
      obtain ⟨z, zs, rfl, r1, r2⟩ := reps_cons.mp rs
      cases reps_nil.mp r2
      try dsimp only at q
      split at q
      · rename_i ps e1
        obtain ⟨ys, rfl, e2, e3⟩ := tyV_l sr hx e1
        split at q
        · rename_i hlen
          obtain ⟨w1, w2, w3⟩ := sr.write e1 e2 (e3.append (reps_cons'.mpr ⟨r1, reps_nil.mpr rfl⟩))
          exact ⟨_, _, _, rfl, rfl, e2, by rw [← e3.length]; have := big_line; omega, q _ w2 w3 w1 _ (by simp only [VRep, Rep])⟩
        · exact q.elim
      · exact q.elim
    · exact q.elim
/-- xs.pop() -/
theorem pe_popx (o : XOk Γ G h k C W X) {ap : Pos} (hn : isName x = true) (hl : (ap.endLine == pos.line) = true) (ha : PE X x (tE Γ (wx W) G h a)) (he : es = .nil) :
    PE X (.Call (.Attribute x ("pop" : Str) ap) [] [] pos) (tE Γ (wx W) G h (.met .pop a es)) := by
  subst he
  have hbase : attributeBase x ("pop" : Str) X.env (eval x X.env) = eval x X.env := by
    cases x <;> first | rfl | exact absurd hn Bool.false_ne_true
  refine PE.imp (pe_bm0 PySem.F.plainAttrs_list PySem.F.slot_list_pop PySem.F.type_list_pop mt_pop ha hbase hl) fun σ H Q q => ?_
  have := met_ok (t := tNil) (r := rPop) o (fun {L m env S σ H v xv vs xs Q} sr hx hxs q => ?_) (fun σ H Q ⟨L, m, env, S, sr, q⟩ => q.ok sr [] rfl) q
  · exact this
  · unfold metV at q
    split at q
    · exact q.elim
    · rename_i ds ed
      have rs := toPs_rep hxs ed
      dsimp only at q
      split at q
      · rename_i n
        cases reps_nil.mp rs
        try dsimp only at q
        split at q
        · rename_i ps e1
          obtain ⟨ys, rfl, e2, e3⟩ := tyV_l sr hx e1
          split at q
          · rename_i d hd
            rw [List.getLast?_eq_getElem?] at hd
            obtain ⟨z, hz, rz⟩ := e3.get hd
            obtain ⟨w1, w2, w3⟩ := sr.write e1 e2 e3.dropLast
            exact ⟨_, _, z, rfl, rfl, e2, by rw [← e3.length]; exact hz, q _ w2 w3 w1 _ (Rep.per (per_at e2 fun b hb => upd_ne hb) _ _ rz)⟩
          · exact q.elim
        · exact q.elim
      · exact q.elim
theorem toDs_get : ∀ (ds : List P) (i : Nat), (P.toDs ds)[i]? = (ds[i]?).map P.toD
  | [], i => by simp [P.toDs]
  | d :: ds, 0 => by simp [P.toDs]
  | d :: ds, i + 1 => by
    simp only [P.toDs, List.getElem?_cons_succ]
    exact toDs_get ds i
/-- xs.index(e) -/
theorem pe_index (o : XOk Γ G h k C W X) {ap : Pos} (hn : isName x = true) (hl : (ap.endLine == pos.line) = true) (hs : notStar y = true) (ha : PE X x (tE Γ (wx W) G h a)) (hb : PA X [y] (tA Γ (wx W) G h es)) :
    PE X (.Call (.Attribute x ("index" : Str) ap) [y] [] pos) (tE Γ (wx W) G h (.met .index a es)) := by
  have hbase : attributeBase x ("index" : Str) X.env (eval x X.env) = eval x X.env := by
    cases x <;> first | rfl | exact absurd hn Bool.false_ne_true
  refine PE.imp (pe_bm PySem.F.plainAttrs_list PySem.F.slot_list_index PySem.F.type_list_index (mt_indexD o.u65) ha hb hbase (by rw [star_ok hs]; rfl) hl (star_ok hs) rfl) fun σ H Q q => met_ok o ?_ (fun _ _ _ q => q) q
  intro L m env S σ H v xv vs xs Q sr hx hxs q
  unfold metV at q
  split at q
  · exact q.elim
  · rename_i ds ed
    have rs := toPs_rep hxs ed
    dsimp only at q
    split at q
    · rename_i da ea
      have ra := rd_rep sr.sto hx ea
      cases e : metP .index da ds with
      | none =>
        rw [e] at q
        exact q.elim
      | some d =>
        rw [e] at q
        unfold metP at e
        split at e
        · rename_i ps y _
          obtain ⟨z, zs, rfl, r1, r2⟩ := reps_cons.mp rs
          cases reps_nil.mp r2
          split at e
          · rename_i hc
            simp only [cmpb, Bool.and_eq_true] at hc
            obtain ⟨p, ys, rfl, h1, h2⟩ := ra.lst
            have d1 := ra.dp hc.1
            have d2 : Dp Γ.K H z y.toD := RRep.dp (Γ := Γ) (H := H) (d := y) (x := z) (Or.inl r1) hc.2
            have s1 := dep_shaped hc.1
            have s2 := dep_shaped hc.2
            rw [toD_lst] at d1 s1
            cases ei : ps.findIdx? fun z => P.eqv z y with
            | none =>
              rw [ei] at e
              cases e
            | some j =>
              rw [ei] at e
              cases e
              obtain ⟨hj, h3, h4⟩ := List.findIdx?_eq_some_iff_getElem.mp ei
              refine ⟨p, z, y.toD, P.toDs ps, j, (ps[j]).toD, rfl, rfl, by rw [o.K]; exact d1, by rw [o.K]; exact d2, s1, s2, ?_, h3, fun i z' hi hz => ?_, q.ok sr _ rfl⟩
              · rw [toDs_get, List.getElem?_eq_getElem hj]
                rfl
              · rw [toDs_get, List.getElem?_eq_getElem (Nat.lt_trans hi hj)] at hz
                cases hz
                have := h4 i hi
                simpa [P.eqv] using this
          · cases e
        · exact absurd ‹Mt.index = Mt.count› (by decide)
        · cases e
    · exact q.elim
theorem ev_cnt (env : Env) (S : Sto) : ev G h (.cnt a b) env S = (ev G h a env S).bind fun x S => match x with
    | .p (.tup xs) => (ev G h b env S).bind fun v S => match v with
      | .p d => if cmpb (.tup xs) d then .ok (.p (.int (xs.countP fun z => P.eqv z d))) S else .stk
      | _ => .stk
    | _ => .stk := rfl
theorem toDs_countP (f : PyData → Bool) : ∀ ds : List P, (P.toDs ds).countP f = ds.countP fun d => f d.toD
  | [] => rfl
  | d :: ds => by
    simp only [P.toDs, List.countP_cons, toDs_countP f ds]
def rCountD (K : PySem.W.Frag) : V → List V → Hp → VK → Prop := fun x xs H Q => ∃ (a : Addr) (y : V) (d : PyData) (ds : List PyData), x = V.ref a ∧ xs = [y] ∧ Dp K H (V.ref a) (.tuple ds) ∧ Dp K H y d ∧
  SeqAt.shaped (.tuple ds) = true ∧ SeqAt.shaped d = true ∧ Q (.int (ds.countP fun z => PyData.eqv z d : Nat)) H
theorem mt_countD (hu : X.A.units + 65 < cLine) : MtR X "tuple.count" (rCountD X.K) := by
  intro pins s σ H x xs v us Q I rx rxs h
  obtain ⟨a, y, d, ds, rfl, rfl, hl, hy, sl, sd, q⟩ := h
  cases rx
  cases rxs with
  | cons ry rt =>
    rename_i uy ut
    cases rt
    obtain ⟨bs, r1⟩ := Dp.reads I d y uy hy ry
    have hxs : PyData.canLayAll0 ds = true := SeqAt.canLay_of_shaped sl
    have hroom : X.A.units + 1 + min (PyData.depthAll ds) d.depth < cLine := room_in_shaped sd hu
    cases hl with
    | tup hs ha =>
      obtain ⟨its, rv, ⟨⟨cls, dd, data, sls⟩, ho, hc, n, hdt⟩, hlen⟩ := I.tuple hs
      simp only at hc hdt
      subst hc hdt
      obtain ⟨as, h4⟩ := Dp.readsAll I ds _ its ha rv
      have hmap : its.map (SeqAt.readOf s.heap) = ds := SeqAt.readsAll_map ds its as hxs h4
      refine call_meets PySem.F.slot_tuple_count ⟨_, ho, rfl⟩ PySem.F.entry_tuple_count (PySem.F.args_tuple_count_2 _ _)
        (SeqAt.tuple_countAt a its.toArray n dd sls uy (fun u => PyData.eqv (SeqAt.readOf s.heap u) d)) ⟨ho, SeqAt.items_eqAt (vs := its.toArray) (show ReadsAll s.heap its.toArray.toList ds as from h4) r1 hxs (SeqAt.canLay_of_shaped sd) hroom, ?_⟩
      have e : its.toArray.toList.countP (fun u => PyData.eqv (SeqAt.readOf s.heap u) d) = ds.countP fun z => PyData.eqv z d := by
        rw [← hmap, List.countP_map]
        rfl
      rw [e]
      exact ⟨.int _, H, I.tok _, ⟨_, rfl⟩, q⟩
def tBMC (r : V → List V → Hp → VK → Prop) (to : TE) (t : TA) : TE := fun σ H Q => to σ H fun x H1 => (∃ p xs, x = V.ref p ∧ SqC H1 p xs) ∧ t σ H1 fun xs H2 => r x xs H2 Q
theorem pe_bmC {e e2 : Expr} {to : TE} {t : TA} {name : Str} {apos cpos : Pos} {id : String} {r : V → List V → Hp → VK → Prop} (slot : Slot "tuple" name id) (hty : typeOf (.builtin id) = pure (.type "method_descriptor")) (hm : MtR X id r) (ho : PE X e to) (ha : PA X [e2] t)
    (hbase : attributeBase e name X.env (eval e X.env) = eval e X.env)
    (hfew : ((backTo cpos (starEach [e2] X.env)).all (fun x => !x.1) && (backToKw cpos (keywordEach [] X.env)).all (fun x => x.1.isSome)
      && decide ([e2].length + ([] : List Keyword).length + (if ([] : List Keyword).isEmpty then 0 else 1) < 30)) = true)
    (hline : (apos.endLine == cpos.line) = true) (hs : starEach [e2] X.env = [(false, eval e2 X.env)]) :
    PE X (.Call (.Attribute e name apos) [e2] [] cpos) (tBMC r to t) := by
  refine ⟨fun pins s σ H Q I h => ?_⟩
  refine wpAny_Call_method_late hbase hfew hline rfl (thn (ho.run pins s σ H _ I h) fun v s1 ⟨x, H1, I1, r1, ⟨p, xs, ex, o, hp, hd⟩, q1⟩ => ?_)
  subst ex
  cases r1
  obtain ⟨g1, g2, its, rv, g3⟩ := I1.hok p _ hp
  refine ⟨"tuple", id, PySem.F.plainAttrs_tuple, slot, hty, g3.typeIs, fun a e => by cases e; exact ⟨o, g1, hd⟩, ?_⟩
  have hA := ha.run cpos pins s1 σ H1 _ I1 q1
  rw [hs] at hA ⊢
  refine Calls.callWith_builtin rfl (Calls.evalArgs_plain ?_)
  exact thn hA fun us s2 ⟨vs, H2, I2, r2, q2⟩ => hm pins s2 σ H2 (V.ref p) vs (Value.ref p) us Q I2 rfl r2 q2
/-- t.count(e), t a tuple of this run -/
theorem pe_cnt (o : XOk Γ G h k C W X) {ap : Pos} (hn : isName x = true) (hl : (ap.endLine == pos.line) = true) (hs : notStar y = true) (ha : PE X x (tE Γ (wx W) G h a)) (hb : PE X y (tE Γ (wx W) G h b)) :
    PE X (.Call (.Attribute x ("count" : Str) ap) [y] [] pos) (tE Γ (wx W) G h (.cnt a b)) := by
  have hbase : attributeBase x ("count" : Str) X.env (eval x X.env) = eval x X.env := by
    cases x <;> first | rfl | exact absurd hn Bool.false_ne_true
  refine PE.imp (pe_bmC PySem.F.slot_tuple_count PySem.F.type_tuple_count (mt_countD o.u65) ha (pa_cons hb pa_nil (star_ok hs)) hbase (by rw [star_ok hs]; rfl) hl (star_ok hs)) fun σ H Q ⟨L, m, env, S, sr, q⟩ => ?_
  rw [ev_cnt] at q
  refine ⟨L, m, env, S, sr, q.bind.mono fun v S1 H1 k1 d1 s1 q1 xv hx => ?_⟩
  split at q1
  · rename_i ps
    have hx : Rep Γ H1 (.tup ps) xv := hx
    simp only [Rep] at hx
    obtain ⟨p, xs, rfl, h1, h2⟩ := hx
    refine ⟨⟨p, xs, rfl, h1⟩, L, m, env, S1, s1, q1.bind.mono fun v2 S2 H2 k2 d2 s2 q2 y hy => ?_⟩
    split at q2
    · rename_i d
      split at q2
      · rename_i hc
        simp only [cmpb, Bool.and_eq_true] at hc
        have pr := k2.per s1.lm
        have rx : Rep Γ H2 (.tup ps) (.ref p) := Rep.per pr _ _ (by simp only [Rep]; exact ⟨p, xs, rfl, h1, h2⟩)
        have e1 := Rep.dp _ _ _ rx hc.1
        have e2 : Dp Γ.K H2 y d.toD := Rep.dp _ _ _ hy hc.2
        have g1 := dep_shaped hc.1
        have g2 := dep_shaped hc.2
        rw [toD_tup] at e1 g1
        refine ⟨p, y, d.toD, P.toDs ps, rfl, rfl, by rw [o.K]; exact e1, by rw [o.K]; exact e2, g1, g2, ?_⟩
        rw [toDs_countP]
        exact q2.ok s2 _ rfl
      · exact q2.elim
    · exact q2.elim
  · exact q1.elim
end
end Hb

/-! Expressions, part 4: all of it. -/
namespace Hb
open PySem PySem.Spec PyProof.Rows L2

/-- makes a new list -/
def mkr : E → Bool
  | .op o _ _ => o.bop.isSome
  | .lst _ => true
  | .slc _ _ _ => true
  | .bi _ _ => true
  | .lc _ _ _ _ _ => true
  | .lrng _ => true
  | .dsp0 => true
  | .dsp1 _ _ => true
  | _ => false

/-! ### what the checker says -/
section
variable {C : Ctx} {x : Expr} {a b c es : E}
theorem inv_op {o : O2} (h : chk (.op o a b) C x = true) : (∃ l op r p, x = .BinOp l op r p ∧ o.bop = some op ∧ chk a C l = true ∧ chk b C r = true) ∨ ∃ l op r p, x = .Compare l [op] [r] p ∧ o.cop = some op ∧ behindInMarks op r = false ∧ chk a C l = true ∧ chk b C r = true := by
  cases x
  case BinOp l op r p =>
    have h : (decide (o.bop = some op) && chk a C l && chk b C r) = true := h
    simp only [Bool.and_eq_true, decide_eq_true_eq] at h
    exact .inl ⟨_, _, _, _, rfl, h.1.1, h.1.2, h.2⟩
  case Compare l ops rs p =>
    cases ops with
    | nil => exact absurd h Bool.false_ne_true
    | cons op ops =>
      cases ops with
      | cons _ _ => exact absurd h Bool.false_ne_true
      | nil =>
        cases rs with
        | nil => exact absurd h Bool.false_ne_true
        | cons r rs =>
          cases rs with
          | cons _ _ => exact absurd h Bool.false_ne_true
          | nil =>
            have h : (decide (o.cop = some op) && !behindInMarks op r && chk a C l && chk b C r) = true := h
            simp only [Bool.and_eq_true, decide_eq_true_eq, Bool.not_eq_true'] at h
            exact .inr ⟨_, _, _, _, rfl, h.1.1.1, h.1.1.2, h.1.2, h.2⟩
  all_goals exact absurd h Bool.false_ne_true
theorem inv_neg (h : chk (.neg a) C x = true) : ∃ l p, x = .UnaryOp .USub l p ∧ chk a C l = true := by
  cases x
  case UnaryOp op l p =>
    cases op
    case USub => exact ⟨_, _, rfl, h⟩
    all_goals exact absurd h Bool.false_ne_true
  all_goals exact absurd h Bool.false_ne_true
theorem inv_not (h : chk (.not a) C x = true) : ∃ l p, x = .UnaryOp .Not l p ∧ tst a = true ∧ chk a C l = true := by
  cases x
  case UnaryOp op l p =>
    cases op
    case Not =>
      have h : (tst a && chk a C l) = true := h
      simp only [Bool.and_eq_true] at h
      exact ⟨_, _, rfl, h.1, h.2⟩
    all_goals exact absurd h Bool.false_ne_true
  all_goals exact absurd h Bool.false_ne_true
theorem inv_chain {o1 o2 : O2} (h : chk (.chain o1 o2 a b c) C x = true) : ∃ l p1 p2 r1 r2 p, x = .Compare l [p1, p2] [r1, r2] p ∧ o1.cop = some p1 ∧ o1.ord = true ∧ o2.cop = some p2 ∧ o2.ord = true ∧ lastMarks [p1, p2] [r1, r2] = false ∧ chk a C l = true ∧ chk b C r1 = true ∧ chk c C r2 = true := by
  cases x
  case Compare l ops rs p =>
    rcases ops with _ | ⟨p1, _ | ⟨p2, _ | ⟨p3, ops⟩⟩⟩ <;> rcases rs with _ | ⟨r1, _ | ⟨r2, _ | ⟨r3, rs⟩⟩⟩ <;> try exact absurd h Bool.false_ne_true
    have h : (decide (o1.cop = some p1) && o1.ord && decide (o2.cop = some p2) && o2.ord && !lastMarks [p1, p2] [r1, r2] && chk a C l && chk b C r1 && chk c C r2) = true := h
    simp only [Bool.and_eq_true, decide_eq_true_eq, Bool.not_eq_true'] at h
    obtain ⟨⟨⟨⟨⟨⟨⟨h1, h2⟩, h3⟩, h4⟩, h5⟩, h6⟩, h7⟩, h8⟩ := h
    exact ⟨_, _, _, _, _, _, rfl, h1, h2, h3, h4, h5, h6, h7, h8⟩
  all_goals exact absurd h Bool.false_ne_true
theorem inv_and (h : chk (.and es) C x = true) : ∃ l p, x = .BoolOp .And l p ∧ chkAO es C l = true := by
  cases x
  case BoolOp op l p =>
    cases op
    · exact ⟨_, _, rfl, h⟩
    · exact absurd h Bool.false_ne_true
  all_goals exact absurd h Bool.false_ne_true
theorem inv_or (h : chk (.or es) C x = true) : ∃ l p, x = .BoolOp .Or l p ∧ chkAO es C l = true := by
  cases x
  case BoolOp op l p =>
    cases op
    · exact absurd h Bool.false_ne_true
    · exact ⟨_, _, rfl, h⟩
  all_goals exact absurd h Bool.false_ne_true
theorem inv_ite (h : chk (.ite c a b) C x = true) : ∃ t l r p, x = .IfExp t l r p ∧ tst c = true ∧ chk c C t = true ∧ chk a C l = true ∧ chk b C r = true := by
  cases x
  case IfExp t l r p =>
    have h : (tst c && chk c C t && chk a C l && chk b C r) = true := h
    simp only [Bool.and_eq_true] at h
    exact ⟨_, _, _, _, rfl, h.1.1.1, h.1.1.2, h.1.2, h.2⟩
  all_goals exact absurd h Bool.false_ne_true
theorem inv_tup (h : chk (.tup es) C x = true) : ∃ l k p, x = .Tuple l k p ∧ chks es C l = true := by
  cases x
  case Tuple l k p => exact ⟨_, _, _, rfl, h⟩
  all_goals exact absurd h Bool.false_ne_true
theorem inv_lst (h : chk (.lst es) C x = true) : ∃ l p, x = .List l p ∧ chks es C l = true := by
  cases x
  case List l p => exact ⟨_, _, rfl, h⟩
  all_goals exact absurd h Bool.false_ne_true
theorem inv_idx (h : chk (.idx a b) C x = true) : ∃ l r p, x = .Subscript l r p ∧ notSlice r = true ∧ chk a C l = true ∧ chk b C r = true := by
  cases x
  case Subscript l r p =>
    have h : (notSlice r && chk a C l && chk b C r) = true := h
    simp only [Bool.and_eq_true] at h
    exact ⟨_, _, _, rfl, h.1.1, h.1.2, h.2⟩
  all_goals exact absurd h Bool.false_ne_true
theorem inv_slc {lo hi : E} (h : chk (.slc a lo hi) C x = true) : ∃ v l u p2 p, x = .Subscript v (.Slice l u none p2) p ∧ chk a C v = true ∧ chkO lo C l = true ∧ chkO hi C u = true := by
  cases x
  case Subscript v s p =>
    cases s
    case Slice l u st p2 =>
      have h : (st.isNone && chk a C v && chkO lo C l && chkO hi C u) = true := h
      simp only [Bool.and_eq_true] at h
      cases st
      · exact ⟨_, _, _, _, _, rfl, h.1.1.2, h.1.2, h.2⟩
      · exact absurd h.1.1.1 Bool.false_ne_true
    all_goals exact absurd h Bool.false_ne_true
  all_goals exact absurd h Bool.false_ne_true
theorem inv_m1 {x : Expr} (h : isM1 x = true) : ∃ k p1 p2, x = .UnaryOp .USub (.Constant (.int 1) k p1) p2 := by
  unfold isM1 at h
  split at h
  · cases of_decide_eq_true h
    exact ⟨_, _, _, rfl⟩
  · cases h
theorem inv_rev (h : chk (.rev a) C x = true) : ∃ v k p1 p2 p3 p, x = .Subscript v (.Slice none none (some (.UnaryOp .USub (.Constant (.int 1) k p1) p2)) p3) p ∧ chk a C v = true := by
  cases x
  case Subscript v s p =>
    cases s
    case Slice l u st p2 =>
      cases st with
      | none => exact absurd h Bool.false_ne_true
      | some st =>
        have h : (l.isNone && u.isNone && isM1 st && chk a C v) = true := h
        simp only [Bool.and_eq_true] at h
        obtain ⟨⟨⟨h1, h2⟩, h3⟩, h4⟩ := h
        obtain ⟨k, q1, q2, rfl⟩ := inv_m1 h3
        cases l
        · cases u
          · exact ⟨_, _, _, _, _, _, rfl, h4⟩
          · exact absurd h2 Bool.false_ne_true
        · exact absurd h1 Bool.false_ne_true
    all_goals exact absurd h Bool.false_ne_true
  all_goals exact absurd h Bool.false_ne_true
theorem inv_cl {f : Expr} {args : List Expr} {kws : List Keyword} {p : Pos} {g : Str → List Expr → Bool} (h : (match Expr.Call f args kws p with
    | .Call (.Name x _) args [] _ => g x args
    | _ => false) = true) : ∃ x q, f = .Name x q ∧ kws = [] ∧ g x args = true := by
  cases f
  case Name x q =>
    cases kws
    · exact ⟨_, _, rfl, rfl, h⟩
    · exact absurd h Bool.false_ne_true
  all_goals exact absurd h Bool.false_ne_true
theorem inv_call {f : Nat} (h : chk (.call f es) C x = true) : ∃ n q args p, x = .Call (.Name n q) args [] p ∧ f ∈ C.fs ∧ args.length = C.ar f ∧ C.gn f = n ∧ glB C.sc n = true ∧ dbg n = true ∧ chks es C args = true := by
  cases x
  case Call fn args kws p =>
    obtain ⟨n, q, rfl, rfl, hh⟩ := inv_cl (f := fn) (args := args) (kws := kws) (p := p) (g := fun x args => decide (f ∈ C.fs) && decide (args.length = C.ar f) && decide (C.gn f = x) && glB C.sc x && dbg x && chks es C args) h
    simp only [Bool.and_eq_true, decide_eq_true_eq] at hh
    exact ⟨_, _, _, _, rfl, hh.1.1.1.1.1, hh.1.1.1.1.2, hh.1.1.1.2, hh.1.1.2, hh.1.2, hh.2⟩
  all_goals exact absurd h Bool.false_ne_true
theorem inv_app {f : E} (h : chk (.app f es) C x = true) : ∃ i n q y args p, f = .var i ∧ x = .Call (.Name n q) (y :: args) [] p ∧ C.N[i]? = some n ∧ visB C.sc n = true ∧ dbg n = true ∧ C.hi = true ∧ chks es C (y :: args) = true := by
  cases x
  case Call fn args kws p =>
    obtain ⟨n, q, rfl, rfl, hh⟩ := inv_cl (f := fn) (args := args) (kws := kws) (p := p) (g := fun x args => (match (generalizing := false) f with
      | .var i => decide (C.N[i]? = some x)
      | _ => false) && visB C.sc x && dbg x && !args.isEmpty && C.hi && chks es C args) h
    simp only [Bool.and_eq_true, Bool.not_eq_true'] at hh
    obtain ⟨⟨⟨⟨⟨h1, h2⟩, h3⟩, h4⟩, hi⟩, h5⟩ := hh
    cases args with
    | nil => cases h4
    | cons y args =>
      cases f
      case var i => exact ⟨_, _, _, _, _, _, rfl, rfl, of_decide_eq_true h1, h2, h3, hi, h5⟩
      all_goals exact absurd h1 Bool.false_ne_true
  all_goals exact absurd h Bool.false_ne_true
theorem inv_bi {b : B} (h : chk (.bi b es) C x = true) : ∃ n q args p, x = .Call (.Name n q) args [] p ∧ (b.nm.1 : Str) = n ∧ glB C.sc n = true ∧ args.isEmpty = false ∧ chks es C args = true := by
  cases x
  case Call fn args kws p =>
    obtain ⟨n, q, rfl, rfl, hh⟩ := inv_cl (f := fn) (args := args) (kws := kws) (p := p) (g := fun x args => decide ((b.nm.1 : Str) = x) && glB C.sc x && !args.isEmpty && chks es C args) h
    simp only [Bool.and_eq_true, decide_eq_true_eq, Bool.not_eq_true'] at hh
    exact ⟨_, _, _, _, rfl, hh.1.1.1, hh.1.1.2, hh.1.2, hh.2⟩
  all_goals exact absurd h Bool.false_ne_true
theorem inv_isi {tys : List Ty} (h : chk (.isi a tys) C x = true) : ∃ q y p, glB C.sc ("isinstance" : Str) = true ∧ chk a C y = true ∧ notStar y = true ∧ ((∃ t p2, x = .Call (.Name ("isinstance" : Str) q) [y, .Name (t.nm : Str) p2] [] p ∧ tys = [t] ∧ glB C.sc (t.nm : Str) = true) ∨
    ∃ l kk p2, x = .Call (.Name ("isinstance" : Str) q) [y, .Tuple l kk p2] [] p ∧ tys.isEmpty = false ∧ tys.length ≤ 10 ∧ chkTys C tys l = true) := by
  cases x
  case Call fn args kws p =>
    obtain ⟨n, q, rfl, rfl, hh⟩ := inv_cl (f := fn) (args := args) (kws := kws) (p := p) (g := fun f args => match (generalizing := false) args with
      | [x, .Name t _] => decide (f = ("isinstance" : Str)) && glB C.sc f && chk a C x && notStar x && (match (generalizing := false) tys with | [ty] => decide ((ty.nm : Str) = t) && glB C.sc t | _ => false)
      | [x, .Tuple l _ _] => decide (f = ("isinstance" : Str)) && glB C.sc f && chk a C x && notStar x && !tys.isEmpty && decide (tys.length ≤ 10) && chkTys C tys l
      | _ => false) h
    rcases args with _ | ⟨y, _ | ⟨ty, _ | ⟨z, args⟩⟩⟩ <;> try exact absurd hh Bool.false_ne_true
    · cases ty
      case Name t p2 =>
        simp only [Bool.and_eq_true, decide_eq_true_eq] at hh
        obtain ⟨⟨⟨⟨rfl, h1⟩, h2⟩, h3⟩, h4⟩ := hh
        split at h4
        · rename_i ty
          simp only [Bool.and_eq_true, decide_eq_true_eq] at h4
          obtain ⟨rfl, h4⟩ := h4
          exact ⟨_, _, _, h1, h2, h3, .inl ⟨_, _, rfl, rfl, h4⟩⟩
        · exact absurd h4 Bool.false_ne_true
      case Tuple l kk p2 =>
        simp only [Bool.and_eq_true, decide_eq_true_eq, Bool.not_eq_true'] at hh
        obtain ⟨⟨⟨⟨⟨⟨rfl, h1⟩, h2⟩, h3⟩, h4⟩, h5⟩, h6⟩ := hh
        exact ⟨_, _, _, h1, h2, h3, .inr ⟨_, _, _, rfl, h4, h5, h6⟩⟩
      all_goals exact absurd hh Bool.false_ne_true
    · cases ty <;> exact absurd hh Bool.false_ne_true
  all_goals exact absurd h Bool.false_ne_true
theorem inv_met {m : Mt} (h : chk (.met m a es) C x = true) : ∃ y n ap args p, x = .Call (.Attribute y n ap) args [] p ∧ m.ok = true ∧ m.nm = n ∧ isName y = true ∧ (ap.endLine == p.line) = true ∧ args.length = m.ar ∧ chk a C y = true ∧ chks es C args = true := by
  cases x
  case Call fn args kws p =>
    cases fn
    case Attribute y n ap =>
      cases kws
      · have h : (m.ok && decide (m.nm = n) && isName y && (ap.endLine == p.line) && decide (args.length = m.ar) && chk a C y && chks es C args) = true := h
        simp only [Bool.and_eq_true, decide_eq_true_eq] at h
        obtain ⟨⟨⟨⟨⟨⟨h0, h1⟩, h2⟩, h3⟩, h4⟩, h5⟩, h6⟩ := h
        exact ⟨_, _, _, _, _, rfl, h0, h1, h2, h3, h4, h5, h6⟩
      · exact absurd h Bool.false_ne_true
    all_goals exact absurd h Bool.false_ne_true
  all_goals exact absurd h Bool.false_ne_true
theorem inv_cnt (h : chk (.cnt a b) C x = true) : ∃ y ap z p, x = .Call (.Attribute y ("count" : Str) ap) [z] [] p ∧ isName y = true ∧ (ap.endLine == p.line) = true ∧ notStar z = true ∧ chk a C y = true ∧ chk b C z = true := by
  cases x
  case Call fn args kws p =>
    cases fn
    case Attribute y n ap =>
      cases kws
      · rcases args with _ | ⟨z, _ | ⟨z2, l⟩⟩
        · have h : (decide (n = ("count" : Str)) && isName y && (ap.endLine == p.line) && false) = true := h
          rw [Bool.and_false] at h
          cases h
        · have h : (decide (n = ("count" : Str)) && isName y && (ap.endLine == p.line) && (notStar z && chk a C y && chk b C z)) = true := h
          simp only [Bool.and_eq_true, decide_eq_true_eq] at h
          obtain ⟨⟨⟨rfl, h1⟩, h2⟩, ⟨h3, h4⟩, h5⟩ := h
          exact ⟨_, _, _, _, rfl, h1, h2, h3, h4, h5⟩
        · have h : (decide (n = ("count" : Str)) && isName y && (ap.endLine == p.line) && false) = true := h
          rw [Bool.and_false] at h
          cases h
      · exact absurd h Bool.false_ne_true
    all_goals exact absurd h Bool.false_ne_true
  all_goals exact absurd h Bool.false_ne_true
theorem inv_lc {t : T} {it c elt : E} {own : List Nat} (h : chk (.lc t it c elt own) C x = true) : ∃ el tg iter ifs scope p, x = .ListComp el [⟨tg, iter, ifs, 0⟩] scope p ∧ (ownP C.N own).map (·.2) = own ∧ blkC C.N C.sc scope (ownP C.N own) = true ∧ notSet iter = true ∧
    chkI it C iter tg = true ∧ chkT (C.blk scope) t tg = true ∧ T.slots t ⊆ own ∧ ((ifs = [] ∧ c = .cst (.bl true)) ∨ ∃ i, ifs = [i] ∧ tst c = true ∧ chk c (C.blk scope) i = true) ∧ chk elt (C.blk scope) el = true := by
  cases x
  case ListComp el gs scope p =>
    rcases gs with _ | ⟨⟨tg, iter, ifs, as⟩, _ | ⟨g2, gs⟩⟩ <;> try exact absurd h Bool.false_ne_true
    have h : (decide (as = 0) && decide ((ownP C.N own).map (·.2) = own) && blkC C.N C.sc scope (ownP C.N own) && notSet iter && chkI it C iter tg && chkT (C.blk scope) t tg && decide (T.slots t ⊆ own) &&
        (match (generalizing := false) ifs with
          | [] => (match (generalizing := false) c with | .cst (.bl true) => true | _ => false)
          | [i] => tst c && chk c (C.blk scope) i
          | _ => false) && chk elt (C.blk scope) el) = true := h
    simp only [Bool.and_eq_true, decide_eq_true_eq] at h
    obtain ⟨⟨⟨⟨⟨⟨⟨⟨rfl, h1⟩, h2⟩, h3⟩, h4⟩, h5⟩, h6⟩, h7⟩, h8⟩ := h
    refine ⟨_, _, _, _, _, _, rfl, h1, h2, h3, h4, h5, h6, ?_, h8⟩
    rcases ifs with _ | ⟨i, _ | ⟨j, ifs⟩⟩
    · left
      refine ⟨rfl, ?_⟩
      dsimp only at h7
      split at h7
      · rfl
      · exact absurd h7 Bool.false_ne_true
    · have h7 : (tst c && chk c (C.blk scope) i) = true := h7
      simp only [Bool.and_eq_true] at h7
      exact .inr ⟨_, rfl, h7.1, h7.2⟩
    · exact absurd h7 Bool.false_ne_true
  all_goals exact absurd h Bool.false_ne_true
theorem inv_cst {d : P} (h : chk (.cst d) C x = true) : plainT x = true := by
  cases x
  case Constant => rfl
  all_goals exact absurd h Bool.false_ne_true
theorem inv_var {i : Nat} (h : chk (.var i) C x = true) : plainT x = true := by
  cases x
  case Name => rfl
  all_goals exact absurd h Bool.false_ne_true
theorem inv_glb {g : Nat} (h : chk (.glb g) C x = true) : ∃ n p, x = .Name n p ∧ g ∈ C.gs ∧ C.gn g = n ∧ glB C.sc n = true ∧ dbg n = true := by
  cases x
  case Name n p =>
    have h : (decide (g ∈ C.gs) && decide (C.gn g = n) && glB C.sc n && dbg n) = true := h
    simp only [Bool.and_eq_true, decide_eq_true_eq] at h
    exact ⟨_, _, rfl, h.1.1.1, h.1.1.2, h.1.2, h.2⟩
  all_goals exact absurd h Bool.false_ne_true
end
end Hb

/-! Dicts: displays. -/
namespace Hb
open PySem PySem.Spec PyProof.Rows L2

theorem PE.either {X : Cx} {e : Expr} {t t' : TE} (h : PE X e t) (h' : PE X e t') : PE X e fun σ H Q => t σ H Q ∨ t' σ H Q :=
  ⟨fun pins s σ H Q I q => q.elim (h.run pins s σ H Q I) (h'.run pins s σ H Q I)⟩
theorem dn_nil {P : Program} {w : World} {H : Hp} (h : Heap) (hb : sysModules < h.objs.size) : ObjOk P w H (h.push { cls := .type "dict", data := .dict #[] }) h.objs.size (.ext (DN [] h.objs.size)) := by
  have e : (h.push { cls := .type "dict", data := .dict #[] }).get? h.objs.size = some { cls := .type "dict", data := .dict #[] } := Heap.get?_push_size _ rfl
  refine ⟨⟨_, #[], 0, e, ⟨rfl, rfl, rfl⟩, rfl, rfl, List.nodup_nil, Nat.zero_le _, beq_eq_false_iff_ne.mpr (Nat.ne_of_gt hb)⟩, ⟨_, e⟩, fun g1 g2 ⟨o, es, ep, q1, q2⟩ st => ⟨o, es, ep, st _ q1, q2⟩⟩
theorem inv_newD {X : Cx} {pins : List (Addr × Obj)} {σ : L2.St} {H : Hp} {s : Shared} (I : Inv X pins σ H s) : Inv X pins σ (upd H s.heap.objs.size (.ext (DN [] s.heap.objs.size))) { s with heap := s.heap.push { cls := .type "dict", data := .dict #[] } } :=
  I.laid (t' := s.toks) (fun b ob q => Heap.get?_push_of_some _ q) (Nat.le_refl _) (dn_nil s.heap I.big)
/-- {} -/
theorem pe_d0 {X : Cx} {pos : Pos} : PE X (.Dict [] [] pos) fun _ H Q => ∀ p, H p = none → Q (.ref p) (upd H p (.ext (DN [] p))) :=
  ⟨fun pins s σ H Q I h => wpAny_Dict_empty ⟨.ref s.heap.objs.size, _, inv_newD I, rfl, h _ (I.hok.fresh (Nat.le_refl _))⟩⟩
/-- {k: v}, k a tuple -/
def tD1 (Γ : Gm) (tk tv : TE) : TE := fun σ H Q => ∀ p, H p = none → tk σ (upd H p (.ext (DN [] p))) fun x H1 => tv σ H1 fun z H2 => ∃ a b, x = .ref b ∧ keyT a = true ∧ Rep Γ H2 a (.ref b) ∧ H2 p = some (.ext (DN [] p)) ∧
  ∀ w, RelV z w → Q (.ref p) (upd H2 p (.ext (DN [(keyNK a, b, w)] p)))
theorem pe_d1 {X : Cx} {Γ : Gm} {pos : Pos} {x y : Expr} {tk tv : TE} (hu : X.A.units + 65 < cLine) (hk : PE X x tk) (hv : PE X y tv) : PE X (.Dict [some x] [y] pos) (tD1 Γ tk tv) := by
  refine ⟨fun pins s σ H Q I q => ?_⟩
  have hn := I.hok.fresh (Nat.le_refl s.heap.objs.size)
  have I1 := inv_newD I
  rw [arm_eval_Dict, zip_pairTrees [some x] [y] X.env pos rfl rfl, dictDisplay_pairs _ (by simp [pairTrees]) (by simp [pairTrees])]
  refine wpAny_bind (wpAny_standAt (wpAny_bind ?_))
  refine wpAny_subDictH (knd := nestedKind X.prog X.w) (Q := fun d s' => wpAny (model X.prog X.w) X.A (pure (Value.ref d)) (EP X pins σ Q) X.xe s') (room8' hu) (by simp [pairTrees]) ?_
  refine pairTrees_cons_walk (thn (hk.run pins _ σ _ _ I1 (q _ hn)) fun u s1 ⟨xv, H1, I2, rx, q1⟩ => thn (hv.run pins s1 σ H1 _ I2 q1) fun w s2 ⟨z, H2, I3, rz, q2⟩ => pairTrees_nil_walk ?_)
  obtain ⟨a, b, rfl, ka, ra, hp, q3⟩ := q2
  cases rx
  have kt0 : KT Γ H2 [] [] [] := ⟨[], rfl, rfl, reps_nil.mpr rfl, reps_nil.mpr rfl, .nil⟩
  obtain ⟨g1, g2, g3⟩ := dn_of I3 (.inl hp) kt0
  have ki := kis_of I3 ra ka
  refine ⟨[(keyNK a, b, w)], ⟨rfl, rfl, ki, trivial⟩, g1, fun h' tk hm sb => wpAny_pure ?_⟩
  have hm : h'.DictOfH (nestedKind X.prog X.w) s.heap.objs.size [(keyNK a, b, w)] := hm
  refine ⟨.ref s.heap.objs.size, _, ?_, rfl, q3 w rz⟩
  obtain ⟨o, _, _, ho, _⟩ := id hm
  refine d_write I3 (by rw [hp]; trivial) sb ⟨o, ho⟩ (dn_new (X := X) (fun r hr => ?_) hm (by rw [sizeLine_eq]; simp) g3)
  have hr : r = (keyNK a, b, w) := by simpa using hr
  subst hr
  exact ⟨a, ka, rfl⟩
section
variable {Γ : Gm} {G : Prog} {h : Hd} {k : Nat} {C : Ctx} {W : XK} {X : Cx} {a b c es : E} {x y z tg : Expr} {pos : Pos}
theorem ev_dsp0 (env : Env) (S : Sto) : ev G h .dsp0 env S = .ok (.p (.dct [] [])) S := rfl
theorem ev_dsp1 (a b : E) (env : Env) (S : Sto) : ev G h (.dsp1 a b) env S = (ev G h a env S).bind fun x S => (ev G h b env S).bind fun y S => match x.toP, y.toP with
    | some k, some v => if keyT k = true ∨ intKs [k] = true then .ok (.p (.dct [k] [v])) S else .stk
    | _, _ => .stk := rfl
theorem crep_d0 {H : Hp} {p : Addr} : CRep Γ H (.dct [] []) (.ext (DN [] p)) p := .inl ⟨[], rfl, [], rfl, rfl, reps_nil.mpr rfl, reps_nil.mpr rfl, .nil⟩
theorem pe_dd0 : PE X (.Dict [] [] pos) (tE Γ (wx W) G h .dsp0) ∧ PE X (.Dict [] [] pos) (tN Γ (wx W) G h .dsp0) := by
  refine ⟨PE.imp (pe_frzC pe_d0) fun σ H Q ⟨L, m, env, S, sr, q⟩ p hp => ?_, PE.imp pe_d0 fun σ H Q ⟨L, m, env, S, sr, q⟩ p hp => ?_⟩
  · rw [ev_dsp0] at q
    refine .inr ⟨p, _, rfl, upd_same, .inr (.inl ⟨[], rfl⟩), fun o => ?_⟩
    rw [upd_upd]
    exact q.okSame sr (Same.new hp) _ (crep_frz hp crep_d0)
  · rw [ev_dsp0] at q
    obtain ⟨d, e, _, q⟩ := q.ok sr
    cases e
    exact q p _ hp crep_d0
theorem dsp1_walk {L : Addr → Prop} {m : Nat → Addr} {env : Env} {S : Sto} {σ : L2.St} {H : Hp} {Kk : Val → Sto → Hp → Prop} {R : Addr → V → V → Hp → Prop} (u0 : Addr → HO) (mu : ∀ p, MutC (u0 p) p) (sr : SRep Γ L m env S σ H)
    (q : EvR Γ (wx W) L m env σ S H (ev G h (.dsp1 a b) env S) Kk)
    (fin : ∀ p x z H2 S2 dk dv, SRep Γ L m env S2 σ H2 → Keep L H H2 → Dom S S2 → ¬ L p → H p = none → H2 p = some (u0 p) → Rep Γ H2 dk x → Rep Γ H2 dv z → (keyT dk = true ∨ intKs [dk] = true) → (∃ S1, ev G h a env S = .ok (.p dk) S1) →
      (∀ H', Keep L H H' → SRep Γ L m env S2 σ H' → Kk (.p (.dct [dk] [dv])) S2 H') → R p x z H2) :
    ∀ p, H p = none → tE Γ (wx W) G h a σ (upd H p (u0 p)) fun x H1 => tE Γ (wx W) G h b σ H1 fun z H2 => R p x z H2 := by
  intro p hp
  have nL : ¬ L p := fun z => by
    obtain ⟨u, e, _⟩ := sr.lm p z
    rw [hp] at e
    cases e
  rw [ev_dsp1] at q
  have sm : Same H (upd H p (u0 p)) := Same.new hp
  refine ⟨L, m, env, S, sr.same sm, ?_⟩
  cases ha : ev G h a env S with
  | stk => rw [ha] at q; exact q.elim
  | exc c d S1 =>
    rw [ha] at q
    exact EvR.shift (Keep.of sm) (Dom.refl _) q
  | ok xv S1 =>
    rw [ha] at q
    simp only [Res.bind] at q
    intro H1 k1 d1 s1 x hx
    refine ⟨L, m, env, S1, s1, ?_⟩
    have k01 : Keep L H H1 := (Keep.of sm).trans k1
    cases hb : ev G h b env S1 with
    | stk => rw [hb] at q; exact q.elim
    | exc c d S2 =>
      rw [hb] at q
      exact EvR.shift k01 d1 q
    | ok yv S2 =>
      rw [hb] at q
      simp only [Res.bind] at q
      intro H2 k2 d2 s2 z hz
      cases hk : xv.toP with
      | none => rw [hk] at q; exact q.elim
      | some dk =>
        cases hv : yv.toP with
        | none => rw [hk, hv] at q; exact q.elim
        | some dv =>
          rw [hk, hv] at q
          dsimp only at q
          split at q
          · rename_i hc
            have hx' := hx.mono (k2.per s1.lm) d2
            have hp2 : H2 p = some (u0 p) := k2 p _ (k1 p _ upd_same nL fun ps => (mu p).ntbl ps) nL fun ps => (mu p).ntbl ps
            have exv : xv = .p dk := by
              cases xv with
              | p d => cases hk; rfl
              | l n => cases hk
              | f id b cs =>
                cases hk
            exact fin p x z H2 S2 dk dv s2 (k01.trans k2) (d1.trans d2) nL hp hp2 (toP_rep hx' hk) (toP_rep hz hv) hc ⟨S1, by rw [exv] at ha; exact ha⟩ fun H' kk s' => q H' kk (d1.trans d2) s'
          · exact q.elim
theorem pe_dd1 (o : XOk Γ G h k C W X) (ha : PE X x (tE Γ (wx W) G h a)) (hb : PE X y (tE Γ (wx W) G h b)) : PE X (.Dict [some x] [y] pos) (tE Γ (wx W) G h (.dsp1 a b)) ∧ PE X (.Dict [some x] [y] pos) (tN Γ (wx W) G h (.dsp1 a b)) := by
  have base := PE.either (pe_d1 (Γ := Γ) (pos := pos) o.u65 ha hb) (pe_disp (pos := pos) (pps_cons ha hb pps_nil) rfl rfl (by simp) (by simp))
  have mK : ∀ p : Addr, MutC (.dK []) p := fun p => .inr (.inr ⟨[], rfl⟩)
  have mT : ∀ p : Addr, MutC (.ext (DN [] p)) p := fun p => .inr (.inl ⟨[], rfl⟩)
  -- a made dict, in either way
  have crT : ∀ {H2 : Hp} {p b' : Addr} {dk dv : P} {z : V} {w : Value}, keyT dk = true → Rep Γ H2 dk (.ref b') → Rep Γ H2 dv z → RelV z w → CRep Γ H2 (.dct [dk] [dv]) (.ext (DN [(keyNK dk, b', w)] p)) p := fun h1 h2 h3 h4 =>
    .inl ⟨_, rfl, [_], by simp [h1], rfl, reps_cons'.mpr ⟨h2, reps_nil.mpr rfl⟩, reps_cons'.mpr ⟨h3, reps_nil.mpr rfl⟩, .cons h4 .nil⟩
  have crK : ∀ {H2 : Hp} {p : Addr} {i : Int} {dv : P} {z : V}, Rep Γ H2 dv z → CRep Γ H2 (.dct [.int i] [dv]) (.dK [(.inl i, z)]) p := fun h3 =>
    .inr ⟨_, rfl, [_], rfl, rfl, by simp, reps_cons'.mpr ⟨h3, reps_nil.mpr rfl⟩⟩
  have int_of : ∀ {dk : P} {x : V} {H2 : Hp}, intKs [dk] = true → Rep Γ H2 dk x → ∃ i, dk = .int i ∧ x = .int i := by
    intro dk x H2 h1 h2
    cases dk <;> simp only [intKs, Bool.false_eq_true] at h1
    simp only [Rep] at h2
    exact ⟨_, rfl, h2⟩
  constructor
  · refine PE.imp (pe_frzC base) fun σ H Q ⟨L, m, env, S, sr, q⟩ => ?_
    have frz : ∀ {H2 : Hp} {S2 : Sto} {p : Addr} {u0 u : HO} {d : P}, SRep Γ L m env S2 σ H2 → Keep L H H2 → ¬ L p → H p = none → H2 p = some u0 → MutC u0 p → CRep Γ H2 d u p → (∀ H', Keep L H H' → SRep Γ L m env S2 σ H' → VK' Γ m Q (.p d) S2 H') →
        ∃ a u', V.ref p = .ref a ∧ (upd H2 p u) a = some u' ∧ MutC u' a ∧ ∀ o, Q (.ref p) (upd (upd H2 p u) a (.frz o u')) := by
      intro H2 S2 p u0 u d s2 k2 nL hp hp2 mu0 cr fin
      refine ⟨p, u, rfl, upd_same, cr.mutC, fun ob => ?_⟩
      rw [upd_upd]
      have p2 := per_atC (H' := upd H2 p (.frz ob u)) hp2 mu0 fun b hb => upd_ne hb
      exact fin _ (keep_at k2 (Fresh.of hp) fun b hb => upd_ne hb) (s2.at_ nL hp2 mu0 fun b hb => upd_ne hb) _ ((cr.per p2).rep upd_same)
    by_cases hT : ∃ d S1, ev G h a env S = .ok (.p d) S1 ∧ keyT d = true
    · refine .inl (dsp1_walk (fun p => .ext (DN [] p)) mT sr q fun p x z H2 S2 dk dv s2 k2 d2 nL hp hp2 r1 r2 hc he fin => ?_)
      obtain ⟨d, S1, e1, e2⟩ := hT
      obtain ⟨S1', e3⟩ := he
      rw [e1] at e3
      cases e3
      obtain ⟨b', rfl, _⟩ := key_ref e2 (.inl r1)
      exact ⟨_, b', rfl, e2, r1, hp2, fun w rw' => .inr (frz s2 k2 nL hp hp2 (mT p) (crT e2 r1 r2 rw') fin)⟩
    · refine .inr (dsp1_walk (fun p => .dK []) mK sr q fun p x z H2 S2 dk dv s2 k2 d2 nL hp hp2 r1 r2 hc he fin => ?_)
      obtain ⟨S1', e3⟩ := he
      rcases hc with hc | hc
      · exact absurd ⟨dk, S1', e3, hc⟩ hT
      · obtain ⟨i, rfl, rfl⟩ := int_of hc r1
        exact ⟨hp2, [(.inl i, z)], rfl, by simp, .inr (frz s2 k2 nL hp hp2 (mK p) (crK r2) fin)⟩
  · refine PE.imp base fun σ H Q ⟨L, m, env, S, sr, q⟩ => ?_
    have raw : ∀ {H2 : Hp} {S2 : Sto} {p : Addr} {u0 u : HO} {d : P}, SRep Γ L m env S2 σ H2 → Keep L H H2 → ¬ L p → H p = none → H2 p = some u0 → MutC u0 p → CRep Γ H2 d u p →
        (∀ H', Keep L H H' → SRep Γ L m env S2 σ H' → ∃ d', Val.p d = .p d' ∧ mkP (.dsp1 a b) d' = true ∧ ∀ a u, H' a = none → CRep Γ H' d' u a → Q (.ref a) (upd H' a u)) → Q (.ref p) (upd H2 p u) := by
      intro H2 S2 p u0 u d s2 k2 nL hp hp2 mu0 cr fin
      have he : ∀ b, b ≠ p → (fun b => if b = p then none else H2 b : Hp) b = H2 b := fun b hb => if_neg hb
      obtain ⟨d', e, _, q2⟩ := fin (fun b => if b = p then none else H2 b) (keep_at k2 (Fresh.of hp) he) (s2.at_ nL hp2 mu0 he)
      cases e
      have := q2 p u (if_pos rfl) (cr.per (per_atC hp2 mu0 he))
      have e2 : upd (fun b => if b = p then none else H2 b : Hp) p u = upd H2 p u := by
        funext b
        by_cases hb : b = p
        · subst hb; rw [upd_same, upd_same]
        · rw [upd_ne hb, upd_ne hb]; exact if_neg hb
      rw [e2] at this
      exact this
    by_cases hT : ∃ d S1, ev G h a env S = .ok (.p d) S1 ∧ keyT d = true
    · refine .inl (dsp1_walk (fun p => .ext (DN [] p)) mT sr q fun p x z H2 S2 dk dv s2 k2 d2 nL hp hp2 r1 r2 hc he fin => ?_)
      obtain ⟨d, S1, e1, e2⟩ := hT
      obtain ⟨S1', e3⟩ := he
      rw [e1] at e3
      cases e3
      obtain ⟨b', rfl, _⟩ := key_ref e2 (.inl r1)
      exact ⟨_, b', rfl, e2, r1, hp2, fun w rw' => raw s2 k2 nL hp hp2 (mT p) (crT e2 r1 r2 rw') fin⟩
    · refine .inr (dsp1_walk (fun p => .dK []) mK sr q fun p x z H2 S2 dk dv s2 k2 d2 nL hp hp2 r1 r2 hc he fin => ?_)
      obtain ⟨S1', e3⟩ := he
      rcases hc with hc | hc
      · exact absurd ⟨dk, S1', e3, hc⟩ hT
      · obtain ⟨i, rfl, rfl⟩ := int_of hc r1
        exact ⟨hp2, [(.inl i, z)], rfl, by simp, raw s2 k2 nL hp hp2 (mK p) (crK r2) fin⟩
/-! ### the checker -/
theorem inv_dsp0 {C : Ctx} {x : Expr} (h : chk .dsp0 C x = true) : ∃ p, x = .Dict [] [] p := by
  cases x
  case Dict ks vs p =>
    have h : (ks.isEmpty && vs.isEmpty) = true := h
    simp only [Bool.and_eq_true, List.isEmpty_iff] at h
    obtain ⟨rfl, rfl⟩ := h
    exact ⟨_, rfl⟩
  all_goals exact absurd h Bool.false_ne_true
theorem inv_dsp1 {C : Ctx} {a b : E} {x : Expr} (h : chk (.dsp1 a b) C x = true) : ∃ y z p, x = .Dict [some y] [z] p ∧ chk a C y = true ∧ chk b C z = true := by
  cases x
  case Dict ks vs p =>
    rcases ks with _ | ⟨_ | k, _ | ⟨k2, ks⟩⟩
    case cons.some.nil =>
      rcases vs with _ | ⟨v, _ | ⟨v2, vs⟩⟩
      case cons.nil =>
        have h : (chk a C k && chk b C v) = true := h
        simp only [Bool.and_eq_true] at h
        exact ⟨_, _, _, rfl, h.1, h.2⟩
      all_goals exact absurd h Bool.false_ne_true
    all_goals exact absurd h Bool.false_ne_true
  all_goals exact absurd h Bool.false_ne_true
end
end Hb

/-! Lambdas handed to a def: made at the call, called by the name that holds them. -/
namespace Hb
open PySem PySem.Spec PyProof.Rows L2

section
variable {Γ : Gm} {G : Prog} {h : Hd} {k : Nat} {C : Ctx} {W : XK} {X : Cx} {a b es : E} {x y z : Expr} {pos : Pos}
theorem per_extN {H H' : Hp} (e : LamX.ExtN H H') : Per H H' := ⟨fun b xs q => e b _ q (by intro ps z; cases z), fun b o u q => e b _ q (by intro ps z; cases z), fun b p q _ => e b _ q (by intro ps z; cases z)⟩
theorem srep_ext {L : Addr → Prop} {m : Nat → Addr} {env : Env} {S : Sto} {σ : L2.St} {H H' : Hp} (sr : SRep Γ L m env S σ H) (e : LamX.ExtN H H') (t : LamX.Tabs Γ.T H') : SRep Γ L m env S σ H' := by
  have pr := per_extN e
  refine ⟨sr.len, fun i v g => ?_, ⟨fun n o g => ?_, sr.sto.inj, t⟩, sr.live, fun b hb => ?_⟩
  · obtain ⟨x, h1, h2⟩ := sr.ee i v g
    exact ⟨x, h1, h2.mono pr (Dom.refl _)⟩
  · exact (sr.sto.at_ n o g).per pr fun u h1 mu => e _ _ h1 (fun ps z => mu.ntbl ps z)
  · obtain ⟨xs, q, mu⟩ := sr.lm b hb
    exact ⟨xs, e _ _ q (fun ps z => mu.ntbl ps z), mu⟩
/-- a call with data alone has come back -/
theorem cl_back {Γ' : Gm} (hT : Γ'.T = Γ.T) (hR : ∀ H d x, Rep Γ' H d x → Rep Γ H d x) (hm : Γ'.mg = Γ.mg) (hg : Γ'.gnm = Γ.gnm) {L : Addr → Prop} {m : Nat → Addr} {env : Env} {S : Sto} {σ : L2.St} {H : Hp} {Q : VK} {r : Res Val} (sr : SRep Γ L m env S σ H)
    (q : EvR Γ (wx W) L m env σ S H (r.cl S) (VK' Γ m Q)) : CalR Γ' (fun _ => 0) [] H r Q W := by
  have ext : ∀ {H'' : Hp}, Keep (fun b => ∃ n, (Sto.get [] n).isSome = true ∧ (fun _ => (0 : Addr)) n = b) H H'' → LamX.ExtN H H'' := fun k b o e n => k b o e (fun ⟨n, z, _⟩ => by cases z) n
  cases r with
  | stk => exact q
  | ok v S' =>
    cases v with
    | l _ => exact q.elim
    | f _ _ _ => exact q.elim
    | p d =>
      intro x m' H'' _ hk st _ _ hx
      have e := ext hk
      exact q H'' (fun b o e' _ t => e b o e' t) (Dom.refl _) (srep_ext sr e (by rw [← hT]; exact st.tabs)) x (hR _ _ _ hx)
  | exc c d S' =>
    intro cls dx m' H'' _ hk st _ hx
    have e := ext hk
    refine q cls dx H'' (fun b o e' _ t => e b o e' t) (Dom.refl _) (srep_ext sr e (by rw [← hT]; exact st.tabs)) ⟨by rw [← hm, ← hg]; exact hx.1, ?_⟩
    have h2 := hx.2
    cases d with
    | none => exact h2
    | some p =>
      obtain ⟨a, f, v, h3, h4, h5⟩ := h2
      exact ⟨a, f, v, h3, h4, hR _ _ _ h5⟩
theorem cl_back2 {L : Addr → Prop} {m : Nat → Addr} {env : Env} {S : Sto} {σ : L2.St} {H : Hp} {Q : VK} {r : Res Val} (sr : SRep Γ L m env S σ H)
    (q : EvR Γ (wx W) L m env σ S H (r.cl S) (VK' Γ m Q)) : CalR Γ (fun _ => 0) [] H (r.cl []) Q W := by
  refine cl_back (Γ := Γ) rfl (fun _ _ _ z => z) rfl rfl sr ?_
  cases r with
  | stk => exact q
  | ok v S' => cases v <;> exact q
  | exc c d S' => exact q
theorem ev_appc (i : Nat) (es : E) (env : Env) (S : Sto) : ev G h (.appc i es) env S = match env[i]? with
    | some (some (.p (.gl g))) => match G.arc g with
      | some n => (evs G h es env S).bind fun vs S => if vs.length = n then callV h (.p (.gl g)) vs S else .stk
      | none => .stk
    | some (some (.f np b cs)) => (evs G h es env S).bind fun vs S => match toPs vs with
      | some ds => if ds.length = np then (h (.f np b cs) (ds.map .p) []).cl S else .stk
      | none => .stk
    | _ => .stk := rfl
/-- first(outcome) -/
theorem pe_apc (o : XOk Γ G h k C W X) {i : Nat} {n : Str} {x : Expr} {l : List Expr} {p : Pos} (h1 : C.N[i]? = some n) (h2 : visB C.sc n = true) (h3 : dbg n = true) (hclo : C.clo = true) (hc : chks es C (x :: l) = true) (ha : PA X (x :: l) (tA Γ (wx W) G h es)) :
    PE X (.Call (.Name n p) (x :: l) [] pos) (tE Γ (wx W) G h (.appc i es)) := by
  refine ⟨fun pins s σ H Q I hq => ?_⟩
  obtain ⟨L, m, env, S, sr, q⟩ := hq
  rw [ev_appc] at q
  have vis : Vis X.env.scope n := by rw [o.sc]; exact visB_ok h2
  obtain ⟨es', h6⟩ := chks_tl hc
  cases hv : env[i]? with
  | none => rw [hv] at q; exact q.elim
  | some ov =>
    cases ov with
    | none => rw [hv] at q; exact q.elim
    | some v =>
      rw [hv] at q
      obtain ⟨xv, e1, e2⟩ := sr.ee i v hv
      cases v with
      | l _ => exact q.elim
      | f np b cs =>
        dsimp only at q
        obtain ⟨fa, oo, rfl, hcl, rfl, rfl, rfl, hco, hrp⟩ := e2
        refine wpAny_Call_Name_kw (thn ((pe_var (pos := p) (i := i) (by rw [o.N]; exact h1) vis (dbg_ok h3).1 (dbg_ok h3).2).run pins s σ H (fun v H1 => v = .ref fa ∧ H1 = H) I ⟨.ref fa, e1, rfl, rfl⟩) fun u s1 ⟨v, H1, I1, r1, ev', eH⟩ => ?_)
        subst ev'
        rw [eH] at I1
        obtain rfl : u = Value.ref fa := r1
        refine PySem.W.callWith_F (first := []) (o.cl.at_ hclo fa oo hcl pins σ H s1 I1) (thn (ha.run pos pins s1 σ H (fun vs H' => H' oo.c = some (LamX.CodeO oo.c oo.q) ∧ Reps Γ H' oo.ds oo.ws ∧ spC Γ h oo vs H' Q W) I1 ⟨L, m, env, S, sr, ?_⟩) fun us s2 ⟨vs, H2, I2, r, c1, c2, c3⟩ => ⟨o.cl.at_ hclo fa oo hcl pins σ H2 s2 I2, ?_⟩) (star_ok (chks_ne hc)) (backTo_none h6)
        · refine q.bind.mono fun vs S' H' k1 d1 s' q3 xs hxs => ?_
          have pr := k1.per sr.lm
          refine ⟨pr.ext _ _ hco (code_ne _ _), Reps.per pr _ _ hrp, ?_⟩
          cases ed : toPs vs with
          | none => rw [ed] at q3; exact q3.elim
          | some ds =>
            rw [ed] at q3
            dsimp only at q3
            by_cases hl : ds.length = oo.np
            · rw [if_pos hl] at q3
              exact ⟨ds, hl, toPs_rep hxs ed, s'.sto.tabs, cl_back2 s' q3⟩
            · rw [if_neg hl] at q3
              exact q3.elim
        · exact o.cl.run hclo fa oo hcl pins σ H2 s2 I2 c1 c2 us vs Q r c3
      | p d =>
        cases d with
        | gl g =>
          dsimp only at q
          cases hg : G.arc g with
          | none => rw [hg] at q; exact q.elim
          | some ng =>
            rw [hg] at q
            dsimp only at q
            obtain ⟨u, hu, ru⟩ : ∃ u, Γ.mg (Γ.gnm g) = some u ∧ RelV xv u := by simpa only [VRep, Rep] using e2
            obtain ⟨hgf, har⟩ := o.cl.arc hclo g ng hg
            obtain ⟨a, fd, ps, e0, f1, f2, f3, F⟩ := o.fns g hgf
            rw [hu] at f1
            cases f1
            have hx : xv = .ref a := by
              cases xv <;> first | (cases ru; rfl) | (obtain ⟨t, z⟩ := ru; cases z) | (cases ru)
            subst hx
            have hK : PySem.W.keepIn X.K (.ref a) = true := by rw [o.K]; exact f2
            have hb : Binds X.K fd ps [] := by rw [o.K]; exact f3
            have F : FnOk X.prog X.w X.K X.mg X.base (L2N.CX X.prog X.w) k a fd ps (spH Γ h g (C.ar g)) := by rw [o.K, o.mg]; exact F
            have hps : Passes (L2N.CX X.prog X.w) X W := L2N.passes_call o.tk fun cls d σ H w => w
            refine wpAny_Call_Name_kw (thn ((pe_var (pos := p) (i := i) (by rw [o.N]; exact h1) vis (dbg_ok h3).1 (dbg_ok h3).2).run pins s σ H (fun v H1 => v = .ref a ∧ H1 = H) I ⟨.ref a, e1, rfl, rfl⟩) fun u s1 ⟨v, H1, I1, r1, ev', eH⟩ => ?_)
            subst ev'
            rw [eH] at I1
            cases r1
            refine PySem.W.callWith_K (h₀ := X.base) I.ok.mod.kin hK (thn (ha.run pos pins s1 σ H (fun vs H' => spH Γ h g (C.ar g) vs H' Q W) I1 ⟨L, m, env, S, sr, ?_⟩) fun us s2 ⟨vs, H2, I2, r, q2⟩ => ⟨I2.kIn, ?_⟩) (star_ok (chks_ne hc)) (backTo_none h6)
            · have q' := q.bind
              refine q'.mono fun vs S' H' _ _ s' q3 xs hxs => ?_
              by_cases hl : vs.length = ng
              · rw [if_pos hl] at q3
                exact callV_ok (by rw [har]; exact hl) s' hxs q3
              · rw [if_neg hl] at q3
                exact q3.elim
            · exact run_fn F o.room hb .nil hps I2 r (by rw [List.append_nil]; exact q2)
        | _ => exact q.elim
theorem ev_capp (f : Nat) (a b : E) (np : Nat) (caps : List Nat) (body : E) (g : Nat) (env : Env) (S : Sto) : ev G h (.capp f a b np caps body g) env S = (ev G h a env S).bind fun x S => (ev G h b env S).bind fun y S => match x.toP, y.toP, capsOf env caps with
    | some x, some y, some cs => (h (.p (.gl f)) [.p x, .p y, .f np body cs, .p (G.glb g)] []).cl S
    | _, _, _ => .stk := rfl
theorem caps_reps {L : Addr → Prop} {m : Nat → Addr} {env : Env} {S : Sto} {σ : L2.St} {H : Hp} (sr : SRep Γ L m env S σ H) : ∀ {caps : List Nat} {cs : List Hb.P}, capsOf env caps = some cs → ∃ ws, ws.length = caps.length ∧ cs.length = caps.length ∧ caps.map (NdefX.slotAt σ) = ws.map some ∧ Reps Γ H cs ws
  | [], cs, e => by
    cases e
    exact ⟨[], rfl, rfl, rfl, reps_nil.mpr rfl⟩
  | i :: r, cs, e => by
    simp only [capsOf] at e
    split at e
    · rename_i d cs' e1 e2
      cases e
      obtain ⟨ws, w1, w2, w3, w4⟩ := caps_reps sr e2
      obtain ⟨x, x1, x2⟩ := sr.ee i _ e1
      refine ⟨x :: ws, by simp [w1], by simp [w2], ?_, reps_cons'.mpr ⟨x2, w4⟩⟩
      rw [List.map_cons, List.map_cons, w3, NdefX.slotAt_of x1]
    · cases e
theorem capN_map {N : List Str} : ∀ {caps : List Nat} {fr : List Str}, capN N caps = some fr → caps.map (fun j => N[j]?) = fr.map some ∧ caps.length = fr.length
  | [], fr, e => by cases e; exact ⟨rfl, rfl⟩
  | i :: r, fr, e => by
    simp only [capN] at e
    split at e
    · rename_i x xs e1 e2
      cases e
      obtain ⟨w1, w2⟩ := capN_map e2
      exact ⟨by rw [List.map_cons, List.map_cons, w1, e1], by simp [w2]⟩
    · cases e
theorem lamP_inv {ps : Arguments} {x : Str} (h : lamP ps = some x) : ∃ p, ps = ⟨[], [⟨x, none, p⟩], none, [], [], none, []⟩ := by
  unfold lamP at h
  split at h
  · cases h
    exact ⟨_, rfl⟩
  · cases h
theorem bind1 (q p0 : Str) (p1 : Pos) (lb : Expr) (sc : Scope) (cl : List (Str × Addr)) (pm cv ctv u : Value) :
    bindArgs (PySem.W.kla_fn "<lambda>" q ⟨[], [⟨p0, none, p1⟩], none, [], [], none, []⟩ lb sc cl pm cv ctv) ⟨[u], []⟩ = pure [(p0, u)] := by
  have e2 : ([(p0, u)] : List (Str × Value)).lookup p0 = some u := by simp [List.lookup]
  have e3 : (([p0] : List Str).filter fun n => (([(p0, u)] : List (Str × Value)).lookup n).isNone) = [] := by simp [List.filter, e2]
  unfold bindArgs PySem.W.kla_fn
  simp [e2, e3, seqItems?]
  rfl
theorem ld_at {pins : List (Addr × Obj)} {σ : L2.St} {H : Hp} {s : Shared} (o : XOk Γ G h k C W X) (I : Inv X pins σ H s) {n : Str} {u : Value} {q : Pos} {R E : Value → Shared → Prop} (h1 : glB C.sc n = true) (h2 : dbg n = true) (hm : Γ.mg n = some u) (r : R u s) :
    wpAny (model X.prog X.w) X.A (eval (.Name n q) X.env) R E s := ld_glob I (o.gl h1) (by rw [o.mg]; exact hm) r (dbg_ok h2).1
/-- f(a, b, lambda x: body, g) -/
theorem pe_cap (o : XOk Γ G h k C W X) {f g np : Nat} {caps : List Nat} {body : E} {n gx p0 : Str} {q q2 lp : Pos} {ps : Arguments} {lb : Expr} {sc : Scope} {fr : List Str} (hl : C.lam = true) (hf : f ∈ C.cs) (har : C.ar f = 4) (hn : C.gn f = n) (hgl : glB C.sc n = true) (hdb : dbg n = true) (s1 : notStar x = true) (s2 : notStar y = true)
    (hnp : np = 1) (hg : g ∈ C.gs) (hgn : C.gn g = gx) (hgg : glB C.sc gx = true) (hgd : dbg gx = true) (hp : lamP ps = some p0) (hcn : capN C.N caps = some fr) (hsb : NdefX.nscB (p0 :: fr) [p0] fr sc = true) (hnb : NdefX.ndefB C.sc sc fr = true)
    (hcb : chk body (C.clam (p0 :: fr) sc) lb = true) (ha : PE X x (tE Γ (wx W) G h a)) (hb : PE X y (tE Γ (wx W) G h b)) :
    PE X (.Call (.Name n q) [x, y, .Lambda ps lb sc lp, .Name gx q2] [] pos) (tE Γ (wx W) G h (.capp f a b np caps body g)) := by
  subst hnp hn hgn
  obtain ⟨⟨c, P, TB, hcode, hmT, hu⟩, _⟩ := o.tr hl
  obtain ⟨fa, fd, pps, e0, f1, f2, f3, F⟩ := o.cl.fnc f hf
  obtain ⟨p1, rfl⟩ := lamP_inv hp
  have hK : PySem.W.keepIn X.K (.ref fa) = true := by rw [o.K]; exact f2
  rw [o.gn] at f1
  refine ⟨fun pins s σ H Q I ⟨L, m, env, S, sr, hq⟩ => ?_⟩
  rw [ev_capp] at hq
  refine wpAny_Call_Name_kw (ld_at o I hgl hdb f1 ?_)
  refine PySem.W.callWith_K (h₀ := X.base) I.ok.mod.kin hK ?_ (star_ok s1) (by rw [star_ok s2]; rfl)
  rw [star_ok s1, star_ok s2]
  show wpAny _ _ (spliced ((false, eval x X.env) :: (false, eval y X.env) :: (false, eval (.Lambda ⟨[], [⟨p0, none, p1⟩], none, [], [], none, []⟩ lb sc lp) X.env) :: (false, eval (.Name (C.gn g) q2) X.env) :: [])) _ _ s
  refine Calls.spliced_cons (thn (ha.run pins s σ H (fun z H1 => ∃ v S1, SRep Γ L m env S1 σ H1 ∧ VRep Γ m S1 H1 v z ∧ EvR Γ (wx W) L m env σ S1 H1 ((ev G h b env S1).bind fun y S => match v.toP, y.toP, capsOf env caps with
    | some x, some y, some cs => (h (.p (.gl f)) [.p x, .p y, .f 1 body cs, .p (G.glb g)] []).cl S
    | _, _, _ => .stk) (VK' Γ m Q)) I ⟨L, m, env, S, sr, hq.bind.mono fun v S' H' _ _ s' q' z hz => ⟨v, S', s', hz, q'⟩⟩) fun u1 t1 ⟨z1, H1, I1, r1, v1, S1, sr1, w1, hq1⟩ => ?_)
  refine Calls.spliced_cons (thn (hb.run pins t1 σ H1 (fun z H2 => ∃ v2 S2, Keep L H1 H2 ∧ Dom S1 S2 ∧ SRep Γ L m env S2 σ H2 ∧ VRep Γ m S2 H2 v2 z ∧ EvR Γ (wx W) L m env σ S2 H2 (match v1.toP, v2.toP, capsOf env caps with
    | some x, some y, some cs => (h (.p (.gl f)) [.p x, .p y, .f 1 body cs, .p (G.glb g)] []).cl S2
    | _, _, _ => .stk) (VK' Γ m Q)) I1 ⟨L, m, env, S1, sr1, hq1.bind.mono fun v S' H' k' d' s' q' z hz => ⟨v, S', k', d', s', hz, q'⟩⟩) fun u2 t2 ⟨z2, H2, I2, r2, v2, S2, k2, d2, sr2, w2, hq2⟩ => ?_)
  have w1 := w1.mono (k2.per sr1.lm) d2
  cases e1 : v1.toP with
  | none => rw [e1] at hq2; exact hq2.elim
  | some dx =>
  cases e2 : v2.toP with
  | none => rw [e1, e2] at hq2; exact hq2.elim
  | some dy =>
  cases e3 : capsOf env caps with
  | none => rw [e1, e2, e3] at hq2; exact hq2.elim
  | some cs =>
  rw [e1, e2, e3] at hq2
  dsimp only at hq2
  have rx := toP_rep w1 e1
  have ry := toP_rep w2 e2
  obtain ⟨ws, c1, c2, c3, c4⟩ := caps_reps sr2 e3
  obtain ⟨n1, n2⟩ := capN_map hcn
  have nfree : ∀ y ∈ sc.names, y.2 = .free → X.env.scope.names.lookup y.1 = some .cell ∨ X.env.scope.names.lookup y.1 = some .free := by
    rw [o.sc]
    exact NdefX.ndef_free hnb
  have hfree : ∀ y ∈ sc.names, y.2 = .free → ∃ c, X.env.cells.lookup y.1 = some c := fun y hy e => (nfree y hy e).elim (fun z => I2.ok.has _ (.inl z)) fun z => I2.ok.has _ (.inr z)
  refine Calls.spliced_cons (LamX.lam_make2 I2 TB hcode hmT hu sr2.sto.tabs rfl hfree fun lf c' pm ctv H3 t3 I3 eN T3 hob hf0 hfr hco => ?_)
  obtain ⟨ug, vg, g1, g2, g3⟩ := o.glb g hg
  refine Calls.spliced_cons (ld_at o I3 hgg hgd g1 (Calls.spliced_nil ⟨I3.kIn, ?_⟩))
  let cl : Clo := { np := 1, b := body, ds := cs, ws := ws, q := X.env.qual ++ "<lambda>", ps := [p0], fr := fr, params := ⟨[], [⟨p0, none, p1⟩], none, [], [], none, []⟩, body := lb, sc := sc, cl := cloFrom X.env.cells sc.names [], c := c' }
  have pr := per_extN eN
  have sr3 := srep_ext sr2 eN T3
  have ct : CloT C.clam cl := ⟨rfl, NdefX.nscope_by hsb, fun pm ctv us hu => (by
    rcases us with _ | ⟨u, _ | ⟨u', us⟩⟩
    · cases hu
    · exact bind1 _ _ _ _ _ _ _ _ _ _
    · cases hu), hcb, by show cs.length = fr.length; omega, by show ws.length = fr.length; omega⟩
  have cells : NdefX.CellsAt cl.cl cl.fr (cl.ws.map some) t3.heap H3 := by
    have := NdefX.cells_of I3 (NdefX.Caps.made (js := caps) I3.ok nfree (NdefX.ndef_fr hnb) (by rw [o.N]; exact n1))
    rw [c3] at this
    exact this
  have hq3 : EvR Γ (wx W) L m env σ S2 H3 ((h (.p (.gl f)) [.p dx, .p dy, .f 1 body cs, .p (G.glb g)] []).cl S2) (VK' Γ m Q) := hq2.shift (fun b o e _ t => eN b o e t) (Dom.refl _)
  have run := F cl lf X.A X.stack t3 H3 [u1, u2, .ref lf, ug] [z1, z2, .ref lf, vg] Q W ct o.room (by rw [← o.K, ← o.mg]; exact I3.env0) ⟨⟨pm, ctv, hob⟩, cells⟩ hf0 hfr hco (Reps.per pr _ _ c4) (.cons r1 (.cons r2 (.cons rfl (.cons g2 .nil)))) (by
    rw [har]
    refine ⟨[.p dx, .p dy, .f 1 body cs, .p (G.glb g)], [], fun _ => 0, rfl, ?_, ⟨fun n o e => (by cases e), fun n n' e => (by cases e), T3⟩, ?_⟩
    · refine ⟨_, _, rfl, (Rep.wc _ _).mpr (Rep.per pr _ _ rx), _, _, rfl, (Rep.wc _ _).mpr (Rep.per pr _ _ ry), _, _, rfl, ⟨lf, cl, rfl, if_pos rfl, rfl, rfl, rfl, hco, (Reps.wc _ _).mpr (Reps.per pr _ _ c4)⟩, _, _, rfl, (Rep.wc _ _).mpr (g3 _), rfl⟩
    · exact cl_back (Γ := Γ) (Γ' := Γ.wc (oneC lf cl)) rfl (fun _ _ _ z => (Rep.wc _ _).mp z) rfl rfl sr3 hq3)
  refine wpAny_call (codeAny_mono run fun r t4 hr => ?_)
  cases r with
  | error e => exact L2N.passes_call o.tk (fun cls d σ H w => w) pins σ H3 t3 e t4 I3 (by rw [o.K.symm, o.mg.symm] at *; exact hr)
  | ok fl =>
    cases fl with
    | ret u => exact I3.after hr
    | next => exact False.elim hr
    | brk => exact False.elim hr
    | cont => exact False.elim hr
/-! ### the checker -/
theorem inv_appc {i : Nat} (h0 : chk (.appc i es) C x = true) : ∃ n q y args p, x = .Call (.Name n q) (y :: args) [] p ∧ C.N[i]? = some n ∧ visB C.sc n = true ∧ dbg n = true ∧ C.clo = true ∧ chks es C (y :: args) = true := by
  cases x
  case Call fn args kws p =>
    obtain ⟨n, q, rfl, rfl, hh⟩ := inv_cl (f := fn) (args := args) (kws := kws) (p := p) (g := fun x args => decide (C.N[i]? = some x) && visB C.sc x && dbg x && !args.isEmpty && C.clo && chks es C args) h0
    simp only [Bool.and_eq_true, Bool.not_eq_true', decide_eq_true_eq] at hh
    obtain ⟨⟨⟨⟨⟨h1, h2⟩, h3⟩, h4⟩, h5⟩, h6⟩ := hh
    cases args with
    | nil => cases h4
    | cons y args => exact ⟨_, _, _, _, _, rfl, h1, h2, h3, h5, h6⟩
  all_goals exact absurd h0 Bool.false_ne_true
theorem inv_capp {f g np : Nat} {caps : List Nat} {body : E} (h0 : chk (.capp f a b np caps body g) C x = true) : ∃ n q y1 y2 ps lb sc lp gx gq p p0 fr, x = .Call (.Name n q) [y1, y2, .Lambda ps lb sc lp, .Name gx gq] [] p ∧
    C.lam = true ∧ f ∈ C.cs ∧ C.ar f = 4 ∧ C.gn f = n ∧ glB C.sc n = true ∧ dbg n = true ∧ notStar y1 = true ∧ notStar y2 = true ∧ chk a C y1 = true ∧ chk b C y2 = true ∧ np = 1 ∧ g ∈ C.gs ∧ C.gn g = gx ∧ glB C.sc gx = true ∧ dbg gx = true ∧
    lamP ps = some p0 ∧ capN C.N caps = some fr ∧ NdefX.nscB (p0 :: fr) [p0] fr sc = true ∧ NdefX.ndefB C.sc sc fr = true ∧ chk body (C.clam (p0 :: fr) sc) lb = true := by
  cases x
  case Call fn args kws p =>
    obtain ⟨n, q, rfl, rfl, hh⟩ := inv_cl (f := fn) (args := args) (kws := kws) (p := p) (g := fun x args => match (generalizing := false) args with
      | [y1, y2, .Lambda ps lb sc _, .Name gx _] => C.lam && decide (f ∈ C.cs) && decide (C.ar f = 4) && decide (C.gn f = x) && glB C.sc x && dbg x && notStar y1 && notStar y2 && chk a C y1 && chk b C y2 && decide (np = 1) && decide (g ∈ C.gs) && decide (C.gn g = gx) && glB C.sc gx && dbg gx &&
        (match lamP ps, capN C.N caps with
          | some p, some fr => NdefX.nscB (p :: fr) [p] fr sc && NdefX.ndefB C.sc sc fr && chk body (C.clam (p :: fr) sc) lb
          | _, _ => false)
      | _ => false) h0
    split at hh
    · simp only [Bool.and_eq_true, decide_eq_true_eq] at hh
      obtain ⟨⟨⟨⟨⟨⟨⟨⟨⟨⟨⟨⟨⟨⟨⟨h1, h2⟩, h3⟩, h4⟩, h5⟩, h6⟩, h7⟩, h8⟩, h9⟩, h10⟩, h11⟩, h12⟩, h13⟩, h14⟩, h15⟩, h16⟩ := hh
      split at h16
      · rename_i p0 fr e1 e2
        simp only [Bool.and_eq_true] at h16
        obtain ⟨⟨h17, h18⟩, h19⟩ := h16
        exact ⟨_, _, _, _, _, _, _, _, _, _, _, _, _, rfl, h1, h2, h3, h4, h5, h6, h7, h8, h9, h10, h11, h12, h13, h14, h15, e1, e2, h17, h18, h19⟩
      · cases h16
    · cases hh
  all_goals exact absurd h0 Bool.false_ne_true
/-! ### list(range(n)) -/
theorem reps_rg {H : Hp} : ∀ (n : Nat) (lo : Int), Reps Γ H (rangeP lo n) ((List.range n).map fun i => V.int (lo + (i : Nat)))
  | 0, _ => reps_nil.mpr rfl
  | n + 1, lo => by
    rw [List.range_succ_eq_map, List.map_cons, List.map_map]
    refine reps_cons'.mpr ⟨by simp only [Rep]; exact congrArg V.int (by omega), ?_⟩
    have := reps_rg (H := H) n (lo + 1)
    have e : (fun i : Nat => V.int (lo + (i : Nat))) ∘ Nat.succ = fun i : Nat => V.int (lo + 1 + (i : Nat)) := by
      funext i
      show V.int (lo + ((i + 1 : Nat) : Int)) = V.int (lo + 1 + (i : Nat))
      congr 1
      omega
    rw [e]
    exact this
theorem ev_lrng (a : E) (env : Env) (S : Sto) : ev G h (.lrng a) env S = (ev G h a env S).bind fun v S => match v with
    | .p (.int j) => if -1000 ≤ j ∧ j ≤ BIG then .ok (.p (.lst (rangeP 0 j.toNat))) S else .stk
    | _ => .stk := rfl
theorem pe_lrg (o : XOk Γ G h k C W X) {q q2 p p2 : Pos} (h1 : glB C.sc ("list" : Str) = true) (h2 : glB C.sc ("range" : Str) = true) (hs : notStar x = true) (ha : PE X x (tE Γ (wx W) G h a)) :
    PE X (.Call (.Name ("list" : Str) q) [.Call (.Name ("range" : Str) q2) [x] [] p2] [] p) (tE Γ (wx W) G h (.lrng a)) ∧ PE X (.Call (.Name ("list" : Str) q) [.Call (.Name ("range" : Str) q2) [x] [] p2] [] p) (tN Γ (wx W) G h (.lrng a)) := by
  have base : PE X (.Call (.Name ("list" : Str) q) [.Call (.Name ("range" : Str) q2) [x] [] p2] [] p) (tLstRg (tRg1 (tE Γ (wx W) G h a))) := pe_listRg o.calm (o.gl h1) (o.mb (by decide)) (prg_1 (o.gl h2) (o.mb (by decide)) ha (star_ok hs)) rfl
  have go : ∀ {σ H} {Q : VK} {L : Addr → Prop} {m : Nat → Addr} {env : Env} {S : Sto} {K : Val → Sto → Hp → Prop} (R : Addr → List V → Hp → Prop), SRep Γ L m env S σ H → EvR Γ (wx W) L m env σ S H (ev G h (.lrng a) env S) K →
      (∀ (j : Int) S1 H1, SRep Γ L m env S1 σ H1 → EvR Γ (wx W) L m env σ S1 H1 (.ok (.p (.lst (rangeP 0 j.toNat))) S1) K → ∀ q, H1 q = none → R q (rgV 0 j) H1) →
      tE Γ (wx W) G h a σ H fun x H1 => ∃ n, x = .int n ∧ (RgOk 0 n ∧ ∀ q, H1 q = none → R q (rgV 0 n) H1) := by
    intro σ H Q L m env S K R sr hq fin
    rw [ev_lrng] at hq
    refine ⟨L, m, env, S, sr, hq.bind.mono fun v S1 H1 k1 d1 s1 q1 xv hx => ?_⟩
    split at q1
    · rename_i j
      split at q1
      · rename_i hj
        have e : xv = .int j := by simpa only [VRep, Rep] using hx
        have hb : BIG = 100000 := rfl
        exact ⟨j, e, ⟨by omega, by omega, by omega, by omega, by omega⟩, fin j S1 H1 s1 q1⟩
      · exact q1.elim
    · exact q1.elim
  have rr : ∀ {H : Hp} {j : Int}, Reps Γ H (rangeP 0 j.toNat) (rgV 0 j) := fun {H j} => by
    have := reps_rg (Γ := Γ) (H := H) j.toNat 0
    unfold rgV
    rw [Int.sub_zero]
    exact this
  refine ⟨PE.imp (pe_frz base) fun σ H Q ⟨L, m, env, S, sr, hq⟩ => ?_, PE.imp base fun σ H Q ⟨L, m, env, S, sr, hq⟩ => ?_⟩
  · exact go (Q := Q) (fun q xs H1 => Q (.ref q) (upd H1 q (.lst xs)) ∨ ∃ a ys, V.ref q = .ref a ∧ (upd H1 q (.lst xs)) a = some (.lst ys) ∧ ∀ o, Q (.ref q) (upd (upd H1 q (.lst xs)) a (.frz o (.lst ys)))) sr hq fun j S1 H1 s1 q1 q hn => .inr ⟨q, _, rfl, upd_same, fun ob => by
      rw [upd_upd]
      exact q1.okSame s1 (Same.new hn) _ (rep_frz hn rr)⟩
  · exact go (Q := Q) (fun q xs H1 => Q (.ref q) (upd H1 q (.lst xs))) sr hq fun j S1 H1 s1 q1 q hn => by
      obtain ⟨d, e, _, q2⟩ := q1.ok s1
      cases e
      exact q2 q _ hn ⟨_, rfl, rr⟩
theorem inv_lrng (h0 : chk (.lrng a) C x = true) : ∃ q q2 p p2 z, x = .Call (.Name ("list" : Str) q) [.Call (.Name ("range" : Str) q2) [z] [] p2] [] p ∧ glB C.sc ("list" : Str) = true ∧ glB C.sc ("range" : Str) = true ∧ notStar z = true ∧ chk a C z = true := by
  cases x
  case Call fn args kws p =>
    obtain ⟨n, q, rfl, rfl, hh⟩ := inv_cl (f := fn) (args := args) (kws := kws) (p := p) (g := fun x args => match (generalizing := false) args with
      | [.Call (.Name y _) [z] [] _] => decide (x = ("list" : Str)) && decide (y = ("range" : Str)) && glB C.sc x && glB C.sc y && notStar z && chk a C z
      | _ => false) h0
    split at hh
    · simp only [Bool.and_eq_true, decide_eq_true_eq] at hh
      obtain ⟨⟨⟨⟨⟨rfl, rfl⟩, h1⟩, h2⟩, h3⟩, h4⟩ := hh
      exact ⟨_, _, _, _, _, rfl, h1, h2, h3, h4⟩
    · cases hh
  all_goals exact absurd h0 Bool.false_ne_true
end
end Hb

/-! Expressions, part 5: every expression that the checker lets pass. -/
namespace Hb
open PySem PySem.Spec PyProof.Rows L2

section
variable (Γ : Gm) (G : Prog) (h : Hd) (k : Nat)
structure Good (e : E) : Prop where
  pe : ∀ {C : Ctx} {W : XK} {X : Cx} {x : Expr}, XOk Γ G h k C W X → chk e C x = true → PE X x (tE Γ (wx W) G h e)
  pt : ∀ {C : Ctx} {W : XK} {X : Cx} {x : Expr}, XOk Γ G h k C W X → tst e = true → chk e C x = true → PT X x (tT Γ (wx W) G h e)
  pn : ∀ {C : Ctx} {W : XK} {X : Cx} {x : Expr}, XOk Γ G h k C W X → mkr e = true → chk e C x = true → PE X x (tN Γ (wx W) G h e)
  pa : ∀ {C : Ctx} {W : XK} {X : Cx} {l : List Expr}, XOk Γ G h k C W X → chks e C l = true → PA X l (tA Γ (wx W) G h e)
  pb : ∀ {C : Ctx} {W : XK} {X : Cx} {l : List Expr} {pos : Pos} (n : Bool), XOk Γ G h k C W X → chkAO e C l = true → PE X (.BoolOp (if n then .And else .Or) l pos) (tAO Γ (wx W) G h n e) ∧ PW X (.BoolOp (if n then .And else .Or) l pos) (tAOT Γ (wx W) G h n e)
  po : ∀ {C : Ctx} {W : XK} {X : Cx} {x : Option Expr}, XOk Γ G h k C W X → chkO e C x = true → PO X x (tO Γ (wx W) G h e)
  pi : ∀ {C : Ctx} {W : XK} {X : Cx} {x tg : Expr}, XOk Γ G h k C W X → chkI e C x tg = true → PI X tg x (tI Γ (wx W) G h e)
end
section
variable {Γ : Gm} {G : Prog} {h : Hd} {k : Nat}
theorem chkAO_inv {C : Ctx} {es : E} {l : List Expr} (h : chkAO es C l = true) : ∃ a es' x l', es = .cons a es' ∧ l = x :: l' ∧ tst a = true ∧ chk a C x = true ∧ ((l' = [] ∧ es' = .nil) ∨ ∃ y l2, l' = y :: l2 ∧ chkAO es' C l' = true) := by
  cases es
  case cons a es =>
    rcases l with _ | ⟨x, _ | ⟨y, l⟩⟩
    · exact absurd h Bool.false_ne_true
    · have h : (tst a && chk a C x && (match (generalizing := false) es with | .nil => true | _ => false)) = true := h
      simp only [Bool.and_eq_true] at h
      obtain ⟨⟨h1, h2⟩, h3⟩ := h
      refine ⟨_, _, _, _, rfl, rfl, h1, h2, .inl ⟨rfl, ?_⟩⟩
      cases es
      case nil => rfl
      all_goals exact absurd h3 Bool.false_ne_true
    · have h : (tst a && chk a C x && chkAO es C (y :: l)) = true := h
      simp only [Bool.and_eq_true] at h
      exact ⟨_, _, _, _, rfl, rfl, h.1.1, h.1.2, .inr ⟨_, _, rfl, h.2⟩⟩
  all_goals exact absurd h Bool.false_ne_true
theorem chkI_rng {C : Ctx} {e : E} {x tg : Expr} (h : chkI (.rng e) C x tg = true) : ∃ q y p, x = .Call (.Name ("range" : Str) q) [y] [] p ∧ glB C.sc ("range" : Str) = true ∧ notStar y = true ∧ chk e C y = true := by
  cases x
  case Call fn args kws p =>
    obtain ⟨n, q, rfl, rfl, hh⟩ := inv_cl (f := fn) (args := args) (kws := kws) (p := p) (g := fun f args => match (generalizing := false) args with
      | [x] => decide (f = ("range" : Str)) && glB C.sc f && notStar x && chk e C x
      | _ => false) h
    rcases args with _ | ⟨y, _ | ⟨z, args⟩⟩ <;> try exact absurd hh Bool.false_ne_true
    simp only [Bool.and_eq_true, decide_eq_true_eq] at hh
    obtain ⟨⟨⟨rfl, h1⟩, h2⟩, h3⟩ := hh
    exact ⟨_, _, _, rfl, h1, h2, h3⟩
  all_goals exact absurd h Bool.false_ne_true
theorem chkI_enm {C : Ctx} {e : E} {x tg : Expr} (h : chkI (.enm e) C x tg = true) : ∃ q y p, x = .Call (.Name ("enumerate" : Str) q) [y] [] p ∧ glB C.sc ("enumerate" : Str) = true ∧ notStar y = true ∧ chk e C y = true ∧ isTup tg = true := by
  cases x
  case Call fn args kws p =>
    obtain ⟨n, q, rfl, rfl, hh⟩ := inv_cl (f := fn) (args := args) (kws := kws) (p := p) (g := fun f args => match (generalizing := false) args with
      | [x] => decide (f = ("enumerate" : Str)) && glB C.sc f && notStar x && chk e C x && isTup tg
      | _ => false) h
    rcases args with _ | ⟨y, _ | ⟨z, args⟩⟩ <;> try exact absurd hh Bool.false_ne_true
    simp only [Bool.and_eq_true, decide_eq_true_eq] at hh
    obtain ⟨⟨⟨⟨rfl, h1⟩, h2⟩, h3⟩, h4⟩ := hh
    exact ⟨_, _, _, rfl, h1, h2, h3, h4⟩
  all_goals exact absurd h Bool.false_ne_true
theorem chkI_zip {C : Ctx} {a b : E} {x tg : Expr} (h : chkI (.zip a b) C x tg = true) : ∃ q y z p, x = .Call (.Name ("zip" : Str) q) [y, z] [] p ∧ glB C.sc ("zip" : Str) = true ∧ notStar y = true ∧ notStar z = true ∧ chk a C y = true ∧ chk b C z = true ∧ isTup tg = true := by
  cases x
  case Call fn args kws p =>
    obtain ⟨n, q, rfl, rfl, hh⟩ := inv_cl (f := fn) (args := args) (kws := kws) (p := p) (g := fun f args => match (generalizing := false) args with
      | [x, y] => decide (f = ("zip" : Str)) && glB C.sc f && notStar x && notStar y && chk a C x && chk b C y && isTup tg
      | _ => false) h
    rcases args with _ | ⟨y, _ | ⟨z, _ | ⟨u, args⟩⟩⟩ <;> try exact absurd hh Bool.false_ne_true
    simp only [Bool.and_eq_true, decide_eq_true_eq] at hh
    obtain ⟨⟨⟨⟨⟨⟨rfl, h1⟩, h2⟩, h3⟩, h4⟩, h5⟩, h6⟩ := hh
    exact ⟨_, _, _, _, rfl, h1, h2, h3, h4, h5, h6⟩
  all_goals exact absurd h Bool.false_ne_true
theorem chkI_zip3 {C : Ctx} {a b c : E} {x tg : Expr} (h : chkI (.zip3 a b c) C x tg = true) : ∃ q y z u p, x = .Call (.Name ("zip" : Str) q) [y, z, u] [] p ∧ glB C.sc ("zip" : Str) = true ∧ notStar y = true ∧ notStar z = true ∧ notStar u = true ∧ chk a C y = true ∧ chk b C z = true ∧ chk c C u = true ∧ isTup tg = true := by
  cases x
  case Call fn args kws p =>
    obtain ⟨n, q, rfl, rfl, hh⟩ := inv_cl (f := fn) (args := args) (kws := kws) (p := p) (g := fun f args => match (generalizing := false) args with
      | [x, y, z] => decide (f = ("zip" : Str)) && glB C.sc f && notStar x && notStar y && notStar z && chk a C x && chk b C y && chk c C z && isTup tg
      | _ => false) h
    rcases args with _ | ⟨y, _ | ⟨z, _ | ⟨u, _ | ⟨v, args⟩⟩⟩⟩ <;> try exact absurd hh Bool.false_ne_true
    simp only [Bool.and_eq_true, decide_eq_true_eq] at hh
    obtain ⟨⟨⟨⟨⟨⟨⟨⟨rfl, h1⟩, h2⟩, h3⟩, h4⟩, h5⟩, h6⟩, h7⟩, h8⟩ := hh
    exact ⟨_, _, _, _, _, rfl, h1, h2, h3, h4, h5, h6, h7, h8⟩
  all_goals exact absurd h Bool.false_ne_true
theorem isTup_inv {tg : Expr} (h : isTup tg = true) : ∃ l k p, tg = .Tuple l k p := by
  cases tg
  case Tuple l k p => exact ⟨_, _, _, rfl⟩
  all_goals exact absurd h Bool.false_ne_true
/-- only as a value -/
theorem Good.val {e : E} (pe : ∀ {C : Ctx} {W : XK} {X : Cx} {x : Expr}, XOk Γ G h k C W X → chk e C x = true → PE X x (tE Γ (wx W) G h e))
    (pt : ∀ {C : Ctx} {W : XK} {X : Cx} {x : Expr}, XOk Γ G h k C W X → tst e = true → chk e C x = true → PT X x (tT Γ (wx W) G h e))
    (pn : ∀ {C : Ctx} {W : XK} {X : Cx} {x : Expr}, XOk Γ G h k C W X → mkr e = true → chk e C x = true → PE X x (tN Γ (wx W) G h e))
    (h1 : ∀ C l, chks e C l = false) (h2 : ∀ C l, chkAO e C l = false) (h3 : ∀ C l, chkO e C l = false) (h4 : ∀ C l t, chkI e C l t = false) : Good Γ G h k e :=
  ⟨pe, pt, pn, (fun _ q => absurd ((h1 _ _).symm.trans q) Bool.false_ne_true), (fun _ _ q => absurd ((h2 _ _).symm.trans q) Bool.false_ne_true), (fun _ q => absurd ((h3 _ _).symm.trans q) Bool.false_ne_true), (fun _ q => absurd ((h4 _ _ _).symm.trans q) Bool.false_ne_true)⟩
theorem noArgs_inv {ps : Arguments} (h : noArgs ps = true) : ps = ⟨[], [], none, [], [], none, []⟩ := by
  unfold noArgs at h
  split at h
  · rfl
  · cases h
theorem inv_tryl {C : Ctx} {e : E} {x : Expr} (h : chk (.tryl e) C x = true) : ∃ q ps body scope lp p, x = .Call (.Name ("_law_try" : Str) q) [.Lambda ps body scope lp] [] p ∧ C.lam = true ∧ glB C.sc ("_law_try" : Str) = true ∧ noArgs ps = true ∧ LamX.lamSB C.sc scope = true ∧ chk e (C.lamb scope) body = true := by
  cases x
  case Call fn args kws p =>
    obtain ⟨n, q, rfl, rfl, hh⟩ := inv_cl (f := fn) (args := args) (kws := kws) (p := p) (g := fun f args => match (generalizing := false) args with
      | [.Lambda ps body scope _] => C.lam && decide (f = ("_law_try" : Str)) && glB C.sc f && noArgs ps && LamX.lamSB C.sc scope && chk e (C.lamb scope) body
      | _ => false) h
    rcases args with _ | ⟨y, _ | ⟨z, args⟩⟩
    · exact absurd hh Bool.false_ne_true
    · cases y
      case Lambda ps body scope lp =>
        simp only [Bool.and_eq_true, decide_eq_true_eq] at hh
        obtain ⟨⟨⟨⟨⟨h1, rfl⟩, h2⟩, h3⟩, h4⟩, h5⟩ := hh
        exact ⟨_, _, _, _, _, _, rfl, h1, h2, h3, h4, h5⟩
      all_goals exact absurd hh Bool.false_ne_true
    · cases y <;> exact absurd hh Bool.false_ne_true
  all_goals exact absurd h Bool.false_ne_true
theorem ev_tryl (e : E) (env : Env) (S : Sto) : ev G h (.tryl e) env S = match ev G h e env S with
    | .ok v S => match v.toP with
      | some d => .ok (.p (.tup [.str "told", d])) S
      | none => .stk
    | .exc c d S => match G.kin c, d with
      | some (w, false), none => .ok (.p (.str w)) S
      | some (w, true), some d => .ok (.p (.tup [.str w, d])) S
      | _, _ => .stk
    | .stk => .stk := rfl
theorem pe_tl {C : Ctx} {W : XK} {X : Cx} {e : E} {q p lp : Pos} {ps : Arguments} {body : Expr} {scope : Scope} (o : XOk Γ G h k C W X) (hl : C.lam = true) (g1 : glB C.sc ("_law_try" : Str) = true) (h3 : noArgs ps = true) (h4 : LamX.lamSB C.sc scope = true)
    (ih : ∀ {C : Ctx} {W : XK} {X : Cx} {x : Expr}, XOk Γ G h k C W X → chk e C x = true → PE X x (tE Γ (wx W) G h e)) (hc : chk e (C.lamb scope) body = true) : PE X (.Call (.Name ("_law_try" : Str) q) [.Lambda ps body scope lp] [] p) (tE Γ (wx W) G h (.tryl e)) := by
  obtain ⟨⟨c, P, TB, hcode, hmT, hu⟩, ⟨g, pg, bg, sg, dV, kV, doc, pm, cdv, ct, oc, an, od, osl, m1, m2, m3, m4, m5, m6, m7, m8⟩⟩ := o.tr hl
  obtain rfl := noArgs_inv h3
  rw [← o.mg] at m1
  rw [← o.K] at m2 m3 m4 m5
  have L : LamX.LamS X.env.scope scope := by rw [o.sc]; exact LamX.lamS_by h4
  have hr := o.room2 hl
  refine PE.imp (pe_lamcallN (T := Γ.T) (TT := TTry Γ) (t := fun E => tE Γ (wx E) G h e) (k := k) (Ng := tryN) (a := ("call_so" : Str)) (o.gl g1) m1 m2 m3 m4 m5 m6 rfl m7 (m8 X _ o.K o.mg rfl rfl rfl (hr.mono (Nat.le_add_left _ _))) TB hcode hmT hu hr L rfl (fun _ _ _ _ _ => rfl) (fun A outer s H E f c' hr2 => ?_) (by decide) (by decide) (by decide)) fun σ H Q hyp => ?_
  · refine ih (C := C.lamb scope) (W := E) (X := lamCxN X A outer s H E scope f c') ?_ hc
    exact { K := o.K, mg := o.mg, gn := o.gn, N := o.N, nd := o.nd, sc := rfl, st := fun x z => absurd z Bool.false_ne_true, calm := rfl, tk := lam_takes, room := hr2, room2 := fun z => absurd z Bool.false_ne_true, bl := o.bl, glb := o.glb, arr := o.arr, cl := CloK.no rfl rfl, fns := o.fns, tr := fun z => absurd z Bool.false_ne_true, kin := o.kin }
  · obtain ⟨Lv, m, env, S, sr, ee⟩ := hyp
    refine ⟨sr.sto.tabs, fun H1 e1 t1 => ?_⟩
    have sr1 := srep_ext sr e1 t1
    have k1 : Keep Lv H H1 := fun b o q _ t => e1 b o q t
    have ee := ee.shift k1 (Dom.refl _)
    rw [ev_tryl] at ee
    refine ⟨Lv, m, env, S, sr1, ?_⟩
    cases hr : ev G h e env S with
    | stk => rw [hr] at ee; exact ee
    | ok v S' =>
      rw [hr] at ee
      dsimp only at ee
      cases hv : v.toP with
      | none => rw [hv] at ee; exact ee.elim
      | some d =>
        rw [hv] at ee
        intro H' k d' s' x hx
        refine ⟨by show 2 ≤ sizeLine; decide, fun a o ha ho => ⟨_, rfl, ?_⟩⟩
        have sm : Same H' (upd H' a (.frz o (.tup [.str ("told" : Str), x]))) := Same.new ha
        refine ee _ (k.trans (Keep.of sm)) d' (s'.same sm) _ ?_
        show Rep Γ (upd H' a (.frz o (.tup [.str ("told" : Str), x]))) (.tup [.str "told", d]) (.ref a)
        simp only [Rep]
        exact ⟨a, _, rfl, ⟨o, upd_same, ho⟩, reps_cons.mpr ⟨_, _, rfl, by simp only [Rep], reps_cons.mpr ⟨_, _, rfl, Rep.per (per_of sm) _ _ (toP_rep hx hv), reps_nil.mpr rfl⟩⟩⟩
    | exc c d S' =>
      rw [hr] at ee
      dsimp only at ee
      intro cls dx H' k d' s' ⟨x1, x2⟩
      cases d with
      | none =>
        cases hk : G.kin c with
        | none => rw [hk] at ee; exact ee.elim
        | some wb =>
          obtain ⟨w, b⟩ := wb
          rw [hk] at ee
          cases b with
          | true => exact ee.elim
          | false =>
            obtain ⟨cls', y1, y2⟩ := (o.kin c w false hk).2
            rw [x1] at y1
            cases y1
            refine ⟨w, y2, x2, fun H'' sm => ?_⟩
            refine ee _ (k.trans (Keep.of sm)) d' (s'.same sm) _ ?_
            show Rep Γ H'' (.str w) (.str w)
            simp only [Rep]
      | some d =>
        cases hk : G.kin c with
        | none => rw [hk] at ee; exact ee.elim
        | some wb =>
          obtain ⟨w, b⟩ := wb
          obtain ⟨rfl, _⟩ := o.kin c w b hk
          rw [hk] at ee
          exact ee.elim
theorem good : ∀ e : E, Good Γ G h k e := by
  intro e
  induction e with
  | cst d => exact .val (fun o q => pe_cst q) (fun o _ q => pt_of (inv_cst q) (pe_cst q)) (fun _ q => absurd q Bool.false_ne_true) (fun _ _ => rfl) (fun _ _ => rfl) (fun _ _ => rfl) (fun _ _ _ => rfl)
  | var i => exact .val (fun o q => pe_vr o q) (fun o _ q => pt_of (inv_var q) (pe_vr o q)) (fun _ q => absurd q Bool.false_ne_true) (fun _ _ => rfl) (fun _ _ => rfl) (fun _ _ => rfl) (fun _ _ _ => rfl)
  | glb g =>
    refine .val (fun o q => ?_) (fun o _ q => ?_) (fun _ q => absurd q Bool.false_ne_true) (fun _ _ => rfl) (fun _ _ => rfl) (fun _ _ => rfl) (fun _ _ _ => rfl)
    · obtain ⟨n, p, rfl, h1, h2, h3, h4⟩ := inv_glb q
      exact pe_gl o h1 h2 h3 h4
    · obtain ⟨n, p, rfl, h1, h2, h3, h4⟩ := inv_glb q
      exact pt_of rfl (pe_gl o h1 h2 h3 h4)
  | op o2 a b iha ihb =>
    refine .val (fun o q => ?_) (fun o _ q => ?_) (fun o m q => ?_) (fun _ _ => rfl) (fun _ _ => rfl) (fun _ _ => rfl) (fun _ _ _ => rfl)
    · rcases inv_op q with ⟨l, op, r, p, rfl, h1, h2, h3⟩ | ⟨l, op, r, p, rfl, h1, h2, h3, h4⟩
      · exact (pe_bin o h1 (iha.pe o h2) (ihb.pe o h3)).1
      · exact (p_cmp o h1 h2 (iha.pe o h3) (ihb.pe o h4)).1
    · rcases inv_op q with ⟨l, op, r, p, rfl, h1, h2, h3⟩ | ⟨l, op, r, p, rfl, h1, h2, h3, h4⟩
      · exact pt_of rfl (pe_bin o h1 (iha.pe o h2) (ihb.pe o h3)).1
      · exact (p_cmp o h1 h2 (iha.pe o h3) (ihb.pe o h4)).2
    · rcases inv_op q with ⟨l, op, r, p, rfl, h1, h2, h3⟩ | ⟨l, op, r, p, rfl, h1, h2, h3, h4⟩
      · exact (pe_bin o h1 (iha.pe o h2) (ihb.pe o h3)).2
      · exfalso
        have m : o2.bop.isSome = true := m
        revert m h1
        cases o2 <;> simp [O2.bop, O2.cop]
  | neg a iha =>
    refine .val (fun o q => ?_) (fun o _ q => ?_) (fun _ q => absurd q Bool.false_ne_true) (fun _ _ => rfl) (fun _ _ => rfl) (fun _ _ => rfl) (fun _ _ _ => rfl)
    · obtain ⟨l, p, rfl, h1⟩ := inv_neg q
      exact pe_neg (iha.pe o h1)
    · obtain ⟨l, p, rfl, h1⟩ := inv_neg q
      exact pt_of rfl (pe_neg (iha.pe o h1))
  | chain o1 o2 a b c iha ihb ihc =>
    refine .val (fun o q => ?_) (fun o _ q => ?_) (fun _ q => absurd q Bool.false_ne_true) (fun _ _ => rfl) (fun _ _ => rfl) (fun _ _ => rfl) (fun _ _ _ => rfl)
    · obtain ⟨l, p1, p2, r1, r2, p, rfl, h1, h2, h3, h4, h5, h6, h7, h8⟩ := inv_chain q
      exact (p_chain o h1 h3 h2 h4 h5 (iha.pe o h6) (ihb.pe o h7) (ihc.pe o h8)).1
    · obtain ⟨l, p1, p2, r1, r2, p, rfl, h1, h2, h3, h4, h5, h6, h7, h8⟩ := inv_chain q
      exact (p_chain o h1 h3 h2 h4 h5 (iha.pe o h6) (ihb.pe o h7) (ihc.pe o h8)).2
  | and es ih =>
    refine .val (fun o q => ?_) (fun o _ q => ?_) (fun _ q => absurd q Bool.false_ne_true) (fun _ _ => rfl) (fun _ _ => rfl) (fun _ _ => rfl) (fun _ _ _ => rfl)
    · obtain ⟨l, p, rfl, h1⟩ := inv_and q
      exact (ih.pb true o h1).1
    · obtain ⟨l, p, rfl, h1⟩ := inv_and q
      exact (ih.pb true o h1).2.pt
  | or es ih =>
    refine .val (fun o q => ?_) (fun o _ q => ?_) (fun _ q => absurd q Bool.false_ne_true) (fun _ _ => rfl) (fun _ _ => rfl) (fun _ _ => rfl) (fun _ _ _ => rfl)
    · obtain ⟨l, p, rfl, h1⟩ := inv_or q
      exact (ih.pb false o h1).1
    · obtain ⟨l, p, rfl, h1⟩ := inv_or q
      exact (ih.pb false o h1).2.pt
  | not a iha =>
    refine .val (fun o q => ?_) (fun o _ q => ?_) (fun _ q => absurd q Bool.false_ne_true) (fun _ _ => rfl) (fun _ _ => rfl) (fun _ _ => rfl) (fun _ _ _ => rfl)
    · obtain ⟨l, p, rfl, h1, h2⟩ := inv_not q
      exact (p_not (iha.pe o h2) (iha.pt o h1 h2)).1
    · obtain ⟨l, p, rfl, h1, h2⟩ := inv_not q
      exact (p_not (iha.pe o h2) (iha.pt o h1 h2)).2
  | ite c a b ihc iha ihb =>
    refine .val (fun o q => ?_) (fun _ q => absurd q Bool.false_ne_true) (fun _ q => absurd q Bool.false_ne_true) (fun _ _ => rfl) (fun _ _ => rfl) (fun _ _ => rfl) (fun _ _ _ => rfl)
    obtain ⟨t, l, r, p, rfl, h1, h2, h3, h4⟩ := inv_ite q
    exact pe_ite (ihc.pt o h1 h2) (iha.pe o h3) (ihb.pe o h4)
  | tup es ih =>
    refine .val (fun o q => ?_) (fun o _ q => ?_) (fun _ q => absurd q Bool.false_ne_true) (fun _ _ => rfl) (fun _ _ => rfl) (fun _ _ => rfl) (fun _ _ _ => rfl)
    · obtain ⟨l, kk, p, rfl, h1⟩ := inv_tup q
      exact pe_tp (ih.pa o h1)
    · obtain ⟨l, kk, p, rfl, h1⟩ := inv_tup q
      exact pt_of rfl (pe_tp (ih.pa o h1))
  | lst es ih =>
    refine .val (fun o q => ?_) (fun o _ q => ?_) (fun o _ q => ?_) (fun _ _ => rfl) (fun _ _ => rfl) (fun _ _ => rfl) (fun _ _ _ => rfl)
    · obtain ⟨l, p, rfl, h1⟩ := inv_lst q
      exact (pe_ls (ih.pa o h1)).1
    · obtain ⟨l, p, rfl, h1⟩ := inv_lst q
      exact pt_of rfl (pe_ls (ih.pa o h1)).1
    · obtain ⟨l, p, rfl, h1⟩ := inv_lst q
      exact (pe_ls (ih.pa o h1)).2
  | dsp0 =>
    refine .val (fun o q => ?_) (fun o _ q => ?_) (fun o _ q => ?_) (fun _ _ => rfl) (fun _ _ => rfl) (fun _ _ => rfl) (fun _ _ _ => rfl)
    · obtain ⟨p, rfl⟩ := inv_dsp0 q
      exact pe_dd0.1
    · obtain ⟨p, rfl⟩ := inv_dsp0 q
      exact pt_of rfl pe_dd0.1
    · obtain ⟨p, rfl⟩ := inv_dsp0 q
      exact pe_dd0.2
  | dsp1 a b iha ihb =>
    refine .val (fun o q => ?_) (fun o _ q => ?_) (fun o _ q => ?_) (fun _ _ => rfl) (fun _ _ => rfl) (fun _ _ => rfl) (fun _ _ _ => rfl)
    · obtain ⟨y, z, p, rfl, h1, h2⟩ := inv_dsp1 q
      exact (pe_dd1 o (iha.pe o h1) (ihb.pe o h2)).1
    · obtain ⟨y, z, p, rfl, h1, h2⟩ := inv_dsp1 q
      exact pt_of rfl (pe_dd1 o (iha.pe o h1) (ihb.pe o h2)).1
    · obtain ⟨y, z, p, rfl, h1, h2⟩ := inv_dsp1 q
      exact (pe_dd1 o (iha.pe o h1) (ihb.pe o h2)).2
  | dget o k d _ _ _ => exact .val (fun _ q => absurd q Bool.false_ne_true) (fun _ _ q => absurd q Bool.false_ne_true) (fun _ q => absurd q Bool.false_ne_true) (fun _ _ => rfl) (fun _ _ => rfl) (fun _ _ => rfl) (fun _ _ _ => rfl)
  | dc t it kx vx own _ _ _ => exact .val (fun _ q => absurd q Bool.false_ne_true) (fun _ _ q => absurd q Bool.false_ne_true) (fun _ q => absurd q Bool.false_ne_true) (fun _ _ => rfl) (fun _ _ => rfl) (fun _ _ => rfl) (fun _ _ _ => rfl)
  | itm e _ => exact .val (fun _ q => absurd q Bool.false_ne_true) (fun _ _ q => absurd q Bool.false_ne_true) (fun _ q => absurd q Bool.false_ne_true) (fun _ _ => rfl) (fun _ _ => rfl) (fun _ _ => rfl) (fun _ _ _ => rfl)
  | nil =>
    refine ⟨fun _ q => absurd q Bool.false_ne_true, fun _ _ q => absurd q Bool.false_ne_true, fun _ q => absurd q Bool.false_ne_true, fun o q => ?_, fun _ _ q => absurd q Bool.false_ne_true, fun o q => ?_, fun _ q => absurd q Bool.false_ne_true⟩
    · rcases chks_inv q with ⟨_, rfl⟩ | ⟨_, _, _, _, e, _⟩
      · exact pa_0
      · cases e
    · rename_i x
      cases x
      · exact po_nil
      · exact absurd q Bool.false_ne_true
  | cons a es iha ihs =>
    refine ⟨fun _ q => absurd q Bool.false_ne_true, fun _ _ q => absurd q Bool.false_ne_true, fun _ q => absurd q Bool.false_ne_true, fun o q => ?_, fun n o q => ?_, fun _ q => absurd q Bool.false_ne_true, fun _ q => absurd q Bool.false_ne_true⟩
    · rcases chks_inv q with ⟨e, _⟩ | ⟨_, _, _, _, e, rfl, h1, h2, h3⟩
      · cases e
      · cases e
        exact pa_1 h1 (iha.pe o h2) (ihs.pa o h3)
    · obtain ⟨_, _, x, l', e, rfl, h1, h2, h3⟩ := chkAO_inv q
      cases e
      rcases h3 with ⟨rfl, rfl⟩ | ⟨y, l2, rfl, h3⟩
      · exact p_ao1 (iha.pe o h2) (iha.pt o h1 h2)
      · obtain ⟨b, c, _, _, e, _⟩ := chkAO_inv h3
        subst e
        exact p_ao2 (iha.pe o h2) (iha.pt o h1 h2) (ihs.pb n o h3).1 (ihs.pb n o h3).2
  | idx a i iha ihi =>
    refine .val (fun o q => ?_) (fun o _ q => ?_) (fun _ q => absurd q Bool.false_ne_true) (fun _ _ => rfl) (fun _ _ => rfl) (fun _ _ => rfl) (fun _ _ _ => rfl)
    · obtain ⟨l, r, p, rfl, h1, h2, h3⟩ := inv_idx q
      exact pe_idx o h1 (iha.pe o h2) (ihi.pe o h3)
    · obtain ⟨l, r, p, rfl, h1, h2, h3⟩ := inv_idx q
      exact pt_of rfl (pe_idx o h1 (iha.pe o h2) (ihi.pe o h3))
  | slc a lo hi iha ihl ihh =>
    refine .val (fun o q => ?_) (fun o _ q => ?_) (fun o _ q => ?_) (fun _ _ => rfl) (fun _ _ => rfl) (fun _ _ => rfl) (fun _ _ _ => rfl)
    · obtain ⟨v, l, u, p2, p, rfl, h1, h2, h3⟩ := inv_slc q
      exact (pe_sl o (iha.pe o h1) (ihl.po o h2) (ihh.po o h3)).1
    · obtain ⟨v, l, u, p2, p, rfl, h1, h2, h3⟩ := inv_slc q
      exact pt_of rfl (pe_sl o (iha.pe o h1) (ihl.po o h2) (ihh.po o h3)).1
    · obtain ⟨v, l, u, p2, p, rfl, h1, h2, h3⟩ := inv_slc q
      exact (pe_sl o (iha.pe o h1) (ihl.po o h2) (ihh.po o h3)).2
  | rev a iha =>
    refine .val (fun o q => ?_) (fun o _ q => ?_) (fun _ q => absurd q Bool.false_ne_true) (fun _ _ => rfl) (fun _ _ => rfl) (fun _ _ => rfl) (fun _ _ _ => rfl)
    · obtain ⟨v, k, p1, p2, p3, p, rfl, h1⟩ := inv_rev q
      exact pe_rv o (iha.pe o h1)
    · obtain ⟨v, k, p1, p2, p3, p, rfl, h1⟩ := inv_rev q
      exact pt_of rfl (pe_rv o (iha.pe o h1))
  | call f es ih =>
    refine .val (fun o q => ?_) (fun o _ q => ?_) (fun _ q => absurd q Bool.false_ne_true) (fun _ _ => rfl) (fun _ _ => rfl) (fun _ _ => rfl) (fun _ _ _ => rfl)
    · obtain ⟨n, q', args, p, rfl, h1, h2, h3, h4, h5, h6⟩ := inv_call q
      exact pe_cl o h1 h2 h3 h4 h5 h6 (ih.pa o h6)
    · obtain ⟨n, q', args, p, rfl, h1, h2, h3, h4, h5, h6⟩ := inv_call q
      exact pt_of rfl (pe_cl o h1 h2 h3 h4 h5 h6 (ih.pa o h6))
  | app f es ihf ih =>
    refine .val (fun o q => ?_) (fun o _ q => ?_) (fun _ q => absurd q Bool.false_ne_true) (fun _ _ => rfl) (fun _ _ => rfl) (fun _ _ => rfl) (fun _ _ _ => rfl)
    · obtain ⟨i, n, q', y, args, p, rfl, rfl, h1, h2, h3, hi, h4⟩ := inv_app q
      exact pe_ap o h1 h2 h3 h4 hi (ih.pa o h4)
    · obtain ⟨i, n, q', y, args, p, rfl, rfl, h1, h2, h3, hi, h4⟩ := inv_app q
      exact pt_of rfl (pe_ap o h1 h2 h3 h4 hi (ih.pa o h4))
  | tryl e ih =>
    refine .val (fun o q => ?_) (fun o _ q => ?_) (fun _ q => absurd q Bool.false_ne_true) (fun _ _ => rfl) (fun _ _ => rfl) (fun _ _ => rfl) (fun _ _ _ => rfl)
    · obtain ⟨q1, ps, body, scope, lp, p, rfl, h1, h2, h3, h4, h5⟩ := inv_tryl q
      exact pe_tl o h1 h2 h3 h4 ih.pe h5
    · obtain ⟨q1, ps, body, scope, lp, p, rfl, h1, h2, h3, h4, h5⟩ := inv_tryl q
      exact pt_of rfl (pe_tl o h1 h2 h3 h4 ih.pe h5)
  | bi b es ih =>
    refine .val (fun o q => ?_) (fun o _ q => ?_) (fun o _ q => ?_) (fun _ _ => rfl) (fun _ _ => rfl) (fun _ _ => rfl) (fun _ _ _ => rfl)
    · obtain ⟨n, q', args, p, rfl, h1, h2, h3, h4⟩ := inv_bi q
      exact (pe_b o h1 h2 h3 h4 (ih.pa o h4)).1
    · obtain ⟨n, q', args, p, rfl, h1, h2, h3, h4⟩ := inv_bi q
      exact pt_of rfl (pe_b o h1 h2 h3 h4 (ih.pa o h4)).1
    · obtain ⟨n, q', args, p, rfl, h1, h2, h3, h4⟩ := inv_bi q
      exact (pe_b o h1 h2 h3 h4 (ih.pa o h4)).2
  | met m a es iha ih =>
    have g : ∀ {C : Ctx} {W : XK} {X : Cx} {x : Expr}, XOk Γ G h k C W X → chk (.met m a es) C x = true → PE X x (tE Γ (wx W) G h (.met m a es)) ∧ plainT x = true := fun o q => by
      obtain ⟨y, n, ap, args, p, rfl, h0, rfl, h2, h3, h4, h5, h6⟩ := inv_met q
      cases m
      case append =>
        rcases args with _ | ⟨z, _ | ⟨_, _⟩⟩
        · cases h4
        · exact ⟨pe_app o h2 h3 (chks_ne h6) (iha.pe o h5) (ih.pa o h6), rfl⟩
        · cases h4
      case pop =>
        cases args with
        | nil =>
          rcases chks_inv h6 with ⟨rfl, _⟩ | ⟨_, _, _, _, _, e2, _⟩
          · exact ⟨pe_popx o h2 h3 (iha.pe o h5) rfl, rfl⟩
          · cases e2
        | cons _ _ => cases h4
      case index =>
        rcases args with _ | ⟨z, _ | ⟨_, _⟩⟩
        · cases h4
        · exact ⟨pe_index o h2 h3 (chks_ne h6) (iha.pe o h5) (ih.pa o h6), rfl⟩
        · cases h4
      all_goals cases h0
    exact .val (fun o q => (g o q).1) (fun o _ q => pt_of (g o q).2 (g o q).1) (fun _ q => absurd q Bool.false_ne_true) (fun _ _ => rfl) (fun _ _ => rfl) (fun _ _ => rfl) (fun _ _ _ => rfl)
  | cnt a b iha ihb =>
    refine .val (fun o q => ?_) (fun o _ q => ?_) (fun _ q => absurd q Bool.false_ne_true) (fun _ _ => rfl) (fun _ _ => rfl) (fun _ _ => rfl) (fun _ _ _ => rfl)
    · obtain ⟨y, ap, z, p, rfl, h1, h2, h3, h4, h5⟩ := inv_cnt q
      exact pe_cnt o h1 h2 h3 (iha.pe o h4) (ihb.pe o h5)
    · obtain ⟨y, ap, z, p, rfl, h1, h2, h3, h4, h5⟩ := inv_cnt q
      exact pt_of rfl (pe_cnt o h1 h2 h3 (iha.pe o h4) (ihb.pe o h5))
  | isi a tys iha =>
    have g : ∀ {C : Ctx} {W : XK} {X : Cx} {x : Expr}, XOk Γ G h k C W X → chk (.isi a tys) C x = true → PE X x (tE Γ (wx W) G h (.isi a tys)) ∧ plainT x = true := fun o q => by
      obtain ⟨q', y, p, h1, h2, h3, ⟨t, p2, rfl, rfl, h4⟩ | ⟨l, kk, p2, rfl, h4, h5, h6⟩⟩ := inv_isi q
      · exact ⟨pe_isi1 o h1 rfl h4 h3 (iha.pe o h2), rfl⟩
      · exact ⟨pe_isiT o h1 h6 h3 (iha.pe o h2) h5 h4, rfl⟩
    exact .val (fun o q => (g o q).1) (fun o _ q => pt_of (g o q).2 (g o q).1) (fun _ q => absurd q Bool.false_ne_true) (fun _ _ => rfl) (fun _ _ => rfl) (fun _ _ => rfl) (fun _ _ _ => rfl)
  | lc t it c elt own ihi ihc ihe =>
    have g : ∀ {C : Ctx} {W : XK} {X : Cx} {x : Expr}, XOk Γ G h k C W X → chk (.lc t it c elt own) C x = true → (PE X x (tE Γ (wx W) G h (.lc t it c elt own)) ∧ PE X x (tN Γ (wx W) G h (.lc t it c elt own))) ∧ plainT x = true := fun o q => by
      obtain ⟨el, tg, iter, ifs, scope, p, rfl, h1, h2, h3, h4, h5, h6, h7, h8⟩ := inv_lc q
      refine ⟨pe_lcx o h2 h1 h6 (ihi.pi o h4) (fun X' o' => pg_T o' h5) (fun X' o' => ?_) (fun X' o' => ihe.pe o' h8) h3, rfl⟩
      rcases h7 with ⟨rfl, rfl⟩ | ⟨i, rfl, h9, h10⟩
      · refine ⟨fun pins s σ H Q I hw => pts_nil.run pins s σ H Q I ?_⟩
        obtain ⟨L, m, env, S, sr, q⟩ := hw
        rw [ev_cst] at q
        obtain ⟨b, e, q⟩ := q.ok sr
        cases e
        exact q
      · exact pts_one (ihc.pt o' h9 h10)
    exact .val (fun o q => (g o q).1.1) (fun o _ q => pt_of (g o q).2 (g o q).1.1) (fun o _ q => (g o q).1.2) (fun _ _ => rfl) (fun _ _ => rfl) (fun _ _ => rfl) (fun _ _ _ => rfl)
  | lrng a iha =>
    have go : ∀ {C : Ctx} {W : XK} {X : Cx} {x : Expr}, XOk Γ G h k C W X → chk (.lrng a) C x = true → (PE X x (tE Γ (wx W) G h (.lrng a)) ∧ PE X x (tN Γ (wx W) G h (.lrng a))) ∧ plainT x = true := fun o q => by
      obtain ⟨_, _, _, _, z, rfl, h1, h2, h3, h4⟩ := inv_lrng q
      exact ⟨pe_lrg o h1 h2 h3 (iha.pe o h4), rfl⟩
    exact .val (fun o q => (go o q).1.1) (fun o _ q => pt_of (go o q).2 (go o q).1.1) (fun o _ q => (go o q).1.2) (fun _ _ => rfl) (fun _ _ => rfl) (fun _ _ => rfl) (fun _ _ _ => rfl)
  | appc i es ih =>
    refine .val (fun o q => ?_) (fun o _ q => ?_) (fun _ q => absurd q Bool.false_ne_true) (fun _ _ => rfl) (fun _ _ => rfl) (fun _ _ => rfl) (fun _ _ _ => rfl)
    · obtain ⟨n, q', y, args, p, rfl, h1, h2, h3, h4, h5⟩ := inv_appc q
      exact pe_apc o h1 h2 h3 h4 h5 (ih.pa o h5)
    · obtain ⟨n, q', y, args, p, rfl, h1, h2, h3, h4, h5⟩ := inv_appc q
      exact pt_of rfl (pe_apc o h1 h2 h3 h4 h5 (ih.pa o h5))
  | capp f a b np caps body g iha ihb _ =>
    have go : ∀ {C : Ctx} {W : XK} {X : Cx} {x : Expr}, XOk Γ G h k C W X → chk (.capp f a b np caps body g) C x = true → PE X x (tE Γ (wx W) G h (.capp f a b np caps body g)) ∧ plainT x = true := fun o q => by
      obtain ⟨n, q', y1, y2, ps, lb, sc, lp, gx, gq, p, p0, fr, rfl, h1, h2, h3, h4, h5, h6, h7, h8, h9, h10, h11, h12, h13, h14, h15, h16, h17, h18, h19, h20⟩ := inv_capp q
      exact ⟨pe_cap o h1 h2 h3 h4 h5 h6 h7 h8 h11 h12 h13 h14 h15 h16 h17 h18 h19 h20 (iha.pe o h9) (ihb.pe o h10), rfl⟩
    exact .val (fun o q => (go o q).1) (fun o _ q => pt_of (go o q).2 (go o q).1) (fun _ q => absurd q Bool.false_ne_true) (fun _ _ => rfl) (fun _ _ => rfl) (fun _ _ => rfl) (fun _ _ _ => rfl)
  | pl a iha =>
    refine ⟨fun _ q => absurd q Bool.false_ne_true, fun _ _ q => absurd q Bool.false_ne_true, fun _ q => absurd q Bool.false_ne_true, fun _ q => absurd q Bool.false_ne_true, fun _ _ q => absurd q Bool.false_ne_true, fun o q => ?_, fun o q => ?_⟩
    · rename_i x
      cases x
      · exact absurd q Bool.false_ne_true
      · exact po_pl (iha.pe o q)
    · exact pi_pl o (iha.pe o q)
  | rng a iha =>
    refine ⟨fun _ q => absurd q Bool.false_ne_true, fun _ _ q => absurd q Bool.false_ne_true, fun _ q => absurd q Bool.false_ne_true, fun _ q => absurd q Bool.false_ne_true, fun _ _ q => absurd q Bool.false_ne_true, fun _ q => absurd q Bool.false_ne_true, fun o q => ?_⟩
    obtain ⟨q', y, p, rfl, h1, h2, h3⟩ := chkI_rng q
    exact pi_rng o h1 h2 (iha.pe o h3)
  | rng2 a b iha ihb => exact ⟨fun _ q => absurd q Bool.false_ne_true, fun _ _ q => absurd q Bool.false_ne_true, fun _ q => absurd q Bool.false_ne_true, fun _ q => absurd q Bool.false_ne_true, fun _ _ q => absurd q Bool.false_ne_true, fun _ q => absurd q Bool.false_ne_true, fun _ q => absurd q Bool.false_ne_true⟩
  | enm a iha =>
    refine ⟨fun _ q => absurd q Bool.false_ne_true, fun _ _ q => absurd q Bool.false_ne_true, fun _ q => absurd q Bool.false_ne_true, fun _ q => absurd q Bool.false_ne_true, fun _ _ q => absurd q Bool.false_ne_true, fun _ q => absurd q Bool.false_ne_true, fun o q => ?_⟩
    obtain ⟨q', y, p, rfl, h1, h2, h3, h4⟩ := chkI_enm q
    obtain ⟨l, kk, p2, rfl⟩ := isTup_inv h4
    exact pi_enm o h1 h2 (iha.pe o h3)
  | zip a b iha ihb =>
    refine ⟨fun _ q => absurd q Bool.false_ne_true, fun _ _ q => absurd q Bool.false_ne_true, fun _ q => absurd q Bool.false_ne_true, fun _ q => absurd q Bool.false_ne_true, fun _ _ q => absurd q Bool.false_ne_true, fun _ q => absurd q Bool.false_ne_true, fun o q => ?_⟩
    obtain ⟨q', y, z, p, rfl, h1, h2, h3, h4, h5, h6⟩ := chkI_zip q
    obtain ⟨l, kk, p2, rfl⟩ := isTup_inv h6
    exact pi_zp o h1 h2 h3 (iha.pe o h4) (ihb.pe o h5)
  | zip3 a b c iha ihb ihc =>
    refine ⟨fun _ q => absurd q Bool.false_ne_true, fun _ _ q => absurd q Bool.false_ne_true, fun _ q => absurd q Bool.false_ne_true, fun _ q => absurd q Bool.false_ne_true, fun _ _ q => absurd q Bool.false_ne_true, fun _ q => absurd q Bool.false_ne_true, fun o q => ?_⟩
    obtain ⟨q', y, z, u, p, rfl, h1, h2, h3, h4, h5, h6, h7, h8⟩ := chkI_zip3 q
    obtain ⟨l, kk, p2, rfl⟩ := isTup_inv h8
    exact pi_zp3 o h1 h2 h3 h4 (iha.pe o h5) (ihb.pe o h6) (ihc.pe o h7)
end
end Hb

/-! A def's body: what stands at its start, and what a statement keeps of it. -/
namespace Hb
open PySem PySem.Spec PyProof.Rows L2

abbrev LOC : Nat := 100
/-- at a body's start -/
structure Fr where
  L0 : Addr → Prop
  m0 : Nat → Addr
  H0 : Hp
  S0 : Sto
  Hb : Hp
  lt : ∀ n, (S0.get n).isSome = true → n < LOC
  l0 : ∀ b, L0 b ↔ ∃ n, (S0.get n).isSome = true ∧ m0 n = b
section
variable (Γ : Gm)
structure FRep (fr : Fr) (L : Addr → Prop) (m : Nat → Addr) (env : Env) (S : Sto) (σ : L2.St) (H : Hp) : Prop where
  sr : SRep Γ L m env S σ H
  kp : Keep fr.L0 fr.H0 H
  dm : Dom fr.S0 S
  mm : ∀ n, (fr.S0.get n).isSome = true → m n = fr.m0 n
  lf : ∀ b, L b → fr.L0 b ∨ Fresh fr.H0 b
  pr : Per fr.Hb H
/-- what is wanted of a statement's end -/
def StR (W : XK) (fr : Fr) (D : Ends) (r : SR) : Prop :=
  match r with
  | .nx e S => ∀ L m σ H, FRep Γ fr L m e S σ H → D.nx σ H
  | .bk e S => ∀ L m σ H, FRep Γ fr L m e S σ H → D.bk σ H
  | .ct e S => ∀ L m σ H, FRep Γ fr L m e S σ H → D.ct σ H
  | .ret v S => ∀ L m e σ H x, FRep Γ fr L m e S σ H → VRep Γ m S H v x → D.rt x H
  | .exc c d S => ∀ L m e σ H cls dx, FRep Γ fr L m e S σ H → ExcR Γ H c d cls dx → W cls dx H
  | .stk => False
def tS (W : XK) (G : Prog) (h : Hd) (fr : Fr) (s : S) : TS := fun D σ H => ∃ L m env S, FRep Γ fr L m env S σ H ∧ StR Γ W fr D (ex G h s env S)
end
section
variable {Γ : Gm} {W : XK} {fr : Fr} {L : Addr → Prop} {m : Nat → Addr} {env env' : Env} {S S' : Sto} {σ σ' : L2.St} {H H' : Hp} {D : Ends}
theorem FRep.step (f : FRep Γ fr L m env S σ H) (k : Keep L H H') (d : Dom S S') (s : SRep Γ L m env' S' σ' H') : FRep Γ fr L m env' S' σ' H' := by
  refine ⟨s, fun b o e n t => k b o (f.kp b o e n t) (fun z => ?_) t, f.dm.trans d, f.mm, f.lf, f.pr.trans (k.per f.sr.lm)⟩
  rcases f.lf b z with z | z
  · exact n z
  · obtain ⟨ps, z⟩ := z o e
    exact t ps z
/-- an expression within a statement -/
theorem StR.ev {α : Type} {r : Res α} {g : α → Sto → SR} (f : FRep Γ fr L m env S σ H) (q : StR Γ W fr D (SR.of r g)) : EvR Γ (wx W) L m env σ S H r fun a S' H' => FRep Γ fr L m env S' σ H' ∧ StR Γ W fr D (g a S') := by
  cases r with
  | ok a S' => exact fun H' k d s => ⟨f.step k d s, q⟩
  | exc c e S' => exact fun cls dx H' k d s x => q L m env σ H' cls dx (f.step k d s) x
  | stk => exact q
/-- a place of one's own is no one else's -/
theorem FRep.own (f : FRep Γ fr L m env S σ H) {n : Nat} (hn : LOC ≤ n) (hs : (S.get n).isSome = true) : Fresh fr.H0 (m n) ∧ ¬ fr.L0 (m n) := by
  have nl : ¬ fr.L0 (m n) := fun z => by
    obtain ⟨k, h1, h2⟩ := (fr.l0 _).mp z
    have e : m k = m n := (f.mm k h1).trans h2
    have := f.sr.sto.inj k n (f.dm k h1) hs e
    subst this
    have := fr.lt k h1
    omega
  exact ⟨(f.lf _ (f.sr.live n hs)).resolve_left nl, nl⟩
theorem FRep.fresh (f : FRep Γ fr L m env S σ H) {a : Addr} (ha : Fresh H a) : Fresh fr.H0 a ∧ ¬ fr.L0 a ∧ ¬ L a := by
  have nL : ¬ L a := fun z => by
    obtain ⟨u, e, mu⟩ := f.sr.lm a z
    obtain ⟨ps, e2⟩ := ha _ e
    exact mu.ntbl ps e2
  have nl : ¬ fr.L0 a := fun z => by
    obtain ⟨k, h1, h2⟩ := (fr.l0 _).mp z
    have e : m k = a := (f.mm k h1).trans h2
    exact nL (e ▸ f.sr.live k (f.dm k h1))
  refine ⟨fun o e => ?_, nl, nL⟩
  by_cases t : ∃ ps, o = .tbl ps
  · exact t
  · exact ha o (f.kp a o e nl fun ps z => t ⟨ps, z⟩)
/-! ### a new place -/
def setm (m : Nat → Addr) (n : Nat) (a : Addr) : Nat → Addr := fun k => if k = n then a else m k
theorem clearE_len (n : Nat) : ∀ env : Env, (clearE n env).length = env.length
  | [] => rfl
  | some (.l k) :: r => by simp only [clearE, List.length_cons, clearE_len n r]
  | none :: r => by simp only [clearE, List.length_cons, clearE_len n r]
  | some (.p _) :: r => by simp only [clearE, List.length_cons, clearE_len n r]
  | some (.f _ _ _) :: r => by simp only [clearE, List.length_cons, clearE_len n r]
theorem clearE_get (n : Nat) : ∀ (env : Env) (i : Nat) (v : Val), (clearE n env)[i]? = some (some v) → env[i]? = some (some v) ∧ v ≠ .l n
  | [], i, v, h => by simp [clearE] at h
  | o :: r, 0, v, h => by
    rcases o with _ | (d | k | ⟨id, cs⟩)
    · simp [clearE] at h
    · simp [clearE] at h; subst h; exact ⟨rfl, by simp⟩
    · simp only [clearE, List.getElem?_cons_zero, Option.some.injEq] at h
      split at h
      · cases h
      · rename_i hk
        cases h
        exact ⟨rfl, by intro z; cases z; exact hk rfl⟩
    · simp [clearE] at h; subst h; exact ⟨rfl, by simp⟩
  | o :: r, i + 1, v, h => by
    have : (clearE n (o :: r))[i + 1]? = (clearE n r)[i]? := by
      rcases o with _ | (d | k | ⟨id, cs⟩) <;> simp only [clearE, List.getElem?_cons_succ]
    rw [this] at h
    simpa using clearE_get n r i v h
/-- the place n now stands at a: the state with the slots that named it cleared -/
theorem FRep.alloc' (f : FRep Γ fr L m env S σ H) {n : Nat} (hn : LOC ≤ n) {a : Addr} {d : P} {u : HO} (f1 : Fresh fr.H0 a) (f3 : ¬ L a) (hH : H a = some u) (r : CRep Γ H d u a) :
    FRep Γ fr (fun b => L b ∨ b = a) (setm m n a) (clearE n env) (S.put n d) σ H := by
  have hs := f.sr
  have hgn : ∀ k, (fr.S0.get k).isSome = true → k ≠ n := fun k hk z => by
    have := fr.lt k hk
    omega
  have hma : ∀ k, (S.get k).isSome = true → m k ≠ a := fun k hk z => f3 (z ▸ f.sr.live k hk)
  have hsm : ∀ k, k ≠ n → setm m n a k = m k := fun k hk => if_neg hk
  have hsn : setm m n a n = a := if_pos rfl
  have back : ∀ k, ((S.put n d).get k).isSome = true → k ≠ n → (S.get k).isSome = true := fun k hk ne => by
    rw [put_get, if_neg ne] at hk
    exact hk
  refine ⟨⟨by rw [clearE_len]; exact hs.len, fun i v e => ?_, ⟨fun k o e => ?_, fun k k' h1 h2 h3 => ?_, hs.sto.tabs⟩, fun k hk => ?_, fun b hb => ?_⟩, f.kp, f.dm.trans fun k hk => ?_, fun k hk => by rw [hsm k (hgn k hk)]; exact f.mm k hk, fun b hb => ?_, f.pr⟩
  · obtain ⟨e1, e2⟩ := clearE_get n env i v e
    obtain ⟨x, h1, h2⟩ := hs.ee i v e1
    refine ⟨x, h1, ?_⟩
    cases v with
    | p d => exact h2
    | f _ _ _ => exact h2
    | l k =>
      have hk : k ≠ n := fun z => e2 (by rw [z])
      exact ⟨by rw [hsm k hk]; exact h2.1, by rw [put_get, if_neg hk]; exact h2.2⟩
  · rw [put_get] at e
    by_cases hk : k = n
    · rw [if_pos hk] at e
      cases e
      subst hk
      rw [hsn]
      exact ⟨u, hH, r⟩
    · rw [if_neg hk] at e
      rw [hsm k hk]
      exact hs.sto.at_ k o e
  · by_cases hk : k = n
    · by_cases hk' : k' = n
      · rw [hk, hk']
      · subst hk
        rw [hsn, hsm k' hk'] at h3
        exact absurd h3.symm (hma k' (back k' h2 hk'))
    · by_cases hk' : k' = n
      · subst hk'
        rw [hsn, hsm k hk] at h3
        exact absurd h3 (hma k (back k h1 hk))
      · rw [hsm k hk, hsm k' hk'] at h3
        exact hs.sto.inj k k' (back k h1 hk) (back k' h2 hk') h3
  · by_cases hk' : k = n
    · subst hk'
      rw [hsn]
      exact .inr rfl
    · rw [hsm k hk']
      exact .inl (hs.live k (back k hk hk'))
  · rcases hb with hb | hb
    · exact hs.lm b hb
    · subst hb
      exact ⟨u, hH, r.mutC⟩
  · rw [put_get]
    split
    · rfl
    · exact hk
  · rcases hb with hb | hb
    · exact f.lf b hb
    · subst hb
      exact .inr f1
theorem FRep.alloc (f : FRep Γ fr L m env S σ H) {n : Nat} (hn : LOC ≤ n) {a : Addr} {d : P} {u : HO} (ha : Fresh H a) (hk : Keep L H H') (hs : SRep Γ L m env S σ H') (hH : H' a = some u) (r : CRep Γ H' d u a) :
    FRep Γ fr (fun b => L b ∨ b = a) (setm m n a) (clearE n env) (S.put n d) σ H' := by
  obtain ⟨f1, f2, f3⟩ := f.fresh ha
  exact (f.step hk (Dom.refl S) hs).alloc' hn f1 f3 hH r
/-- a slot is set -/
theorem FRep.set (f : FRep Γ fr L m env S σ H) {v : Val} {x : V} (h : VRep Γ m S H v x) (i : Nat) : FRep Γ fr L m (env.set i (some v)) S (σ.set i (some x)) H := ⟨f.sr.set h i, f.kp, f.dm, f.mm, f.lf, f.pr⟩
theorem FRep.mk' (f : FRep Γ fr L m env S σ H) (s : SRep Γ L m env' S σ' H) : FRep Γ fr L m env' S σ' H := ⟨s, f.kp, f.dm, f.mm, f.lf, f.pr⟩
/-! ### a place is frozen -/
theorem frzE_len (n : Nat) (d : P) : ∀ env : Env, (frzE n d env).length = env.length
  | [] => rfl
  | some (.l k) :: r => by simp only [frzE, List.length_cons, frzE_len n d r]
  | none :: r => by simp only [frzE, List.length_cons, frzE_len n d r]
  | some (.p _) :: r => by simp only [frzE, List.length_cons, frzE_len n d r]
  | some (.f _ _ _) :: r => by simp only [frzE, List.length_cons, frzE_len n d r]
theorem frzE_get (n : Nat) (d : P) : ∀ (env : Env) (i : Nat) (v : Val), (frzE n d env)[i]? = some (some v) → (env[i]? = some (some v) ∧ v ≠ .l n) ∨ (env[i]? = some (some (.l n)) ∧ v = .p d)
  | [], i, v, h => by simp [frzE] at h
  | o :: r, 0, v, h => by
    rcases o with _ | (d' | k | ⟨id, cs⟩)
    · simp [frzE] at h
    · simp [frzE] at h; subst h; exact .inl ⟨rfl, by simp⟩
    · simp only [frzE, List.getElem?_cons_zero, Option.some.injEq] at h
      split at h
      · rename_i hk
        cases h
        subst hk
        exact .inr ⟨rfl, rfl⟩
      · rename_i hk
        cases h
        exact .inl ⟨rfl, by intro z; cases z; exact hk rfl⟩
    · simp [frzE] at h; subst h; exact .inl ⟨rfl, by simp⟩
  | o :: r, i + 1, v, h => by
    have : (frzE n d (o :: r))[i + 1]? = (frzE n d r)[i]? := by
      rcases o with _ | (d' | k | ⟨id, cs⟩) <;> simp only [frzE, List.getElem?_cons_succ]
    rw [this] at h
    simpa using frzE_get n d r i v h
theorem FRep.frz (f : FRep Γ fr L m env S σ H) {n : Nat} (hn : LOC ≤ n) {d : P} (e : S.get n = some d) : ∃ u, H (m n) = some u ∧ MutC u (m n) ∧ ∀ o, FRep Γ fr (fun b => L b ∧ b ≠ m n) m (frzE n d env) (S.del n) σ (upd H (m n) (.frz o u)) := by
  have hs : (S.get n).isSome = true := by rw [e]; rfl
  obtain ⟨o1, o2⟩ := f.own hn hs
  obtain ⟨u, hH, r⟩ := f.sr.sto.at_ n d e
  have mu := r.mutC
  refine ⟨u, hH, mu, fun o => ?_⟩
  have p : Per H (upd H (m n) (.frz o u)) := per_atC hH mu fun b hb => upd_ne hb
  have back : ∀ k o, (S.del n).get k = some o → k ≠ n ∧ S.get k = some o := fun k o hk => by
    rw [del_get] at hk
    split at hk
    · cases hk
    · exact ⟨by assumption, hk⟩
  have backs : ∀ k, ((S.del n).get k).isSome = true → k ≠ n ∧ (S.get k).isSome = true := fun k hk => by
    obtain ⟨o, e⟩ := Option.isSome_iff_exists.mp hk
    obtain ⟨h1, h2⟩ := back k o e
    exact ⟨h1, by rw [h2]; rfl⟩
  have ne : ∀ k, k ≠ n → (S.get k).isSome = true → m k ≠ m n := fun k hk h1 z => hk (f.sr.sto.inj k n h1 hs z)
  have fwd : ∀ k, k ≠ n → (S.del n).get k = S.get k := fun k hk => by rw [del_get, if_neg hk]
  refine ⟨⟨by rw [frzE_len]; exact f.sr.len, fun i v q => ?_, ⟨fun k o q => ?_, fun k k' h1 h2 h3 => f.sr.sto.inj k k' (backs k h1).2 (backs k' h2).2 h3, tabs_of f.sr.sto.tabs fun b o e n => (upd_ne fun z => n (by rw [z, hH] at e; cases e; rw [z]; exact mu)).trans e⟩, fun k hk => ?_, fun b hb => ?_⟩, ?_, fun k hk => ?_, f.mm, fun b hb => f.lf b hb.1, f.pr.trans p⟩
  · rcases frzE_get n _ env i v q with ⟨q1, q2⟩ | ⟨q1, rfl⟩
    · obtain ⟨x, h1, h2⟩ := f.sr.ee i v q1
      refine ⟨x, h1, ?_⟩
      cases v with
      | p d => exact Rep.per p _ _ h2
      | f _ _ _ =>
        obtain ⟨fa, oc, a1, a2, a3, a4, a5, a6, a7⟩ := h2
        exact ⟨fa, oc, a1, a2, a3, a4, a5, p.ext _ _ a6 (code_ne _ _), Reps.per p _ _ a7⟩
      | l k =>
        have hk : k ≠ n := fun z => q2 (by rw [z])
        exact ⟨h2.1, by rw [fwd k hk]; exact h2.2⟩
    · obtain ⟨x, h1, h2⟩ := f.sr.ee i _ q1
      refine ⟨x, h1, ?_⟩
      have hx : x = .ref (m n) := h2.1
      subst hx
      exact (r.per p).rep upd_same
  · obtain ⟨h1, h2⟩ := back k o q
    have nk := ne k h1 (by rw [h2]; rfl)
    exact (f.sr.sto.at_ k o h2).per p fun w q3 _ => by rw [upd_ne nk]; exact q3
  · obtain ⟨h1, h2⟩ := backs k hk
    exact ⟨f.sr.live k h2, ne k h1 h2⟩
  · obtain ⟨ys, e, mu'⟩ := f.sr.lm b hb.1
    exact ⟨ys, by rw [upd_ne hb.2]; exact e, mu'⟩
  · exact keep_at f.kp o1 fun b hb => upd_ne hb
  · have hk' : k ≠ n := fun z => by
      have := fr.lt k hk
      omega
    rw [fwd k hk']
    exact f.dm k hk
end
end Hb

/-! Statements: what the checker lets pass, and what it comes to. -/
namespace Hb
open PySem PySem.Spec PyProof.Rows L2

/-! ### the checker -/
/-- the comprehension's value changes places with the name's (on one line) -/
def swL (C : Ctx) (x : Expr) (y : Str) (py : Pos) : Bool :=
  match (match x with
    | .ListComp _ _ s _ => some s
    | .SetComp _ _ s _ => some s
    | .DictComp _ _ _ s _ => some s
    | _ => none) with
  | some s => C.sc.names.lookup y == some .local && py.line == x.pos.line && !(s.names.any fun (n, k) => n == y && (k == .local || k == .cell))
  | none => false
def notComp : Expr → Bool
  | .ListComp _ _ _ _ => false
  | .SetComp _ _ _ _ => false
  | .DictComp _ _ _ _ _ => false
  | _ => true
def isLC : E → Bool
  | .lc _ _ _ _ _ => true
  | _ => false
def starred : Expr → Bool
  | .Starred _ _ => true
  | _ => false
def swCore (a b c d : Bool) (names : List Str) : Option (List Str) := if a then none else if b then none else if c then none else if d then none else some names
def isStar : Expr → Bool
  | .Starred .. => true
  | _ => false
def swName (sc : Scope) (line : Nat) : Expr → Option Str
  | .Name id pos => if sc.names.lookup id == some .local && pos.line == line then some id else none
  | _ => none
def swList (sc : Scope) (ts : List Expr) : List Str := ts.filterMap (swName sc ((ts.head?.map (·.pos.line)).getD 0))
def swNames (sc : Scope) (ts vs : List Expr) : Option (List Str) :=
  swCore (!(ts.length == 2 || ts.length == 3) || vs.length != ts.length) (vs.any isStar) ((swList sc ts).length != ts.length || (swList sc ts).eraseDups.length != (swList sc ts).length) (vs.all (foldedForSure 8)) (swList sc ts)
def noSwap (C : Ctx) (tg x : Expr) : Bool := match tg with
  | .Tuple ts _ _ => match x with
    | .Tuple vs _ _ => (swNames C.sc ts vs).isNone
    | _ => notComp x
  | _ => false
def chkPL (C : Ctx) : PL → List Expr → List Expr → Bool
  | .nil, ts, vs => ts.isEmpty && vs.isEmpty
  | .e i e r, ts, vs => match ts, vs with
    | .Name y _ :: ts, v :: vs => decide (C.N[i]? = some y) && notStar v && chk e C v && chkPL C r ts vs
    | _, _ => false
  | .a i n e r, ts, vs => match ts, vs with
    | .Name y _ :: ts, v :: vs => decide (C.N[i]? = some y) && decide (LOC ≤ n) && mkr e && notStar v && chk e C v && chkPL C r ts vs
    | _, _ => false
def PL.ix : PL → List Nat
  | .nil => []
  | .e i _ r => i :: r.ix
  | .a i _ _ r => i :: r.ix
def PL.places : PL → List Nat
  | .nil => []
  | .e _ _ r => r.places
  | .a _ n _ r => n :: r.places
def ipB (o : O2) (op : Operator) : Bool := match o, op with
  | .add, .Add => true
  | .sub, .Sub => true
  | _, _ => false
mutual
def chkS : S → Ctx → Stmt → Bool
  | .set i e, C, st => match st with
    | .Assign [.Name y py] x p => decide (C.N[i]? = some y) && stB C y && chk e C x && (!swL C x y py || (isLC e && C.sc.names.lookup y == some .local))
    | _ => false
  | .setA i n e, C, st => match st with
    | .Assign [.Name y py] x p => decide (C.N[i]? = some y) && stB C y && decide (LOC ≤ n) && mkr e && chk e C x && (!swL C x y py || (isLC e && C.sc.names.lookup y == some .local))
    | _ => false
  | .setC i n f es, C, st => match st with
    | .Assign [.Name y py] x p => match x with
      | .Call (.Name fn _) args [] _ => decide (C.N[i]? = some y) && stB C y && decide (LOC ≤ n) && decide (f ∈ C.fs) && decide (args.length = C.ar f) && decide (C.gn f = fn) && glB C.sc fn && dbg fn && chks es C args
      | _ => false
    | _ => false
  | .asg t e, C, st => match st with
    | .Assign [tg] x p => chkT C t tg && chk e C x && notStar tg && noSwap C tg x
    | _ => false
  | .par xs, C, st => match st with
    | .Assign [.Tuple ts _ _] (.Tuple vs _ _) _ => chkPL C xs ts vs && decide (xs.ix.Nodup) && decide (xs.places.Nodup) && (swNames C.sc ts vs).isSome && !(vs.all (constantsAlone 8))
    | _ => false
  | .sidx o i v, C, st => match st with
    | .Assign [.Subscript y z _] x _ => notSlice z && notComp x && chk v C x && chk o C y && chk i C z
    | _ => false
  | .aug i o e, C, st => match st with
    | .AugAssign (.Name y _) op x _ => decide (C.N[i]? = some y) && stB C y && ipB o op && chk e C x
    | _ => false
  | .expr e, C, st => match st with
    | .Expr x _ => notComp x && chk e C x
    | _ => false
  | .ret e, C, st => match st with
    | .Return (some x) _ => chk e C x
    | _ => false
  | .retA n e, C, st => match st with
    | .Return (some x) _ => decide (LOC ≤ n) && mkr e && chk e C x
    | _ => false
  | .retn, C, st => match st with
    | .Return none _ => true
    | _ => false
  | .ite c a b, C, st => match st with
    | .If x l r _ => tst c && chk c C x && chkSs a C l && chkSs b C r
    | _ => false
  | .floop t it body, C, st => match st with
    | .For tg iter l [] _ => notSet iter && chkI it C iter tg && chkT C t tg && chkSs body C l
    | _ => false
  | .wloop c body, C, st => match st with
    | .While x l [] _ => tst c && chk c C x && chkSs body C l
    | _ => false
  | .rais c, C, st => match st with
    | .Raise (some (.Call (.Name x _) [.Constant (.str _) _ _] [] _)) none _ => decide (c ∈ C.es) && decide (C.gn c = x) && glB C.sc x && dbg x
    | _ => false
  | .doc, C, st => match st with
    | .Expr (.Constant (.str _) _ _) _ => true
    | _ => false
  | .brk, C, st => match st with
    | .Break _ => true
    | _ => false
  | .cnt, C, st => match st with
    | .Continue _ => true
    | _ => false
  | _, _, _ => false
def chkSs : S → Ctx → List Stmt → Bool
  | .nil, _, l => match l with
    | [] => true
    | _ => false
  | .seq a b, C, l => match a with
    | .frzv _ => chkSs b C l
    | a => match l with
      | [] => false
      | st :: l => chkS a C st && chkSs b C l
  | .stk, _, _ => true
  | _, _, _ => false
end

/-! ### the context -/
structure ExcOk (Γ : Gm) (x : Str) : Prop where
  ex : ∃ (Cd : Addr) (B newId initId : String) (bmB : List Value), ExcBaseFacts B newId initId bmB ∧ PySem.W.excIn Γ.K Cd bmB newId = true ∧ Γ.mg x = some (.ref Cd) ∧ PySem.W.keepIn Γ.K (.ref Cd) = true ∧
    PySem.W.subIn Γ.K (.ref Cd) (.type "BaseException") = some true ∧ PySem.W.typeIn Γ.K (.ref Cd) = some (.type "type")
structure SOk (Γ : Gm) (G : Prog) (h : Hd) (k : Nat) (C : Ctx) (W : XK) (X : Cx) : Prop extends XOk Γ G h k C W X where
  pass : PassesOwn (model X.prog X.w) X.A X.env X.xe
  exs : ∀ c ∈ C.es, ExcOk Γ (C.gn c)
  kind : C.sc.kind = .function

/-! ### a place frozen, behind a statement or between two -/
theorem ps_frz {X : Cx} {st : Stmt} {t : TS} (h : PS X st t) : PS X st fun D σ H => t { D with nx := fun σ' H' => D.nx σ' H' ∨ ∃ a u, H' a = some u ∧ MutC u a ∧ ∀ o, D.nx σ' (upd H' a (.frz o u)) } σ H := by
  refine ⟨fun pins s σ H D I q => thn (h.run pins s σ H _ I q) fun f s1 q1 => ?_⟩
  cases f with
  | next =>
    obtain ⟨σ', H', I', q1⟩ := q1
    rcases q1 with q1 | ⟨a, xs, ha, mu, q1⟩
    · exact ⟨σ', H', I', q1⟩
    · obtain ⟨o, I2⟩ := inv_frzC I' ha mu
      exact ⟨σ', _, I2, q1 o⟩
  | ret v => exact q1
  | brk => exact q1
  | cont => exact q1
theorem pss_frz {X : Cx} {l : List Stmt} {t : TS} (h : PSs X l t) : PSs X l fun D σ H => t D σ H ∨ ∃ a u, H a = some u ∧ MutC u a ∧ ∀ o, t D σ (upd H a (.frz o u)) := by
  refine ⟨fun pins s σ H D I q => ?_⟩
  rcases q with q | ⟨a, xs, ha, mu, q⟩
  · exact h.run pins s σ H D I q
  · obtain ⟨o, I2⟩ := inv_frzC I ha mu
    exact h.run pins s σ _ D I2 (q o)

/-! ### the equations -/
section
variable (G : Prog) (h : Hd) (env : Env) (S' : Sto) (a b : S) (c e : E) (i n : Nat)
theorem ex_nil : ex G h .nil env S' = .nx env S' := rfl
theorem ex_seq : ex G h (.seq a b) env S' = match ex G h a env S' with
    | .nx e S => ex G h b e S
    | r => r := rfl
theorem ex_set : ex G h (.set i e) env S' = SR.of (ev G h e env S') fun v S => .nx (env.set i (some v)) S := rfl
theorem ex_setA : ex G h (.setA i n e) env S' = SR.of (ev G h e env S') fun v S => match v with
    | .p d => if mkP e d = true then .nx ((clearE n env).set i (some (.l n))) (S.put n d) else .stk
    | _ => .stk := rfl
theorem ex_asg (t : T) : ex G h (.asg t e) env S' = SR.of (ev G h e env S') fun v S => match v with
    | .p d => match T.bind t d env with
      | some e' => .nx e' S
      | none => .stk
    | _ => .stk := rfl
theorem ex_sidx (o i v : E) : ex G h (.sidx o i v) env S' = SR.of (ev G h v env S') fun v S => SR.of (ev G h o env S) fun o S => SR.of (ev G h i env S) fun i S =>
    match v, o, i with
    | .p d, .l n, .p j => match S.get n with
      | some c => match sidxP c j d with
        | some c' => .nx env (S.put n c')
        | none => .stk
      | none => .stk
    | _, _, _ => .stk := rfl
theorem ex_expr : ex G h (.expr e) env S' = SR.of (ev G h e env S') fun _ S => .nx env S := rfl
theorem ex_ret : ex G h (.ret e) env S' = SR.of (ev G h e env S') fun v S => .ret v S := rfl
theorem ex_retA : ex G h (.retA n e) env S' = SR.of (ev G h e env S') fun v S => match v with
    | .p d => if mkP e d = true then .ret (.l n) (S.put n d) else .stk
    | _ => .stk := rfl
theorem ex_ite : ex G h (.ite c a b) env S' = SR.of (ev G h c env S') fun v S => match v with
    | .p (.bl true) => ex G h a env S
    | .p (.bl false) => ex G h b env S
    | _ => .stk := rfl
theorem ex_floop (t : T) (it : E) : ex G h (.floop t it b) env S' = SR.of (evI G h it env S') fun xs S =>
    forGo (fun x env S => match T.bind t x env with
      | some e' => ex G h b e' S
      | none => .stk) xs env S := rfl
theorem ex_wloop : ex G h (.wloop c b) env S' = whileGo (fun env S => ev G h c env S) (fun env S => ex G h b env S) FUEL env S' := rfl
theorem ex_aug (o : O2) : ex G h (.aug i o e) env S' = match env[i]? with
    | some (some (.p (.int x))) => SR.of (ev G h e env S') fun y S => match y with
      | .p (.int y) => match augI o x y with
        | some z => .nx (env.set i (some (.p (.int z)))) S
        | none => .stk
      | _ => .stk
    | _ => .stk := rfl
end

section
variable {Γ : Gm} {G : Prog} {h : Hd} {k : Nat} {C : Ctx} {W : XK} {X : Cx} {a b c e : E} {x y z tg : Expr} {pos : Pos} {fr : Fr}
theorem swapsWith_eq (o : SOk Γ G h k C W X) {n : Str} {py : Pos} {line : Nat} : swapsWith x (some (.Name n py)) line X.env = pure (swL C x n py) := by
  have hk : X.env.scope.kind = .function := by rw [o.sc]; exact o.kind
  have hb : X.env.blockKind = .function := by
    unfold Env.blockKind
    rw [hk]
    rfl
  have hs : C.sc = X.env.scope := o.sc.symm
  unfold swL
  rw [hs]
  cases x
  case ListComp a b s p =>
    show (pure (X.env.blockKind == .function && X.env.kindOf n == some .local && py.line == p.line && !(s.names.any fun (m, k) => m == n && (k == .local || k == .cell))) : Sem Bool) = _
    rw [hb]
    rfl
  case SetComp a b s p =>
    show (pure (X.env.blockKind == .function && X.env.kindOf n == some .local && py.line == p.line && !(s.names.any fun (m, k) => m == n && (k == .local || k == .cell))) : Sem Bool) = _
    rw [hb]
    rfl
  case DictComp a a' b s p =>
    show (pure (X.env.blockKind == .function && X.env.kindOf n == some .local && py.line == p.line && !(s.names.any fun (m, k) => m == n && (k == .local || k == .cell))) : Sem Bool) = _
    rw [hb]
    rfl
  all_goals rfl
theorem notComp_none (hx : notComp x = true) {line : Nat} {env : PySem.Env} : swapsWith x none line env = pure false := by
  cases x <;> first | rfl | exact absurd hx Bool.false_ne_true
/-- name = [..]: the comprehension's value changes places on the line -/
theorem ps_lcset (o : SOk Γ G h k C W X) {i : Nat} {n : Str} {py : Pos} {it c elt : E} {t : T} {own : List Nat} (h1 : C.N[i]? = some n) (h2 : C.sc.names.lookup n = some .local) (h3 : chk (.lc t it c elt own) C x = true) (h4 : swL C x n py = true) :
    ∃ tt, PS X (.Assign [.Name n py] x pos) (tAsg (tLc (tI Γ (wx W) G h it) (gT Γ t) tt (tE Γ (wx fun _ _ _ => False) G h elt) own) (gName i)) ∧ (∀ σ H Q, tC1 Γ G h c σ H Q → tt σ H Q) ∧ T.slots t ⊆ own := by
  obtain ⟨el, tg, iter, ifs, scope, p, rfl, g1, g2, g3, g4, g5, g6, g7, g8⟩ := inv_lc h3
  have ok : BlkOk X.N X.env.scope scope (ownP C.N own) := by
    rw [o.N, o.sc]
    exact blkOk_by g2
  have xok : ∀ (s : Shared) (H : Hp) (D : Addr) (cl : List (Str × Addr)) (fp : List Addr), XOk Γ G h k (C.blk scope) (fun _ _ _ => False) (X.blk s H scope (compEnvC scope cl D X.env) fp) := fun s H D cl fp =>
    { K := o.K, mg := o.mg, gn := o.gn, N := o.N, nd := o.nd, sc := by rw [Ctx.blk, ← o.sc]; rfl, st := fun x e => e, calm := o.calm, tk := fun u s' ⟨a, B, sI, pins, σ, H, cls, d, e, I, nb, up, sky, na, os, ag, w⟩ => w, room := o.room, room2 := fun z => absurd z Bool.false_ne_true, tr := fun z => absurd z Bool.false_ne_true, kin := o.kin, bl := o.bl, glb := o.glb, arr := o.arr, cl := CloK.no rfl rfl, fns := o.fns }
  have ht : ∃ tt, (∀ (X' : Cx), XOk Γ G h k (C.blk scope) (fun _ _ _ => False) X' → PTs X' ifs tt) ∧ ∀ σ H Q, tC1 Γ G h c σ H Q → tt σ H Q := by
    rcases g7 with ⟨rfl, rfl⟩ | ⟨i, rfl, h9, h10⟩
    · refine ⟨tYes, fun X' _ => pts_nil, fun σ H Q ⟨L, m, env, S, sr, q⟩ => ?_⟩
      rw [ev_cst] at q
      obtain ⟨b, e, q⟩ := q.ok sr
      cases e
      exact q
    · exact ⟨_, fun X' o' => pts_one ((good c).pt o' h9 h10), fun _ _ _ q => q⟩
  obtain ⟨tt, ht1, ht2⟩ := ht
  refine ⟨tt, ?_, ht2, g6⟩
  have base := ps_setLc (pos := p) (spos := pos) (py := py) (elt := el) o.calm (by rw [o.N]; exact o.nd) (by rw [o.N]; exact h1) (by rw [o.sc]; exact h2) (by rw [swapsWith_eq o, h4]) ((good it).pi o.toXOk g4) ok
    (fun s H D cl fp => pg_T (xok s H D cl fp) g5) (fun s H D cl fp => ht1 _ (xok s H D cl fp)) (fun s H D cl fp => (good elt).pe (xok s H D cl fp) g8) (foldedSet_ok g3)
  rw [g1] at base
  exact base
theorem tLc_imp {wi : TI} {g : TG} {tt tt' : TT} {te : TE} {vs : List Nat} (hi : ∀ σ H Q, tt' σ H Q → tt σ H Q) {σ : L2.St} {H : Hp} {Q : VK} (q : tLc wi g tt' te vs σ H Q) (hm : ∀ σ H (R R' : It → Hp → Prop), (∀ J H, R J H → R' J H) → wi σ H R → wi σ H R')
    (hg : ∀ x σ H (R R' : L2.St → Hp → Prop), (∀ σ H, R σ H → R' σ H) → g x σ H R → g x σ H R') : tLc wi g tt te vs σ H Q := by
  refine hm _ _ _ _ (fun J H1 q D hD => ?_) q
  obtain ⟨Wn, h0, h1⟩ := q D hD
  refine ⟨Wn, h0, fun i m H w => ?_⟩
  rcases h1 i m H w with q | ⟨go, Nx, h2, h3⟩
  · exact .inl q
  · exact .inr ⟨go, Nx, h2, fun x H' y => hg _ _ _ _ _ (fun σ2 H2 ⟨e, q⟩ => ⟨e, hi _ _ _ q⟩) (h3 x H' y)⟩
theorem tI_mono {it : E} (σ : L2.St) (H : Hp) (R R' : It → Hp → Prop) (i : ∀ J H, R J H → R' J H) (q : tI Γ (wx W) G h it σ H R) : tI Γ (wx W) G h it σ H R' := by
  obtain ⟨L, m, env, S, sr, q⟩ := q
  exact ⟨L, m, env, S, sr, q.mono fun ds S' H' _ _ _ q J g => i _ _ (q J g)⟩
theorem gT_mono {t : T} (x : V) (σ : L2.St) (H : Hp) (R R' : L2.St → Hp → Prop) (i : ∀ σ H, R σ H → R' σ H) (q : gT Γ t x σ H R) : gT Γ t x σ H R' := by
  obtain ⟨L, m, env, S, d, e', sr, r, eb, q⟩ := q
  exact ⟨L, m, env, S, d, e', sr, r, eb, fun σ' h1 h2 => i _ _ (q σ' h1 h2)⟩
theorem hold_set (o : SOk Γ G h k C W X) {n : Str} (h2 : stB C n = true) : Loc X.env.scope n ∧ (X.fn n = true ∨ X.env.scope.names.lookup n = some .local) := by
  obtain ⟨e2, e3⟩ := stB_ok h2
  rw [o.sc]
  refine ⟨e2, ?_⟩
  rcases e3 with e3 | e3
  · exact .inl (o.st _ e3)
  · exact .inr e3
theorem lst_frz {H : Hp} {D : Addr} {ds : List P} {xs : List V} {ob : Obj} (hD : H D = some (.lst xs)) (r : Reps Γ H ds xs) : Rep Γ (upd H D (.frz ob (.lst xs))) (.lst ds) (.ref D) := by
  have p := per_at (H' := upd H D (.frz ob (.lst xs))) hD fun b hb => upd_ne hb
  simp only [Rep]
  exact ⟨D, xs, rfl, .inl ⟨ob, upd_same⟩, Reps.per p _ _ r⟩
theorem ps_setx (o : SOk Γ G h k C W X) {i : Nat} {n : Str} {py : Pos} (h1 : C.N[i]? = some n) (h2 : stB C n = true) (h3 : chk e C x = true) (h4 : (!swL C x n py || (isLC e && C.sc.names.lookup n == some .local)) = true) : PS X (.Assign [.Name n py] x pos) (tS Γ W G h fr (.set i e)) := by
  obtain ⟨l1, l2⟩ := hold_set o h2
  have hN : X.N.Nodup := by rw [o.N]; exact o.nd
  have hi : X.N[i]? = some n := by rw [o.N]; exact h1
  cases hsw : swL C x n py with
  | false =>
    refine PS.imp (ps_set (pos := pos) (pos' := py) hN hi l1 ((good e).pe o.toXOk h3) (by rw [swapsWith_eq o, hsw]) l2) fun D σ H ⟨L, m, env, S, f, q⟩ => ?_
    rw [ex_set] at q
    refine ⟨L, m, env, S, f.sr, (StR.ev f q).mono fun v S' H' _ _ _ ⟨f', q'⟩ x hx => ?_⟩
    exact q' L m _ _ (f'.set hx i)
  | true =>
    rw [hsw] at h4
    simp only [Bool.not_true, Bool.false_or, Bool.and_eq_true, beq_iff_eq] at h4
    obtain ⟨h5, h6⟩ := h4
    cases e
    case lc t it c elt own =>
      obtain ⟨tt, base, i1, i2⟩ := ps_lcset (pos := pos) o h1 h6 h3 hsw
      refine PS.imp (ps_frz base) fun D σ H ⟨L, m, env, S, f, q⟩ => ?_
      rw [ex_set] at q
      refine tLc_imp i1 (lc_walk i2 f.sr (StR.ev f q) fun S ds Dd xs H s2 hD nD r g => ?_) tI_mono gT_mono
      refine .inr ⟨Dd, _, hD, .inl ⟨xs, rfl⟩, fun ob => ?_⟩
      obtain ⟨f', q'⟩ := g (upd H Dd (.frz ob (.lst xs))) fun b hb => upd_ne hb
      exact q' L m _ _ (f'.set (v := .p (.lst ds)) (lst_frz hD r) i)
    all_goals cases h5
end
end Hb

/-! Statements, part 2. -/
namespace Hb
open PySem PySem.Spec PyProof.Rows L2

section
variable {Γ : Gm} {G : Prog} {h : Hd} {k : Nat} {C : Ctx} {W : XK} {X : Cx} {a b c e : E} {x y z tg : Expr} {pos : Pos} {fr : Fr}
theorem new_rep {m : Nat → Addr} {S : Sto} {H : Hp} {n : Nat} {a : Addr} {d : P} : VRep Γ (setm m n a) (S.put n d) H (.l n) (.ref a) :=
  ⟨by rw [show setm m n a n = a from if_pos rfl], by rw [put_get, if_pos rfl]; rfl⟩
theorem ps_setAx (o : SOk Γ G h k C W X) {i n : Nat} {m : Str} {py : Pos} (h1 : C.N[i]? = some m) (h2 : stB C m = true) (hn : LOC ≤ n) (hm : mkr e = true) (h3 : chk e C x = true) (h4 : (!swL C x m py || (isLC e && C.sc.names.lookup m == some .local)) = true) : PS X (.Assign [.Name m py] x pos) (tS Γ W G h fr (.setA i n e)) := by
  obtain ⟨l1, l2⟩ := hold_set o h2
  have hN : X.N.Nodup := by rw [o.N]; exact o.nd
  have hi : X.N[i]? = some m := by rw [o.N]; exact h1
  cases hsw : swL C x m py with
  | false =>
    refine PS.imp (ps_set (pos := pos) (pos' := py) hN hi l1 ((good e).pn o.toXOk hm h3) (by rw [swapsWith_eq o, hsw]) l2) fun D σ H ⟨L, m, env, S, f, q⟩ => ?_
    rw [ex_setA] at q
    refine ⟨L, m, env, S, f.sr, (StR.ev f q).mono fun v S' H' _ _ _ g => ?_⟩
    obtain ⟨f', q'⟩ := g
    split at q'
    · rename_i ds
      split at q'
      · rename_i hmk
        refine ⟨ds, rfl, hmk, fun a xs ha r => ?_⟩
        have f2 := f'.alloc hn (Fresh.of ha) (Keep.of (Same.new ha)) (f'.sr.same (Same.new ha)) upd_same (r.per (per_of (Same.new ha)))
        exact q' _ _ _ _ (f2.set (v := .l n) (new_rep) i)
      · exact q'.elim
    · exact q'.elim
  | true =>
    rw [hsw] at h4
    simp only [Bool.not_true, Bool.false_or, Bool.and_eq_true, beq_iff_eq] at h4
    obtain ⟨h5, h6⟩ := h4
    cases e
    case lc t it c elt own =>
      obtain ⟨tt, base, i1, i2⟩ := ps_lcset (pos := pos) o h1 h6 h3 hsw
      refine PS.imp base fun D σ H ⟨L, m, env, S, f, q⟩ => ?_
      rw [ex_setA] at q
      refine tLc_imp i1 (lc_walk i2 f.sr (StR.ev f q) fun S ds Dd xs H s2 hD nD r g => ?_) tI_mono gT_mono
      have he : ∀ b, b ≠ Dd → (fun b => if b = Dd then none else H b : Hp) b = H b := fun b hb => if_neg hb
      obtain ⟨f', q'⟩ := g (fun b => if b = Dd then none else H b) he
      have f2 := f'.alloc hn (H' := H) (a := Dd) (d := .lst ds) (u := .lst xs) (Fresh.of (if_pos rfl)) (fun b o hb hl _ => by
        by_cases hb2 : b = Dd
        · exact absurd (hb.symm.trans (if_pos hb2)) (by simp)
        · rw [he b hb2] at hb
          exact hb) s2 hD ⟨xs, rfl, r⟩
      exact q' _ _ _ _ (f2.set (v := .l n) new_rep i)
    all_goals cases h5
theorem swapped_eq (o : SOk Γ G h k C W X) {ts vs : List Expr} {k1 k2 : Nat} {p1 p2 : Pos} (hc : (swNames C.sc ts vs).isNone = true ∨ vs.all (constantsAlone 8) = false) :
    swappedStores [.Tuple ts k1 p1] (.Tuple vs k2 p2) X.env = pure (swNames C.sc ts vs) := by
  have hk : X.env.scope.kind = .function := by rw [o.sc]; exact o.kind
  have hb : X.env.blockKind = .function := by
    unfold Env.blockKind
    rw [hk]
    rfl
  have hs : C.sc = X.env.scope := o.sc.symm
  rw [hs] at hc ⊢
  have key : ∀ (a b c d e : Bool) (n : List Str) (u : Sem (Option (List Str))), (swCore a b c d n).isNone = true ∨ e = false →
      (if a = true then pure none else if b = true then pure none else if c = true then pure none else if d = true then pure none else if e = true then u else pure (some n) : Sem (Option (List Str))) = pure (swCore a b c d n) := by
    intro a b c d e n u hq
    cases a <;> cases b <;> cases c <;> cases d <;> cases e <;> first | rfl | (exact absurd hq (by simp [swCore]))
  have e1 : (vs.any fun | .Starred .. => true | _ => false) = vs.any isStar := by
    congr 1
  have e2 : (ts.filterMap fun
      | .Name id pos => if X.env.scope.names.lookup id == some .local && pos.line == (ts.head?.map (·.pos.line)).getD 0 then some id else none
      | _ => none) = swList X.env.scope ts := by
    congr 1
  have e3 : swappedStores [.Tuple ts k1 p1] (.Tuple vs k2 p2) X.env = (if (!(ts.length == 2 || ts.length == 3) || vs.length != ts.length || X.env.blockKind != .function) = true then pure none
    else if (vs.any isStar) = true then pure none else if ((swList X.env.scope ts).length != ts.length || (swList X.env.scope ts).eraseDups.length != (swList X.env.scope ts).length) = true then pure none
    else if vs.all (foldedForSure 8) = true then pure none else if vs.all (constantsAlone 8) = true then unsupported "assign.tuple-of-constant-expressions:order-of-the-stores" else pure (some (swList X.env.scope ts))) := by
    rw [← e1, ← e2]
    rfl
  rw [e3, hb, show ((ScopeKind.function != ScopeKind.function) = false) from rfl, Bool.or_false]
  exact key _ _ _ _ _ _ _ hc
theorem ps_asgx (o : SOk Γ G h k C W X) {t : T} (h1 : chkT C t tg = true) (h2 : chk e C x = true) (h3 : notStar tg = true) (h4 : noSwap C tg x = true) : PS X (.Assign [tg] x pos) (tS Γ W G h fr (.asg t e)) := by
  obtain ⟨ts, k1, p1, rfl⟩ : ∃ ts k1 p1, tg = .Tuple ts k1 p1 := by
    cases tg
    case Tuple ts k1 p1 => exact ⟨_, _, _, rfl⟩
    all_goals exact absurd h4 Bool.false_ne_true
  have hsw : swappedStores [.Tuple ts k1 p1] x X.env = pure none := by
    cases x
    case Tuple vs k2 p2 =>
      have h4 : (swNames C.sc ts vs).isNone = true := h4
      rw [swapped_eq o (.inl h4), Option.isNone_iff_eq_none.mp h4]
    all_goals rfl
  have hss : swapsWithSole [.Tuple ts k1 p1] x pos.line X.env = pure false := by
    cases x <;> rfl
  refine PS.imp (ps_asg (pos := pos) ((good e).pe o.toXOk h2) (pg_T o.toXOk h1) hss hsw rfl) fun D σ H ⟨L, m, env, S, f, q⟩ => ?_
  rw [ex_asg] at q
  refine ⟨L, m, env, S, f.sr, (StR.ev f q).mono fun v S1 H1 k1 d1 s1 g1 x1 hx1 => ?_⟩
  obtain ⟨f1, q1⟩ := g1
  split at q1
  · rename_i d
    split at q1
    · rename_i e' eb
      exact ⟨L, m, env, S1, d, e', s1, hx1, eb, fun σ' _ s' => q1 L m σ' H1 (f1.mk' s')⟩
    · exact q1.elim
  · exact q1.elim
theorem sidxP_lst {ps : List P} {j d c' : P} (h : sidxP (.lst ps) j d = some c') : ∃ jj kk, j = .int jj ∧ L2.ixN ps.length jj = some kk ∧ c' = .lst (ps.set kk d) := by
  cases j <;> simp only [sidxP] at h <;> try cases h
  rename_i jj
  obtain ⟨kk, ek, rfl⟩ := Option.map_eq_some_iff.mp h
  exact ⟨jj, kk, rfl, ek, rfl⟩
def rSetLD (Γ : Gm) : TSet := fun o i v H Q => rSetL o i v H Q ∨ rSetD Γ o i v H Q
theorem set_ld (hu : X.A.units + 65 < cLine) : PSet X (rSetLD Γ) := fun pins s σ H o i v ov iv u Q I ro ri rv h =>
  h.elim (set_list pins s σ H o i v ov iv u Q I ro ri rv) (set_dct hu pins s σ H o i v ov iv u Q I ro ri rv)
theorem ps_sidxx (o : SOk Γ G h k C W X) {v : E} {tp : Pos} (h1 : notSlice z = true) (h2 : notComp x = true) (h3 : chk v C x = true) (h4 : chk a C y = true) (h5 : chk b C z = true) : PS X (.Assign [.Subscript y z tp] x pos) (tS Γ W G h fr (.sidx a b v)) := by
  have hg : PG X (.Subscript y z tp) (gSub (tE Γ (wx W) G h a) (tE Γ (wx W) G h b) (rSetLD Γ)) := pg_sub ((good a).pe o.toXOk h4) ((good b).pe o.toXOk h5) (set_ld o.u65) fun v => by
    cases z <;> first | rfl | exact absurd h1 Bool.false_ne_true
  refine PS.imp (ps_asg (pos := pos) ((good v).pe o.toXOk h3) hg (by cases x <;> first | rfl | exact absurd h2 Bool.false_ne_true) (by cases x <;> rfl) rfl) fun D σ H ⟨L, m, env, S, f, q⟩ => ?_
  rw [ex_sidx] at q
  refine ⟨L, m, env, S, f.sr, (StR.ev f q).mono fun dv S1 H1 k1 d1 s1 g1 x1 hx1 => ?_⟩
  obtain ⟨f1, q1⟩ := g1
  refine ⟨L, m, env, S1, s1, (StR.ev f1 q1).mono fun ov S2 H2 k2 d2 s2 g2 x2 hx2 => ?_⟩
  obtain ⟨f2, q2⟩ := g2
  refine ⟨L, m, env, S2, s2, (StR.ev f2 q2).mono fun iv S3 H3 k3 d3 s3 g3 x3 hx3 => ?_⟩
  obtain ⟨f3, q3⟩ := g3
  have p1 := (hx1.mono (k2.per s1.lm) d2).mono (k3.per s2.lm) d3
  have p2 := hx2.mono (k3.per s2.lm) d3
  split at q3
  · rename_i d n j
    split at q3
    · rename_i c e1
      split at q3
      · rename_i c' ec
        obtain ⟨rfl, _⟩ := id p2
        obtain ⟨u, hu, cr⟩ := s3.sto.at_ n c e1
        have rj : RRep Γ H3 j x3 := .inl hx3
        cases c with
        | lst ps =>
          obtain ⟨xs, rfl, e3⟩ := cr
          obtain ⟨jj, kk, rfl, ek, rfl⟩ := sidxP_lst ec
          obtain rfl := rj.int
          obtain ⟨w1, w2, w3⟩ := s3.write e1 hu (e3.set kk p1)
          exact .inl ⟨_, xs, jj, kk, rfl, rfl, hu, by rw [← e3.length]; exact ek, q3 L m _ _ (f3.step w2 w3 w1)⟩
        | dct ks vs =>
          have ec : (if dkOk ks j = true ∧ ks.length < BIG then some (kPut ks vs j d) else none) = some c' := ec
          split at ec
          · rename_i hc
            cases ec
            refine .inr ⟨_, u, ks, vs, j, d, rfl, hu, cr, rj, p1, hc.1, hc.2, fun u' ks' vs' ek cr' => ?_⟩
            have p := per_atC (H' := upd H3 (m n) u') hu cr.mutC fun b hb => upd_ne hb
            rw [ek] at q3
            obtain ⟨w1, w2, w3⟩ := s3.writeC e1 hu cr.mutC cr'
            exact q3 L m _ _ (f3.step w2 w3 w1)
          · cases ec
        | _ => cases ec
      · exact q3.elim
    · exact q3.elim
  · exact q3.elim
theorem ps_augx (o : SOk Γ G h k C W X) {i : Nat} {n : Str} {o2 : O2} {op : Operator} {py : Pos} (h1 : C.N[i]? = some n) (h2 : stB C n = true) (h3 : ipB o2 op = true) (h4 : chk e C x = true) : PS X (.AugAssign (.Name n py) op x pos) (tS Γ W G h fr (.aug i o2 e)) := by
  obtain ⟨l1, l2⟩ := hold_set o h2
  have hN : X.N.Nodup := by rw [o.N]; exact o.nd
  have hi : X.N[i]? = some n := by rw [o.N]; exact h1
  have key : ∀ (g : Int → Int → Int) (_ : PIp X op (ipI g)) (_ : ∀ (x y : Int), augI o2 x y = some (g x y)), PS X (.AugAssign (.Name n py) op x pos) (tS Γ W G h fr (.aug i o2 e)) := fun g hip hg => by
    refine PS.imp (ps_aug (pos := pos) (pos' := py) hN hi l1 ((good e).pe o.toXOk h4) hip l2) fun D σ H ⟨L, m, env, S, f, q⟩ => ?_
    rw [ex_aug] at q
    split at q
    · rename_i xi hxi
      obtain ⟨v, e1, e2⟩ := f.sr.ee i _ hxi
      have e2 : v = .int xi := by simpa only [VRep, Rep] using e2
      subst e2
      refine ⟨_, e1, L, m, env, S, f.sr, (StR.ev f q).mono fun w S' H' _ _ _ g' yv hy => ?_⟩
      obtain ⟨f', q'⟩ := g'
      split at q'
      · rename_i yi
        have hy : yv = .int yi := by simpa only [VRep, Rep] using hy
        rw [hg] at q'
        exact ⟨xi, yi, rfl, hy, q' L m _ _ (f'.set (v := .p (.int (g xi yi))) (by simp only [VRep, Rep]) i)⟩
      · exact q'.elim
    · exact q.elim
  cases o2 <;> cases op <;> first | exact absurd h3 Bool.false_ne_true | skip
  · exact key _ ip_add fun _ _ => rfl
  · exact key _ ip_sub fun _ _ => rfl
theorem ps_exprx (o : SOk Γ G h k C W X) (h1 : notComp x = true) (h2 : chk e C x = true) : PS X (.Expr x pos) (tS Γ W G h fr (.expr e)) := by
  refine PS.imp (ps_expr (pos := pos) ((good e).pe o.toXOk h2) (notComp_none h1)) fun D σ H ⟨L, m, env, S, f, q⟩ => ?_
  rw [ex_expr] at q
  exact ⟨L, m, env, S, f.sr, (StR.ev f q).mono fun v S' H' _ _ _ ⟨f', q'⟩ x hx => q' L m _ _ f'⟩
theorem ps_retx (o : SOk Γ G h k C W X) (h2 : chk e C x = true) : PS X (.Return (some x) pos) (tS Γ W G h fr (.ret e)) := by
  refine PS.imp (ps_ret (pos := pos) ((good e).pe o.toXOk h2)) fun D σ H ⟨L, m, env, S, f, q⟩ => ?_
  rw [ex_ret] at q
  exact ⟨L, m, env, S, f.sr, (StR.ev f q).mono fun v S' H' _ _ _ ⟨f', q'⟩ x hx => q' L m env _ _ x f' hx⟩
theorem ps_retAx (o : SOk Γ G h k C W X) {n : Nat} (hn : LOC ≤ n) (hm : mkr e = true) (h2 : chk e C x = true) : PS X (.Return (some x) pos) (tS Γ W G h fr (.retA n e)) := by
  refine PS.imp (ps_ret (pos := pos) ((good e).pn o.toXOk hm h2)) fun D σ H ⟨L, m, env, S, f, q⟩ => ?_
  rw [ex_retA] at q
  refine ⟨L, m, env, S, f.sr, (StR.ev f q).mono fun v S' H' _ _ _ g => ?_⟩
  obtain ⟨f', q'⟩ := g
  split at q'
  · rename_i ds
    split at q'
    · rename_i hmk
      refine ⟨ds, rfl, hmk, fun a xs ha r => ?_⟩
      have f2 := f'.alloc hn (Fresh.of ha) (Keep.of (Same.new ha)) (f'.sr.same (Same.new ha)) upd_same (r.per (per_of (Same.new ha)))
      exact q' _ _ _ _ _ _ f2 new_rep
    · exact q'.elim
  · exact q'.elim
theorem ps_itex (o : SOk Γ G h k C W X) {s1 s2 : S} {l r : List Stmt} (h1 : tst c = true) (h2 : chk c C x = true) (ha : PSs X l (tS Γ W G h fr s1)) (hb : PSs X r (tS Γ W G h fr s2)) : PS X (.If x l r pos) (tS Γ W G h fr (.ite c s1 s2)) := by
  refine PS.imp (ps_if (pos := pos) ((good c).pt o.toXOk h1 h2) ha hb) fun D σ H ⟨L, m, env, S, f, q⟩ => ?_
  rw [ex_ite] at q
  refine ⟨L, m, env, S, f.sr, (StR.ev f q).mono fun v S' H' _ _ _ ⟨f', q'⟩ => ?_⟩
  split at q'
  · exact ⟨true, rfl, L, m, env, _, f', q'⟩
  · exact ⟨false, rfl, L, m, env, _, f', q'⟩
  · exact q'.elim
theorem ps_whilex (o : SOk Γ G h k C W X) {s1 : S} {l : List Stmt} (h1 : tst c = true) (h2 : chk c C x = true) (ha : PSs X l (tS Γ W G h fr s1)) : PS X (.While x l [] pos) (tS Γ W G h fr (.wloop c s1)) := by
  refine PS.imp (ps_while (pos := pos) o.pass ((good c).pt o.toXOk h1 h2) ha) fun D σ H ⟨L, m, env, S, f, q⟩ => ?_
  rw [ex_wloop] at q
  refine ⟨fun n σ H => ∃ L m env S, FRep Γ fr L m env S σ H ∧ StR Γ W fr D (whileGo (fun env S => ev G h c env S) (fun env S => ex G h s1 env S) n env S), ⟨FUEL, L, m, env, S, f, q⟩, ?_⟩
  rintro n σ H ⟨L, m, env, S, f, q⟩
  cases n with
  | zero => exact q.elim
  | succ n =>
    have q : StR Γ W fr D (SR.of (ev G h c env S) fun v S => match v with
    | .p (.bl true) => match ex G h s1 env S with
      | .nx e S => whileGo (fun env S => ev G h c env S) (fun env S => ex G h s1 env S) n e S
      | .ct e S => whileGo (fun env S => ev G h c env S) (fun env S => ex G h s1 env S) n e S
      | .bk e S => .nx e S
      | r => r
    | .p (.bl false) => .nx env S
    | _ => .stk) := q
    refine ⟨L, m, env, S, f.sr, (StR.ev f q).mono fun v S' H' _ _ _ ⟨f', q'⟩ => ?_⟩
    split at q'
    · refine ⟨true, rfl, ?_⟩
      dsimp only
      rw [if_pos rfl]
      refine ⟨_, fun σ' H' w => ⟨n, Nat.lt_succ_self n, w⟩, L, m, env, S', f', ?_⟩
      cases er : ex G h s1 env S' with
      | nx e S2 =>
        rw [er] at q'
        exact fun L m σ H f => ⟨L, m, e, S2, f, q'⟩
      | ct e S2 =>
        rw [er] at q'
        exact fun L m σ H f => ⟨L, m, e, S2, f, q'⟩
      | bk e S2 =>
        rw [er] at q'
        exact q'
      | ret v S2 =>
        rw [er] at q'
        exact q'
      | exc c d S2 =>
        rw [er] at q'
        exact q'
      | stk =>
        rw [er] at q'
        exact q'
    · refine ⟨false, rfl, ?_⟩
      dsimp only
      rw [if_neg Bool.false_ne_true]
      exact q' L m _ _ f'
    · exact q'.elim
theorem FRep.rebase {L : Addr → Prop} {m : Nat → Addr} {env : Env} {S : Sto} {σ : L2.St} {H : Hp} {Hb : Hp} (f : FRep Γ { fr with Hb := Hb } L m env S σ H) (p : Per fr.Hb Hb) : FRep Γ fr L m env S σ H := ⟨f.sr, f.kp, f.dm, f.mm, f.lf, p.trans f.pr⟩
theorem FRep.based {L : Addr → Prop} {m : Nat → Addr} {env : Env} {S : Sto} {σ : L2.St} {H : Hp} {Hb : Hp} (f : FRep Γ fr L m env S σ H) (p : Per Hb H) : FRep Γ { fr with Hb := Hb } L m env S σ H := ⟨f.sr, f.kp, f.dm, f.mm, f.lf, p⟩
theorem StR.based {D : Ends} {r : SR} {Hb : Hp} (p : Per fr.Hb Hb) (q : StR Γ W fr D r) : StR Γ W { fr with Hb := Hb } D r := by
  cases r with
  | nx e S => exact fun L m σ H f => q L m σ H (f.rebase p)
  | bk e S => exact fun L m σ H f => q L m σ H (f.rebase p)
  | ct e S => exact fun L m σ H f => q L m σ H (f.rebase p)
  | ret v S => exact fun L m e σ H x f => q L m e σ H x (f.rebase p)
  | exc c d S => exact fun L m e σ H cls dx f => q L m e σ H cls dx (f.rebase p)
  | stk => exact q
theorem ps_forx (o : SOk Γ G h k C W X) {t : T} {it : E} {s1 : S} {l : List Stmt} (h1 : notSet x = true) (h2 : chkI it C x tg = true) (h3 : chkT C t tg = true) (ha : ∀ fr, PSs X l (tS Γ W G h fr s1)) : PS X (.For tg x l [] pos) (tS Γ W G h fr (.floop t it s1)) := by
  let F := fun (x : P) (env : Env) (S : Sto) => match T.bind t x env with
      | some e' => ex G h s1 e' S
      | none => SR.stk
  have hb : PSs X l (fun D σ H => ∃ fr, tS Γ W G h fr s1 D σ H) := ⟨fun pins s σ H D I ⟨fr, q⟩ => (ha fr).run pins s σ H D I q⟩
  refine PS.imp (ps_for (pos := pos) o.pass o.calm ((good it).pi o.toXOk h2) (pg_T o.toXOk h3) hb (foldedSet_ok h1)) fun D σ H ⟨L, m, env, S, f, q⟩ => ?_
  rw [ex_floop] at q
  refine ⟨L, m, env, S, f.sr, (StR.ev f q).mono fun ds S1 H1 k1 d1 s1' ⟨f1, q1⟩ J hJ => ?_⟩
  have hJ : L2.Walk J ds.length (fun H => Per H1 H) fun i H x H' => Same H H' ∧ ∃ d, ds[i]? = some d ∧ Rep Γ H' d x := hJ
  refine for_it (g := gT Γ t) (tb := fun D σ H => ∃ fr, tS Γ W G h fr s1 D σ H) (D := D) hJ (fun i σ H => ∃ L m e S, FRep Γ { fr with Hb := H1 } L m e S σ H ∧ StR Γ W { fr with Hb := H1 } D (forGo F (ds.drop i) e S)) ⟨L, m, env, S1, f1.based (Per.refl H1), q1.based f1.pr⟩ ?_ ?_ ?_
  · rintro i σ H _ ⟨L, m, e, S, f, _⟩
    exact f.pr
  · rintro i x σ H H' hi ⟨L, m, e, S, f, q⟩ ⟨sm, d, ed, rd⟩
    have hdr : ds.drop i = d :: ds.drop (i + 1) := by
      obtain ⟨hl, e⟩ := List.getElem?_eq_some_iff.mp ed
      rw [← e]
      exact List.drop_eq_getElem_cons hl
    rw [hdr] at q
    have f' := f.step (Keep.of sm) (Dom.refl _) (f.sr.same sm)
    have q : StR Γ W { fr with Hb := H1 } D (match F d e S with
      | .nx e S => forGo F (ds.drop (i + 1)) e S
      | .ct e S => forGo F (ds.drop (i + 1)) e S
      | .bk e S => .nx e S
      | r => r) := q
    cases eb : T.bind t d e with
    | none =>
      have : F d e S = .stk := by simp only [F, eb]
      rw [this] at q
      exact q.elim
    | some e' =>
      have : F d e S = ex G h s1 e' S := by simp only [F, eb]
      rw [this] at q
      refine ⟨L, m, e, S, d, e', f'.sr, rd, eb, fun σ' _ s' => ⟨{ fr with Hb := H1 }, L, m, e', S, f'.mk' s', ?_⟩⟩
      cases er : ex G h s1 e' S with
      | nx e S2 =>
        rw [er] at q
        exact fun L m σ H f => ⟨L, m, e, S2, f, q⟩
      | ct e S2 =>
        rw [er] at q
        exact fun L m σ H f => ⟨L, m, e, S2, f, q⟩
      | bk e S2 =>
        rw [er] at q
        exact q
      | ret v S2 =>
        rw [er] at q
        exact q
      | exc c d S2 =>
        rw [er] at q
        exact q
      | stk =>
        rw [er] at q
        exact q
  · rintro σ H ⟨L, m, e, S, f, q⟩
    rw [List.drop_length] at q
    exact q L m σ H f
theorem ps_raisx (o : SOk Γ G h k C W X) {cn : Nat} {n mm : Str} {p p2 p3 : Pos} {j : Nat} (h1 : cn ∈ C.es) (h2 : C.gn cn = n) (h3 : glB C.sc n = true) (h4 : dbg n = true) : PS X (.Raise (some (.Call (.Name n p) [.Constant (.str mm) j p2] [] p3)) none pos) (tS Γ W G h fr (.rais cn)) := by
  obtain ⟨Cd, B, newId, initId, bmB, g1, g2, g3, g4, g5, g6⟩ := (o.exs cn h1).ex
  have gC : X.mg n = some (.ref Cd) := by rw [o.mg, ← h2]; exact g3
  refine PS.imp (L2N.ps_raise (pos := pos) o.calm o.tk (L2N.pmk_own g1 (by rw [o.K]; exact g2) gC (by rw [o.K]; exact g4) (L2.raises_own (by rw [o.K]; exact g5) (by rw [o.K]; exact g6)) (o.gl h3) (dbg_ok h4).1)) fun D σ H ⟨L, m, env, S, f, q⟩ => ?_
  have q : StR Γ W fr D (.exc cn none S) := q
  exact q L m env σ H _ _ f ⟨by rw [o.gn, h2, ← o.mg]; exact gC, rfl⟩
end
end Hb

/-! Statements, part 3: several names at once, a callee's new list, all of it. -/
namespace Hb
open PySem PySem.Spec PyProof.Rows L2

def PL.appS : PL → List V → L2.St → L2.St
  | .e i _ r, x :: xs, σ => r.appS xs (σ.set i (some x))
  | .a i _ _ r, x :: xs, σ => r.appS xs (σ.set i (some x))
  | _, _, σ => σ
theorem appS_set {i : Nat} {z : V} : ∀ {r : PL} {xs : List V} {σ : L2.St}, i ∉ r.ix → r.appS xs (σ.set i (some z)) = (r.appS xs σ).set i (some z)
  | .nil, xs, σ, _ => by cases xs <;> rfl
  | .e j _ r, [], σ, _ => rfl
  | .a j _ _ r, [], σ, _ => rfl
  | .e j _ r, x :: xs, σ, h => by
    simp only [PL.ix, List.mem_cons, not_or] at h
    simp only [PL.appS]
    rw [List.set_comm _ _ h.1, appS_set h.2]
  | .a j _ _ r, x :: xs, σ, h => by
    simp only [PL.ix, List.mem_cons, not_or] at h
    simp only [PL.appS]
    rw [List.set_comm _ _ h.1, appS_set h.2]
def adrV : V → Addr
  | .ref q => q
  | _ => 0
def PL.adr : PL → List V → List Addr
  | .e _ _ r, _ :: xs => r.adr xs
  | .a _ _ _ r, x :: xs => adrV x :: r.adr xs
  | _, _ => []
section
variable (Γ : Gm)
def PLR (m : Nat → Addr) (S : Sto) (H : Hp) : PL → List Val → List V → Prop
  | .nil, vs, xs => vs = [] ∧ xs = []
  | .e _ _ r, vs, xs => ∃ v vs' x xs', vs = v :: vs' ∧ xs = x :: xs' ∧ VRep Γ m S H v x ∧ PLR m S H r vs' xs'
  | .a _ _ _ r, vs, xs => ∃ ds vs' a xs' ys, vs = .p ds :: vs' ∧ xs = .ref a :: xs' ∧ H a = some ys ∧ CRep Γ H ds ys a ∧ PLR m S H r vs' xs'
end
section
variable {Γ : Gm} {G : Prog} {h : Hd} {k : Nat} {C : Ctx} {W : XK} {X : Cx} {a b c e : E} {x y z tg : Expr} {pos : Pos} {fr : Fr}
theorem PLR.mono {m : Nat → Addr} {S S' : Sto} {H H' : Hp} {L : Addr → Prop} (kk : Keep L H H') (l : Lists L H) (d : Dom S S') {r : PL} : ∀ {vs : List Val} {xs : List V}, (∀ a ∈ r.adr xs, ¬ L a) → PLR Γ m S H r vs xs → PLR Γ m S' H' r vs xs := by
  induction r with
  | nil => exact fun _ h => h
  | e i e r ih =>
    intro vs xs hn h
    obtain ⟨v, vs', x, xs', rfl, rfl, h1, h2⟩ := h
    exact ⟨v, vs', x, xs', rfl, rfl, h1.mono (kk.per l) d, ih hn h2⟩
  | a i n e r ih =>
    intro vs xs hn h
    obtain ⟨ds, vs', a, xs', ys, rfl, rfl, h1, h2, h3⟩ := h
    have na : ¬ L a := hn a List.mem_cons_self
    have e1 := kk a _ h1 na (fun ps => h2.mutC.ntbl ps)
    exact ⟨ds, vs', a, xs', ys, rfl, rfl, e1, h2.per (kk.per l), ih (fun b hb => hn b (List.mem_cons_of_mem _ hb)) h3⟩
/-- the values, and where the new lists lie -/
def tPL (Γ : Gm) (W : WX) (G : Prog) (h : Hd) (r : PL) : TA := fun σ H Q => ∃ L m env S, SRep Γ L m env S σ H ∧ EvR Γ W L m env σ S H (evPL G h r env S) fun vs S' H' => ∀ xs, PLR Γ m S' H' r vs xs → (r.adr xs).Nodup → (∀ a ∈ r.adr xs, Fresh H a) → Q xs H'
theorem evPL_e (i : Nat) (r : PL) (env : Env) (S : Sto) : evPL G h (.e i e r) env S = (ev G h e env S).bind fun v S => (evPL G h r env S).bind fun vs S => .ok (v :: vs) S := rfl
theorem evPL_a (i n : Nat) (r : PL) (env : Env) (S : Sto) : evPL G h (.a i n e r) env S = (ev G h e env S).bind fun v S => match v with
    | .p d => if mkP e d = true then (evPL G h r env S).bind fun vs S => .ok (.p d :: vs) S else .stk
    | _ => .stk := rfl
theorem keep_none {L : Addr → Prop} {H H' : Hp} (kk : Keep L H H') (l : Lists L H) (l' : Lists L H') {a : Addr} (h : Fresh H' a) : Fresh H a := fun o e => by
  by_cases t : ∃ ps, o = .tbl ps
  · exact t
  · by_cases hl : L a
    · obtain ⟨xs, e2, mu⟩ := l' a hl
      obtain ⟨ps, z⟩ := h _ e2
      exact (mu.ntbl ps z).elim
    · exact h o (kk a o e hl fun ps z => t ⟨ps, z⟩)
theorem chkPL_e {i : Nat} {r : PL} {ts vs : List Expr} (h : chkPL C (.e i e r) ts vs = true) : ∃ y p ts' v vs', ts = .Name y p :: ts' ∧ vs = v :: vs' ∧ C.N[i]? = some y ∧ notStar v = true ∧ chk e C v = true ∧ chkPL C r ts' vs' = true := by
  rcases ts with _ | ⟨t, ts⟩
  · exact absurd h Bool.false_ne_true
  · rcases vs with _ | ⟨v, vs⟩
    · cases t <;> exact absurd h Bool.false_ne_true
    · cases t
      case Name y p =>
        have h : (decide (C.N[i]? = some y) && notStar v && chk e C v && chkPL C r ts vs) = true := h
        simp only [Bool.and_eq_true, decide_eq_true_eq] at h
        exact ⟨_, _, _, _, _, rfl, rfl, h.1.1.1, h.1.1.2, h.1.2, h.2⟩
      all_goals exact absurd h Bool.false_ne_true
theorem chkPL_a {i n : Nat} {r : PL} {ts vs : List Expr} (h : chkPL C (.a i n e r) ts vs = true) : ∃ y p ts' v vs', ts = .Name y p :: ts' ∧ vs = v :: vs' ∧ C.N[i]? = some y ∧ LOC ≤ n ∧ mkr e = true ∧ notStar v = true ∧ chk e C v = true ∧ chkPL C r ts' vs' = true := by
  rcases ts with _ | ⟨t, ts⟩
  · exact absurd h Bool.false_ne_true
  · rcases vs with _ | ⟨v, vs⟩
    · cases t <;> exact absurd h Bool.false_ne_true
    · cases t
      case Name y p =>
        have h : (decide (C.N[i]? = some y) && decide (LOC ≤ n) && mkr e && notStar v && chk e C v && chkPL C r ts vs) = true := h
        simp only [Bool.and_eq_true, decide_eq_true_eq] at h
        exact ⟨_, _, _, _, _, rfl, rfl, h.1.1.1.1.1, h.1.1.1.1.2, h.1.1.1.2, h.1.1.2, h.1.2, h.2⟩
      all_goals exact absurd h Bool.false_ne_true
theorem pa_PL (o : SOk Γ G h k C W X) {r : PL} : ∀ {ts vs : List Expr}, chkPL C r ts vs = true → PA X vs (tPL Γ (wx W) G h r) := by
  induction r with
  | nil =>
    intro ts vs hc
    have hc : (ts.isEmpty && vs.isEmpty) = true := hc
    simp only [Bool.and_eq_true, List.isEmpty_iff] at hc
    rw [hc.2]
    exact PA.imp pa_nil fun σ H Q ⟨L, m, env, S, sr, q⟩ => q.ok sr [] ⟨rfl, rfl⟩ List.nodup_nil (fun a ha => by cases ha)
  | e i e r ih =>
    intro ts vs hc
    obtain ⟨y, p, ts, v, vs, rfl, rfl, h1, h2, h3, h4⟩ := chkPL_e hc
    refine PA.imp (pa_cons ((good e).pe o.toXOk h3) (ih h4) (star_ok h2)) fun σ H Q ⟨L, m, env, S, sr, q⟩ => ?_
    rw [evPL_e] at q
    refine ⟨L, m, env, S, sr, q.bind.mono fun v S1 H1 k1 d1 s1 q1 x hx => ?_⟩
    refine ⟨L, m, env, S1, s1, q1.bind.mono fun vs S2 H2 k2 d2 s2 q2 xs hxs nd fr => ?_⟩
    exact q2.ok s2 _ ⟨_, _, _, _, rfl, rfl, hx.mono (k2.per s1.lm) d2, hxs⟩ nd fun a ha => keep_none k1 sr.lm s1.lm (fr a ha)
  | a i n e r ih =>
    intro ts vs hc
    obtain ⟨y, p, ts, v, vs, rfl, rfl, h1, h5, h6, h2, h3, h4⟩ := chkPL_a hc
    refine PA.imp (pa_cons ((good e).pn o.toXOk h6 h3) (ih h4) (star_ok h2)) fun σ H Q ⟨L, m, env, S, sr, q⟩ => ?_
    rw [evPL_a] at q
    refine ⟨L, m, env, S, sr, q.bind.mono fun v S1 H1 k1 d1 s1 q1 => ?_⟩
    split at q1
    · rename_i ds
      split at q1
      · rename_i hmk
        refine ⟨ds, rfl, hmk, fun ad ys ha hr => ?_⟩
        have sm := Same.new (o := ys) ha
        have nt := hr.mutC.ntbl
        have nL : ¬ L ad := fun z => by
          obtain ⟨xs, e, _⟩ := s1.lm ad z
          rw [ha] at e
          cases e
        refine ⟨L, m, env, S1, s1.same sm, ((q1.bind).shift (Keep.of sm) (Dom.refl _)).mono fun vs S2 H2 k2 d2 s2 q2 xs hxs nd fr => ?_⟩
        have e1 := k2 ad _ upd_same nL (fun ps => nt ps)
        refine q2.ok s2 _ ⟨ds, vs, ad, xs, ys, rfl, rfl, e1, (hr.per (per_of sm)).per (k2.per (s1.lm.same sm)), hxs⟩ ?_ ?_
        · refine List.nodup_cons.mpr ⟨fun z => ?_, nd⟩
          obtain ⟨ps, e⟩ := fr _ z _ (show upd H1 ad ys ad = _ from upd_same)
          exact nt ps e
        · intro b hb
          rcases List.mem_cons.mp hb with rfl | hb
          · exact keep_none k1 sr.lm s1.lm (Fresh.of ha)
          · have h0 := fr b hb
            have : b ≠ ad := fun z => by
              subst z
              obtain ⟨ps, e⟩ := h0 _ upd_same
              exact nt ps e
            exact keep_none k1 sr.lm s1.lm fun o e => h0 o (by rw [upd_ne this]; exact e)
      · exact q1.elim
    · exact q1.elim
/-- the slots are set -/
theorem stPL_ok {r : PL} (hp : ∀ n ∈ r.places, LOC ≤ n) : ∀ {vs : List Val} {xs : List V} {L : Addr → Prop} {m : Nat → Addr} {env env' : Env} {S S' : Sto} {σ : L2.St} {H : Hp}, r.ix.Nodup → PLR Γ m S H r vs xs → (r.adr xs).Nodup → (∀ a ∈ r.adr xs, Fresh fr.H0 a ∧ ¬ L a) → FRep Γ fr L m env S σ H → stPL r vs env S = some (env', S') →
    ∃ L' m', FRep Γ fr L' m' env' S' (r.appS xs σ) H ∧ ∀ b, L' b → L b ∨ b ∈ r.adr xs := by
  induction r with
  | nil =>
    intro vs xs L m env env' S S' σ H nd hr na hf f e
    obtain ⟨rfl, rfl⟩ := hr
    cases e
    exact ⟨L, m, f, fun b hb => .inl hb⟩
  | e i ex r ih =>
    intro vs xs L m env env' S S' σ H nd hr na hf f e
    obtain ⟨v, vs', x, xs', rfl, rfl, h1, h2⟩ := hr
    have nd' := List.nodup_cons.mp nd
    exact ih hp nd'.2 h2 na hf (f.set h1 i) e
  | a i n ex r ih =>
    intro vs xs L m env env' S S' σ H nd hr na hf f e
    obtain ⟨ds, vs', ad, xs', ys, rfl, rfl, h1, h2, h3⟩ := hr
    have nd' := List.nodup_cons.mp nd
    have na' := List.nodup_cons.mp na
    simp only [stPL] at e
    split at e
    · rename_i env1 S1 e1
      split at e
      case isFalse => cases e
      cases e
      obtain ⟨L', m', f', hl⟩ := ih (fun k hk => hp k (List.mem_cons_of_mem _ hk)) nd'.2 h3 na'.2 (fun b hb => hf b (List.mem_cons_of_mem _ hb)) f e1
      have g := hf ad List.mem_cons_self
      have nl : ¬ L' ad := fun z => (hl ad z).elim g.2 na'.1
      have f2 := f'.alloc' (n := n) (hp n List.mem_cons_self) g.1 nl h1 h2
      refine ⟨fun b => L' b ∨ b = ad, setm m' n ad, ?_, fun b hb => ?_⟩
      · have := f2.set (v := .l n) (x := .ref ad) new_rep i
        rw [← appS_set nd'.1] at this
        exact this
      · rcases hb with hb | rfl
        · rcases hl b hb with hb | hb
          · exact .inl hb
          · exact .inr (List.mem_cons_of_mem _ hb)
        · exact .inr List.mem_cons_self
    · cases e
theorem PLR_len {m : Nat → Addr} {S : Sto} {H : Hp} {r : PL} : ∀ {vs : List Val} {xs : List V}, PLR Γ m S H r vs xs → xs.length = r.ix.length := by
  induction r with
  | nil =>
    intro vs xs h
    rw [h.2]
    rfl
  | e i e r ih =>
    intro vs xs h
    obtain ⟨v, vs', x, xs', rfl, rfl, h1, h2⟩ := h
    simp only [PL.ix, List.length_cons, ih h2]
  | a i n e r ih =>
    intro vs xs h
    obtain ⟨ds, vs', a, xs', ys, rfl, rfl, h1, h2, h3⟩ := h
    simp only [PL.ix, List.length_cons, ih h3]
theorem chkPL_hd {r : PL} {t : Expr} {ts vs : List Expr} (h : chkPL C r (t :: ts) vs = true) : ∃ i r' y p v vs', r.ix = i :: r'.ix ∧ t = .Name y p ∧ vs = v :: vs' ∧ C.N[i]? = some y ∧ notStar v = true ∧ chkPL C r' ts vs' = true ∧ ∀ x xs σ, r.appS (x :: xs) σ = r'.appS xs (σ.set i (some x)) := by
  cases r with
  | nil => exact absurd h Bool.false_ne_true
  | e i e r =>
    obtain ⟨y, p, ts', v, vs', e1, rfl, h1, h2, h3, h4⟩ := chkPL_e h
    cases e1
    exact ⟨i, r, y, p, v, vs', rfl, rfl, rfl, h1, h2, h4, fun _ _ _ => rfl⟩
  | a i n e r =>
    obtain ⟨y, p, ts', v, vs', e1, rfl, h1, h5, h6, h2, h3, h4⟩ := chkPL_a h
    cases e1
    exact ⟨i, r, y, p, v, vs', rfl, rfl, rfl, h1, h2, h4, fun _ _ _ => rfl⟩
theorem chkPL_tl {r : PL} {vs : List Expr} (h : chkPL C r [] vs = true) : r = .nil ∧ vs = [] := by
  cases r with
  | nil =>
    have h : ([].isEmpty && vs.isEmpty : Bool) = true := h
    exact ⟨rfl, List.isEmpty_iff.mp (by simpa using h)⟩
  | e i e r =>
    obtain ⟨_, _, _, _, _, e1, _⟩ := chkPL_e h
    cases e1
  | a i n e r =>
    obtain ⟨_, _, _, _, _, e1, _⟩ := chkPL_a h
    cases e1
theorem sw_some {sc : Scope} {ts vs : List Expr} (h : (swNames sc ts vs).isSome = true) : (ts.length = 2 ∨ ts.length = 3) ∧ (swList sc ts).length = ts.length ∧ swNames sc ts vs = some (swList sc ts) := by
  have key : ∀ (a b c d : Bool) (n : List Str), (swCore a b c d n).isSome = true → a = false ∧ c = false ∧ swCore a b c d n = some n := by
    intro a b c d n hq
    cases a <;> cases b <;> cases c <;> cases d <;> first | exact ⟨rfl, rfl, rfl⟩ | (exact absurd hq (by simp [swCore]))
  obtain ⟨h1, h2, h3⟩ := key _ _ _ _ _ h
  simp only [Bool.or_eq_false_iff, Bool.not_eq_false', Bool.or_eq_true, beq_iff_eq, bne_eq_false_iff_eq] at h1 h2
  exact ⟨h1.1, h2.1, h3⟩
theorem swName_ok {sc : Scope} {line : Nat} {y n : Str} {p : Pos} (h : swName sc line (.Name y p) = some n) : n = y ∧ sc.names.lookup y = some .local := by
  have h : (if sc.names.lookup y == some .local && p.line == line then some y else none) = some n := h
  split at h
  · rename_i hc
    cases h
    simp only [Bool.and_eq_true, beq_iff_eq] at hc
    exact ⟨rfl, hc.1⟩
  · cases h
theorem ps_parx (o : SOk Γ G h k C W X) {r : PL} {ts vs : List Expr} {k1 k2 : Nat} {p1 p2 : Pos} (h1 : chkPL C r ts vs = true) (h2 : r.ix.Nodup) (hp : ∀ n ∈ r.places, LOC ≤ n) (h3 : (swNames C.sc ts vs).isSome = true) (h4 : vs.all (constantsAlone 8) = false) :
    PS X (.Assign [.Tuple ts k1 p1] (.Tuple vs k2 p2) pos) (tS Γ W G h fr (.par r)) := by
  have hpa := pa_PL o h1
  have hN : X.N.Nodup := by rw [o.N]; exact o.nd
  have fin : ∀ (D : Ends) σ H, tS Γ W G h fr (.par r) D σ H → tPL Γ (wx W) G h r σ H fun xs H' => D.nx (r.appS xs σ) H' := fun D σ H ⟨L, m, env, S, f, q⟩ => by
    have q : StR Γ W fr D (SR.of (evPL G h r env S) fun vs S => match stPL r vs env S with
      | some (e', S') => .nx e' S'
      | none => .stk) := q
    refine ⟨L, m, env, S, f.sr, (StR.ev f q).mono fun vs S' H' _ _ _ g xs hr nd hf => ?_⟩
    obtain ⟨f', q'⟩ := g
    split at q'
    · rename_i e' S2 es
      obtain ⟨L', m', f2, _⟩ := stPL_ok hp h2 hr nd (fun b hb => by
        obtain ⟨g1, g2, g3⟩ := f.fresh (hf b hb)
        exact ⟨g1, g3⟩) f' es
      exact q' _ _ _ _ f2
    · exact q'.elim
  obtain ⟨hl, hlen, hsw⟩ := sw_some h3
  have hw : swappedStores [.Tuple ts k1 p1] (.Tuple vs k2 p2) X.env = pure (some (swList C.sc ts)) := by
    rw [swapped_eq o (.inr h4), hsw]
  have hss : swapsWithSole [.Tuple ts k1 p1] (.Tuple vs k2 p2) pos.line X.env = pure false := rfl
  rcases ts with _ | ⟨t1, _ | ⟨t2, _ | ⟨t3, _ | ⟨t4, ts⟩⟩⟩⟩
  · simp at hl
  · simp at hl
  · obtain ⟨i1, r1, y1, q1, v1, vs1, a1, rfl, rfl, a4, s1, a5, a6⟩ := chkPL_hd h1
    obtain ⟨i2, r2, y2, q2, v2, vs2, b1, rfl, rfl, b4, s2, b5, b6⟩ := chkPL_hd a5
    obtain ⟨rfl, rfl⟩ := chkPL_tl b5
    rw [a1, b1] at h2
    have hne : i1 ≠ i2 := by simpa [PL.ix] using h2
    have hlen : (List.filterMap (swName C.sc q1.line) [.Name y1 q1, .Name y2 q2]).length = 2 := hlen
    have hw : swappedStores [.Tuple [.Name y1 q1, .Name y2 q2] k1 p1] (.Tuple [v1, v2] k2 p2) X.env = pure (some (List.filterMap (swName C.sc q1.line) [.Name y1 q1, .Name y2 q2])) := hw
    cases n1 : swName C.sc q1.line (.Name y1 q1) with
    | none => cases n2 : swName C.sc q1.line (.Name y2 q2) <;> simp [List.filterMap, n1, n2] at hlen
    | some m1 =>
      cases n2 : swName C.sc q1.line (.Name y2 q2) with
      | none => simp [List.filterMap, n1, n2] at hlen
      | some m2 =>
        obtain ⟨rfl, l1⟩ := swName_ok n1
        obtain ⟨rfl, l2⟩ := swName_ok n2
        simp only [List.filterMap, n1, n2] at hw
        refine PS.imp (ps_par (pos := pos) o.calm hN (by rw [o.N]; exact a4) (by rw [o.N]; exact b4) hne (by rw [o.sc]; exact l1) (by rw [o.sc]; exact l2) hpa hw hss) fun D σ H q => ?_
        obtain ⟨L, m, env, S, sr, q⟩ := fin D σ H q
        refine ⟨L, m, env, S, sr, q.mono fun vs' S' H' _ _ _ g xs hr nd hf => ?_⟩
        have g := g xs hr nd hf
        have hx := PLR_len hr
        rw [a1, b1] at hx
        rcases xs with _ | ⟨x, _ | ⟨y, _ | ⟨z, xs⟩⟩⟩ <;> try (simp [PL.ix] at hx; done)
        rw [a6, b6] at g
        exact ⟨x, y, rfl, g⟩
  · obtain ⟨i1, r1, y1, q1, v1, vs1, a1, rfl, rfl, a4, s1, a5, a6⟩ := chkPL_hd h1
    obtain ⟨i2, r2, y2, q2, v2, vs2, b1, rfl, rfl, b4, s2, b5, b6⟩ := chkPL_hd a5
    obtain ⟨i3, r3, y3, q3, v3, vs3, c1, rfl, rfl, c4, s3, c5, c6⟩ := chkPL_hd b5
    obtain ⟨rfl, rfl⟩ := chkPL_tl c5
    rw [a1, b1, c1] at h2
    have hne : i1 ≠ i2 ∧ i1 ≠ i3 ∧ i2 ≠ i3 := by
      simp only [PL.ix, List.nodup_cons, List.mem_cons, List.not_mem_nil, or_false, not_or] at h2
      exact ⟨h2.1.1, h2.1.2, h2.2.1⟩
    have hlen : (List.filterMap (swName C.sc q1.line) [.Name y1 q1, .Name y2 q2, .Name y3 q3]).length = 3 := hlen
    have hw : swappedStores [.Tuple [.Name y1 q1, .Name y2 q2, .Name y3 q3] k1 p1] (.Tuple [v1, v2, v3] k2 p2) X.env = pure (some (List.filterMap (swName C.sc q1.line) [.Name y1 q1, .Name y2 q2, .Name y3 q3])) := hw
    cases n1 : swName C.sc q1.line (.Name y1 q1) with
    | none => cases n2 : swName C.sc q1.line (.Name y2 q2) <;> cases n3 : swName C.sc q1.line (.Name y3 q3) <;> simp [List.filterMap, n1, n2, n3] at hlen
    | some m1 =>
      cases n2 : swName C.sc q1.line (.Name y2 q2) with
      | none => cases n3 : swName C.sc q1.line (.Name y3 q3) <;> simp [List.filterMap, n1, n2, n3] at hlen
      | some m2 =>
        cases n3 : swName C.sc q1.line (.Name y3 q3) with
        | none => simp [List.filterMap, n1, n2, n3] at hlen
        | some m3 =>
          obtain ⟨rfl, l1⟩ := swName_ok n1
          obtain ⟨rfl, l2⟩ := swName_ok n2
          obtain ⟨rfl, l3⟩ := swName_ok n3
          simp only [List.filterMap, n1, n2, n3] at hw
          refine PS.imp (ps_par3 (pos := pos) o.calm hN (by rw [o.N]; exact a4) (by rw [o.N]; exact b4) (by rw [o.N]; exact c4) hne.1 hne.2.1 hne.2.2 (by rw [o.sc]; exact l1) (by rw [o.sc]; exact l2) (by rw [o.sc]; exact l3) hpa hw hss) fun D σ H q => ?_
          obtain ⟨L, m, env, S, sr, q⟩ := fin D σ H q
          refine ⟨L, m, env, S, sr, q.mono fun vs' S' H' _ _ _ g xs hr nd hf => ?_⟩
          have g := g xs hr nd hf
          have hx := PLR_len hr
          rw [a1, b1, c1] at hx
          rcases xs with _ | ⟨x, _ | ⟨y, _ | ⟨z, _ | ⟨u, xs⟩⟩⟩⟩ <;> try (simp [PL.ix] at hx; done)
          rw [a6, b6, c6] at g
          exact ⟨x, y, z, rfl, g⟩
  · simp at hl
/-- name = f(..), the callee's new list becomes ours -/
theorem ps_setCx (o : SOk Γ G h k C W X) {i n f : Nat} {m fn : Str} {es : E} {py p p2 : Pos} {l : List Expr} (h1 : C.N[i]? = some m) (h2 : stB C m = true) (hn : LOC ≤ n) (g1 : f ∈ C.fs) (g2 : l.length = C.ar f) (g3 : C.gn f = fn) (g4 : glB C.sc fn = true) (g5 : dbg fn = true) (g6 : chks es C l = true) :
    PS X (.Assign [.Name m py] (.Call (.Name fn p) l [] p2) pos) (tS Γ W G h fr (.setC i n f es)) := by
  obtain ⟨l1, l2⟩ := hold_set o h2
  have hN : X.N.Nodup := by rw [o.N]; exact o.nd
  have hi : X.N[i]? = some m := by rw [o.N]; exact h1
  refine PS.imp (ps_set (pos := pos) (pos' := py) hN hi l1 (pe_cl0 o.toXOk g1 g2 g3 g4 g5 g6 ((good es).pa o.toXOk g6)) rfl l2) fun D σ H ⟨L, m, env, S, f0, q⟩ => ?_
  have q : StR Γ W fr D (SR.of (evs G h es env S) fun vs S =>
    match handS S (locsV vs []) 0 with
    | some S0 => match h (.p (.gl f)) (vs.map (renV (locsV vs []))) S0 with
      | .ok (.l k) S' => match backS S' (locsV vs []) 0 S, S'.get k with
        | some S2, some o => if (locsV vs []).length ≤ k then .nx ((clearE n env).set i (some (.l n))) (S2.put n o) else .stk
        | _, _ => .stk
      | .exc c d S' => match backS S' (locsV vs []) 0 S with
        | some S2 => .exc c d S2
        | none => .stk
      | _ => .stk
    | none => .stk) := q
  cases e : evs G h es env S with
  | stk => rw [e] at q; exact q.elim
  | exc c d S' =>
    have q' := StR.ev f0 q
    rw [e] at q'
    exact ⟨L, m, env, S, f0.sr, by rw [e]; exact q'⟩
  | ok vs S1 =>
    have hlen : vs.length = C.ar f := by rw [chks_len g6 e]; exact g2
    rw [e] at q
    refine ⟨L, m, env, S, f0.sr, ?_⟩
    rw [e]
    intro H1 k1 d1 s1 xs hxs
    have f1 := f0.step k1 d1 s1
    rw [List.append_nil]
    have q : StR Γ W fr D (match handS S1 (locsV vs []) 0 with
    | some S0 => match h (.p (.gl f)) (vs.map (renV (locsV vs []))) S0 with
      | .ok (.l k) S' => match backS S' (locsV vs []) 0 S1, S'.get k with
        | some S2, some o => if (locsV vs []).length ≤ k then .nx ((clearE n env).set i (some (.l n))) (S2.put n o) else .stk
        | _, _ => .stk
      | .exc c d S' => match backS S' (locsV vs []) 0 S1 with
        | some S2 => .exc c d S2
        | none => .stk
      | _ => .stk
    | none => .stk) := q
    have nd : (locsV vs []).Nodup := locsV_nodup List.nodup_nil
    have hl : ∀ n, Val.l n ∈ vs → n ∈ locsV vs [] := fun n hn => locsV_in hn
    generalize locsV vs [] = ls at q nd hl
    cases h0 : handS S1 ls 0 with
    | none => rw [h0] at q; exact q.elim
    | some S0 =>
      rw [h0] at q
      dsimp only at q
      refine ⟨vs.map (renV ls), S0, fun i => m (ls.getD i 0), by rw [List.length_map]; exact hlen, hand_reps h0 hl hxs, hand_sto nd s1.sto h0, ?_⟩
      cases hr : h (.p (.gl f)) (vs.map (renV ls)) S0 with
      | stk => rw [hr] at q; exact q.elim
      | exc c d S' =>
        rw [hr] at q
        dsimp only at q
        intro cls dx m' H' hm hk st hd hx
        cases hb : backS S' ls 0 S1 with
        | none => rw [hb] at q; exact q.elim
        | some S2 =>
          rw [hb] at q
          obtain ⟨c1, c2, c3⟩ := call_back (vs := vs) nd s1 h0 hb hm hk st hd
          exact q L m env σ H' cls dx (f1.step c1 c2 c3) hx
      | ok v S' =>
        rw [hr] at q
        intro x m' H' hm hk st hd hf hx
        cases v with
        | p _ => exact q.elim
        | f _ _ _ => exact q.elim
        | l kk =>
          dsimp only at q
          cases hb : backS S' ls 0 S1 with
          | none => rw [hb] at q; exact q.elim
          | some S2 =>
            cases ho : S'.get kk with
            | none => rw [hb, ho] at q; exact q.elim
            | some ob =>
              rw [hb, ho] at q
              dsimp only at q
              split at q
              · rename_i hle
                obtain ⟨c1, c2, c3⟩ := call_back (vs := vs) nd s1 h0 hb hm hk st hd
                obtain ⟨hx1, hx2⟩ := hx
                subst hx1
                have hfr : Fresh H1 (m' kk) := by
                  rcases hf kk hx2 with z | z
                  · have := handS_get h0 kk
                    simp only [Nat.zero_le, if_true, Nat.sub_zero] at this
                    rw [List.getElem?_eq_none hle] at this
                    rw [this] at z
                    cases z
                  · exact z
                obtain ⟨ys, y1, y2⟩ := st.at_ kk ob ho
                obtain ⟨a1, a2, a3⟩ := f1.fresh hfr
                have f3 := (f1.step c1 c2 c3).alloc' hn a1 a3 y1 y2
                exact q _ _ _ _ (f3.set (v := .l n) new_rep i)
              · exact q.elim
end

/-! ### all statements -/
theorem chkSs_st {C : Ctx} {s1 s2 : S} {st : Stmt} {l : List Stmt} (hn : ∀ n, s1 ≠ .frzv n) : chkSs (.seq s1 s2) C (st :: l) = (chkS s1 C st && chkSs s2 C l) := by
  cases s1 <;> first | rfl | exact absurd rfl (hn _)
theorem chkPL_places {C : Ctx} {r : PL} : ∀ {ts vs : List Expr}, chkPL C r ts vs = true → ∀ n ∈ r.places, LOC ≤ n := by
  induction r with
  | nil => intro ts vs _ n hn; cases hn
  | e i e r ih =>
    intro ts vs h1
    obtain ⟨y, q, ts', v, vs', rfl, rfl, _, _, _, h4⟩ := chkPL_e h1
    exact ih h4
  | a i n e r ih =>
    intro ts vs h1
    obtain ⟨y, q, ts', v, vs', rfl, rfl, _, hn, _, _, _, h4⟩ := chkPL_a h1
    intro k hk
    rcases List.mem_cons.mp hk with rfl | hk
    · exact hn
    · exact ih h4 k hk
theorem chkSs_seq {C : Ctx} {s1 s2 : S} {l : List Stmt} (h : chkSs (.seq s1 s2) C l = true) : (∃ n, s1 = .frzv n ∧ chkSs s2 C l = true) ∨ ((∀ n, s1 ≠ .frzv n) ∧ ∃ st r, l = st :: r ∧ chkS s1 C st = true ∧ chkSs s2 C r = true) := by
  cases s1
  case frzv n => exact .inl ⟨n, rfl, h⟩
  all_goals
    refine .inr ⟨(by intro n z; cases z), ?_⟩
    cases l with
    | nil => exact absurd h Bool.false_ne_true
    | cons st r =>
      rw [chkSs_st (by intro n z; cases z), Bool.and_eq_true] at h
      exact ⟨st, r, rfl, h.1, h.2⟩
theorem invS_set {C : Ctx} {i : Nat} {e : E} {st : Stmt} (h : chkS (.set i e) C st = true) : ∃ y py x p, st = .Assign [.Name y py] x p ∧ C.N[i]? = some y ∧ stB C y = true ∧ chk e C x = true ∧ (!swL C x y py || (isLC e && C.sc.names.lookup y == some .local)) = true := by
  cases st
  case Assign ts x p =>
    rcases ts with _ | ⟨t, _ | ⟨t2, ts⟩⟩
    · exact absurd h Bool.false_ne_true
    · cases t
      case Name y py =>
        have h : (decide (C.N[i]? = some y) && stB C y && chk e C x && (!swL C x y py || (isLC e && C.sc.names.lookup y == some .local))) = true := h
        rw [Bool.and_eq_true, Bool.and_eq_true, Bool.and_eq_true, decide_eq_true_eq] at h
        exact ⟨_, _, _, _, rfl, h.1.1.1, h.1.1.2, h.1.2, h.2⟩
      all_goals exact absurd h Bool.false_ne_true
    · cases t <;> exact absurd h Bool.false_ne_true
  all_goals exact absurd h Bool.false_ne_true
theorem invS_setA {C : Ctx} {i n : Nat} {e : E} {st : Stmt} (h : chkS (.setA i n e) C st = true) : ∃ y py x p, st = .Assign [.Name y py] x p ∧ C.N[i]? = some y ∧ stB C y = true ∧ LOC ≤ n ∧ mkr e = true ∧ chk e C x = true ∧ (!swL C x y py || (isLC e && C.sc.names.lookup y == some .local)) = true := by
  cases st
  case Assign ts x p =>
    rcases ts with _ | ⟨t, _ | ⟨t2, ts⟩⟩
    · exact absurd h Bool.false_ne_true
    · cases t
      case Name y py =>
        have h : (decide (C.N[i]? = some y) && stB C y && decide (LOC ≤ n) && mkr e && chk e C x && (!swL C x y py || (isLC e && C.sc.names.lookup y == some .local))) = true := h
        rw [Bool.and_eq_true, Bool.and_eq_true, Bool.and_eq_true, Bool.and_eq_true, Bool.and_eq_true, decide_eq_true_eq, decide_eq_true_eq] at h
        exact ⟨_, _, _, _, rfl, h.1.1.1.1.1, h.1.1.1.1.2, h.1.1.1.2, h.1.1.2, h.1.2, h.2⟩
      all_goals exact absurd h Bool.false_ne_true
    · cases t <;> exact absurd h Bool.false_ne_true
  all_goals exact absurd h Bool.false_ne_true
theorem invS_setC {C : Ctx} {i n f : Nat} {es : E} {st : Stmt} (h : chkS (.setC i n f es) C st = true) : ∃ y py fn q args p2 p, st = .Assign [.Name y py] (.Call (.Name fn q) args [] p2) p ∧ C.N[i]? = some y ∧ stB C y = true ∧ LOC ≤ n ∧ f ∈ C.fs ∧ args.length = C.ar f ∧ C.gn f = fn ∧ glB C.sc fn = true ∧ dbg fn = true ∧ chks es C args = true := by
  cases st
  case Assign ts x p =>
    rcases ts with _ | ⟨t, _ | ⟨t2, ts⟩⟩
    · exact absurd h Bool.false_ne_true
    · cases t
      case Name y py =>
        cases x
        case Call fn args kws p2 =>
          cases fn
          case Name fn q =>
            cases kws
            · have h : (decide (C.N[i]? = some y) && stB C y && decide (LOC ≤ n) && decide (f ∈ C.fs) && decide (args.length = C.ar f) && decide (C.gn f = fn) && glB C.sc fn && dbg fn && chks es C args) = true := h
              simp only [Bool.and_eq_true, decide_eq_true_eq] at h
              obtain ⟨⟨⟨⟨⟨⟨⟨⟨h1, h2⟩, h3⟩, h4⟩, h5⟩, h6⟩, h7⟩, h8⟩, h9⟩ := h
              exact ⟨_, _, _, _, _, _, _, rfl, h1, h2, h3, h4, h5, h6, h7, h8, h9⟩
            · exact absurd h Bool.false_ne_true
          all_goals exact absurd h Bool.false_ne_true
        all_goals exact absurd h Bool.false_ne_true
      all_goals exact absurd h Bool.false_ne_true
    · cases t <;> exact absurd h Bool.false_ne_true
  all_goals exact absurd h Bool.false_ne_true
theorem invS_asg {C : Ctx} {t : T} {e : E} {st : Stmt} (h : chkS (.asg t e) C st = true) : ∃ tg x p, st = .Assign [tg] x p ∧ chkT C t tg = true ∧ chk e C x = true ∧ notStar tg = true ∧ noSwap C tg x = true := by
  cases st
  case Assign ts x p =>
    rcases ts with _ | ⟨tg, _ | ⟨t2, ts⟩⟩
    · exact absurd h Bool.false_ne_true
    · have h : (chkT C t tg && chk e C x && notStar tg && noSwap C tg x) = true := h
      simp only [Bool.and_eq_true] at h
      exact ⟨_, _, _, rfl, h.1.1.1, h.1.1.2, h.1.2, h.2⟩
    · exact absurd h Bool.false_ne_true
  all_goals exact absurd h Bool.false_ne_true
theorem invS_par {C : Ctx} {r : PL} {st : Stmt} (h : chkS (.par r) C st = true) : ∃ ts k1 p1 vs k2 p2 p, st = .Assign [.Tuple ts k1 p1] (.Tuple vs k2 p2) p ∧ chkPL C r ts vs = true ∧ r.ix.Nodup ∧ (∀ n ∈ r.places, LOC ≤ n) ∧ (swNames C.sc ts vs).isSome = true ∧ vs.all (constantsAlone 8) = false := by
  cases st
  case Assign ts x p =>
    rcases ts with _ | ⟨tg, _ | ⟨t2, ts⟩⟩
    · exact absurd h Bool.false_ne_true
    · cases tg
      case Tuple ts k1 p1 =>
        cases x
        case Tuple vs k2 p2 =>
          have h : (chkPL C r ts vs && decide (r.ix.Nodup) && decide (r.places.Nodup) && (swNames C.sc ts vs).isSome && !(vs.all (constantsAlone 8))) = true := h
          simp only [Bool.and_eq_true, decide_eq_true_eq, Bool.not_eq_true'] at h
          obtain ⟨⟨⟨⟨h1, h2⟩, h3⟩, h4⟩, h5⟩ := h
          exact ⟨_, _, _, _, _, _, _, rfl, h1, h2, chkPL_places h1, h4, h5⟩
        all_goals exact absurd h Bool.false_ne_true
      all_goals exact absurd h Bool.false_ne_true
    · cases tg <;> exact absurd h Bool.false_ne_true
  all_goals exact absurd h Bool.false_ne_true
theorem invS_sidx {C : Ctx} {o i v : E} {st : Stmt} (h : chkS (.sidx o i v) C st = true) : ∃ y z tp x p, st = .Assign [.Subscript y z tp] x p ∧ notSlice z = true ∧ notComp x = true ∧ chk v C x = true ∧ chk o C y = true ∧ chk i C z = true := by
  cases st
  case Assign ts x p =>
    rcases ts with _ | ⟨tg, _ | ⟨t2, ts⟩⟩
    · exact absurd h Bool.false_ne_true
    · cases tg
      case Subscript y z tp =>
        have h : (notSlice z && notComp x && chk v C x && chk o C y && chk i C z) = true := h
        simp only [Bool.and_eq_true] at h
        exact ⟨_, _, _, _, _, rfl, h.1.1.1.1, h.1.1.1.2, h.1.1.2, h.1.2, h.2⟩
      all_goals exact absurd h Bool.false_ne_true
    · cases tg <;> exact absurd h Bool.false_ne_true
  all_goals exact absurd h Bool.false_ne_true
theorem invS_aug {C : Ctx} {i : Nat} {o : O2} {e : E} {st : Stmt} (h : chkS (.aug i o e) C st = true) : ∃ y py op x p, st = .AugAssign (.Name y py) op x p ∧ C.N[i]? = some y ∧ stB C y = true ∧ ipB o op = true ∧ chk e C x = true := by
  cases st
  case AugAssign tg op x p =>
    cases tg
    case Name y py =>
      have h : (decide (C.N[i]? = some y) && stB C y && ipB o op && chk e C x) = true := h
      simp only [Bool.and_eq_true, decide_eq_true_eq] at h
      exact ⟨_, _, _, _, _, rfl, h.1.1.1, h.1.1.2, h.1.2, h.2⟩
    all_goals exact absurd h Bool.false_ne_true
  all_goals exact absurd h Bool.false_ne_true
theorem invS_rais {C : Ctx} {c : Nat} {st : Stmt} (h : chkS (.rais c) C st = true) : ∃ n p mm j p2 p3 pos, st = .Raise (some (.Call (.Name n p) [.Constant (.str mm) j p2] [] p3)) none pos ∧ c ∈ C.es ∧ C.gn c = n ∧ glB C.sc n = true ∧ dbg n = true := by
  unfold chkS at h
  split at h <;> try exact absurd h Bool.false_ne_true
  simp only [Bool.and_eq_true, decide_eq_true_eq] at h
  exact ⟨_, _, _, _, _, _, _, rfl, h.1.1.1, h.1.1.2, h.1.2, h.2⟩
section
variable {Γ : Gm} {G : Prog} {h : Hd} {k : Nat} {C : Ctx} {W : XK} {X : Cx}
theorem ps_nx (o : SOk Γ G h k C W X) {st : Stmt} {s : S} {t : TS} {fr : Fr} (hp : PS X st t) (i : ∀ D σ H, tS Γ W G h fr s D σ H → t D σ H) : PS X st (tS Γ W G h fr s) := PS.imp hp i
theorem goodS (o : SOk Γ G h k C W X) : ∀ s : S, (∀ st fr, chkS s C st = true → PS X st (tS Γ W G h fr s)) ∧ ∀ l fr, chkSs s C l = true → PSs X l (tS Γ W G h fr s) := by
  intro s
  induction s with
  | nil =>
    refine ⟨fun _ _ q => absurd q Bool.false_ne_true, fun l fr q => ?_⟩
    cases l with
    | nil => exact PSs.imp pss_nil fun D σ H ⟨L, m, env, S, f, q⟩ => q L m σ H f
    | cons _ _ => exact absurd q Bool.false_ne_true
  | seq s1 s2 ih1 ih2 =>
    refine ⟨fun _ _ q => absurd q Bool.false_ne_true, fun l fr q => ?_⟩
    rcases chkSs_seq q with ⟨i, rfl, h2⟩ | ⟨hn, st, r, rfl, h1, h2⟩
    · refine PSs.imp (pss_frz (ih2.2 l fr h2)) fun D σ H ⟨L, m, env, S, f, q⟩ => ?_
      have q : StR Γ W fr D (match (match env[i]? with
        | some (some (.l n)) => if 100 ≤ n then match S.get n with
          | some d => SR.nx (frzE n d env) (S.del n)
          | none => .stk
          else .stk
        | some (some (.p _)) => .nx env S
        | _ => .stk) with
        | .nx e S => ex G h s2 e S
        | r => r) := q
      cases ei : env[i]? with
      | none => rw [ei] at q; exact q.elim
      | some ov =>
        cases ov with
        | none => rw [ei] at q; exact q.elim
        | some v =>
          rw [ei] at q
          cases v with
          | p d => exact .inl ⟨L, m, env, S, f, q⟩
          | f _ _ _ => exact q.elim
          | l n =>
            dsimp only at q
            by_cases hn : 100 ≤ n
            · rw [if_pos hn] at q
              cases e : S.get n with
              | none => rw [e] at q; exact q.elim
              | some d =>
                rw [e] at q
                obtain ⟨xs, hH, mu, g⟩ := f.frz hn e
                exact .inr ⟨m n, xs, hH, mu, fun o => ⟨_, _, _, _, g o, q⟩⟩
            · rw [if_neg hn] at q
              exact q.elim
    · refine PSs.imp (pss_cons (ih1.1 st fr h1) (ih2.2 r fr h2)) fun D σ H ⟨L, m, env, S, f, q⟩ => ⟨L, m, env, S, f, ?_⟩
      rw [ex_seq] at q
      cases er : ex G h s1 env S with
      | nx e S2 =>
        rw [er] at q
        exact fun L m σ H f => ⟨L, m, e, S2, f, q⟩
      | ct e S2 => rw [er] at q; exact q
      | bk e S2 => rw [er] at q; exact q
      | ret v S2 => rw [er] at q; exact q
      | exc c d S2 => rw [er] at q; exact q
      | stk => rw [er] at q; exact q
  | set i e =>
    refine ⟨fun st fr q => ?_, fun _ _ q => absurd q Bool.false_ne_true⟩
    obtain ⟨y, py, x, p, rfl, h1, h2, h3, h4⟩ := invS_set q
    exact ps_setx o h1 h2 h3 h4
  | setA i n e =>
    refine ⟨fun st fr q => ?_, fun _ _ q => absurd q Bool.false_ne_true⟩
    obtain ⟨y, py, x, p, rfl, h1, h2, h3, h4, h5, h6⟩ := invS_setA q
    exact ps_setAx o h1 h2 h3 h4 h5 h6
  | setC i n f es =>
    refine ⟨fun st fr q => ?_, fun _ _ q => absurd q Bool.false_ne_true⟩
    obtain ⟨y, py, fn, q', args, p2, p, rfl, h1, h2, h3, h4, h5, h6, h7, h8, h9⟩ := invS_setC q
    exact ps_setCx o h1 h2 h3 h4 h5 h6 h7 h8 h9
  | asg t e =>
    refine ⟨fun st fr q => ?_, fun _ _ q => absurd q Bool.false_ne_true⟩
    obtain ⟨tg, x, p, rfl, h1, h2, h3, h4⟩ := invS_asg q
    exact ps_asgx o h1 h2 h3 h4
  | par r =>
    refine ⟨fun st fr q => ?_, fun _ _ q => absurd q Bool.false_ne_true⟩
    obtain ⟨ts, k1, p1, vs, k2, p2, p, rfl, h1, h2, h3, h4, h5⟩ := invS_par q
    exact ps_parx o h1 h2 h3 h4 h5
  | sidx o' i v =>
    refine ⟨fun st fr q => ?_, fun _ _ q => absurd q Bool.false_ne_true⟩
    obtain ⟨y, z, tp, x, p, rfl, h1, h2, h3, h4, h5⟩ := invS_sidx q
    exact ps_sidxx o h1 h2 h3 h4 h5
  | aug i o' e =>
    refine ⟨fun st fr q => ?_, fun _ _ q => absurd q Bool.false_ne_true⟩
    obtain ⟨y, py, op, x, p, rfl, h1, h2, h3, h4⟩ := invS_aug q
    exact ps_augx o h1 h2 h3 h4
  | expr e =>
    refine ⟨fun st fr q => ?_, fun _ _ q => absurd q Bool.false_ne_true⟩
    cases st
    case Expr x p =>
      have q : (notComp x && chk e C x) = true := q
      rw [Bool.and_eq_true] at q
      exact ps_exprx o q.1 q.2
    all_goals exact absurd q Bool.false_ne_true
  | ret e =>
    refine ⟨fun st fr q => ?_, fun _ _ q => absurd q Bool.false_ne_true⟩
    cases st
    case Return x p =>
      cases x
      · exact absurd q Bool.false_ne_true
      · exact ps_retx o q
    all_goals exact absurd q Bool.false_ne_true
  | retn =>
    refine ⟨fun st fr q => ?_, fun _ _ q => absurd q Bool.false_ne_true⟩
    cases st
    case Return x p =>
      cases x
      · exact PS.imp ps_retN fun D σ H ⟨L, m, env, S, f, q⟩ => q L m env σ H .non f (by simp only [VRep, Rep])
      · exact absurd q Bool.false_ne_true
    all_goals exact absurd q Bool.false_ne_true
  | ite c a b iha ihb =>
    refine ⟨fun st fr q => ?_, fun _ _ q => absurd q Bool.false_ne_true⟩
    cases st
    case If x l r p =>
      have q : (tst c && chk c C x && chkSs a C l && chkSs b C r) = true := q
      simp only [Bool.and_eq_true] at q
      exact ps_itex o q.1.1.1 q.1.1.2 (iha.2 l fr q.1.2) (ihb.2 r fr q.2)
    all_goals exact absurd q Bool.false_ne_true
  | floop t it body ih =>
    refine ⟨fun st fr q => ?_, fun _ _ q => absurd q Bool.false_ne_true⟩
    cases st
    case For tg iter l els p =>
      cases els
      · have q : (notSet iter && chkI it C iter tg && chkT C t tg && chkSs body C l) = true := q
        simp only [Bool.and_eq_true] at q
        exact ps_forx o q.1.1.1 q.1.1.2 q.1.2 fun fr => ih.2 l fr q.2
      · exact absurd q Bool.false_ne_true
    all_goals exact absurd q Bool.false_ne_true
  | wloop c body ih =>
    refine ⟨fun st fr q => ?_, fun _ _ q => absurd q Bool.false_ne_true⟩
    cases st
    case While x l els p =>
      cases els
      · have q : (tst c && chk c C x && chkSs body C l) = true := q
        simp only [Bool.and_eq_true] at q
        exact ps_whilex o q.1.1 q.1.2 (ih.2 l fr q.2)
      · exact absurd q Bool.false_ne_true
    all_goals exact absurd q Bool.false_ne_true
  | frzv n => exact ⟨fun _ _ q => absurd q Bool.false_ne_true, fun _ _ q => absurd q Bool.false_ne_true⟩
  | retA n e =>
    refine ⟨fun st fr q => ?_, fun _ _ q => absurd q Bool.false_ne_true⟩
    cases st
    case Return x p =>
      cases x
      · exact absurd q Bool.false_ne_true
      · rename_i x
        have q : (decide (LOC ≤ n) && mkr e && chk e C x) = true := q
        simp only [Bool.and_eq_true, decide_eq_true_eq] at q
        exact ps_retAx o q.1.1 q.1.2 q.2
    all_goals exact absurd q Bool.false_ne_true
  | rais c =>
    refine ⟨fun st fr q => ?_, fun _ _ q => absurd q Bool.false_ne_true⟩
    obtain ⟨n, p, mm, j, p2, p3, pos, rfl, h1, h2, h3, h4⟩ := invS_rais q
    exact ps_raisx o h1 h2 h3 h4
  | raisF c e => exact ⟨fun _ _ q => absurd q Bool.false_ne_true, fun _ _ q => absurd q Bool.false_ne_true⟩
  | doc =>
    refine ⟨fun st fr q => ?_, fun _ _ q => absurd q Bool.false_ne_true⟩
    cases st
    case Expr x p =>
      cases x
      case Constant cc j p2 =>
        cases cc
        case str y => exact PS.imp ps_doc fun D σ H ⟨L, m, env, S, f, q⟩ => q L m σ H f
        all_goals exact absurd q Bool.false_ne_true
      all_goals exact absurd q Bool.false_ne_true
    all_goals exact absurd q Bool.false_ne_true
  | brk =>
    refine ⟨fun st fr q => ?_, fun _ _ q => absurd q Bool.false_ne_true⟩
    cases st
    case Break p => exact PS.imp ps_break fun D σ H ⟨L, m, env, S, f, q⟩ => q L m σ H f
    all_goals exact absurd q Bool.false_ne_true
  | cnt =>
    refine ⟨fun st fr q => ?_, fun _ _ q => absurd q Bool.false_ne_true⟩
    cases st
    case Continue p => exact PS.imp ps_continue fun D σ H ⟨L, m, env, S, f, q⟩ => q L m σ H f
    all_goals exact absurd q Bool.false_ne_true
  | stk => exact ⟨fun _ _ q => absurd q Bool.false_ne_true, fun l fr q => ⟨fun pins s σ H D I ⟨L, m, env, S, f, q⟩ => q.elim⟩⟩
end
end Hb

/-! Defs: a body that the checker lets pass keeps its promise at the next level. -/
namespace Hb
open PySem PySem.Spec PyProof.Rows L2

/-- what the module gives: names, defs and their numbers of parameters, constants, classes -/
structure Md where
  gn : Nat → Str
  fs : List Nat
  ar : Nat → Nat
  gs : List Nat
  es : List Nat
  /-- defs that may be called where a lambda was handed in; defs that lambdas are handed to -/
  lo : List Nat
  cf : List Nat
/-- a def's text; its kind: 0 may be called where a lambda was handed in, 1 lambdas are handed to it, 2 any other -/
structure DT where
  kd : Nat
  lam : Bool
  name : Str
  N : List Str
  ps : List Str
  params : Arguments
  body : List Stmt
  scope : Scope
def Md.ctx (M : Md) (kd : Nat) (lam : Bool) (N : List Str) (sc : Scope) : Ctx :=
  { N := N, sc := sc, gn := M.gn, fs := if kd = 2 then M.fs else M.lo, ar := M.ar, gs := M.gs, st := fun _ => true, es := M.es, lam := lam, hi := decide (kd = 2), clo := decide (kd = 1), cs := if kd = 2 then M.cf else [] }
/-- a lambda's body -/
def Md.lc (M : Md) (N : List Str) (sc : Scope) : Ctx := { N := N, sc := sc, gn := M.gn, fs := M.fs, ar := M.ar, gs := M.gs, st := fun _ => false, es := M.es, lam := false, hi := true, clo := false, cs := [] }
theorem Md.clam (M : Md) (lam : Bool) (N : List Str) (sc : Scope) : (M.ctx 2 lam N sc).clam = M.lc := rfl
def scB (N ps : List Str) (sc : Scope) : Bool :=
  decide (sc.kind = .function) && !sc.isCoroutine && !sc.isGenerator && decide (N.Nodup) && decide (N.take ps.length = ps) &&
    (ps.all fun x => match sc.names.lookup x with
      | some .local => true
      | some .cell => true
      | _ => false) && sc.names.all fun y => !decide (y.2 = .free)
theorem scB_ok {N ps : List Str} {sc : Scope} (h : scB N ps sc = true) : FnScope N ps sc := by
  unfold scB at h
  simp only [Bool.and_eq_true, decide_eq_true_eq, Bool.not_eq_true', List.all_eq_true, decide_eq_false_iff_not] at h
  obtain ⟨⟨⟨⟨⟨⟨h1, h2⟩, h3⟩, h4⟩, h5⟩, h6⟩, h7⟩ := h
  refine ⟨h1, h2, h3, h4, h5, fun x hx => ?_, h7⟩
  have q := h6 x hx
  split at q
  · exact .inl (by assumption)
  · exact .inr (by assumption)
  · cases q
def chkD (M : Md) (d : DT) (fd : FD) : Bool := scB d.N d.ps d.scope && decide (fd.np = d.ps.length) && decide (fd.np + fd.nl = d.N.length) && chkSs fd.body (M.ctx d.kd d.lam d.N d.scope) d.body
/-- the module as it stands behind the top -/
structure MOk (Γ : Gm) (M : Md) (G : Prog) : Prop where
  gn : Γ.gnm = M.gn
  bl : ∀ x ∈ bnames, Γ.mg x = none
  glb : ∀ g ∈ M.gs, ∃ u v, Γ.mg (M.gn g) = some u ∧ RelV v u ∧ ∀ H, Rep Γ H (G.glb g) v
  exs : ∀ c ∈ M.es, ExcOk Γ (M.gn c)
  arr : ∀ g n, G.ar g = some n → g ∈ M.fs ∧ M.ar g = n
  arc : ∀ g n, G.arc g = some n → g ∈ M.lo ∧ M.ar g = n
  kin : ∀ c w b, G.kin c = some (w, b) → b = false ∧ ∃ cls, Γ.mg (Γ.gnm c) = some cls ∧ PlainE Γ cls w
/-- a def that makes lambdas: its code object has a table -/
structure DLam (Γ : Gm) (P : Program) (w : World) (base : Heap) (cdv : Value) (q : Str) : Prop where
  tab : ∃ (c P : Addr), LamX.TabB base Γ.mg c P ∧ cdv = .ref c ∧ (P, q ++ "<lambda>") ∈ Γ.T ∧ ∀ p ∈ Γ.T, p.1 = P → p.2 = q ++ "<lambda>"
  tr : TryF Γ P w base
section
variable {Γ : Gm} {M : Md} {P : Program} {w : World} {base : Heap}
theorem fresh_of {fr : Fr} {L : Addr → Prop} {m : Nat → Addr} {env : Env} {S : Sto} {σ : L2.St} {H : Hp} (f : FRep Γ fr L m env S σ H) (n : Nat) (hn : (S.get n).isSome = true) : (fr.S0.get n).isSome = true ∨ Fresh fr.H0 (m n) := by
  rcases f.lf _ (f.sr.live n hn) with z | z
  · obtain ⟨k, h1, h2⟩ := (fr.l0 _).mp z
    have e : m k = m n := (f.mm k h1).trans h2
    have := f.sr.sto.inj k n (f.dm k h1) hn e
    subst this
    exact .inl h1
  · exact .inr z
theorem all_lt {S : Sto} (h : (S.all fun p => decide (p.1 < 100)) = true) : ∀ n, (S.get n).isSome = true → n < LOC := by
  induction S with
  | nil => intro n hn; cases hn
  | cons p S ih =>
    obtain ⟨k, o⟩ := p
    simp only [List.all_cons, Bool.and_eq_true, decide_eq_true_eq] at h
    intro n hn
    simp only [Sto.get] at hn
    split at hn
    · rename_i e
      subst e
      exact h.1
    · exact ih h.2 n hn
/-- the caller's promise, read at the body's end -/
theorem calR_StR {m : Nat → Addr} {S : Sto} {H : Hp} {Q : VK} {E : XK} {np : Nat} {r : SR} {fr : Fr} (h1 : fr.m0 = m) (h2 : fr.H0 = H) (h3 : fr.S0 = S) (q : CalR Γ m S H (retR np r) Q E) : StR Γ E fr { nx := fun _ H' => Q .non H', rt := Q } r := by
  have hk : ∀ {L : Addr → Prop} {m' : Nat → Addr} {e : Env} {S' : Sto} {σ : L2.St} {H' : Hp}, FRep Γ fr L m' e S' σ H' → Keep (fun b => ∃ n, (S.get n).isSome = true ∧ m n = b) H H' := fun f => by
    have := f.kp
    rw [h2] at this
    exact fun b o e n t => this b o e (fun z => n (by rw [← h1, ← h3]; exact (fr.l0 b).mp z)) t
  have hm : ∀ {L : Addr → Prop} {m' : Nat → Addr} {e : Env} {S' : Sto} {σ : L2.St} {H' : Hp}, FRep Γ fr L m' e S' σ H' → ∀ n, (S.get n).isSome = true → m' n = m n := fun f n hn => by
    rw [← h1]
    exact f.mm n (by rw [h3]; exact hn)
  have hd : ∀ {L : Addr → Prop} {m' : Nat → Addr} {e : Env} {S' : Sto} {σ : L2.St} {H' : Hp}, FRep Γ fr L m' e S' σ H' → Dom S S' := fun f => by
    rw [← h3]
    exact f.dm
  have hf : ∀ {L : Addr → Prop} {m' : Nat → Addr} {e : Env} {S' : Sto} {σ : L2.St} {H' : Hp}, FRep Γ fr L m' e S' σ H' → ∀ n, (S'.get n).isSome = true → (S.get n).isSome = true ∨ Fresh H (m' n) := fun f n hn => by
    rw [← h2, ← h3]
    exact fresh_of f n hn
  cases r with
  | nx e S' => exact fun L m' σ H' f => q .non m' H' (hm f) (hk f) f.sr.sto (hd f) (hf f) (by simp only [VRep, Rep])
  | ret v S' =>
    intro L m' e σ H' x f hx
    cases v with
    | p d => exact q x m' H' (hm f) (hk f) f.sr.sto (hd f) (hf f) hx
    | l n => exact q x m' H' (hm f) (hk f) f.sr.sto (hd f) (hf f) hx
    | f _ _ _ => exact q.elim
  | exc c d S' => exact fun L m' e σ H' cls dx f hx => q cls dx m' H' (hm f) (hk f) f.sr.sto (hd f) hx
  | bk _ _ => exact q.elim
  | ct _ _ => exact q.elim
  | stk => exact q.elim
theorem vreps_get {m : Nat → Addr} {S : Sto} {H : Hp} : ∀ {as : List Val} {vs : List V}, VReps Γ m S H as vs → ∀ (i : Nat) (v : Val), as[i]? = some v → ∃ x, vs[i]? = some x ∧ VRep Γ m S H v x
  | [], _, _, i, v, e => by simp at e
  | a :: as, vs, h, i, v, e => by
    obtain ⟨y, ys, rfl, h1, h2⟩ := h
    cases i with
    | zero =>
      cases (show some a = some v by simpa using e)
      exact ⟨y, rfl, h1⟩
    | succ i => exact vreps_get h2 i v (by simpa using e)
theorem start_rep {N : List Str} {m : Nat → Addr} {S : Sto} {H : Hp} {as : List Val} {vs : List V} {nl : Nat} (hl : as.length + nl = N.length) (hv : VReps Γ m S H as vs) (st : StoR Γ m S H) :
    SRep Γ (fun b => ∃ n, (S.get n).isSome = true ∧ m n = b) m (as.map some ++ List.replicate nl none) S (L2.start N vs) H := by
  have hlv := hv.length
  refine ⟨?_, fun i v e => ?_, st, fun n hn => ⟨n, hn, rfl⟩, sto_lists st⟩
  · unfold L2.start
    simp only [List.length_append, List.length_map, List.length_replicate]
    omega
  · have hi : i < as.length := by
      rcases Nat.lt_or_ge i as.length with h | h
      · exact h
      · rw [List.getElem?_append_right (by simpa using h), List.getElem?_replicate] at e
        split at e <;> cases e
    rw [List.getElem?_append_left (by simpa using hi), List.getElem?_map] at e
    cases ha : as[i]? with
    | none => rw [ha] at e; cases e
    | some u =>
      rw [ha] at e
      cases e
      obtain ⟨x, h1, h2⟩ := vreps_get hv i v ha
      refine ⟨x, ?_, h2⟩
      unfold L2.start
      have hi2 : i < vs.length := by omega
      rw [List.getElem?_append_left (by simpa using hi2), List.getElem?_map, h1]
      rfl
/-- a body's promise -/
theorem body_ok {G : Pg} {lv k f : Nat} {d : DT} {fd : FD} {a : Addr} {cdv : Value} {A : Around} {outer : List PySem.Env} {s : Shared} {H0 H : Hp} {vs : List V} {Q : VK} {E : XK} (mo : MOk Γ M G.toProg) (hp : G.prim f = none) (hf : G.fn f = some fd) (hc : chkD M d fd = true)
    (hall : ∀ g ∈ (M.ctx d.kd d.lam d.N d.scope).fs, FOk Γ P w base k (callF G lv) g (M.ar g)) (hlam : d.lam = true → DLam Γ P w base cdv (d.name ++ ".<locals>.")) (hr : Room (k + 2) (A.deeper (envOfC d.name d.scope s.heap.objs.size a cdv)))
    (hcl : CloK Γ G.toProg (callF G lv) k (M.ctx d.kd d.lam d.N d.scope) E (cxOf (L2N.CX P w) P w Γ.K Γ.mg base d.N d.name d.scope a cdv A outer s H0 E)) (hs : spH Γ (callF G (lv + 1)) f d.ps.length vs H Q E) :
    ∃ t, PSs (cxOf (L2N.CX P w) P w Γ.K Γ.mg base d.N d.name d.scope a cdv A outer s H0 E) d.body t ∧ t { nx := fun _ H' => Q .non H', rt := Q } (L2.start d.N vs) H := by
  unfold chkD at hc
  simp only [Bool.and_eq_true, decide_eq_true_eq] at hc
  obtain ⟨⟨⟨h1, h2⟩, h3⟩, h4⟩ := hc
  have S0 := scB_ok h1
  obtain ⟨as, S, m, hl, hv, st, q⟩ := hs
  have q : CalR Γ m S H (match G.prim f with
    | some p => p (callF G lv) as S
    | none => match G.fn f with
      | some fd => if as.length = fd.np ∧ (S.all fun p => decide (p.1 < 100)) = true then retR fd.np (ex G.toProg (callF G lv) fd.body (as.map some ++ List.replicate fd.nl none) S) else .stk
      | none => .stk) Q E := q
  rw [hp, hf] at q
  dsimp only at q
  split at q
  · rename_i hcond
    let fr : Fr := { L0 := fun b => ∃ n, (S.get n).isSome = true ∧ m n = b, m0 := m, H0 := H, S0 := S, Hb := H, lt := all_lt hcond.2, l0 := fun b => Iff.rfl }
    refine ⟨tS Γ E G.toProg (callF G lv) fr fd.body, ?_, ?_⟩
    · have harr : (M.ctx d.kd d.lam d.N d.scope).hi = true → ∀ g n, G.ar g = some n → g ∈ (M.ctx d.kd d.lam d.N d.scope).fs ∧ M.ar g = n := by
        intro z
        have e : d.kd = 2 := of_decide_eq_true z
        show ∀ g n, G.ar g = some n → g ∈ (if d.kd = 2 then M.fs else M.lo) ∧ M.ar g = n
        rw [if_pos e]
        exact mo.arr
      refine (goodS (C := M.ctx d.kd d.lam d.N d.scope) (k := k) ?_ fd.body).2 d.body fr h4
      exact { K := rfl, mg := rfl, gn := mo.gn, N := rfl, nd := S0.nd, sc := rfl, st := fun _ _ => rfl, calm := rfl, tk := L2N.takes_of rfl rfl rfl rfl, room := hr.mono (Nat.le_add_right _ _), room2 := fun _ => hr, bl := mo.bl, glb := mo.glb, arr := harr, cl := hcl, fns := hall, pass := L2.passes_of rfl, exs := mo.exs, kind := S0.kind, tr := fun z => ⟨(hlam z).tab, (hlam z).tr⟩, kin := mo.kin }
    · have sr := start_rep (N := d.N) (nl := fd.nl) (by rw [hl, ← h2]; exact h3) hv st
      refine ⟨_, m, _, S, ⟨sr, Keep.refl _ _, Dom.refl _, fun _ _ => rfl, fun b hb => .inl hb, Per.refl _⟩, calR_StR (fr := fr) rfl rfl rfl q⟩
  · exact q.elim
theorem KinC.wc {D : Addr} {bs : List Bool} (h : KinC Γ D bs) (c : Addr → Option Clo) : KinC (Γ.wc c) D bs := by
  cases h
  constructor <;> assumption
theorem PlainE.wc {cls : Value} {x : Str} (h : PlainE Γ cls x) (c : Addr → Option Clo) : PlainE (Γ.wc c) cls x := by
  obtain ⟨D, bs, CT, CM, CH, h1, h2, h3⟩ := h.ex
  exact ⟨D, bs, CT, CM, CH, h1, h2.wc c, h3⟩
theorem MOk.wc {G : Prog} (mo : MOk Γ M G) (c : Addr → Option Clo) : MOk (Γ.wc c) M G :=
  ⟨mo.gn, mo.bl, fun g hg => (let ⟨u, v, h1, h2, h3⟩ := mo.glb g hg; ⟨u, v, h1, h2, fun H => (Rep.wc _ _).mpr (h3 H)⟩), fun e he => ⟨(mo.exs e he).ex⟩, mo.arr, mo.arc, fun c' x b e => (let ⟨h1, cls, h2, h3⟩ := mo.kin c' x b e; ⟨h1, cls, h2, h3.wc c⟩)⟩
/-- a def of the module, at the next level -/
theorem fok_step {G : Pg} {lv k f : Nat} {d : DT} {fd : FD} {a : Addr} {fdat : FuncData} (mo : MOk Γ M G.toProg) (hp : G.prim f = none) (hf : G.fn f = some fd) (hc : chkD M d fd = true) (hn : d.ps.length = M.ar f)
    (hmg : Γ.mg (M.gn f) = some (.ref a)) (F : FunD Γ.K d.name d.name d.params d.body d.scope [] [] a fdat) (hb : Binds Γ.K fdat d.ps []) (hlam : d.lam = true → DLam Γ P w base fdat.code (d.name ++ ".<locals>.")) (hall : ∀ g ∈ (M.ctx d.kd d.lam d.N d.scope).fs, FOk Γ P w base k (callF G lv) g (M.ar g))
    (hcl : ∀ (W : XK) (X : Cx), X.prog = P → X.w = w → X.base = base → CloK Γ G.toProg (callF G lv) k (M.ctx d.kd d.lam d.N d.scope) W X) :
    FOk Γ P w base (k + 3) (callF G (lv + 1)) f (M.ar f) := by
  have S0 : FnScope d.N d.ps d.scope := by
    unfold chkD at hc
    simp only [Bool.and_eq_true, decide_eq_true_eq] at hc
    exact scB_ok hc.1.1.1
  refine ⟨a, fdat, d.ps, hn, by rw [mo.gn]; exact hmg, F.kp, hb, ?_⟩
  obtain ⟨oc, od, dV, kV, doc, pm, an, cdv, ct, osl, rfl, lk, hcd, _, _⟩ := F.ex
  refine L2.fn_of lk hcd S0 (fun vs H Q E h => ?_) fun A outer s H vs Q E hr hs => ?_
  · obtain ⟨as, S, m, hl, hv, _⟩ := h
    rw [← hv.length, hl, hn]
  · rw [← hn] at hs
    exact body_ok mo hp hf hc hall hlam hr (hcl _ _ rfl rfl rfl) hs
/-- what a lambda captured stands as it stood when the def was entered that it was handed to -/
theorem cells_later {X : Cx} {pins : List (Addr × Obj)} {σ : L2.St} {H : Hp} {s : Shared} {cl : List (Str × Addr)} {fr : List Str} {ws : List (Option V)} (C : NdefX.CellsAt cl fr ws X.s_0.heap X.H_0) (hx : X.ex = []) (I : Inv X pins σ H s) : NdefX.CellsAt cl fr ws s.heap H := by
  have nx : ∀ c : Addr, c ∉ X.ex := fun c z => by
    rw [hx] at z
    cases z
  have stays : ∀ y c, cl.lookup y = some c → ∀ v, X.s_0.heap.IsCell c v → s.heap.IsCell c v := by
    rintro y c e v ⟨ob, h1, h2⟩
    obtain ⟨sl, h3⟩ := I.base.any h1 (C.all y c e).1 (nx c)
    exact ⟨_, h3, h2⟩
  refine ⟨C.len, fun y c e => ?_, C.inj, fun i y e => ?_⟩
  · obtain ⟨h0, v, h1⟩ := C.all y c e
    obtain ⟨ob, h2, _⟩ := id h1
    exact ⟨I.base.free c ob h2 h0 (nx c), v, stays y c e v h1⟩
  · obtain ⟨c, h1, h2⟩ := C.has i y e
    exact ⟨c, h1, fun v ev => (let ⟨u, h3, h4⟩ := h2 v ev; ⟨u, h3, stays y c h1 _ h4⟩)⟩
/-- lambdas, at the next level -/
theorem lok_step {G : Pg} {lv k : Nat} (mo : MOk Γ M G.toProg) (hall : ∀ g ∈ M.fs, FOk Γ P w base k (callF G lv) g (M.ar g)) : LOk Γ P w base M.lc (k + 3) (callF G (lv + 1)) := by
  intro o f A outer s H us vs Q E ct hr e0 ca hco hrp hv hs
  obtain ⟨as, hl, hra, tabs, q⟩ := hs
  have q : CalR Γ (fun _ => 0) [] H ((if (as.map Val.p).length = o.np ∧ (([] : Sto).isEmpty = true) then ev G.toProg (callF G lv) o.b ((as.map Val.p).map some ++ o.ds.map fun d => some (.p d)) [] else .stk : Res Val).cl []) Q E := q
  rw [if_pos ⟨by rw [List.length_map]; exact hl, rfl⟩] at q
  obtain ⟨pm, ctv, ho⟩ := ca.ob
  have S := ct.sco
  have lv1 : vs.length = as.length := hra.length.symm
  have lu : us.length = vs.length := hv.length.symm
  have lps : us.length = o.ps.length := by rw [lu, lv1, hl, ct.np]
  have lim : s.heap.NoLimit := e0.mod.nolimit.keeps fun b o e => (e0.bs b o e).1
  have hr1 : Room (k + 2 + 1) A := hr
  refine PySem.W.kla_callFunE hr.depth ho rfl S.co S.gen rfl (NdefX.codeO_at e0.hok hco) ?_
  rw [ct.bind pm ctv us lps]
  refine wpAny_pure (wpAny_newFunctionEnv S.nocell (fun ⟨n, _⟩ hy => S.par n (List.of_mem_zip hy).1) (fun h₁ hns hsb => ⟨lim.fresh _ hsb, ?_⟩) S.kind)
  let nf : NdefX.NF := ⟨"<lambda>", o.q, o.params, [], o.sc, o.cl, o.c⟩
  show codeAny _ _ (.expr o.body (NdefX.envF nf f s.heap.objs.size)) _ _
  have kp : ∀ b ob, s.heap.get? b = some ob → h₁.get? b = some ob := fun b ob e => hsb.extBut b ob (Nat.ne_of_lt (Heap.lt_size e)) (Heap.get?_push_of_some _ e)
  have I := NdefX.inv_startN (CX := L2N.CX P w) (F := nf) (f := f) (E := E) (tk := s.toks + (o.ps.zip us).length) S hr.hd e0 (by rw [lv1, hl, ct.np]) hv ca.cells hns kp
  have xo : XOk Γ G.toProg (callF G lv) k (M.lc (o.ps ++ o.fr) o.sc) E (NdefX.ncx (L2N.CX P w) P w Γ.K Γ.mg base (o.ps ++ o.fr) nf f A outer s H E) :=
    { K := rfl, mg := rfl, gn := mo.gn, N := rfl, nd := S.nd, sc := rfl, st := fun x z => absurd z Bool.false_ne_true, calm := rfl, tk := L2N.takes_of rfl rfl rfl rfl, room := (hr1.deeper _).mono (Nat.le_add_right _ _), room2 := fun z => absurd z Bool.false_ne_true, bl := mo.bl, glb := mo.glb, arr := fun _ => mo.arr, cl := CloK.no rfl rfl, fns := hall, tr := fun z => absurd z Bool.false_ne_true, kin := mo.kin }
  refine PySem.W.kla_codeExpr (wpAny_mono (((good o.b).pe xo ct.chk).run [] _ _ H Q I ?_) (fun v s' hq => ?_) fun e s' hq => hq)
  · have lws : o.ws.length = o.ds.length := by rw [ct.wsl, ct.dsl]
    refine ⟨fun _ => False, fun _ => 0, (as.map Val.p).map some ++ o.ds.map fun d => some (.p d), [], ⟨?_, fun i v e => ?_, ⟨fun n o e => (by cases e), fun n n' e => (by cases e), tabs⟩, fun n e => (by cases e), fun b z => z.elim⟩, ?_⟩
    · show _ = (NdefX.startF (o.ps ++ o.fr) vs (o.ws.map some)).length
      unfold NdefX.startF
      simp only [List.length_append, List.length_map, List.length_replicate]
      rw [ct.dsl, ct.wsl, lv1]
      have := ct.np
      omega
    · unfold NdefX.startF
      by_cases hi : i < as.length
      · rw [List.getElem?_append_left (by simpa using hi), List.map_map, List.getElem?_map] at e
        cases ha : as[i]? with
        | none => rw [ha] at e; cases e
        | some d =>
          rw [ha] at e
          cases e
          obtain ⟨x, h1, h2⟩ := hra.get ha
          exact ⟨x, by rw [List.getElem?_append_left (by rw [List.length_map]; omega), List.getElem?_map, h1]; rfl, h2⟩
      · rw [List.getElem?_append_right (by simpa using hi), List.length_map, List.length_map, List.getElem?_map] at e
        cases ha : o.ds[i - as.length]? with
        | none => rw [ha] at e; cases e
        | some d =>
          rw [ha] at e
          cases e
          obtain ⟨x, h1, h2⟩ := hrp.get ha
          have hj := (List.getElem?_eq_some_iff.mp ha).1
          have ei : i - (vs.map some).length = i - as.length := by rw [List.length_map, lv1]
          exact ⟨x, by rw [List.getElem?_append_right (by rw [List.length_map]; omega), ei, List.getElem?_append_left (by rw [List.length_map]; omega), List.getElem?_map, h1]; rfl, h2⟩
    · generalize ev G.toProg (callF G lv) o.b ((as.map Val.p).map some ++ o.ds.map fun d => some (.p d)) [] = r at q
      have kk : ∀ {H' : Hp}, Keep (fun _ => False) H H' → Keep (fun b => ∃ n, (Sto.get [] n).isSome = true ∧ (fun _ => (0 : Addr)) n = b) H H' := fun k b o e _ t => k b o e (fun z => z) t
      have s0 : ∀ {H' : Hp} {m' : Nat → Addr}, LamX.Tabs Γ.T H' → StoR Γ m' [] H' := fun t => ⟨fun n o e => (by cases e), fun n n' e => (by cases e), t⟩
      cases r with
      | stk => exact q
      | ok v S' =>
        cases v with
        | l _ => exact q.elim
        | f _ _ _ => exact q.elim
        | p d =>
          intro H' k' d' s' x hx
          exact q x (fun _ => 0) H' (fun _ _ => rfl) (kk k') (s0 s'.sto.tabs) (Dom.refl _) (fun n z => (by cases z)) hx
      | exc c d S' =>
        intro cls dx H' k' d' s' hx
        exact q cls dx (fun _ => 0) H' (fun _ _ => rfl) (kk k') (s0 s'.sto.tabs) (Dom.refl _) hx
  · obtain ⟨w', H', J', rv, q'⟩ := hq
    exact ⟨w', H', J'.os, J'.bare, J'.base, J'.hok, rv, q'⟩
/-- a def that a lambda is handed to, at the next level -/
theorem fokC_step {G : Pg} {lv k f : Nat} {d : DT} {fd : FD} {a : Addr} {fdat : FuncData} (mo : MOk Γ M G.toProg) (hp : G.prim f = none) (hf : G.fn f = some fd) (hc : chkD M d fd = true) (hn : d.ps.length = M.ar f) (hkd : d.kd = 1)
    (hmg : Γ.mg (M.gn f) = some (.ref a)) (F : FunD Γ.K d.name d.name d.params d.body d.scope [] [] a fdat) (hb : Binds Γ.K fdat d.ps []) (hlam : d.lam = false) (hall : ∀ c, ∀ g ∈ M.lo, FOk (Γ.wc c) P w base k (callF G lv) g (M.ar g))
    (hL : LOk Γ P w base M.lc k (callF G lv)) : FOkC Γ P w base M.lc (k + 3) (callF G (lv + 1)) f (M.ar f) := by
  have S0 : FnScope d.N d.ps d.scope := by
    unfold chkD at hc
    simp only [Bool.and_eq_true, decide_eq_true_eq] at hc
    exact scB_ok hc.1.1.1
  refine ⟨a, fdat, d.ps, hn, by rw [mo.gn]; exact hmg, F.kp, hb, ?_⟩
  obtain ⟨oc, od, dV, kV, doc, pm, an, cdv, ct, osl, rfl, lk, hcd, _, _⟩ := F.ex
  intro o fa A outer s H us vs Q E cto hr e0 ca hf0 hfr hco hrp hv hs
  obtain ⟨as, S, m, hl, hva, hrest⟩ := id hs
  have lvs : vs.length = d.ps.length := by rw [← hva.length, hl, hn]
  have bt := hb s us (e0.mod.kin.keeps fun b o e => (e0.bs b o e).1) (by rw [List.append_nil, ← hv.length]; exact lvs)
  rw [List.append_nil] at bt
  refine LamX.run_ofS (N := d.N) (ps := d.ps) lk hcd S0 (k := k + 2) hr e0 bt hv lvs fun hr' => ?_
  rw [← hn] at hs
  have hfs : (M.ctx d.kd d.lam d.N d.scope).fs = M.lo := by
    show (if d.kd = 2 then M.fs else M.lo) = M.lo
    rw [if_neg (by omega)]
  refine body_ok (Γ := Γ.wc (oneC fa o)) (mo.wc _) hp hf hc (by rw [hfs]; exact hall _) (fun z => absurd (hlam.symm.trans z) Bool.false_ne_true) hr' ?_ hs
  have one : ∀ {f' : Addr} {o' : Clo}, oneC fa o f' = some o' → f' = fa ∧ o' = o := fun {f' o'} e => by
    unfold oneC at e
    split at e
    · cases e
      exact ⟨by assumption, rfl⟩
    · cases e
  obtain ⟨pm', ctv, ho⟩ := ca.ob
  refine ⟨fun _ => by rw [hfs]; exact mo.arc, fun _ f' o' e pins σ H' s' I => ?_, fun _ f' o' e pins σ H' s' I h1 h2 us' vs' Q' hv' hs' => ?_, fun g hg => ?_⟩
  · obtain ⟨rfl, rfl⟩ := one e
    exact ⟨_, _, _, _, I.base.keep f' _ ho hf0 hfr (fun z => nomatch (show f' ∈ ([] : List Addr) from z))⟩
  · obtain ⟨rfl, rfl⟩ := one e
    have ho' := I.base.keep f' _ ho hf0 hfr (fun z => nomatch (show f' ∈ ([] : List Addr) from z))
    have hs2 : spC Γ (callF G lv) o' vs' H' Q' E := by
      obtain ⟨as', h3, h4, h5, h6⟩ := hs'
      refine ⟨as', h3, (Reps.wc _ _).mp h4, h5, ?_⟩
      cases hr2 : callF G lv (.f o'.np o'.b o'.ds) (as'.map .p) [] with
      | stk => rw [hr2] at h6; exact h6
      | ok v S' =>
        rw [hr2] at h6
        cases v with
        | l _ => exact h6.elim
        | f _ _ _ => exact h6.elim
        | p dd => exact fun x m' H'' a1 a2 a3 a4 a5 a6 => h6 x m' H'' a1 a2 ⟨fun n o e => (by cases e), fun n n' e => (by cases e), a3.tabs⟩ a4 a5 ((Rep.wc _ _).mpr a6)
      | exc c dd S' =>
        rw [hr2] at h6
        refine fun cls dx m' H'' a1 a2 a3 a4 a5 => h6 cls dx m' H'' a1 a2 ⟨fun n o e => (by cases e), fun n n' e => (by cases e), a3.tabs⟩ a4 ⟨a5.1, ?_⟩
        have a6 := a5.2
        cases dd with
        | none => exact a6
        | some p =>
          obtain ⟨b1, b2, b3, b4, b5, b6⟩ := a6
          exact ⟨b1, b2, b3, b4, b5, (Rep.wc _ _).mpr b6⟩
    have run := hL o' f' (A.deeper (envOfC d.name d.scope s.heap.objs.size a cdv)) (envOfC d.name d.scope s.heap.objs.size a cdv :: outer) s' H' us' vs' Q' E cto (hr'.mono (Nat.le_add_right _ _)) I.env0 ⟨⟨pm', ctv, ho'⟩, cells_later ca.cells rfl I⟩ h1 ((Reps.wc _ _).mp h2) hv' hs2
    refine wpAny_call (codeAny_mono run fun r t4 hr3 => ?_)
    cases r with
    | error e => exact L2N.passes_call (L2N.takes_of (E := E) rfl rfl rfl rfl) (fun cls d σ H w => w) pins σ H' s' e t4 I hr3
    | ok fl =>
      cases fl with
      | ret u => exact I.after hr3
      | next => exact False.elim hr3
      | brk => exact False.elim hr3
      | cont => exact False.elim hr3
  · have e : (M.ctx d.kd d.lam d.N d.scope).cs = [] := by
      show (if d.kd = 2 then M.cf else []) = []
      rw [if_neg (by omega)]
    rw [e] at hg
    cases hg
end
end Hb

/-! All defs, all levels. -/
namespace Hb
open PySem PySem.Spec PyProof.Rows L2

/-- a def as the head tells it, and its term -/
structure DOk (Γ : Gm) (M : Md) (P : Program) (w : World) (base : Heap) (G : Pg) (f : Nat) : Prop where
  ex : ∃ (d : DT) (fd : FD) (a : Addr) (fdat : FuncData), G.prim f = none ∧ G.fn f = some fd ∧ chkD M d fd = true ∧ d.ps.length = M.ar f ∧ Γ.mg (M.gn f) = some (.ref a) ∧ FunD Γ.K d.name d.name d.params d.body d.scope [] [] a fdat ∧ Binds Γ.K fdat d.ps [] ∧ (d.lam = true → DLam Γ P w base fdat.code (d.name ++ ".<locals>.")) ∧
    (f ∈ M.lo → d.kd = 0 ∧ d.lam = false) ∧ (f ∈ M.cf → d.kd = 1 ∧ d.lam = false)
section
variable {Γ : Gm} {M : Md} {P : Program} {w : World} {base : Heap} {G : Pg}
theorem fok_zero {f : Nat} (mo : MOk Γ M G.toProg) (h : DOk Γ M P w base G f) (c : Addr → Option Clo) : FOk (Γ.wc c) P w base 0 (callF G 0) f (M.ar f) := by
  obtain ⟨d, fd, a, fdat, _, _, hc, hn, hmg, F, hb, hlam, _⟩ := h.ex
  have no : ∀ {vs : List V} {H : Hp} {Q : VK} {E : XK}, spH (Γ.wc c) (callF G 0) f (M.ar f) vs H Q E → False := fun {vs H Q E} ⟨as, S, m, _, _, _, q⟩ => q
  exact ⟨a, fdat, d.ps, hn, by show Γ.mg (Γ.gnm f) = _; rw [mo.gn]; exact hmg, F.kp, hb, ⟨fun vs H Q E h => (no h).elim, fun A outer s H args us vs Q E _ _ _ _ h => (no h).elim⟩⟩
theorem fokC_zero {f : Nat} (mo : MOk Γ M G.toProg) (h : DOk Γ M P w base G f) : FOkC Γ P w base M.lc 0 (callF G 0) f (M.ar f) := by
  obtain ⟨d, fd, a, fdat, _, _, hc, hn, hmg, F, hb, hlam, _⟩ := h.ex
  refine ⟨a, fdat, d.ps, hn, by rw [mo.gn]; exact hmg, F.kp, hb, fun o fa A outer s H us vs Q E _ _ _ _ _ _ _ _ _ h => ?_⟩
  obtain ⟨as, S, m, _, _, _, q⟩ := h
  exact False.elim q
theorem lok_zero : LOk Γ P w base M.lc 0 (callF G 0) := fun o f A outer s H us vs Q E _ _ _ _ _ _ _ h => by
  obtain ⟨as, _, _, _, q⟩ := h
  exact False.elim q
/-- what a body may lean on -/
theorem lev_ctx (mo : MOk Γ M G.toProg) (hno : ∀ a, Γ.cl a = none) {lv : Nat} (hA : ∀ c, ∀ f ∈ M.lo, FOk (Γ.wc c) P w base (3 * lv) (callF G lv) f (M.ar f)) (hB : ∀ f ∈ M.fs, FOk Γ P w base (3 * lv) (callF G lv) f (M.ar f)) (hC : ∀ f ∈ M.cf, FOkC Γ P w base M.lc (3 * lv) (callF G lv) f (M.ar f)) (d : DT) :
    (∀ g ∈ (M.ctx d.kd d.lam d.N d.scope).fs, FOk Γ P w base (3 * lv) (callF G lv) g (M.ar g)) ∧ ∀ (W : XK) (X : Cx), X.prog = P → X.w = w → X.base = base → CloK Γ G.toProg (callF G lv) (3 * lv) (M.ctx d.kd d.lam d.N d.scope) W X := by
  refine ⟨?_, fun W X x1 x2 x3 => ?_⟩
  · show ∀ g ∈ (if d.kd = 2 then M.fs else M.lo), _
    by_cases k2 : d.kd = 2
    · rw [if_pos k2]; exact hB
    · rw [if_neg k2]; exact hA Γ.cl
  · refine ⟨fun z g n e => ?_, fun z f' o e => ?_, fun z f' o e => ?_, ?_⟩
    · have k1 : d.kd = 1 := of_decide_eq_true z
      show g ∈ (if d.kd = 2 then M.fs else M.lo) ∧ M.ar g = n
      rw [if_neg (by omega)]
      exact mo.arc g n e
    · rw [hno] at e; cases e
    · rw [hno] at e; cases e
    · subst x1 x2 x3
      by_cases k2 : d.kd = 2
      · rw [k2]
        exact hC
      · intro g hg
        have hg : g ∈ (if d.kd = 2 then M.cf else []) := hg
        rw [if_neg k2] at hg
        cases hg
theorem lev_all (mo : MOk Γ M G.toProg) (hd : ∀ f ∈ M.fs, DOk Γ M P w base G f) (hlo : ∀ f ∈ M.lo, f ∈ M.fs) (hcf : ∀ f ∈ M.cf, f ∈ M.fs) (hno : ∀ a, Γ.cl a = none) : ∀ lv,
    (∀ c, ∀ f ∈ M.lo, FOk (Γ.wc c) P w base (3 * lv) (callF G lv) f (M.ar f)) ∧ (∀ f ∈ M.fs, FOk Γ P w base (3 * lv) (callF G lv) f (M.ar f)) ∧ (∀ f ∈ M.cf, FOkC Γ P w base M.lc (3 * lv) (callF G lv) f (M.ar f)) ∧ LOk Γ P w base M.lc (3 * lv) (callF G lv)
  | 0 => ⟨fun c f hf => fok_zero mo (hd f (hlo f hf)) c, fun f hf => fok_zero mo (hd f hf) Γ.cl, fun f hf => fokC_zero mo (hd f (hcf f hf)), lok_zero⟩
  | lv + 1 => by
    obtain ⟨hA, hB, hC, hL⟩ := lev_all mo hd hlo hcf hno lv
    refine ⟨fun c f hf => ?_, fun f hf => ?_, fun f hf => ?_, lok_step mo hB⟩
    · obtain ⟨d, fd, a, fdat, hp, hfn, hc, hn, hmg, F, hb, hlam, h0, _⟩ := (hd f (hlo f hf)).ex
      obtain ⟨k0, l0⟩ := h0 hf
      have e1 : (M.ctx d.kd d.lam d.N d.scope).fs = M.lo := by
        show (if d.kd = 2 then M.fs else M.lo) = M.lo
        rw [if_neg (by omega)]
      have e2 : (M.ctx d.kd d.lam d.N d.scope).cs = [] := by
        show (if d.kd = 2 then M.cf else []) = []
        rw [if_neg (by omega)]
      have e3 : (M.ctx d.kd d.lam d.N d.scope).clo = false := decide_eq_false (by omega)
      exact fok_step (mo.wc c) hp hfn hc hn hmg F hb (fun z => absurd (l0.symm.trans z) Bool.false_ne_true) (by rw [e1]; exact hA c) fun W X _ _ _ => CloK.no e3 e2
    · obtain ⟨d, fd, a, fdat, hp, hfn, hc, hn, hmg, F, hb, hlam, _, _⟩ := (hd f hf).ex
      obtain ⟨q1, q2⟩ := lev_ctx mo hno hA hB hC d
      exact fok_step mo hp hfn hc hn hmg F hb hlam q1 q2
    · obtain ⟨d, fd, a, fdat, hp, hfn, hc, hn, hmg, F, hb, hlam, _, h1⟩ := (hd f (hcf f hf)).ex
      obtain ⟨k1, l1⟩ := h1 hf
      exact fokC_step mo hp hfn hc hn k1 hmg F hb l1 hA hL
theorem fok_all (mo : MOk Γ M G.toProg) (hd : ∀ f ∈ M.fs, DOk Γ M P w base G f) (hlo : ∀ f ∈ M.lo, f ∈ M.fs) (hcf : ∀ f ∈ M.cf, f ∈ M.fs) (hno : ∀ a, Γ.cl a = none) (lv : Nat) : ∀ f ∈ M.fs, FOk Γ P w base (3 * lv) (callF G lv) f (M.ar f) := (lev_all mo hd hlo hcf hno lv).2.1
end
end Hb

/-! The end: what the head tells, the law's promise. -/
namespace Hb
open PySem PySem.Spec PyProof.Rows L2 HotX L2H

def kinN : List Str := [("e" : Str), ("sorts" : Str), ("labels" : Str), ("label" : Str), ("good" : Str)]
theorem list14 {bs : List Bool} (h : bs.length = 14) : ∃ b0 b1 b2 b3 b4 b5 b6 b7 b8 b9 b10 b11 b12 b13, bs = [b0, b1, b2, b3, b4, b5, b6, b7, b8, b9, b10, b11, b12, b13] := by
  match bs, h with
  | [b0, b1, b2, b3, b4, b5, b6, b7, b8, b9, b10, b11, b12, b13], _ => exact ⟨_, _, _, _, _, _, _, _, _, _, _, _, _, _, rfl⟩
def bsOf (D : Str) : List Bool := (kinNm.map fun C => decide (D = C)) ++ [true]
def kinChk1 (K : PySem.W.Frag) (D : Str) : Bool :=
  He.eqO (PySem.W.findIn K (.ref (He.ga K D)) "__getattribute__") (some (some (.builtin "BaseException.__getattribute__"))) &&
  (He.eqO (PySem.W.findIn K (.ref (He.ga K D)) "__getattr__") (some none) &&
  (decide (PySem.W.subIn K (.ref (He.ga K D)) (.type "BaseException") = some true) &&
  (PySem.W.hasDictIn K (He.ga K D) &&
  (He.eqO (PySem.W.findIn K (.ref (He.ga K D)) "__class__") (some (some (.builtin "object.__class__"))) &&
  (He.eqO (PySem.W.specialIn K (.builtin "object.__class__") "__get__") (some (some (.builtin "getset_descriptor.__get__"))) &&
  (decide (PySem.W.takesIn K (.builtin "object.__class__") = some true) &&
  (decide (PySem.W.mroIn K (He.ga K D) (.type "object") = some true) &&
  ((kinNm.all fun C => decide (PySem.W.kitOne K (.ref (He.ga K D)) (.ref (He.ga K C)) = some (decide (D = C)))) &&
  (decide (PySem.W.kitOne K (.ref (He.ga K D)) (.type "ValueError") = some true) &&
  (decide (PySem.W.exmOne K (.ref (He.ga K D)) (.ref (He.ga K "InvalidText")) = some false) &&
  (decide (PySem.W.exmOne K (.ref (He.ga K D)) (.ref (He.ga K "TooMany")) = some false) &&
  decide (PySem.W.exmOne K (.ref (He.ga K D)) (.ref (He.ga K "HabitError")) = some true))))))))))))
theorem plainE_of {Γ : Gm} {D w : Str} (hk : kinChk1 Γ.K D = true) (hm : ∀ C ∈ ("HabitError" : Str) :: kinNm, Γ.mg C = some (.ref (He.ga Γ.K C))) (hb : kinB (bsOf D) kinLab " " = true) (hw : kinS (bsOf D) kinLab " " = w) : PlainE Γ (.ref (He.ga Γ.K D)) w := by
  unfold kinChk1 at hk
  simp only [Bool.and_eq_true, decide_eq_true_eq] at hk
  obtain ⟨h1, h2, h3, h4, h5, h6, h7, h8, h9, h10, h11, h12, h13⟩ := hk
  refine ⟨_, bsOf D, _, _, _, rfl, ⟨⟨He.eqO_ok h1, He.eqO_ok h2, h3, h4, He.eqO_ok h5, He.eqO_ok h6, h7, h8⟩, fun i x hx => ⟨_, hm x (List.mem_cons_of_mem _ (List.mem_of_getElem? hx)), ?_⟩, ?_⟩, hb, hw, hm _ (by decide), hm _ (by decide), hm _ (by decide), h11, h12, h13⟩
  · have := (List.all_eq_true.mp h9) x (List.mem_of_getElem? hx)
    rw [decide_eq_true_eq] at this
    rw [this]
    have hi : i < kinNm.length := (List.getElem?_eq_some_iff.mp hx).1
    have e : (bsOf D).getD i false = decide (D = x) := by
      unfold bsOf
      rw [List.getD_eq_getElem?_getD, List.getElem?_append_left (by rw [List.length_map]; exact hi), List.getElem?_map, hx]
      rfl
    rw [e]
  · rw [h10]
    congr 1

def DT.toD (d : DT) : He.DefD := ⟨(d.name, none), d.name, d.name, d.params, d.body, d.scope, [], []⟩
/-- one law's data -/
structure LawDat where
  nm : List Str
  nd : Nat
  nc : Nat
  dts : List DT
  fs : List Nat
  es : List Nat
  rs : List Nat
  cns : List (Nat × Int)
  tf : List Nat
  lo : List Nat
  cf : List Nat
  G : Pg
namespace LawDat
variable (D : LawDat)
def gn (i : Nat) : Str := D.nm.getD i ""
def fn : List He.DefD := D.dts.map DT.toD
def fa : List He.Fa := ((List.range (D.nd + D.nc)).map fun i => .glo (D.gn i)) ++ ((D.es.map fun i => .exc (D.gn i)) ++ ((D.cns.map fun p => .int (D.gn p.1) p.2) ++ (("ValueError" : Str) :: bnames).map .free))
def tfs : List He.Defn := D.tf.map fun i => (D.gn i, none)
def ex (K : PySem.W.Frag) : Bool := (D.rs.all fun c => kinChk1 K (D.gn c)) && decide ((D.tfs.map fun p => (He.cT K p).2).Nodup)
def md : Md := ⟨D.gn, D.fs, fun i => match D.dts[i]? with | some d => d.ps.length | none => 0, D.cns.map (·.1) ++ List.range D.nd, D.es, D.lo, D.cf⟩
def T (K : PySem.W.Frag) : List (Addr × Str) := D.tfs.map fun p => ((He.cT K p).2, p.1 ++ ".<locals>." ++ "<lambda>")
end LawDat
def BindsH (d : DT) : Prop := ∀ (kV doc pm : Value) (an : Option Addr) (cdv ct : Value) (us : List Value), us.length = d.ps.length → bindArgs (PySem.W.fnOf d.name d.name d.params d.body d.scope .none kV doc pm an cdv ct) ⟨us, []⟩ = pure (d.ps.zip us)
/-- a def and its term, in a law's data -/
structure DefOk (D : LawDat) (f : Nat) : Prop where
  ex : ∃ d fd, D.dts[f]? = some d ∧ D.G.prim f = none ∧ D.G.fn f = some fd ∧ chkD D.md d fd = true ∧ D.gn f = d.name ∧ f < D.nd ∧ (d.lam = true → f ∈ D.tf) ∧ BindsH d ∧ (f ∈ D.lo → d.kd = 0 ∧ d.lam = false) ∧ (f ∈ D.cf → d.kd = 1 ∧ d.lam = false)
/-- the try and the words -/
structure TryD (D : LawDat) : Prop where
  ex : ∃ dk dt, dk ∈ D.dts ∧ dt ∈ D.dts ∧ dk.name = ("_law_kin" : Str) ∧ dt.name = ("_law_try" : Str) ∧ dk.ps = [("e" : Str)] ∧ dt.ps = [("call_so" : Str)] ∧ BindsH dk ∧ BindsH dt ∧ scB kinN [("e" : Str)] dk.scope = true ∧ scB tryN [("call_so" : Str)] dt.scope = true ∧ visB dt.scope ("call_so" : Str) = true ∧
    (∀ (Γ : Gm) (Da : Addr) (bs : List Bool) (p : Addr × Obj) (X : Cx), KinX Γ Da bs p X → bs.length = 14 → X.N = kinN → X.env.scope = dk.scope → PSs X dk.body (tKin p bs kinLab " ")) ∧
    ∀ (Γ : Gm) (X : Cx) (g : Addr) (cdg : Value) (q : Str), X.K = Γ.K → X.mg = Γ.mg → KinF Γ X.prog X.w X.base → Room 2 X.A → (∃ C, Γ.mg ("InvalidText" : Str) = some (.ref C)) → (∃ C, Γ.mg ("TooMany" : Str) = some (.ref C)) → (∃ C, Γ.mg ("HabitError" : Str) = some (.ref C)) →
      GivesN X tryN ("_law_try" : Str) dt.scope g cdg dt.body ("call_so" : Str) q (TTry Γ)
  nmK : ∃ i, i < D.nd + D.nc ∧ D.gn i = ("_law_kin" : Str)
  nmT : ∃ i, i < D.nd + D.nc ∧ D.gn i = ("_law_try" : Str)
  cls : ∀ C ∈ ("HabitError" : Str) :: kinNm, ∃ i, i < D.nd + D.nc ∧ D.gn i = C
structure LawOk (D : LawDat) : Prop where
  defs : ∀ f ∈ D.fs, DefOk D f
  tryd : D.tf ≠ [] → TryD D
  glb : ∀ p ∈ D.cns, D.G.glb p.1 = .int p.2
  glf : ∀ i, i < D.nd → D.G.glb i = .gl i
  arr : ∀ g n, D.G.ar g = some n → g ∈ D.fs ∧ D.md.ar g = n
  arc : ∀ g n, D.G.arc g = some n → g ∈ D.lo ∧ D.md.ar g = n
  los : ∀ f ∈ D.lo, f ∈ D.fs
  cfs : ∀ f ∈ D.cf, f ∈ D.fs
  kin : ∀ c w b, D.G.kin c = some (w, b) → b = false ∧ D.tf ≠ [] ∧ c ∈ D.rs ∧ c < D.nd + D.nc ∧ kinB (bsOf (D.gn c)) kinLab " " = true ∧ kinS (bsOf (D.gn c)) kinLab " " = w
  esc : ∀ c ∈ D.es, c < D.nd + D.nc
section
variable {D : LawDat} {P : Program} {w : World} {K : PySem.W.Frag} {mg : Str → Option Value} {h base : Heap}
abbrev LawDat.Γ (D : LawDat) (K : PySem.W.Frag) (mg : Str → Option Value) : Gm := ⟨K, mg, D.gn, D.T K, fun _ => none⟩
theorem says_glo (c : He.SaysX D.fa D.fn [] D.tfs D.ex w h K) (X : K.In h) (G : h.Ns mainGlobals mg) {i : Nat} (hi : i < D.nd + D.nc) : mg (D.gn i) = some (.ref (He.ga K (D.gn i))) :=
  He.glo_ok X G (c.t.d.facts (List.mem_append_left _ (List.mem_map.mpr ⟨i, List.mem_range.mpr hi, rfl⟩)))
theorem says_free (c : He.SaysX D.fa D.fn [] D.tfs D.ex w h K) (X : K.In h) (G : h.Ns mainGlobals mg) {x : Str} (hx : x ∈ ("ValueError" : Str) :: bnames) : mg x = none :=
  He.free_ok X G (c.t.d.facts (List.mem_append_right _ (List.mem_append_right _ (List.mem_append_right _ (List.mem_map.mpr ⟨x, hx, rfl⟩)))))
theorem says_def (c : He.SaysX D.fa D.fn [] D.tfs D.ex w h K) {d : DT} (hd : d ∈ D.dts) : ∃ fd, FunD K d.name d.name d.params d.body d.scope [] [] (He.fAd K (d.name, none)) fd :=
  c.t.d.defs (d := d.toD) (List.mem_map.mpr ⟨d, hd, rfl⟩)
theorem fAd_ga {x : Str} : He.fAd K (x, none) = He.ga K x := rfl
theorem kinF_of (t : TryD D) (c : He.SaysX D.fa D.fn [] D.tfs D.ex w h K) (X : K.In h) (G : h.Ns mainGlobals mg) : KinF (D.Γ K mg) P w base := by
  obtain ⟨dk, dt, hk, ht, nk, nt, pk, pt, bk, bt, sk, st, vt, bodyK, bodyT⟩ := t.ex
  obtain ⟨fd, F⟩ := says_def c hk
  obtain ⟨i, hi, e⟩ := t.nmK
  have hm := says_glo c X G hi
  rw [e] at hm
  rw [nk] at F
  have B : L2.Binds K fd [("e" : Str)] [] := by
    refine F.bindsN fun kV doc pm an cdv ct us hl => ?_
    have := bk kV doc pm an cdv ct us (by rw [pk]; exact hl)
    rw [nk, pk] at this
    exact this
  have S := scB_ok sk
  refine ⟨⟨_, fd, hm, F.kp, B, fun Da bs p kc kb hz hf => ?_⟩, fun x hx => says_free c X G (List.mem_cons_of_mem _ hx)⟩
  have hl : bs.length = 14 := by
    unfold kinB at kb
    simp only [Bool.and_eq_true, decide_eq_true_eq] at kb
    exact kb.1.1.1.1
  refine fnP_of (N := kinN) F S fun cdv A outer s H vs Q E hot hr hs => ?_
  obtain ⟨rfl, hq⟩ := hs
  refine ⟨_, bodyK (D.Γ K mg) Da bs p _ ⟨rfl, rfl, kc, ?_, List.mem_cons_self, hz, hf, fun x hx => says_free c X G (List.mem_cons_of_mem _ hx), says_free c X G List.mem_cons_self, S.nd⟩ hl rfl rfl, kin_read rfl kb hq⟩
  exact hot
theorem tryF_of (t : TryD D) (c : He.SaysX D.fa D.fn [] D.tfs D.ex w h K) (X : K.In h) (G : h.Ns mainGlobals mg) : TryF (D.Γ K mg) P w base := by
  obtain ⟨dk, dt, hk, ht, nk, nt, pk, pt, bk, bt, sk, st, vt, bodyK, bodyT⟩ := t.ex
  obtain ⟨fd, F⟩ := says_def c ht
  obtain ⟨i, hi, e⟩ := t.nmT
  have hm := says_glo c X G hi
  rw [e] at hm
  rw [nt] at F
  have B : L2.Binds K fd [("call_so" : Str)] [] := by
    refine F.bindsN fun kV doc pm an cdv ct us hl => ?_
    have := bt kV doc pm an cdv ct us (by rw [pt]; exact hl)
    rw [nt, pt] at this
    exact this
  have cl : ∀ C ∈ ("HabitError" : Str) :: kinNm, ∃ a, mg C = some (.ref a) := fun C hC => by
    obtain ⟨i, hi, e⟩ := t.cls C hC
    have := says_glo c X G hi
    rw [e] at this
    exact ⟨_, this⟩
  have kp := F.kp
  obtain ⟨oc, od, dV, kV, doc, pm, an, cdv, ct, osl, rfl, lk, hcd, _, _⟩ := F.ex
  refine ⟨_, _, _, _, _, _, _, _, _, _, _, _, _, _, hm, kp, lk, hcd, B, scB_ok st, visB_ok vt, fun Y q h1 h2 h3 h4 h5 h6 => ?_⟩
  subst h3 h4 h5
  exact bodyT (D.Γ K mg) Y _ _ q h1 h2 (kinF_of t c X G) h6 (cl _ (by decide)) (cl _ (by decide)) (cl _ (by decide))
theorem mok_of (ok : LawOk D) (c : He.SaysX D.fa D.fn [] D.tfs D.ex w h K) (X : K.In h) (G : h.Ns mainGlobals mg) : MOk (D.Γ K mg) D.md D.G.toProg := by
  refine ⟨rfl, fun x hx => says_free c X G (List.mem_cons_of_mem _ hx), fun g hg => ?_, fun e he => ?_, ok.arr, ok.arc, fun e w b hk => ?_⟩
  · rcases List.mem_append.mp hg with hg | hg
    · obtain ⟨p, hp, rfl⟩ := List.mem_map.mp hg
      obtain ⟨t, ht⟩ := He.int_ok X G (c.t.d.facts (f := .int (D.gn p.1) p.2) (List.mem_append_right _ (List.mem_append_right _ (List.mem_append_left _ (List.mem_map.mpr ⟨p, hp, rfl⟩)))))
      refine ⟨_, .int p.2, ht, ⟨t, rfl⟩, fun H => ?_⟩
      rw [ok.glb p hp]
      simp only [Rep]
    · have hi := List.mem_range.mp hg
      have hm := says_glo c X G (i := g) (Nat.lt_of_lt_of_le hi (Nat.le_add_right _ _))
      refine ⟨_, .ref (He.ga K (D.gn g)), hm, rfl, fun H => ?_⟩
      rw [ok.glf g hi]
      simp only [Rep]
      exact ⟨_, hm, rfl⟩
  · obtain ⟨h1, h2, h3, h4⟩ := He.exc_ok (c.t.d.facts (f := .exc (D.gn e)) (List.mem_append_right _ (List.mem_append_left _ (List.mem_map.mpr ⟨e, he, rfl⟩))))
    exact ⟨_, _, _, _, _, PySem.F.excBase_ValueError, h1, says_glo c X G (ok.esc e he), h2, h3, h4⟩
  · obtain ⟨h1, h2, h3, h4, h5, h6⟩ := ok.kin e w b hk
    refine ⟨h1, _, says_glo c X G h4, ?_⟩
    have hm := c.more
    unfold LawDat.ex at hm
    simp only [Bool.and_eq_true, List.all_eq_true] at hm
    refine plainE_of (Γ := D.Γ K mg) (hm.1 e h3) (fun C hC => ?_) h5 h6
    obtain ⟨i, hi, e⟩ := (ok.tryd h2).cls C hC
    have := says_glo c X G hi
    rw [e] at this
    exact this
theorem dlam_of (ok : LawOk D) (c : He.SaysX D.fa D.fn [] D.tfs D.ex w h K) (X : K.In h) (G : h.Ns mainGlobals mg) (TB : ∀ p ∈ D.tfs.map (He.cT K), LamX.TabB base mg p.1 p.2) {f : Nat} {d : DT} {fdat : FuncData} {a : Addr} (h5 : D.gn f = d.name) (hi : f ∈ D.tf)
    (F : FunD K d.name d.name d.params d.body d.scope [] [] a fdat) (ea : a = He.fAd K (d.name, none)) : DLam (D.Γ K mg) P w base fdat.code (d.name ++ ".<locals>.") := by
  subst ea
  refine ⟨?_, tryF_of (ok.tryd (List.ne_nil_of_mem hi)) c X G⟩
  have hp : ((D.gn f, none) : He.Defn) ∈ D.tfs := List.mem_map.mpr ⟨f, hi, rfl⟩
  obtain ⟨oc, od, dV, kV, doc, pm, an, cdv, ct, osl, rfl, lk, hcd, _, _⟩ := F.ex
  obtain ⟨cc, rfl⟩ := He.codeIn_ref hcd
  have ec : (He.cT K (d.name, none)).1 = cc := He.codeOf_eq lk rfl
  rw [h5] at hp
  have tb := TB _ (List.mem_map.mpr ⟨_, hp, rfl⟩)
  rw [ec] at tb
  refine ⟨cc, _, tb, rfl, List.mem_map.mpr ⟨_, hp, rfl⟩, fun q hq e => ?_⟩
  obtain ⟨q', hq', rfl⟩ := List.mem_map.mp hq
  have e : (He.cT K q').2 = (He.cT K (d.name, none)).2 := e
  have hm := c.more
  unfold LawDat.ex at hm
  simp only [Bool.and_eq_true, decide_eq_true_eq] at hm
  have : q' = (d.name, none) := by
    have nd := hm.2
    have inj : ∀ (l : List He.Defn), (l.map fun p => (He.cT K p).2).Nodup → ∀ a ∈ l, ∀ b ∈ l, (He.cT K a).2 = (He.cT K b).2 → a = b := by
      intro l
      induction l with
      | nil => intro _ a ha; cases ha
      | cons x l ih =>
        intro hn a ha b hb e
        rw [List.map_cons, List.nodup_cons] at hn
        rcases List.mem_cons.mp ha with z1 | ha2
        · rcases List.mem_cons.mp hb with z2 | hb2
          · rw [z1, z2]
          · rw [z1] at e
            exact (hn.1 (List.mem_map.mpr ⟨b, hb2, e.symm⟩)).elim
        · rcases List.mem_cons.mp hb with z2 | hb2
          · rw [z2] at e
            exact (hn.1 (List.mem_map.mpr ⟨a, ha2, e⟩)).elim
          · exact ih hn.2 a ha2 b hb2 e
    exact inj _ nd _ hq' _ hp e
  rw [this]
theorem dok_of (ok : LawOk D) (c : He.SaysX D.fa D.fn [] D.tfs D.ex w h K) (X : K.In h) (G : h.Ns mainGlobals mg) (TB : ∀ p ∈ D.tfs.map (He.cT K), LamX.TabB base mg p.1 p.2) {f : Nat} (hf : f ∈ D.fs) : DOk (D.Γ K mg) D.md P w base D.G f := by
  obtain ⟨d, fd, h1, h2, h3, h4, h5, h6, h7, h8, h9, h10⟩ := (ok.defs f hf).ex
  obtain ⟨fdat, F⟩ := says_def c (List.mem_of_getElem? h1)
  refine ⟨d, fd, _, fdat, h2, h3, h4, ?_, ?_, F, F.bindsN h8, fun hl => ?_, h9, h10⟩
  · show d.ps.length = (match D.dts[f]? with | some d => d.ps.length | none => 0)
    rw [h1]
  · show mg (D.gn f) = _
    rw [says_glo c X G (Nat.lt_of_lt_of_le h6 (Nat.le_add_right _ _)), h5]
    rfl
  · exact dlam_of ok c X G TB h5 (h7 hl) F rfl
/-- the law's own promise -/
def spLaw (Γ : Gm) (G : Pg) (lv f : Nat) : Sp := fun vs H Q _ => ∃ (a : Addr) (ns : List Int) (S : Sto), vs = [.ref a] ∧ SqL Γ.K H a (ns.map V.int) ∧ LamX.Tabs Γ.T H ∧ callF G (lv + 1) (.p (.gl f)) [.p (.lst (ns.map Hb.P.int))] [] = .ok (.p (.bl true)) S ∧ ∀ H', Q (.bl true) H'
theorem reps_ints' {Γ : Gm} {H : Hp} : ∀ ns : List Int, Reps Γ H (ns.map Hb.P.int) (ns.map V.int)
  | [] => reps_nil.mpr rfl
  | n :: ns => reps_cons.mpr ⟨_, _, rfl, by simp only [Rep], reps_ints' ns⟩
theorem law_spH {Γ : Gm} {G : Pg} {lv f : Nat} {H : Hp} {a : Addr} {ns : List Int} {S : Sto} {Q : VK} {E : XK} (hq : SqF Γ.K H a (ns.map V.int)) (t : LamX.Tabs Γ.T H) (e : callF G (lv + 1) (.p (.gl f)) [.p (.lst (ns.map Hb.P.int))] [] = .ok (.p (.bl true)) S) (q : ∀ H', Q (.bl true) H') : spH Γ (callF G (lv + 1)) f 1 [.ref a] H Q E := by
  refine ⟨[.p (.lst (ns.map Hb.P.int))], [], fun _ => 0, rfl, ⟨_, _, rfl, ?_, rfl⟩, ⟨fun n o z => (by cases z), fun n n' z => (by cases z), t⟩, ?_⟩
  · show Rep Γ H (.lst (ns.map Hb.P.int)) (.ref a)
    simp only [Rep]
    exact ⟨a, _, rfl, hq, reps_ints' ns⟩
  · rw [e]
    intro x m' H' _ _ _ _ _ hx
    have hx : Rep Γ H' (.bl true) x := hx
    simp only [Rep] at hx
    subst hx
    exact q H'
theorem law_fn {Γ : Gm} {M : Md} {G : Pg} {lv f : Nat} {d : DT} {fd : FD} {a : Addr} {fdat : FuncData} (mo : MOk Γ M G.toProg) (hd : ∀ g ∈ M.fs, DOk Γ M P w base G g) (hlo : ∀ f ∈ M.lo, f ∈ M.fs) (hcf : ∀ f ∈ M.cf, f ∈ M.fs) (hno : ∀ a, Γ.cl a = none) (hp : G.prim f = none) (hfn : G.fn f = some fd) (hc : chkD M d fd = true) (hn1 : d.ps.length = 1)
    (F : FunD Γ.K d.name d.name d.params d.body d.scope [] [] a fdat) (hlam : d.lam = true → DLam Γ P w base fdat.code (d.name ++ ".<locals>.")) : FnOk P w Γ.K Γ.mg base (L2N.CX P w) (3 * lv + 3) a fdat d.ps (spLaw Γ G lv f) := by
  have S0 : FnScope d.N d.ps d.scope := by
    unfold chkD at hc
    simp only [Bool.and_eq_true, decide_eq_true_eq] at hc
    exact scB_ok hc.1.1.1
  obtain ⟨oc, od, dV, kV, doc, pm, an, cdv, ct, osl, rfl, lk, hcd, _, _⟩ := F.ex
  refine L2.fn_of lk hcd S0 (fun vs H Q E h => ?_) fun A outer s H vs Q E hr hs => ?_
  · obtain ⟨a, ns, S, rfl, _⟩ := h
    exact hn1.symm
  · obtain ⟨b, ns, S, rfl, hq, ht, he, q⟩ := hs
    obtain ⟨la, lb, lc, _⟩ := lev_all mo hd hlo hcf hno lv
    have go : ∀ H1, SqF Γ.K H1 b (ns.map V.int) → LamX.Tabs Γ.T H1 → ∃ t, PSs (cxOf (L2N.CX P w) P w Γ.K Γ.mg base d.N d.name d.scope a cdv A outer s H E) d.body t ∧ t { nx := fun _ H' => Q .non H', rt := Q } (L2.start d.N [.ref b]) H1 := fun H1 q1 t1 => body_ok (H0 := H) (H := H1) (vs := [.ref b]) (Q := Q) (E := E) (s := s) (A := A) (outer := outer) (a := a) mo hp hfn hc (lev_ctx mo hno la lb lc d).1 hlam hr ((lev_ctx mo hno la lb lc d).2 _ _ rfl rfl rfl) (by rw [hn1]; exact law_spH q1 t1 he q)
    rcases hq with (hq | ⟨o, hq⟩) | hq
    · refine ⟨fun Dn σ H1 => H1 b = some (.lst (ns.map V.int)) ∧ ∀ o, ∃ t, PSs (cxOf (L2N.CX P w) P w Γ.K Γ.mg base d.N d.name d.scope a cdv A outer s H E) d.body t ∧ t Dn σ (upd H1 b (.frz o (.lst (ns.map V.int)))), ⟨fun pins s1 σ H1 Dn I hyp => ?_⟩, hq, fun o => ?_⟩
      · obtain ⟨e1, e2⟩ := hyp
        obtain ⟨o, I2⟩ := inv_frz I e1
        obtain ⟨t, p1, p2⟩ := e2 o
        exact p1.run pins s1 σ _ Dn I2 p2
      · refine go _ (.inl ⟨o, upd_same⟩) (tabs_of ht fun c u e n => ?_)
        rw [upd_ne (fun z => ?_)]
        · exact e
        · subst z
          rw [hq] at e
          cases e
          exact n (.inl ⟨_, rfl⟩)
    · exact go H (.inl ⟨o, hq⟩) ht
    · exact go H (.inr hq) ht
theorem law_at {l : PySem.W.OpenLaw} {fa : Addr} {lv f : Nat} {d : DT} {n : Nat} {x : Str} (ok : LawOk D) (hf : f ∈ D.fs) (hd : D.dts[f]? = some d) (hnm : D.gn f = ("law" : Str)) (hps : d.ps = [x])
    (plain : ∀ ns : List Int, ns.length ≤ n → (∀ z ∈ ns, Builtin.Int.intBits z ≤ 1048576) → ∃ S, callF D.G (lv + 1) (.p (.gl f)) [.p (.lst (ns.map Hb.P.int))] [] = .ok (.p (.bl true)) S)
    (c : He.SaysX D.fa D.fn [] D.tfs D.ex w h K) (X : K.In h) (G : h.Ns mainGlobals mg) (hmg : mg ("law" : Str) = some (.ref fa)) : LamX.LawAtS l w K (L2N.CX l.prog w) (3 * lv + 3) n x mg fa h := by
  obtain ⟨d', fd, h1, h2, h3, h4, h5, h6, h7, h8, _, _⟩ := (ok.defs f hf).ex
  rw [hd] at h1
  cases h1
  obtain ⟨fdat, F⟩ := says_def c (List.mem_of_getElem? hd)
  have ea := says_glo c X G (i := f) (Nat.lt_of_lt_of_le h6 (Nat.le_add_right _ _))
  rw [hnm, hmg] at ea
  have ea : fa = He.ga K ("law" : Str) := by cases ea; rfl
  have en : d.name = ("law" : Str) := h5.symm.trans hnm
  have eF : He.fAd K (d.name, none) = fa := by rw [ea, en]; rfl
  rw [eF] at F
  refine ⟨fdat, D.tfs.map (He.cT K), spLaw (D.Γ K mg) D.G lv f, fun p hp => ?_, fun p hp => ?_, fun p hp => ?_, fun s u => ?_, fun H a ns hl hb hT hS => ?_, fun base KB GB TB => ?_⟩
  · obtain ⟨q, hq, rfl⟩ := List.mem_map.mp hp
    exact c.empty q hq
  · obtain ⟨q, hq, rfl⟩ := List.mem_map.mp hp
    exact c.out q hq
  · obtain ⟨q, hq, rfl⟩ := List.mem_map.mp hp
    exact PySem.W.codeHd_of_K X (c.hd q hq)
  · have := F.bindsA h8 s [u] (by rw [hps]; rfl)
    rw [hps] at this
    exact this
  · obtain ⟨S, e⟩ := plain ns hl hb
    refine ⟨a, ns, S, rfl, hS, fun p hp => ?_, e, fun H' => rfl⟩
    obtain ⟨q, hq, rfl⟩ := List.mem_map.mp hp
    exact LamX.TabS.nil (hT _ (List.mem_map.mpr ⟨q, hq, rfl⟩))
  · have mo := mok_of ok c X G
    have := law_fn (lv := lv) (f := f) (base := base) (P := l.prog) (w := w) mo (fun g hg => dok_of ok c X G TB hg) ok.los ok.cfs (fun _ => rfl) h2 h3 h4 (by rw [hps]; rfl) F (fun hl => ?_)
    · rw [hps] at this
      exact this
    · exact dlam_of ok c X G TB h5 (h7 hl) F eF.symm
end
end Hb

/-! The plain side: what a term comes to, asked from its end. -/
namespace Hb
open PySem

/-- an equation that is used as one -/
theorem nrfl {α : Sort u} {a b : α} (h : a = b) : a = b := h
/-- held as it stands: what hangs on a thing of its own type is not looked into -/
inductive Wt {α : Sort u} (q : α) : Type
  | mk
def Rs {α : Type} (r : Res α) (Q : α → Sto → Prop) (X : Nat → Option P → Sto → Prop) (_ : Wt Q := .mk) (_ : Wt X := .mk) : Prop :=
  match r with
  | .ok a S => Q a S
  | .exc c d S => X c d S
  | .stk => False
def Br (b : Bool) (A B : Prop) (_ : Wt A := .mk) (_ : Wt B := .mk) : Prop := if b = true then A else B
theorem Br_intro {b : Bool} {A B : Prop} (h1 : b = true → A) (h2 : b = false → B) : Br b A B := by
  cases b
  · exact h2 rfl
  · exact h1 rfl
/-- a truth's end -/
def asB (v : Val) (K : Bool → Prop) (_ : Wt K := .mk) : Prop := ∃ t, v = .p (.bl t) ∧ K t
@[simp] theorem asB_bl (b : Bool) (K : Bool → Prop) : asB (.p (.bl b)) K = K b := by
  unfold asB
  refine propext ⟨fun ⟨t, e, k⟩ => ?_, fun k => ⟨b, rfl, k⟩⟩
  cases e
  exact k
@[simp] theorem asB_l (n : Nat) (K : Bool → Prop) : asB (.l n) K = False := by simp [asB]
@[simp] theorem asB_f (n : Nat) (b : E) (cs : List P) (K : Bool → Prop) : asB (.f n b cs) K = False := by simp [asB]
@[simp] theorem asB_non (K : Bool → Prop) : asB (.p .non) K = False := by simp [asB]
@[simp] theorem asB_int (i : Int) (K : Bool → Prop) : asB (.p (.int i)) K = False := by simp [asB]
@[simp] theorem asB_str (i : Str) (K : Bool → Prop) : asB (.p (.str i)) K = False := by simp [asB]
@[simp] theorem asB_tup (i : List P) (K : Bool → Prop) : asB (.p (.tup i)) K = False := by simp [asB]
@[simp] theorem asB_lst (i : List P) (K : Bool → Prop) : asB (.p (.lst i)) K = False := by simp [asB]
@[simp] theorem asB_dct (i j : List P) (K : Bool → Prop) : asB (.p (.dct i j)) K = False := by simp [asB]
@[simp] theorem asB_set (i : List P) (K : Bool → Prop) : asB (.p (.set i)) K = False := by simp [asB]
@[simp] theorem asB_gl (i : Nat) (K : Bool → Prop) : asB (.p (.gl i)) K = False := by simp [asB]
@[simp] theorem asB_fn (i : Nat) (j : List P) (K : Bool → Prop) : asB (.p (.fn i j)) K = False := by simp [asB]
@[simp] theorem asB_wtup (i : List P) (K : Bool → Prop) : asB (.p (.wtup i)) K = False := by simp [asB]
theorem asB_no {v : Val} {K : Bool → Prop} (h : ∀ b, v = .p (.bl b) → False) : asB v K = False := by
  refine eq_false ?_
  rintro ⟨t, e, _⟩
  exact h _ e
/-- an option's end -/
def onO {α : Type} (o : Option α) (K : α → Prop) (_ : Wt K := .mk) : Prop := match o with
  | some a => K a
  | none => False
@[simp] theorem onO_some {α : Type} (a : α) (K : α → Prop) : onO (some a) K = K a := nrfl rfl
@[simp] theorem onO_none {α : Type} (K : α → Prop) : onO none K = False := nrfl rfl
theorem onO_of {α : Type} {o : Option α} {a : α} {K : α → Prop} (h : o = some a) (k : K a) : onO o K := by rw [h]; exact k
/-- an environment's and a state's end -/
def onS (o : Option (Env × Sto)) (N : Env → Sto → Prop) (_ : Wt N := .mk) : Prop := match o with
  | some (e, S) => N e S
  | none => False
@[simp] theorem onS_some (e : Env) (S : Sto) (N : Env → Sto → Prop) : onS (some (e, S)) N = N e S := nrfl rfl
@[simp] theorem onS_none (N : Env → Sto → Prop) : onS none N = False := nrfl rfl
def asP (v : Val) (K : P → Prop) (_ : Wt K := .mk) : Prop := match v with
  | .p d => K d
  | _ => False
@[simp] theorem asP_p (d : P) (K : P → Prop) : asP (.p d) K = K d := nrfl rfl
def asI (v : Val) (K : Int → Prop) (_ : Wt K := .mk) : Prop := match v with
  | .p (.int i) => K i
  | _ => False
@[simp] theorem asI_p (d : Int) (K : Int → Prop) : asI (.p (.int d)) K = K d := nrfl rfl
def asLs (v : Val) (K : List P → Prop) (_ : Wt K := .mk) : Prop := match v with
  | .p (.lst i) => K i
  | _ => False
@[simp] theorem asLs_p (d : List P) (K : List P → Prop) : asLs (.p (.lst d)) K = K d := nrfl rfl
structure Dn where
  rt : Val → Sto → Prop
  bk : Env → Sto → Prop
  ct : Env → Sto → Prop
  xc : Nat → Option P → Sto → Prop
def Sq (r : SR) (N : Env → Sto → Prop) (D : Dn) (_ : Wt N := .mk) (_ : Wt D := .mk) : Prop :=
  match r with
  | .nx e S => N e S
  | .ret v S => D.rt v S
  | .bk e S => D.bk e S
  | .ct e S => D.ct e S
  | .exc c d S => D.xc c d S
  | .stk => False
theorem Rs_ext {α : Type} {r : Res α} {Q Q' : α → Sto → Prop} {X : Nat → Option P → Sto → Prop} (h : ∀ a S, Q a S = Q' a S) : Rs r Q X = Rs r Q' X := by
  cases r
  · exact h _ _
  · rfl
  · rfl
section
variable {α β : Type} {Q : α → Sto → Prop} {X : Nat → Option P → Sto → Prop}
@[simp] theorem Rs_ok (a : α) (S : Sto) : Rs (.ok a S) Q X = Q a S := nrfl rfl
@[simp] theorem Rs_exc (c : Nat) (d : Option P) (S : Sto) : Rs (.exc c d S : Res α) Q X = X c d S := nrfl rfl
@[simp] theorem Rs_stk : Rs (.stk : Res α) Q X = False := nrfl rfl
@[simp] theorem Rs_bind (r : Res β) (f : β → Sto → Res α) : Rs (r.bind f) Q X = Rs r (fun b S => Rs (f b S) Q X) X := by cases r <;> rfl
@[simp] theorem Rs_of (o : Option α) (S : Sto) : Rs (Res.of o S) Q X = onO o fun a => Q a S := by
  cases o <;> simp [Res.of]
@[simp] theorem Rs_if (p : Prop) [Decidable p] (r : Res α) : Rs (if p then r else .stk) Q X = (p ∧ Rs r Q X) := by
  by_cases h : p <;> simp [h]
@[simp] theorem Br_true (A B : Prop) : Br true A B = A := by simp [Br]
@[simp] theorem Br_false (A B : Prop) : Br false A B = B := by simp [Br]
@[simp] theorem Br_not (b : Bool) (A B : Prop) : Br (!b) A B = Br b B A := by cases b <;> simp [Br]
theorem Rs.mono {r : Res α} {Q' : α → Sto → Prop} (h : Rs r Q X) (i : ∀ a S, Q a S → Q' a S) : Rs r Q' X := by
  cases r
  · exact i _ _ h
  · exact h
  · exact h
end
section
variable {N : Env → Sto → Prop} {D : Dn}
@[simp] theorem Sq_nx (e : Env) (S : Sto) : Sq (.nx e S) N D = N e S := nrfl rfl
@[simp] theorem Sq_ret (v : Val) (S : Sto) : Sq (.ret v S) N D = D.rt v S := nrfl rfl
@[simp] theorem Sq_bk (e : Env) (S : Sto) : Sq (.bk e S) N D = D.bk e S := nrfl rfl
@[simp] theorem Sq_ct (e : Env) (S : Sto) : Sq (.ct e S) N D = D.ct e S := nrfl rfl
@[simp] theorem Sq_exc (c : Nat) (d : Option P) (S : Sto) : Sq (.exc c d S) N D = D.xc c d S := nrfl rfl
@[simp] theorem Sq_stk : Sq .stk N D = False := nrfl rfl
@[simp] theorem Sq_of {α : Type} (r : Res α) (f : α → Sto → SR) : Sq (SR.of r f) N D = Rs r (fun a S => Sq (f a S) N D) D.xc := by cases r <;> rfl
theorem Sq.mono {r : SR} {N' : Env → Sto → Prop} (h : Sq r N D) (i : ∀ e S, N e S → N' e S) : Sq r N' D := by
  cases r <;> first | exact i _ _ h | exact h
end

/-! ### equal data -/
theorem cmpb_of {a b : P} (ha : a.dep LIM = true) (hb : b.dep LIM = true) : cmpb a b = true := by simp only [cmpb, ha, hb, Bool.and_self]
mutual
/-- plain data without truths -/
def P.nb : P → Bool
  | .non => true
  | .int _ => true
  | .str _ => true
  | .tup ps => P.nbs ps
  | .lst ps => P.nbs ps
  | _ => false
def P.nbs : List P → Bool
  | [] => true
  | p :: ps => P.nb p && P.nbs ps
end
mutual
theorem eqv_self : ∀ (d : P) (n : Nat), d.dep n = true → P.eqv d d = true
  | .non, _, _ => by simp [P.eqv, P.toD, PyData.eqv]
  | .bl _, _, _ => by simp [P.eqv, P.toD, PyData.eqv]
  | .int _, _, _ => by simp [P.eqv, P.toD, PyData.eqv]
  | .str _, _, _ => by simp [P.eqv, P.toD, PyData.eqv]
  | .tup ps, 0, h => by simp [P.dep] at h
  | .lst ps, 0, h => by simp [P.dep] at h
  | .tup ps, n + 1, h => by
    simp only [P.dep] at h
    simp only [P.eqv, P.toD, PyData.eqv]
    exact eqvs_self ps n h
  | .lst ps, n + 1, h => by
    simp only [P.dep] at h
    simp only [P.eqv, P.toD, PyData.eqv]
    exact eqvs_self ps n h
  | .dct _ _, _, h => by simp [P.dep] at h
  | .set _, _, h => by simp [P.dep] at h
  | .gl _, _, h => by simp [P.dep] at h
  | .fn _ _, _, h => by simp [P.dep] at h
theorem eqvs_self : ∀ (ds : List P) (n : Nat), P.deps ds n = true → PyData.eqvAll (P.toDs ds) (P.toDs ds) = true
  | [], _, _ => by simp [P.toDs, PyData.eqvAll]
  | d :: ds, n, h => by
    simp only [P.deps, Bool.and_eq_true] at h
    have h1 := eqv_self d n h.1
    simp only [P.eqv] at h1
    simp only [P.toDs, PyData.eqvAll, h1, eqvs_self ds n h.2, Bool.and_self]
end
mutual
theorem eqv_nb : ∀ (a b : P), a.nb = true → b.nb = true → P.eqv a b = true → a = b
  | .non, b, _, hb, h => by cases b <;> simp_all [P.eqv, P.toD, PyData.eqv, P.nb]
  | .int i, b, _, hb, h => by cases b <;> simp_all [P.eqv, P.toD, PyData.eqv, P.nb]
  | .str _, b, _, hb, h => by cases b <;> simp_all [P.eqv, P.toD, PyData.eqv, P.nb]
  | .tup ps, b, ha, hb, h => by
    cases b <;> simp only [P.eqv, P.toD, PyData.eqv, P.nb, Bool.false_eq_true] at ha hb h
    rw [eqvs_nb ps _ ha hb h]
  | .lst ps, b, ha, hb, h => by
    cases b <;> simp only [P.eqv, P.toD, PyData.eqv, P.nb, Bool.false_eq_true] at ha hb h
    rw [eqvs_nb ps _ ha hb h]
  | .bl _, _, ha, _, _ => by simp [P.nb] at ha
  | .dct _ _, _, ha, _, _ => by simp [P.nb] at ha
  | .set _, _, ha, _, _ => by simp [P.nb] at ha
  | .gl _, _, ha, _, _ => by simp [P.nb] at ha
  | .fn _ _, _, ha, _, _ => by simp [P.nb] at ha
theorem eqvs_nb : ∀ (as bs : List P), P.nbs as = true → P.nbs bs = true → PyData.eqvAll (P.toDs as) (P.toDs bs) = true → as = bs
  | [], [], _, _, _ => rfl
  | [], _ :: _, _, _, h => by simp [P.toDs, PyData.eqvAll] at h
  | _ :: _, [], _, _, h => by simp [P.toDs, PyData.eqvAll] at h
  | a :: as, b :: bs, ha, hb, h => by
    simp only [P.nbs, Bool.and_eq_true] at ha hb
    simp only [P.toDs, PyData.eqvAll, Bool.and_eq_true] at h
    rw [eqv_nb a b ha.1 hb.1 h.1, eqvs_nb as bs ha.2 hb.2 h.2]
end
mutual
theorem eqv_nbr : ∀ (a : P), a.nb = true → P.eqv a a = true
  | .non, _ => by simp [P.eqv, P.toD, PyData.eqv]
  | .int _, _ => by simp [P.eqv, P.toD, PyData.eqv]
  | .str _, _ => by simp [P.eqv, P.toD, PyData.eqv]
  | .tup ps, h => by
    simp only [P.nb] at h
    simp only [P.eqv, P.toD, PyData.eqv]
    exact eqvs_nbr ps h
  | .lst ps, h => by
    simp only [P.nb] at h
    simp only [P.eqv, P.toD, PyData.eqv]
    exact eqvs_nbr ps h
  | .bl _, ha => by simp [P.nb] at ha
  | .dct _ _, ha => by simp [P.nb] at ha
  | .set _, ha => by simp [P.nb] at ha
  | .gl _, ha => by simp [P.nb] at ha
  | .fn _ _, ha => by simp [P.nb] at ha
theorem eqvs_nbr : ∀ (as : List P), P.nbs as = true → PyData.eqvAll (P.toDs as) (P.toDs as) = true
  | [], _ => by simp [P.toDs, PyData.eqvAll]
  | a :: as, h => by
    simp only [P.nbs, Bool.and_eq_true] at h
    have h1 := eqv_nbr a h.1
    simp only [P.eqv] at h1
    simp only [P.toDs, PyData.eqvAll, h1, eqvs_nbr as h.2, Bool.and_self]
end
open Classical in
theorem eqv_dec {a b : P} (ha : a.nb = true) (hb : b.nb = true) : P.eqv a b = decide (a = b) := by
  by_cases h : a = b
  · subst h
    simp [eqv_nbr a ha]
  · simp only [h, decide_false]
    exact Bool.eq_false_iff.mpr fun e => h (eqv_nb a b ha hb e)
theorem eqv_int (i j : Int) : P.eqv (.int i) (.int j) = decide (i = j) := by
  simp only [P.eqv, P.toD, PyData.eqv]
  by_cases h : i = j <;> simp [h]
theorem eqv_emp (xs : List P) : P.eqv (.lst xs) (.lst []) = xs.isEmpty := by
  cases xs <;> simp [P.eqv, P.toD, P.toDs, PyData.eqv, PyData.eqvAll]
theorem nbs_all : ∀ {ds : List P}, (∀ d ∈ ds, d.nb = true) → P.nbs ds = true
  | [], _ => by simp [P.nbs]
  | d :: ds, h => by
    simp only [P.nbs, Bool.and_eq_true]
    exact ⟨h d (by simp), nbs_all fun e he => h e (by simp [he])⟩
theorem deps_all : ∀ {ds : List P} {n : Nat}, (∀ d ∈ ds, d.dep n = true) → P.deps ds n = true
  | [], _, _ => by simp [P.deps]
  | d :: ds, n, h => by
    simp only [P.deps, Bool.and_eq_true]
    exact ⟨h d (by simp), deps_all fun e he => h e (by simp [he])⟩
theorem dep_tup {ds : List P} {n : Nat} (h : ∀ d ∈ ds, d.dep n = true) : (P.tup ds).dep (n + 1) = true := by
  simp only [P.dep]
  exact deps_all h
theorem dep_lst {ds : List P} {n : Nat} (h : ∀ d ∈ ds, d.dep n = true) : (P.lst ds).dep (n + 1) = true := by
  simp only [P.dep]
  exact deps_all h
theorem dep_int (i : Int) (n : Nat) : (P.int i).dep n = true := by simp [P.dep]
theorem dep_bl (i : Bool) (n : Nat) : (P.bl i).dep n = true := by simp [P.dep]
theorem dep_non (n : Nat) : P.non.dep n = true := by simp [P.dep]

/-! ### small steps -/
section
variable {S : Sto} {d : P} {vs : List Val} {env : Env}
@[simp] theorem rd_p : rd S (.p d) = some d := nrfl rfl
@[simp] theorem rd_l (n : Nat) : rd S (.l n) = S.get n := nrfl rfl
@[simp] theorem items_t (xs : List P) : items (.tup xs) = some xs := nrfl rfl
@[simp] theorem items_l (xs : List P) : items (.lst xs) = some xs := nrfl rfl
@[simp] theorem slc_t (xs : List P) (lo hi : Option Int) : slc (.tup xs) lo hi = some (.tup (cut xs lo hi)) := nrfl rfl
@[simp] theorem slc_l (xs : List P) (lo hi : Option Int) : slc (.lst xs) lo hi = some (.lst (cut xs lo hi)) := nrfl rfl
@[simp] theorem ix_t (xs : List P) (i : Int) : ix (.tup xs) (.int i) = L2.atI xs i := nrfl rfl
@[simp] theorem ix_l (xs : List P) (i : Int) : ix (.lst xs) (.int i) = L2.atI xs i := nrfl rfl
@[simp] theorem at_nat {α : Type} (xs : List α) (j : Nat) : L2.atI xs (j : Int) = xs[j]? := by
  unfold L2.atI L2.ixN
  by_cases h : j < xs.length
  · have h1 : (j : Int) < xs.length := by omega
    simp [h1]
  · have h1 : ¬ (j : Int) < xs.length := by omega
    simp [h1, List.getElem?_eq_none (show xs.length ≤ j by omega)]
@[simp] theorem at_0 {α : Type} (xs : List α) : L2.atI xs 0 = xs[0]? := at_nat xs 0
@[simp] theorem at_1 {α : Type} (xs : List α) : L2.atI xs 1 = xs[1]? := at_nat xs 1
@[simp] theorem at_2 {α : Type} (xs : List α) : L2.atI xs 2 = xs[2]? := at_nat xs 2
@[simp] theorem at_3 {α : Type} (xs : List α) : L2.atI xs 3 = xs[3]? := at_nat xs 3
@[simp] theorem at_m1 {α : Type} (xs : List α) : L2.atI xs (-1) = xs.getLast? := by
  unfold L2.atI L2.ixN
  rw [if_neg (by omega)]
  cases xs with
  | nil => simp
  | cons x xs =>
    rw [if_pos (by simp; omega)]
    simp [List.getLast?_eq_getElem?]
    rw [show (-1 + ((xs.length : Int) + 1)).toNat = xs.length by omega]
    exact List.getElem?_eq_getElem _
theorem ixN_nat {n j : Nat} (h : j < n) : L2.ixN n (j : Int) = some j := by
  unfold L2.ixN
  have h1 : (j : Int) < n := by omega
  simp [h1]
@[simp] theorem toP_p : (Val.p d).toP = some d := nrfl rfl
@[simp] theorem toPs_nil : toPs [] = some [] := nrfl rfl
@[simp] theorem toPs_cons : toPs (.p d :: vs) = (toPs vs).map (d :: ·) := by
  simp only [toPs, toP_p]
  cases toPs vs <;> rfl
@[simp] theorem rds_nil : rds S [] = some [] := nrfl rfl
@[simp] theorem rds_p : rds S (.p d :: vs) = (rds S vs).map (d :: ·) := by
  simp only [rds, rd_p]
  cases rds S vs <;> rfl
@[simp] theorem rds_l (n : Nat) : rds S (.l n :: vs) = (S.get n).bind fun d => (rds S vs).map (d :: ·) := by
  simp only [rds, rd_l]
  cases S.get n <;> cases rds S vs <;> rfl
@[simp] theorem op_add (a b : Int) : op2 .add (.int a) (.int b) = some (.int (a + b)) := nrfl rfl
@[simp] theorem op_sub (a b : Int) : op2 .sub (.int a) (.int b) = some (.int (a - b)) := nrfl rfl
@[simp] theorem op_lt (a b : Int) : op2 .lt (.int a) (.int b) = some (.bl (decide (a < b))) := nrfl rfl
@[simp] theorem op_le (a b : Int) : op2 .le (.int a) (.int b) = some (.bl (decide (a ≤ b))) := nrfl rfl
@[simp] theorem op_gt (a b : Int) : op2 .gt (.int a) (.int b) = some (.bl (decide (b < a))) := nrfl rfl
@[simp] theorem op_ge (a b : Int) : op2 .ge (.int a) (.int b) = some (.bl (decide (b ≤ a))) := nrfl rfl
@[simp] theorem ar_lt (a b : Int) : arith .lt (.int a) (.int b) = some (.bl (decide (a < b))) := nrfl rfl
@[simp] theorem ar_le (a b : Int) : arith .le (.int a) (.int b) = some (.bl (decide (a ≤ b))) := nrfl rfl
theorem op_addT {xs ys : List P} (h : xs.length + ys.length ≤ BIG) : op2 .add (.tup xs) (.tup ys) = some (.tup (xs ++ ys)) := by
  simp [op2, arith, h]
theorem op_addL {xs ys : List P} (h : xs.length + ys.length ≤ BIG) : op2 .add (.lst xs) (.lst ys) = some (.lst (xs ++ ys)) := by
  simp [op2, arith, h]
theorem op_mod {a b : Int} (h : 0 < b) : op2 .mod (.int a) (.int b) = some (.int (a % b)) := by
  simp [op2, arith, intOp, h]
theorem op_fdiv {a b : Int} (h : 0 < b ∧ b < 1073741824) : op2 .fdiv (.int a) (.int b) = some (.int (a / b)) := by
  simp [op2, arith, intOp, h]
theorem op_mul {a b : Int} (h : (-(2 ^ 64) < a ∧ a < 2 ^ 64) ∨ (-(2 ^ 64) < b ∧ b < 2 ^ 64)) : op2 .mul (.int a) (.int b) = some (.int (a * b)) := by
  simp only [op2, arith, intOp]
  rw [if_pos h]
theorem op_pow {a b : Int} (h : 0 ≤ b ∧ b ≤ 1000 ∧ a.natAbs < 2 ^ 64) : op2 .pow (.int a) (.int b) = some (.int (a ^ b.toNat)) := by
  simp only [op2, arith, intOp]
  rw [if_pos h]
@[simp] theorem op_isN (a : P) : op2 .is a .non = (isNon a).map .bl := by cases a <;> rfl
@[simp] theorem op_isnN (a : P) : op2 .isnot a .non = (isNon a).map fun c => .bl (!c) := by cases a <;> rfl
@[simp] theorem isNon_non : isNon .non = some true := nrfl rfl
@[simp] theorem isNon_int (i : Int) : isNon (.int i) = some false := nrfl rfl
@[simp] theorem isNon_bl (i : Bool) : isNon (.bl i) = some false := nrfl rfl
@[simp] theorem isNon_tup (i : List P) : isNon (.tup i) = some false := nrfl rfl
theorem op_eq {a b : P} (h : cmpb a b = true) : op2 .eq a b = some (.bl (P.eqv a b)) := by simp only [op2]; rw [if_pos h]
theorem op_ne {a b : P} (h : cmpb a b = true) : op2 .ne a b = some (.bl (!P.eqv a b)) := by simp only [op2]; rw [if_pos h]
@[simp] theorem bind_nm (i : Nat) : T.bind (.nm i) d env = some (env.set i (some (.p d))) := nrfl rfl
@[simp] theorem bind_tpt (ts : T) (ds : List P) : T.bind (.tp ts) (.tup ds) env = T.binds ts ds env := nrfl rfl
@[simp] theorem bind_tpl (ts : T) (ds : List P) : T.bind (.tp ts) (.lst ds) env = T.binds ts ds env := nrfl rfl
@[simp] theorem bind_tpw (ts : T) (ds : List P) : T.bind (.tp ts) (.wtup ds) env = T.binds ts ds env := nrfl rfl
@[simp] theorem binds_nil : T.binds .tnil [] env = some env := nrfl rfl
@[simp] theorem binds_cons (t ts : T) (ds : List P) : T.binds (.tcons t ts) (d :: ds) env = (T.bind t d env).bind fun e => T.binds ts ds e := by
  simp only [T.binds]
  cases T.bind t d env <;> rfl
@[simp] theorem wipe_nil : wipeE env [] = env := nrfl rfl
@[simp] theorem wipe_cons (v : Nat) (ws : List Nat) : wipeE env (v :: ws) = (wipeE env ws).set v none := nrfl rfl
@[simp] theorem get_nil (n : Nat) : Sto.get [] n = none := nrfl rfl
@[simp] theorem get_cons (k n : Nat) (o : P) (r : Sto) : Sto.get ((k, o) :: r) n = if k = n then some o else Sto.get r n := nrfl rfl
@[simp] theorem put_nil (n : Nat) (o : P) : Sto.put [] n o = [(n, o)] := nrfl rfl
@[simp] theorem put_cons (k n : Nat) (o q : P) (r : Sto) : Sto.put ((k, q) :: r) n o = if k = n then (k, o) :: r else (k, q) :: Sto.put r n o := nrfl rfl
@[simp] theorem del_nil (n : Nat) : Sto.del [] n = [] := nrfl rfl
@[simp] theorem del_cons (k n : Nat) (q : P) (r : Sto) : Sto.del ((k, q) :: r) n = if k = n then Sto.del r n else (k, q) :: Sto.del r n := nrfl rfl
@[simp] theorem clear_nil (n : Nat) : clearE n [] = [] := nrfl rfl
@[simp] theorem clear_no (n : Nat) (r : Env) : clearE n (none :: r) = none :: clearE n r := nrfl rfl
@[simp] theorem clear_p (n : Nat) (r : Env) : clearE n (some (.p d) :: r) = some (.p d) :: clearE n r := nrfl rfl
@[simp] theorem clear_l (n k : Nat) (r : Env) : clearE n (some (.l k) :: r) = (if k = n then none else some (.l k)) :: clearE n r := nrfl rfl
@[simp] theorem clear_f (n np : Nat) (b : E) (cs : List P) (r : Env) : clearE n (some (.f np b cs) :: r) = some (.f np b cs) :: clearE n r := nrfl rfl
@[simp] theorem frz_f (n np : Nat) (b : E) (cs : List P) (r : Env) : frzE n d (some (.f np b cs) :: r) = some (.f np b cs) :: frzE n d r := nrfl rfl
@[simp] theorem clear_mp (n : Nat) (o : Option P) (r : Env) : clearE n (o.map Val.p :: r) = o.map Val.p :: clearE n r := by cases o <;> rfl
@[simp] theorem frz_mp (n : Nat) (o : Option P) (r : Env) : frzE n d (o.map Val.p :: r) = o.map Val.p :: frzE n d r := by cases o <;> rfl
@[simp] theorem frz_nil (n : Nat) : frzE n d [] = [] := nrfl rfl
@[simp] theorem frz_no (n : Nat) (r : Env) : frzE n d (none :: r) = none :: frzE n d r := nrfl rfl
@[simp] theorem frz_p (n : Nat) (e : P) (r : Env) : frzE n d (some (.p e) :: r) = some (.p e) :: frzE n d r := nrfl rfl
@[simp] theorem frz_l (n k : Nat) (r : Env) : frzE n d (some (.l k) :: r) = (if k = n then some (.p d) else some (.l k)) :: frzE n d r := nrfl rfl
@[simp] theorem stpl_nil : stPL .nil [] env S = some (env, S) := nrfl rfl
@[simp] theorem stpl_e (i : Nat) (e : E) (r : PL) (v : Val) : stPL (.e i e r) (v :: vs) env S = stPL r vs (env.set i (some v)) S := nrfl rfl
@[simp] theorem mkP_l (e : E) (ds : List P) : mkP e (.lst ds) = !isDk e := nrfl rfl
@[simp] theorem mkP_d (e : E) (ks vs : List P) : mkP e (.dct ks vs) = isDk e := nrfl rfl
@[simp] theorem isDk_0 : isDk .dsp0 = true := nrfl rfl
@[simp] theorem isDk_1 (a b : E) : isDk (.dsp1 a b) = true := nrfl rfl
@[simp] theorem isDk_c (t : T) (a b c : E) (own : List Nat) : isDk (.dc t a b c own) = true := nrfl rfl
@[simp] theorem isDk_lst (a : E) : isDk (.lst a) = false := nrfl rfl
@[simp] theorem isDk_op (o : O2) (a b : E) : isDk (.op o a b) = false := nrfl rfl
@[simp] theorem isDk_slc (a b c : E) : isDk (.slc a b c) = false := nrfl rfl
@[simp] theorem isDk_bi (a : B) (b : E) : isDk (.bi a b) = false := nrfl rfl
@[simp] theorem isDk_lc (t : T) (a b c : E) (own : List Nat) : isDk (.lc t a b c own) = false := nrfl rfl
@[simp] theorem stpl_a (i n : Nat) (e : E) (r : PL) (d : P) : stPL (.a i n e r) (.p d :: vs) env S = (stPL r vs env S).bind fun p => if mkP e d = true then some ((clearE n p.1).set i (some (.l n)), p.2.put n d) else none := by
  simp only [stPL]
  cases stPL r vs env S with
  | none => rfl
  | some p => obtain ⟨a, b⟩ := p; rfl
@[simp] theorem bi_lent (xs : List P) : bi .len [.tup xs] = some (.int xs.length) := nrfl rfl
@[simp] theorem bi_lenl (xs : List P) : bi .len [.lst xs] = some (.int xs.length) := nrfl rfl
@[simp] theorem bi_tt (xs : List P) : bi .tuple [.tup xs] = some (.tup xs) := nrfl rfl
@[simp] theorem bi_tl (xs : List P) : bi .tuple [.lst xs] = some (.tup xs) := nrfl rfl
@[simp] theorem bi_lt (xs : List P) : bi .list [.tup xs] = some (.lst xs) := nrfl rfl
@[simp] theorem bi_ll (xs : List P) : bi .list [.lst xs] = some (.lst xs) := nrfl rfl
@[simp] theorem bi_ii (i : Int) : bi .int [.int i] = some (.int i) := nrfl rfl
@[simp] theorem bi_ib (i : Bool) : bi .int [.bl i] = some (.int (if i then 1 else 0)) := nrfl rfl
theorem bls_map {α : Type} (f : α → Bool) : ∀ xs : List α, bls (xs.map fun x => P.bl (f x)) = some (xs.map f)
  | [] => rfl
  | x :: xs => by simp [bls, bls_map f xs]
theorem all_map {α : Type} (f : α → Bool) (xs : List α) : (xs.map f).all id = xs.all f := by
  induction xs with
  | nil => rfl
  | cons x xs ih => simp [List.all_cons, ih]
theorem any_map {α : Type} (f : α → Bool) (xs : List α) : (xs.map f).any id = xs.any f := by
  induction xs with
  | nil => rfl
  | cons x xs ih => simp [List.any_cons, ih]
@[simp] theorem bi_all {α : Type} (f : α → Bool) (xs : List α) : bi .all [.lst (xs.map fun x => P.bl (f x))] = some (.bl (xs.all f)) := by
  simp only [bi, bls_map, Option.map_some, all_map]
@[simp] theorem bi_any {α : Type} (f : α → Bool) (xs : List α) : bi .any [.lst (xs.map fun x => P.bl (f x))] = some (.bl (xs.any f)) := by
  simp only [bi, bls_map, Option.map_some, any_map]
theorem cut_take {α : Type} (xs : List α) (j : Nat) : cut xs none (some (j : Int)) = xs.take j := by
  unfold cut
  rw [HT.sIx_none, HT.sIx_nat]
  simp only [List.drop_zero, Nat.sub_zero]
  rcases Nat.le_total j xs.length with h | h
  · rw [Nat.min_eq_left h]
  · rw [Nat.min_eq_right h, List.take_of_length_le (Nat.le_refl _), List.take_of_length_le h]
theorem cut_drop {α : Type} (xs : List α) (j : Nat) : cut xs (some (j : Int)) none = xs.drop j := by
  unfold cut
  rw [HT.sIx_none, HT.sIx_nat]
  rcases Nat.le_total j xs.length with h | h
  · rw [Nat.min_eq_left h, List.take_of_length_le (by simp)]
  · rw [Nat.min_eq_right h, List.drop_of_length_le (Nat.le_refl _), List.drop_of_length_le h]
    simp
theorem enumP_get' : ∀ (k : Nat) (ps : List P) (i : Nat), (enumP k ps)[i]? = (ps[i]?).map fun d => P.wtup [.int ((k + i : Nat) : Int), d]
  | _, [], i => by simp [enumP]
  | k, p :: ps, 0 => by simp [enumP]
  | k, p :: ps, i + 1 => by
    simp only [enumP, List.getElem?_cons_succ]
    rw [enumP_get' (k + 1) ps i]
    congr 1
    funext d
    congr 3
    omega
theorem enumP_length : ∀ (k : Nat) (ps : List P), (enumP k ps).length = ps.length
  | _, [] => rfl
  | k, p :: ps => by simp [enumP, enumP_length (k + 1) ps]
theorem rangeP_length (lo : Int) : ∀ n : Nat, (rangeP lo n).length = n
  | 0 => rfl
  | n + 1 => by simp [rangeP, rangeP_length (lo + 1) n]
theorem rangeP_get' : ∀ (lo : Int) (n i : Nat), (rangeP lo n)[i]? = if i < n then some (.int (lo + i)) else none
  | lo, 0, i => by simp [rangeP]
  | lo, n + 1, 0 => by simp [rangeP]
  | lo, n + 1, i + 1 => by
    simp only [rangeP, List.getElem?_cons_succ]
    rw [rangeP_get' (lo + 1) n i]
    have : (lo + 1 + (i : Int)) = lo + ((i + 1 : Nat) : Int) := by omega
    rw [this]
    simp
end

/-! ### expressions -/
section
variable {G : Prog} {h : Hd} {env : Env} {S : Sto} {a b c e es : E} {Q : Val → Sto → Prop} {X : Nat → Option P → Sto → Prop}
@[simp] theorem w_cst (d : P) : ev G h (.cst d) env S = .ok (.p d) S := nrfl rfl
@[simp] theorem w_glb (g : Nat) : ev G h (.glb g) env S = .ok (.p (G.glb g)) S := nrfl rfl
@[simp] theorem w_var (i : Nat) : Rs (ev G h (.var i) env S) Q X = onO env[i]? fun o => onO o fun v => Q v S := by
  show Rs (match env[i]? with | some (some v) => Res.ok v S | _ => .stk) Q X = _
  cases env[i]? with
  | none => simp
  | some o => cases o <;> simp
def rd2 (S : Sto) (x y : Val) (f : P → P → Prop) : Prop := ∃ a b, rd S x = some a ∧ rd S y = some b ∧ f a b
@[simp] theorem w_op (o : O2) : Rs (ev G h (.op o a b) env S) Q X = Rs (ev G h a env S) (fun x S => Rs (ev G h b env S) (fun y S => onO (rd S x) fun p => onO (rd S y) fun q => onO (op2 o p q) fun d => Q (.p d) S) X) X := by
  show Rs ((ev G h a env S).bind fun x S => (ev G h b env S).bind fun y S => match rd S x, rd S y with
    | some x, some y => (Res.of (op2 o x y) S).bind fun d S => .ok (.p d) S
    | _, _ => .stk) Q X = _
  simp only [Rs_bind]
  refine Rs_ext fun x S => ?_; (first | rw [Rs_bind] | rw [Sq_of]); refine Rs_ext fun y S => ?_
  cases h1 : rd S x <;> cases h2 : rd S y <;> simp <;> rfl
@[simp] theorem w_neg : Rs (ev G h (.neg a) env S) Q X = Rs (ev G h a env S) (fun x S => asI x fun i => Q (.p (.int (-i))) S) X := by
  show Rs ((ev G h a env S).bind fun x S => match x with
    | .p (.int i) => .ok (.p (.int (-i))) S
    | _ => .stk) Q X = _
  simp only [Rs_bind]
  refine Rs_ext fun x S => ?_
  cases x <;> try rfl
  rename_i d; cases d <;> rfl
@[simp] theorem w_chain (o1 o2 : O2) : Rs (ev G h (.chain o1 o2 a b c) env S) Q X = Rs (ev G h a env S) (fun x S => Rs (ev G h b env S) (fun y S => asP x fun p => asP y fun q => onO (arith o1 p q) fun d =>
    asB (.p d) fun t => Br t (Rs (ev G h c env S) (fun z S => asP z fun r => onO (arith o2 q r) fun d => asB (.p d) fun u => Q (.p (.bl u)) S) X) (Q (.p (.bl false)) S)) X) X := by
  show Rs ((ev G h a env S).bind fun x S => (ev G h b env S).bind fun y S =>
    match x, y with
    | .p x, .p y => match arith o1 x y with
      | some (.bl true) => (ev G h c env S).bind fun z S => match z with
        | .p z => match arith o2 y z with
          | some (.bl r) => .ok (.p (.bl r)) S
          | _ => .stk
        | _ => .stk
      | some (.bl false) => .ok (.p (.bl false)) S
      | _ => .stk
    | _, _ => .stk) Q X = _
  simp only [Rs_bind]
  refine Rs_ext fun x S => ?_; (first | rw [Rs_bind] | rw [Sq_of]); refine Rs_ext fun y S => ?_
  cases x <;> cases y <;> try rfl
  rename_i x y
  simp only [asP_p]
  cases h1 : arith o1 x y with
  | none => rfl
  | some d =>
    simp only [onO_some]
    cases d with
    | bl t =>
      rw [asB_bl]
      cases t with
      | false => simp
      | true =>
        rw [Br_true]
        simp only [Rs_bind]
        refine Rs_ext fun z S => ?_
        cases z <;> try rfl
        rename_i z
        simp only [asP_p]
        cases h2 : arith o2 y z with
        | none => rfl
        | some d2 =>
          simp only [onO_some]
          cases d2 <;> simp
    | _ => simp
@[simp] theorem w_and : ev G h (.and es) env S = evAO G h true es env S := nrfl rfl
@[simp] theorem w_or : ev G h (.or es) env S = evAO G h false es env S := nrfl rfl
@[simp] theorem w_ao1 (n : Bool) : Rs (evAO G h n (.cons a .nil) env S) Q X = Rs (ev G h a env S) (fun v S => asB v fun b => Q (.p (.bl b)) S) X := by
  rw [evAO, Rs_bind]
  refine Rs_ext fun x S => ?_
  cases x <;> try (simp; done)
  rename_i d
  cases d <;> simp
@[simp] theorem w_aoT : Rs (evAO G h true (.cons a (.cons b c)) env S) Q X = Rs (ev G h a env S) (fun v S => asB v fun t => Br t (Rs (evAO G h true (.cons b c) env S) Q X) (Q (.p (.bl false)) S)) X := by
  rw [evAO, Rs_bind]
  refine Rs_ext fun x S => ?_
  split
  · rename_i t; cases t <;> simp
  · rename_i n; simp only [Rs_stk, eq_iff_iff, false_iff]; rintro ⟨t, e, _⟩; exact n _ e
@[simp] theorem w_aoF : Rs (evAO G h false (.cons a (.cons b c)) env S) Q X = Rs (ev G h a env S) (fun v S => asB v fun t => Br t (Q (.p (.bl true)) S) (Rs (evAO G h false (.cons b c) env S) Q X)) X := by
  rw [evAO, Rs_bind]
  refine Rs_ext fun x S => ?_
  split
  · rename_i t; cases t <;> simp
  · rename_i n; simp only [Rs_stk, eq_iff_iff, false_iff]; rintro ⟨t, e, _⟩; exact n _ e
@[simp] theorem w_not : Rs (ev G h (.not a) env S) Q X = Rs (ev G h a env S) (fun x S => asB x fun t => Q (.p (.bl (!t))) S) X := by
  show Rs ((ev G h a env S).bind fun x S => match x with
    | .p (.bl b) => .ok (.p (.bl (!b))) S
    | _ => .stk) Q X = _
  simp only [Rs_bind]
  refine Rs_ext fun x S => ?_
  cases x <;> try (simp; done)
  rename_i d
  cases d <;> simp
@[simp] theorem w_ite : Rs (ev G h (.ite c a b) env S) Q X = Rs (ev G h c env S) (fun x S => asB x fun t => Br t (Rs (ev G h a env S) Q X) (Rs (ev G h b env S) Q X)) X := by
  show Rs ((ev G h c env S).bind fun x S => match x with
    | .p (.bl true) => ev G h a env S
    | .p (.bl false) => ev G h b env S
    | _ => .stk) Q X = _
  simp only [Rs_bind]
  refine Rs_ext fun x S => ?_
  split
  · simp
  · simp
  · rename_i n1 n2; simp only [Rs_stk, eq_iff_iff, false_iff]; rintro ⟨t, e, _⟩
    cases t
    · exact n2 e
    · exact n1 e
@[simp] theorem w_tup : Rs (ev G h (.tup es) env S) Q X = Rs (evs G h es env S) (fun vs S => onO (toPs vs) fun ds => ds.length ≤ BIG ∧ Q (.p (.tup ds)) S) X := by
  show Rs ((evs G h es env S).bind fun vs S => match toPs vs with
    | some ds => if ds.length ≤ BIG then .ok (.p (.tup ds)) S else .stk
    | none => .stk) Q X = _
  simp only [Rs_bind]
  refine Rs_ext fun x S => ?_
  cases h1 : toPs x <;> simp <;> rfl
@[simp] theorem w_lst : Rs (ev G h (.lst es) env S) Q X = Rs (evs G h es env S) (fun vs S => onO (toPs vs) fun ds => ds.length ≤ BIG ∧ Q (.p (.lst ds)) S) X := by
  show Rs ((evs G h es env S).bind fun vs S => match toPs vs with
    | some ds => if ds.length ≤ BIG then .ok (.p (.lst ds)) S else .stk
    | none => .stk) Q X = _
  simp only [Rs_bind]
  refine Rs_ext fun x S => ?_
  cases h1 : toPs x <;> simp <;> rfl
@[simp] theorem w_idx : Rs (ev G h (.idx a b) env S) Q X = Rs (ev G h a env S) (fun x S => Rs (ev G h b env S) (fun y S => onO (rd S x) fun p => asP y fun i => onO (ix p i) fun d => Q (.p d) S) X) X := by
  show Rs ((ev G h a env S).bind fun x S => (ev G h b env S).bind fun y S =>
    match rd S x, y with
    | some a, .p i => (Res.of (ix a i) S).bind fun d S => .ok (.p d) S
    | _, _ => .stk) Q X = _
  simp only [Rs_bind]
  refine Rs_ext fun x S => ?_; (first | rw [Rs_bind] | rw [Sq_of]); refine Rs_ext fun y S => ?_
  cases h1 : rd S x <;> cases y <;> simp [asP] <;> rfl
@[simp] theorem w_slc (lo hi : E) : Rs (ev G h (.slc a lo hi) env S) Q X = Rs (ev G h a env S) (fun x S => Rs (evO G h lo env S) (fun l S => Rs (evO G h hi env S) (fun u S => onO (rd S x) fun p => onO (slc p l u) fun d => Q (.p d) S) X) X) X := by
  show Rs ((ev G h a env S).bind fun x S => (evO G h lo env S).bind fun l S => (evO G h hi env S).bind fun u S =>
    match rd S x with
    | some a => (Res.of (slc a l u) S).bind fun d S => .ok (.p d) S
    | none => .stk) Q X = _
  simp only [Rs_bind]
  refine Rs_ext fun x S => ?_; (first | rw [Rs_bind] | rw [Sq_of]); refine Rs_ext fun l S => ?_; (first | rw [Rs_bind] | rw [Sq_of]); refine Rs_ext fun u S => ?_
  cases h1 : rd S x <;> simp <;> rfl
def revP : P → Option P
  | .tup xs => some (.tup xs.reverse)
  | .lst xs => some (.lst xs.reverse)
  | _ => none
@[simp] theorem revP_t (xs : List P) : revP (.tup xs) = some (.tup xs.reverse) := nrfl rfl
@[simp] theorem revP_l (xs : List P) : revP (.lst xs) = some (.lst xs.reverse) := nrfl rfl
@[simp] theorem w_rev : Rs (ev G h (.rev a) env S) Q X = Rs (ev G h a env S) (fun x S => onO ((rd S x).bind revP) fun d => Q (.p d) S) X := by
  show Rs ((ev G h a env S).bind fun x S => match rd S x with
    | some (.tup xs) => .ok (.p (.tup xs.reverse)) S
    | some (.lst xs) => .ok (.p (.lst xs.reverse)) S
    | _ => .stk) Q X = _
  simp only [Rs_bind]
  refine Rs_ext fun x S => ?_
  cases rd S x with
  | none => simp
  | some d => cases d <;> simp [revP]
@[simp] theorem w_call (f : Nat) : ev G h (.call f es) env S = (evs G h es env S).bind fun vs S => callV h (.p (.gl f)) vs S := nrfl rfl
def glOf : Val → Option Nat
  | .p (.gl g) => some g
  | _ => none
@[simp] theorem glOf_gl (g : Nat) : glOf (.p (.gl g)) = some g := nrfl rfl
@[simp] theorem w_app (f : E) : Rs (ev G h (.app f es) env S) Q X = Rs (ev G h f env S) (fun v S => onO (glOf v) fun g => onO (G.ar g) fun n => Rs (evs G h es env S) (fun vs S => vs.length = n ∧ Rs (callV h (.p (.gl g)) vs S) Q X) X) X := by
  show Rs ((ev G h f env S).bind fun v S => match v with
    | .p (.gl g) => match G.ar g with
      | some n => (evs G h es env S).bind fun vs S => if vs.length = n then callV h (.p (.gl g)) vs S else .stk
      | none => .stk
    | _ => .stk) Q X = _
  simp only [Rs_bind]
  refine Rs_ext fun v S => ?_
  unfold glOf
  split
  · rename_i g
    simp only [onO_some]
    cases G.ar g with
    | none => simp
    | some n =>
      simp only [onO_some, Rs_bind]
      exact Rs_ext fun vs S => Rs_if _ _
  · simp
@[simp] theorem w_lrng (a : E) : Rs (ev G h (.lrng a) env S) Q X = Rs (ev G h a env S) (fun v S => asI v fun j => (-1000 ≤ j ∧ j ≤ BIG) ∧ Q (.p (.lst (rangeP 0 j.toNat))) S) X := by
  show Rs ((ev G h a env S).bind fun v S => match v with
    | .p (.int j) => if -1000 ≤ j ∧ j ≤ BIG then .ok (.p (.lst (rangeP 0 j.toNat))) S else .stk
    | _ => .stk) Q X = _
  rw [Rs_bind]
  refine Rs_ext fun v S => ?_
  split
  · simp
  · rename_i n
    unfold asI
    split
    · exact (n _ rfl).elim
    · simp
/-- what a name holds, called -/
def apR (G : Prog) (h : Hd) (es : E) (env : Env) (S : Sto) (Q : Val → Sto → Prop) (X : Nat → Option P → Sto → Prop) (v : Val) : Prop := match v with
  | .p (.gl g) => onO (G.arc g) fun n => Rs (evs G h es env S) (fun vs S => vs.length = n ∧ Rs (callV h (.p (.gl g)) vs S) Q X) X
  | .f np b cs => Rs (evs G h es env S) (fun vs S => onO (toPs vs) fun ds => ds.length = np ∧ Rs ((h (.f np b cs) (ds.map .p) []).cl S) Q X) X
  | _ => False
@[simp] theorem apR_g (g : Nat) : apR G h es env S Q X (.p (.gl g)) = onO (G.arc g) fun n => Rs (evs G h es env S) (fun vs S => vs.length = n ∧ Rs (callV h (.p (.gl g)) vs S) Q X) X := nrfl rfl
@[simp] theorem apR_f (np : Nat) (b : E) (cs : List P) : apR G h es env S Q X (.f np b cs) = Rs (evs G h es env S) (fun vs S => onO (toPs vs) fun ds => ds.length = np ∧ Rs ((h (.f np b cs) (ds.map .p) []).cl S) Q X) X := nrfl rfl
@[simp] theorem w_appc (i : Nat) : Rs (ev G h (.appc i es) env S) Q X = onO env[i]? fun o => onO o fun v => apR G h es env S Q X v := by
  show Rs (match env[i]? with
    | some (some (.p (.gl g))) => match G.arc g with
      | some n => (evs G h es env S).bind fun vs S => if vs.length = n then callV h (.p (.gl g)) vs S else .stk
      | none => .stk
    | some (some (.f np b cs)) => (evs G h es env S).bind fun vs S => match toPs vs with
      | some ds => if ds.length = np then (h (.f np b cs) (ds.map .p) []).cl S else .stk
      | none => .stk
    | _ => .stk) Q X = _
  cases env[i]? with
  | none => simp
  | some o =>
    cases o with
    | none => simp
    | some v =>
      simp only [onO_some]
      cases v with
      | l n => simp [apR]
      | f np b cs =>
        simp only [apR_f, Rs_bind]
        refine Rs_ext fun vs S => ?_
        cases toPs vs with
        | none => simp
        | some ds =>
          simp only [onO_some]
          exact Rs_if _ _
      | p d =>
        cases d <;> try (simp [apR]; done)
        rename_i g
        simp only [apR_g]
        cases G.arc g with
        | none => simp
        | some n =>
          simp only [onO_some, Rs_bind]
          exact Rs_ext fun vs S => Rs_if _ _
@[simp] theorem w_capp (f : Nat) (a b : E) (np : Nat) (caps : List Nat) (body : E) (g : Nat) : Rs (ev G h (.capp f a b np caps body g) env S) Q X = Rs (ev G h a env S) (fun x S => Rs (ev G h b env S) (fun y S => onO x.toP fun x => onO y.toP fun y => onO (capsOf env caps) fun cs => Rs ((h (.p (.gl f)) [.p x, .p y, .f np body cs, .p (G.glb g)] []).cl S) Q X) X) X := by
  show Rs ((ev G h a env S).bind fun x S => (ev G h b env S).bind fun y S => match x.toP, y.toP, capsOf env caps with
    | some x, some y, some cs => (h (.p (.gl f)) [.p x, .p y, .f np body cs, .p (G.glb g)] []).cl S
    | _, _, _ => .stk) Q X = _
  rw [Rs_bind]
  refine Rs_ext fun x S => ?_
  rw [Rs_bind]
  refine Rs_ext fun y S => ?_
  cases x.toP <;> cases y.toP <;> cases capsOf env caps <;> simp
@[simp] theorem cl_ok (d : P) (S' : Sto) : (Res.ok (Val.p d) S' : Res Val).cl S = .ok (.p d) S := nrfl rfl
@[simp] theorem cl_exc (c : Nat) (d : Option P) (S' : Sto) : (Res.exc c d S' : Res Val).cl S = .exc c d S := nrfl rfl
theorem callF_f (G : Pg) (k np : Nat) (b : E) (cs : List P) (as : List Val) (S : Sto) : callF G (k + 1) (.f np b cs) as S = if as.length = np ∧ S.isEmpty = true then ev G.toProg (callF G k) b (as.map some ++ cs.map fun d => some (.p d)) [] else .stk := rfl
@[simp] theorem w_bi (b : B) : Rs (ev G h (.bi b es) env S) Q X = Rs (evs G h es env S) (fun vs S => onO (rds S vs) fun ds => onO (bi b ds) fun d => Q (.p d) S) X := by
  show Rs ((evs G h es env S).bind fun vs S => match rds S vs with
    | some ds => (Res.of (bi b ds) S).bind fun d S => .ok (.p d) S
    | none => .stk) Q X = _
  simp only [Rs_bind]
  refine Rs_ext fun x S => ?_
  cases h1 : rds S x <;> simp <;> rfl
def lstOf : P → Option (List P)
  | .lst ds => some ds
  | _ => none
@[simp] theorem lstOf_l (ds : List P) : lstOf (.lst ds) = some ds := nrfl rfl
@[simp] theorem w_met (m : Mt) (o : E) : Rs (ev G h (.met m o es) env S) Q X = Rs (ev G h o env S) (fun x S => onO ((rd S x).bind lstOf) fun _ => Rs (evs G h es env S) (fun vs S => Rs (metV m x vs S) Q X) X) X := by
  show Rs ((ev G h o env S).bind fun x S => match rd S x with
    | some (.lst _) => (evs G h es env S).bind fun vs S => metV m x vs S
    | _ => .stk) Q X = _
  simp only [Rs_bind]
  refine Rs_ext fun x S => ?_
  cases rd S x with
  | none => rfl
  | some d => cases d <;> simp [lstOf]
@[simp] theorem w_isi (tys : List Ty) : Rs (ev G h (.isi a tys) env S) Q X = Rs (ev G h a env S) (fun x S => onO (rd S x) fun d => onO (tys.mapM (fun t => isTy t d)) fun bs => Q (.p (.bl (bs.any id))) S) X := by
  show Rs ((ev G h a env S).bind fun x S => match rd S x with
    | some d => match tys.mapM (fun t => isTy t d) with
      | some bs => .ok (.p (.bl (bs.any id))) S
      | none => .stk
    | none => .stk) Q X = _
  simp only [Rs_bind]
  refine Rs_ext fun x S => ?_
  cases h1 : rd S x with
  | none => simp
  | some d => cases h2 : tys.mapM (fun t => isTy t d) <;> simp [h2]
def lcFn (G : Prog) (h : Hd) (t : T) (c elt : E) (env : Env) (own : List Nat) (x : P) (S : Sto) : Res (Option P) := match T.bind t x (wipeE env own) with
      | some e' => (ev G h c e' S).bind fun b S => match b with
        | .p (.bl true) => (ev G h elt e' S).bind fun v S => match v.toP with
          | some d => .ok (some d) S
          | none => .stk
        | .p (.bl false) => .ok none S
        | _ => .stk
      | none => .stk
@[simp] theorem w_lc (t : T) (it c elt : E) (own : List Nat) : Rs (ev G h (.lc t it c elt own) env S) Q X = Rs (evI G h it env S) (fun xs S => Rs (lcGo (lcFn G h t c elt env own) xs [] S) (fun ds S => ds.length ≤ BIG ∧ Q (.p (.lst ds)) S) X) X := by
  show Rs ((evI G h it env S).bind fun xs S => (lcGo (lcFn G h t c elt env own) xs [] S).bind fun ds S => if ds.length ≤ BIG then .ok (.p (.lst ds)) S else .stk) Q X = _
  simp only [Rs_bind]
  refine Rs_ext fun xs S => ?_
  simp only [Rs_bind]
  exact Rs_ext fun ds S => by simp only [Rs_if, Rs_ok]
/-- one turn of a comprehension -/
theorem w_lcFn {t : T} {c elt : E} {own : List Nat} {x : P} {K : Option P → Sto → Prop} : Rs (lcFn G h t c elt env own x S) K X = onO (T.bind t x (wipeE env own)) fun e' => Rs (ev G h c e' S) (fun b S => asB b fun u => Br u (Rs (ev G h elt e' S) (fun v S => onO v.toP fun d => K (some d) S) X) (K none S)) X := by
  unfold lcFn
  cases h1 : T.bind t x (wipeE env own) with
  | none => simp
  | some e' =>
    simp only [Rs_bind, onO_some]
    refine Rs_ext fun b S => ?_
    split
    · rw [asB_bl, Br_true, Rs_bind]
      refine Rs_ext fun v S => ?_
      cases h2 : v.toP <;> simp <;> rfl
    · simp
    · rename_i n1 n2; simp only [Rs_stk, eq_iff_iff, false_iff]; rintro ⟨t, e, _⟩
      cases t
      · exact n2 e
      · exact n1 e
/-- a comprehension that keeps all: each item by a relation that may change the state -/
theorem lcGo_all {f : P → Sto → Res (Option P)} (I : Nat → Sto → Prop) (R : Nat → P → P → Prop) {X : Nat → Option P → Sto → Prop} : ∀ (xs acc : List P) (i : Nat) (S : Sto) (K : List P → Sto → Prop), I i S →
    (∀ j x S, xs[j]? = some x → I (i + j) S → Rs (f x S) (fun o S' => ∃ d, o = some d ∧ R (i + j) x d ∧ I (i + j + 1) S') (fun _ _ _ => False)) →
    (∀ ds S', ds.length = xs.length → (∀ j x d, xs[j]? = some x → ds[j]? = some d → R (i + j) x d) → I (i + xs.length) S' → K (acc ++ ds) S') → Rs (lcGo f xs acc S) K X
  | [], acc, i, S, K, hI, _, hK => by
    have := hK [] S rfl (fun j x d e => by simp at e) hI
    simpa [lcGo] using this
  | x :: xs, acc, i, S, K, hI, hf, hK => by
    have h0 := hf 0 x S rfl hI
    rw [lcGo]
    cases hr : f x S with
    | ok o S1 =>
      rw [hr] at h0
      obtain ⟨d, rfl, h1, h2⟩ := h0
      refine lcGo_all I R xs (acc ++ [d]) (i + 1) S1 K h2 (fun j y S e hI => ?_) fun ds S' hl hR hI => ?_
      · have := hf (j + 1) y S (by simpa using e) (by rw [show i + (j + 1) = i + 1 + j by omega]; exact hI)
        rwa [show i + (j + 1) = i + 1 + j by omega] at this
      · have := hK (d :: ds) S' (by simp [hl]) (fun j y e he hd => ?_) (by rw [show i + (x :: xs).length = i + 1 + xs.length by simp; omega]; exact hI)
        · simpa using this
        · cases j with
          | zero => simp at he hd; subst he hd; exact h1
          | succ j => rw [show i + (j + 1) = i + 1 + j by omega]; exact hR j y e (by simpa using he) (by simpa using hd)
    | exc c d S1 => rw [hr] at h0; exact h0.elim
    | stk => rw [hr] at h0; exact h0.elim
/-- .. that changes nothing and is a function -/
theorem lcGo_map {f : P → Sto → Res (Option P)} (g : P → P) {X : Nat → Option P → Sto → Prop} {S : Sto} : ∀ (xs acc : List P) (K : List P → Sto → Prop),
    (∀ x ∈ xs, Rs (f x S) (fun o S' => o = some (g x) ∧ S' = S) (fun _ _ _ => False)) → K (acc ++ xs.map g) S → Rs (lcGo f xs acc S) K X
  | [], acc, K, _, hK => by simpa [lcGo] using hK
  | x :: xs, acc, K, hf, hK => by
    have h0 := hf x (by simp)
    rw [lcGo]
    cases hr : f x S with
    | ok o S1 =>
      rw [hr] at h0
      obtain ⟨rfl, rfl⟩ := h0
      exact lcGo_map g xs (acc ++ [g x]) K (fun y hy => hf y (by simp [hy])) (by simpa using hK)
    | exc c d S1 => rw [hr] at h0; exact h0.elim
    | stk => rw [hr] at h0; exact h0.elim
/-- .. that keeps some -/
theorem lcGo_fm {f : P → Sto → Res (Option P)} (g : P → Option P) {X : Nat → Option P → Sto → Prop} {S : Sto} : ∀ (xs acc : List P) (K : List P → Sto → Prop),
    (∀ x ∈ xs, Rs (f x S) (fun o S' => o = g x ∧ S' = S) (fun _ _ _ => False)) → K (acc ++ xs.filterMap g) S → Rs (lcGo f xs acc S) K X
  | [], acc, K, _, hK => by simpa [lcGo] using hK
  | x :: xs, acc, K, hf, hK => by
    have h0 := hf x (by simp)
    rw [lcGo]
    cases hr : f x S with
    | ok o S1 =>
      rw [hr] at h0
      obtain ⟨rfl, rfl⟩ := h0
      cases hg : g x with
      | none => exact lcGo_fm g xs acc K (fun y hy => hf y (by simp [hy])) (by simpa [hg] using hK)
      | some d => exact lcGo_fm g xs (acc ++ [d]) K (fun y hy => hf y (by simp [hy])) (by simpa [hg] using hK)
    | exc c d S1 => rw [hr] at h0; exact h0.elim
    | stk => rw [hr] at h0; exact h0.elim
/-- the words of an error -/
def kinQ (o : Option (Str × Bool)) (d : Option P) (Q : Val → Sto → Prop) (S : Sto) (_ : Wt Q := .mk) : Prop := match o, d with
  | some (w, false), none => Q (.p (.str w)) S
  | some (w, true), some d => Q (.p (.tup [.str w, d])) S
  | _, _ => False
@[simp] theorem kinQ_f (w : Str) (Q : Val → Sto → Prop) (S : Sto) : kinQ (some (w, false)) none Q S = Q (.p (.str w)) S := nrfl rfl
@[simp] theorem kinQ_t (w : Str) (d : P) (Q : Val → Sto → Prop) (S : Sto) : kinQ (some (w, true)) (some d) Q S = Q (.p (.tup [.str w, d])) S := nrfl rfl
@[simp] theorem w_tryl : Rs (ev G h (.tryl e) env S) Q X = Rs (ev G h e env S) (fun v S => onO v.toP fun d => Q (.p (.tup [.str "told", d])) S) (fun c d S => kinQ (G.kin c) d Q S) := by
  show Rs (match ev G h e env S with
    | .ok v S => match v.toP with
      | some d => .ok (.p (.tup [.str "told", d])) S
      | none => .stk
    | .exc c d S => match G.kin c, d with
      | some (w, false), none => .ok (.p (.str w)) S
      | some (w, true), some d => .ok (.p (.tup [.str w, d])) S
      | _, _ => .stk
    | .stk => .stk) Q X = _
  cases ev G h e env S with
  | stk => rfl
  | ok v S' =>
    simp only [Rs_ok]
    cases v.toP <;> rfl
  | exc c d S' =>
    simp only [Rs_exc, kinQ]
    split <;> simp_all
@[simp] theorem w_dsp0 : ev G h .dsp0 env S = .ok (.p (.dct [] [])) S := nrfl rfl
@[simp] theorem w_dsp1 : Rs (ev G h (.dsp1 a b) env S) Q X = Rs (ev G h a env S) (fun x S => Rs (ev G h b env S) (fun y S => onO x.toP fun k => onO y.toP fun v => (keyT k = true ∨ intKs [k] = true) ∧ Q (.p (.dct [k] [v])) S) X) X := by
  show Rs ((ev G h a env S).bind fun x S => (ev G h b env S).bind fun y S => match x.toP, y.toP with
    | some k, some v => if keyT k = true ∨ intKs [k] = true then .ok (.p (.dct [k] [v])) S else .stk
    | _, _ => .stk) Q X = _
  simp only [Rs_bind]
  refine Rs_ext fun x S => ?_; (first | rw [Rs_bind] | rw [Sq_of]); refine Rs_ext fun y S => ?_
  cases x.toP with
  | none => simp
  | some k =>
    cases y.toP with
    | none => simp
    | some v =>
      simp only [onO_some]
      by_cases hc : keyT k = true ∨ intKs [k] = true <;> simp [hc]
@[simp] theorem w_snil : evs G h .nil env S = .ok [] S := nrfl rfl
@[simp] theorem w_scons : evs G h (.cons a es) env S = (ev G h a env S).bind fun v S => (evs G h es env S).bind fun vs S => .ok (v :: vs) S := nrfl rfl
@[simp] theorem w_onil : evO G h .nil env S = .ok none S := nrfl rfl
@[simp] theorem w_opl {Q : Option Int → Sto → Prop} : Rs (evO G h (.pl a) env S) Q X = Rs (ev G h a env S) (fun v S => asI v fun i => Q (some i) S) X := by
  show Rs ((ev G h a env S).bind fun v S => match v with
    | .p (.int i) => .ok (some i) S
    | _ => .stk) Q X = _
  simp only [Rs_bind]
  refine Rs_ext fun x S => ?_
  cases x <;> try rfl
  rename_i d; cases d <;> rfl
@[simp] theorem w_ipl {Q : List P → Sto → Prop} : Rs (evI G h (.pl a) env S) Q X = Rs (ev G h a env S) (fun v S => asP v fun d => onO (items d) fun ds => Q ds S) X := by
  show Rs ((ev G h a env S).bind fun v S => match v with
    | .p d => Res.of (items d) S
    | _ => .stk) Q X = _
  simp only [Rs_bind]
  refine Rs_ext fun x S => ?_
  cases x <;> simp [asP] <;> rfl
@[simp] theorem w_irng {Q : List P → Sto → Prop} : Rs (evI G h (.rng a) env S) Q X = Rs (ev G h a env S) (fun v S => asI v fun j => (-1000 ≤ j ∧ j ≤ BIG) ∧ Q (rangeP 0 j.toNat) S) X := by
  show Rs ((ev G h a env S).bind fun v S => match v with
    | .p (.int j) => if -1000 ≤ j ∧ j ≤ BIG then .ok (rangeP 0 j.toNat) S else .stk
    | _ => .stk) Q X = _
  simp only [Rs_bind]
  refine Rs_ext fun x S => ?_
  cases x <;> try rfl
  rename_i d; cases d <;> simp [asI]
@[simp] theorem w_ienm {Q : List P → Sto → Prop} : Rs (evI G h (.enm a) env S) Q X = Rs (ev G h a env S) (fun v S => asP v fun d => onO (items d) fun ds => Q (enumP 0 ds) S) X := by
  show Rs ((ev G h a env S).bind fun v S => match v with
    | .p d => (Res.of (items d) S).bind fun xs S => .ok (enumP 0 xs) S
    | _ => .stk) Q X = _
  simp only [Rs_bind]
  refine Rs_ext fun x S => ?_
  cases x <;> simp [asP] <;> rfl
def zip3V (v w u : Val) : Option (List P) := match v, w, u with
  | .p (.lst xs), .p (.lst ys), .p (.lst zs) => some (zip3P xs ys zs)
  | _, _, _ => none
@[simp] theorem zip3V_l (xs ys zs : List P) : zip3V (.p (.lst xs)) (.p (.lst ys)) (.p (.lst zs)) = some (zip3P xs ys zs) := nrfl rfl
@[simp] theorem w_izip3 {c : E} {Q : List P → Sto → Prop} : Rs (evI G h (.zip3 a b c) env S) Q X = Rs (ev G h a env S) (fun v S => Rs (ev G h b env S) (fun w S => Rs (ev G h c env S) (fun u S => onO (zip3V v w u) fun ds => Q ds S) X) X) X := by
  show Rs ((ev G h a env S).bind fun v S => (ev G h b env S).bind fun w S => (ev G h c env S).bind fun u S => match v, w, u with
    | .p (.lst xs), .p (.lst ys), .p (.lst zs) => .ok (zip3P xs ys zs) S
    | _, _, _ => .stk) Q X = _
  simp only [Rs_bind]
  refine Rs_ext fun x S => ?_; (first | rw [Rs_bind] | rw [Sq_of]); refine Rs_ext fun y S => ?_; (first | rw [Rs_bind] | rw [Sq_of]); refine Rs_ext fun z S => ?_
  unfold zip3V
  split <;> simp
def tupOf : Val → Option (List P)
  | .p (.tup xs) => some xs
  | _ => none
@[simp] theorem tupOf_t (xs : List P) : tupOf (.p (.tup xs)) = some xs := nrfl rfl
@[simp] theorem w_cnt : Rs (ev G h (.cnt a b) env S) Q X = Rs (ev G h a env S) (fun x S => onO (tupOf x) fun xs => Rs (ev G h b env S) (fun v S => asP v fun d => cmpb (.tup xs) d = true ∧ Q (.p (.int (xs.countP fun z => P.eqv z d))) S) X) X := by
  show Rs ((ev G h a env S).bind fun x S => match x with
    | .p (.tup xs) => (ev G h b env S).bind fun v S => match v with
      | .p d => if cmpb (.tup xs) d then .ok (.p (.int (xs.countP fun z => P.eqv z d))) S else .stk
      | _ => .stk
    | _ => .stk) Q X = _
  simp only [Rs_bind]
  refine Rs_ext fun x S => ?_
  unfold tupOf
  split
  · rename_i xs
    simp only [onO_some, Rs_bind]
    refine Rs_ext fun v S => ?_
    cases v <;> simp [asP]
  · simp
def zipV (v w : Val) : Option (List P) := match v, w with
  | .p (.lst xs), .p (.lst ys) => some (zipP xs ys)
  | .p (.tup xs), .p (.tup ys) => some (zipP xs ys)
  | _, _ => none
@[simp] theorem zipV_l (xs ys : List P) : zipV (.p (.lst xs)) (.p (.lst ys)) = some (zipP xs ys) := nrfl rfl
@[simp] theorem zipV_t (xs ys : List P) : zipV (.p (.tup xs)) (.p (.tup ys)) = some (zipP xs ys) := nrfl rfl
@[simp] theorem w_izip {Q : List P → Sto → Prop} : Rs (evI G h (.zip a b) env S) Q X = Rs (ev G h a env S) (fun v S => Rs (ev G h b env S) (fun w S => onO (zipV v w) fun ds => Q ds S) X) X := by
  show Rs ((ev G h a env S).bind fun v S => (ev G h b env S).bind fun w S => match v, w with
    | .p (.lst xs), .p (.lst ys) => .ok (zipP xs ys) S
    | .p (.tup xs), .p (.tup ys) => .ok (zipP xs ys) S
    | _, _ => .stk) Q X = _
  simp only [Rs_bind]
  refine Rs_ext fun x S => ?_; (first | rw [Rs_bind] | rw [Sq_of]); refine Rs_ext fun y S => ?_
  unfold zipV
  split <;> first | rfl | simp_all
end

/-! ### statements -/
section
variable {G : Prog} {h : Hd} {env : Env} {St : Sto} {e es c : E} {a b : S} {N : Env → Sto → Prop} {D : Dn}
@[simp] theorem s_nil : ex G h .nil env St = .nx env St := nrfl rfl
@[simp] theorem s_seq : Sq (ex G h (.seq a b) env St) N D = Sq (ex G h a env St) (fun e S => Sq (ex G h b e S) N D) D := by
  show Sq (match ex G h a env St with | .nx e S => ex G h b e S | r => r) N D = _
  cases ex G h a env St <;> rfl
@[simp] theorem s_set (i : Nat) : ex G h (.set i e) env St = SR.of (ev G h e env St) fun v S => .nx (env.set i (some v)) S := nrfl rfl
@[simp] theorem s_setA (i n : Nat) : Sq (ex G h (.setA i n e) env St) N D = Rs (ev G h e env St) (fun v S => asP v fun d => mkP e d = true ∧ N ((clearE n env).set i (some (.l n))) (S.put n d)) D.xc := by
  show Sq (SR.of (ev G h e env St) fun v S => match v with
    | .p d => if mkP e d = true then .nx ((clearE n env).set i (some (.l n))) (S.put n d) else .stk
    | _ => .stk) N D = _
  simp only [Sq_of]
  refine Rs_ext fun x S => ?_
  cases x <;> try rfl
  rename_i d
  simp only [asP_p]
  by_cases hm : mkP e d = true <;> simp [hm]
@[simp] theorem s_asg (t : T) : Sq (ex G h (.asg t e) env St) N D = Rs (ev G h e env St) (fun v S => asP v fun d => onO (T.bind t d env) fun e' => N e' S) D.xc := by
  show Sq (SR.of (ev G h e env St) fun v S => match v with
    | .p d => match T.bind t d env with
      | some e' => .nx e' S
      | none => .stk
    | _ => .stk) N D = _
  simp only [Sq_of]
  refine Rs_ext fun x S => ?_
  cases x <;> try rfl
  rename_i d
  simp only [asP_p]
  cases h1 : T.bind t d env <;> simp <;> rfl
@[simp] theorem s_par (xs : PL) : Sq (ex G h (.par xs) env St) N D = Rs (evPL G h xs env St) (fun vs S => onS (stPL xs vs env S) N) D.xc := by
  show Sq (SR.of (evPL G h xs env St) fun vs S => match stPL xs vs env S with
    | some (e', S') => .nx e' S'
    | none => .stk) N D = _
  simp only [Sq_of]
  refine Rs_ext fun x S => ?_
  cases h1 : stPL xs x env S with
  | none => rfl
  | some p => obtain ⟨p1, p2⟩ := p; rfl
@[simp] theorem s_plnil : evPL G h .nil env St = .ok [] St := nrfl rfl
@[simp] theorem s_ple (i : Nat) (r : PL) : evPL G h (.e i e r) env St = (ev G h e env St).bind fun v S => (evPL G h r env S).bind fun vs S => .ok (v :: vs) S := nrfl rfl
@[simp] theorem s_pla (i n : Nat) (r : PL) {Q : List Val → Sto → Prop} {X : Nat → Option P → Sto → Prop} : Rs (evPL G h (.a i n e r) env St) Q X = Rs (ev G h e env St) (fun v S => asP v fun d => mkP e d = true ∧ Rs (evPL G h r env S) (fun vs S => Q (.p d :: vs) S) X) X := by
  show Rs ((ev G h e env St).bind fun v S => match v with
    | .p d => if mkP e d = true then (evPL G h r env S).bind fun vs S => .ok (.p d :: vs) S else .stk
    | _ => .stk) Q X = _
  simp only [Rs_bind]
  refine Rs_ext fun x S => ?_
  cases x <;> try rfl
  rename_i d
  simp only [asP_p]
  by_cases hm : mkP e d = true
  · simp only [hm, if_true, Rs_bind, true_and]
    exact Rs_ext fun _ _ => Rs_ok _ _
  · simp [hm]
/-- o[i] = v -/
def sidxV (v o i : Val) (S : Sto) : Option Sto := match v, o, i with
  | .p d, .l n, .p j => match S.get n with
    | some c => match sidxP c j d with
      | some c' => some (S.put n c')
      | none => none
    | none => none
  | _, _, _ => none
theorem sidxV_of {d : P} {n k : Nat} {j : Int} {S : Sto} {xs : List P} (h : S.get n = some (.lst xs)) (hk : L2.ixN xs.length j = some k) : sidxV (.p d) (.l n) (.p (.int j)) S = some (S.put n (.lst (xs.set k d))) := by
  simp only [sidxV, h, sidxP, hk, Option.map_some]
theorem sidxV_dct {d j : P} {n : Nat} {S : Sto} {ks vs : List P} (h : S.get n = some (.dct ks vs)) (hk : dkOk ks j = true) (hl : ks.length < BIG) : sidxV (.p d) (.l n) (.p j) S = some (S.put n (kPut ks vs j d)) := by
  simp only [sidxV, h, sidxP, hk, hl, and_self, if_true]
@[simp] theorem s_sidx (o i v : E) : Sq (ex G h (.sidx o i v) env St) N D = Rs (ev G h v env St) (fun v S => Rs (ev G h o env S) (fun o S => Rs (ev G h i env S) (fun i S => onO (sidxV v o i S) fun S => N env S) D.xc) D.xc) D.xc := by
  show Sq (SR.of (ev G h v env St) fun v S => SR.of (ev G h o env S) fun o S => SR.of (ev G h i env S) fun i S =>
    match v, o, i with
    | .p d, .l n, .p j => match S.get n with
      | some c => match sidxP c j d with
        | some c' => .nx env (S.put n c')
        | none => .stk
      | none => .stk
    | _, _, _ => .stk) N D = _
  simp only [Sq_of]
  refine Rs_ext fun v S => ?_; (first | rw [Rs_bind] | rw [Sq_of]); refine Rs_ext fun o S => ?_; (first | rw [Rs_bind] | rw [Sq_of]); refine Rs_ext fun i S => ?_
  unfold sidxV
  split
  · split
    · split <;> rfl
    · rfl
  · simp_all
@[simp] theorem s_aug (i : Nat) (o : O2) : Sq (ex G h (.aug i o e) env St) N D = onO env[i]? fun v => onO v fun v => asI v fun x => Rs (ev G h e env St) (fun y S => asI y fun y' => onO (augI o x y') fun z => N (env.set i (some (.p (.int z)))) S) D.xc := by
  show Sq (match env[i]? with
    | some (some (.p (.int x))) => SR.of (ev G h e env St) fun y S => match y with
      | .p (.int y) => match augI o x y with
        | some z => .nx (env.set i (some (.p (.int z)))) S
        | none => .stk
      | _ => .stk
    | _ => .stk) N D = _
  cases env[i]? with
  | none => rfl
  | some v =>
    cases v with
    | none => rfl
    | some v =>
      cases v <;> try rfl
      rename_i d
      cases d <;> try rfl
      rename_i x
      simp only [onO_some, asI_p, Sq_of]
      refine Rs_ext fun y S => ?_
      cases y <;> try rfl
      rename_i d
      cases d <;> try rfl
      rename_i y
      simp only [asI_p]
      cases h1 : augI o x y <;> rfl
@[simp] theorem s_expr : ex G h (.expr e) env St = SR.of (ev G h e env St) fun _ S => .nx env S := nrfl rfl
@[simp] theorem s_ret : ex G h (.ret e) env St = SR.of (ev G h e env St) fun v S => .ret v S := nrfl rfl
@[simp] theorem s_retn : ex G h .retn env St = .ret (.p .non) St := nrfl rfl
@[simp] theorem s_ite : Sq (ex G h (.ite c a b) env St) N D = Rs (ev G h c env St) (fun v S => asB v fun t => Br t (Sq (ex G h a env S) N D) (Sq (ex G h b env S) N D)) D.xc := by
  show Sq (SR.of (ev G h c env St) fun v S => match v with
    | .p (.bl true) => ex G h a env S
    | .p (.bl false) => ex G h b env S
    | _ => .stk) N D = _
  simp only [Sq_of]
  refine Rs_ext fun x S => ?_
  split
  · simp
  · simp
  · rename_i n1 n2; simp only [Sq_stk, eq_iff_iff, false_iff]; rintro ⟨t, e, _⟩
    cases t
    · exact n2 e
    · exact n1 e
def forF (G : Prog) (h : Hd) (t : T) (body : S) (x : P) (env : Env) (S : Sto) : SR := match T.bind t x env with
      | some e' => ex G h body e' S
      | none => .stk
@[simp] theorem s_for (t : T) (it : E) (body : S) : ex G h (.floop t it body) env St = SR.of (evI G h it env St) fun xs S => forGo (forF G h t body) xs env S := nrfl rfl
theorem s_forF {t : T} {body : S} {x : P} : Sq (forF G h t body x env St) N D = onO (T.bind t x env) fun e' => Sq (ex G h body e' St) N D := by
  unfold forF
  cases h1 : T.bind t x env <;> rfl
/-- a for loop by its invariant -/
theorem for_invF {f : P → Env → Sto → SR} (I : Nat → Env → Sto → Prop) : ∀ (xs : List P) (i : Nat) (env : Env) (St : Sto), I i env St →
    (∀ j x env St, xs[j]? = some x → I (i + j) env St → Sq (f x env St) (I (i + j + 1)) ⟨D.rt, N, I (i + j + 1), D.xc⟩) → (∀ env St, I (i + xs.length) env St → N env St) → Sq (forGo f xs env St) N D
  | [], i, env, St, hI, _, hN => hN env St hI
  | x :: xs, i, env, St, hI, hf, hN => by
    have h0 := hf 0 x env St rfl hI
    rw [forGo]
    have next : ∀ e S1, I (i + 1) e S1 → Sq (forGo f xs e S1) N D := fun e S1 h1 => for_invF I xs (i + 1) e S1 h1 (fun j y e' S' ey hI => by
      have := hf (j + 1) y e' S' (by simpa using ey) (by rw [show i + (j + 1) = i + 1 + j by omega]; exact hI)
      rwa [show i + (j + 1) = i + 1 + j by omega] at this) fun e' S' hI => hN e' S' (by rw [show i + (x :: xs).length = i + 1 + xs.length by simp; omega]; exact hI)
    cases hr : f x env St with
    | nx e S1 => rw [hr] at h0; exact next e S1 h0
    | ct e S1 => rw [hr] at h0; exact next e S1 h0
    | bk e S1 => rw [hr] at h0; exact h0
    | ret v S1 => rw [hr] at h0; exact h0
    | exc c d S1 => rw [hr] at h0; exact h0
    | stk => rw [hr] at h0; exact h0.elim
theorem for_inv {f : P → Env → Sto → SR} (I : Nat → Env → Sto → Prop) (xs : List P) (env : Env) (St : Sto) (h0 : I 0 env St)
    (hs : ∀ j x env St, xs[j]? = some x → I j env St → Sq (f x env St) (I (j + 1)) ⟨D.rt, N, I (j + 1), D.xc⟩) (hN : ∀ env St, I xs.length env St → N env St) : Sq (forGo f xs env St) N D := by
  refine for_invF I xs 0 env St h0 (fun j x env St e h => ?_) (fun env St h => hN env St (by rwa [Nat.zero_add] at h))
  rw [Nat.zero_add] at h ⊢
  exact hs j x env St e h
@[simp] theorem s_while (c : E) (body : S) : ex G h (.wloop c body) env St = whileGo (fun env S => ev G h c env S) (fun env S => ex G h body env S) FUEL env St := nrfl rfl
/-- a while loop by its invariant and a measure -/
theorem while_inv {c : Env → Sto → Res Val} {f : Env → Sto → SR} (I : Nat → Env → Sto → Prop) : ∀ (n m : Nat) (env : Env) (St : Sto), n < m → I n env St →
    (∀ n env St, I n env St → Rs (c env St) (fun v S => asB v fun t => Br t (∃ n', n = n' + 1 ∧ Sq (f env S) (fun e S => ∃ k, k ≤ n' ∧ I k e S) ⟨D.rt, N, fun e S => ∃ k, k ≤ n' ∧ I k e S, D.xc⟩) (N env S)) D.xc) → Sq (whileGo c f m env St) N D := by
  intro n m
  induction m generalizing n with
  | zero => intro env St h; omega
  | succ m ih =>
    intro env St hm hI hstep
    have h0 := hstep n env St hI
    show Sq (SR.of (c env St) fun v S => match v with
      | .p (.bl true) => match f env S with
        | .nx e S => whileGo c f m e S
        | .ct e S => whileGo c f m e S
        | .bk e S => .nx e S
        | r => r
      | .p (.bl false) => .nx env S
      | _ => .stk) N D
    rw [Sq_of]
    refine h0.mono fun v S ⟨t, hv, hb⟩ => ?_
    subst hv
    cases t with
    | false => simpa using hb
    | true =>
      rw [Br_true] at hb
      obtain ⟨n', rfl, hb⟩ := hb
      simp only
      cases hr : f env S with
      | nx e S1 => rw [hr] at hb; obtain ⟨k, hk, hI⟩ := hb; exact ih k e S1 (by omega) hI hstep
      | ct e S1 => rw [hr] at hb; obtain ⟨k, hk, hI⟩ := hb; exact ih k e S1 (by omega) hI hstep
      | bk e S1 => rw [hr] at hb; exact hb
      | ret v S1 => rw [hr] at hb; exact hb
      | exc c d S1 => rw [hr] at hb; exact hb
      | stk => rw [hr] at hb; exact hb.elim
def frzV (o : Option (Option Val)) (env : Env) (S : Sto) : Option (Env × Sto) := match o with
  | some (some (.l n)) => if 100 ≤ n then match S.get n with
    | some d => some (frzE n d env, S.del n)
    | none => none
    else none
  | some (some (.p _)) => some (env, S)
  | _ => none
@[simp] theorem frzV_p (d : P) (env : Env) (S : Sto) : frzV (some (some (.p d))) env S = some (env, S) := nrfl rfl
theorem frzV_l {n : Nat} {d : P} {env : Env} {S : Sto} (hn : 100 ≤ n) (h : S.get n = some d) : frzV (some (some (.l n))) env S = some (frzE n d env, S.del n) := by
  simp only [frzV, h, hn, if_true]
@[simp] theorem s_frzv (i : Nat) : Sq (ex G h (.frzv i) env St) N D = onS (frzV env[i]? env St) N := by
  show Sq (match env[i]? with
    | some (some (.l n)) => if 100 ≤ n then match St.get n with
      | some d => .nx (frzE n d env) (St.del n)
      | none => .stk
      else .stk
    | some (some (.p _)) => .nx env St
    | _ => .stk) N D = _
  unfold frzV
  split
  · rename_i n e
    by_cases h1 : 100 ≤ n
    · cases h2 : St.get n <;> simp [h1]
    · simp [h1]
  · rfl
  · simp_all
@[simp] theorem s_retA (n : Nat) : Sq (ex G h (.retA n e) env St) N D = Rs (ev G h e env St) (fun v S => asP v fun d => mkP e d = true ∧ D.rt (.l n) (S.put n d)) D.xc := by
  show Sq (SR.of (ev G h e env St) fun v S => match v with
    | .p d => if mkP e d = true then .ret (.l n) (S.put n d) else .stk
    | _ => .stk) N D = _
  simp only [Sq_of]
  refine Rs_ext fun x S => ?_
  cases x <;> try rfl
  rename_i d
  simp only [asP_p]
  by_cases hm : mkP e d = true <;> simp [hm]
@[simp] theorem s_rais (c : Nat) : ex G h (.rais c) env St = .exc c none St := nrfl rfl
@[simp] theorem s_doc : ex G h .doc env St = .nx env St := nrfl rfl
@[simp] theorem s_brk : ex G h .brk env St = .bk env St := nrfl rfl
@[simp] theorem s_cnt : ex G h .cnt env St = .ct env St := nrfl rfl
def locOf : Val → Option Nat
  | .l n => some n
  | _ => none
@[simp] theorem locOf_l (n : Nat) : locOf (.l n) = some n := nrfl rfl
@[simp] theorem locsV_nil (l : List Nat) : locsV [] l = l := nrfl rfl
@[simp] theorem locsV_cp (d : P) (vs : List Val) (l : List Nat) : locsV (.p d :: vs) l = locsV vs l := nrfl rfl
@[simp] theorem locsV_cl (n : Nat) (vs : List Val) (l : List Nat) : locsV (.l n :: vs) l = locsV vs (addL l n) := nrfl rfl
@[simp] theorem renV_p1 (ls : List Nat) (d : P) : renV ls (.p d) = .p d := nrfl rfl
@[simp] theorem renV_l1 (ls : List Nat) (n : Nat) : renV ls (.l n) = .l (at0 ls n) := nrfl rfl
@[simp] theorem handS_nil (S : Sto) (k : Nat) : handS S [] k = some [] := nrfl rfl
@[simp] theorem backS_nil (S' S : Sto) (k : Nat) : backS S' [] k S = some S := nrfl rfl
@[simp] theorem s_setC (i n f : Nat) : Sq (ex G h (.setC i n f es) env St) N D = Rs (evs G h es env St) (fun vs S => onO (handS S (locsV vs []) 0) fun S0 => Rs (h (.p (.gl f)) (vs.map (renV (locsV vs []))) S0) (fun w S' => onO (locOf w) fun k => onO (backS S' (locsV vs []) 0 S) fun S2 => onO (S'.get k) fun o => (locsV vs []).length ≤ k ∧
    N ((clearE n env).set i (some (.l n))) (S2.put n o)) (fun c d S' => onO (backS S' (locsV vs []) 0 S) fun S2 => D.xc c d S2)) D.xc := by
  show Sq (SR.of (evs G h es env St) fun vs S =>
    match handS S (locsV vs []) 0 with
    | some S0 => match h (.p (.gl f)) (vs.map (renV (locsV vs []))) S0 with
      | .ok (.l k) S' => match backS S' (locsV vs []) 0 S, S'.get k with
        | some S2, some o => if (locsV vs []).length ≤ k then .nx ((clearE n env).set i (some (.l n))) (S2.put n o) else .stk
        | _, _ => .stk
      | .exc c d S' => match backS S' (locsV vs []) 0 S with
        | some S2 => .exc c d S2
        | none => .stk
      | _ => .stk
    | none => .stk) N D = _
  simp only [Sq_of]
  refine Rs_ext fun vs S => ?_
  cases h1 : handS S (locsV vs []) 0 with
  | none => rfl
  | some S0 =>
    simp only [onO_some]
    cases h2 : h (.p (.gl f)) (vs.map (renV (locsV vs []))) S0 with
    | stk => rfl
    | exc c d S' => cases h3 : backS S' (locsV vs []) 0 S <;> simp [h3]
    | ok w S' =>
      cases w with
      | p d => rfl
      | f _ _ _ => rfl
      | l k =>
        cases h3 : backS S' (locsV vs []) 0 S <;> cases h4 : S'.get k <;> simp [h3, h4]
        rename_i S2 o
        by_cases h5 : (locsV vs []).length ≤ k <;> simp [h5]
end

/-! ### defs -/
theorem w_callF {G : Pg} {k f : Nat} {fd : FD} {as : List Val} {S : Sto} {Q : Val → Sto → Prop} {X : Nat → Option P → Sto → Prop} (hp : G.prim f = none) (hf : G.fn f = some fd) (hl : as.length = fd.np) (hs : (S.all fun p => decide (p.1 < 100)) = true)
    (hb : Sq (ex G.toProg (callF G k) fd.body (as.map some ++ List.replicate fd.nl none) S) (fun _ S => Q (.p .non) S) ⟨fun v S => (∀ i b c, v ≠ .f i b c) ∧ Q v S, fun _ _ => False, fun _ _ => False, X⟩) : Rs (callF G (k + 1) (.p (.gl f)) as S) Q X := by
  show Rs (match G.prim f with
    | some p => p (callF G k) as S
    | none => match G.fn f with
      | some fd => if as.length = fd.np ∧ (S.all fun p => decide (p.1 < 100)) = true then retR fd.np (ex G.toProg (callF G k) fd.body (as.map some ++ List.replicate fd.nl none) S) else .stk
      | none => .stk) Q X
  rw [hp, hf]
  simp only [hl, hs, and_self, if_true]
  cases hr : ex G.toProg (callF G k) fd.body (as.map some ++ List.replicate fd.nl none) S with
  | nx e S' => rw [hr] at hb; exact hb
  | ret v S' =>
    rw [hr] at hb
    obtain ⟨h1, h2⟩ := hb
    cases v with
    | p d => exact h2
    | l n => exact h2
    | f i b c => exact (h1 i b c rfl).elim
  | bk _ _ => rw [hr] at hb; exact hb.elim
  | ct _ _ => rw [hr] at hb; exact hb.elim
  | exc c d S' => rw [hr] at hb; exact hb
  | stk => rw [hr] at hb; exact hb.elim
theorem locsV_p : ∀ (ds : List P) (l : List Nat), locsV (ds.map Val.p) l = l
  | [], _ => rfl
  | _ :: ds, l => locsV_p ds l
theorem renV_p (ls : List Nat) (ds : List P) : (ds.map Val.p).map (renV ls) = ds.map Val.p := by
  simp [renV]
/-- a call with data alone -/
theorem w_callP {h : Hd} {f : Nat} {vs : List Val} {ds : List P} {S : Sto} {Q : Val → Sto → Prop} {X : Nat → Option P → Sto → Prop} (e : vs = ds.map .p)
    (hc : Rs (h (.p (.gl f)) vs []) (fun v _ => ∃ d, v = .p d ∧ Q (.p d) S) (fun c d _ => X c d S)) : Rs (callV h (.p (.gl f)) vs S) Q X := by
  subst e
  have hl : locsV (Val.p (.gl f) :: ds.map Val.p) [] = [] := locsV_p ds []
  unfold callV
  rw [hl, renV_p]
  show Rs (match handS S [] 0 with | some S0 => backR [] S (h (renV [] (.p (.gl f))) (ds.map Val.p) S0) | none => .stk) Q X
  show Rs (backR [] S (h (.p (.gl f)) (ds.map Val.p) [])) Q X
  cases hr : h (.p (.gl f)) (ds.map Val.p) [] with
  | ok v S' =>
    rw [hr] at hc
    obtain ⟨d, rfl, q⟩ := hc
    exact q
  | exc c d S' => rw [hr] at hc; exact hc
  | stk => rw [hr] at hc; exact hc.elim
/-- a call that gives what is wished (the interpreter is not run by the way) -/
theorem callQ {G : Pg} {k f : Nat} {fd : FD} {as : List Val} {S : Sto} {Q : P → Prop} (hp : G.prim f = none) (hf : G.fn f = some fd) (hl : as.length = fd.np) (hs : (S.all fun p => decide (p.1 < 100)) = true)
    (hb : Sq (ex G.toProg (callF G k) fd.body (as.map some ++ List.replicate fd.nl none) S) (fun _ S => Q .non) ⟨fun v S => ∃ d, v = .p d ∧ Q d, fun _ _ => False, fun _ _ => False, fun _ _ _ => False⟩) : ∃ d S', callF G (k + 1) (.p (.gl f)) as S = .ok (.p d) S' ∧ Q d := by
  have h : Rs (callF G (k + 1) (.p (.gl f)) as S) (fun v _ => ∃ d, v = .p d ∧ Q d) (fun _ _ _ => False) := by
    apply w_callF hp hf hl hs
    generalize ex G.toProg (callF G k) fd.body (as.map some ++ List.replicate fd.nl none) S = r at *
    cases r with
    | nx e S => exact ⟨_, rfl, hb⟩
    | ret v S =>
      obtain ⟨d, rfl, hd⟩ := (hb : ∃ d, v = .p d ∧ Q d)
      exact And.intro (fun i b c e => nomatch e) ⟨d, rfl, hd⟩
    | _ => exact hb
  revert h
  generalize callF G (k + 1) (.p (.gl f)) as S = r
  intro h
  cases r with
  | ok v S =>
    obtain ⟨d, rfl, hd⟩ := (h : ∃ d, v = .p d ∧ Q d)
    exact ⟨d, S, rfl, hd⟩
  | exc c d S => exact h.elim
  | stk => exact h.elim
theorem callEx {G : Pg} {k f : Nat} {fd : FD} {as : List Val} {S : Sto} {d : P} (hp : G.prim f = none) (hf : G.fn f = some fd) (hl : as.length = fd.np) (hs : (S.all fun p => decide (p.1 < 100)) = true)
    (hb : Sq (ex G.toProg (callF G k) fd.body (as.map some ++ List.replicate fd.nl none) S) (fun _ S => P.non = d) ⟨fun v S => v = .p d, fun _ _ => False, fun _ _ => False, fun _ _ _ => False⟩) : ∃ S', callF G (k + 1) (.p (.gl f)) as S = .ok (.p d) S' := by
  obtain ⟨d', S', e, rfl⟩ := callQ (k := k) (Q := fun x => x = d) hp hf hl hs (by
    revert hb
    generalize ex G.toProg (callF G k) fd.body (as.map some ++ List.replicate fd.nl none) S = r
    intro hb
    cases r with
    | ret v S => exact ⟨d, hb, rfl⟩
    | _ => exact hb)
  exact ⟨S', e⟩
theorem callXx {G : Pg} {k f : Nat} {fd : FD} {as : List Val} {S : Sto} {c : Nat} {d : Option P} (hp : G.prim f = none) (hf : G.fn f = some fd) (hl : as.length = fd.np) (hs : (S.all fun p => decide (p.1 < 100)) = true)
    (hb : Sq (ex G.toProg (callF G k) fd.body (as.map some ++ List.replicate fd.nl none) S) (fun _ S => False) ⟨fun v S => False, fun _ _ => False, fun _ _ => False, fun c' d' _ => c' = c ∧ d' = d⟩) : ∃ S', callF G (k + 1) (.p (.gl f)) as S = .exc c d S' := by
  have h : Rs (callF G (k + 1) (.p (.gl f)) as S) (fun _ _ => False) (fun c' d' _ => c' = c ∧ d' = d) := by
    apply w_callF hp hf hl hs
    generalize ex G.toProg (callF G k) fd.body (as.map some ++ List.replicate fd.nl none) S = r at *
    cases r with
    | ret v S => exact hb.elim
    | _ => exact hb
  revert h
  generalize callF G (k + 1) (.p (.gl f)) as S = r
  intro h
  cases r with
  | ok v S => exact h.elim
  | exc c d S => obtain ⟨rfl, rfl⟩ := h; exact ⟨S, rfl⟩
  | stk => exact h.elim
end Hb

namespace Hb
open PySem PySem.Spec PyProof.Rows L2
def fd0 : FD := ⟨3, 0, (.seq (.ret (.and (.cons (.isi (.var 0) [.int]) (.cons (.not (.isi (.var 0) [.bool])) (.cons (.chain .le .le (.var 1) (.var 0) (.var 2)) .nil)))))
  .nil)⟩
def fd1 : FD := ⟨3, 0, (.seq (.ret (.and (.cons (.isi (.var 0) [.tuple]) (.cons (.chain .le .le (.var 1) (.bi .len (.cons (.var 0) .nil)) (.var 2)) .nil))))
  .nil)⟩
def fd2 : FD := ⟨2, 0, (.seq (.ret (.and (.cons (.call 1 (.cons (.var 0) (.cons (.cst (.int 2)) (.cons (.cst (.int 2)) .nil)))) (.cons (.isi (.idx (.var 0) (.cst (.int 0))) [.bool]) (.cons (.call 0 (.cons (.idx (.var 0) (.cst (.int 1))) (.cons (.cst (.int 0)) (.cons (.op .sub (.var 1) (.cst (.int 1))) .nil)))) .nil)))))
  .nil)⟩
def fd3 : FD := ⟨3, 1, (.seq (.ret (.and (.cons (.call 1 (.cons (.var 1) (.cons (.var 0) (.cons (.var 0) .nil)))) (.cons (.bi .all (.cons (.lc (.nm 3) (.pl (.var 1)) (.cst (.bl true)) (.call 2 (.cons (.var 3) (.cons (.var 2) .nil))) [3]) .nil)) .nil))))
  .nil)⟩
def fd4 : FD := ⟨2, 1, (.seq (.ret (.and (.cons (.call 1 (.cons (.var 1) (.cons (.cst (.int 1)) (.cons (.glb 47) .nil)))) (.cons (.bi .all (.cons (.lc (.nm 2) (.pl (.var 1)) (.cst (.bl true)) (.call 3 (.cons (.var 0) (.cons (.var 2) (.cons (.bi .len (.cons (.var 1) .nil)) .nil)))) [2]) .nil)) .nil))))
  .nil)⟩
def fd5 : FD := ⟨1, 1, (.seq (.ite (.or (.cons (.not (.call 1 (.cons (.var 0) (.cons (.cst (.int 2)) (.cons (.cst (.int 2)) .nil))))) (.cons (.not (.call 0 (.cons (.idx (.var 0) (.cst (.int 0))) (.cons (.cst (.int 1)) (.cons (.cst (.int 3)) .nil))))) (.cons (.not (.call 1 (.cons (.idx (.var 0) (.cst (.int 1))) (.cons (.cst (.int 1)) (.cons (.glb 48) .nil))))) .nil))))
  (.seq (.ret (.cst (.bl false)))
  .nil)
  .nil)
  (.seq (.ret (.bi .all (.cons (.lc (.nm 1) (.pl (.idx (.var 0) (.cst (.int 1)))) (.cst (.bl true)) (.call 4 (.cons (.idx (.var 0) (.cst (.int 0))) (.cons (.var 1) .nil))) [1]) .nil)))
  .nil))⟩
def fd6 : FD := ⟨1, 0, (.seq (.ite (.not (.call 5 (.cons (.var 0) .nil)))
  (.seq (.rais 34)
  .nil)
  .nil)
  .nil)⟩
def fd7 : FD := ⟨1, 0, (.seq (.ret (.op .mul (.tup (.cons (.cst (.int 0)) .nil)) (.bi .len (.cons (.idx (.var 0) (.cst (.int 1))) .nil))))
  .nil)⟩
def fd8 : FD := ⟨3, 5, (.seq (.set 3 (.var 1))
  (.seq (.floop (.tp (.tcons (.nm 4) (.tcons (.nm 5) .tnil))) (.enm (.idx (.var 0) (.cst (.int 1))))
  (.seq (.asg (.tp (.tcons (.nm 6) (.tcons (.nm 7) .tnil))) (.idx (.idx (.var 5) (.idx (.var 1) (.var 4))) (.var 2)))
  (.seq (.set 3 (.op .add (.op .add (.slc (.var 3) .nil (.pl (.var 4))) (.tup (.cons (.var 7) .nil))) (.slc (.var 3) (.pl (.op .add (.var 4) (.cst (.int 1)))) .nil)))
  (.seq (.ite (.var 6)
  (.seq (.ret (.tup (.cons (.var 4) (.cons (.var 3) .nil))))
  .nil)
  .nil)
  .nil))))
  (.seq (.ret (.tup (.cons (.cst .non) (.cons (.var 3) .nil))))
  .nil)))⟩
def fd9 : FD := ⟨4, 13, (.seq (.set 4 (.tup (.cons (.call 7 (.cons (.var 0) .nil)) (.cons (.call 7 (.cons (.var 1) .nil)) .nil))))
  (.seq (.par (.e 5 (.lst (.cons (.tup (.cons (.var 4) (.cons (.tup .nil) .nil))) .nil)) (.a 6 100 (.dsp1 (.var 4) (.cst (.bl true))) .nil)))
  (.seq (.wloop (.op .ne (.var 5) (.lst .nil))
  (.seq (.setA 7 101 (.lst .nil))
  (.seq (.floop (.tp (.tcons (.tp (.tcons (.nm 8) (.tcons (.nm 9) .tnil))) (.tcons (.nm 10) .tnil))) (.pl (.var 5))
  (.seq (.floop (.nm 11) (.rng (.idx (.var 0) (.cst (.int 0))))
  (.seq (.asg (.tp (.tcons (.nm 12) (.tcons (.nm 13) .tnil))) (.call 8 (.cons (.var 0) (.cons (.var 8) (.cons (.var 11) .nil)))))
  (.seq (.asg (.tp (.tcons (.nm 14) (.tcons (.nm 15) .tnil))) (.call 8 (.cons (.var 1) (.cons (.var 9) (.cons (.var 11) .nil)))))
  (.seq (.set 16 (.op .add (.var 10) (.tup (.cons (.var 11) .nil))))
  (.seq (.ite (.op .ne (.appc 2 (.cons (.var 12) .nil)) (.appc 3 (.cons (.var 14) .nil)))
  (.seq (.ret (.var 16))
  .nil)
  .nil)
  (.seq (.ite (.op .notin (.tup (.cons (.var 13) (.cons (.var 15) .nil))) (.var 6))
  (.seq (.sidx (.var 6) (.tup (.cons (.var 13) (.cons (.var 15) .nil))) (.cst (.bl true)))
  (.seq (.expr (.met .append (.var 7) (.cons (.tup (.cons (.tup (.cons (.var 13) (.cons (.var 15) .nil))) (.cons (.var 16) .nil))) .nil)))
  .nil))
  .nil)
  .nil))))))
  .nil))
  (.seq (.set 5 (.var 7))
  (.seq (.frzv 7)
  .nil)))))
  (.seq (.ret (.cst .non))
  .nil))))⟩
def fd10 : FD := ⟨1, 0, (.seq (.ret (.var 0))
  .nil)⟩
def fd11 : FD := ⟨2, 2, (.seq (.asg (.tp (.tcons (.nm 2) (.tcons (.nm 3) .tnil))) (.var 0))
  (.seq (.ret (.tup (.cons (.var 2) (.cons (.op .add (.op .add (.slc (.var 3) .nil (.pl (.var 1))) (.tup (.cons (.idx (.var 3) (.op .add (.var 1) (.cst (.int 1)))) (.cons (.idx (.var 3) (.var 1)) .nil)))) (.slc (.var 3) (.pl (.op .add (.var 1) (.cst (.int 2)))) .nil)) .nil))))
  .nil))⟩
def fd12 : FD := ⟨2, 0, (.seq (.ret (.tup (.cons (.idx (.var 0) (.cst (.int 0))) (.cons (.op .add (.slc (.idx (.var 0) (.cst (.int 1))) .nil (.pl (.var 1))) (.slc (.idx (.var 0) (.cst (.int 1))) (.pl (.op .add (.var 1) (.cst (.int 1)))) .nil)) .nil))))
  .nil)⟩
def fd13 : FD := ⟨2, 0, (.seq (.ite (.op .eq (.var 0) (.var 1))
  (.seq (.ret (.op .add (.var 1) (.cst (.int 1))))
  .nil)
  .nil)
  (.seq (.ret (.ite (.op .eq (.var 0) (.op .add (.var 1) (.cst (.int 1)))) (.var 1) (.var 0)))
  .nil))⟩
def fd14 : FD := ⟨2, 0, (.seq (.ite (.or (.cons (.op .is (.var 0) (.cst .non)) (.cons (.op .eq (.var 0) (.var 1)) .nil)))
  (.seq (.ret (.cst .non))
  .nil)
  .nil)
  (.seq (.ret (.ite (.op .gt (.var 0) (.var 1)) (.op .sub (.var 0) (.cst (.int 1))) (.var 0)))
  .nil))⟩
def fd15 : FD := ⟨1, 2, (.seq (.expr (.call 6 (.cons (.var 0) .nil)))
  (.seq (.setA 1 100 (.lst .nil))
  (.seq (.floop (.nm 2) (.rng (.op .sub (.bi .len (.cons (.idx (.var 0) (.cst (.int 1))) .nil)) (.cst (.int 1))))
  (.seq (.ite (.op .is (.capp 9 (.var 0) (.call 11 (.cons (.var 0) (.cons (.var 2) .nil))) 1 [2] (.call 13 (.cons (.var 0) (.cons (.var 1) .nil))) 10) (.cst .non))
  (.seq (.expr (.met .append (.var 1) (.cons (.var 2) .nil)))
  .nil)
  .nil)
  .nil))
  (.seq (.frzv 1)
  (.seq (.ret (.var 1))
  .nil)))))⟩
def fd16 : FD := ⟨1, 2, (.seq (.expr (.call 6 (.cons (.var 0) .nil)))
  (.seq (.setA 1 100 (.lst .nil))
  (.seq (.floop (.nm 2) (.rng (.ite (.op .gt (.bi .len (.cons (.idx (.var 0) (.cst (.int 1))) .nil)) (.cst (.int 1))) (.bi .len (.cons (.idx (.var 0) (.cst (.int 1))) .nil)) (.cst (.int 0))))
  (.seq (.ite (.op .is (.capp 9 (.var 0) (.call 12 (.cons (.var 0) (.cons (.var 2) .nil))) 1 [2] (.call 14 (.cons (.var 0) (.cons (.var 1) .nil))) 10) (.cst .non))
  (.seq (.expr (.met .append (.var 1) (.cons (.var 2) .nil)))
  .nil)
  .nil)
  .nil))
  (.seq (.frzv 1)
  (.seq (.ret (.var 1))
  .nil)))))⟩
def fd17 : FD := ⟨2, 0, (.seq (.ite (.op .ge (.var 0) (.op .pow (.cst (.int 10)) (.cst (.int 18))))
  (.seq (.retA 100 (.lst (.cons (.op .sub (.var 0) (.op .pow (.cst (.int 10)) (.cst (.int 18)))) (.cons (.op .mod (.var 0) (.cst (.int 2147483579))) (.cons (.var 1) .nil)))))
  .nil)
  .nil)
  (.seq (.retA 101 (.lst (.cons (.cst (.int 0)) (.cons (.op .mod (.var 0) (.cst (.int 2147483579))) (.cons (.var 1) .nil)))))
  .nil))⟩
def fd18 : FD := ⟨2, 2, (.seq (.ite (.op .gt (.idx (.var 0) (.cst (.int 0))) (.cst (.int 1)))
  (.seq (.set 2 (.op .mod (.bi .int (.cons (.idx (.var 0) (.cst (.int 0))) .nil)) (.var 1)))
  (.seq (.sidx (.var 0) (.cst (.int 0)) (.op .fdiv (.idx (.var 0) (.cst (.int 0))) (.var 1)))
  (.seq (.ret (.var 2))
  .nil)))
  .nil)
  (.seq (.sidx (.var 0) (.cst (.int 2)) (.op .add (.idx (.var 0) (.cst (.int 2))) (.cst (.int 1))))
  (.seq (.set 3 (.op .mod (.op .pow (.op .add (.idx (.var 0) (.cst (.int 1))) (.op .mul (.cst (.int 15485867)) (.idx (.var 0) (.cst (.int 2))))) (.cst (.int 5))) (.cst (.int 2147483647))))
  (.seq (.set 2 (.op .fdiv (.op .mod (.op .pow (.op .add (.var 3) (.op .mul (.cst (.int 7919)) (.idx (.var 0) (.cst (.int 2))))) (.cst (.int 3))) (.cst (.int 2147483629))) (.cst (.int 32))))
  (.seq (.ret (.op .mod (.bi .int (.cons (.var 2) .nil)) (.var 1)))
  .nil)))))⟩
def fd19 : FD := ⟨1, 0, (.seq (.ite (.isi (.var 0) [.bool])
  (.seq (.ret (.cst (.int 1)))
  .nil)
  .nil)
  (.seq (.ite (.isi (.var 0) [.int])
  (.seq (.ret (.cst (.int 2)))
  .nil)
  .nil)
  (.seq (.ite (.isi (.var 0) [.str])
  (.seq (.ret (.cst (.int 3)))
  .nil)
  .nil)
  (.seq (.ite (.isi (.var 0) [.list])
  (.seq (.ret (.cst (.int 4)))
  .nil)
  .nil)
  (.seq (.ret (.ite (.isi (.var 0) [.tuple]) (.cst (.int 5)) (.cst (.int 6))))
  .nil)))))⟩
def fd20 : FD := ⟨2, 2, (.seq (.ite (.op .ne (.call 19 (.cons (.var 0) .nil)) (.call 19 (.cons (.var 1) .nil)))
  (.seq (.ret (.cst (.bl false)))
  .nil)
  .nil)
  (.seq (.ite (.and (.cons (.op .gt (.call 19 (.cons (.var 0) .nil)) (.cst (.int 3))) (.cons (.op .lt (.call 19 (.cons (.var 0) .nil)) (.cst (.int 6))) .nil)))
  (.seq (.ite (.op .ne (.bi .len (.cons (.var 0) .nil)) (.bi .len (.cons (.var 1) .nil)))
  (.seq (.ret (.cst (.bl false)))
  .nil)
  .nil)
  (.seq (.ret (.op .eq (.lc (.tp (.tcons (.nm 2) (.tcons (.nm 3) .tnil))) (.enm (.var 0)) (.not (.call 20 (.cons (.var 3) (.cons (.idx (.var 1) (.var 2)) .nil)))) (.var 2) [2, 3]) (.lst .nil)))
  .nil))
  .nil)
  (.seq (.ret (.op .eq (.var 0) (.var 1)))
  .nil)))⟩
def fd23 : FD := ⟨2, 3, (.seq (.set 2 (.op .add (.cst (.int 1)) (.call 18 (.cons (.var 0) (.cons (.cst (.int 4)) .nil)))))
  (.seq (.ret (.bi .tuple (.cons (.lc (.nm 4) (.rng (.var 2)) (.cst (.bl true)) (.bi .tuple (.cons (.lc (.nm 3) (.rng (.var 1)) (.cst (.bl true)) (.tup (.cons (.op .lt (.call 18 (.cons (.var 0) (.cons (.cst (.int 5)) .nil))) (.cst (.int 2))) (.cons (.call 18 (.cons (.var 0) (.cons (.var 2) .nil))) .nil))) [3]) .nil)) [4]) .nil)))
  .nil))⟩
def fd24 : FD := ⟨2, 4, (.seq (.par (.e 2 (.op .add (.cst (.int 1)) (.call 18 (.cons (.var 0) (.cons (.cst (.int 3)) .nil)))) (.a 3 100 (.lst .nil) .nil)))
  (.seq (.floop (.nm 4) (.rng (.op .add (.cst (.int 1)) (.call 18 (.cons (.var 0) (.cons (.var 1) .nil)))))
  (.seq (.set 5 (.call 23 (.cons (.var 0) (.cons (.var 2) .nil))))
  (.seq (.expr (.met .append (.var 3) (.cons (.ite (.and (.cons (.op .ne (.var 3) (.lst .nil)) (.cons (.op .eq (.call 18 (.cons (.var 0) (.cons (.cst (.int 6)) .nil))) (.cst (.int 0))) .nil))) (.idx (.var 3) (.neg (.cst (.int 1)))) (.var 5)) .nil)))
  .nil)))
  (.seq (.ret (.tup (.cons (.var 2) (.cons (.bi .tuple (.cons (.var 3) .nil)) .nil))))
  .nil)))⟩
def fd25 : FD := ⟨3, 6, (.seq (.par (.a 3 100 (.bi .list (.cons (.var 1) .nil)) (.e 4 (.cst .non) .nil)))
  (.seq (.floop (.tp (.tcons (.nm 5) (.tcons (.nm 6) .tnil))) (.enm (.idx (.var 0) (.cst (.int 1))))
  (.seq (.ite (.op .is (.var 4) (.cst .non))
  (.seq (.asg (.tp (.tcons (.nm 7) (.tcons (.nm 8) .tnil))) (.idx (.idx (.var 6) (.idx (.var 1) (.var 5))) (.var 2)))
  (.seq (.sidx (.var 3) (.var 5) (.var 8))
  (.seq (.set 4 (.ite (.var 7) (.var 5) (.cst .non)))
  .nil)))
  .nil)
  .nil))
  (.seq (.ret (.tup (.cons (.var 4) (.cons (.bi .tuple (.cons (.var 3) .nil)) .nil))))
  .nil)))⟩
def fd26 : FD := ⟨1, 0, (.seq (.ret (.op .mul (.tup (.cons (.cst (.int 0)) .nil)) (.bi .len (.cons (.idx (.var 0) (.cst (.int 1))) .nil))))
  .nil)⟩
def fd27 : FD := ⟨0, 6, (.seq (.set 0 (.tup (.cons (.tup (.cons (.tup (.cons (.cst (.bl true)) (.cons (.cst (.int 1)) .nil))) (.cons (.tup (.cons (.cst (.bl false)) (.cons (.cst (.int 0)) .nil))) .nil))) (.cons (.tup (.cons (.tup (.cons (.cst (.bl false)) (.cons (.cst (.int 0)) .nil))) (.cons (.tup (.cons (.cst (.bl false)) (.cons (.cst (.int 1)) .nil))) .nil))) .nil))))
  (.seq (.asg (.tp (.tcons (.nm 1) (.tcons (.nm 2) (.tcons (.nm 3) .tnil)))) (.tup (.cons (.tup (.cons (.tup (.cons (.tup (.cons (.cst (.bl true)) (.cons (.cst (.int 0)) .nil))) (.cons (.tup (.cons (.cst (.bl true)) (.cons (.cst (.int 0)) .nil))) .nil))) .nil)) (.cons (.tup (.cons (.tup (.cons (.tup (.cons (.cst (.bl true)) (.cons (.cst (.int 0)) .nil))) (.cons (.tup (.cons (.cst (.bl false)) (.cons (.cst (.int 0)) .nil))) .nil))) .nil)) (.cons (.tup (.cons (.tup (.cons (.tup (.cons (.cst (.bl false)) (.cons (.cst (.int 0)) .nil))) (.cons (.tup (.cons (.cst (.bl true)) (.cons (.cst (.int 0)) .nil))) .nil))) .nil)) .nil)))))
  (.seq (.set 4 (.tup (.cons (.tup (.cons (.tup (.cons (.cst (.bl false)) (.cons (.cst (.int 0)) .nil))) (.cons (.tup (.cons (.cst (.bl true)) (.cons (.cst (.int 1)) .nil))) .nil))) (.cons (.tup (.cons (.tup (.cons (.cst (.bl true)) (.cons (.cst (.int 0)) .nil))) (.cons (.tup (.cons (.cst (.bl false)) (.cons (.cst (.int 1)) .nil))) .nil))) .nil))))
  (.seq (.set 5 (.lst (.cons (.tup (.cons (.cst (.int 2)) (.cons (.tup (.cons (.var 0) .nil)) .nil))) (.cons (.tup (.cons (.cst (.int 2)) (.cons (.tup (.cons (.var 0) (.cons (.var 4) .nil))) .nil))) (.cons (.tup (.cons (.cst (.int 2)) (.cons (.tup (.cons (.var 0) (.cons (.var 0) .nil))) .nil))) (.cons (.tup (.cons (.cst (.int 2)) (.cons (.tup (.cons (.var 0) (.cons (.var 1) .nil))) .nil))) (.cons (.tup (.cons (.cst (.int 2)) (.cons (.tup (.cons (.var 2) (.cons (.var 3) .nil))) .nil))) .nil)))))))
  (.seq (.ret (.op .add (.var 5) (.lst (.cons (.tup (.cons (.cst (.int 2)) (.cons (.tup (.cons (.tup (.cons (.tup (.cons (.tup (.cons (.cst (.bl true)) (.cons (.cst (.int 1)) .nil))) (.cons (.tup (.cons (.cst (.bl true)) (.cons (.cst (.int 1)) .nil))) .nil))) (.cons (.tup (.cons (.tup (.cons (.cst (.bl false)) (.cons (.cst (.int 1)) .nil))) (.cons (.tup (.cons (.cst (.bl false)) (.cons (.cst (.int 1)) .nil))) .nil))) .nil))) .nil)) .nil))) .nil))))
  .nil)))))⟩
def fd28 : FD := ⟨4, 2, (.seq (.asg (.tp (.tcons (.nm 4) (.tcons (.nm 5) .tnil))) (.call 25 (.cons (.var 0) (.cons (.var 2) (.cons (.var 3) .nil)))))
  (.seq (.ret (.tup (.cons (.ite (.op .is (.var 4) (.cst .non)) (.cst .non) (.idx (.var 1) (.var 4))) (.cons (.var 5) .nil))))
  .nil))⟩
def fd29 : FD := ⟨5, 8, (.seq (.par (.a 5 101 (.lst (.cons (.tup (.cons (.call 26 (.cons (.var 0) .nil)) (.cons (.call 26 (.cons (.var 2) .nil)) .nil))) .nil)) (.a 6 100 .dsp0 .nil)))
  (.seq (.wloop (.op .ne (.var 5) (.lst .nil))
  (.seq (.set 7 (.met .pop (.var 5) .nil))
  (.seq (.ite (.op .notin (.var 7) (.var 6))
  (.seq (.sidx (.var 6) (.var 7) (.cst (.bl true)))
  (.seq (.floop (.nm 8) (.rng (.idx (.var 0) (.cst (.int 0))))
  (.seq (.asg (.tp (.tcons (.nm 9) (.tcons (.nm 10) .tnil))) (.call 28 (.cons (.var 0) (.cons (.var 1) (.cons (.idx (.var 7) (.cst (.int 0))) (.cons (.var 8) .nil))))))
  (.seq (.asg (.tp (.tcons (.nm 11) (.tcons (.nm 12) .tnil))) (.call 28 (.cons (.var 2) (.cons (.var 3) (.cons (.idx (.var 7) (.cst (.int 1))) (.cons (.var 8) .nil))))))
  (.seq (.ite (.op .ne (.ite (.op .isin (.var 9) (.var 4)) (.var 9) (.cst .non)) (.ite (.op .isin (.var 11) (.var 4)) (.var 11) (.cst .non)))
  (.seq (.ret (.cst (.bl false)))
  .nil)
  .nil)
  (.seq (.expr (.met .append (.var 5) (.cons (.tup (.cons (.var 10) (.cons (.var 12) .nil))) .nil)))
  .nil)))))
  .nil))
  .nil)
  .nil)))
  (.seq (.ret (.cst (.bl true)))
  .nil)))⟩
def fd30 : FD := ⟨1, 9, (.seq (.asg (.tp (.tcons (.nm 1) (.tcons (.nm 2) .tnil))) (.var 0))
  (.seq (.set 3 (.lrng (.bi .len (.cons (.var 2) .nil))))
  (.seq (.par (.a 4 101 (.lst .nil) (.a 5 100 (.lst .nil) .nil)))
  (.seq (.floop (.nm 6) (.rng (.op .sub (.bi .len (.cons (.var 3) .nil)) (.cst (.int 1))))
  (.seq (.set 7 (.op .add (.op .add (.slc (.var 3) .nil (.pl (.var 6))) (.lst (.cons (.op .add (.var 6) (.cst (.int 1))) (.cons (.var 6) .nil)))) (.slc (.var 3) (.pl (.op .add (.var 6) (.cst (.int 2)))) .nil)))
  (.seq (.set 8 (.tup (.cons (.var 1) (.cons (.bi .tuple (.cons (.lc (.nm 9) (.pl (.var 7)) (.cst (.bl true)) (.idx (.var 2) (.var 9)) [9]) .nil)) .nil))))
  (.seq (.ite (.call 29 (.cons (.var 0) (.cons (.var 3) (.cons (.var 8) (.cons (.var 7) (.cons (.var 3) .nil))))))
  (.seq (.expr (.met .append (.var 4) (.cons (.var 6) .nil)))
  .nil)
  .nil)
  .nil))))
  (.seq (.floop (.nm 6) (.rng (.ite (.op .gt (.bi .len (.cons (.var 3) .nil)) (.cst (.int 1))) (.bi .len (.cons (.var 3) .nil)) (.cst (.int 0))))
  (.seq (.set 7 (.op .add (.slc (.var 3) .nil (.pl (.var 6))) (.slc (.var 3) (.pl (.op .add (.var 6) (.cst (.int 1)))) .nil)))
  (.seq (.set 8 (.tup (.cons (.var 1) (.cons (.bi .tuple (.cons (.lc (.nm 9) (.pl (.var 7)) (.cst (.bl true)) (.idx (.var 2) (.var 9)) [9]) .nil)) .nil))))
  (.seq (.ite (.call 29 (.cons (.var 0) (.cons (.var 3) (.cons (.var 8) (.cons (.var 7) (.cons (.var 7) .nil))))))
  (.seq (.expr (.met .append (.var 5) (.cons (.var 6) .nil)))
  .nil)
  .nil)
  .nil))))
  (.seq (.frzv 4)
  (.seq (.frzv 5)
  (.seq (.ret (.lst (.cons (.var 4) (.cons (.var 5) .nil))))
  .nil))))))))⟩
def fd31 : FD := ⟨2, 6, (.seq (.asg (.tp (.tcons (.nm 2) (.tcons (.nm 3) .tnil))) (.tup (.cons (.call 18 (.cons (.var 0) (.cons (.var 1) .nil))) (.cons (.op .add (.cst (.int 1)) (.call 18 (.cons (.var 0) (.cons (.cst (.int 2)) .nil)))) .nil))))
  (.seq (.setA 4 100 (.lst .nil))
  (.seq (.floop (.nm 5) (.rng (.var 3))
  (.seq (.setA 6 101 (.lc (.nm 7) (.rng (.var 1)) (.cst (.bl true)) (.tup (.cons (.cst (.bl false)) (.cons (.ite (.op .eq (.var 7) (.var 2)) (.call 18 (.cons (.var 0) (.cons (.var 3) .nil))) (.var 5)) .nil))) [7]))
  (.seq (.sidx (.var 6) (.var 2) (.tup (.cons (.op .gt (.call 18 (.cons (.var 0) (.cons (.cst (.int 3)) .nil))) (.cst (.int 0))) (.cons (.idx (.idx (.var 6) (.var 2)) (.cst (.int 1))) .nil))))
  (.seq (.expr (.met .append (.var 4) (.cons (.bi .tuple (.cons (.var 6) .nil)) .nil)))
  .nil))))
  (.seq (.ret (.bi .tuple (.cons (.var 4) .nil)))
  .nil))))⟩
def fd32 : FD := ⟨1, 15, (.seq (.floop (.nm 1) (.pl (.slc (.op .add (.lst (.cons (.cst (.int 0)) .nil)) (.var 0)) .nil (.pl (.cst (.int 9)))))
  (.seq (.setC 2 100 17 (.cons (.var 1) (.cons (.cst (.int 5)) .nil)))
  (.seq (.set 3 (.call 24 (.cons (.var 2) (.cons (.cst (.int 3)) .nil))))
  (.seq (.set 4 (.op .add (.cst (.int 2)) (.call 18 (.cons (.var 2) (.cons (.cst (.int 2)) .nil)))))
  (.seq (.floop (.nm 3) (.pl (.lst (.cons (.var 3) (.cons (.tup (.cons (.var 4) (.cons (.tup (.cons (.call 31 (.cons (.var 2) (.cons (.var 4) .nil))) (.cons (.call 31 (.cons (.var 2) (.cons (.var 4) .nil))) (.cons (.call 31 (.cons (.var 2) (.cons (.var 4) .nil))) .nil)))) .nil))) .nil))))
  (.seq (.ite (.not (.call 20 (.cons (.lst (.cons (.call 15 (.cons (.var 3) .nil)) (.cons (.call 16 (.cons (.var 3) .nil)) .nil))) (.cons (.call 30 (.cons (.var 3) .nil)) .nil))))
  (.seq (.ret (.cst (.bl false)))
  .nil)
  .nil)
  .nil))
  (.seq (.floop (.nm 5) (.pl (.lst (.cons (.cst .non) (.cons (.tup .nil) (.cons (.tup (.cons (.cst (.int 2)) (.cons (.tup .nil) .nil))) (.cons (.bi .list (.cons (.var 3) .nil)) .nil))))))
  (.seq (.floop (.nm 6) (.pl (.tup (.cons (.glb 15) (.cons (.glb 16) .nil))))
  (.seq (.ite (.op .ne (.tryl (.app (.var 6) (.cons (.var 5) .nil))) (.cst (.str "row +")))
  (.seq (.ret (.cst (.bl false)))
  .nil)
  .nil)
  .nil))
  .nil))
  .nil))))))
  (.seq (.asg (.tp (.tcons (.nm 7) (.tcons (.nm 8) (.tcons (.nm 9) (.tcons (.nm 10) (.tcons (.nm 11) (.tcons (.nm 12) .tnil))))))) (.call 27 .nil))
  (.seq (.ite (.op .ne (.lst (.cons (.call 15 (.cons (.var 11) .nil)) (.cons (.call 15 (.cons (.var 8) .nil)) (.cons (.call 15 (.cons (.var 9) .nil)) (.cons (.call 15 (.cons (.var 7) .nil)) .nil))))) (.lst (.cons (.lst (.cons (.cst (.int 0)) .nil)) (.cons (.lst .nil) (.cons (.lst .nil) (.cons (.lst .nil) .nil))))))
  (.seq (.ret (.cst (.bl false)))
  .nil)
  .nil)
  (.seq (.ite (.op .ne (.lst (.cons (.call 16 (.cons (.var 11) .nil)) (.cons (.call 16 (.cons (.var 9) .nil)) (.cons (.call 16 (.cons (.var 7) .nil)) .nil)))) (.lst (.cons (.lst (.cons (.cst (.int 0)) (.cons (.cst (.int 1)) .nil))) (.cons (.lst (.cons (.cst (.int 1)) .nil)) (.cons (.lst .nil) .nil)))))
  (.seq (.ret (.cst (.bl false)))
  .nil)
  .nil)
  (.seq (.set 13 (.tup (.cons (.cst (.int 2)) (.cons (.op .add (.idx (.var 11) (.cst (.int 1))) (.slc (.idx (.var 10) (.cst (.int 1))) (.pl (.cst (.int 1))) .nil)) .nil))))
  (.seq (.ite (.or (.cons (.op .ne (.call 15 (.cons (.var 13) .nil)) (.lst (.cons (.cst (.int 0)) .nil))) (.cons (.op .ne (.call 16 (.cons (.var 13) .nil)) (.lst (.cons (.cst (.int 2)) .nil))) .nil)))
  (.seq (.ret (.cst (.bl false)))
  .nil)
  .nil)
  (.seq (.set 14 (.tup (.cons (.tup (.cons (.tup (.cons (.cst (.bl false)) (.cons (.cst (.int 0)) .nil))) (.cons (.tup (.cons (.cst (.bl false)) (.cons (.cst (.int 0)) .nil))) .nil))) .nil)))
  (.seq (.set 15 (.tup (.cons (.cst (.int 2)) (.cons (.tup (.cons (.var 14) (.cons (.idx (.idx (.var 7) (.cst (.int 1))) (.cst (.int 0))) (.cons (.var 14) .nil)))) .nil))))
  (.seq (.ret (.and (.cons (.op .eq (.call 15 (.cons (.var 15) .nil)) (.lst (.cons (.cst (.int 0)) (.cons (.cst (.int 1)) .nil)))) (.cons (.op .eq (.call 16 (.cons (.var 15) .nil)) (.lst (.cons (.cst (.int 0)) (.cons (.cst (.int 1)) (.cons (.cst (.int 2)) .nil))))) (.cons (.op .eq (.call 16 (.cons (.var 10) .nil)) (.lst (.cons (.cst (.int 1)) .nil))) .nil)))))
  .nil)))))))))⟩
def fnL : Nat → Option FD
  | 0 => some fd0
  | 1 => some fd1
  | 2 => some fd2
  | 3 => some fd3
  | 4 => some fd4
  | 5 => some fd5
  | 6 => some fd6
  | 7 => some fd7
  | 8 => some fd8
  | 9 => some fd9
  | 10 => some fd10
  | 11 => some fd11
  | 12 => some fd12
  | 13 => some fd13
  | 14 => some fd14
  | 15 => some fd15
  | 16 => some fd16
  | 17 => some fd17
  | 18 => some fd18
  | 19 => some fd19
  | 20 => some fd20
  | 23 => some fd23
  | 24 => some fd24
  | 25 => some fd25
  | 26 => some fd26
  | 27 => some fd27
  | 28 => some fd28
  | 29 => some fd29
  | 30 => some fd30
  | 31 => some fd31
  | 32 => some fd32
  | _ => none
def glL : Nat → P
  | 47 => .int 4
  | 48 => .int 3
  | g => .gl g
def arL : Nat → Option Nat
  | 10 => some 1
  | 15 => some 1
  | 16 => some 1
  | _ => none
def arcL : Nat → Option Nat
  | 10 => some 1
  | _ => none
def kinL : Nat → Option (Str × Bool)
  | 34 => some (("row +" : Str), false)
  | _ => none
def pg : Pg := { glb := glL, ar := arL, arc := arcL, kin := kinL, fn := fnL, lam := fun _ => none, prim := fun _ => none }
@[simp] theorem pg_prim (i : Nat) : pg.prim i = none := rfl
theorem pg_fn0 : pg.fn 0 = some fd0 := rfl
theorem pg_fn1 : pg.fn 1 = some fd1 := rfl
theorem pg_fn2 : pg.fn 2 = some fd2 := rfl
theorem pg_fn3 : pg.fn 3 = some fd3 := rfl
theorem pg_fn4 : pg.fn 4 = some fd4 := rfl
theorem pg_fn5 : pg.fn 5 = some fd5 := rfl
theorem pg_fn6 : pg.fn 6 = some fd6 := rfl
theorem pg_fn7 : pg.fn 7 = some fd7 := rfl
theorem pg_fn8 : pg.fn 8 = some fd8 := rfl
theorem pg_fn9 : pg.fn 9 = some fd9 := rfl
theorem pg_fn10 : pg.fn 10 = some fd10 := rfl
theorem pg_fn11 : pg.fn 11 = some fd11 := rfl
theorem pg_fn12 : pg.fn 12 = some fd12 := rfl
theorem pg_fn13 : pg.fn 13 = some fd13 := rfl
theorem pg_fn14 : pg.fn 14 = some fd14 := rfl
theorem pg_fn15 : pg.fn 15 = some fd15 := rfl
theorem pg_fn16 : pg.fn 16 = some fd16 := rfl
theorem pg_fn17 : pg.fn 17 = some fd17 := rfl
theorem pg_fn18 : pg.fn 18 = some fd18 := rfl
theorem pg_fn19 : pg.fn 19 = some fd19 := rfl
theorem pg_fn20 : pg.fn 20 = some fd20 := rfl
theorem pg_fn23 : pg.fn 23 = some fd23 := rfl
theorem pg_fn24 : pg.fn 24 = some fd24 := rfl
theorem pg_fn25 : pg.fn 25 = some fd25 := rfl
theorem pg_fn26 : pg.fn 26 = some fd26 := rfl
theorem pg_fn27 : pg.fn 27 = some fd27 := rfl
theorem pg_fn28 : pg.fn 28 = some fd28 := rfl
theorem pg_fn29 : pg.fn 29 = some fd29 := rfl
theorem pg_fn30 : pg.fn 30 = some fd30 := rfl
theorem pg_fn31 : pg.fn 31 = some fd31 := rfl
theorem pg_fn32 : pg.fn 32 = some fd32 := rfl
@[simp] theorem pg_gl47 : pg.glb 47 = .int 4 := rfl
@[simp] theorem pg_gl48 : pg.glb 48 = .int 3 := rfl
@[simp] theorem pg_gl0 : pg.glb 0 = .gl 0 := rfl
@[simp] theorem pg_gl1 : pg.glb 1 = .gl 1 := rfl
@[simp] theorem pg_gl2 : pg.glb 2 = .gl 2 := rfl
@[simp] theorem pg_gl3 : pg.glb 3 = .gl 3 := rfl
@[simp] theorem pg_gl4 : pg.glb 4 = .gl 4 := rfl
@[simp] theorem pg_gl5 : pg.glb 5 = .gl 5 := rfl
@[simp] theorem pg_gl6 : pg.glb 6 = .gl 6 := rfl
@[simp] theorem pg_gl7 : pg.glb 7 = .gl 7 := rfl
@[simp] theorem pg_gl8 : pg.glb 8 = .gl 8 := rfl
@[simp] theorem pg_gl9 : pg.glb 9 = .gl 9 := rfl
@[simp] theorem pg_gl10 : pg.glb 10 = .gl 10 := rfl
@[simp] theorem pg_gl11 : pg.glb 11 = .gl 11 := rfl
@[simp] theorem pg_gl12 : pg.glb 12 = .gl 12 := rfl
@[simp] theorem pg_gl13 : pg.glb 13 = .gl 13 := rfl
@[simp] theorem pg_gl14 : pg.glb 14 = .gl 14 := rfl
@[simp] theorem pg_gl15 : pg.glb 15 = .gl 15 := rfl
@[simp] theorem pg_gl16 : pg.glb 16 = .gl 16 := rfl
@[simp] theorem pg_gl17 : pg.glb 17 = .gl 17 := rfl
@[simp] theorem pg_gl18 : pg.glb 18 = .gl 18 := rfl
@[simp] theorem pg_gl19 : pg.glb 19 = .gl 19 := rfl
@[simp] theorem pg_gl20 : pg.glb 20 = .gl 20 := rfl
@[simp] theorem pg_gl21 : pg.glb 21 = .gl 21 := rfl
@[simp] theorem pg_gl22 : pg.glb 22 = .gl 22 := rfl
@[simp] theorem pg_gl23 : pg.glb 23 = .gl 23 := rfl
@[simp] theorem pg_gl24 : pg.glb 24 = .gl 24 := rfl
@[simp] theorem pg_gl25 : pg.glb 25 = .gl 25 := rfl
@[simp] theorem pg_gl26 : pg.glb 26 = .gl 26 := rfl
@[simp] theorem pg_gl27 : pg.glb 27 = .gl 27 := rfl
@[simp] theorem pg_gl28 : pg.glb 28 = .gl 28 := rfl
@[simp] theorem pg_gl29 : pg.glb 29 = .gl 29 := rfl
@[simp] theorem pg_gl30 : pg.glb 30 = .gl 30 := rfl
@[simp] theorem pg_gl31 : pg.glb 31 = .gl 31 := rfl
@[simp] theorem pg_gl32 : pg.glb 32 = .gl 32 := rfl
@[simp] theorem pg_arc10 : pg.arc 10 = some 1 := rfl
@[simp] theorem pg_ar10 : pg.ar 10 = some 1 := rfl
@[simp] theorem pg_ar15 : pg.ar 15 = some 1 := rfl
@[simp] theorem pg_ar16 : pg.ar 16 = some 1 := rfl
@[simp] theorem pg_kin34 : pg.kin 34 = some (("row +" : Str), false) := rfl
end Hb

namespace Hb
open PySem
/-! ### the guests' values -/
def P.pl : P → Bool
  | .gl _ => false | .fn _ _ => false | .dct _ _ => false | .set _ => false | .wtup _ => false
  | _ => true
/-- plain data -/
def Pok (d : P) : Prop := ∃ n, d.dep n = true
theorem Pok.pl {d : P} (h : Pok d) : d.pl = true := by
  obtain ⟨n, h⟩ := h
  cases d <;> simp_all [P.pl, P.dep]
theorem deps_mem : ∀ {ds : List P} {n : Nat}, P.deps ds n = true → ∀ d ∈ ds, d.dep n = true
  | [], _, _, d, hd => by cases hd
  | e :: ds, n, h, d, hd => by
    simp only [P.deps, Bool.and_eq_true] at h
    rcases List.mem_cons.mp hd with rfl | hd
    · exact h.1
    · exact deps_mem h.2 d hd
theorem Pok.tup {ds : List P} (h : Pok (.tup ds)) : ∀ d ∈ ds, Pok d := by
  obtain ⟨n, h⟩ := h
  cases n with
  | zero => simp [P.dep] at h
  | succ n => exact fun d hd => ⟨n, deps_mem (by simpa [P.dep] using h) d hd⟩
theorem Pok.lst {ds : List P} (h : Pok (.lst ds)) : ∀ d ∈ ds, Pok d := by
  obtain ⟨n, h⟩ := h
  cases n with
  | zero => simp [P.dep] at h
  | succ n => exact fun d hd => ⟨n, deps_mem (by simpa [P.dep] using h) d hd⟩
theorem Pok.int (i : Int) : Pok (.int i) := ⟨0, by simp [P.dep]⟩
theorem Pok.bl (i : Bool) : Pok (.bl i) := ⟨0, by simp [P.dep]⟩
theorem Pok.non : Pok .non := ⟨0, by simp [P.dep]⟩
theorem Rs_eq {α : Type} {r : Res α} {a : α} {b : Sto} (h : Rs r (fun v S => v = a ∧ S = b) (fun _ _ _ => False)) : r = .ok a b := by
  cases r with
  | ok v S => obtain ⟨rfl, rfl⟩ := h; rfl
  | exc => exact h.elim
  | stk => exact h.elim
theorem callV_of {h : Hd} {f : Nat} {vs : List Val} {ds : List P} {S S' : Sto} {d : P} (e : h (.p (.gl f)) vs [] = .ok (.p d) S') (hv : vs = ds.map .p) : callV h (.p (.gl f)) vs S = .ok (.p d) S := by
  refine Rs_eq (w_callP hv ?_)
  rw [e]
  exact ⟨d, rfl, rfl, rfl⟩
theorem callV_exc {h : Hd} {f : Nat} {vs : List Val} {ds : List P} {S S' : Sto} {c : Nat} {d : Option P} (e : h (.p (.gl f)) vs [] = .exc c d S') (hv : vs = ds.map .p) : callV h (.p (.gl f)) vs S = .exc c d S := by
  subst hv
  have hl : locsV (Val.p (.gl f) :: ds.map Val.p) [] = [] := locsV_p ds []
  unfold callV
  rw [hl, renV_p]
  show backR [] S (h (.p (.gl f)) (ds.map Val.p) []) = _
  rw [e]
  rfl
theorem Br_if (b : Bool) (A B : Prop) : Br b A B = ((b = true → A) ∧ (b = false → B)) := by cases b <;> simp
theorem isTy_ok {d : P} (h : d.pl = true) (t : Ty) : isTy t d = some (match t, d with
    | .bool, .bl _ => true | .int, .bl _ => true | .int, .int _ => true | .str, .str _ => true | .list, .lst _ => true | .tuple, .tup _ => true | _, _ => false) := by
  cases d <;> cases t <;> first | rfl | (simp [P.pl] at h)
def withinP (d : P) (lo hi : Int) : Bool := match d with
  | .int i => decide (lo ≤ i) && decide (i ≤ hi)
  | _ => false
theorem is_within_ok (k : Nat) (d : P) (hd : d.pl = true) (lo hi : Int) : callF pg (k+1) (.p (.gl 0)) [.p d, .p (.int lo), .p (.int hi)] [] = .ok (.p (.bl (withinP d lo hi))) [] := by
  refine Rs_eq (w_callF rfl pg_fn0 rfl rfl ?_)
  cases d <;> simp [fd0, rd, isTy, List.mapM_cons, List.mapM_nil, withinP] <;> simp_all [P.pl]
  rename_i i
  rw [Br_if]
  simp
  try omega
theorem is_within_c (k : Nat) (d : P) (hd : d.pl = true) (lo hi : Int) (S : Sto) : callV (callF pg (k+1)) (.p (.gl 0)) [.p d, .p (.int lo), .p (.int hi)] S = .ok (.p (.bl (withinP d lo hi))) S :=
  callV_of (ds := [d, .int lo, .int hi]) (is_within_ok k d hd lo hi) rfl
def itemsP (d : P) (lo hi : Int) : Bool := match d with
  | .tup xs => decide (lo ≤ xs.length) && decide ((xs.length : Int) ≤ hi)
  | _ => false
theorem has_items_ok (k : Nat) (d : P) (hd : d.pl = true) (lo hi : Int) : callF pg (k+1) (.p (.gl 1)) [.p d, .p (.int lo), .p (.int hi)] [] = .ok (.p (.bl (itemsP d lo hi))) [] := by
  refine Rs_eq (w_callF rfl pg_fn1 rfl rfl ?_)
  cases d <;> simp [fd1, rd, rds, isTy, List.mapM_cons, List.mapM_nil, itemsP] <;> simp_all [P.pl]
  rw [Br_if]
  simp
  try omega
theorem has_items_c (k : Nat) (d : P) (hd : d.pl = true) (lo hi : Int) (S : Sto) : callV (callF pg (k+1)) (.p (.gl 1)) [.p d, .p (.int lo), .p (.int hi)] S = .ok (.p (.bl (itemsP d lo hi))) S :=
  callV_of (ds := [d, .int lo, .int hi]) (has_items_ok k d hd lo hi) rfl
def isBl : P → Bool
  | .bl _ => true
  | _ => false
def habitP (d : P) (m : Int) : Bool := match d with
  | .tup [x, y] => isBl x && withinP y 0 (m - 1)
  | _ => false
theorem itemsP_two {d : P} (h : itemsP d 2 2 = true) : ∃ x y, d = .tup [x, y] := by
  cases d <;> simp [itemsP] at h
  rename_i xs
  match xs, h with
  | [x, y], _ => exact ⟨x, y, rfl⟩
  | [], h => simp at h
  | [_], h => simp at h
  | _ :: _ :: _ :: _, h => simp at h; omega
theorem is_habit_ok (k : Nat) (d : P) (hd : Pok d) (m : Int) : callF pg (k+2) (.p (.gl 2)) [.p d, .p (.int m)] [] = .ok (.p (.bl (habitP d m))) [] := by
  refine Rs_eq (w_callF rfl pg_fn2 rfl rfl ?_)
  simp [fd2, has_items_c, hd.pl]
  refine Br_intro (fun h => ?_) (fun h => ?_)
  · obtain ⟨x, y, rfl⟩ := itemsP_two h
    have hx : Pok x := hd.tup x (by simp)
    have hy : Pok y := hd.tup y (by simp)
    simp [rd, ix, L2.atI, L2.ixN, isTy_ok hx.pl, List.mapM_cons, List.mapM_nil]
    cases x <;> simp [op2, arith, intOp, is_within_c, hy.pl, habitP, isBl]
  · cases d <;> simp_all [habitP, itemsP]
    rename_i xs
    match xs, h with
    | [x, y], h => simp at h
    | [], _ => rfl
    | [_], _ => rfl
    | _ :: _ :: _ :: _, _ => rfl
theorem is_habit_c (k : Nat) (d : P) (hd : Pok d) (m : Int) (S : Sto) : callV (callF pg (k+2)) (.p (.gl 2)) [.p d, .p (.int m)] S = .ok (.p (.bl (habitP d m))) S :=
  callV_of (ds := [d, .int m]) (is_habit_ok k d hd m) rfl
def moodP (n : Int) (d : P) (m : Int) : Bool := match d with
  | .tup xs => decide ((xs.length : Int) = n) && xs.all fun x => habitP x m
  | _ => false
theorem is_mood_ok (k : Nat) (n : Int) (d : P) (hd : Pok d) (m : Int) (hn : n ≤ 1000) : callF pg (k+3) (.p (.gl 3)) [.p (.int n), .p d, .p (.int m)] [] = .ok (.p (.bl (moodP n d m))) [] := by
  refine Rs_eq (w_callF rfl pg_fn3 rfl rfl ?_)
  simp [fd3, has_items_c, hd.pl]
  refine Br_intro (fun h => ?_) (fun h => ?_)
  · cases d <;> simp [itemsP] at h
    rename_i xs
    have hl : (xs.length : Int) = n := by omega
    simp [items]
    refine lcGo_map (g := fun x => .bl (habitP x m)) xs [] _ (fun x hx => ?_) ?_
    · simp [w_lcFn, T.bind, wipeE, is_habit_c, hd.tup x hx, Val.toP]
    · simp [rds, rd, bi, bls_map, all_map, moodP, hl]
      have : (BIG : Int) = 100000 := rfl
      omega
  · cases d <;> simp_all [moodP, itemsP]
    intro h2
    omega
theorem is_mood_c (k : Nat) (n : Int) (d : P) (hd : Pok d) (m : Int) (hn : n ≤ 1000) (S : Sto) : callV (callF pg (k+3)) (.p (.gl 3)) [.p (.int n), .p d, .p (.int m)] S = .ok (.p (.bl (moodP n d m))) S :=
  callV_of (ds := [.int n, d, .int m]) (is_mood_ok k n d hd m hn) rfl
def guestP (n : Int) (d : P) : Bool := match d with
  | .tup xs => decide (1 ≤ xs.length) && decide (xs.length ≤ 4) && xs.all fun x => moodP n x xs.length
  | _ => false
theorem is_guest_ok (k : Nat) (n : Int) (d : P) (hd : Pok d) (hn : n ≤ 1000) : callF pg (k+4) (.p (.gl 4)) [.p (.int n), .p d] [] = .ok (.p (.bl (guestP n d))) [] := by
  refine Rs_eq (w_callF rfl pg_fn4 rfl rfl ?_)
  simp [fd4, has_items_c, hd.pl]
  refine Br_intro (fun h => ?_) (fun h => ?_)
  · cases d <;> simp [itemsP] at h
    rename_i xs
    simp [items]
    refine lcGo_map (g := fun x => .bl (moodP n x xs.length)) xs [] _ (fun x hx => ?_) ?_
    · simp [w_lcFn, T.bind, wipeE, rds, rd, bi, is_mood_c, hd.tup x hx, hn, Val.toP]
    · simp [rds, rd, bi, bls_map, all_map, guestP]
      refine ⟨?_, ?_⟩
      · have : (BIG : Int) = 100000 := rfl
        omega
      · have h1 : 1 ≤ xs.length := by omega
        have h2 : xs.length ≤ 4 := by omega
        simp [h1, h2]
  · cases d <;> simp_all [guestP, itemsP]
    intro h1 h2
    omega
theorem is_guest_c (k : Nat) (n : Int) (d : P) (hd : Pok d) (hn : n ≤ 1000) (S : Sto) : callV (callF pg (k+4)) (.p (.gl 4)) [.p (.int n), .p d] S = .ok (.p (.bl (guestP n d))) S :=
  callV_of (ds := [.int n, d]) (is_guest_ok k n d hd hn) rfl
def rowP (d : P) : Bool := match d with
  | .tup [.int n, .tup gs] => decide (1 ≤ n) && decide (n ≤ 3) && decide (1 ≤ gs.length) && decide (gs.length ≤ 3) && gs.all fun g => guestP n g
  | _ => false
theorem is_row_ok (k : Nat) (d : P) (hd : Pok d) : callF pg (k+5) (.p (.gl 5)) [.p d] [] = .ok (.p (.bl (rowP d))) [] := by
  refine Rs_eq (w_callF rfl pg_fn5 rfl rfl ?_)
  simp [fd5, has_items_c, hd.pl]
  refine Br_intro (fun h => ?_) (fun h => ?_)
  · obtain ⟨x, y, rfl⟩ := itemsP_two h
    have hx : Pok x := hd.tup x (by simp)
    have hy : Pok y := hd.tup y (by simp)
    simp [rd, ix, L2.atI, L2.ixN, is_within_c, hx.pl]
    refine Br_intro (fun h1 => ?_) (fun h1 => ?_)
    · simp [has_items_c, hy.pl]
      refine Br_intro (fun h2 => ?_) (fun h2 => ?_)
      · cases x <;> simp [withinP] at h1
        cases y <;> simp [itemsP] at h2
        rename_i n gs
        simp [items]
        refine lcGo_map (g := fun g => .bl (guestP n g)) gs [] _ (fun x hx => ?_) ?_
        · simp [w_lcFn, T.bind, wipeE, rds, rd, ix, L2.atI, L2.ixN, bi, is_guest_c, hy.tup x hx, show n ≤ 1000 by omega, Val.toP]
        · simp [rds, rd, bi, bls_map, all_map, rowP]
          refine ⟨?_, ?_⟩
          · have : (BIG : Int) = 100000 := rfl
            omega
          · have e1 : 1 ≤ n := by omega
            have e2 : n ≤ 3 := by omega
            have e3 : 1 ≤ gs.length := by omega
            have e4 : gs.length ≤ 3 := by omega
            simp [e1, e2, e3, e4]
      · cases x <;> cases y <;> simp_all [rowP, itemsP]
        intro _ _ _ _
        omega
    · cases x <;> cases y <;> simp_all [rowP, withinP]
      intro _ _
      omega
  · cases d <;> simp_all [rowP, itemsP]
    rename_i xs
    match xs, h with
    | [x, y], h => simp at h
    | [], _ => simp
    | [a], _ => cases a <;> simp
    | a :: b :: _ :: _, _ => cases a <;> cases b <;> simp
theorem is_row_c (k : Nat) (d : P) (hd : Pok d) (S : Sto) : callV (callF pg (k+5)) (.p (.gl 5)) [.p d] S = .ok (.p (.bl (rowP d))) S :=
  callV_of (ds := [d]) (is_row_ok k d hd) rfl
def streamP (n : Int) (d : P) : Bool := match d with
  | .tup xs => decide (xs.length ≤ 100) && xs.all fun x => withinP x 0 (n - 1)
  | _ => false
end Hb

namespace Hb
open PySem
/-! ### rows, moods, dishes -/
abbrev Guest := List (List (Bool × Nat))
structure Row where
  n : Nat
  gs : List Guest
def encH (h : Bool × Nat) : P := .tup [.bl h.1, .int h.2]
def encM (m : List (Bool × Nat)) : P := .tup (m.map encH)
def encG (g : Guest) : P := .tup (g.map encM)
def encR (r : Row) : P := .tup [.int r.n, .tup (r.gs.map encG)]
def encNs (ms : List Nat) : P := .tup (ms.map fun (m : Nat) => P.int (m : Int))
def encO : Option Nat → P
  | none => .non
  | some n => .int n
def encOs (os : List (Option Nat)) : P := .tup (os.map encO)
def okG (n : Nat) (g : Guest) : Prop := 1 ≤ g.length ∧ g.length ≤ 4 ∧ ∀ m ∈ g, m.length = n ∧ ∀ h ∈ m, h.2 < g.length
structure Row.Ok (r : Row) : Prop where
  n1 : 1 ≤ r.n
  n3 : r.n ≤ 3
  g1 : 1 ≤ r.gs.length
  g3 : r.gs.length ≤ 3
  gs : ∀ g ∈ r.gs, okG r.n g
/-- moods of all guests -/
def okMs (gs : List Guest) (ms : List Nat) : Prop := ms.length = gs.length ∧ ∀ (i : Nat) (g : Guest) (m : Nat), gs[i]? = some g → ms[i]? = some m → m < g.length
theorem rowP_enc {r : Row} (h : r.Ok) : rowP (encR r) = true := by
  have := h.n1; have := h.n3; have := h.g1; have := h.g3
  simp only [encR, rowP, List.length_map, Bool.and_eq_true, decide_eq_true_eq, List.all_eq_true, List.mem_map]
  refine ⟨⟨⟨⟨by omega, by omega⟩, by omega⟩, by omega⟩, ?_⟩
  rintro _ ⟨g, hg, rfl⟩
  obtain ⟨h1, h2, h3⟩ := h.gs g hg
  simp only [encG, guestP, List.length_map, Bool.and_eq_true, decide_eq_true_eq, List.all_eq_true, List.mem_map]
  refine ⟨⟨h1, h2⟩, ?_⟩
  rintro _ ⟨m, hm, rfl⟩
  obtain ⟨h4, h5⟩ := h3 m hm
  simp only [encM, moodP, List.length_map, Bool.and_eq_true, decide_eq_true_eq, List.all_eq_true, List.mem_map]
  refine ⟨by omega, ?_⟩
  rintro _ ⟨x, hx, rfl⟩
  have := h5 x hx
  simp [encH, habitP, isBl, withinP]
  omega
theorem dep_encH (h : Bool × Nat) (n : Nat) : (encH h).dep (n + 1) = true := dep_tup fun d hd => by
  simp at hd
  rcases hd with rfl | rfl
  · exact dep_bl _ _
  · exact dep_int _ _
theorem dep_encM (m : List (Bool × Nat)) (n : Nat) : (encM m).dep (n + 2) = true := dep_tup fun d hd => by
  obtain ⟨h, _, rfl⟩ := List.mem_map.mp hd
  exact dep_encH h n
theorem dep_encG (g : Guest) (n : Nat) : (encG g).dep (n + 3) = true := dep_tup fun d hd => by
  obtain ⟨h, _, rfl⟩ := List.mem_map.mp hd
  exact dep_encM h n
theorem dep_encR (r : Row) (n : Nat) : (encR r).dep (n + 5) = true := dep_tup fun d hd => by
  simp at hd
  rcases hd with rfl | rfl
  · exact dep_int _ _
  · refine dep_tup fun d hd => ?_
    obtain ⟨h, _, rfl⟩ := List.mem_map.mp hd
    exact dep_encG h n
theorem dep_encNs (ms : List Nat) (n : Nat) : (encNs ms).dep (n + 1) = true := dep_tup fun d hd => by
  obtain ⟨h, _, rfl⟩ := List.mem_map.mp hd
  exact dep_int _ _
theorem dep_encO (o : Option Nat) (n : Nat) : (encO o).dep n = true := by
  cases o
  · exact dep_non _
  · exact dep_int _ _
theorem dep_encOs (os : List (Option Nat)) (n : Nat) : (encOs os).dep (n + 1) = true := dep_tup fun d hd => by
  obtain ⟨h, _, rfl⟩ := List.mem_map.mp hd
  exact dep_encO _ _
theorem pok_R (r : Row) : Pok (encR r) := ⟨5, dep_encR r 0⟩
/-- who takes a dish, all moods then -/
def habit (g : Guest) (m k : Nat) : Bool × Nat := (g.getD m []).getD k (false, 0)
def dishF (k : Nat) : Nat → List Guest → List Nat → Option Nat × List Nat
  | i, g :: gs, m :: ms =>
    if (habit g m k).1 = true then (some i, (habit g m k).2 :: ms) else ((dishF k (i + 1) gs ms).1, (habit g m k).2 :: (dishF k (i + 1) gs ms).2)
  | _, _, ms => (none, ms)
theorem dishF_len (k : Nat) : ∀ (i : Nat) (gs : List Guest) (ms : List Nat), (dishF k i gs ms).2.length = ms.length
  | i, [], ms => by cases ms <;> rfl
  | i, g :: gs, [] => rfl
  | i, g :: gs, m :: ms => by
    simp only [dishF]
    split
    · rfl
    · simp [dishF_len k (i + 1) gs ms]
theorem habit_ok {n k : Nat} {g : Guest} {m : Nat} (hg : okG n g) (hm : m < g.length) (hk : k < n) : ∃ mo, g[m]? = some mo ∧ mo[k]? = some (habit g m k) ∧ (habit g m k).2 < g.length := by
  have e1 : g[m]? = some g[m] := List.getElem?_eq_getElem hm
  have h1 := (hg.2.2 g[m] (List.getElem_mem hm))
  have hk2 : k < g[m].length := by rw [h1.1]; exact hk
  have e2 : g[m][k]? = some g[m][k] := List.getElem?_eq_getElem hk2
  have e3 : habit g m k = g[m][k] := by
    simp [habit, List.getD_eq_getElem?_getD, e1, e2]
  rw [e3]
  exact ⟨_, e1, e2, h1.2 _ (List.getElem_mem hk2)⟩
theorem dishF_ok {n k : Nat} (hk : k < n) : ∀ (i : Nat) (gs : List Guest) (ms : List Nat), (∀ g ∈ gs, okG n g) → okMs gs ms → okMs gs (dishF k i gs ms).2
  | i, [], ms, _, h => by cases ms <;> exact h
  | i, g :: gs, [], _, h => by simp [okMs] at h
  | i, g :: gs, m :: ms, hg, h => by
    have hm : m < g.length := h.2 0 g m rfl rfl
    obtain ⟨mo, e1, e2, e3⟩ := habit_ok (hg g (by simp)) hm hk
    have ht : okMs gs ms := ⟨by have := h.1; simpa using this, fun j g' m' a b => h.2 (j + 1) g' m' (by simpa using a) (by simpa using b)⟩
    simp only [dishF]
    split
    · refine ⟨by have := h.1; simpa using this, fun j g' m' a b => ?_⟩
      cases j with
      | zero => simp at a b; subst a b; exact e3
      | succ j => exact h.2 (j + 1) g' m' a (by simpa using b)
    · have ih := dishF_ok hk (i + 1) gs ms (fun g' hg' => hg g' (by simp [hg'])) ht
      refine ⟨by simp [ih.1], fun j g' m' a b => ?_⟩
      cases j with
      | zero => simp at a b; subst a b; exact e3
      | succ j => exact ih.2 j g' m' (by simpa using a) (by simpa using b)
end Hb
namespace Hb
open PySem
theorem cut_all {α : Type} (xs : List α) : cut xs none none = xs := by
  unfold cut
  simp [HT.sIx_none]
theorem dish_ok (k : Nat) (r : Row) (ms : List Nat) (kd : Nat) (hr : r.Ok) (hm : okMs r.gs ms) (hk : kd < r.n) : callF pg (k+1) (.p (.gl 8)) [.p (encR r), .p (encNs ms), .p (.int (kd : Nat))] [] = .ok (.p (.tup [encO (dishF kd 0 r.gs ms).1, encNs (dishF kd 0 r.gs ms).2])) [] := by
  have hl := hm.1
  have hg3 := hr.g3
  refine Rs_eq (w_callF rfl pg_fn8 rfl rfl ?_)
  simp [fd8, encR, rd, ix, L2.atI, L2.ixN, items]
  refine for_inv (fun j env S => S = [] ∧ ∃ pre a b c d, env = [some (.p (encR r)), some (.p (encNs ms)), some (.p (.int (kd : Int))), some (.p (encNs (pre ++ ms.drop j))), a, b, c, d] ∧ pre.length = j ∧
    dishF kd 0 r.gs ms = ((dishF kd j (r.gs.drop j) (ms.drop j)).1, pre ++ (dishF kd j (r.gs.drop j) (ms.drop j)).2)) _ _ _ ?_ ?_ ?_
  · exact ⟨rfl, [], _, _, _, _, rfl, rfl, by simp⟩
  · rintro j x env S hx ⟨rfl, pre, a, b, c, d, rfl, hp, hd⟩
    skip
    rw [enumP_get'] at hx
    simp at hx
    obtain ⟨g, hg, rfl⟩ := hx
    have hj : j < r.gs.length := (List.getElem?_eq_some_iff.mp hg).1
    have hjm : j < ms.length := by omega
    have em : ms[j]? = some ms[j] := List.getElem?_eq_getElem hjm
    have okg := hr.gs g (List.mem_of_getElem? hg)
    obtain ⟨mo, e1, e2, e3⟩ := habit_ok okg (hm.2 j g _ hg em) hk
    have dg : r.gs.drop j = g :: r.gs.drop (j + 1) := by
      rw [List.drop_eq_getElem_cons hj]
      congr 1
      exact (List.getElem?_eq_some_iff.mp hg).2
    have dm : ms.drop j = ms[j] :: ms.drop (j + 1) := List.drop_eq_getElem_cons hjm
    rw [dg, dm] at hd
    have t1 : (pre ++ ms.drop j).take j = pre := by rw [List.take_append_of_le_length (by omega), List.take_of_length_le (by omega)]
    have t2 : (pre ++ ms.drop j).drop (j + 1) = ms.drop (j + 1) := by
      rw [List.drop_append, hp, List.drop_of_length_le (by omega), List.drop_drop]
      simp
    rw [s_forF]
    simp only [T.bind, T.binds, items, List.set_cons_succ, List.set_cons_zero, onO_some, s_seq, s_asg, w_idx, w_var, List.getElem?_cons_succ, List.getElem?_cons_zero, rd, ix, at_nat, encNs, encG, List.getElem?_map, em, e1, encM, e2, encH, Option.map_some, onO_some, asP_p]
    generalize hgn : habit g ms[j] kd = hb at *
    obtain ⟨tk, th⟩ := hb
    have c1 : cut (List.map (fun (m : Nat) => P.int (m : Int)) (pre ++ ms.drop j)) none (some (j : Int)) = pre.map (fun (m : Nat) => P.int (m : Int)) := by rw [cut_take, ← List.map_take, t1]
    have c2 : cut (List.map (fun (m : Nat) => P.int (m : Int)) (pre ++ ms.drop j)) (some ((j : Int) + 1)) none = (ms.drop (j + 1)).map (fun (m : Nat) => P.int (m : Int)) := by
      have := cut_drop (List.map (fun (m : Nat) => P.int (m : Int)) (pre ++ ms.drop j)) (j + 1)
      rw [Int.natCast_add] at this
      rw [show ((j : Int) + 1) = (j : Int) + ((1 : Nat) : Int) by simp, this, ← List.map_drop, t2]
    have lb : pre.length + 1 + (ms.length - (j + 1)) ≤ 100000 := by omega
    have lb1 : pre.length + 1 ≤ 100000 := by omega
    simp [rd, slc, c1, c2, toPs, Val.toP, op2, arith, intOp, BIG, lb, lb1, -List.map_append, -List.map_drop]
    simp only [dishF, hgn] at hd
    refine Br_intro (fun ht => ?_) (fun ht => ?_)
    · rw [if_pos ht] at hd
      rw [hd]
      simp [encO, BIG]
    · rw [if_neg (by simp [ht])] at hd
      simp
      exact ⟨pre ++ [th], by simp, by simp [hp], by rw [hd]; simp⟩
  · rintro env S ⟨rfl, pre, a, b, c, d, rfl, hp, hd⟩
    simp only [enumP_length, List.length_map] at *
    have d1 : r.gs.drop r.gs.length = [] := List.drop_length
    have d2 : ms.drop r.gs.length = [] := by rw [← hl]; exact List.drop_length
    rw [d1, d2] at hd
    rw [hd, d2]
    simp [toPs, Val.toP, dishF, encO, BIG]
end Hb

namespace Hb
open PySem
theorem sent_ok (k : Nat) (r : Row) (ms : List Nat) (kd : Nat) (hr : r.Ok) (hm : okMs r.gs ms) (hk : kd < r.n) : ∃ S, callF pg (k+1) (.p (.gl 25)) [.p (encR r), .p (encNs ms), .p (.int (kd : Nat))] [] = .ok (.p (.tup [encO (dishF kd 0 r.gs ms).1, encNs (dishF kd 0 r.gs ms).2])) S := by
  have hl := hm.1
  have hg3 := hr.g3
  suffices h : Rs (callF pg (k+1) (.p (.gl 25)) [.p (encR r), .p (encNs ms), .p (.int (kd : Nat))] []) (fun v _ => v = .p (.tup [encO (dishF kd 0 r.gs ms).1, encNs (dishF kd 0 r.gs ms).2])) (fun _ _ _ => False) by
    cases hc : callF pg (k+1) (.p (.gl 25)) [.p (encR r), .p (encNs ms), .p (.int (kd : Nat))] [] with
    | ok v S => rw [hc] at h; exact ⟨S, by rw [show v = _ from h]⟩
    | exc c d S => rw [hc] at h; exact h.elim
    | stk => rw [hc] at h; exact h.elim
  refine w_callF rfl pg_fn25 rfl rfl ?_
  simp [fd25, encR, encNs]
  refine for_inv (fun j env S => ∃ tk later a b c d, env = [some (.p (encR r)), some (.p (encNs ms)), some (.p (.int (kd : Int))), some (.l 100), some (.p (encO tk)), a, b, c, d] ∧ S = [(100, .lst (later.map fun (m : Nat) => P.int (m : Int)))] ∧ later.length = ms.length ∧
    ((tk = none ∧ ∃ pre, later = pre ++ ms.drop j ∧ pre.length = j ∧ dishF kd 0 r.gs ms = ((dishF kd j (r.gs.drop j) (ms.drop j)).1, pre ++ (dishF kd j (r.gs.drop j) (ms.drop j)).2)) ∨ (∃ i, tk = some i ∧ dishF kd 0 r.gs ms = (some i, later)))) _ _ _ ?_ ?_ ?_
  · exact ⟨none, ms, _, _, _, _, rfl, rfl, rfl, .inl ⟨rfl, [], by simp, rfl, by simp⟩⟩
  · rintro j x env S hx ⟨tk, later, a, b, c, d, rfl, rfl, hll, hd⟩
    skip
    rw [enumP_get'] at hx
    simp at hx
    obtain ⟨g, hg, rfl⟩ := hx
    have hj : j < r.gs.length := (List.getElem?_eq_some_iff.mp hg).1
    have hjm : j < ms.length := by omega
    have em : ms[j]? = some ms[j] := List.getElem?_eq_getElem hjm
    have okg := hr.gs g (List.mem_of_getElem? hg)
    obtain ⟨mo, e1, e2, e3⟩ := habit_ok okg (hm.2 j g _ hg em) hk
    rw [s_forF]
    simp only [bind_tpt, bind_tpw, binds_cons, bind_nm, binds_nil, Option.bind_some, List.set_cons_succ, List.set_cons_zero, onO_some, s_seq, s_ite, w_op, w_cst, Rs_ok, w_var, List.getElem?_cons_succ, List.getElem?_cons_zero, rd_p, op_isN]
    rcases hd with ⟨rfl, pre, rfl, hp, hd⟩ | ⟨i, rfl, hd⟩
    · have dg : r.gs.drop j = g :: r.gs.drop (j + 1) := by
        rw [List.drop_eq_getElem_cons hj]
        congr 1
        exact (List.getElem?_eq_some_iff.mp hg).2
      have dm : ms.drop j = ms[j] :: ms.drop (j + 1) := List.drop_eq_getElem_cons hjm
      rw [dg, dm] at hd
      generalize hgn : habit g ms[j] kd = hb at *
      obtain ⟨tk, th⟩ := hb
      have st : (pre ++ ms.drop j).set j th = pre ++ th :: ms.drop (j + 1) := by
        rw [List.set_append_right _ _ (by omega), hp, Nat.sub_self, dm]
        rfl
      have hset : (List.map (fun (m : Nat) => P.int (m : Int)) (pre ++ ms.drop j)).set j (P.int (th : Int)) = List.map (fun (m : Nat) => P.int (m : Int)) (pre ++ th :: ms.drop (j + 1)) := by
        have : P.int (th : Int) = (fun (m : Nat) => P.int (m : Int)) th := rfl
        rw [this, ← List.map_set, st]
      have hj2 : j < (pre ++ ms.drop j).length := by rw [hll]; exact hjm
      have hsx := fun S (h : Sto.get S 100 = some (.lst (List.map (fun (m : Nat) => P.int (m : Int)) (pre ++ ms.drop j)))) => sidxV_of (d := .int (th : Int)) (j := (j : Int)) (k := j) h (by rw [List.length_map]; exact ixN_nat hj2)
      have hsx := hsx [(100, .lst (List.map (fun (m : Nat) => P.int (m : Int)) (pre ++ ms.drop j)))] (by simp)
      rw [hset] at hsx
      simp only [encO, isNon_non, Option.map_some, onO_some, asB_bl, Br_true, s_seq, s_asg, w_idx, w_var, List.getElem?_cons_succ, List.getElem?_cons_zero, rd_p, ix_t, at_nat, asP_p, encNs, encG, List.getElem?_map, em, e1, encM, e2, encH, bind_tpt, binds_cons, bind_nm, binds_nil, Option.bind_some, List.set_cons_succ, List.set_cons_zero, s_sidx, hsx, s_set, w_ite, Sq_of, Sq_nx, s_nil]
      simp only [dishF, hgn] at hd
      refine Br_intro (fun ht => ?_) (fun ht => ?_)
      · rw [if_pos ht] at hd
        simp only [w_var, w_cst, Rs_ok, List.getElem?_cons_succ, List.getElem?_cons_zero, onO_some, Sq_nx, s_nil, List.set_cons_succ, List.set_cons_zero, put_cons, if_true]
        exact ⟨some j, pre ++ th :: ms.drop (j + 1), _, _, _, _, rfl, rfl, by rw [← st, List.length_set]; exact hll, .inr ⟨j, rfl, by rw [hd]⟩⟩
      · rw [if_neg (by simp [ht])] at hd
        simp only [w_var, w_cst, Rs_ok, List.getElem?_cons_succ, List.getElem?_cons_zero, onO_some, Sq_nx, s_nil, List.set_cons_succ, List.set_cons_zero, put_cons, if_true]
        exact ⟨none, pre ++ th :: ms.drop (j + 1), _, _, _, _, rfl, rfl, by rw [← st, List.length_set]; exact hll, .inl ⟨rfl, pre ++ [th], by simp, by simp [hp], by rw [hd]; simp⟩⟩
    · simp only [encO, isNon_int, Option.map_some, onO_some, asB_bl, Br_false, s_nil, Sq_nx]
      exact ⟨some i, later, _, _, _, _, rfl, rfl, hll, .inr ⟨i, rfl, hd⟩⟩
  · rintro env S ⟨tk, later, a, b, c, d, rfl, rfl, hll, hd⟩
    simp only [enumP_length, List.length_map] at *
    simp [BIG]
    rcases hd with ⟨rfl, pre, rfl, hp, hd⟩ | ⟨i, rfl, hd⟩
    · have d1 : r.gs.drop r.gs.length = [] := List.drop_length
      have d2 : ms.drop r.gs.length = [] := by rw [← hl]; exact List.drop_length
      rw [d1, d2] at hd
      rw [hd, d2]
      simp [dishF, encO]
    · rw [hd]
      simp
end Hb

namespace Hb
open PySem
theorem Rs_ex {r : Res Val} {d : P} (h : Rs r (fun v _ => v = .p d) (fun _ _ _ => False)) : ∃ S, r = .ok (.p d) S := by
  cases r with
  | ok v S => exact ⟨S, by rw [show v = _ from h]⟩
  | exc c d S => exact h.elim
  | stk => exact h.elim
theorem Rs_exX {r : Res Val} {c : Nat} {d : Option P} (h : Rs r (fun _ _ => False) (fun c' d' _ => c' = c ∧ d' = d)) : ∃ S, r = .exc c d S := by
  cases r with
  | ok v S => exact h.elim
  | exc c d S => obtain ⟨rfl, rfl⟩ := h; exact ⟨S, rfl⟩
  | stk => exact h.elim
theorem dish_c (k : Nat) (r : Row) (ms : List Nat) (kd : Nat) (hr : r.Ok) (hm : okMs r.gs ms) (hk : kd < r.n) (S : Sto) : callV (callF pg (k+1)) (.p (.gl 8)) [.p (encR r), .p (encNs ms), .p (.int (kd : Nat))] S = .ok (.p (.tup [encO (dishF kd 0 r.gs ms).1, encNs (dishF kd 0 r.gs ms).2])) S :=
  callV_of (ds := [encR r, encNs ms, .int (kd : Nat)]) (dish_ok k r ms kd hr hm hk) rfl
theorem sent_c (k : Nat) (r : Row) (ms : List Nat) (kd : Nat) (hr : r.Ok) (hm : okMs r.gs ms) (hk : kd < r.n) (S : Sto) : callV (callF pg (k+1)) (.p (.gl 25)) [.p (encR r), .p (encNs ms), .p (.int (kd : Nat))] S = .ok (.p (.tup [encO (dishF kd 0 r.gs ms).1, encNs (dishF kd 0 r.gs ms).2])) S := by
  obtain ⟨S', e⟩ := sent_ok k r ms kd hr hm hk
  exact callV_of (ds := [encR r, encNs ms, .int (kd : Nat)]) e rfl
/-- a stream -/
def runF (gs : List Guest) : List Nat → List Nat → List (Option Nat) × List Nat
  | [], ms => ([], ms)
  | k :: ks, ms => ((dishF k 0 gs ms).1 :: (runF gs ks (dishF k 0 gs ms).2).1, (runF gs ks (dishF k 0 gs ms).2).2)
theorem runF_app (gs : List Guest) : ∀ (ks ls : List Nat) (ms : List Nat), runF gs (ks ++ ls) ms = ((runF gs ks ms).1 ++ (runF gs ls (runF gs ks ms).2).1, (runF gs ls (runF gs ks ms).2).2)
  | [], ls, ms => rfl
  | k :: ks, ls, ms => by
    simp only [List.cons_append, runF]
    rw [runF_app gs ks ls]
theorem runF_len (gs : List Guest) : ∀ (ks : List Nat) (ms : List Nat), (runF gs ks ms).1.length = ks.length
  | [], _ => rfl
  | k :: ks, ms => by simp [runF, runF_len gs ks]
theorem runF_ok {n : Nat} {gs : List Guest} (hg : ∀ g ∈ gs, okG n g) : ∀ (ks : List Nat) (ms : List Nat), (∀ k ∈ ks, k < n) → okMs gs ms → okMs gs (runF gs ks ms).2
  | [], _, _, h => h
  | k :: ks, ms, hk, h => runF_ok hg ks _ (fun k' h' => hk k' (by simp [h'])) (dishF_ok (hk k (by simp)) 0 gs ms hg h)
theorem take_snoc {α : Type} {xs : List α} {j : Nat} {x : α} (h : xs[j]? = some x) : xs.take (j + 1) = xs.take j ++ [x] := by
  rw [List.take_succ, h]
  rfl
def firstMs (gs : List Guest) : List Nat := List.replicate gs.length 0
theorem firstMs_ok {n : Nat} {gs : List Guest} (hg : ∀ g ∈ gs, okG n g) : okMs gs (firstMs gs) := by
  refine ⟨by simp [firstMs], fun i g m a b => ?_⟩
  have := (hg g (List.mem_of_getElem? a)).1
  have : m = 0 := by
    simp [firstMs, List.getElem?_replicate] at b
    exact b.2.symm
  omega
theorem firstMs_enc (n : Nat) : (List.replicate n [P.int 0]).flatten = (List.replicate n 0).map fun (m : Nat) => P.int (m : Int) := by
  induction n with
  | zero => rfl
  | succ n ih => simp only [List.replicate_succ, List.flatten_cons, ih, List.map_cons]; rfl
theorem begin_ok (k : Nat) (r : Row) (hr : r.Ok) : callF pg (k+1) (.p (.gl 7)) [.p (encR r)] [] = .ok (.p (encNs (firstMs r.gs))) [] := by
  have := hr.g3
  refine Rs_eq (w_callF rfl pg_fn7 rfl rfl ?_)
  simp [fd7, encR, op2, arith, BIG]
  rw [if_pos (by omega)]
  simp [encNs, firstMs, firstMs_enc]
theorem begin_c (k : Nat) (r : Row) (hr : r.Ok) (S : Sto) : callV (callF pg (k+1)) (.p (.gl 7)) [.p (encR r)] S = .ok (.p (encNs (firstMs r.gs))) S :=
  callV_of (ds := [encR r]) (begin_ok k r hr) rfl
theorem first_ok (k : Nat) (r : Row) (hr : r.Ok) : callF pg (k+1) (.p (.gl 26)) [.p (encR r)] [] = .ok (.p (encNs (firstMs r.gs))) [] := by
  have := hr.g3
  refine Rs_eq (w_callF rfl pg_fn26 rfl rfl ?_)
  simp [fd26, encR, op2, arith, BIG]
  rw [if_pos (by omega)]
  simp [encNs, firstMs, firstMs_enc]
theorem first_c (k : Nat) (r : Row) (hr : r.Ok) (S : Sto) : callV (callF pg (k+1)) (.p (.gl 26)) [.p (encR r)] S = .ok (.p (encNs (firstMs r.gs))) S :=
  callV_of (ds := [encR r]) (first_ok k r hr) rfl
theorem need_row_c (k : Nat) (d : P) (hd : Pok d) (h : rowP d = true) (S : Sto) : callV (callF pg (k+6)) (.p (.gl 6)) [.p d] S = .ok (.p .non) S := by
  refine callV_of (ds := [d]) (S' := []) (Rs_eq (w_callF rfl pg_fn6 rfl rfl ?_)) rfl
  simp [fd6, is_row_c, hd, h]
theorem need_row_x (k : Nat) (d : P) (hd : Pok d) (h : rowP d = false) (S : Sto) : callV (callF pg (k+6)) (.p (.gl 6)) [.p d] S = .exc 34 none S := by
  obtain ⟨S', e⟩ := Rs_exX (c := 34) (d := none) (w_callF (G := pg) (k := k + 5) (f := 6) (as := [.p d]) (S := []) rfl pg_fn6 rfl rfl (by simp [fd6, is_row_c, hd, h]))
  exact callV_exc (ds := [d]) e rfl
end Hb

namespace Hb
open PySem
/-! ### draws -/
/-- the deck: its mixed part is small -/
def Dk (d : P) (B : Int) : Prop := ∃ a b t, d = .lst [.int a, .int b, .int t] ∧ 0 ≤ b ∧ b < 2147483579 ∧ 0 ≤ t ∧ t ≤ B
theorem Dk.mono {d : P} {B C : Int} (h : Dk d B) (hc : B ≤ C) : Dk d C := by
  obtain ⟨a, b, t, e, h1, h2, h3, h4⟩ := h
  exact ⟨a, b, t, e, h1, h2, h3, by omega⟩
/-- a call with a list that changes ahead, data behind -/
theorem w_callL {h : Hd} {f p : Nat} {o : P} {vs : List Val} {ds : List P} {S : Sto} {Q : Val → Sto → Prop} {X : Nat → Option P → Sto → Prop} (e : vs = ds.map .p) (hp : S.get p = some o)
    (hc : Rs (h (.p (.gl f)) (.l 0 :: vs) [(0, o)]) (fun v S' => ∃ d o', v = .p d ∧ S'.get 0 = some o' ∧ Q (.p d) (S.put p o')) (fun _ _ _ => False)) : Rs (callV h (.p (.gl f)) (.l p :: vs) S) Q X := by
  subst e
  have hl : locsV (Val.p (.gl f) :: .l p :: ds.map Val.p) [] = [p] := locsV_p ds [p]
  unfold callV
  rw [hl]
  have hr : (Val.l p :: ds.map Val.p).map (renV [p]) = .l 0 :: ds.map Val.p := by
    rw [List.map_cons, renV_p]
    simp [renV, at0]
  rw [hr]
  simp only [handS, hp, renV]
  cases hcc : h (.p (.gl f)) (.l 0 :: ds.map Val.p) [(0, o)] with
  | ok v S' =>
    rw [hcc] at hc
    obtain ⟨d, o', rfl, e1, q⟩ := hc
    simp only [backR, backS, e1, Rs_ok]
    exact q
  | exc c d S' => rw [hcc] at hc; exact hc.elim
  | stk => rw [hcc] at hc; exact hc.elim
/-- a draw: its steps -/
theorem st_mul1 (t : Int) : op2 .mul (.int 15485867) (.int t) = some (.int (15485867 * t)) := op_mul (.inl ⟨by decide, by decide⟩)
theorem st_mul2 (t : Int) : op2 .mul (.int 7919) (.int t) = some (.int (7919 * t)) := op_mul (.inl ⟨by decide, by decide⟩)
theorem st_pow5 {x : Int} (h : x.natAbs < 2 ^ 64) : op2 .pow (.int x) (.int 5) = some (.int (x ^ 5)) := op_pow ⟨by decide, by decide, h⟩
theorem st_pow3 {x : Int} (h : x.natAbs < 2 ^ 64) : op2 .pow (.int x) (.int 3) = some (.int (x ^ 3)) := op_pow ⟨by decide, by decide, h⟩
theorem st_mod1 (x : Int) : op2 .mod (.int x) (.int 2147483647) = some (.int (x % 2147483647)) := op_mod (by decide)
theorem st_mod2 (x : Int) : op2 .mod (.int x) (.int 2147483629) = some (.int (x % 2147483629)) := op_mod (by decide)
theorem st_mod3 (x : Int) : op2 .mod (.int x) (.int 2147483579) = some (.int (x % 2147483579)) := op_mod (by decide)
theorem st_div32 (x : Int) : op2 .fdiv (.int x) (.int 32) = some (.int (x / 32)) := op_fdiv (by decide)
theorem st_ten18 : op2 .pow (.int 10) (.int 18) = some (.int (10 ^ 18)) := op_pow ⟨by decide, by decide, by decide⟩
theorem st_s0 (x y z d : Int) : sidxV (.p (.int d)) (.l 0) (.p (.int 0)) [(0, .lst [.int x, .int y, .int z])] = some [(0, .lst [.int d, .int y, .int z])] := rfl
theorem st_s2 (x y z d : Int) : sidxV (.p (.int d)) (.l 0) (.p (.int 2)) [(0, .lst [.int x, .int y, .int z])] = some [(0, .lst [.int x, .int y, .int d])] := rfl
theorem num1 {b t : Int} (b0 : 0 ≤ b) (b1 : b < 2147483579) (t0 : 0 ≤ t) (t1 : t ≤ 1000000000) : (b + 15485867 * (t + 1)).natAbs < 2 ^ 64 := by omega
theorem num2 {x t : Int} (t0 : 0 ≤ t) (t1 : t ≤ 1000000000) : (x % 2147483647 + 7919 * (t + 1)).natAbs < 2 ^ 64 := by
  have r1 : 0 ≤ x % 2147483647 := Int.emod_nonneg _ (by decide)
  have r2 : x % 2147483647 < 2147483647 := Int.emod_lt_of_pos _ (by decide)
  omega
def PickR (size B : Int) (v : Val) (S : Sto) : Prop := ∃ n d', v = .p (.int n) ∧ S = [(0, d')] ∧ 0 ≤ n ∧ n < size ∧ Dk d' (B + 1)
theorem pick_ok (k : Nat) (d : P) (B size : Int) (hd : Dk d B) (hB : B ≤ 1000000000) (h0 : 0 < size) (h1 : size < 1073741824) :
    Rs (callF pg (k+1) (.p (.gl 18)) [.l 0, .p (.int size)] [(0, d)]) (PickR size B) (fun _ _ _ => False) := by
  obtain ⟨a, b, t, rfl, b0, b1, t0, t1⟩ := hd
  refine w_callF rfl pg_fn18 rfl rfl ?_
  have md3 : ∀ x : Int, op2 .mod (.int x) (.int size) = some (.int (x % size)) := fun x => op_mod h0
  have fs : ∀ x : Int, op2 .fdiv (.int x) (.int size) = some (.int (x / size)) := fun x => op_fdiv ⟨h0, h1⟩
  have n1 := num1 b0 b1 t0 (by omega : t ≤ 1000000000)
  have n2 := fun x => num2 (x := x) t0 (by omega : t ≤ 1000000000)
  simp only [fd18]
  simp only [s_seq, s_ite, w_op, w_idx, w_var, List.map_cons, List.map_nil, List.cons_append, List.nil_append, List.replicate, List.getElem?_cons_zero, List.getElem?_cons_succ, onO_some, w_cst, Rs_ok, rd_l, rd_p, get_cons, if_true, asP_p, ix_l, at_0, op_gt, asB_bl]
  refine Br_intro (fun hc => ?_) (fun hc => ?_)
  · simp [md3, fs, st_s0]
    exact ⟨_, _, rfl, rfl, Int.emod_nonneg _ (by omega), Int.emod_lt_of_pos _ h0, a / size, b, t, rfl, b0, b1, t0, by omega⟩
  · obtain ⟨m1, e1⟩ : ∃ y, op2 .mul (.int 15485867) (.int (t + 1)) = some (.int y) ∧ y = 15485867 * (t + 1) := ⟨_, st_mul1 _, rfl⟩
    obtain ⟨e1, e1'⟩ := e1
    obtain ⟨m2, e2, e2'⟩ : ∃ y, op2 .mul (.int 7919) (.int (t + 1)) = some (.int y) ∧ y = 7919 * (t + 1) := ⟨_, st_mul2 _, rfl⟩
    obtain ⟨p1, e3⟩ : ∃ y, op2 .pow (.int (b + m1)) (.int 5) = some (.int y) := ⟨_, st_pow5 (by rw [e1']; exact n1)⟩
    obtain ⟨q1, e4, e4'⟩ : ∃ y, op2 .mod (.int p1) (.int 2147483647) = some (.int y) ∧ y = p1 % 2147483647 := ⟨_, st_mod1 _, rfl⟩
    obtain ⟨p2, e5⟩ : ∃ y, op2 .pow (.int (q1 + m2)) (.int 3) = some (.int y) := ⟨_, st_pow3 (by rw [e2', e4']; exact n2 _)⟩
    obtain ⟨q2, e6⟩ : ∃ y, op2 .mod (.int p2) (.int 2147483629) = some (.int y) := ⟨_, st_mod2 _⟩
    obtain ⟨q3, e7⟩ : ∃ y, op2 .fdiv (.int q2) (.int 32) = some (.int y) := ⟨_, st_div32 _⟩
    simp [st_s2, e1, e2, e3, e4, e5, e6, e7, md3]
    exact ⟨_, _, rfl, rfl, Int.emod_nonneg _ (by omega), Int.emod_lt_of_pos _ h0, a, b, t + 1, rfl, b0, b1, by omega, by omega⟩
theorem pick_w {k p : Nat} {S : Sto} {d : P} {B size : Int} {Q : Val → Sto → Prop} {X : Nat → Option P → Sto → Prop} (hp : S.get p = some d) (hd : Dk d B) (hB : B ≤ 1000000000) (h0 : 0 < size) (h1 : size < 1073741824)
    (q : ∀ (n : Int) d', 0 ≤ n → n < size → Dk d' (B + 1) → Q (.p (.int n)) (S.put p d')) : Rs (callV (callF pg (k+1)) (.p (.gl 18)) [.l p, .p (.int size)] S) Q X := by
  refine w_callL (ds := [.int size]) rfl hp (Rs.mono (pick_ok k d B size hd hB h0 h1) ?_)
  rintro v S' ⟨n, d', rfl, rfl, a, b, c⟩
  exact ⟨_, d', rfl, rfl, q n d' a b c⟩
theorem deck_ok (k : Nat) (c t : Int) : ∃ p d, 100 ≤ p ∧ callF pg (k+1) (.p (.gl 17)) [.p (.int c), .p (.int t)] [] = .ok (.l p) [(p, d)] ∧ (0 ≤ t → Dk d t) := by
  suffices h : Rs (callF pg (k+1) (.p (.gl 17)) [.p (.int c), .p (.int t)] []) (fun v S => ∃ p d, v = .l p ∧ S = [(p, d)] ∧ 100 ≤ p ∧ (0 ≤ t → Dk d t)) (fun _ _ _ => False) by
    cases hc : callF pg (k+1) (.p (.gl 17)) [.p (.int c), .p (.int t)] [] with
    | ok v S => rw [hc] at h; obtain ⟨p, d, rfl, rfl, h1, h2⟩ := h; exact ⟨p, d, h1, rfl, h2⟩
    | exc c d S => rw [hc] at h; exact h.elim
    | stk => rw [hc] at h; exact h.elim
  refine w_callF rfl pg_fn17 rfl rfl ?_
  simp only [fd17]
  simp [st_ten18, BIG]
  refine Br_intro (fun hc => ?_) (fun hc => ?_)
  · simp [st_ten18, st_mod3, BIG]
    exact fun ht => ⟨_, _, _, rfl, Int.emod_nonneg _ (by decide), Int.emod_lt_of_pos _ (by decide), ht, Int.le_refl _⟩
  · simp [st_mod3, BIG]
    exact fun ht => ⟨_, _, _, rfl, Int.emod_nonneg _ (by decide), Int.emod_lt_of_pos _ (by decide), ht, Int.le_refl _⟩
end Hb

namespace Hb
open PySem
theorem exists_map {α : Type} {enc : α → P} {p : α → Prop} : ∀ {ds : List P}, (∀ (j : Nat) d, ds[j]? = some d → ∃ h, d = enc h ∧ p h) → ∃ hs : List α, ds = hs.map enc ∧ ∀ h ∈ hs, p h
  | [], _ => ⟨[], rfl, fun h hh => by cases hh⟩
  | d :: ds, H => by
    obtain ⟨h, e, ph⟩ := H 0 d rfl
    obtain ⟨hs, e2, p2⟩ := exists_map (ds := ds) fun j d' e' => H (j + 1) d' (by simpa using e')
    refine ⟨h :: hs, by rw [e, e2]; rfl, fun h' hh => ?_⟩
    rcases List.mem_cons.mp hh with rfl | hh
    · exact ph
    · exact p2 h' hh
def HasH (s : Nat) (d : P) : Prop := ∃ h, d = encH h ∧ h.2 < s
def HasM (n s : Nat) (d : P) : Prop := ∃ m, d = encM m ∧ (m.length = n ∧ ∀ h ∈ m, h.2 < s)
theorem guest_ok (k : Nat) (d : P) (B : Int) (n : Nat) (hd : Dk d B) (hB : B ≤ 900000000) (hn : n ≤ 3) :
    Rs (callF pg (k+2) (.p (.gl 23)) [.l 0, .p (.int (n : Int))] [(0, d)]) (fun v S => ∃ g d', v = .p (encG g) ∧ S.get 0 = some d' ∧ okG n g ∧ Dk d' (B + 25)) (fun _ _ _ => False) := by
  refine w_callF rfl pg_fn23 rfl rfl ?_
  simp only [fd23]
  simp
  refine pick_w (by simp) hd (by omega) (by decide) (by decide) fun s d1 s0 s1 hd1 => ?_
  obtain ⟨sz, rfl⟩ := Int.eq_ofNat_of_zero_le s0
  have s1 : sz < 4 := by omega
  simp [BIG]
  refine ⟨by omega, ?_⟩
  have eR : rangeP 0 ((1 : Int) + (sz : Int)).toNat = rangeP 0 (sz + 1) := by congr 1; omega
  rw [eR]
  refine lcGo_all (fun j S => ∃ d', S = [(0, d')] ∧ Dk d' (B + 1 + 6 * j)) (fun _ _ d => HasM n (sz + 1) d) _ [] 0 _ _ ⟨d1, rfl, by simpa using hd1⟩ ?_ ?_
  · rintro j x S hx ⟨d2, rfl, hd2⟩
    rw [rangeP_get'] at hx
    split at hx <;> cases hx
    rename_i hj
    simp [w_lcFn, BIG]
    refine ⟨by omega, ?_⟩
    refine lcGo_all (fun i S => ∃ d', S = [(0, d')] ∧ Dk d' (B + 1 + 6 * j + 2 * i)) (fun _ _ d => HasH (sz + 1) d) _ [] 0 _ _ ⟨d2, rfl, by simpa using hd2⟩ ?_ ?_
    · rintro i x S hx ⟨d3, rfl, hd3⟩
      rw [rangeP_get'] at hx
      split at hx <;> cases hx
      rename_i hi
      simp [w_lcFn, BIG]
      refine pick_w (by simp) hd3 (by omega) (by decide) (by decide) fun a d4 a0 a1 hd4 => ?_
      simp
      refine pick_w (by simp) hd4 (by omega) (by omega) (by omega) fun b d5 b0 b1 hd5 => ?_
      obtain ⟨bn, rfl⟩ := Int.eq_ofNat_of_zero_le b0
      simp
      exact ⟨⟨(decide (a < 2), bn), rfl, by show bn < sz + 1; omega⟩, hd5.mono (by omega)⟩
    · rintro ds S' hl hR ⟨d6, rfl, hd6⟩
      rw [rangeP_length] at hl hd6
      obtain ⟨hs, rfl, ph⟩ := exists_map (ds := ds) (enc := encH) (p := fun h => h.2 < sz + 1) fun i d e => by
        have hi : i < ds.length := (List.getElem?_eq_some_iff.mp e).1
        exact hR i (.int (0 + (i : Int))) d (by rw [rangeP_get', if_pos (by omega)]) e
      simp
      simp at hl
      refine ⟨by omega, ⟨hs, rfl, hl, ph⟩, hd6.mono (by omega)⟩
  · rintro ds S' hl hR ⟨d6, rfl, hd6⟩
    rw [rangeP_length] at hl hd6
    obtain ⟨hs, rfl, ph⟩ := exists_map (ds := ds) (enc := encM) (p := fun m => m.length = n ∧ ∀ h ∈ m, h.2 < sz + 1) fun i d e => by
      have hi : i < ds.length := (List.getElem?_eq_some_iff.mp e).1
      exact hR i (.int (0 + (i : Int))) d (by rw [rangeP_get', if_pos (by omega)]) e
    simp
    simp at hl
    refine ⟨by omega, hs, rfl, ⟨by omega, by omega, fun m hm => ⟨(ph m hm).1, fun h hh => by rw [hl]; exact (ph m hm).2 h hh⟩⟩, hd6.mono (by omega)⟩
end Hb

namespace Hb
open PySem
theorem guest_w {k p : Nat} {S : Sto} {d : P} {B : Int} {n : Nat} {Q : Val → Sto → Prop} {X : Nat → Option P → Sto → Prop} (hp : S.get p = some d) (hd : Dk d B) (hB : B ≤ 900000000) (hn : n ≤ 3)
    (q : ∀ (g : Guest) d', okG n g → Dk d' (B + 25) → Q (.p (encG g)) (S.put p d')) : Rs (callV (callF pg (k+2)) (.p (.gl 23)) [.l p, .p (.int (n : Int))] S) Q X := by
  refine w_callL (ds := [.int (n : Int)]) rfl hp (Rs.mono (guest_ok k d B n hd hB hn) ?_)
  rintro v S' ⟨g, d', rfl, a, b, c⟩
  exact ⟨_, d', rfl, a, q g d' b c⟩
theorem dep_encGs (gs : List Guest) (n : Nat) : (P.lst (gs.map encG)).dep (n + 4) = true := dep_lst fun d hd => by
  obtain ⟨h, _, rfl⟩ := List.mem_map.mp hd
  exact dep_encG h n
theorem rowd_ok (k : Nat) (d : P) (B : Int) (most : Nat) (hd : Dk d B) (hB : B ≤ 800000000) (hm : most ≤ 3) (h1 : 1 ≤ most) :
    Rs (callF pg (k+3) (.p (.gl 24)) [.l 0, .p (.int (most : Int))] [(0, d)]) (fun v S => ∃ r d', v = .p (encR r) ∧ S.get 0 = some d' ∧ r.Ok ∧ r.gs.length ≤ most ∧ Dk d' (B + 100)) (fun _ _ _ => False) := by
  refine w_callF rfl pg_fn24 rfl rfl ?_
  simp only [fd24]
  simp
  refine pick_w (by simp) hd (by omega) (by decide) (by decide) fun nk d1 n0 n1 hd1 => ?_
  obtain ⟨nn, rfl⟩ := Int.eq_ofNat_of_zero_le n0
  simp [BIG]
  refine pick_w (by simp) hd1 (by omega) (by omega) (by omega) fun s d2 s0 s1 hd2 => ?_
  obtain ⟨sz, rfl⟩ := Int.eq_ofNat_of_zero_le s0
  simp
  refine ⟨by omega, ?_⟩
  obtain ⟨m, hm'⟩ : ∃ m, m = nn + 1 := ⟨_, rfl⟩
  have eN : ((1 : Int) + (nn : Int)) = (m : Int) := by omega
  have eR : rangeP 0 ((1 : Int) + (sz : Int)).toNat = rangeP 0 (sz + 1) := by congr 1; omega
  rw [eR, eN]
  refine for_inv (fun j env S => ∃ (a b : Option Val) (gs : List Guest) (d' : P), env = [some (.l 0), some (.p (.int (most : Int))), some (.p (.int (m : Int))), some (.l 100), a, b] ∧ S = [(0, d'), (100, .lst (gs.map encG))] ∧ gs.length = j ∧ (∀ g ∈ gs, okG m g) ∧ Dk d' (B + 2 + 26 * j)) _ _ _ ?_ ?_ ?_
  · exact ⟨_, _, [], d2, rfl, rfl, rfl, fun g hg => (by cases hg), hd2.mono (by omega)⟩
  · rintro j x env S hx ⟨a, b, gs, d3, rfl, rfl, hl, hg, hd3⟩
    skip
    rw [rangeP_get'] at hx
    split at hx <;> cases hx
    rename_i hj
    rw [s_forF]
    simp
    have hd3 : Dk d3 (B + 2 + 26 * (j : Int)) := hd3
    refine guest_w (by simp) hd3 (by omega) (by omega) fun g d4 og hd4 => ?_
    have hgl : gs.length < BIG := by simp [BIG]; omega
    have hne : op2 .ne (.lst (gs.map encG)) (.lst []) = some (.bl (!gs.isEmpty)) := by
      rw [op_ne (cmpb_of (dep_encGs gs 56) (dep_lst fun d h => by cases h)), eqv_emp]
      cases gs <;> rfl
    simp [hne, BIG]
    refine Br_intro (fun he => ?_) (fun he => ?_)
    · obtain rfl : gs = [] := by simpa using he
      simp [metV, BIG]
      simp at hl
      exact ⟨[g], d4, ⟨rfl, rfl⟩, by simp [← hl], by simpa using og, hd4.mono (by omega)⟩
    · simp
      refine pick_w (by simp) hd4 (by omega) (by decide) (by decide) fun c d5 c0 c1 hd5 => ?_
      have hce : op2 .eq (.int c) (.int 0) = some (.bl (decide (c = 0))) := by
        rw [op_eq (cmpb_of (dep_int _ _) (dep_int _ _)), eqv_int]
      simp [hce]
      refine Br_intro (fun hc => ?_) (fun hc => ?_)
      · have hne2 : gs ≠ [] := by simpa using he
        obtain ⟨ys, y, rfl⟩ : ∃ ys y, gs = ys ++ [y] := ⟨gs.dropLast, gs.getLast hne2, (List.dropLast_concat_getLast hne2).symm⟩
        simp [metV] at hgl ⊢
        refine ⟨hgl, ys ++ [y] ++ [y], d5, ⟨rfl, by simp⟩, by simp at hl ⊢; omega, ?_, hd5.mono (by omega)⟩
        intro g' hg'
        simp at hg'
        rcases hg' with h | h
        · exact hg g' (by simp [h])
        · exact hg g' (by simp [h])
      · simp [metV, hgl]
        refine ⟨gs ++ [g], d5, ⟨rfl, by simp⟩, by simp [hl], ?_, hd5.mono (by omega)⟩
        intro g' hg'
        simp at hg'
        rcases hg' with h | h
        · exact hg g' h
        · exact h ▸ og
  · rintro env S ⟨a, b, gs, d3, rfl, rfl, hl, hg, hd3⟩
    rw [rangeP_length] at hl hd3
    simp [BIG]
    exact ⟨⟨m, gs⟩, rfl, ⟨by show 1 ≤ m; omega, by show m ≤ 3; omega, by show 1 ≤ gs.length; omega, by show gs.length ≤ 3; omega, hg⟩, by show gs.length ≤ most; omega, hd3.mono (by omega)⟩
theorem row_w {k p : Nat} {S : Sto} {d : P} {B : Int} {most : Nat} {Q : Val → Sto → Prop} {X : Nat → Option P → Sto → Prop} (hp : S.get p = some d) (hd : Dk d B) (hB : B ≤ 800000000) (hm : most ≤ 3) (h1 : 1 ≤ most)
    (q : ∀ (r : Row) d', r.Ok → r.gs.length ≤ most → Dk d' (B + 100) → Q (.p (encR r)) (S.put p d')) : Rs (callV (callF pg (k+3)) (.p (.gl 24)) [.l p, .p (.int (most : Int))] S) Q X := by
  refine w_callL (ds := [.int (most : Int)]) rfl hp (Rs.mono (rowd_ok k d B most hd hB hm h1) ?_)
  rintro v S' ⟨r, d', rfl, a, b, b', c⟩
  exact ⟨_, d', rfl, a, q r d' b b' c⟩
def HasK (n : Nat) (d : P) : Prop := ∃ m : Nat, d = .int (m : Int) ∧ m < n
end Hb

namespace Hb
open PySem
/-! ### alike in kinds, too -/
def sortP : P → Int
  | .bl _ => 1
  | .int _ => 2
  | .str _ => 3
  | .lst _ => 4
  | .tup _ => 5
  | _ => 6
theorem sort_c (k : Nat) (d : P) (hd : d.pl = true) (S : Sto) : callV (callF pg (k+1)) (.p (.gl 19)) [.p d] S = .ok (.p (.int (sortP d))) S := by
  refine callV_of (ds := [d]) (S' := []) (Rs_eq (w_callF rfl pg_fn19 rfl rfl ?_)) rfl
  cases d <;> simp [fd19, isTy, List.mapM_cons, List.mapM_nil, sortP] <;> simp [P.pl] at hd
theorem enumP_mem {ps : List P} {x : P} (h : x ∈ enumP 0 ps) : ∃ (i : Nat) (d : P), x = .wtup [.int (i : Int), d] ∧ ps[i]? = some d := by
  obtain ⟨i, e⟩ := List.mem_iff_getElem?.mp h
  rw [enumP_get'] at e
  cases hp : ps[i]? with
  | none => rw [hp] at e; cases e
  | some d =>
    rw [hp] at e
    cases e
    exact ⟨i, d, by simp, hp⟩
theorem fm_none : ∀ xs : List P, xs.filterMap (fun _ => (none : Option P)) = []
  | [] => rfl
  | x :: xs => by simp [List.filterMap_cons, fm_none xs]
theorem same_ok (k : Nat) : ∀ (n : Nat) (d : P), d.dep n = true → callF pg (k + n + 2) (.p (.gl 20)) [.p d, .p d] [] = .ok (.p (.bl true)) [] := by
  intro n
  induction n with
  | zero =>
    intro d hd
    have hpl : d.pl = true := Pok.pl ⟨0, hd⟩
    have hL : d.dep LIM = true := by cases d <;> simp_all [P.dep]
    have he : op2 .eq d d = some (.bl true) := by rw [op_eq (cmpb_of hL hL), eqv_self d LIM hL]
    have hn : ∀ i : Int, op2 .ne (.int i) (.int i) = some (.bl false) := fun i => by rw [op_ne (cmpb_of (dep_int _ _) (dep_int _ _)), eqv_int]; simp
    refine Rs_eq (w_callF rfl pg_fn20 rfl rfl ?_)
    simp [fd20, sort_c, hpl, hn]
    refine Br_intro (fun h1 => ?_) (fun h1 => ?_)
    · have : sortP d < 6 → False := by cases d <;> simp_all [sortP, P.dep]
      simp [sort_c, hpl]
      refine Br_intro (fun h2 => ?_) (fun h2 => ?_)
      · exact (this (by simpa using h2)).elim
      · simp [he]
    · simp [he]
  | succ n ih =>
    intro d hd
    have hpl : d.pl = true := Pok.pl ⟨n + 1, hd⟩
    have hn : ∀ i : Int, op2 .ne (.int i) (.int i) = some (.bl false) := fun i => by rw [op_ne (cmpb_of (dep_int _ _) (dep_int _ _)), eqv_int]; simp
    refine Rs_eq (w_callF rfl pg_fn20 rfl rfl ?_)
    have atom : (sortP d ≤ 3 ∨ 6 ≤ sortP d) → op2 .eq d d = some (.bl true) := fun ha => by
      have hL : d.dep LIM = true := by cases d <;> simp_all [P.dep, sortP]
      rw [op_eq (cmpb_of hL hL), eqv_self d LIM hL]
    have loop : ∀ ps : List P, P.deps ps n = true → ∀ (e : Env) (v : P) (hv : v = .lst ps ∨ v = .tup ps) (K : List P → Sto → Prop) (h3 : e[1]? = some (some (.p v))) (hl : e.length = 4), K [] [] →
        Rs (lcGo (lcFn pg.toProg (callF pg (k + n + 2)) (.tp (.tcons (.nm 2) (.tcons (.nm 3) .tnil))) (.not (.call 20 (.cons (.var 3) (.cons (.idx (.var 1) (.var 2)) .nil)))) (.var 2) e [2, 3]) (enumP 0 ps) [] []) K (fun _ _ _ => False) := by
      intro ps hps e v hv K h3 hl hK
      refine lcGo_fm (g := fun _ => none) _ [] _ (fun x hx => ?_) (by rw [fm_none]; exact hK)
      obtain ⟨i, d, rfl, hi⟩ := enumP_mem hx
      match e, hl with
      | [a, b, c, d'], _ =>
        simp at h3
        subst h3
        have hdd := deps_mem hps d (List.mem_of_getElem? hi)
        have hc : callV (callF pg (k + n + 2)) (.p (.gl 20)) [.p d, .p d] [] = .ok (.p (.bl true)) [] := callV_of (ds := [d, d]) (ih d hdd) rfl
        rcases hv with rfl | rfl <;> simp [w_lcFn, hi, hc]
    have ee : op2 .eq (.lst []) (.lst []) = some (.bl true) := by rw [op_eq (cmpb_of (dep_lst fun d h => by cases h) (dep_lst fun d h => by cases h)), eqv_emp]; rfl
    cases d with
    | tup ps =>
      simp only [P.dep] at hd
      simp [fd20, sort_c, hpl, hn, sortP]
      exact loop ps hd _ (.tup ps) (.inr rfl) _ rfl rfl (by simp [BIG, ee])
    | lst ps =>
      simp only [P.dep] at hd
      simp [fd20, sort_c, hpl, hn, sortP]
      exact loop ps hd _ (.lst ps) (.inl rfl) _ rfl rfl (by simp [BIG, ee])
    | dct _ _ => simp [P.pl] at hpl
    | set _ => simp [P.pl] at hpl
    | wtup _ => simp [P.pl] at hpl
    | gl _ => simp [P.pl] at hpl
    | fn _ _ => simp [P.pl] at hpl
    | non => simp [fd20, sort_c, hpl, hn, sortP, atom (by simp [sortP])]
    | bl b => simp [fd20, sort_c, hpl, hn, sortP, atom (by simp [sortP])]
    | int i => simp [fd20, sort_c, hpl, hn, sortP, atom (by simp [sortP])]
    | str s => simp [fd20, sort_c, hpl, hn, sortP, atom (by simp [sortP])]
theorem same_c (k n : Nat) (d : P) (h : d.dep n = true) (S : Sto) : callV (callF pg (k + n + 2)) (.p (.gl 20)) [.p d, .p d] S = .ok (.p (.bl true)) S :=
  callV_of (ds := [d, d]) (same_ok k n d h) rfl
end Hb

namespace Hb
open PySem
/-! ### again and again: the numbers -/
@[simp] theorem ix_R0 (r : Row) : ix (encR r) (.int 0) = some (.int (r.n : Int)) := rfl
@[simp] theorem ix_R1 (r : Row) : ix (encR r) (.int 1) = some (.tup (r.gs.map encG)) := rfl
theorem nodup_sub {α : Type} [BEq α] [LawfulBEq α] : ∀ {l m : List α}, l.Nodup → (∀ x ∈ l, x ∈ m) → l.length ≤ m.length
  | [], m, _, _ => Nat.zero_le _
  | a :: l, m, h, s => by
    have h' := List.nodup_cons.mp h
    have ha : a ∈ m := s a (by simp)
    have := nodup_sub (l := l) (m := m.erase a) h'.2 (fun x hx => (List.mem_erase_of_ne (fun (e : x = a) => h'.1 (e ▸ hx))).mpr (s x (by simp [hx])))
    have hl := List.length_erase_of_mem ha
    have hp : 0 < m.length := List.length_pos_of_mem ha
    simp only [List.length_cons]
    omega
def allMs : List Guest → List (List Nat)
  | [] => [[]]
  | g :: gs => (List.range g.length).flatMap fun m => (allMs gs).map (m :: ·)
theorem mem_allMs : ∀ {gs : List Guest} {ms : List Nat}, okMs gs ms → ms ∈ allMs gs
  | [], [], _ => by simp [allMs]
  | [], _ :: _, h => by simp [okMs] at h
  | _ :: _, [], h => by simp [okMs] at h
  | g :: gs, m :: ms, h => by
    simp only [allMs, List.mem_flatMap, List.mem_range, List.mem_map]
    exact ⟨m, h.2 0 g m rfl rfl, ms, mem_allMs ⟨by have := h.1; simpa using this, fun j g' m' a b => h.2 (j + 1) g' m' (by simpa using a) (by simpa using b)⟩, rfl⟩
theorem flatMap_len {α β : Type} (f : α → List β) (c : Nat) : ∀ xs : List α, (∀ x ∈ xs, (f x).length ≤ c) → (xs.flatMap f).length ≤ xs.length * c
  | [], _ => by simp
  | x :: xs, h => by
    have h1 := h x (by simp)
    have h2 := flatMap_len f c xs fun y hy => h y (by simp [hy])
    simp only [List.flatMap_cons, List.length_append, List.length_cons, Nat.add_mul, Nat.one_mul]
    omega
theorem allMs_len : ∀ {gs : List Guest}, (∀ g ∈ gs, g.length ≤ 4) → (allMs gs).length ≤ 4 ^ gs.length
  | [], _ => by simp [allMs]
  | g :: gs, h => by
    have h1 := allMs_len (gs := gs) fun g' hg => h g' (by simp [hg])
    have h2 := flatMap_len (fun m => (allMs gs).map (m :: ·)) (4 ^ gs.length) (List.range g.length) (fun x _ => by rw [List.length_map]; exact h1)
    have h3 := h g (by simp)
    simp only [allMs, List.length_cons, Nat.pow_succ]
    rw [List.length_range] at h2
    have : g.length * 4 ^ gs.length ≤ 4 * 4 ^ gs.length := Nat.mul_le_mul_right _ h3
    omega
theorem ms_few {r : Row} (hr : r.Ok) {l : List (List Nat)} (hn : l.Nodup) (ho : ∀ ms ∈ l, okMs r.gs ms) : l.length ≤ 64 := by
  have h1 := nodup_sub hn fun x hx => mem_allMs (ho x hx)
  have h2 := allMs_len (gs := r.gs) fun g hg => (hr.gs g hg).2.1
  have h3 : 4 ^ r.gs.length ≤ 4 ^ 3 := Nat.pow_le_pow_right (by decide) hr.g3
  omega
theorem nodup_snoc {α : Type} {l : List α} {a : α} (h : l.Nodup) (n : a ∉ l) : (l ++ [a]).Nodup := by
  rw [List.nodup_append]
  refine ⟨h, by simp, fun x hx y hy e => ?_⟩
  rw [List.mem_singleton] at hy
  exact n (by rw [← hy, ← e]; exact hx)
theorem map_int_inj : ∀ {a b : List Nat}, (a.map fun (m : Nat) => P.int (m : Int)) = (b.map fun (m : Nat) => P.int (m : Int)) → a = b
  | [], [], _ => rfl
  | [], _ :: _, h => by simp at h
  | _ :: _, [], h => by simp at h
  | x :: a, y :: b, h => by
    simp only [List.map_cons, List.cons.injEq, P.int.injEq] at h
    rw [map_int_inj h.2, show x = y by omega]
theorem encNs_inj {a b : List Nat} (h : encNs a = encNs b) : a = b := map_int_inj (P.tup.inj h)
theorem nb_Ns (a : List Nat) : (encNs a).nb = true := by
  simp only [encNs, P.nb]
  exact nbs_all fun d hd => by
    obtain ⟨m, _, rfl⟩ := List.mem_map.mp hd
    rfl
theorem eqv_Ns (a b : List Nat) : P.eqv (encNs a) (encNs b) = decide (a = b) := by
  rw [eqv_dec (nb_Ns a) (nb_Ns b)]
  by_cases h : a = b
  · simp [h]
  · simp [h, show ¬ encNs a = encNs b from fun e => h (encNs_inj e)]
theorem dep_Nss (l : List (List Nat)) (n : Nat) : (P.lst (l.map encNs)).dep (n + 2) = true := dep_lst fun d hd => by
  obtain ⟨a, _, rfl⟩ := List.mem_map.mp hd
  exact dep_encNs a n
theorem any_Ns (l : List (List Nat)) (a : List Nat) : ((l.map encNs).any fun z => P.eqv z (encNs a)) = decide (a ∈ l) := by
  rw [List.any_map, Bool.eq_iff_iff]
  simp only [Function.comp_def, eqv_Ns, List.any_eq_true, decide_eq_true_eq]
  exact ⟨fun ⟨x, h, e⟩ => e ▸ h, fun h => ⟨a, h, rfl⟩⟩
theorem op_notinNs (l : List (List Nat)) (a : List Nat) : op2 .notin (encNs a) (.lst (l.map encNs)) = some (.bl (!decide (a ∈ l))) := by
  have e : inOp (encNs a) (.lst (l.map encNs)) = some (decide (a ∈ l)) := by
    simp only [inOp, items_l]
    rw [if_pos (cmpb_of (dep_encNs a 59) (dep_Nss l 58)), any_Ns]
  simp only [op2, e, Option.map_some]
theorem find_Ns {l : List (List Nat)} {a : List Nat} {j : Nat} (hj : l[j]? = some a) (hm : ∀ i b, i < j → l[i]? = some b → b ≠ a) : (l.map encNs).findIdx? (fun z => P.eqv z (encNs a)) = some j := by
  obtain ⟨h1, h2⟩ := List.getElem?_eq_some_iff.mp hj
  rw [List.findIdx?_eq_some_iff_getElem]
  refine ⟨by simpa using h1, by simp [eqv_Ns, h2], fun i hi => ?_⟩
  have hl : i < l.length := by omega
  have := hm i l[i] hi (List.getElem?_eq_getElem hl)
  simp [eqv_Ns, this]
theorem met_indexNs {l : List (List Nat)} {a : List Nat} {j : Nat} (hj : l[j]? = some a) (hm : ∀ i b, i < j → l[i]? = some b → b ≠ a) : metP .index (.lst (l.map encNs)) [encNs a] = some (.int (j : Int)) := by
  simp only [metP]
  rw [if_pos (cmpb_of (dep_Nss l 58) (dep_encNs a 59)), find_Ns hj hm]
  rfl
end Hb

namespace Hb
open PySem
/-! ### two rows side by side: all pairs of moods, level by level -/
abbrev MM := List Nat × List Nat
abbrev It2 := MM × List Nat
/-- what a dish does: whether it is told unlike, the moods then, the stream -/
abbrev Ev := Bool × It2
def nxt (g1 g2 : List Guest) (k : Nat) (p : MM) : MM := ((dishF k 0 g1 p.1).2, (dishF k 0 g2 p.2).2)
def evOf (df : Option Nat → Option Nat → Bool) (g1 g2 : List Guest) (x : It2) (k : Nat) : Ev :=
  (df (dishF k 0 g1 x.1.1).1 (dishF k 0 g2 x.1.2).1, nxt g1 g2 k x.1, x.2 ++ [k])
def kidsOf (df : Option Nat → Option Nat → Bool) (g1 g2 : List Guest) (n : Nat) (x : It2) : List Ev := (List.range n).map (evOf df g1 g2 x)
def evsOf (df : Option Nat → Option Nat → Bool) (g1 g2 : List Guest) (n : Nat) (l : List It2) : List Ev := l.flatMap (kidsOf df g1 g2 n)
def fresh : List MM → List It2 → List It2
  | _, [] => []
  | M, x :: r => if x.1 ∈ M then fresh M r else x :: fresh (M ++ [x.1]) r
theorem fresh_pos {M : List MM} {x : It2} {l : List It2} (h : x.1 ∈ M) : fresh M (x :: l) = fresh M l := if_pos h
theorem fresh_neg {M : List MM} {x : It2} {l : List It2} (h : x.1 ∉ M) : fresh M (x :: l) = x :: fresh (M ++ [x.1]) l := if_neg h
theorem fresh_snoc_old : ∀ (l : List It2) (M : List MM) (x : It2), x.1 ∈ M ++ (fresh M l).map (·.1) → fresh M (l ++ [x]) = fresh M l
  | [], M, x, h => fresh_pos (by simpa [fresh] using h)
  | y :: l, M, x, h => by
    rw [List.cons_append]
    by_cases hy : y.1 ∈ M
    · rw [fresh_pos hy] at h ⊢
      rw [fresh_pos hy]
      exact fresh_snoc_old l M x h
    · rw [fresh_neg hy] at h ⊢
      rw [fresh_neg hy, fresh_snoc_old l (M ++ [y.1]) x (by simpa using h)]
theorem fresh_snoc_new : ∀ (l : List It2) (M : List MM) (x : It2), x.1 ∉ M ++ (fresh M l).map (·.1) → fresh M (l ++ [x]) = fresh M l ++ [x]
  | [], M, x, h => fresh_neg (by simpa [fresh] using h)
  | y :: l, M, x, h => by
    rw [List.cons_append]
    by_cases hy : y.1 ∈ M
    · rw [fresh_pos hy] at h ⊢
      rw [fresh_pos hy]
      exact fresh_snoc_new l M x h
    · rw [fresh_neg hy] at h ⊢
      rw [fresh_neg hy, fresh_snoc_new l (M ++ [y.1]) x (by simpa using h), List.cons_append]
theorem fresh_congr : ∀ (l : List It2) {M M' : List MM}, (∀ p, p ∈ M ↔ p ∈ M') → fresh M l = fresh M' l
  | [], _, _, _ => rfl
  | x :: l, M, M', h => by
    simp only [fresh]
    by_cases hx : x.1 ∈ M
    · rw [if_pos hx, if_pos ((h _).mp hx), fresh_congr l h]
    · rw [if_neg hx, if_neg (fun z => hx ((h _).mpr z))]
      congr 1
      refine fresh_congr l fun p => ?_
      simp [h p]
theorem fresh_mem : ∀ {l : List It2} {M : List MM} {x : It2}, x ∈ fresh M l → x ∈ l ∧ x.1 ∉ M
  | y :: l, M, x, h => by
    simp only [fresh] at h
    split at h
    · have := fresh_mem h
      exact ⟨List.mem_cons_of_mem _ this.1, this.2⟩
    · rename_i hy
      rcases List.mem_cons.mp h with rfl | h
      · exact ⟨List.mem_cons_self, hy⟩
      · have := fresh_mem h
        exact ⟨List.mem_cons_of_mem _ this.1, fun z => this.2 (by simp [z])⟩
theorem fresh_nodup : ∀ (l : List It2) (M : List MM), M.Nodup → (M ++ (fresh M l).map (·.1)).Nodup
  | [], M, h => by simpa [fresh] using h
  | x :: l, M, h => by
    simp only [fresh]
    by_cases hx : x.1 ∈ M
    · rw [if_pos hx]; exact fresh_nodup l M h
    · rw [if_neg hx]
      have := fresh_nodup l (M ++ [x.1]) (nodup_snoc h hx)
      simpa using this
theorem fresh_len (l : List It2) (M : List MM) : (fresh M l).length ≤ l.length := by
  induction l generalizing M with
  | nil => simp [fresh]
  | cons x l ih =>
    simp only [fresh]
    split
    · have := ih M; simp; omega
    · have := ih (M ++ [x.1]); simp; omega
section
variable (df : Option Nat → Option Nat → Bool) (g1 g2 : List Guest) (n : Nat)
/-- levels: line, met -/
def lvl : Nat → List It2 × List MM
  | 0 => ([((firstMs g1, firstMs g2), [])], [(firstMs g1, firstMs g2)])
  | i + 1 => (fresh (lvl i).2 ((evsOf df g1 g2 n (lvl i).1).map (·.2)), (lvl i).2 ++ (fresh (lvl i).2 ((evsOf df g1 g2 n (lvl i).1).map (·.2))).map (·.1))
/-- no dish of this line is told unlike -/
def calm (l : List It2) : Prop := ∀ e ∈ evsOf df g1 g2 n l, e.1 = false
/-- the first shortest stream -/
def IsFst (o : Option (List Nat)) : Prop := ∃ i, (∀ j, j < i → calm df g1 g2 n (lvl df g1 g2 n j).1) ∧
  ((o = none ∧ (lvl df g1 g2 n i).1 = []) ∨ ∃ pre e rest, evsOf df g1 g2 n (lvl df g1 g2 n i).1 = pre ++ e :: rest ∧ (∀ x ∈ pre, x.1 = false) ∧ e.1 = true ∧ o = some e.2.2)
end
section
variable {df : Option Nat → Option Nat → Bool} {g1 g2 : List Guest} {n : Nat}
theorem first_uniq {α : Type} {f : α → Bool} : ∀ {p1 p2 : List α} {e1 e2 : α} {r1 r2 : List α}, p1 ++ e1 :: r1 = p2 ++ e2 :: r2 → (∀ x ∈ p1, f x = false) → (∀ x ∈ p2, f x = false) → f e1 = true → f e2 = true → e1 = e2
  | [], [], _, _, _, _, h, _, _, _, _ => by simp at h; exact h.1
  | [], y :: p2, e1, _, _, _, h, _, h2, h3, _ => by
    simp at h
    have := h2 y (by simp)
    rw [← h.1, h3] at this
    cases this
  | y :: p1, [], _, e2, _, _, h, h1, _, _, h4 => by
    simp at h
    have := h1 y (by simp)
    rw [h.1, h4] at this
    cases this
  | y :: p1, z :: p2, e1, e2, r1, r2, h, h1, h2, h3, h4 => by
    simp at h
    exact first_uniq h.2 (fun x hx => h1 x (by simp [hx])) (fun x hx => h2 x (by simp [hx])) h3 h4
theorem lvl_nil {i : Nat} (h : (lvl df g1 g2 n i).1 = []) : ∀ j, i ≤ j → (lvl df g1 g2 n j).1 = [] := by
  intro j hj
  induction j with
  | zero => have : i = 0 := by omega
            subst this; exact h
  | succ j ih =>
    by_cases e : i = j + 1
    · subst e; exact h
    · have := ih (by omega)
      simp only [lvl, this, evsOf, List.flatMap_nil, List.map_nil, fresh]
theorem IsFst.uniq {o o' : Option (List Nat)} (h : IsFst df g1 g2 n o) (h' : IsFst df g1 g2 n o') : o = o' := by
  obtain ⟨i, c, h⟩ := h
  obtain ⟨i', c', h'⟩ := h'
  have busy : ∀ {i j : Nat} {pre : List Ev} {e : Ev} {rest : List Ev}, evsOf df g1 g2 n (lvl df g1 g2 n i).1 = pre ++ e :: rest → e.1 = true → (lvl df g1 g2 n j).1 = [] → i < j := by
    intro i j pre e rest h1 h2 h3
    refine Classical.byContradiction fun hc => ?_
    rw [lvl_nil h3 i (by omega)] at h1
    simp [evsOf] at h1
  have nc : ∀ {i : Nat} {pre : List Ev} {e : Ev} {rest : List Ev}, evsOf df g1 g2 n (lvl df g1 g2 n i).1 = pre ++ e :: rest → e.1 = true → ¬ calm df g1 g2 n (lvl df g1 g2 n i).1 := by
    intro i pre e rest h1 h2 h3
    have := h3 e (by rw [h1]; simp)
    rw [h2] at this
    cases this
  rcases h with ⟨rfl, h⟩ | ⟨pre, e, rest, h1, h2, h3, rfl⟩
  · rcases h' with ⟨rfl, _⟩ | ⟨pre, e, rest, h1, h2, h3, rfl⟩
    · rfl
    · exact absurd (c i' (busy h1 h3 h)) (nc h1 h3)
  · rcases h' with ⟨rfl, h⟩ | ⟨pre', e', rest', h1', h2', h3', rfl⟩
    · exact absurd (c' i (busy h1 h3 h)) (nc h1 h3)
    · have e1 : i = i' := by
        rcases Nat.lt_trichotomy i i' with h | h | h
        · exact absurd (c' i h) (nc h1 h3)
        · exact h
        · exact absurd (c i' h) (nc h1' h3')
      subst e1
      rw [h1] at h1'
      rw [first_uniq (f := fun x : Ev => x.1) h1' h2 h2' h3 h3']
/-- what is met are moods that can be; lines are of it; streams are of kinds, as long as the level -/
structure LvOk (df : Option Nat → Option Nat → Bool) (g1 g2 : List Guest) (n i : Nat) : Prop where
  nd : (lvl df g1 g2 n i).2.Nodup
  ok : ∀ p ∈ (lvl df g1 g2 n i).2, okMs g1 p.1 ∧ okMs g2 p.2
  sub : ∀ x ∈ (lvl df g1 g2 n i).1, x.1 ∈ (lvl df g1 g2 n i).2
  ks : ∀ x ∈ (lvl df g1 g2 n i).1, (∀ k ∈ x.2, k < n) ∧ x.2.length = i
theorem lv_ok (h1 : ∀ g ∈ g1, okG n g) (h2 : ∀ g ∈ g2, okG n g) : ∀ i, LvOk df g1 g2 n i
  | 0 => ⟨by simp [lvl], by simp [lvl, firstMs_ok h1, firstMs_ok h2], by simp [lvl], by simp [lvl]⟩
  | i + 1 => by
    have ih := lv_ok h1 h2 i
    have key : ∀ x ∈ fresh (lvl df g1 g2 n i).2 ((evsOf df g1 g2 n (lvl df g1 g2 n i).1).map (·.2)), (okMs g1 x.1.1 ∧ okMs g2 x.1.2) ∧ (∀ k ∈ x.2, k < n) ∧ x.2.length = i + 1 := by
      intro x hx
      obtain ⟨e, he, rfl⟩ := List.mem_map.mp (fresh_mem hx).1
      obtain ⟨y, hy, he⟩ := List.mem_flatMap.mp he
      obtain ⟨k, hk, rfl⟩ := List.mem_map.mp he
      have hk := List.mem_range.mp hk
      obtain ⟨o1, o2⟩ := ih.ok _ (ih.sub y hy)
      obtain ⟨s1, s2⟩ := ih.ks y hy
      refine ⟨⟨dishF_ok hk 0 g1 _ h1 o1, dishF_ok hk 0 g2 _ h2 o2⟩, ?_, by simp [evOf, s2]⟩
      intro k' hk'
      simp [evOf] at hk'
      rcases hk' with h | h
      · exact s1 k' h
      · omega
    refine ⟨fresh_nodup _ _ ih.nd, ?_, ?_, ?_⟩
    · intro p hp
      rcases List.mem_append.mp hp with hp | hp
      · exact ih.ok p hp
      · obtain ⟨x, hx, rfl⟩ := List.mem_map.mp hp
        exact (key x hx).1
    · intro x hx
      exact List.mem_append_right _ (List.mem_map_of_mem hx)
    · intro x hx
      exact (key x hx).2
theorem lv_few {r1 r2 : Row} (o1 : r1.Ok) (o2 : r2.Ok) {i : Nat} (h : LvOk df r1.gs r2.gs n i) : (lvl df r1.gs r2.gs n i).2.length ≤ 4096 := by
  have hs := nodup_sub (m := (allMs r1.gs).flatMap fun a => (allMs r2.gs).map fun b => (a, b)) h.nd (fun p hp => by
    obtain ⟨a, b⟩ := h.ok p hp
    exact List.mem_flatMap.mpr ⟨p.1, mem_allMs a, List.mem_map.mpr ⟨p.2, mem_allMs b, rfl⟩⟩)
  have l1 := allMs_len (gs := r1.gs) fun g hg => (o1.gs g hg).2.1
  have l2 := allMs_len (gs := r2.gs) fun g hg => (o2.gs g hg).2.1
  have p1 : 4 ^ r1.gs.length ≤ 4 ^ 3 := Nat.pow_le_pow_right (by decide) o1.g3
  have p2 : 4 ^ r2.gs.length ≤ 4 ^ 3 := Nat.pow_le_pow_right (by decide) o2.g3
  have h3 := flatMap_len (fun a => (allMs r2.gs).map fun b => (a, b)) 64 (allMs r1.gs) (fun x _ => by rw [List.length_map]; omega)
  have : (allMs r1.gs).length * 64 ≤ 64 * 64 := Nat.mul_le_mul_right _ (by omega)
  omega
theorem lv_line_le (df : Option Nat → Option Nat → Bool) (g1 g2 : List Guest) (n : Nat) : ∀ i, (lvl df g1 g2 n i).1.length ≤ (lvl df g1 g2 n i).2.length
  | 0 => by simp [lvl]
  | i + 1 => by simp [lvl]
/-- a line that is not empty at i: i met ones at least -/
theorem lv_grow (df : Option Nat → Option Nat → Bool) (g1 g2 : List Guest) (n : Nat) : ∀ i, (lvl df g1 g2 n i).1 ≠ [] → i < (lvl df g1 g2 n i).2.length
  | 0, _ => by simp [lvl]
  | i + 1, h => by
    have h0 : (lvl df g1 g2 n i).1 ≠ [] := fun e => h (lvl_nil e (i + 1) (by omega))
    have ih := lv_grow df g1 g2 n i h0
    have : 0 < (lvl df g1 g2 n (i + 1)).1.length := List.length_pos_iff.mpr h
    simp only [lvl, List.length_append, List.length_map] at this ⊢
    omega
end
end Hb

namespace Hb
open PySem
def encMM (p : MM) : P := .tup [encNs p.1, encNs p.2]
def encI (x : It2) : P := .tup [encMM x.1, encNs x.2]
def encSO : Option (List Nat) → P
  | none => .non
  | some s => encNs s
theorem encMM_inj {p q : MM} (h : encMM p = encMM q) : p = q := by
  simp only [encMM, P.tup.injEq, List.cons.injEq, and_true] at h
  exact Prod.ext (encNs_inj h.1) (encNs_inj h.2)
theorem nb_MM (p : MM) : (encMM p).nb = true := by
  simp only [encMM, P.nb, P.nbs, nb_Ns, Bool.and_self]
theorem eqv_MM (p q : MM) : P.eqv (encMM p) (encMM q) = decide (p = q) := by
  rw [eqv_dec (nb_MM p) (nb_MM q)]
  by_cases h : p = q
  · simp [h]
  · simp [h, show ¬ encMM p = encMM q from fun e => h (encMM_inj e)]
theorem keys_ints : ∀ (l : List Nat) (n : Nat), P.keys (l.map fun (m : Nat) => P.int (m : Int)) n = true
  | [], _ => by simp [P.keys]
  | m :: l, n => by simp [P.keys, P.key, keys_ints l n]
theorem keyT_MM (p : MM) : keyT (encMM p) = true := by
  simp [keyT, encMM, encNs, P.keys, P.key, keys_ints]
theorem intKs_MM (M : List MM) : intKs (M.map encMM) = false := by cases M <;> rfl
theorem dk_MM (M : List MM) (p : MM) : dkOk (M.map encMM) (encMM p) = true := by
  have h1 := keyT_MM p
  have h2 := intKs_MM M
  show (keyT (encMM p) && !intKs (M.map encMM)) = true
  rw [h1, h2]
  rfl
theorem kHas_MM (M : List MM) (p : MM) : kHas (M.map encMM) (encMM p) = decide (p ∈ M) := by
  unfold kHas
  rw [List.any_map, Bool.eq_iff_iff]
  simp only [Function.comp_def, eqv_MM, List.any_eq_true, decide_eq_true_eq]
  exact ⟨fun ⟨x, h, e⟩ => e ▸ h, fun h => ⟨p, h, rfl⟩⟩
def metD (M : List MM) : P := .dct (M.map encMM) (M.map fun _ => P.bl true)
theorem put_MM {M : List MM} {p : MM} (h : p ∉ M) : kPut (M.map encMM) (M.map fun _ => P.bl true) (encMM p) (.bl true) = metD (M ++ [p]) := by
  unfold kPut
  rw [kHas_MM, if_neg (by simpa using h)]
  simp [metD]
theorem op_notinMM (M : List MM) (a b : List Nat) : op2 .notin (.tup [encNs a, encNs b]) (metD M) = some (.bl (!decide ((a, b) ∈ M))) := by
  have h1 := dk_MM M (a, b)
  have h2 := kHas_MM M (a, b)
  have e : encMM (a, b) = .tup [encNs a, encNs b] := rfl
  rw [e] at h1 h2
  simp [op2, inOp, metD, h1, h2]
theorem sidx_MM {S : Sto} {M : List MM} {a b : List Nat} (h : (a, b) ∉ M) (hl : M.length < BIG) (g : S.get 100 = some (metD M)) : sidxV (.p (.bl true)) (.l 100) (.p (.tup [encNs a, encNs b])) S = some (S.put 100 (metD (M ++ [(a, b)]))) := by
  rw [← put_MM h]
  exact sidxV_dct g (dk_MM M (a, b)) (by simpa using hl)
theorem dep_I (x : It2) (n : Nat) : (encI x).dep (n + 3) = true := dep_tup fun d hd => by
  simp [encMM] at hd
  rcases hd with rfl | rfl
  · exact dep_tup fun d hd => by
      simp at hd
      rcases hd with rfl | rfl
      · exact dep_encNs _ _
      · exact dep_encNs _ _
  · exact dep_encNs _ _
theorem ne_line (l : List It2) : op2 .ne (.lst (l.map encI)) (.lst []) = some (.bl (!l.isEmpty)) := by
  rw [op_ne (cmpb_of (dep_lst (n := 59) fun d hd => by
    obtain ⟨x, _, rfl⟩ := List.mem_map.mp hd
    exact dep_I x 56) (dep_lst fun d h => by cases h)), eqv_emp]
  cases l <;> rfl
theorem op_addNs (s : List Nat) (k : Nat) (h : s.length ≤ 90000) : op2 .add (encNs s) (.tup [.int (k : Int)]) = some (encNs (s ++ [k])) := by
  unfold encNs
  rw [op_addT (by simp [BIG]; omega)]
  simp
theorem evs_take {df : Option Nat → Option Nat → Bool} {g1 g2 : List Guest} {n : Nat} {l : List It2} {j : Nat} {x : It2} (h : l[j]? = some x) : evsOf df g1 g2 n (l.take (j + 1)) = evsOf df g1 g2 n (l.take j) ++ kidsOf df g1 g2 n x := by
  rw [take_snoc h]
  simp [evsOf]
theorem kids_get {df : Option Nat → Option Nat → Bool} {g1 g2 : List Guest} {n i : Nat} {x : It2} (h : i < n) : (kidsOf df g1 g2 n x)[i]? = some (evOf df g1 g2 x i) := by
  simp [kidsOf, List.getElem?_map, List.getElem?_range h]
theorem evs_split {df : Option Nat → Option Nat → Bool} {g1 g2 : List Guest} {n : Nat} {l : List It2} {j i : Nat} {x : It2} (h : l[j]? = some x) (hi : i < n) :
    ∃ rest, evsOf df g1 g2 n l = (evsOf df g1 g2 n (l.take j) ++ (kidsOf df g1 g2 n x).take i) ++ evOf df g1 g2 x i :: rest := by
  obtain ⟨hj, e⟩ := List.getElem?_eq_some_iff.mp h
  have e1 : l = l.take j ++ (x :: l.drop (j + 1)) := by
    rw [← e, List.getElem_cons_drop, List.take_append_drop]
  obtain ⟨hk, e2⟩ := List.getElem?_eq_some_iff.mp (kids_get (df := df) (g1 := g1) (g2 := g2) (x := x) hi)
  have e3 : kidsOf df g1 g2 n x = (kidsOf df g1 g2 n x).take i ++ (evOf df g1 g2 x i :: (kidsOf df g1 g2 n x).drop (i + 1)) := by
    rw [← e2, List.getElem_cons_drop, List.take_append_drop]
  have e4 : evsOf df g1 g2 n l = evsOf df g1 g2 n (l.take j) ++ (kidsOf df g1 g2 n x ++ evsOf df g1 g2 n (l.drop (j + 1))) := by
    conv => lhs; rw [e1]
    simp [evsOf]
  refine ⟨(kidsOf df g1 g2 n x).drop (i + 1) ++ evsOf df g1 g2 n (l.drop (j + 1)), ?_⟩
  rw [e4]
  conv => lhs; rw [e3]
  simp
theorem evs_len (df : Option Nat → Option Nat → Bool) (g1 g2 : List Guest) (n : Nat) (l : List It2) : (evsOf df g1 g2 n l).length = l.length * n := by
  induction l with
  | nil => simp [evsOf]
  | cons x l ih =>
    simp only [evsOf, List.flatMap_cons, List.length_append] at ih ⊢
    rw [ih]
    simp [kidsOf, Nat.add_mul]
    omega
/-- the heap of a level's turn -/
def stoF (M : List MM) (es : List Ev) : Sto := [(100, metD (M ++ (fresh M (es.map (·.2))).map (·.1))), (101, .lst ((fresh M (es.map (·.2))).map encI))]
def meas (l : List It2) (M : List MM) : Nat := 2 * (5000 - M.length) + (if l = [] then 0 else 1)
theorem meas_lt {df : Option Nat → Option Nat → Bool} {g1 g2 : List Guest} {n i : Nat} (hne : (lvl df g1 g2 n i).1 ≠ []) (hl : (lvl df g1 g2 n (i + 1)).2.length ≤ 4096) :
    meas (lvl df g1 g2 n (i + 1)).1 (lvl df g1 g2 n (i + 1)).2 < meas (lvl df g1 g2 n i).1 (lvl df g1 g2 n i).2 := by
  unfold meas
  rw [if_neg hne]
  by_cases h : (lvl df g1 g2 n (i + 1)).1 = []
  · rw [if_pos h]
    simp only [lvl] at h hl ⊢
    rw [h]
    simp
  · rw [if_neg h]
    have := List.length_pos_iff.mpr h
    simp only [lvl, List.length_append, List.length_map] at this hl ⊢
    omega
theorem apartc_ok (k : Nat) (r1 r2 : Row) (b : E) (cs : List P) (gv : Nat) (F G : Option Nat → P) (df : Option Nat → Option Nat → Bool) (o1 : r1.Ok) (o2 : r2.Ok) (hn : r1.n = r2.n) (ha2 : pg.arc gv = some 1)
    (hF : ∀ o S, (callF pg (k+2) (.f 1 b cs) [.p (encO o)] []).cl S = .ok (.p (F o)) S) (hG : ∀ o S, callV (callF pg (k+2)) (.p (.gl gv)) [.p (encO o)] S = .ok (.p (G o)) S)
    (hd : ∀ o o', op2 .ne (F o) (G o') = some (.bl (df o o'))) :
    ∃ d S, callF pg (k+3) (.p (.gl 9)) [.p (encR r1), .p (encR r2), .f 1 b cs, .p (.gl gv)] [] = .ok (.p d) S ∧ ∃ o, d = encSO o ∧ IsFst df r1.gs r2.gs r1.n o := by
  have lvo := fun i => lv_ok (df := df) (n := r1.n) (g1 := r1.gs) (g2 := r2.gs) o1.gs (by rw [hn]; exact o2.gs) i
  have lvf := fun i => lv_few o1 o2 (lvo i)
  have hn1 := o1.n1
  have hn3 := o1.n3
  obtain ⟨Q, hQ⟩ : ∃ Q : P → Prop, Q = fun d => ∃ o, d = encSO o ∧ IsFst df r1.gs r2.gs r1.n o := ⟨_, rfl⟩
  suffices h : ∃ d S, callF pg (k+3) (.p (.gl 9)) [.p (encR r1), .p (encR r2), .f 1 b cs, .p (.gl gv)] [] = .ok (.p d) S ∧ Q d by rw [hQ] at h; exact h
  have hQn : IsFst df r1.gs r2.gs r1.n none → Q .non := fun h => by rw [hQ]; exact ⟨none, rfl, h⟩
  have hQs : ∀ s, IsFst df r1.gs r2.gs r1.n (some s) → Q (encNs s) := fun s h => by rw [hQ]; exact ⟨some s, rfl, h⟩
  refine callQ rfl pg_fn9 rfl rfl ?_
  have kt : keyT (.tup [encNs (firstMs r1.gs), encNs (firstMs r2.gs)]) = true := keyT_MM (firstMs r1.gs, firstMs r2.gs)
  simp [fd9, begin_c _ r1 o1, begin_c _ r2 o2, BIG, kt]
  obtain ⟨I1, hI1⟩ : ∃ I1 : Nat → Env → Sto → Prop, I1 = fun m env S => ∃ (i : Nat) (a7 a8 a9 a10 a11 a12 a13 a14 a15 a16 : Option P), m = meas (lvl df r1.gs r2.gs r1.n i).1 (lvl df r1.gs r2.gs r1.n i).2 ∧
    env = [some (.p (encR r1)), some (.p (encR r2)), some (.f 1 b cs), some (.p (.gl gv)), some (.p (.tup [encNs (firstMs r1.gs), encNs (firstMs r2.gs)])), some (.p (.lst ((lvl df r1.gs r2.gs r1.n i).1.map encI))), some (.l 100), a7.map .p, a8.map .p, a9.map .p, a10.map .p, a11.map .p, a12.map .p, a13.map .p, a14.map .p, a15.map .p, a16.map .p] ∧
    S = [(100, metD (lvl df r1.gs r2.gs r1.n i).2)] ∧ ∀ j, j < i → calm df r1.gs r2.gs r1.n (lvl df r1.gs r2.gs r1.n j).1 := ⟨_, rfl⟩
  refine while_inv I1 (meas (lvl df r1.gs r2.gs r1.n 0).1 (lvl df r1.gs r2.gs r1.n 0).2) _ _ _ (by simp [meas, FUEL, lvl]) ?_ ?_
  · rw [hI1]
    exact ⟨0, none, none, none, none, none, none, none, none, none, none, rfl, rfl, rfl, fun j hj => by omega⟩
  intro m env S hI
  rw [hI1] at hI
  obtain ⟨i, a7, a8, a9, a10, a11, a12, a13, a14, a15, a16, rfl, rfl, rfl, hcalm⟩ := hI
  have lf := lvf i
  have lf1 := lvf (i + 1)
  have hlin := lv_line_le df r1.gs r2.gs r1.n i
  have hgr := lv_grow df r1.gs r2.gs r1.n i
  have hms := fun h => meas_lt (df := df) (g1 := r1.gs) (g2 := r2.gs) (n := r1.n) (i := i) h lf1
  have hitm : ∀ x ∈ (lvl df r1.gs r2.gs r1.n i).1, (okMs r1.gs x.1.1 ∧ okMs r2.gs x.1.2) ∧ x.2.length = i := fun x hx => ⟨(lvo i).ok _ ((lvo i).sub x hx), ((lvo i).ks x hx).2⟩
  have hnext : lvl df r1.gs r2.gs r1.n (i + 1) = (fresh (lvl df r1.gs r2.gs r1.n i).2 ((evsOf df r1.gs r2.gs r1.n (lvl df r1.gs r2.gs r1.n i).1).map (·.2)), (lvl df r1.gs r2.gs r1.n i).2 ++ (fresh (lvl df r1.gs r2.gs r1.n i).2 ((evsOf df r1.gs r2.gs r1.n (lvl df r1.gs r2.gs r1.n i).1).map (·.2))).map (·.1)) := rfl
  have hfin1 : ∀ pre e rest, evsOf df r1.gs r2.gs r1.n (lvl df r1.gs r2.gs r1.n i).1 = pre ++ e :: rest → (∀ x ∈ pre, x.1 = false) → e.1 = true → IsFst df r1.gs r2.gs r1.n (some e.2.2) := fun pre e rest h1 h2 h3 => ⟨i, hcalm, .inr ⟨pre, e, rest, h1, h2, h3, rfl⟩⟩
  have hfin2 : (lvl df r1.gs r2.gs r1.n i).1 = [] → IsFst df r1.gs r2.gs r1.n none := fun h => ⟨i, hcalm, .inl ⟨rfl, h⟩⟩
  have hstep : ∀ m', calm df r1.gs r2.gs r1.n (lvl df r1.gs r2.gs r1.n i).1 → m' = meas (lvl df r1.gs r2.gs r1.n (i + 1)).1 (lvl df r1.gs r2.gs r1.n (i + 1)).2 → ∀ (a7 a8 a9 a10 a11 a12 a13 a14 a15 a16 : Option P),
      I1 m' [some (.p (encR r1)), some (.p (encR r2)), some (.f 1 b cs), some (.p (.gl gv)), some (.p (.tup [encNs (firstMs r1.gs), encNs (firstMs r2.gs)])), some (.p (.lst ((lvl df r1.gs r2.gs r1.n (i + 1)).1.map encI))), some (.l 100), a7.map .p, a8.map .p, a9.map .p, a10.map .p, a11.map .p, a12.map .p, a13.map .p, a14.map .p, a15.map .p, a16.map .p] [(100, metD (lvl df r1.gs r2.gs r1.n (i + 1)).2)] := by
    intro m' hc hm a7 a8 a9 a10 a11 a12 a13 a14 a15 a16
    rw [hI1]
    refine ⟨i + 1, a7, a8, a9, a10, a11, a12, a13, a14, a15, a16, hm, rfl, rfl, fun j hj => ?_⟩
    by_cases e : j = i
    · subst e; exact hc
    · exact hcalm j (by omega)
  generalize hlv : lvl df r1.gs r2.gs r1.n i = lv at *
  obtain ⟨l, M⟩ := lv
  simp only at lf hlin hgr hms hnext hfin1 hfin2 hitm hstep
  simp [ne_line]
  refine Br_intro (fun h => ?_) (fun h => ?_)
  · have hl : l = [] := by simpa using h
    simp
    exact hQn (hfin2 hl)
  · have hl : l ≠ [] := by simpa using h
    have hms := hms hl
    refine ⟨meas l M - 1, by omega, ?_⟩
    simp [BIG]
    have hi4 : i < 5000 := by have := hgr hl; omega
    obtain ⟨I2, hI2⟩ : ∃ I2 : Nat → Env → Sto → Prop, I2 = fun j env S => ∃ (a8 a9 a10 a11 a12 a13 a14 a15 a16 : Option P), env = [some (.p (encR r1)), some (.p (encR r2)), some (.f 1 b cs), some (.p (.gl gv)), some (.p (.tup [encNs (firstMs r1.gs), encNs (firstMs r2.gs)])), some (.p (.lst (l.map encI))), some (.l 100), some (.l 101), a8.map .p, a9.map .p, a10.map .p, a11.map .p, a12.map .p, a13.map .p, a14.map .p, a15.map .p, a16.map .p] ∧
      S = stoF M (evsOf df r1.gs r2.gs r1.n (l.take j)) ∧ ∀ e ∈ evsOf df r1.gs r2.gs r1.n (l.take j), e.1 = false := ⟨_, rfl⟩
    refine for_inv I2 _ _ _ ?_ ?_ ?_
    · rw [hI2]
      exact ⟨a8, a9, a10, a11, a12, a13, a14, a15, a16, rfl, by simp [stoF, evsOf, fresh], fun e he => by simp [evsOf] at he⟩
    · intro j x env S hx hI
      rw [hI2] at hI
      obtain ⟨a8, a9, a10, a11, a12, a13, a14, a15, a16, rfl, rfl, hc⟩ := hI
      rw [List.getElem?_map] at hx
      obtain ⟨y, hy, rfl⟩ := Option.map_eq_some_iff.mp hx
      obtain ⟨⟨yo1, yo2⟩, ys2⟩ := hitm y (List.mem_of_getElem? hy)
      rw [s_forF]
      simp [encI, encMM, BIG]
      refine ⟨by omega, ?_⟩
      obtain ⟨I3, hI3⟩ : ∃ I3 : Nat → Env → Sto → Prop, I3 = fun c env S => ∃ (a11 a12 a13 a14 a15 a16 : Option P), env = [some (.p (encR r1)), some (.p (encR r2)), some (.f 1 b cs), some (.p (.gl gv)), some (.p (.tup [encNs (firstMs r1.gs), encNs (firstMs r2.gs)])), some (.p (.lst (l.map encI))), some (.l 100), some (.l 101), some (.p (encNs y.1.1)), some (.p (encNs y.1.2)), some (.p (encNs y.2)), a11.map .p, a12.map .p, a13.map .p, a14.map .p, a15.map .p, a16.map .p] ∧
        S = stoF M (evsOf df r1.gs r2.gs r1.n (l.take j) ++ (kidsOf df r1.gs r2.gs r1.n y).take c) ∧ ∀ e ∈ evsOf df r1.gs r2.gs r1.n (l.take j) ++ (kidsOf df r1.gs r2.gs r1.n y).take c, e.1 = false := ⟨_, rfl⟩
      have encIe : ∀ l : List It2, (l.map fun x => P.tup [.tup [encNs x.1.1, encNs x.1.2], encNs x.2]) = l.map encI := fun l => rfl
      refine for_inv I3 _ _ _ ?_ ?_ ?_
      · rw [hI3]
        exact ⟨a11, a12, a13, a14, a15, a16, rfl, by simp, by simpa using hc⟩
      · intro c x env S hx hI
        rw [hI3] at hI
        obtain ⟨a11, a12, a13, a14, a15, a16, rfl, rfl, hc⟩ := hI
        rw [rangeP_get'] at hx
        split at hx <;> cases hx
        rename_i hcn
        have hc2 : c < r2.n := by omega
        obtain ⟨rest, hsp⟩ := evs_split (df := df) (g1 := r1.gs) (g2 := r2.gs) (n := r1.n) hy hcn
        have hkt : (kidsOf df r1.gs r2.gs r1.n y).take (c + 1) = (kidsOf df r1.gs r2.gs r1.n y).take c ++ [evOf df r1.gs r2.gs y c] := take_snoc (kids_get hcn)
        have hee : evOf df r1.gs r2.gs y c = (df (dishF c 0 r1.gs y.1.1).1 (dishF c 0 r2.gs y.1.2).1, ((dishF c 0 r1.gs y.1.1).2, (dishF c 0 r2.gs y.1.2).2), y.2 ++ [c]) := rfl
        have hplen : (evsOf df r1.gs r2.gs r1.n (l.take j) ++ (kidsOf df r1.gs r2.gs r1.n y).take c).length ≤ 20000 := by
          have := evs_len df r1.gs r2.gs r1.n l
          rw [hsp] at this
          simp only [List.length_append, List.length_cons] at this ⊢
          have : l.length * r1.n ≤ 4096 * 3 := Nat.mul_le_mul (by omega) hn3
          omega
        have hI3' : ∀ S', (evOf df r1.gs r2.gs y c).1 = false → S' = stoF M ((evsOf df r1.gs r2.gs r1.n (l.take j) ++ (kidsOf df r1.gs r2.gs r1.n y).take c) ++ [evOf df r1.gs r2.gs y c]) → ∀ (a11 a12 a13 a14 a15 a16 : Option P),
            I3 (c + 1) [some (.p (encR r1)), some (.p (encR r2)), some (.f 1 b cs), some (.p (.gl gv)), some (.p (.tup [encNs (firstMs r1.gs), encNs (firstMs r2.gs)])), some (.p (.lst (l.map encI))), some (.l 100), some (.l 101), some (.p (encNs y.1.1)), some (.p (encNs y.1.2)), some (.p (encNs y.2)), a11.map .p, a12.map .p, a13.map .p, a14.map .p, a15.map .p, a16.map .p] S' := by
          intro S' hev hS a11 a12 a13 a14 a15 a16
          rw [hI3]
          refine ⟨a11, a12, a13, a14, a15, a16, rfl, ?_, ?_⟩
          · rw [hkt, ← List.append_assoc]; exact hS
          · rw [hkt, ← List.append_assoc]
            intro e he
            rcases List.mem_append.mp he with he | he
            · exact hc e he
            · rw [List.mem_singleton.mp he]; exact hev
        generalize evsOf df r1.gs r2.gs r1.n (l.take j) ++ (kidsOf df r1.gs r2.gs r1.n y).take c = pre at *
        have hfl := fresh_len (pre.map (·.2)) M
        rw [List.length_map] at hfl
        rw [s_forF]
        have hadd := op_addNs y.2 c (by omega)
        rw [hee] at hsp hI3'
        have d1 := fun S => dish_c (k + 1) r1 y.1.1 c o1 yo1 hcn S
        have d2 := fun S => dish_c (k + 1) r2 y.1.2 c o2 yo2 hc2 S
        generalize dishF c 0 r1.gs y.1.1 = q1 at *
        generalize dishF c 0 r2.gs y.1.2 = q2 at *
        obtain ⟨u1, n1⟩ := q1
        obtain ⟨u2, n2⟩ := q2
        simp only at hI3' d1 d2 hsp
        simp [d1, d2, hadd, ha2, hF, hG, hd, stoF, BIG]
        refine Br_intro (fun hdf => ?_) (fun hdf => ?_)
        · simp
          exact hQs _ (hfin1 _ _ _ hsp hc hdf)
        · simp [op_notinMM, BIG]
          have hnew : ((df u1 u2, (n1, n2), y.2 ++ [c]) : Ev).2 = ((n1, n2), y.2 ++ [c]) := rfl
          refine Br_intro (fun hm => ?_) (fun hm => ?_)
          · have hm' : (n1, n2) ∈ M ++ (fresh M (pre.map (·.2))).map (·.1) := of_decide_eq_true hm
            simp
            refine hI3' _ hdf ?_ (some _) (some _) (some _) (some _) (some _) (some _)
            unfold stoF
            rw [List.map_append, List.map_singleton, hnew, fresh_snoc_old _ _ _ hm']
          · have hm' : (n1, n2) ∉ M ++ (fresh M (pre.map (·.2))).map (·.1) := of_decide_eq_false hm
            have hsx := sidx_MM (S := [(100, metD (M ++ (fresh M (pre.map (·.2))).map (·.1))), (101, .lst ((fresh M (pre.map (·.2))).map encI))]) hm' (by simp [BIG]; omega) rfl
            simp [hsx, metV, BIG, show (fresh M (pre.map (·.2))).length < 100000 by omega]
            refine hI3' _ hdf ?_ (some _) (some _) (some _) (some _) (some _) (some _)
            unfold stoF
            rw [List.map_append, List.map_singleton, hnew, fresh_snoc_new _ _ _ hm']
            simp [encI, encMM]
      · intro env S hI
        rw [hI3] at hI
        obtain ⟨a11, a12, a13, a14, a15, a16, rfl, rfl, hc⟩ := hI
        have htk : (kidsOf df r1.gs r2.gs r1.n y).take (rangeP 0 r1.n).length = kidsOf df r1.gs r2.gs r1.n y := List.take_of_length_le (by simp [kidsOf, rangeP_length])
        rw [htk, ← evs_take hy] at hc ⊢
        rw [hI2]
        exact ⟨some _, some _, some _, a11, a12, a13, a14, a15, a16, rfl, rfl, hc⟩
    · intro env S hI
      rw [hI2] at hI
      obtain ⟨a8, a9, a10, a11, a12, a13, a14, a15, a16, rfl, rfl, hc⟩ := hI
      rw [List.length_map, List.take_length] at hc ⊢
      simp [stoF, frzV_l]
      have := hstep (meas (lvl df r1.gs r2.gs r1.n (i + 1)).1 (lvl df r1.gs r2.gs r1.n (i + 1)).2) hc rfl (some (.lst ((lvl df r1.gs r2.gs r1.n (i + 1)).1.map encI))) a8 a9 a10 a11 a12 a13 a14 a15 a16
      rw [hnext] at this
      exact ⟨_, by rw [hnext] at hms; omega, this⟩
end Hb

namespace Hb
open PySem
/-! ### pairs that come together -/
inductive Rch (g1 g2 : List Guest) (n : Nat) : MM → Prop
  | start : Rch g1 g2 n (firstMs g1, firstMs g2)
  | step {p : MM} {k : Nat} : Rch g1 g2 n p → k < n → Rch g1 g2 n (nxt g1 g2 k p)
/-- each dish of each pair that comes together is told alike -/
def Alike (df : Option Nat → Option Nat → Bool) (g1 g2 : List Guest) (n : Nat) : Prop := ∀ p, Rch g1 g2 n p → ∀ k, k < n → df (dishF k 0 g1 p.1).1 (dishF k 0 g2 p.2).1 = false
theorem fresh_all : ∀ (l : List It2) (M : List MM) (x : It2), x ∈ l → x.1 ∈ M ++ (fresh M l).map (·.1)
  | y :: l, M, x, h => by
    by_cases hy : y.1 ∈ M
    · rw [fresh_pos hy]
      rcases List.mem_cons.mp h with rfl | h
      · exact List.mem_append_left _ hy
      · exact fresh_all l M x h
    · rw [fresh_neg hy]
      rcases List.mem_cons.mp h with rfl | h
      · simp
      · have := fresh_all l (M ++ [y.1]) x h
        simpa using this
section
variable {df : Option Nat → Option Nat → Bool} {g1 g2 : List Guest} {n : Nat}
theorem lvl_sub (i : Nat) : ∀ x ∈ (lvl df g1 g2 n i).1, x.1 ∈ (lvl df g1 g2 n i).2 := by
  cases i with
  | zero => simp [lvl]
  | succ i => exact fun x hx => List.mem_append_right _ (List.mem_map_of_mem hx)
theorem lvl_mono {i j : Nat} (h : i ≤ j) : ∀ p ∈ (lvl df g1 g2 n i).2, p ∈ (lvl df g1 g2 n j).2 := by
  induction j with
  | zero =>
    have : i = 0 := by omega
    subst this
    exact fun p hp => hp
  | succ j ih =>
    by_cases e : i = j + 1
    · subst e
      exact fun p hp => hp
    · exact fun p hp => List.mem_append_left _ (ih (by omega) p hp)
theorem kid_in {i k : Nat} {x : It2} (hx : x ∈ (lvl df g1 g2 n i).1) (hk : k < n) : evOf df g1 g2 x k ∈ evsOf df g1 g2 n (lvl df g1 g2 n i).1 :=
  List.mem_flatMap.mpr ⟨x, hx, List.mem_map.mpr ⟨k, List.mem_range.mpr hk, rfl⟩⟩
theorem kid_met {i k : Nat} {x : It2} (hx : x ∈ (lvl df g1 g2 n i).1) (hk : k < n) : nxt g1 g2 k x.1 ∈ (lvl df g1 g2 n (i + 1)).2 :=
  fresh_all _ _ (evOf df g1 g2 x k).2 (List.mem_map_of_mem (kid_in hx hk))
theorem met_at : ∀ (i : Nat) (p : MM), p ∈ (lvl df g1 g2 n i).2 → ∃ j, j ≤ i ∧ ∃ x ∈ (lvl df g1 g2 n j).1, x.1 = p
  | 0, p, h => by
    simp [lvl] at h
    exact ⟨0, Nat.le_refl _, _, List.mem_singleton.mpr rfl, h.symm⟩
  | i + 1, p, h => by
    rcases List.mem_append.mp h with h | h
    · obtain ⟨j, h1, h2⟩ := met_at i p h
      exact ⟨j, by omega, h2⟩
    · obtain ⟨x, hx, e⟩ := List.mem_map.mp h
      exact ⟨i + 1, Nat.le_refl _, x, hx, e⟩
theorem lvl_rch : ∀ (i : Nat) (p : MM), p ∈ (lvl df g1 g2 n i).2 → Rch g1 g2 n p
  | 0, p, h => by
    simp [lvl] at h
    subst h
    exact .start
  | i + 1, p, h => by
    rcases List.mem_append.mp h with h | h
    · exact lvl_rch i p h
    · obtain ⟨x, hx, rfl⟩ := List.mem_map.mp h
      obtain ⟨e, he, rfl⟩ := List.mem_map.mp (fresh_mem hx).1
      obtain ⟨y, hy, he⟩ := List.mem_flatMap.mp he
      obtain ⟨k, hk, rfl⟩ := List.mem_map.mp he
      exact .step (lvl_rch i _ (lvl_sub i y hy)) (List.mem_range.mp hk)
theorem IsFst.alike {o : Option (List Nat)} (h : IsFst df g1 g2 n o) : o = none ↔ Alike df g1 g2 n := by
  obtain ⟨i, hc, h⟩ := h
  rcases h with ⟨rfl, h⟩ | ⟨pre, e, rest, h1, _, h3, rfl⟩
  · refine ⟨fun _ => ?_, fun _ => rfl⟩
    have all : ∀ p, Rch g1 g2 n p → p ∈ (lvl df g1 g2 n i).2 := by
      intro p hp
      induction hp with
      | start => exact lvl_mono (Nat.zero_le _) _ (by simp [lvl])
      | step _ hk ih =>
        obtain ⟨j, h1, x, h2, rfl⟩ := met_at i _ ih
        have hj : j < i := by
          rcases Nat.lt_or_eq_of_le h1 with z | z
          · exact z
          · subst z
            rw [h] at h2
            cases h2
        exact lvl_mono (by omega) _ (kid_met h2 hk)
    intro p hp k hk
    obtain ⟨j, h1, x, h2, rfl⟩ := met_at i p (all p hp)
    have hj : j < i := by
      rcases Nat.lt_or_eq_of_le h1 with z | z
      · exact z
      · subst z
        rw [h] at h2
        cases h2
    exact hc j hj _ (kid_in h2 hk)
  · refine ⟨fun z => (by cases z), fun z => ?_⟩
    have he : e ∈ evsOf df g1 g2 n (lvl df g1 g2 n i).1 := by rw [h1]; simp
    obtain ⟨x, hx, he⟩ := List.mem_flatMap.mp he
    obtain ⟨k, hk, rfl⟩ := List.mem_map.mp he
    have := z x.1 (lvl_rch i _ (lvl_sub i x hx)) k (List.mem_range.mp hk)
    rw [show (evOf df g1 g2 x k).1 = df (dishF k 0 g1 x.1.1).1 (dishF k 0 g2 x.1.2).1 from rfl, this] at h3
    cases h3
/-- two ways to tell that say the same of what can be -/
theorem Alike.congr {df' : Option Nat → Option Nat → Bool} (h : ∀ (p : MM) (k : Nat), df (dishF k 0 g1 p.1).1 (dishF k 0 g2 p.2).1 = df' (dishF k 0 g1 p.1).1 (dishF k 0 g2 p.2).1) : Alike df g1 g2 n ↔ Alike df' g1 g2 n :=
  ⟨fun a p hp k hk => by rw [← h]; exact a p hp k hk, fun a p hp k hk => by rw [h]; exact a p hp k hk⟩
theorem Rch.ok (h1 : ∀ g ∈ g1, okG n g) (h2 : ∀ g ∈ g2, okG n g) {p : MM} (h : Rch g1 g2 n p) : okMs g1 p.1 ∧ okMs g2 p.2 := by
  induction h with
  | start => exact ⟨firstMs_ok h1, firstMs_ok h2⟩
  | step _ hk ih => exact ⟨dishF_ok hk 0 g1 _ h1 ih.1, dishF_ok hk 0 g2 _ h2 ih.2⟩
end
theorem mm_few {r1 r2 : Row} (o1 : r1.Ok) (o2 : r2.Ok) {M : List MM} (nd : M.Nodup) (h : ∀ p ∈ M, okMs r1.gs p.1 ∧ okMs r2.gs p.2) : M.length ≤ 4096 := by
  have hs := nodup_sub (m := (allMs r1.gs).flatMap fun a => (allMs r2.gs).map fun b => (a, b)) nd (fun p hp => by
    obtain ⟨a, b⟩ := h p hp
    exact List.mem_flatMap.mpr ⟨p.1, mem_allMs a, List.mem_map.mpr ⟨p.2, mem_allMs b, rfl⟩⟩)
  have l1 := allMs_len (gs := r1.gs) fun g hg => (o1.gs g hg).2.1
  have l2 := allMs_len (gs := r2.gs) fun g hg => (o2.gs g hg).2.1
  have p1 : 4 ^ r1.gs.length ≤ 4 ^ 3 := Nat.pow_le_pow_right (by decide) o1.g3
  have p2 : 4 ^ r2.gs.length ≤ 4 ^ 3 := Nat.pow_le_pow_right (by decide) o2.g3
  have h3 := flatMap_len (fun a => (allMs r2.gs).map fun b => (a, b)) 64 (allMs r1.gs) (fun x _ => by rw [List.length_map]; omega)
  have : (allMs r1.gs).length * 64 ≤ 64 * 64 := Nat.mul_le_mul_right _ (by omega)
  omega
end Hb

namespace Hb
open PySem
/-! ### the law's search, by a stack -/
def encL (l : List Nat) : P := .lst (l.map fun (m : Nat) => P.int (m : Int))
theorem dep_encL (l : List Nat) (n : Nat) : (encL l).dep (n + 1) = true := dep_lst fun d hd => by
  obtain ⟨m, _, rfl⟩ := List.mem_map.mp hd
  exact dep_int _ _
def nmF (names : List Nat) (o : Option Nat) : Option Nat := o.bind fun i => names[i]?
def kpF (kept : List Nat) (o : Option Nat) : Option Nat := o.bind fun i => if i ∈ kept then some i else none
def dlF (names others kept : List Nat) (o o' : Option Nat) : Bool := !decide (kpF kept (nmF names o) = kpF kept (nmF others o'))
theorem eqvO (a b : Option Nat) : P.eqv (encO a) (encO b) = decide (a = b) := by
  cases a <;> cases b <;> simp [encO, P.eqv, P.toD, PyData.eqv]
  rw [Bool.eq_iff_iff]
  simp
  omega
theorem ne_O (a b : Option Nat) : op2 .ne (encO a) (encO b) = some (.bl (!decide (a = b))) := by
  rw [op_ne (cmpb_of (dep_encO _ _) (dep_encO _ _)), eqvO]
theorem eq_O (a b : Option Nat) : op2 .eq (encO a) (encO b) = some (.bl (decide (a = b))) := by
  rw [op_eq (cmpb_of (dep_encO _ _) (dep_encO _ _)), eqvO]
theorem isN_O (o : Option Nat) : isNon (encO o) = some o.isNone := by cases o <;> rfl
theorem isN_SO (o : Option (List Nat)) : isNon (encSO o) = some o.isNone := by cases o <;> rfl
theorem in_L (o : Option Nat) (l : List Nat) : op2 .isin (encO o) (encL l) = some (.bl (kpF l o).isSome) := by
  have e : inOp (encO o) (encL l) = some (kpF l o).isSome := by
    show (if cmpb (encO o) (encL l) then some ((l.map fun (m : Nat) => P.int (m : Int)).any fun z => P.eqv z (encO o)) else none) = _
    rw [if_pos (cmpb_of (dep_encO o 60) (dep_encL l 59)), List.any_map]
    congr 1
    have h : ∀ m : Nat, P.eqv (P.int (m : Int)) (encO o) = decide (some m = o) := fun m => eqvO (some m) o
    simp only [Function.comp_def, h]
    rw [Bool.eq_iff_iff, List.any_eq_true]
    cases o with
    | none => simp [kpF]
    | some i =>
      by_cases hi : i ∈ l <;> simp [kpF, hi]
  simp only [op2, e, Option.map_some]
theorem kp_or (l : List Nat) (o : Option Nat) : (if (kpF l o).isSome = true then encO o else .non) = encO (kpF l o) := by
  cases o with
  | none => rfl
  | some i =>
    by_cases hi : i ∈ l
    · simp [kpF, hi]
    · simp [kpF, hi, encO]
theorem dishF_lt (k : Nat) : ∀ (i : Nat) (gs : List Guest) (ms : List Nat) (j : Nat), (dishF k i gs ms).1 = some j → i ≤ j ∧ j < i + gs.length
  | i, [], ms, j, h => by cases ms <;> simp [dishF] at h
  | i, g :: gs, [], j, h => by simp [dishF] at h
  | i, g :: gs, m :: ms, j, h => by
    simp only [dishF] at h
    split at h
    · simp at h
      simp
      omega
    · have := dishF_lt k (i + 1) gs ms j h
      simp
      omega
theorem named_c (k : Nat) (r : Row) (names ms : List Nat) (kd : Nat) (hr : r.Ok) (hl : names.length = r.gs.length) (hm : okMs r.gs ms) (hk : kd < r.n) (S : Sto) :
    callV (callF pg (k+2)) (.p (.gl 28)) [.p (encR r), .p (encL names), .p (encNs ms), .p (.int (kd : Nat))] S = .ok (.p (.tup [encO (nmF names (dishF kd 0 r.gs ms).1), encNs (dishF kd 0 r.gs ms).2])) S := by
  obtain ⟨S', e⟩ : ∃ S, callF pg (k+2) (.p (.gl 28)) [.p (encR r), .p (encL names), .p (encNs ms), .p (.int (kd : Nat))] [] = .ok (.p (.tup [encO (nmF names (dishF kd 0 r.gs ms).1), encNs (dishF kd 0 r.gs ms).2])) S := by
    refine callEx rfl pg_fn28 rfl rfl ?_
    have d1 := fun S => sent_c k r ms kd hr hm hk S
    have lt := dishF_lt kd 0 r.gs ms
    generalize dishF kd 0 r.gs ms = q at *
    obtain ⟨u, ms'⟩ := q
    simp only at d1 lt
    simp [fd28, d1, isN_O]
    cases u with
    | none => simp [nmF, encO, BIG]
    | some i =>
      have hi : i < names.length := by have := (lt i rfl).2; omega
      simp [nmF, encO, encL, BIG, hi]
  exact callV_of (ds := [encR r, encL names, encNs ms, .int (kd : Nat)]) e rfl
theorem ne_stk (l : List MM) : op2 .ne (.lst (l.map encMM)) (.lst []) = some (.bl (!l.isEmpty)) := by
  rw [op_ne (cmpb_of (dep_lst (n := 59) fun d hd => by
    obtain ⟨x, _, rfl⟩ := List.mem_map.mp hd
    exact dep_tup (n := 58) fun d hd => by
      simp at hd
      rcases hd with rfl | rfl
      · exact dep_encNs _ 57
      · exact dep_encNs _ 57) (dep_lst fun d h => by cases h)), eqv_emp]
  cases l <;> rfl
/-- what stands between two turns: what is met is done, what it leads to is met or stands in the stack -/
structure Dfs (df : Option Nat → Option Nat → Bool) (g1 g2 : List Guest) (n : Nat) (st M : List MM) : Prop where
  nd : M.Nodup
  rs : ∀ p ∈ st, Rch g1 g2 n p
  rm : ∀ p ∈ M, Rch g1 g2 n p
  s0 : (firstMs g1, firstMs g2) ∈ M ∨ (firstMs g1, firstMs g2) ∈ st
  cl : ∀ p ∈ M, ∀ k, k < n → nxt g1 g2 k p ∈ M ∨ nxt g1 g2 k p ∈ st
  ok : ∀ p ∈ M, ∀ k, k < n → df (dishF k 0 g1 p.1).1 (dishF k 0 g2 p.2).1 = false
theorem Dfs.done {df : Option Nat → Option Nat → Bool} {g1 g2 : List Guest} {n : Nat} {M : List MM} (d : Dfs df g1 g2 n [] M) : Alike df g1 g2 n := by
  have all : ∀ p, Rch g1 g2 n p → p ∈ M := by
    intro p hp
    induction hp with
    | start => exact d.s0.elim id (fun z => by cases z)
    | step _ hk ih => exact (d.cl _ ih _ hk).elim id (fun z => by cases z)
  exact fun p hp k hk => d.ok p (all p hp) k hk
theorem tsame_ok (k : Nat) (r1 r2 : Row) (names others kept : List Nat) (o1 : r1.Ok) (o2 : r2.Ok) (hn : r1.n = r2.n) (hl1 : names.length = r1.gs.length) (hl2 : others.length = r2.gs.length) :
    ∃ d S, callF pg (k+3) (.p (.gl 29)) [.p (encR r1), .p (encL names), .p (encR r2), .p (encL others), .p (encL kept)] [] = .ok (.p d) S ∧ ∃ b, d = .bl b ∧ (b = true ↔ Alike (dlF names others kept) r1.gs r2.gs r1.n) := by
  have hn1 := o1.n1
  have hn3 := o1.n3
  obtain ⟨Q, hQ⟩ : ∃ Q : P → Prop, Q = fun d => ∃ b, d = .bl b ∧ (b = true ↔ Alike (dlF names others kept) r1.gs r2.gs r1.n) := ⟨_, rfl⟩
  suffices h : ∃ d S, callF pg (k+3) (.p (.gl 29)) [.p (encR r1), .p (encL names), .p (encR r2), .p (encL others), .p (encL kept)] [] = .ok (.p d) S ∧ Q d by rw [hQ] at h; exact h
  have hQt : Alike (dlF names others kept) r1.gs r2.gs r1.n → Q (.bl true) := fun h => by rw [hQ]; exact ⟨true, rfl, fun _ => h, fun _ => rfl⟩
  have hQf : ¬ Alike (dlF names others kept) r1.gs r2.gs r1.n → Q (.bl false) := fun h => by rw [hQ]; exact ⟨false, rfl, fun z => (by cases z), fun z => absurd z h⟩
  clear hQ
  refine callQ rfl pg_fn29 rfl rfl ?_
  simp [fd29, first_c _ r1 o1, first_c _ r2 o2, BIG]
  obtain ⟨I1, hI1⟩ : ∃ I1 : Nat → Env → Sto → Prop, I1 = fun m env S => ∃ (st M : List MM) (a7 a8 a9 a10 a11 a12 : Option P), m = 4 * (4096 - M.length) + st.length ∧ m ≤ 16385 ∧ Dfs (dlF names others kept) r1.gs r2.gs r1.n st M ∧
    env = [some (.p (encR r1)), some (.p (encL names)), some (.p (encR r2)), some (.p (encL others)), some (.p (encL kept)), some (.l 101), some (.l 100), a7.map .p, a8.map .p, a9.map .p, a10.map .p, a11.map .p, a12.map .p] ∧
    S = [(100, metD M), (101, .lst (st.map encMM))] := ⟨_, rfl⟩
  refine while_inv I1 16385 _ _ _ (by simp [FUEL]) ?_ ?_
  · rw [hI1]
    exact ⟨[(firstMs r1.gs, firstMs r2.gs)], [], none, none, none, none, none, none, rfl, by simp, ⟨List.nodup_nil, by simpa using Rch.start, by simp, by simp, by simp, by simp⟩, rfl, rfl⟩
  intro m env S hI
  rw [hI1] at hI
  obtain ⟨st, M, a7, a8, a9, a10, a11, a12, rfl, hms, hD, rfl, rfl⟩ := hI
  have few := fun (M : List MM) (nd : M.Nodup) (h : ∀ p ∈ M, Rch r1.gs r2.gs r1.n p) => mm_few o1 o2 nd fun p hp => (h p hp).ok o1.gs (by rw [hn]; exact o2.gs)
  have few0 := few M hD.nd hD.rm
  simp [ne_stk]
  refine Br_intro (fun h => ?_) (fun h => ?_)
  · have hl : st = [] := by simpa using h
    subst hl
    simp
    exact hQt hD.done
  · have hl : st ≠ [] := by simpa using h
    obtain ⟨st0, p, rfl⟩ : ∃ st0 p, st = st0 ++ [p] := ⟨st.dropLast, st.getLast hl, (List.dropLast_concat_getLast hl).symm⟩
    have hlen : (st0 ++ [p]).length = st0.length + 1 := by simp
    refine ⟨4 * (4096 - M.length) + (st0 ++ [p]).length - 1, by omega, ?_⟩
    have rp := hD.rs p (by simp)
    obtain ⟨po1, po2⟩ := rp.ok o1.gs (by rw [hn]; exact o2.gs)
    have ep : encMM p = .tup [encNs p.1, encNs p.2] := rfl
    simp [metV]
    rw [ep]
    simp [op_notinMM]
    refine Br_intro (fun hm => ?_) (fun hm => ?_)
    · have hm' : p ∈ M := of_decide_eq_true hm
      simp
      rw [hI1]
      refine ⟨_, by omega, st0, M, some _, a8, a9, a10, a11, a12, rfl, by omega, ⟨hD.nd, fun q hq => hD.rs q (by simp [hq]), hD.rm, ?_, fun q hq k hk => ?_, hD.ok⟩, rfl, rfl⟩
      · rcases hD.s0 with z | z
        · exact .inl z
        · rcases List.mem_append.mp z with z | z
          · exact .inr z
          · rw [List.mem_singleton.mp z]; exact .inl hm'
      · rcases hD.cl q hq k hk with z | z
        · exact .inl z
        · rcases List.mem_append.mp z with z | z
          · exact .inr z
          · rw [List.mem_singleton.mp z]; exact .inl hm'
    · have hm' : p ∉ M := of_decide_eq_false hm
      have nd' := nodup_snoc hD.nd hm'
      have rm' : ∀ q ∈ M ++ [p], Rch r1.gs r2.gs r1.n q := fun q hq => (List.mem_append.mp hq).elim (hD.rm q) fun z => by rw [List.mem_singleton.mp z]; exact rp
      have few1 := few _ nd' rm'
      rw [List.length_append, List.length_singleton] at few1
      have hsx := sidx_MM (S := [(100, metD M), (101, .lst (st0.map encMM))]) (a := p.1) (b := p.2) hm' (by simp [BIG]; omega) rfl
      have ig : ∀ (x y : P), ix (.tup [x, y]) (.int 0) = some x ∧ ix (.tup [x, y]) (.int 1) = some y := fun x y => ⟨rfl, rfl⟩
      simp [hsx, BIG]
      refine ⟨by omega, ?_⟩
      obtain ⟨I3, hI3⟩ : ∃ I3 : Nat → Env → Sto → Prop, I3 = fun c env S => ∃ (a8 a9 a10 a11 a12 : Option P), env = [some (.p (encR r1)), some (.p (encL names)), some (.p (encR r2)), some (.p (encL others)), some (.p (encL kept)), some (.l 101), some (.l 100), some (.p (.tup [encNs p.1, encNs p.2])), a8.map .p, a9.map .p, a10.map .p, a11.map .p, a12.map .p] ∧
        S = [(100, metD (M ++ [p])), (101, .lst ((st0 ++ (List.range c).map fun k => nxt r1.gs r2.gs k p).map encMM))] ∧ ∀ k, k < c → dlF names others kept (dishF k 0 r1.gs p.1).1 (dishF k 0 r2.gs p.2).1 = false := ⟨_, rfl⟩
      refine for_inv I3 _ _ _ ?_ ?_ ?_
      · rw [hI3]
        exact ⟨a8, a9, a10, a11, a12, rfl, by simp, fun k hk => by omega⟩
      · intro c x env S hx hI
        rw [hI3] at hI
        obtain ⟨a8, a9, a10, a11, a12, rfl, rfl, hc⟩ := hI
        rw [rangeP_get'] at hx
        split at hx <;> cases hx
        rename_i hcn
        have hc2 : c < r2.n := by omega
        rw [s_forF]
        have d1 := fun S => named_c k r1 names p.1 c o1 hl1 po1 hcn S
        have d2 := fun S => named_c k r2 others p.2 c o2 hl2 po2 hc2 S
        have hfin : dlF names others kept (dishF c 0 r1.gs p.1).1 (dishF c 0 r2.gs p.2).1 = true → Q (.bl false) := fun z => hQf fun a => by
          have := a p rp c hcn
          rw [z] at this
          cases this
        have hstep : ∀ S', dlF names others kept (dishF c 0 r1.gs p.1).1 (dishF c 0 r2.gs p.2).1 = false → S' = [(100, metD (M ++ [p])), (101, .lst ((st0 ++ (List.range c).map fun k => nxt r1.gs r2.gs k p).map encMM ++ [encMM ((dishF c 0 r1.gs p.1).2, (dishF c 0 r2.gs p.2).2)]))] → ∀ (a8 a9 a10 a11 a12 : Option P),
            I3 (c + 1) [some (.p (encR r1)), some (.p (encL names)), some (.p (encR r2)), some (.p (encL others)), some (.p (encL kept)), some (.l 101), some (.l 100), some (.p (.tup [encNs p.1, encNs p.2])), a8.map .p, a9.map .p, a10.map .p, a11.map .p, a12.map .p] S' := by
          intro S' h1 h2 a8 a9 a10 a11 a12
          rw [hI3]
          refine ⟨a8, a9, a10, a11, a12, rfl, ?_, fun k hk => ?_⟩
          · rw [h2, List.range_succ]
            simp [nxt]
          · by_cases e : k = c
            · subst e; exact h1
            · exact hc k (by omega)
        have hsl : (st0 ++ (List.range c).map fun k => nxt r1.gs r2.gs k p).length < 100000 := by simp; omega
        generalize st0 ++ (List.range c).map (fun k => nxt r1.gs r2.gs k p) = st1 at *
        generalize dishF c 0 r1.gs p.1 = q1 at *
        generalize dishF c 0 r2.gs p.2 = q2 at *
        obtain ⟨u1, n1⟩ := q1
        obtain ⟨u2, n2⟩ := q2
        simp only [dlF] at hstep d1 d2 hfin
        generalize nmF names u1 = v1 at *
        generalize nmF others u2 = v2 at *
        have e1 := kp_or kept v1
        have e2 := kp_or kept v2
        have nn := ne_O (kpF kept v1) (kpF kept v2)
        have t1 : (kpF kept v1).isSome = true → encO v1 = encO (kpF kept v1) := fun h => by rw [if_pos h] at e1; exact e1
        have f1 : (kpF kept v1).isSome = false → P.non = encO (kpF kept v1) := fun h => by rw [if_neg (by rw [h]; decide)] at e1; exact e1
        have t2 : (kpF kept v2).isSome = true → encO v2 = encO (kpF kept v2) := fun h => by rw [if_pos h] at e2; exact e2
        have f2 : (kpF kept v2).isSome = false → P.non = encO (kpF kept v2) := fun h => by rw [if_neg (by rw [h]; decide)] at e2; exact e2
        have fin : ∀ x y : P, x = encO (kpF kept v1) → y = encO (kpF kept v2) → op2 .ne x y = some (.bl (!decide (kpF kept v1 = kpF kept v2))) := by
          rintro _ _ rfl rfl
          exact nn
        clear e1 e2 nn
        simp [d1, d2, in_L, BIG]
        refine Br_intro (fun h1 => ?_) (fun h1 => ?_)
        · simp [in_L]
          refine Br_intro (fun h2 => ?_) (fun h2 => ?_)
          · simp [fin _ _ (t1 h1) (t2 h2)]
            refine Br_intro (fun h3 => ?_) (fun h3 => ?_)
            · simp [metV, hsl, BIG]
              exact hstep _ (by rw [h3]; rfl) rfl (some _) (some _) (some _) (some _) (some _)
            · simp
              exact hfin (by rw [h3]; rfl)
          · simp [fin _ _ (t1 h1) (f2 h2)]
            refine Br_intro (fun h3 => ?_) (fun h3 => ?_)
            · simp [metV, hsl, BIG]
              exact hstep _ (by rw [h3]; rfl) rfl (some _) (some _) (some _) (some _) (some _)
            · simp
              exact hfin (by rw [h3]; rfl)
        · simp [in_L]
          refine Br_intro (fun h2 => ?_) (fun h2 => ?_)
          · simp [fin _ _ (f1 h1) (t2 h2)]
            refine Br_intro (fun h3 => ?_) (fun h3 => ?_)
            · simp [metV, hsl, BIG]
              exact hstep _ (by rw [h3]; rfl) rfl (some _) (some _) (some _) (some _) (some _)
            · simp
              exact hfin (by rw [h3]; rfl)
          · simp [fin _ _ (f1 h1) (f2 h2)]
            refine Br_intro (fun h3 => ?_) (fun h3 => ?_)
            · simp [metV, hsl, BIG]
              exact hstep _ (by rw [h3]; rfl) rfl (some _) (some _) (some _) (some _) (some _)
            · simp
              exact hfin (by rw [h3]; rfl)
      · intro env S hI
        rw [hI3] at hI
        obtain ⟨a8, a9, a10, a11, a12, rfl, rfl, hc⟩ := hI
        rw [rangeP_length] at hc ⊢
        rw [hI1]
        refine ⟨_, ?_, st0 ++ (List.range r1.n).map (fun k => nxt r1.gs r2.gs k p), M ++ [p], some _, a8, a9, a10, a11, a12, rfl, ?_, ⟨nd', ?_, rm', ?_, ?_, ?_⟩, rfl, rfl⟩
        · simp
          omega
        · simp
          omega
        · intro q hq
          rcases List.mem_append.mp hq with z | z
          · exact hD.rs q (by simp [z])
          · obtain ⟨k, hk, rfl⟩ := List.mem_map.mp z
            exact rp.step (List.mem_range.mp hk)
        · rcases hD.s0 with z | z
          · exact .inl (by simp [z])
          · rcases List.mem_append.mp z with z | z
            · exact .inr (by simp [z])
            · exact .inl (by simp [List.mem_singleton.mp z])
        · intro q hq k hk
          rcases List.mem_append.mp hq with z | z
          · rcases hD.cl q z k hk with y | y
            · exact .inl (by simp [y])
            · rcases List.mem_append.mp y with y | y
              · exact .inr (by simp [y])
              · exact .inl (by simp [List.mem_singleton.mp y])
          · rw [List.mem_singleton.mp z]
            exact .inr (List.mem_append_right _ (List.mem_map.mpr ⟨k, List.mem_range.mpr hk, rfl⟩))
        · intro q hq k hk
          rcases List.mem_append.mp hq with z | z
          · exact hD.ok q z k hk
          · rw [List.mem_singleton.mp z]
            exact hc k hk
end Hb

namespace Hb
open PySem
/-! ### guests who change places, guests who go -/
def exL {α : Type} (l : List α) (g : Nat) : List α := l.take g ++ ((l.drop (g + 1)).take 1 ++ (l.drop g).take 1) ++ l.drop (g + 2)
def wiL {α : Type} (l : List α) (g : Nat) : List α := l.take g ++ l.drop (g + 1)
theorem drop_one {α : Type} {l : List α} {j : Nat} {a : α} (h : l[j]? = some a) : (l.drop j).take 1 = [a] := by
  obtain ⟨hj, e⟩ := List.getElem?_eq_some_iff.mp h
  rw [List.drop_eq_getElem_cons hj, e]
  rfl
theorem exL_eq {α : Type} {l : List α} {g : Nat} {a b : α} (ha : l[g]? = some a) (hb : l[g + 1]? = some b) : exL l g = l.take g ++ [b, a] ++ l.drop (g + 2) := by
  unfold exL
  rw [drop_one ha, drop_one hb]
  rfl
theorem exL_len {α : Type} {l : List α} {g : Nat} (h : g + 1 < l.length) : (exL l g).length = l.length := by
  simp [exL]
  omega
theorem wiL_len {α : Type} {l : List α} {g : Nat} (h : g < l.length) : (wiL l g).length = l.length - 1 := by
  simp [wiL]
  omega
theorem exL_mem {α : Type} {l : List α} {g : Nat} {x : α} (h : x ∈ exL l g) : x ∈ l := by
  simp only [exL, List.mem_append] at h
  rcases h with (h | h | h) | h
  · exact List.mem_of_mem_take h
  · exact List.mem_of_mem_drop (List.mem_of_mem_take h)
  · exact List.mem_of_mem_drop (List.mem_of_mem_take h)
  · exact List.mem_of_mem_drop h
theorem wiL_mem {α : Type} {l : List α} {g : Nat} {x : α} (h : x ∈ wiL l g) : x ∈ l := by
  rcases List.mem_append.mp h with h | h
  · exact List.mem_of_mem_take h
  · exact List.mem_of_mem_drop h
def exR (r : Row) (g : Nat) : Row := ⟨r.n, exL r.gs g⟩
def wiR (r : Row) (g : Nat) : Row := ⟨r.n, wiL r.gs g⟩
theorem exR_ok {r : Row} (o : r.Ok) {g : Nat} (h : g + 1 < r.gs.length) : (exR r g).Ok := by
  have e := exL_len h
  exact ⟨o.n1, o.n3, by show 1 ≤ (exL r.gs g).length; have := o.g1; omega, by show (exL r.gs g).length ≤ 3; have := o.g3; omega, fun x hx => o.gs x (exL_mem hx)⟩
theorem wiR_ok {r : Row} (o : r.Ok) {g : Nat} (h : g < r.gs.length) (h2 : 1 < r.gs.length) : (wiR r g).Ok := by
  have e := wiL_len h
  exact ⟨o.n1, o.n3, by show 1 ≤ (wiL r.gs g).length; omega, by show (wiL r.gs g).length ≤ 3; have := o.g3; omega, fun x hx => o.gs x (wiL_mem hx)⟩
theorem exch_c (k : Nat) (r : Row) (g : Nat) (h3 : r.gs.length ≤ 3) (h : g + 1 < r.gs.length) (S : Sto) : callV (callF pg (k+1)) (.p (.gl 11)) [.p (encR r), .p (.int (g : Int))] S = .ok (.p (encR (exR r g))) S := by
  obtain ⟨a, ha⟩ : ∃ a, r.gs[g]? = some a := ⟨_, List.getElem?_eq_getElem (by omega)⟩
  obtain ⟨b, hb⟩ : ∃ b, r.gs[g + 1]? = some b := ⟨_, List.getElem?_eq_getElem h⟩
  obtain ⟨S', e⟩ : ∃ S, callF pg (k+1) (.p (.gl 11)) [.p (encR r), .p (.int (g : Int))] [] = .ok (.p (encR (exR r g))) S := by
    refine callEx rfl pg_fn11 rfl rfl ?_
    have ct : cut (r.gs.map encG) none (some (g : Int)) = (r.gs.map encG).take g := cut_take _ _
    have cd : cut (r.gs.map encG) (some ((g : Int) + 2)) none = (r.gs.map encG).drop (g + 2) := by
      rw [show ((g : Int) + 2) = ((g + 2 : Nat) : Int) by omega, cut_drop]
    have i1 : L2.atI (r.gs.map encG) ((g : Int) + 1) = some (encG b) := by
      rw [show ((g : Int) + 1) = ((g + 1 : Nat) : Int) by omega, at_nat, List.getElem?_map, hb]
      rfl
    have a1 : op2 .add (.tup ((r.gs.map encG).take g)) (.tup [encG b, encG a]) = some (.tup ((r.gs.map encG).take g ++ [encG b, encG a])) := op_addT (by simp [BIG]; omega)
    have a2 : op2 .add (.tup ((r.gs.map encG).take g ++ [encG b, encG a])) (.tup ((r.gs.map encG).drop (g + 2))) = some (.tup ((r.gs.map encG).take g ++ [encG b, encG a] ++ (r.gs.map encG).drop (g + 2))) := op_addT (by simp [BIG]; omega)
    have e0 : encR r = .tup [.int (r.n : Int), .tup (r.gs.map encG)] := rfl
    have e1 : encR (exR r g) = .tup [.int (r.n : Int), .tup ((r.gs.map encG).take g ++ [encG b, encG a] ++ (r.gs.map encG).drop (g + 2))] := by
      simp [encR, exR, exL_eq ha hb]
    rw [e1]
    simp only [fd11, e0]
    generalize (r.gs.map encG).take g ++ [encG b, encG a] = t1 at *
    simp [ct, cd, i1, ha, a1, a2, BIG]
  exact callV_of (ds := [encR r, .int (g : Int)]) e rfl
theorem with_c (k : Nat) (r : Row) (g : Nat) (h3 : r.gs.length ≤ 3) (h : g < r.gs.length) (S : Sto) : callV (callF pg (k+1)) (.p (.gl 12)) [.p (encR r), .p (.int (g : Int))] S = .ok (.p (encR (wiR r g))) S := by
  obtain ⟨S', e⟩ : ∃ S, callF pg (k+1) (.p (.gl 12)) [.p (encR r), .p (.int (g : Int))] [] = .ok (.p (encR (wiR r g))) S := by
    refine callEx rfl pg_fn12 rfl rfl ?_
    have ct : cut (r.gs.map encG) none (some (g : Int)) = (r.gs.map encG).take g := cut_take _ _
    have cd : cut (r.gs.map encG) (some ((g : Int) + 1)) none = (r.gs.map encG).drop (g + 1) := by
      rw [show ((g : Int) + 1) = ((g + 1 : Nat) : Int) by omega, cut_drop]
    have a2 : op2 .add (.tup ((r.gs.map encG).take g)) (.tup ((r.gs.map encG).drop (g + 1))) = some (.tup ((r.gs.map encG).take g ++ (r.gs.map encG).drop (g + 1))) := op_addT (by simp [BIG]; omega)
    have e1 : encR (wiR r g) = .tup [.int (r.n : Int), .tup ((r.gs.map encG).take g ++ (r.gs.map encG).drop (g + 1))] := by
      simp [encR, wiR, wiL]
    rw [e1]
    simp [fd12, ct, cd, a2, BIG]
  exact callV_of (ds := [encR r, .int (g : Int)]) e rfl
def swF (g : Nat) (o : Option Nat) : Option Nat := if o = some g then some (g + 1) else if o = some (g + 1) then some g else o
def fwF (g : Nat) (o : Option Nat) : Option Nat := o.bind fun i => if i = g then none else if g < i then some (i - 1) else some i
theorem eq_Os (o : Option Nat) (g : Nat) : op2 .eq (encO o) (.int (g : Int)) = some (.bl (decide (o = some g))) := eq_O o (some g)
theorem swap_c (k : Nat) (o : Option Nat) (g : Nat) (S : Sto) : callV (callF pg (k+1)) (.p (.gl 13)) [.p (encO o), .p (.int (g : Int))] S = .ok (.p (encO (swF g o))) S := by
  obtain ⟨S', e⟩ : ∃ S, callF pg (k+1) (.p (.gl 13)) [.p (encO o), .p (.int (g : Int))] [] = .ok (.p (encO (swF g o))) S := by
    refine callEx rfl pg_fn13 rfl rfl ?_
    have h1 := eq_Os o g
    have h2 : op2 .eq (encO o) (.int ((g : Int) + 1)) = some (.bl (decide (o = some (g + 1)))) := eq_Os o (g + 1)
    simp [fd13, h1]
    refine Br_intro (fun h => ?_) (fun h => ?_)
    · have h := of_decide_eq_true h
      simp [swF, h, encO]
    · have h := of_decide_eq_false h
      simp [h2]
      refine Br_intro (fun h' => ?_) (fun h' => ?_)
      · have h' := of_decide_eq_true h'
        subst h'
        simp [swF, encO]
      · have h' := of_decide_eq_false h'
        simp [swF, h, h']
  exact callV_of (ds := [encO o, .int (g : Int)]) e rfl
theorem few_c (k : Nat) (o : Option Nat) (g : Nat) (S : Sto) : callV (callF pg (k+1)) (.p (.gl 14)) [.p (encO o), .p (.int (g : Int))] S = .ok (.p (encO (fwF g o))) S := by
  obtain ⟨S', e⟩ : ∃ S, callF pg (k+1) (.p (.gl 14)) [.p (encO o), .p (.int (g : Int))] [] = .ok (.p (encO (fwF g o))) S := by
    refine callEx rfl pg_fn14 rfl rfl ?_
    have h1 := eq_Os o g
    cases o with
    | none => simp [fd14, encO, fwF, isNon]
    | some i =>
      have h1 : op2 .eq (.int (i : Int)) (.int (g : Int)) = some (.bl (decide (i = g))) := by
        have := eq_Os (some i) g
        simpa [encO] using this
      simp [fd14, encO, isNon, h1]
      refine Br_intro (fun h => ?_) (fun h => ?_)
      · have h := of_decide_eq_true h
        simp [fwF, h, encO]
      · have h := of_decide_eq_false h
        simp
        refine Br_intro (fun h' => ?_) (fun h' => ?_)
        · have h' := of_decide_eq_true h'
          have : g < i := by omega
          simp [fwF, h, this, encO]
          omega
        · have h' := of_decide_eq_false h'
          have : ¬ g < i := by omega
          simp [fwF, h, this, encO]
  exact callV_of (ds := [encO o, .int (g : Int)]) e rfl
def swB : E := .call 13 (.cons (.var 0) (.cons (.var 1) .nil))
def fwB : E := .call 14 (.cons (.var 0) (.cons (.var 1) .nil))
theorem swl_c (k : Nat) (o : Option Nat) (g : Nat) (S : Sto) : (callF pg (k+2) (.f 1 swB [.int (g : Int)]) [.p (encO o)] []).cl S = .ok (.p (encO (swF g o))) S := by
  show (callV (callF pg (k+1)) (.p (.gl 13)) [.p (encO o), .p (.int (g : Int))] []).cl S = _
  rw [swap_c]
  rfl
theorem fwl_c (k : Nat) (o : Option Nat) (g : Nat) (S : Sto) : (callF pg (k+2) (.f 1 fwB [.int (g : Int)]) [.p (encO o)] []).cl S = .ok (.p (encO (fwF g o))) S := by
  show (callV (callF pg (k+1)) (.p (.gl 14)) [.p (encO o), .p (.int (g : Int))] []).cl S = _
  rw [few_c]
  rfl
theorem astold_c (k : Nat) (o : Option Nat) (S : Sto) : callV (callF pg (k+1)) (.p (.gl 10)) [.p (encO o)] S = .ok (.p (encO o)) S := by
  obtain ⟨S', e⟩ : ∃ S, callF pg (k+1) (.p (.gl 10)) [.p (encO o)] [] = .ok (.p (encO o)) S := by
    refine callEx rfl pg_fn10 rfl rfl ?_
    simp [fd10]
  exact callV_of (ds := [encO o]) e rfl
open Classical in
noncomputable def okS (r : Row) (g : Nat) : Bool := decide (Alike (fun o o' => !decide (swF g o = o')) r.gs (exL r.gs g) r.n)
open Classical in
noncomputable def okW (r : Row) (g : Nat) : Bool := decide (Alike (fun o o' => !decide (fwF g o = o')) r.gs (wiL r.gs g) r.n)
theorem none_dec {o : Option (List Nat)} {p : Prop} {d : Decidable p} (h : o = none ↔ p) : o.isNone = decide p := by
  rw [Bool.eq_iff_iff]
  simp [h]
theorem aps (k : Nat) (r : Row) (g : Nat) (o : r.Ok) (h : g + 1 < r.gs.length) : ∃ u S, callF pg (k+3) (.p (.gl 9)) [.p (encR r), .p (encR (exR r g)), .f 1 swB [.int (g : Int)], .p (.gl 10)] [] = .ok (.p (encSO u)) S ∧ u.isNone = okS r g := by
  obtain ⟨d, S, e, u, rfl, hu⟩ := apartc_ok k r (exR r g) swB [.int (g : Int)] 10 (fun o => encO (swF g o)) encO _ o (exR_ok o h) rfl rfl (fun o S => swl_c k o g S) (fun o S => astold_c (k+1) o S) (fun o o' => ne_O _ _)
  exact ⟨u, S, e, none_dec hu.alike⟩
theorem apw (k : Nat) (r : Row) (g : Nat) (o : r.Ok) (h : g < r.gs.length) (h2 : 1 < r.gs.length) : ∃ u S, callF pg (k+3) (.p (.gl 9)) [.p (encR r), .p (encR (wiR r g)), .f 1 fwB [.int (g : Int)], .p (.gl 10)] [] = .ok (.p (encSO u)) S ∧ u.isNone = okW r g := by
  obtain ⟨d, S, e, u, rfl, hu⟩ := apartc_ok k r (wiR r g) fwB [.int (g : Int)] 10 (fun o => encO (fwF g o)) encO _ o (wiR_ok o h h2) rfl rfl (fun o S => fwl_c k o g S) (fun o S => astold_c (k+1) o S) (fun o o' => ne_O _ _)
  exact ⟨u, S, e, none_dec hu.alike⟩
end Hb

namespace Hb
open PySem
/-! ### the program's two lists -/
noncomputable def exchF (r : Row) : List Nat := (List.range (r.gs.length - 1)).filter (okS r)
noncomputable def needF (r : Row) : List Nat := (List.range (if 1 < r.gs.length then r.gs.length else 0)).filter (okW r)
theorem filt_snoc (f : Nat → Bool) (j : Nat) : (List.range (j + 1)).filter f = (List.range j).filter f ++ (if f j = true then [j] else []) := by
  rw [List.range_succ, List.filter_append]
  congr 1
  by_cases h : f j = true
  · simp [h]
  · simp [h]
theorem filt_len (f : Nat → Bool) (j : Nat) : ((List.range j).filter f).length ≤ j := by
  have := List.length_filter_le f (List.range j)
  simpa using this
theorem encL_snoc (l : List Nat) (j : Nat) : P.lst (l.map (fun (m : Nat) => P.int (m : Int)) ++ [.int (j : Int)]) = encL (l ++ [j]) := by simp [encL]
theorem exchangeable_c (k : Nat) (r : Row) (hr : r.Ok) (S : Sto) : callV (callF pg (k+7)) (.p (.gl 15)) [.p (encR r)] S = .ok (.p (encL (exchF r))) S := by
  obtain ⟨S', e⟩ : ∃ S, callF pg (k+7) (.p (.gl 15)) [.p (encR r)] [] = .ok (.p (encL (exchF r))) S := by
    refine callEx rfl pg_fn15 rfl rfl ?_
    have nr := fun S => need_row_c k (encR r) (pok_R r) (rowP_enc hr) S
    have g1 := hr.g1
    have g3 := hr.g3
    have eb : (E.call 13 (.cons (.var 0) (.cons (.var 1) .nil))) = swB := rfl
    simp [fd15, nr, BIG]
    refine ⟨by omega, ?_⟩
    obtain ⟨I, hI⟩ : ∃ I : Nat → Env → Sto → Prop, I = fun j env S => ∃ (a2 : Option P), env = [some (.p (encR r)), some (.l 100), a2.map .p] ∧ S = [(100, encL ((List.range j).filter (okS r)))] := ⟨_, rfl⟩
    refine for_inv I _ _ _ ?_ ?_ ?_
    · rw [hI]
      exact ⟨none, rfl, rfl⟩
    · intro j x env S hx hi
      rw [hI] at hi
      obtain ⟨a2, rfl, rfl⟩ := hi
      rw [rangeP_get'] at hx
      split at hx <;> cases hx
      rename_i hj
      rw [s_forF]
      obtain ⟨u, S', e, hu⟩ := aps (k + 3) r j hr (by omega)
      have ec := fun S => exch_c (k + 5) r j g3 (by omega) S
      have hl := filt_len (okS r) j
      have hs := filt_snoc (okS r) j
      simp [ec, eb, capsOf, e, isN_SO, hu]
      refine Br_intro (fun h => ?_) (fun h => ?_)
      · simp [encL, metV, BIG]
        refine ⟨by omega, ?_⟩
        rw [hI]
        refine ⟨some _, rfl, ?_⟩
        rw [hs, if_pos h, ← encL_snoc]
      · simp
        rw [hI]
        refine ⟨some _, rfl, ?_⟩
        rw [hs, if_neg (by rw [h]; decide), List.append_nil]
    · intro env S hi
      rw [hI] at hi
      obtain ⟨a2, rfl, rfl⟩ := hi
      rw [rangeP_length]
      simp [frzV_l]
      rfl
  exact callV_of (ds := [encR r]) e rfl
theorem needless_c (k : Nat) (r : Row) (hr : r.Ok) (S : Sto) : callV (callF pg (k+7)) (.p (.gl 16)) [.p (encR r)] S = .ok (.p (encL (needF r))) S := by
  obtain ⟨S', e⟩ : ∃ S, callF pg (k+7) (.p (.gl 16)) [.p (encR r)] [] = .ok (.p (encL (needF r))) S := by
    refine callEx rfl pg_fn16 rfl rfl ?_
    have nr := fun S => need_row_c k (encR r) (pok_R r) (rowP_enc hr) S
    have g1 := hr.g1
    have g3 := hr.g3
    have eb : (E.call 14 (.cons (.var 0) (.cons (.var 1) .nil))) = fwB := rfl
    simp [fd16, nr, BIG]
    refine Br_intro (fun h2 => ?_) (fun h2 => ?_)
    · have h2 : 1 < r.gs.length := by have := of_decide_eq_true h2; omega
      simp [BIG]
      refine ⟨by omega, ?_⟩
      obtain ⟨I, hI⟩ : ∃ I : Nat → Env → Sto → Prop, I = fun j env S => ∃ (a2 : Option P), env = [some (.p (encR r)), some (.l 100), a2.map .p] ∧ S = [(100, encL ((List.range j).filter (okW r)))] := ⟨_, rfl⟩
      refine for_inv I _ _ _ ?_ ?_ ?_
      · rw [hI]
        exact ⟨none, rfl, rfl⟩
      · intro j x env S hx hi
        rw [hI] at hi
        obtain ⟨a2, rfl, rfl⟩ := hi
        rw [rangeP_get'] at hx
        split at hx <;> cases hx
        rename_i hj
        rw [s_forF]
        obtain ⟨u, S', e, hu⟩ := apw (k + 3) r j hr (by omega) h2
        have ec := fun S => with_c (k + 5) r j g3 (by omega) S
        have hl := filt_len (okW r) j
        have hs := filt_snoc (okW r) j
        simp [ec, eb, capsOf, e, isN_SO, hu]
        refine Br_intro (fun h => ?_) (fun h => ?_)
        · simp [encL, metV, BIG]
          refine ⟨by omega, ?_⟩
          rw [hI]
          refine ⟨some _, rfl, ?_⟩
          rw [hs, if_pos h, ← encL_snoc]
        · simp
          rw [hI]
          refine ⟨some _, rfl, ?_⟩
          rw [hs, if_neg (by rw [h]; decide), List.append_nil]
      · intro env S hi
        rw [hI] at hi
        obtain ⟨a2, rfl, rfl⟩ := hi
        rw [rangeP_length]
        have en : needF r = (List.range r.gs.length).filter (okW r) := by unfold needF; rw [if_pos h2]
        simp [frzV_l, en]
    · have h2 : ¬ 1 < r.gs.length := by have := of_decide_eq_false h2; omega
      have en : needF r = [] := by unfold needF; rw [if_neg h2]; rfl
      simp [BIG, rangeP, forGo, frzV_l, en, encL]
  exact callV_of (ds := [encR r]) e rfl
end Hb

namespace Hb
open PySem
/-! ### the law's two lists -/
def opts (n : Nat) : List (Option Nat) := none :: (List.range n).map some
theorem opts_dish (k : Nat) (gs : List Guest) (ms : List Nat) : (dishF k 0 gs ms).1 ∈ opts gs.length := by
  cases e : (dishF k 0 gs ms).1 with
  | none => simp [opts]
  | some i =>
    have := (dishF_lt k 0 gs ms i e).2
    simp [opts]
    omega
theorem sw_same : ∀ n < 4, ∀ g < n, g + 1 < n → ∀ o ∈ opts n, ∀ o' ∈ opts n, dlF (List.range n) (exL (List.range n) g) (List.range n) o o' = !decide (swF g o = o') := by decide
theorem fw_same : ∀ n < 4, 1 < n → ∀ g < n, ∀ o ∈ opts n, ∀ o' ∈ opts (n - 1), dlF (List.range n) (wiL (List.range n) g) (wiL (List.range n) g) o o' = !decide (fwF g o = o') := by decide
theorem dec_of {b : Bool} {p : Prop} {d : Decidable p} (h : b = true ↔ p) : b = decide p := by
  rw [Bool.eq_iff_iff]
  simp [h]
theorem tss (k : Nat) (r : Row) (g : Nat) (o : r.Ok) (h : g + 1 < r.gs.length) (S : Sto) :
    callV (callF pg (k+3)) (.p (.gl 29)) [.p (encR r), .p (encL (List.range r.gs.length)), .p (encR (exR r g)), .p (encL (exL (List.range r.gs.length) g)), .p (encL (List.range r.gs.length))] S = .ok (.p (.bl (okS r g))) S := by
  have hl := exL_len (l := List.range r.gs.length) (g := g) (by simpa using h)
  have hl2 := exL_len h
  have g3 := o.g3
  obtain ⟨d, S', e, b, rfl, hb⟩ := tsame_ok k r (exR r g) (List.range r.gs.length) (exL (List.range r.gs.length) g) (List.range r.gs.length) o (exR_ok o h) rfl (by simp) (by rw [hl]; show _ = (exL r.gs g).length; rw [hl2]; simp)
  have hc : Alike (dlF (List.range r.gs.length) (exL (List.range r.gs.length) g) (List.range r.gs.length)) r.gs (exR r g).gs r.n ↔ Alike (fun o o' => !decide (swF g o = o')) r.gs (exL r.gs g) r.n := Alike.congr fun p kd => by
    refine sw_same r.gs.length (by omega) g (by omega) h _ (opts_dish kd r.gs p.1) _ ?_
    have := opts_dish kd (exL r.gs g) p.2
    rw [hl2] at this
    exact this
  have eb : b = okS r g := dec_of (hb.trans hc)
  rw [eb] at e
  exact callV_of (ds := [encR r, encL _, encR (exR r g), encL _, encL _]) e rfl
theorem tsw (k : Nat) (r : Row) (g : Nat) (o : r.Ok) (h : g < r.gs.length) (h2 : 1 < r.gs.length) (S : Sto) :
    callV (callF pg (k+3)) (.p (.gl 29)) [.p (encR r), .p (encL (List.range r.gs.length)), .p (encR (wiR r g)), .p (encL (wiL (List.range r.gs.length) g)), .p (encL (wiL (List.range r.gs.length) g))] S = .ok (.p (.bl (okW r g))) S := by
  have hl := wiL_len (l := List.range r.gs.length) (g := g) (by simpa using h)
  have hl2 := wiL_len h
  have g3 := o.g3
  obtain ⟨d, S', e, b, rfl, hb⟩ := tsame_ok k r (wiR r g) (List.range r.gs.length) (wiL (List.range r.gs.length) g) (wiL (List.range r.gs.length) g) o (wiR_ok o h h2) rfl (by simp) (by rw [hl]; show _ = (wiL r.gs g).length; rw [hl2]; simp)
  have hc : Alike (dlF (List.range r.gs.length) (wiL (List.range r.gs.length) g) (wiL (List.range r.gs.length) g)) r.gs (wiR r g).gs r.n ↔ Alike (fun o o' => !decide (fwF g o = o')) r.gs (wiL r.gs g) r.n := Alike.congr fun p kd => by
    refine fw_same r.gs.length (by omega) h2 g h _ (opts_dish kd r.gs p.1) _ ?_
    have := opts_dish kd (wiL r.gs g) p.2
    rw [hl2] at this
    exact this
  have eb : b = okW r g := dec_of (hb.trans hc)
  rw [eb] at e
  exact callV_of (ds := [encR r, encL _, encR (wiR r g), encL _, encL _]) e rfl
theorem rangeP_map : ∀ (n : Nat) (lo : Nat), rangeP (lo : Int) n = (List.range n).map fun i => P.int ((lo + i : Nat) : Int)
  | 0, _ => rfl
  | n + 1, lo => by
    rw [List.range_succ_eq_map, List.map_cons, List.map_map]
    show P.int (lo : Int) :: rangeP ((lo : Int) + 1) n = _
    rw [show ((lo : Int) + 1) = ((lo + 1 : Nat) : Int) by omega, rangeP_map n (lo + 1)]
    congr 1
    apply List.map_congr_left
    intro i _
    simp only [Function.comp_def]
    congr 1
    omega
theorem rangeP_L (n : Nat) : P.lst (rangeP 0 n) = encL (List.range n) := by
  have := rangeP_map n 0
  simp only [Nat.zero_add] at this
  show P.lst (rangeP ((0 : Nat) : Int) n) = _
  rw [this]
  rfl
def gAt (gs : List Guest) (i : Nat) : Guest := gs.getD i []
theorem gs_range (gs : List Guest) : gs = (List.range gs.length).map (gAt gs) := by
  apply List.ext_getElem
  · simp
  · intro i h1 h2
    simp [gAt, List.getD_eq_getElem?_getD, h1]
theorem exL_map {α β : Type} (f : α → β) (l : List α) (g : Nat) : exL (l.map f) g = (exL l g).map f := by simp [exL, List.map_take, List.map_drop]
theorem wiL_map {α β : Type} (f : α → β) (l : List α) (g : Nat) : wiL (l.map f) g = (wiL l g).map f := by simp [wiL, List.map_take, List.map_drop]
/-- a name's guest, as data -/
def gP (gs : List Guest) (x : P) : P := match x with
  | .int i => encG (gAt gs i.toNat)
  | _ => .non
theorem map_gP (gs : List Guest) (l : List Nat) : (l.map fun (m : Nat) => P.int (m : Int)).map (gP gs) = (l.map (gAt gs)).map encG := by
  simp [gP, Function.comp_def]
theorem slcL1 (l : List Nat) (j : Nat) : slc (encL l) none (some (j : Int)) = some (encL (l.take j)) := by
  simp [slc, encL, cut_take]
theorem slcL2 (l : List Nat) (j c : Nat) : slc (encL l) (some ((j : Int) + (c : Int))) none = some (encL (l.drop (j + c))) := by
  rw [show ((j : Int) + (c : Int)) = ((j + c : Nat) : Int) by omega]
  show some (P.lst (cut (l.map fun (m : Nat) => P.int (m : Int)) (some ((j + c : Nat) : Int)) none)) = _
  rw [cut_drop, ← List.map_drop]
  rfl
theorem addLL (a b : List Nat) (h : a.length + b.length ≤ 50000) : op2 .add (encL a) (encL b) = some (encL (a ++ b)) := by
  unfold encL
  rw [op_addL (by simp [BIG]; omega)]
  simp
theorem encR_ex (r : Row) (g : Nat) : P.tup [.int (r.n : Int), .tup (((exL (List.range r.gs.length) g).map fun (m : Nat) => P.int (m : Int)).map (gP r.gs))] = encR (exR r g) := by
  rw [map_gP, ← exL_map, ← gs_range]
  rfl
theorem encR_wi (r : Row) (g : Nat) : P.tup [.int (r.n : Int), .tup (((wiL (List.range r.gs.length) g).map fun (m : Nat) => P.int (m : Int)).map (gP r.gs))] = encR (wiR r g) := by
  rw [map_gP, ← wiL_map, ← gs_range]
  rfl
theorem gP_at {gs : List Guest} {m : Nat} (h : m < gs.length) : (gs.map encG)[m]? = some (gP gs (.int (m : Int))) := by
  rw [List.getElem?_map, List.getElem?_eq_getElem h]
  simp [gP, gAt, List.getD_eq_getElem?_getD, h]
theorem due_ok (k : Nat) (r : Row) (hr : r.Ok) : ∃ S, callF pg (k+4) (.p (.gl 30)) [.p (encR r)] [] = .ok (.p (.lst [encL (exchF r), encL (needF r)])) S := by
  have g1 := hr.g1
  have g3 := hr.g3
  refine callEx rfl pg_fn30 rfl rfl ?_
  have e0 : encR r = .tup [.int (r.n : Int), .tup (r.gs.map encG)] := rfl
  obtain ⟨rg, hrg⟩ : ∃ rg, rg = List.range r.gs.length := ⟨_, rfl⟩
  have rl := rangeP_L r.gs.length
  have hrl : rg.length = r.gs.length := by rw [hrg]; simp
  rw [← hrg] at rl
  have lenN : ∀ l : List Nat, bi .len [encL l] = some (.int (l.length : Int)) := fun l => by simp [encL]
  have itN : ∀ l : List Nat, items (encL l) = some (l.map fun (m : Nat) => P.int (m : Int)) := fun l => rfl
  have cmp : ∀ (G : Pg) (h : Hd) (ks : List Nat) (x9 : Option P) (S : Sto) (K : List P → Sto → Prop) (X : Nat → Option P → Sto → Prop) (v0 v1 v3 v4 v5 v6 v7 v8 : Option Val), (∀ m ∈ ks, m < r.gs.length) → K ((ks.map fun (m : Nat) => P.int (m : Int)).map (gP r.gs)) S →
      Rs (lcGo (lcFn G.toProg h (.nm 9) (.cst (.bl true)) (.idx (.var 2) (.var 9)) [v0, v1, some (.p (.tup (r.gs.map encG))), v3, v4, v5, v6, v7, v8, x9.map .p] [9]) (ks.map fun (m : Nat) => P.int (m : Int)) [] S) K X := by
    intro G h ks x9 S K X v0 v1 v3 v4 v5 v6 v7 v8 hk q
    refine lcGo_map (g := gP r.gs) _ [] _ (fun x hx => ?_) q
    obtain ⟨m, hm, rfl⟩ := List.mem_map.mp hx
    have := gP_at (hk m hm)
    simp only [List.getElem?_map] at this
    simp [w_lcFn, wipeE, this]
  simp only [fd30]
  rw [e0]
  simp [BIG, rl, lenN, hrl]
  refine ⟨by omega, by omega, ?_⟩
  obtain ⟨I, hI⟩ : ∃ I : Nat → Env → Sto → Prop, I = fun j env S => ∃ (a6 a7 a8 a9 : Option P), env = [some (.p (.tup [.int (r.n : Int), .tup (r.gs.map encG)])), some (.p (.int (r.n : Int))), some (.p (.tup (r.gs.map encG))), some (.p (encL rg)), some (.l 101), some (.l 100), a6.map .p, a7.map .p, a8.map .p, a9.map .p] ∧
    S = [(100, .lst []), (101, encL ((List.range j).filter (okS r)))] := ⟨_, rfl⟩
  refine for_inv I _ _ _ ?_ ?_ ?_
  · rw [hI]
    exact ⟨none, none, none, none, rfl, rfl⟩
  · intro j x env S hx hi
    rw [hI] at hi
    obtain ⟨a6, a7, a8, a9, rfl, rfl⟩ := hi
    rw [rangeP_get'] at hx
    split at hx <;> cases hx
    rename_i hj
    rw [s_forF]
    have t := fun S => tss k r j hr (by omega) S
    rw [e0, ← hrg] at t
    have ea : rg[j]? = some j := by rw [hrg, List.getElem?_range (by omega)]
    have eb : rg[j + 1]? = some (j + 1) := by rw [hrg, List.getElem?_range (by omega)]
    have ex := exL_eq ea eb
    have sl1 := slcL1 rg j
    have sl2 : slc (encL rg) (some ((j : Int) + 2)) none = some (encL (rg.drop (j + 2))) := slcL2 rg j 2
    have ll : P.lst [.int ((j : Int) + 1), .int (j : Int)] = encL [j + 1, j] := by simp [encL]
    have ad1 := addLL (rg.take j) [j + 1, j] (by simp; omega)
    have ad2 := addLL (rg.take j ++ [j + 1, j]) (rg.drop (j + 2)) (by simp; omega)
    rw [← ex] at ad2
    have er := encR_ex r j
    rw [← hrg] at er
    have hmem : ∀ m ∈ exL rg j, m < r.gs.length := fun m hm => by
      have := exL_mem hm
      rw [hrg] at this
      simpa using this
    have hlen := exL_len (l := rg) (g := j) (by omega)
    have hl := filt_len (okS r) j
    have hs := filt_snoc (okS r) j
    generalize exL rg j = ks at *
    generalize rg.take j ++ [j + 1, j] = k1 at *
    simp [sl1, sl2, ll, ad1, ad2, itN, BIG]
    refine cmp _ _ _ _ _ _ _ _ _ _ _ _ _ _ _ hmem ?_
    simp only [List.map_map] at er
    simp [BIG]
    refine ⟨by omega, ?_⟩
    rw [er, t]
    simp
    refine Br_intro (fun h => ?_) (fun h => ?_)
    · simp [encL, metV, BIG]
      refine ⟨by omega, ?_⟩
      rw [hI]
      refine ⟨some _, some _, some _, a9, rfl, ?_⟩
      rw [hs, if_pos h, ← encL_snoc]
    · simp
      rw [hI]
      refine ⟨some _, some _, some _, a9, rfl, ?_⟩
      rw [hs, if_neg (by rw [h]; decide), List.append_nil]
  · intro env S hi
    rw [hI] at hi
    obtain ⟨a6, a7, a8, a9, rfl, rfl⟩ := hi
    rw [rangeP_length]
    have eP : (List.range (r.gs.length - 1)).filter (okS r) = exchF r := rfl
    rw [eP]
    simp [lenN, hrl]
    refine Br_intro (fun h2 => ?_) (fun h2 => ?_)
    · have h2 : 1 < r.gs.length := by have := of_decide_eq_true h2; omega
      simp [lenN, hrl, BIG]
      refine ⟨by omega, ?_⟩
      obtain ⟨J, hJ⟩ : ∃ J : Nat → Env → Sto → Prop, J = fun j env S => ∃ (a6 a7 a8 a9 : Option P), env = [some (.p (.tup [.int (r.n : Int), .tup (r.gs.map encG)])), some (.p (.int (r.n : Int))), some (.p (.tup (r.gs.map encG))), some (.p (encL rg)), some (.l 101), some (.l 100), a6.map .p, a7.map .p, a8.map .p, a9.map .p] ∧
        S = [(100, encL ((List.range j).filter (okW r))), (101, encL (exchF r))] := ⟨_, rfl⟩
      refine for_inv J _ _ _ ?_ ?_ ?_
      · rw [hJ]
        exact ⟨a6, a7, a8, a9, rfl, rfl⟩
      · intro j x env S hx hi
        rw [hJ] at hi
        obtain ⟨a6, a7, a8, a9, rfl, rfl⟩ := hi
        rw [rangeP_get'] at hx
        split at hx <;> cases hx
        rename_i hj
        rw [s_forF]
        have t := fun S => tsw k r j hr hj h2 S
        rw [e0, ← hrg] at t
        have sl1 := slcL1 rg j
        have sl2 : slc (encL rg) (some ((j : Int) + 1)) none = some (encL (rg.drop (j + 1))) := slcL2 rg j 1
        have ad2 : op2 .add (encL (rg.take j)) (encL (rg.drop (j + 1))) = some (encL (wiL rg j)) := addLL (rg.take j) (rg.drop (j + 1)) (by simp; omega)
        have er := encR_wi r j
        rw [← hrg] at er
        have hmem : ∀ m ∈ wiL rg j, m < r.gs.length := fun m hm => by
          have := wiL_mem hm
          rw [hrg] at this
          simpa using this
        have hlen := wiL_len (l := rg) (g := j) (by omega)
        have hl := filt_len (okW r) j
        have hs := filt_snoc (okW r) j
        generalize wiL rg j = ks at *
        simp [sl1, sl2, ad2, itN, BIG]
        refine cmp _ _ _ _ _ _ _ _ _ _ _ _ _ _ _ hmem ?_
        simp only [List.map_map] at er
        simp [BIG]
        refine ⟨by omega, ?_⟩
        rw [er, t]
        simp
        refine Br_intro (fun h => ?_) (fun h => ?_)
        · simp [encL, metV, BIG]
          refine ⟨by omega, ?_⟩
          rw [hJ]
          refine ⟨some _, some _, some _, a9, rfl, ?_⟩
          rw [hs, if_pos h, ← encL_snoc]
          rfl
        · simp
          rw [hJ]
          refine ⟨some _, some _, some _, a9, rfl, ?_⟩
          rw [hs, if_neg (by rw [h]; decide), List.append_nil]
      · intro env S hi
        rw [hJ] at hi
        obtain ⟨a6, a7, a8, a9, rfl, rfl⟩ := hi
        rw [rangeP_length]
        have en : (List.range r.gs.length).filter (okW r) = needF r := by unfold needF; rw [if_pos h2]
        rw [en]
        simp [frzV_l, BIG]
    · have h2 : ¬ 1 < r.gs.length := by have := of_decide_eq_false h2; omega
      have en : needF r = [] := by unfold needF; rw [if_neg h2]; rfl
      simp [BIG, rangeP, forGo, frzV_l, en, encL]
theorem due_c (k : Nat) (r : Row) (hr : r.Ok) (S : Sto) : callV (callF pg (k+4)) (.p (.gl 30)) [.p (encR r)] S = .ok (.p (.lst [encL (exchF r), encL (needF r)])) S := by
  obtain ⟨S', e⟩ := due_ok k r hr
  exact callV_of (ds := [encR r]) e rfl
end Hb

namespace Hb
open PySem
/-! ### a guest who is choosy -/
theorem choosy_ok (k : Nat) (d : P) (B : Int) (n : Nat) (hd : Dk d B) (h0 : 0 ≤ B) (hB : B ≤ 900000000) (hn1 : 1 ≤ n) (hn : n ≤ 3) :
    Rs (callF pg (k+2) (.p (.gl 31)) [.l 0, .p (.int (n : Int))] [(0, d)]) (fun v S => ∃ g d', v = .p (encG g) ∧ S.get 0 = some d' ∧ okG n g ∧ Dk d' (B + 10)) (fun _ _ _ => False) := by
  refine w_callF rfl pg_fn31 rfl rfl ?_
  simp only [fd31]
  simp
  refine pick_w (by simp) hd (by omega) (by omega) (by omega) fun mi d1 i0 i1 hd1 => ?_
  obtain ⟨mi, rfl⟩ := Int.eq_ofNat_of_zero_le i0
  have hmi : mi < n := by omega
  simp
  refine pick_w (by simp) hd1 (by omega) (by decide) (by decide) fun s d2 s0 s1 hd2 => ?_
  obtain ⟨s, rfl⟩ := Int.eq_ofNat_of_zero_le s0
  simp [BIG]
  obtain ⟨sz, hsz⟩ : ∃ sz, sz = s + 1 := ⟨_, rfl⟩
  have eS : ((1 : Int) + (s : Int)) = (sz : Int) := by omega
  have eR : ((1 : Int) + (s : Int)).toNat = sz := by omega
  rw [eS]
  refine ⟨by omega, ?_⟩
  obtain ⟨I, hI⟩ : ∃ I : Nat → Env → Sto → Prop, I = fun j env S => ∃ (a5 a7 : Option P) (c6 : Option Val) (T : Sto) (g : Guest) (d' : P), env = [some (.l 0), some (.p (.int (n : Int))), some (.p (.int (mi : Int))), some (.p (.int (sz : Int))), some (.l 100), a5.map .p, c6, a7.map .p] ∧
    S = (0, d') :: (100, P.lst (g.map encM)) :: T ∧ ((c6 = none ∧ T = []) ∨ (c6 = some (.l 101) ∧ ∃ x, T = [(101, x)])) ∧ g.length = j ∧ (∀ m ∈ g, m.length = n ∧ ∀ h ∈ m, h.2 < sz) ∧ Dk d' (B + 2 + 4 * (j : Int)) := ⟨_, rfl⟩
  refine for_inv I _ _ _ ?_ ?_ ?_
  · rw [hI]
    exact ⟨none, none, none, [], [], d2, rfl, rfl, .inl ⟨rfl, rfl⟩, rfl, fun m hm => (by cases hm), hd2.mono (by omega)⟩
  · intro j x env S hx hi
    rw [hI] at hi
    obtain ⟨a5, a7, c6, T, g, d3, rfl, rfl, hT, hgl, hg, hd3⟩ := hi
    rw [rangeP_get'] at hx
    split at hx <;> cases hx
    rename_i hj
    have hj : j < sz := by simpa using hj
    rw [s_forF]
    simp [BIG]
    refine ⟨by omega, ?_⟩
    refine lcGo_all (fun i S => ∃ d', S = (0, d') :: (100, P.lst (g.map encM)) :: T ∧ Dk d' (B + 2 + 4 * (j : Int) + i)) (fun _ _ d => HasH sz d) _ [] 0 _ _ ⟨d3, rfl, by simpa using hd3⟩ ?_ ?_
    · rintro i x S hx ⟨d4, rfl, hd4⟩
      rw [rangeP_get'] at hx
      split at hx <;> cases hx
      rename_i hi
      have hq : op2 .eq (.int (i : Int)) (.int (mi : Int)) = some (.bl (decide (i = mi))) := by
        rw [op_eq (cmpb_of (dep_int _ _) (dep_int _ _)), eqv_int]
        congr 2
        simp only [Int.natCast_inj]
      simp [w_lcFn, BIG, hq]
      refine Br_intro (fun hc => ?_) (fun hc => ?_)
      · simp
        refine pick_w (by simp) hd4 (by omega) (by omega) (by omega) fun b d5 b0 b1 hd5 => ?_
        obtain ⟨bn, rfl⟩ := Int.eq_ofNat_of_zero_le b0
        simp [BIG]
        exact ⟨⟨(false, bn), rfl, by show bn < sz; omega⟩, hd5.mono (by omega)⟩
      · simp [BIG]
        exact ⟨⟨(false, j), rfl, hj⟩, hd4.mono (by omega)⟩
    · rintro ds S' hl hR ⟨d6, rfl, hd6⟩
      rw [rangeP_length] at hl hd6
      obtain ⟨hs, rfl, ph⟩ := exists_map (ds := ds) (enc := encH) (p := fun h => h.2 < sz) fun i d e => by
        have hi : i < ds.length := (List.getElem?_eq_some_iff.mp e).1
        exact hR i (.int (0 + (i : Int))) d (by rw [rangeP_get', if_pos (by omega)]) e
      simp at hl
      obtain ⟨hm, hmE⟩ : ∃ hm, hs[mi]? = some hm := ⟨_, List.getElem?_eq_getElem (by omega)⟩
      have hmS := ph hm (List.mem_of_getElem? hmE)
      have eH : encH hm = .tup [.bl hm.1, .int hm.2] := rfl
      have fin : ∀ (a5 a7 : Option P) (d' : P) (x : P), Dk d' (B + 2 + 4 * (j : Int) + n + 1) → ∀ b : Bool, I (j + 1) [some (.l 0), some (.p (.int (n : Int))), some (.p (.int (mi : Int))), some (.p (.int (sz : Int))), some (.l 100), a5.map .p, some (.l 101), a7.map .p] [(0, d'), (100, P.lst (g.map encM ++ [P.tup ((hs.map encH).set mi (.tup [.bl b, .int hm.2]))])), (101, x)] := by
        intro a5 a7 d' x hd' b
        rw [hI]
        refine ⟨a5, a7, some (.l 101), _, g ++ [hs.set mi (b, hm.2)], d', rfl, ?_, .inr ⟨rfl, x, rfl⟩, by simp [hgl], ?_, hd'.mono (by omega)⟩
        · simp [encM, encH, List.map_set]
        · intro m hm'
          rcases List.mem_append.mp hm' with h | h
          · exact hg m h
          · rw [List.mem_singleton.mp h]
            refine ⟨by simpa using hl, fun y hy => ?_⟩
            rcases List.mem_or_eq_of_mem_set hy with hy | rfl
            · exact ph y hy
            · exact hmS
      have hset : ∀ (d5 r v : P), sidxV (.p v) (.l 101) (.p (.int (mi : Int))) [(0, d5), (100, r), (101, .lst (hs.map encH))] = some [(0, d5), (100, r), (101, .lst ((hs.map encH).set mi v))] := fun d5 r v => by
        rw [sidxV_of (k := mi) (xs := hs.map encH) (by simp) (by simp [L2.ixN]; omega)]
        rfl
      have hlg : (g.map encM).length < BIG := by simp [BIG]; omega
      rcases hT with ⟨rfl, rfl⟩ | ⟨rfl, x, rfl⟩
      · simp [BIG]
        refine ⟨by omega, ?_⟩
        refine pick_w (by simp) hd6 (by omega) (by decide) (by decide) fun c d7 c0 c1 hd7 => ?_
        simp [hmE, eH, hset, metV, BIG]
        exact ⟨by omega, fin (some _) a7 d7 _ (hd7.mono (by omega)) _⟩
      · simp [BIG]
        refine ⟨by omega, ?_⟩
        refine pick_w (by simp) hd6 (by omega) (by decide) (by decide) fun c d7 c0 c1 hd7 => ?_
        simp [hmE, eH, hset, metV, BIG]
        exact ⟨by omega, fin (some _) a7 d7 _ (hd7.mono (by omega)) _⟩
  · intro env S hi
    rw [hI] at hi
    obtain ⟨a5, a7, c6, T, g, d3, rfl, rfl, hT, hgl, hg, hd3⟩ := hi
    rw [rangeP_length] at hgl hd3
    have hgl : g.length = sz := by simpa using hgl
    simp [BIG]
    exact ⟨g, rfl, ⟨by omega, by omega, fun m hm => ⟨(hg m hm).1, fun h hh => by rw [hgl]; exact (hg m hm).2 h hh⟩⟩, hd3.mono (by omega)⟩
theorem choosy_w {k p : Nat} {S : Sto} {d : P} {B : Int} {n : Nat} {Q : Val → Sto → Prop} {X : Nat → Option P → Sto → Prop} (hp : S.get p = some d) (hd : Dk d B) (h0 : 0 ≤ B) (hB : B ≤ 900000000) (hn1 : 1 ≤ n) (hn : n ≤ 3)
    (q : ∀ (g : Guest) d', okG n g → Dk d' (B + 10) → Q (.p (encG g)) (S.put p d')) : Rs (callV (callF pg (k+2)) (.p (.gl 31)) [.l p, .p (.int (n : Int))] S) Q X := by
  refine w_callL (ds := [.int (n : Int)]) rfl hp (Rs.mono (choosy_ok k d B n hd h0 hB hn1 hn) ?_)
  rintro v S' ⟨g, d', rfl, a, b, c⟩
  exact ⟨_, d', rfl, a, q g d' b c⟩
end Hb

namespace Hb
open PySem
def S.fst : S → S
  | .seq a _ => a
  | _ => .nil
def S.snd : S → S
  | .seq _ b => b
  | _ => .nil
def S.bod : S → S
  | .floop _ _ b => b
  | _ => .nil
def tail05 : S := fd32.body.snd
def turn05 : S := fd32.body.fst.bod
theorem tail05_ok (k : Nat) (a b c d e f g : Option Val) (S : Sto) : ex pg.toProg (callF pg (k + 20)) tail05 [a, b, c, d, e, f, g, none, none, none, none, none, none, none, none, none] S = .ret (.p (.bl true)) S := by
  kernel_rfl
end Hb

namespace Hb
open PySem
theorem neS (s : Str) (h : PyData.strOk s = true) : op2 .ne (.str s) (.str s) = some (.bl false) := by
  have hd : (P.str s).dep LIM = true := by simp [P.dep, h]
  rw [op_ne (cmpb_of hd hd), eqv_self _ _ hd]
  rfl
theorem odd4 (r : Row) : ∀ x ∈ [P.non, .tup [], .tup [.int 2, .tup []], .lst [.int (r.n : Int), .tup (r.gs.map encG)]], Pok x ∧ rowP x = false := by
  intro x hx
  simp only [List.mem_cons, List.not_mem_nil, or_false] at hx
  rcases hx with rfl | rfl | rfl | rfl
  · exact ⟨Pok.non, rfl⟩
  · exact ⟨⟨1, by simp [P.dep, P.deps]⟩, rfl⟩
  · exact ⟨⟨2, by simp [P.dep, P.deps]⟩, rfl⟩
  · refine ⟨⟨5, dep_lst fun d hd => ?_⟩, rfl⟩
    simp at hd
    rcases hd with rfl | rfl
    · exact dep_int _ _
    · exact dep_tup fun d hd => by
        obtain ⟨g, _, rfl⟩ := List.mem_map.mp hd
        exact dep_encG g 0
def twoF : List Nat := [15, 16]
theorem two_x (k : Nat) (d : P) (hd : Pok d) (h : rowP d = false) (S : Sto) : ∀ f ∈ twoF, callV (callF pg (k+7)) (.p (.gl f)) [.p d] S = .exc 34 none S := by
  have hx := fun S => need_row_x k d hd h S
  intro f hf
  simp only [twoF, List.mem_cons, List.not_mem_nil, or_false] at hf
  rcases hf with rfl | rfl
  · obtain ⟨S', e⟩ : ∃ S, callF pg (k+7) (.p (.gl 15)) [.p d] [] = .exc 34 none S := callXx rfl pg_fn15 rfl rfl (by simp [fd15, hx])
    exact callV_exc (ds := [d]) e rfl
  · obtain ⟨S', e⟩ : ∃ S, callF pg (k+7) (.p (.gl 16)) [.p d] [] = .exc 34 none S := callXx rfl pg_fn16 rfl rfl (by simp [fd16, hx])
    exact callV_exc (ds := [d]) e rfl
theorem two_ar : ∀ f ∈ twoF, pg.ar f = some 1 := by
  intro f hf
  simp only [twoF, List.mem_cons, List.not_mem_nil, or_false] at hf
  rcases hf with rfl | rfl <;> rfl
/-- the state between two turns -/
def Inv05 (v : P) (env : Env) (S : Sto) : Prop := ∃ (a1 a3 a4 a5 a6 : Option P) (dk : Option Val), env = [some (.p v), a1.map .p, dk, a3.map .p, a4.map .p, a5.map .p, a6.map .p, none, none, none, none, none, none, none, none, none] ∧
  ((dk = none ∧ S = []) ∨ (dk = some (.l 100) ∧ ∃ d, S = [(100, d)]))
theorem turn05_ok (k : Nat) (v : P) (c : Int) (a3 a4 a5 a6 : Option P) (dk : Option Val) (S : Sto) (D : Dn) (hdk : (dk = none ∧ S = []) ∨ (dk = some (.l 100) ∧ ∃ d, S = [(100, d)])) :
    Sq (ex pg.toProg (callF pg (k + 20)) turn05 [some (.p v), some (.p (.int c)), dk, a3.map .p, a4.map .p, a5.map .p, a6.map .p, none, none, none, none, none, none, none, none, none] S) (Inv05 v) D := by
  obtain ⟨p, d, hp, e, hd⟩ := deck_ok (k + 19) c 5
  have hd := hd (by decide)
  have st : ∀ {N : Env → Sto → Prop} {rest : Hb.S}, Sq (ex pg.toProg (callF pg (k + 20)) rest [some (.p v), some (.p (.int c)), some (.l 100), a3.map .p, a4.map .p, a5.map .p, a6.map .p, none, none, none, none, none, none, none, none, none] [(100, d)]) N D →
      Sq (ex pg.toProg (callF pg (k + 20)) (.seq (.setC 2 100 17 (.cons (.var 1) (.cons (.cst (.int 5)) .nil))) rest) [some (.p v), some (.p (.int c)), dk, a3.map .p, a4.map .p, a5.map .p, a6.map .p, none, none, none, none, none, none, none, none, none] S) N D := by
    intro N rest h
    rcases hdk with ⟨rfl, rfl⟩ | ⟨rfl, d0, rfl⟩
    · simp [e]
      exact h
    · simp [e]
      exact h
  refine st ?_
  simp
  refine row_w (most := 3) (by simp) hd (by decide) (by decide) (by decide) fun r d1 hr _ hd1 => ?_
  simp
  refine pick_w (by simp) hd1 (by decide) (by decide) (by decide) fun mn d2 m0 m1 hd2 => ?_
  obtain ⟨mn, rfl⟩ := Int.eq_ofNat_of_zero_le m0
  obtain ⟨n, hn⟩ : ∃ n, n = mn + 2 := ⟨_, rfl⟩
  have eN : ((2 : Int) + (mn : Int)) = (n : Int) := by omega
  have n1 : 1 ≤ n := by omega
  have n3 : n ≤ 3 := by omega
  simp [eN]
  refine choosy_w (by simp) hd2 (by decide) (by decide) n1 n3 fun ga d3 oga hd3 => ?_
  simp
  refine choosy_w (by simp) hd3 (by decide) (by decide) n1 n3 fun gb d4 ogb hd4 => ?_
  simp
  refine choosy_w (by simp) hd4 (by decide) (by decide) n1 n3 fun gc d5 ogc hd5 => ?_
  have or2 : (⟨n, [ga, gb, gc]⟩ : Row).Ok := ⟨n1, n3, by simp, by simp, fun g hg => by
    simp at hg
    rcases hg with rfl | rfl | rfl
    · exact oga
    · exact ogb
    · exact ogc⟩
  have er2 : P.tup [.int (n : Int), .tup [encG ga, encG gb, encG gc]] = encR ⟨n, [ga, gb, gc]⟩ := rfl
  simp [BIG]
  rw [er2]
  generalize (⟨n, [ga, gb, gc]⟩ : Row) = r2 at *
  have sm : ∀ (d : P) (S : Sto), d.dep 5 = true → callV (callF pg (k + 20)) (.p (.gl 20)) [.p d, .p d] S = .ok (.p (.bl true)) S := fun d S h => same_c (k + 13) 5 d h S
  have sm2 : ∀ (a b : List Nat) (S : Sto), callV (callF pg (k + 20)) (.p (.gl 20)) [.p (.lst [encL a, encL b]), .p (.lst [encL a, encL b])] S = .ok (.p (.bl true)) S := fun a b S => sm _ S (dep_lst fun d hd => by
    simp at hd
    rcases hd with rfl | rfl
    · exact dep_encL a 3
    · exact dep_encL b 3)
  obtain ⟨I, hI⟩ : ∃ I : Nat → Env → Sto → Prop, I = fun (j : Nat) (env : Env) (S : Sto) => ∃ (q : Row), (j = 2 → q = r2) ∧ env = [some (.p v), some (.p (.int c)), some (.l 100), some (.p (encR q)), some (.p (.int (n : Int))), a5.map .p, a6.map .p, none, none, none, none, none, none, none, none, none] ∧ S = [(100, d5)] := ⟨_, rfl⟩
  refine for_inv I _ _ _ ?_ ?_ ?_
  · rw [hI]
    exact ⟨r, fun h => (by cases h), rfl, rfl⟩
  · rintro j x env S hx hi
    rw [hI] at hi
    obtain ⟨q0, _, rfl, rfl⟩ := hi
    obtain ⟨q, rfl, oq, h2⟩ : ∃ q : Row, x = encR q ∧ q.Ok ∧ (j + 1 = 2 → q = r2) := by
      rcases j with _ | _ | j
      · simp at hx
        exact ⟨r, hx.symm, hr, fun h => (by omega)⟩
      · simp at hx
        exact ⟨r2, hx.symm, or2, fun _ => rfl⟩
      · simp at hx
    rw [s_forF]
    have x1 := fun S => exchangeable_c (k + 13) q oq S
    have x2 := fun S => needless_c (k + 13) q oq S
    have x3 := fun S => due_c (k + 16) q oq S
    simp [x1, x2, x3, sm2, BIG]
    rw [hI]
    exact ⟨q, h2, rfl, rfl⟩
  · rintro env S hi
    rw [hI] at hi
    obtain ⟨q, h2, rfl, rfl⟩ := hi
    have := h2 rfl
    subst this
    have od := odd4 q
    have nw := neS ("row +" : Str) (by decide +kernel)
    have x1 := fun d hd h S => two_x (k + 13) d hd h S
    obtain ⟨one, ho⟩ : ∃ one, one = encR q := ⟨_, rfl⟩
    have bl : bi .list [one] = some (.lst [.int (q.n : Int), .tup (q.gs.map encG)]) := by rw [ho]; rfl
    rw [← ho]
    simp [bl, BIG]
    obtain ⟨J, hJ⟩ : ∃ J : Env → Sto → Prop, J = fun env S => ∃ (a5 a6 : Option P), env = [some (.p v), some (.p (.int c)), some (.l 100), some (.p one), some (.p (.int (n : Int))), a5.map .p, a6.map .p, none, none, none, none, none, none, none, none, none] ∧ S = [(100, d5)] := ⟨_, rfl⟩
    refine for_inv (fun _ e S => J e S) _ _ _ ?_ ?_ ?_
    · rw [hJ]
      exact ⟨a5, a6, rfl, rfl⟩
    · rintro i x env S hx hi
      obtain ⟨p1, p2⟩ := od x (List.mem_of_getElem? hx)
      rw [hJ] at hi
      obtain ⟨b5, b6, rfl, rfl⟩ := hi
      rw [s_forF]
      simp [BIG]
      obtain ⟨K, hK⟩ : ∃ K : Env → Sto → Prop, K = fun env S => ∃ (a6 : Option P), env = [some (.p v), some (.p (.int c)), some (.l 100), some (.p one), some (.p (.int (n : Int))), some (.p x), a6.map .p, none, none, none, none, none, none, none, none, none] ∧ S = [(100, d5)] := ⟨_, rfl⟩
      refine for_inv (fun _ e S => K e S) _ _ _ ?_ ?_ ?_
      · rw [hK]
        exact ⟨b6, rfl, rfl⟩
      · rintro i y env S hy hi
        obtain ⟨f, rfl, hf⟩ : ∃ f, y = .gl f ∧ f ∈ twoF := by
          have hm := List.mem_of_getElem? hy
          simp at hm
          rcases hm with rfl | rfl
          · exact ⟨_, rfl, by simp [twoF]⟩
          · exact ⟨_, rfl, by simp [twoF]⟩
        have ar := two_ar f hf
        have x1 := fun S => x1 x p1 p2 S f hf
        rw [hK] at hi
        obtain ⟨b6, rfl, rfl⟩ := hi
        rw [s_forF]
        simp [ar, x1, nw, BIG]
        rw [hK]
        exact ⟨some _, rfl, rfl⟩
      · rintro env S hi
        rw [hK] at hi
        obtain ⟨b6, rfl, rfl⟩ := hi
        rw [hJ]
        exact ⟨some x, b6, rfl, rfl⟩
    · rintro env S hi
      rw [hJ] at hi
      obtain ⟨b5, b6, rfl, rfl⟩ := hi
      exact ⟨some _, some _, some _, b5, b6, _, rfl, .inr ⟨rfl, _, rfl⟩⟩
theorem plain05 (k : Nat) (ns : List Int) (hl : ns.length ≤ 63) : ∃ S, callF pg (k+21) (.p (.gl 32)) [.p (.lst (ns.map P.int))] [] = .ok (.p (.bl true)) S := by
  refine callEx rfl pg_fn32 rfl rfl ?_
  have o1 : op2 .add (.lst [.int 0]) (.lst (ns.map P.int)) = some (.lst (.int 0 :: ns.map P.int)) := by
    rw [op_addL (by simp [BIG]; omega)]
    rfl
  show Sq (ex pg.toProg (callF pg (k + 20)) (.seq (.floop (.nm 1) (.pl (.slc (.op .add (.lst (.cons (.cst (.int 0)) .nil)) (.var 0)) .nil (.pl (.cst (.int 9))))) turn05) tail05) [some (.p (.lst (ns.map P.int))), none, none, none, none, none, none, none, none, none, none, none, none, none, none, none] []) _ _
  simp [o1, BIG, -List.map_cons]
  have hc : cut (P.int 0 :: ns.map P.int) none (some 9) = (P.int 0 :: ns.map P.int).take 9 := cut_take _ 9
  rw [hc]
  refine for_inv (fun _ e S => Inv05 (.lst (ns.map P.int)) e S) _ _ _ ?_ ?_ ?_
  · exact ⟨none, none, none, none, none, none, rfl, .inl ⟨rfl, rfl⟩⟩
  · rintro j x env S hx ⟨a1, a3, a4, a5, a6, dk, rfl, hdk⟩
    obtain ⟨c, rfl⟩ : ∃ c, x = .int c := by
      have hm := List.mem_of_mem_take (List.mem_of_getElem? hx)
      simp at hm
      rcases hm with rfl | ⟨c, _, rfl⟩
      · exact ⟨_, rfl⟩
      · exact ⟨_, rfl⟩
    rw [s_forF]
    simp
    exact turn05_ok k _ c a3 a4 a5 a6 dk S _ hdk
  · rintro env S ⟨a1, a3, a4, a5, a6, dk, rfl, hdk⟩
    rw [tail05_ok]
    simp
end Hb

namespace Hb
open PySem
def LV : Nat := 20
theorem plain (ns : List Int) (hl : ns.length ≤ 63) (hb : ∀ z ∈ ns, Builtin.Int.intBits z ≤ 1048576) : ∃ S, callF pg (LV + 1) (.p (.gl 32)) [.p (.lst (ns.map P.int))] [] = .ok (.p (.bl true)) S := plain05 0 ns hl
end Hb

namespace Hb
open PySem PySem.Spec PyProof.Rows L2 HotX L2H
def top (i : Nat) : Stmt := PySem.Challenge.pw_habitrow_k05_guests_who_change_places_or.main.body.getD i (.Pass ⟨0, 0, 0, 0⟩)
def dt0 : DT := ⟨2, false, "is_within", [("value" : Str), ("low" : Str), ("high" : Str)], [("value" : Str), ("low" : Str), ("high" : Str)], defArgs (top 18), defBody (top 18), defScope (top 18)⟩
def dt1 : DT := ⟨2, false, "has_items", [("value" : Str), ("low" : Str), ("high" : Str)], [("value" : Str), ("low" : Str), ("high" : Str)], defArgs (top 19), defBody (top 19), defScope (top 19)⟩
def dt2 : DT := ⟨2, false, "is_habit", [("value" : Str), ("moods" : Str)], [("value" : Str), ("moods" : Str)], defArgs (top 20), defBody (top 20), defScope (top 20)⟩
def dt3 : DT := ⟨2, false, "is_mood", [("kinds" : Str), ("value" : Str), ("moods" : Str), ("habit" : Str)], [("kinds" : Str), ("value" : Str), ("moods" : Str)], defArgs (top 21), defBody (top 21), defScope (top 21)⟩
def dt4 : DT := ⟨2, false, "is_guest_value", [("kinds" : Str), ("value" : Str), ("mood" : Str)], [("kinds" : Str), ("value" : Str)], defArgs (top 22), defBody (top 22), defScope (top 22)⟩
def dt5 : DT := ⟨2, false, "is_row_value", [("value" : Str), ("guest" : Str)], [("value" : Str)], defArgs (top 23), defBody (top 23), defScope (top 23)⟩
def dt6 : DT := ⟨2, false, "need_row", [("value" : Str)], [("value" : Str)], defArgs (top 24), defBody (top 24), defScope (top 24)⟩
def dt7 : DT := ⟨0, false, "begin_of", [("row" : Str)], [("row" : Str)], defArgs (top 25), defBody (top 25), defScope (top 25)⟩
def dt8 : DT := ⟨0, false, "dish", [("row" : Str), ("moods" : Str), ("kind" : Str), ("later" : Str), ("number" : Str), ("guest" : Str), ("takes" : Str), ("then" : Str)], [("row" : Str), ("moods" : Str), ("kind" : Str)], defArgs (top 26), defBody (top 26), defScope (top 26)⟩
def dt9 : DT := ⟨1, false, "first_apart", [("one" : Str), ("other" : Str), ("first" : Str), ("second" : Str), ("begin" : Str), ("line" : Str), ("met" : Str), ("later" : Str), ("mine" : Str), ("yours" : Str), ("stream" : Str), ("kind" : Str), ("outcome" : Str), ("here" : Str), ("result" : Str), ("there" : Str), ("longer" : Str)], [("one" : Str), ("other" : Str), ("first" : Str), ("second" : Str)], defArgs (top 28), defBody (top 28), defScope (top 28)⟩
def dt10 : DT := ⟨0, false, "as_told", [("outcome" : Str)], [("outcome" : Str)], defArgs (top 29), defBody (top 29), defScope (top 29)⟩
def dt11 : DT := ⟨2, false, "exchanged", [("row" : Str), ("guest" : Str), ("kinds" : Str), ("guests" : Str)], [("row" : Str), ("guest" : Str)], defArgs (top 30), defBody (top 30), defScope (top 30)⟩
def dt12 : DT := ⟨2, false, "without", [("row" : Str), ("guest" : Str)], [("row" : Str), ("guest" : Str)], defArgs (top 31), defBody (top 31), defScope (top 31)⟩
def dt13 : DT := ⟨2, false, "swapped", [("outcome" : Str), ("guest" : Str)], [("outcome" : Str), ("guest" : Str)], defArgs (top 32), defBody (top 32), defScope (top 32)⟩
def dt14 : DT := ⟨2, false, "fewer", [("outcome" : Str), ("guest" : Str)], [("outcome" : Str), ("guest" : Str)], defArgs (top 33), defBody (top 33), defScope (top 33)⟩
def dt15 : DT := ⟨2, true, "exchangeable", [("row" : Str), ("found" : Str), ("guest" : Str)], [("row" : Str)], defArgs (top 34), defBody (top 34), defScope (top 34)⟩
def dt16 : DT := ⟨2, true, "needless", [("row" : Str), ("found" : Str), ("guest" : Str)], [("row" : Str)], defArgs (top 35), defBody (top 35), defScope (top 35)⟩
def dt17 : DT := ⟨2, false, "_law_deck", [("cell" : Str), ("turn" : Str)], [("cell" : Str), ("turn" : Str)], defArgs (top 37), defBody (top 37), defScope (top 37)⟩
def dt18 : DT := ⟨2, false, "_law_pick", [("deck" : Str), ("size" : Str), ("found" : Str), ("number" : Str)], [("deck" : Str), ("size" : Str)], defArgs (top 38), defBody (top 38), defScope (top 38)⟩
def dt19 : DT := ⟨2, false, "_law_sort", [("thing" : Str)], [("thing" : Str)], defArgs (top 39), defBody (top 39), defScope (top 39)⟩
def dt20 : DT := ⟨2, false, "_law_same", [("told" : Str), ("due" : Str), ("k" : Str), ("part" : Str)], [("told" : Str), ("due" : Str)], defArgs (top 40), defBody (top 40), defScope (top 40)⟩
def dt21 : DT := ⟨2, false, "_law_kin", [("e" : Str), ("sorts" : Str), ("labels" : Str), ("label" : Str), ("good" : Str)], [("e" : Str)], defArgs (top 41), defBody (top 41), defScope (top 41)⟩
def dt22 : DT := ⟨2, false, "_law_try", [("call_so" : Str), ("found" : Str), ("e" : Str)], [("call_so" : Str)], defArgs (top 42), defBody (top 42), defScope (top 42)⟩
def dt23 : DT := ⟨2, false, "_law_a_guest", [("deck" : Str), ("many" : Str), ("size" : Str), ("kind_so" : Str), ("m" : Str)], [("deck" : Str), ("many" : Str)], defArgs (top 43), defBody (top 43), defScope (top 43)⟩
def dt24 : DT := ⟨2, false, "_law_a_row", [("deck" : Str), ("most" : Str), ("many" : Str), ("found" : Str), ("turn" : Str), ("new" : Str)], [("deck" : Str), ("most" : Str)], defArgs (top 44), defBody (top 44), defScope (top 44)⟩
def dt25 : DT := ⟨2, false, "_law_sent", [("row_so" : Str), ("all_moods" : Str), ("kind_so" : Str), ("later" : Str), ("taker" : Str), ("number" : Str), ("guest_so" : Str), ("takes" : Str), ("then" : Str)], [("row_so" : Str), ("all_moods" : Str), ("kind_so" : Str)], defArgs (top 45), defBody (top 45), defScope (top 45)⟩
def dt26 : DT := ⟨2, false, "_law_first", [("row_so" : Str)], [("row_so" : Str)], defArgs (top 46), defBody (top 46), defScope (top 46)⟩
def dt27 : DT := ⟨2, false, "_law_known", [("one" : Str), ("all_so" : Str), ("first" : Str), ("second" : Str), ("turns" : Str), ("rows_so" : Str)], [], defArgs (top 47), defBody (top 47), defScope (top 47)⟩
def dt28 : DT := ⟨2, false, "_law_named", [("row_so" : Str), ("names" : Str), ("all_moods" : Str), ("kind_so" : Str), ("taker" : Str), ("there" : Str)], [("row_so" : Str), ("names" : Str), ("all_moods" : Str), ("kind_so" : Str)], defArgs (top 48), defBody (top 48), defScope (top 48)⟩
def dt29 : DT := ⟨2, false, "_law_takes_same", [("one" : Str), ("names" : Str), ("other" : Str), ("others" : Str), ("kept" : Str), ("line" : Str), ("met" : Str), ("pair" : Str), ("kind_so" : Str), ("taker" : Str), ("here" : Str), ("other_so" : Str), ("there" : Str)], [("one" : Str), ("names" : Str), ("other" : Str), ("others" : Str), ("kept" : Str)], defArgs (top 49), defBody (top 49), defScope (top 49)⟩
def dt30 : DT := ⟨2, false, "_law_due", [("row_so" : Str), ("many" : Str), ("guests_so" : Str), ("names" : Str), ("pairs" : Str), ("gone" : Str), ("at" : Str), ("others" : Str), ("other" : Str), ("name" : Str)], [("row_so" : Str)], defArgs (top 50), defBody (top 50), defScope (top 50)⟩
def dt31 : DT := ⟨2, false, "_law_choosy", [("deck" : Str), ("many" : Str), ("mine" : Str), ("size" : Str), ("rows_so" : Str), ("mood" : Str), ("habits_so" : Str), ("kind_so" : Str)], [("deck" : Str), ("many" : Str)], defArgs (top 51), defBody (top 51), defScope (top 51)⟩
def dt32 : DT := ⟨2, true, "law", [("script" : Str), ("cell" : Str), ("deck" : Str), ("row_so" : Str), ("many" : Str), ("odd" : Str), ("call_so" : Str), ("one" : Str), ("two" : Str), ("three" : Str), ("four" : Str), ("five" : Str), ("six" : Str), ("three_so" : Str), ("calm" : Str), ("some" : Str)], [("script" : Str)], defArgs (top 52), defBody (top 52), defScope (top 52)⟩
def gnl0 : List Str := [("is_within" : Str), ("has_items" : Str), ("is_habit" : Str), ("is_mood" : Str), ("is_guest_value" : Str), ("is_row_value" : Str), ("need_row" : Str), ("begin_of" : Str), ("dish" : Str), ("first_apart" : Str), ("as_told" : Str), ("exchanged" : Str), ("without" : Str), ("swapped" : Str), ("fewer" : Str), ("exchangeable" : Str), ("needless" : Str), ("_law_deck" : Str), ("_law_pick" : Str), ("_law_sort" : Str)]
def gnl1 : List Str := [("_law_same" : Str), ("_law_kin" : Str), ("_law_try" : Str), ("_law_a_guest" : Str), ("_law_a_row" : Str), ("_law_sent" : Str), ("_law_first" : Str), ("_law_known" : Str), ("_law_named" : Str), ("_law_takes_same" : Str), ("_law_due" : Str), ("_law_choosy" : Str), ("law" : Str), ("HabitError" : Str), ("InvalidRow" : Str), ("InvalidStream" : Str), ("InvalidGuest" : Str), ("InvalidKinds" : Str), ("InvalidLot" : Str), ("InvalidNumber" : Str)]
def gnl2 : List Str := [("InvalidPaper" : Str), ("InvalidIndex" : Str), ("Impossible" : Str), ("Unlike" : Str), ("NothingToUndo" : Str), ("TooMany" : Str), ("InvalidText" : Str), ("MOST_MOODS" : Str), ("MOST_GUESTS" : Str)]
def gnl : List Str := gnl0 ++ gnl1 ++ gnl2
def dtl0 : List DT := [dt0, dt1, dt2, dt3, dt4, dt5, dt6, dt7, dt8, dt9, dt10, dt11, dt12, dt13, dt14, dt15, dt16, dt17, dt18, dt19]
def dtl1 : List DT := [dt20, dt21, dt22, dt23, dt24, dt25, dt26, dt27, dt28, dt29, dt30, dt31, dt32]
def dtl : List DT := dtl0 ++ dtl1
def ld : LawDat := ⟨gnl, 33, 14, dtl, [0, 1, 2, 3, 4, 5, 6, 7, 8, 9, 10, 11, 12, 13, 14, 15, 16, 17, 18, 19, 20, 23, 24, 25, 26, 27, 28, 29, 30, 31, 32], [33, 34, 35, 36, 37, 38, 39, 40, 41, 42, 43, 44], [34], [(47, 4), (48, 3)], [15, 16, 32], [7, 8, 10], [9], pg⟩
theorem bh0 : BindsH dt0 := fun _ _ _ _ _ _ us hl => match us, hl with | [_, _, _], _ => rfl
theorem chk0 : chkD ld.md dt0 fd0 = true := by decide +kernel
theorem ok0 : DefOk ld 0 := ⟨dt0, fd0, rfl, rfl, rfl, chk0, rfl, by decide, by decide, bh0, by decide, by decide⟩
theorem bh1 : BindsH dt1 := fun _ _ _ _ _ _ us hl => match us, hl with | [_, _, _], _ => rfl
theorem chk1 : chkD ld.md dt1 fd1 = true := by decide +kernel
theorem ok1 : DefOk ld 1 := ⟨dt1, fd1, rfl, rfl, rfl, chk1, rfl, by decide, by decide, bh1, by decide, by decide⟩
theorem bh2 : BindsH dt2 := fun _ _ _ _ _ _ us hl => match us, hl with | [_, _], _ => rfl
theorem chk2 : chkD ld.md dt2 fd2 = true := by decide +kernel
theorem ok2 : DefOk ld 2 := ⟨dt2, fd2, rfl, rfl, rfl, chk2, rfl, by decide, by decide, bh2, by decide, by decide⟩
theorem bh3 : BindsH dt3 := fun _ _ _ _ _ _ us hl => match us, hl with | [_, _, _], _ => rfl
theorem chk3 : chkD ld.md dt3 fd3 = true := by decide +kernel
theorem ok3 : DefOk ld 3 := ⟨dt3, fd3, rfl, rfl, rfl, chk3, rfl, by decide, by decide, bh3, by decide, by decide⟩
theorem bh4 : BindsH dt4 := fun _ _ _ _ _ _ us hl => match us, hl with | [_, _], _ => rfl
theorem chk4 : chkD ld.md dt4 fd4 = true := by decide +kernel
theorem ok4 : DefOk ld 4 := ⟨dt4, fd4, rfl, rfl, rfl, chk4, rfl, by decide, by decide, bh4, by decide, by decide⟩
theorem bh5 : BindsH dt5 := fun _ _ _ _ _ _ us hl => match us, hl with | [_], _ => rfl
theorem chk5 : chkD ld.md dt5 fd5 = true := by decide +kernel
theorem ok5 : DefOk ld 5 := ⟨dt5, fd5, rfl, rfl, rfl, chk5, rfl, by decide, by decide, bh5, by decide, by decide⟩
theorem bh6 : BindsH dt6 := fun _ _ _ _ _ _ us hl => match us, hl with | [_], _ => rfl
theorem chk6 : chkD ld.md dt6 fd6 = true := by decide +kernel
theorem ok6 : DefOk ld 6 := ⟨dt6, fd6, rfl, rfl, rfl, chk6, rfl, by decide, by decide, bh6, by decide, by decide⟩
theorem bh7 : BindsH dt7 := fun _ _ _ _ _ _ us hl => match us, hl with | [_], _ => rfl
theorem chk7 : chkD ld.md dt7 fd7 = true := by decide +kernel
theorem ok7 : DefOk ld 7 := ⟨dt7, fd7, rfl, rfl, rfl, chk7, rfl, by decide, by decide, bh7, by decide, by decide⟩
theorem bh8 : BindsH dt8 := fun _ _ _ _ _ _ us hl => match us, hl with | [_, _, _], _ => rfl
theorem chk8 : chkD ld.md dt8 fd8 = true := by decide +kernel
theorem ok8 : DefOk ld 8 := ⟨dt8, fd8, rfl, rfl, rfl, chk8, rfl, by decide, by decide, bh8, by decide, by decide⟩
theorem bh9 : BindsH dt9 := fun _ _ _ _ _ _ us hl => match us, hl with | [_, _, _, _], _ => rfl
theorem chk9 : chkD ld.md dt9 fd9 = true := by decide +kernel
theorem ok9 : DefOk ld 9 := ⟨dt9, fd9, rfl, rfl, rfl, chk9, rfl, by decide, by decide, bh9, by decide, by decide⟩
theorem bh10 : BindsH dt10 := fun _ _ _ _ _ _ us hl => match us, hl with | [_], _ => rfl
theorem chk10 : chkD ld.md dt10 fd10 = true := by decide +kernel
theorem ok10 : DefOk ld 10 := ⟨dt10, fd10, rfl, rfl, rfl, chk10, rfl, by decide, by decide, bh10, by decide, by decide⟩
theorem bh11 : BindsH dt11 := fun _ _ _ _ _ _ us hl => match us, hl with | [_, _], _ => rfl
theorem chk11 : chkD ld.md dt11 fd11 = true := by decide +kernel
theorem ok11 : DefOk ld 11 := ⟨dt11, fd11, rfl, rfl, rfl, chk11, rfl, by decide, by decide, bh11, by decide, by decide⟩
theorem bh12 : BindsH dt12 := fun _ _ _ _ _ _ us hl => match us, hl with | [_, _], _ => rfl
theorem chk12 : chkD ld.md dt12 fd12 = true := by decide +kernel
theorem ok12 : DefOk ld 12 := ⟨dt12, fd12, rfl, rfl, rfl, chk12, rfl, by decide, by decide, bh12, by decide, by decide⟩
theorem bh13 : BindsH dt13 := fun _ _ _ _ _ _ us hl => match us, hl with | [_, _], _ => rfl
theorem chk13 : chkD ld.md dt13 fd13 = true := by decide +kernel
theorem ok13 : DefOk ld 13 := ⟨dt13, fd13, rfl, rfl, rfl, chk13, rfl, by decide, by decide, bh13, by decide, by decide⟩
theorem bh14 : BindsH dt14 := fun _ _ _ _ _ _ us hl => match us, hl with | [_, _], _ => rfl
theorem chk14 : chkD ld.md dt14 fd14 = true := by decide +kernel
theorem ok14 : DefOk ld 14 := ⟨dt14, fd14, rfl, rfl, rfl, chk14, rfl, by decide, by decide, bh14, by decide, by decide⟩
theorem bh15 : BindsH dt15 := fun _ _ _ _ _ _ us hl => match us, hl with | [_], _ => rfl
theorem chk15 : chkD ld.md dt15 fd15 = true := by decide +kernel
theorem ok15 : DefOk ld 15 := ⟨dt15, fd15, rfl, rfl, rfl, chk15, rfl, by decide, by decide, bh15, by decide, by decide⟩
theorem bh16 : BindsH dt16 := fun _ _ _ _ _ _ us hl => match us, hl with | [_], _ => rfl
theorem chk16 : chkD ld.md dt16 fd16 = true := by decide +kernel
theorem ok16 : DefOk ld 16 := ⟨dt16, fd16, rfl, rfl, rfl, chk16, rfl, by decide, by decide, bh16, by decide, by decide⟩
theorem bh17 : BindsH dt17 := fun _ _ _ _ _ _ us hl => match us, hl with | [_, _], _ => rfl
theorem chk17 : chkD ld.md dt17 fd17 = true := by decide +kernel
theorem ok17 : DefOk ld 17 := ⟨dt17, fd17, rfl, rfl, rfl, chk17, rfl, by decide, by decide, bh17, by decide, by decide⟩
theorem bh18 : BindsH dt18 := fun _ _ _ _ _ _ us hl => match us, hl with | [_, _], _ => rfl
theorem chk18 : chkD ld.md dt18 fd18 = true := by decide +kernel
theorem ok18 : DefOk ld 18 := ⟨dt18, fd18, rfl, rfl, rfl, chk18, rfl, by decide, by decide, bh18, by decide, by decide⟩
theorem bh19 : BindsH dt19 := fun _ _ _ _ _ _ us hl => match us, hl with | [_], _ => rfl
theorem chk19 : chkD ld.md dt19 fd19 = true := by decide +kernel
theorem ok19 : DefOk ld 19 := ⟨dt19, fd19, rfl, rfl, rfl, chk19, rfl, by decide, by decide, bh19, by decide, by decide⟩
theorem bh20 : BindsH dt20 := fun _ _ _ _ _ _ us hl => match us, hl with | [_, _], _ => rfl
theorem chk20 : chkD ld.md dt20 fd20 = true := by decide +kernel
theorem ok20 : DefOk ld 20 := ⟨dt20, fd20, rfl, rfl, rfl, chk20, rfl, by decide, by decide, bh20, by decide, by decide⟩
theorem bh23 : BindsH dt23 := fun _ _ _ _ _ _ us hl => match us, hl with | [_, _], _ => rfl
theorem chk23 : chkD ld.md dt23 fd23 = true := by decide +kernel
theorem ok23 : DefOk ld 23 := ⟨dt23, fd23, rfl, rfl, rfl, chk23, rfl, by decide, by decide, bh23, by decide, by decide⟩
theorem bh24 : BindsH dt24 := fun _ _ _ _ _ _ us hl => match us, hl with | [_, _], _ => rfl
theorem chk24 : chkD ld.md dt24 fd24 = true := by decide +kernel
theorem ok24 : DefOk ld 24 := ⟨dt24, fd24, rfl, rfl, rfl, chk24, rfl, by decide, by decide, bh24, by decide, by decide⟩
theorem bh25 : BindsH dt25 := fun _ _ _ _ _ _ us hl => match us, hl with | [_, _, _], _ => rfl
theorem chk25 : chkD ld.md dt25 fd25 = true := by decide +kernel
theorem ok25 : DefOk ld 25 := ⟨dt25, fd25, rfl, rfl, rfl, chk25, rfl, by decide, by decide, bh25, by decide, by decide⟩
theorem bh26 : BindsH dt26 := fun _ _ _ _ _ _ us hl => match us, hl with | [_], _ => rfl
theorem chk26 : chkD ld.md dt26 fd26 = true := by decide +kernel
theorem ok26 : DefOk ld 26 := ⟨dt26, fd26, rfl, rfl, rfl, chk26, rfl, by decide, by decide, bh26, by decide, by decide⟩
theorem bh27 : BindsH dt27 := fun _ _ _ _ _ _ us hl => match us, hl with | [], _ => rfl
theorem chk27 : chkD ld.md dt27 fd27 = true := by decide +kernel
theorem ok27 : DefOk ld 27 := ⟨dt27, fd27, rfl, rfl, rfl, chk27, rfl, by decide, by decide, bh27, by decide, by decide⟩
theorem bh28 : BindsH dt28 := fun _ _ _ _ _ _ us hl => match us, hl with | [_, _, _, _], _ => rfl
theorem chk28 : chkD ld.md dt28 fd28 = true := by decide +kernel
theorem ok28 : DefOk ld 28 := ⟨dt28, fd28, rfl, rfl, rfl, chk28, rfl, by decide, by decide, bh28, by decide, by decide⟩
theorem bh29 : BindsH dt29 := fun _ _ _ _ _ _ us hl => match us, hl with | [_, _, _, _, _], _ => rfl
theorem chk29 : chkD ld.md dt29 fd29 = true := by decide +kernel
theorem ok29 : DefOk ld 29 := ⟨dt29, fd29, rfl, rfl, rfl, chk29, rfl, by decide, by decide, bh29, by decide, by decide⟩
theorem bh30 : BindsH dt30 := fun _ _ _ _ _ _ us hl => match us, hl with | [_], _ => rfl
theorem chk30 : chkD ld.md dt30 fd30 = true := by decide +kernel
theorem ok30 : DefOk ld 30 := ⟨dt30, fd30, rfl, rfl, rfl, chk30, rfl, by decide, by decide, bh30, by decide, by decide⟩
theorem bh31 : BindsH dt31 := fun _ _ _ _ _ _ us hl => match us, hl with | [_, _], _ => rfl
theorem chk31 : chkD ld.md dt31 fd31 = true := by decide +kernel
theorem ok31 : DefOk ld 31 := ⟨dt31, fd31, rfl, rfl, rfl, chk31, rfl, by decide, by decide, bh31, by decide, by decide⟩
theorem bh32 : BindsH dt32 := fun _ _ _ _ _ _ us hl => match us, hl with | [_], _ => rfl
theorem chk32 : chkD ld.md dt32 fd32 = true := by decide +kernel
theorem ok32 : DefOk ld 32 := ⟨dt32, fd32, rfl, rfl, rfl, chk32, rfl, by decide, by decide, bh32, by decide, by decide⟩
end Hb

namespace Hb
open PySem PySem.Spec PyProof.Rows L2 HotX L2H
theorem kin_body {Γ : Gm} {D : Addr} {bs : List Bool} {p : Addr × Obj} {X : Cx} (k : KinX Γ D bs p X) (hb : bs.length = 14) (hN : X.N = kinN) (hs : X.env.scope = dt21.scope) :
    PSs X (dt21.body) (tKin p bs kinLab " ") := by
  obtain ⟨b0, b1, b2, b3, b4, b5, b6, b7, b8, b9, b10, b11, b12, b13, rfl⟩ : ∃ b0 b1 b2 b3 b4 b5 b6 b7 b8 b9 b10 b11 b12 b13, bs = [b0, b1, b2, b3, b4, b5, b6, b7, b8, b9, b10, b11, b12, b13] := list14 hb
  have nd := k.nd
  have l0 : X.env.scope.names.lookup ("e" : Str) = some .local := by rw [hs]; decide +kernel
  have l1 : X.env.scope.names.lookup ("sorts" : Str) = some .local := by rw [hs]; decide +kernel
  have l2 : X.env.scope.names.lookup ("labels" : Str) = some .local := by rw [hs]; decide +kernel
  have n0 : X.N[0]? = some ("e" : Str) := by rw [hN]; rfl
  have n1 : X.N[1]? = some ("sorts" : Str) := by rw [hN]; rfl
  have n2 : X.N[2]? = some ("labels" : Str) := by rw [hN]; rfl
  have n3 : X.N[3]? = some ("label" : Str) := by rw [hN]; rfl
  have n4 : X.N[4]? = some ("good" : Str) := by rw [hN]; rfl
  have gl : ∀ x ∈ (("isinstance" : Str) :: ("ValueError" : Str) :: ("zip" : Str) :: kinNm), Gl X x := by
    intro x hx
    show X.env.scope.names.lookup x = _
    rw [hs]
    revert x
    decide +kernel
  have is : ∀ {j : Nat} {x : Str} {q1 q2 q3 q4 : Pos}, kinNm[j]? = some x → (x == ("__debug__" : Str)) = false → PE X (.Call (.Name ("isinstance" : Str) q1) [.Name ("e" : Str) q2, .Name x q3] [] q4) _ := fun {j x q1 q2 q3 q4} hx hd =>
    pe_isx k hx (gl _ (by decide)) (gl _ (List.mem_cons_of_mem _ (List.mem_cons_of_mem _ (List.mem_cons_of_mem _ (List.mem_of_getElem? hx))))) n0 (.inl l0) (by decide) (by decide) hd
  refine pss_cons (ps_kin1 nd n1 l1 (pa_is1 (is (j := 0) rfl (by decide)) (pa_is1 (is (j := 1) rfl (by decide)) (pa_is1 (is (j := 2) rfl (by decide)) pa_is0)))) ?_
  refine pss_cons (ps_kin2 nd n1 l1 (by decide) (by decide) (pa_is1 (is (j := 3) rfl (by decide)) (pa_is1 (is (j := 4) rfl (by decide)) (pa_is1 (is (j := 5) rfl (by decide)) pa_is0)))) ?_
  refine pss_cons (ps_kin2 nd n1 l1 (by decide) (by decide) (pa_is1 (is (j := 6) rfl (by decide)) (pa_is1 (is (j := 7) rfl (by decide)) (pa_is1 (is (j := 8) rfl (by decide)) pa_is0)))) ?_
  refine pss_cons (ps_kin2 nd n1 l1 (by decide) (by decide) (pa_is1 (is (j := 9) rfl (by decide)) (pa_is1 (is (j := 10) rfl (by decide)) (pa_is1 (is (j := 11) rfl (by decide)) pa_is0)))) ?_
  refine pss_cons (ps_kin2 nd n1 l1 (by decide) (by decide) (pa_is1 (is (j := 12) rfl (by decide)) (pa_is1 (pe_isv k (gl _ (by decide)) (gl _ (by decide)) n0 (.inl l0) (by decide) (by decide)) pa_is0))) ?_
  refine pss_cons (ps_set nd n2 (.inl l2) pe_str rfl (.inr l2)) ?_
  exact pss_one (ps_kin3 k.h1 k.hp nd n1 n2 n3 n4 l1 l2 (by decide) (by decide) (by decide) (by decide) (gl _ (by decide)) (by rw [k.mg]; exact k.bl _ (by decide)) (blkOk_by (by rw [hN, hs]; decide +kernel)) (by decide +kernel) (by decide +kernel) (by decide +kernel) (by decide +kernel))
theorem try_body (Γ : Gm) (X : Cx) (g : Addr) (cdg : Value) (q : Str) (h1 : X.K = Γ.K) (h2 : X.mg = Γ.mg) (kf : KinF Γ X.prog X.w X.base) (hr : Room 2 X.A) (m1 : ∃ C, Γ.mg ("InvalidText" : Str) = some (.ref C)) (m2 : ∃ C, Γ.mg ("TooMany" : Str) = some (.ref C)) (m3 : ∃ C, Γ.mg ("HabitError" : Str) = some (.ref C)) :
    GivesN X tryN ("_law_try" : Str) dt22.scope g cdg dt22.body ("call_so" : Str) q (TTry Γ) :=
  try_gives (X := X) h1 h2 kf hr (scB_ok (by decide +kernel)) (by decide +kernel) (by decide +kernel) (by decide +kernel) (by decide +kernel) (by decide +kernel) (by decide +kernel) (by decide +kernel) m1 m2 m3
theorem tryd : TryD ld where
  ex := ⟨dt21, dt22, List.mem_of_getElem? (i := 21) rfl, List.mem_of_getElem? (i := 22) rfl, rfl, rfl, rfl, rfl, fun _ _ _ _ _ _ us hl => match us, hl with | [_], _ => rfl, fun _ _ _ _ _ _ us hl => match us, hl with | [_], _ => rfl, by decide +kernel, by decide +kernel, by decide +kernel,
    fun Γ Da bs p X k hb hN hs => kin_body k hb hN hs, try_body⟩
  nmK := ⟨21, by decide, rfl⟩
  nmT := ⟨22, by decide, rfl⟩
  cls := by decide +kernel

theorem oks : ∀ f ∈ ld.fs, DefOk ld f := List.forall_mem_cons.mpr ⟨ok0, List.forall_mem_cons.mpr ⟨ok1, List.forall_mem_cons.mpr ⟨ok2, List.forall_mem_cons.mpr ⟨ok3, List.forall_mem_cons.mpr ⟨ok4, List.forall_mem_cons.mpr ⟨ok5, List.forall_mem_cons.mpr ⟨ok6, List.forall_mem_cons.mpr ⟨ok7, List.forall_mem_cons.mpr ⟨ok8, List.forall_mem_cons.mpr ⟨ok9, List.forall_mem_cons.mpr ⟨ok10, List.forall_mem_cons.mpr ⟨ok11, List.forall_mem_cons.mpr ⟨ok12, List.forall_mem_cons.mpr ⟨ok13, List.forall_mem_cons.mpr ⟨ok14, List.forall_mem_cons.mpr ⟨ok15, List.forall_mem_cons.mpr ⟨ok16, List.forall_mem_cons.mpr ⟨ok17, List.forall_mem_cons.mpr ⟨ok18, List.forall_mem_cons.mpr ⟨ok19, List.forall_mem_cons.mpr ⟨ok20, List.forall_mem_cons.mpr ⟨ok23, List.forall_mem_cons.mpr ⟨ok24, List.forall_mem_cons.mpr ⟨ok25, List.forall_mem_cons.mpr ⟨ok26, List.forall_mem_cons.mpr ⟨ok27, List.forall_mem_cons.mpr ⟨ok28, List.forall_mem_cons.mpr ⟨ok29, List.forall_mem_cons.mpr ⟨ok30, List.forall_mem_cons.mpr ⟨ok31, List.forall_mem_cons.mpr ⟨ok32, (fun x hx => absurd hx List.not_mem_nil)⟩⟩⟩⟩⟩⟩⟩⟩⟩⟩⟩⟩⟩⟩⟩⟩⟩⟩⟩⟩⟩⟩⟩⟩⟩⟩⟩⟩⟩⟩⟩
theorem lok : LawOk ld where
  defs := oks
  tryd := fun _ => tryd
  glb := fun p hp => by
    revert p
    simp only [ld, List.forall_mem_cons, List.not_mem_nil, false_imp_iff, implies_true, and_true]
    exact ⟨rfl, rfl⟩
  glf := fun i hi => by
    have : ∀ i, i < 33 → glL i = .gl i := by
      intro i hi
      unfold glL
      split <;> first | omega | rfl
    exact this i hi
  arr := fun g n h => by
    have h : arL g = some n := h
    unfold arL at h
    split at h <;> first | (cases h; exact ⟨by decide, rfl⟩) | cases h
  arc := fun g n h => by
    have h : arcL g = some n := h
    unfold arcL at h
    split at h <;> first | (cases h; exact ⟨by decide, rfl⟩) | cases h
  los := by decide
  cfs := by decide
  kin := fun c w b h => by
    have h : kinL c = some (w, b) := h
    unfold kinL at h
    split at h <;> first | (cases h; exact ⟨rfl, by decide, by decide, by decide, by decide +kernel, by decide +kernel⟩) | cases h
  esc := by decide
end Hb

namespace Hb
open PySem PySem.Spec PyProof.Rows L2
abbrev R : PySem.W.OpenRow := PySem.W.OpenLaw.row PySem.Challenge.rw_habitrow_k05_guests_who_change_places_or
abbrev hk : PySem.W.Hook := He.hookX 5 ld.fa ld.fn [] ld.tfs ld.ex
def ob (s : PySem.W.SharedT) : He.AlX := He.obsX 5 ld.fa ld.fn [] ld.tfs ld.ex (HandSHeadRun.getT s)
theorem ob_eq (s : PySem.W.SharedT) : ob s = hk.obs s.abs := He.obsX_eq (HandSHeadRun.getT_eq s)
def loose0 : List Str := [("is_within" : Str), ("has_items" : Str), ("is_habit" : Str), ("is_mood" : Str), ("is_guest_value" : Str), ("is_row_value" : Str), ("need_row" : Str), ("begin_of" : Str), ("dish" : Str), ("first_apart" : Str), ("as_told" : Str), ("exchanged" : Str), ("without" : Str), ("swapped" : Str), ("fewer" : Str), ("exchangeable" : Str), ("needless" : Str), ("_law_deck" : Str), ("_law_pick" : Str), ("_law_sort" : Str)]
def loose1 : List Str := [("_law_same" : Str), ("_law_kin" : Str), ("_law_try" : Str), ("_law_a_guest" : Str), ("_law_a_row" : Str), ("_law_sent" : Str), ("_law_first" : Str), ("_law_known" : Str), ("_law_named" : Str), ("_law_takes_same" : Str), ("_law_due" : Str), ("_law_choosy" : Str), ("HabitError" : Str), ("InvalidRow" : Str), ("InvalidStream" : Str), ("InvalidGuest" : Str), ("InvalidKinds" : Str), ("InvalidLot" : Str), ("InvalidNumber" : Str), ("InvalidPaper" : Str)]
def loose2 : List Str := [("InvalidIndex" : Str), ("Impossible" : Str), ("Unlike" : Str), ("NothingToUndo" : Str), ("TooMany" : Str), ("InvalidText" : Str), ("MOST_MOODS" : Str), ("MOST_GUESTS" : Str)]
def loose : List Str := loose0 ++ loose1 ++ loose2
theorem run (w : World) : HandSHeadRun.RunEq R (PySem.W.view R.prog [52]) hk ob 9000 loose w := by
  intro os
  kernel_rfl
end Hb

open PySem PySem.W PySem.Calls PyProof.Rows
theorem PySem.Challenge.cw_habitrow_k05_guests_who_change_places_or_holds : PySem.Challenge.rw_habitrow_k05_guests_who_change_places_or.Holds := by
  w_on; o_law
  refine HandSHeadRun.head_any (r := OpenLaw.row PySem.Challenge.rw_habitrow_k05_guests_who_change_places_or) (q := view (OpenLaw.row PySem.Challenge.rw_habitrow_k05_guests_who_change_places_or).prog [52]) (H := Hb.hk) (ob := Hb.ob) (M := 9000) (loose := Hb.loose) (d := HandSHeadRun.topDef (OpenLaw.row PySem.Challenge.rw_habitrow_k05_guests_who_change_places_or).prog 52) (kwd := []) Hb.ob_eq
    (by kernel_rfl) (fun s => by kernel_rfl) Hb.run (by kernel_rfl) (by kernel_rfl) (by kernel_rfl) (by rfl) (by first | assumption | decide +kernel) (by decide +kernel) ⟨rfl, rfl, rfl, rfl, rfl, by decide +kernel⟩ ?hw ?hc
  case hw => w_witness2
  case hc =>
    refine LamX.walk_ofTsE (l := PySem.Challenge.rw_habitrow_k05_guests_who_change_places_or) (n := 63) (k := 3 * Hb.LV + 3) (x := "script") (CX := fun w => L2N.CX PySem.Challenge.rw_habitrow_k05_guests_who_change_places_or.prog w) rfl (by decide) (by kernel_rfl) ⟨rfl, by decide, by decide⟩ ?F ?X
    case X => exact fun w H s e s' ⟨a, B, H', cls, d, _, _, _, _, _, _, _, z⟩ => z
    case F =>
      intro w mg fa h Y G hmg0
      obtain ⟨K, KX, c⟩ := Y
      have hmg : mg ("law" : PySem.Str) = some (.ref fa) := by
        have e : (HandSHeadRun.topDef (OpenLaw.row PySem.Challenge.rw_habitrow_k05_guests_who_change_places_or).prog 52).name = ("law" : PySem.Str) := by kernel_rfl
        rw [← e]
        exact hmg0
      exact ⟨K, KX, Hb.law_at (D := Hb.ld) (lv := Hb.LV) (f := 32) (d := Hb.dt32) Hb.lok (by decide) rfl rfl rfl Hb.plain c KX G hmg⟩

