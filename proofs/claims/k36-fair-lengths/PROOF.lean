import PyProof.Rows.All
import Wide.All
import OpenK.AllK
import Wide.FinOn
import HandS.ForMost
import HandS.ForExc
import HandS.CallSlots
import HandS.Defaults
import HandS.Wide
import HandS.TupAny
import HandS.Style
import HandS.IsInst
import HandS.SortInts
import HandS.Conv
import HandS.Zip
import KE.KTupSum
import KE.DataMinMax
import HandS.Walk
import PyProof.ReprRoads
import HandS.Head0
import HandS.Head1
import HandS.Head2
import HandS.HeadEnd
import HandS.HeadHook1
import HandS.HeadHook2
import HandS.EndBits
import PySem.Challenge.RW_sunstrings_k36_what_shows_fair_lengths
set_option Elab.async false
set_option linter.all false
/-! PvCore: plain data, the core text of a def, its evaluation (no program in sight). -/
namespace PV

/-- a value of Python as plain data; identity of tuples, lists, dicts plays no part -/
inductive D where
  | non
  | bl (b : Bool)
  | int (i : Int)
  | str (x : List Nat)
  | tup (xs : List D)
  | lst (xs : List D)
  | dct (kvs : List (D × D))
  | obj (c : Nat) (fs : List D)
  | exc (c : Nat) (v : D)
  /-- the script: a list that is read alone -/
  | scr (ns : List Int)

/-- what a name holds: plain data (never changed), or a list (a dict, an instance) that this frame alone holds and may change -/
inductive P where
  | val (d : D)
  | lst (ps : List P)
  | dct (kvs : List (D × D))
  | obj (c : Nat) (fs : List (Option P))

mutual
def P.fr : P → D
  | .val d => d
  | .lst ps => .lst (frs ps)
  | .dct kvs => .dct kvs
  | .obj c fs => .obj c (frO fs)
def frs : List P → List D
  | [] => []
  | p :: ps => p.fr :: frs ps
def frO : List (Option P) → List D
  | [] => []
  | some p :: ps => p.fr :: frO ps
  | none :: ps => frO ps
end
/-- all items plain -/
def flat : List P → Option (List D)
  | [] => some []
  | .val d :: ps => (flat ps).map (d :: ·)
  | _ :: _ => none
def vals (ds : List D) : List P := ds.map P.val

abbrev Rho := List (Option P)

inductive Out (σ α : Type) where
  | ok (a : α) (s : σ)
  | exc (c : Nat) (d : D) (s : σ)
  | bad
def Out.bind {σ α β : Type} (x : Out σ α) (f : α → σ → Out σ β) : Out σ β := match x with
  | .ok a s => f a s
  | .exc c d s => .exc c d s
  | .bad => .bad
@[simp] theorem Out.bind_ok {σ α β : Type} (a : α) (s : σ) (f : α → σ → Out σ β) : (Out.ok a s).bind f = f a s := rfl
@[simp] theorem Out.bind_exc {σ α β : Type} (c : Nat) (d : D) (s : σ) (f : α → σ → Out σ β) : (Out.exc c d s : Out σ α).bind f = .exc c d s := rfl
@[simp] theorem Out.bind_bad {σ α β : Type} (f : α → σ → Out σ β) : (Out.bad : Out σ α).bind f = .bad := rfl
/-- no error is let through -/
def Out.calm {σ α : Type} (x : Out σ α) : Out σ α := match x with
  | .exc _ _ _ => .bad
  | y => y

/-! ### operations on plain data -/
def b2i (b : Bool) : Int := if b then 1 else 0
mutual
/-- == of None, bools, ints, texts, tuples, lists -/
def eqv : D → D → Bool
  | .non, .non => true
  | .bl a, .bl b => a == b
  | .bl a, .int j => b2i a == j
  | .int i, .bl b => i == b2i b
  | .int i, .int j => i == j
  | .str x, .str y => x == y
  | .tup xs, .tup ys => eqvs xs ys
  | .lst xs, .lst ys => eqvs xs ys
  | _, _ => false
def eqvs : List D → List D → Bool
  | [], [] => true
  | x :: xs, y :: ys => eqv x y && eqvs xs ys
  | _, _ => false
end
def okStr (x : List Nat) : Bool := x.all fun c => decide (c < 1114112)
mutual
/-- plain data through and through -/
def dat : D → Bool
  | .non => true | .bl _ => true | .int _ => true
  | .str x => okStr x
  | .tup xs => dats xs
  | .lst xs => dats xs
  | _ => false
def dats : List D → Bool
  | [] => true
  | x :: xs => dat x && dats xs
end
mutual
/-- how deep -/
def dep : D → Nat
  | .tup xs => deps xs + 1
  | .lst xs => deps xs + 1
  | _ => 0
def deps : List D → Nat
  | [] => 0
  | x :: xs => max (dep x) (deps xs)
end
/-- the greatest length -/
abbrev line : Nat := 16777216
/-- an index, as Python takes it -/
def atI {α : Type} (xs : List α) (i : Int) : Option α := if 0 ≤ i then xs[i.toNat]? else if 0 ≤ (xs.length : Int) + i then xs[((xs.length : Int) + i).toNat]? else none
/-- the place of a slice's end -/
def clip (n : Nat) (i : Int) : Nat := if 0 ≤ i then min i.toNat n else ((n : Int) + i).toNat
/-- xs[lo:hi] -/
def cut {α : Type} (xs : List α) (lo hi : Option Int) : List α :=
  let a := match lo with
    | some i => clip xs.length i
    | none => 0
  let b := match hi with
    | some j => clip xs.length j
    | none => xs.length
  (xs.take b).drop a
def dInts : List D → Option (List Int)
  | [] => some []
  | .int i :: ds => (dInts ds).map (i :: ·)
  | _ :: _ => none
def dStrs : List D → Option (List (List Nat))
  | [] => some []
  | .str x :: ds => (dStrs ds).map (x :: ·)
  | _ :: _ => none
def bls : List D → Option (List Bool)
  | [] => some []
  | .bl b :: ds => (bls ds).map (b :: ·)
  | _ :: _ => none
/-- the kinds that isinstance is asked for -/
inductive Ki where
  | int | bl | str | tup | lst | dct | cls (c : Nat)
/-- which classes of one's own lie below one another: told by a table -/
abbrev Sub := Nat → Nat → Bool
def isKi (sub : Sub) : D → Ki → Bool
  | .int _, .int => true
  | .bl _, .int => true
  | .bl _, .bl => true
  | .str _, .str => true
  | .tup _, .tup => true
  | .lst _, .lst => true
  | .scr _, .lst => true
  | .dct _, .dct => true
  | .obj c _, .cls k => sub c k
  | .exc c _, .cls k => sub c k
  | _, _ => false

def natDigits (n : Nat) : List Nat := (Nat.toDigits 10 n).map Char.toNat
/-- str(i) -/
def intStr (i : Int) : List Nat := match i with
  | .ofNat n => natDigits n
  | .negSucc n => 45 :: natDigits (n + 1)

inductive Op where
  | add | sub | mul | fdiv | mod | pow | neg
  | lt | le | gt | ge | eq | ne | isin | notin | isN | notN | isT | notT
  | len | abs | int | str | tuple | list | sum | max | min | sorted | all | any | repr | bool
  | isi (k : Ki)
  | at | slice | slLo | slHi | slAll | rev
  | listRange | listZip | lenSet | join | split

/-- may the factors be multiplied here -/
def okMul (i j : Int) : Bool := decide (i.natAbs.log2 + j.natAbs.log2 < 1000000)
def okDiv (j : Int) : Bool := decide (j ≠ 0) && decide (j.natAbs.log2 < 9000)
def intBits (i : Int) : Nat := if i = 0 then 0 else i.natAbs.log2 + 1
def okPow (i j : Int) : Bool := decide (0 ≤ j) && decide ((intBits i : Int) * j ≤ 134217728)
def okLen (n : Nat) : Bool := decide (n ≤ line)
def okTimes (n : Nat) (j : Int) : Bool := okLen (n * j.toNat) && (decide (-(2 ^ 63) ≤ j) && decide (j < 2 ^ 63))
def when_ (b : Bool) (d : D) : Option D := if b then some d else none

def opAdd : D → D → Option D
  | .int i, .int j => some (.int (i + j))
  | .str x, .str y => when_ (okLen (x.length + y.length)) (.str (x ++ y))
  | .lst xs, .lst ys => when_ (okLen (xs.length + ys.length)) (.lst (xs ++ ys))
  | .tup xs, .tup ys => when_ (okLen (xs.length + ys.length)) (.tup (xs ++ ys))
  | _, _ => none
def opMul : D → D → Option D
  | .int i, .int j => when_ (okMul i j) (.int (i * j))
  | .lst xs, .int j => when_ (okTimes xs.length j) (.lst (List.replicate j.toNat xs).flatten)
  | _, _ => none
def opI (f : Int → Int → D) : D → D → Option D
  | .int i, .int j => some (f i j)
  | _, _ => none
def opIc (c : Int → Int → Bool) (f : Int → Int → D) : D → D → Option D
  | .int i, .int j => when_ (c i j) (f i j)
  | _, _ => none
def cmpOk (a : D) : Bool := dat a && decide (dep a ≤ 64)
def opEq (neg : Bool) (a b : D) : Option D := when_ (cmpOk a && cmpOk b) (.bl (xor neg (eqv a b)))
def seq? : D → Option (List D)
  | .tup xs => some xs
  | .lst xs => some xs
  | _ => none
/-- the text of a value, as repr tells it: a function of the data, left open -/
def opAt : D → D → Option D
  | .scr ns, .int i => (atI ns i).map .int
  | .tup xs, .int i => atI xs i
  | .lst xs, .int i => atI xs i
  | .str x, .int i => if okLen x.length then (atI x i).map fun c => .str [c] else none
  | _, _ => none
def opSlice (lo hi : Option Int) : D → Option D
  | .tup xs => some (.tup (cut xs lo hi))
  | .lst xs => some (.lst (cut xs lo hi))
  | .str x => when_ (okLen x.length) (.str (cut x lo hi))
  | _ => none
def ins (i : Int) : List Int → List Int
  | [] => [i]
  | j :: r => if i ≤ j then i :: j :: r else j :: ins i r
def isort : List Int → List Int
  | [] => []
  | i :: r => ins i (isort r)
def maxL : Int → List Int → Int
  | m, [] => m
  | m, i :: r => maxL (if i > m then i else m) r
def minL : Int → List Int → Int
  | m, [] => m
  | m, i :: r => minL (if i < m then i else m) r
def sumL : List Int → Int
  | [] => 0
  | i :: r => i + sumL r
def iota (n : Nat) : List D := (List.range n).map fun (k : Nat) => D.int (k : Int)

/-- what an operation gives; rp: what repr tells of data -/
def prim (rp : D → Option (List Nat)) (sub : Sub) : Op → List D → Option D
  | .add, [a, b] => opAdd a b
  | .sub, [a, b] => opI (fun i j => .int (i - j)) a b
  | .mul, [a, b] => opMul a b
  | .fdiv, [a, b] => opIc (fun _ j => okDiv j) (fun i j => .int (i.fdiv j)) a b
  | .mod, [a, b] => opIc (fun _ j => decide (j ≠ 0)) (fun i j => .int (i.fmod j)) a b
  | .pow, [a, b] => opIc okPow (fun i j => .int (i ^ j.toNat)) a b
  | .neg, [.int i] => some (.int (-i))
  | .lt, [a, b] => opI (fun i j => .bl (decide (i < j))) a b
  | .le, [a, b] => opI (fun i j => .bl (decide (i ≤ j))) a b
  | .gt, [a, b] => opI (fun i j => .bl (decide (j < i))) a b
  | .ge, [a, b] => opI (fun i j => .bl (decide (j ≤ i))) a b
  | .eq, [a, b] => opEq false a b
  | .ne, [a, b] => opEq true a b
  | .isN, [a] => some (.bl (match a with | .non => true | _ => false))
  | .notN, [a] => some (.bl (match a with | .non => false | _ => true))
  | .isT, [a] => (match a with | .bl b => some (.bl b) | _ => none)
  | .notT, [a] => (match a with | .bl b => some (.bl (!b)) | _ => none)
  | .len, [a] => (match a with | .scr ns => some (.int ns.length) | .tup xs => some (.int xs.length) | .lst xs => some (.int xs.length) | .str x => when_ (okLen x.length) (.int x.length) | _ => none)
  | .abs, [.int i] => some (.int (if i < 0 then -i else i))
  | .int, [a] => (match a with | .int i => some (.int i) | .bl b => some (.int (b2i b)) | _ => none)
  | .str, [.int i] => when_ (decide (i.natAbs.log2 < 1920)) (.str (intStr i))
  | .tuple, [a] => (seq? a).map .tup
  | .list, [a] => (seq? a).map .lst
  | .sum, [a] => ((seq? a).bind dInts).map fun is => .int (sumL is)
  | .max, [.int i, .int j] => some (.int (if j > i then j else i))
  | .min, [.int i, .int j] => some (.int (if j < i then j else i))
  | .max, [a] => (match (seq? a).bind dInts with | some (i :: r) => some (.int (maxL i r)) | _ => none)
  | .min, [a] => (match (seq? a).bind dInts with | some (i :: r) => some (.int (minL i r)) | _ => none)
  | .sorted, [a] => ((seq? a).bind dInts).map fun is => .lst ((isort is).map .int)
  | .all, [.lst xs] => (bls xs).map fun bs => .bl (bs.all id)
  | .any, [.lst xs] => (bls xs).map fun bs => .bl (bs.any id)
  | .repr, [a] => (rp a).map .str
  | .isi k, [a] => some (.bl (isKi sub a k))
  | .at, [a, i] => opAt a i
  | .slice, [a, .int lo, .int hi] => opSlice (some lo) (some hi) a
  | .slLo, [a, .int lo] => opSlice (some lo) none a
  | .slHi, [a, .int hi] => opSlice none (some hi) a
  | .slAll, [a] => opSlice none none a
  | .rev, [a] => (match a with | .tup xs => some (.tup xs.reverse) | .lst xs => some (.lst xs.reverse) | _ => none)
  | .listRange, [.int n] => when_ (decide (0 ≤ n) && decide (n ≤ 1000000)) (.lst (iota n.toNat))
  | _, _ => none

/-! ### the core text -/
/-- a target -/
inductive CT where
  | name (i : Nat)
  | two (a b : CT)
mutual
inductive CE where
  /-- a name's value; what this frame alone held is plain from then on -/
  | var (i : Nat)
  /-- a name's value, looked at by an operation and not held further -/
  | look (i : Nat)
  | con (d : D)
  | op (o : Op) (as : CEs)
  | and (a b : CE) | or (a b : CE) | not (a : CE) | ite (t a b : CE)
  | tup (as : CEs) | lst (as : CEs)
  /-- the empty dict -/
  | dct0
  /-- a call: what is written, then defaults -/
  | call (f : Nat) (as : CEs) (ds : List D)
  /-- a call whose first argument is the name i, which it may change -/
  | callM (f i : Nat) (as : CEs)
  | pop (i : Nat) (a : CE)
  /-- [e for t in it if c] -/
  | lc (t : CT) (it : CI) (c : CE) (e : CE)
inductive CEs where
  | nil
  | cons (e : CE) (es : CEs)
/-- what is walked -/
inductive CI where
  | seq (e : CE)
  | range (a b : CE)
  | enum (e : CE)
  | zip (a b : CE)
end
mutual
inductive CS where
  | asg (i : Nat) (e : CE)
  /-- a tuple's parts to two targets -/
  | asg2 (a b : CT) (e : CE)
  /-- i, j = e, f -/
  | par (i j : Nat) (e f : CE)
  | put (i : Nat) (ix e : CE)
  | app (i : Nat) (e : CE) | ext (i : Nat) (e : CE)
  | aug (i : Nat) (e : CE)
  | exp (e : CE)
  | ret (e : CE)
  | pass
  | if_ (t : CE) (a b : CSs)
  | for_ (t : CT) (it : CI) (b : CSs)
  | while_ (t : CE) (b : CSs)
  /-- nothing is told of it -/
  | never
inductive CSs where
  | nil
  | cons (s : CS) (ss : CSs)
end

/-! ### evaluation -/
/-- what a def does: its arguments, by level; what it gives, and what its first argument is then -/
abbrev Fns := Nat → List P → Out (Option P) P
structure Env where
  rp : D → Option (List Nat)
  sub : Sub
  fn : Fns

/-- a name's value as an operation looks at it -/
def lookAt (ρ : Rho) (i : Nat) : Option D := match ρ[i]? with
  | some (some (.val d)) => some d
  | some (some (.lst ps)) => (flat ps).map .lst
  | _ => none
def rdVar (ρ : Rho) (i : Nat) : Out Rho P := match ρ[i]? with
  | some (some (.val d)) => .ok (.val d) ρ
  | some (some p) => .ok (.val p.fr) (ρ.set i (some (.val p.fr)))
  | _ => .bad
mutual
/-- no call, no change of a list: what is looked at stands as it was -/
def CE.quiet : CE → Bool
  | .var _ => true
  | .look _ => true
  | .con _ => true
  | .op _ as => as.quiet
  | .tup as => as.quiet
  | .lst as => as.quiet
  | _ => false
def CEs.quiet : CEs → Bool
  | .nil => true
  | .cons e es => e.quiet && es.quiet
end
/-- an operation's end: what it lays anew is this frame's own -/
def ofD (lays : Bool) (ρ : Rho) : Option D → Out Rho P
  | some (.lst xs) => if lays then .ok (.lst (vals xs)) ρ else .ok (.val (.lst xs)) ρ
  | some d => .ok (.val d) ρ
  | none => .bad
def setT : CT → D → Rho → Option Rho
  | .name i, d, ρ => if i < ρ.length then some (ρ.set i (some (.val d))) else none
  | .two a b, .tup [x, y], ρ => (setT a x ρ).bind fun ρ1 => setT b y ρ1
  | .two _ _, _, _ => none
/-- the places of a target -/
def CT.ix : CT → List Nat
  | .name i => [i]
  | .two a b => a.ix ++ b.ix
def wipe (ρ : Rho) : List Nat → Rho
  | [] => ρ
  | i :: r => (wipe ρ r).set i none
/-- the turns of a comprehension: ρ goes from turn to turn -/
def loopC (turn : D → Rho → Out Rho (Option P)) : List D → List P → Rho → Out Rho (List P)
  | [], acc, ρ => .ok acc.reverse ρ
  | d :: ds, acc, ρ => (turn d ρ).bind fun r ρ1 => match r with
    | some p => loopC turn ds (p :: acc) ρ1
    | none => loopC turn ds acc ρ1
/-- fresh lists: what an operation lays anew -/
def Op.lays : Op → Bool
  | .list => true | .sorted => true | .listRange => true
  | _ => false
def iotaFrom (a : Int) (n : Nat) : List D := (List.range n).map fun (k : Nat) => D.int (a + (k : Int))
def numbered : Nat → List D → List D
  | _, [] => []
  | k, d :: ds => .tup [.int (k : Int), d] :: numbered (k + 1) ds
def paired : List D → List D → List D
  | d :: ds, e :: es => .tup [d, e] :: paired ds es
  | _, _ => []
def okRange (i : Int) : Bool := decide (-(2 ^ 62) ≤ i) && decide (i < 2 ^ 62)

/-- a list that this frame alone holds -/
def held (ρ : Rho) (i : Nat) : Bool := match ρ[i]? with
  | some (some (.lst _)) => true
  | _ => false
/-- a test's way -/
def onB {α : Type} (p : P) (x y : Out Rho α) : Out Rho α := match p with
  | .val (.bl true) => x
  | .val (.bl false) => y
  | _ => .bad

mutual
def ev (F : Env) : CE → Rho → Out Rho P
  | .var i, ρ => rdVar ρ i
  | .look _, _ => .bad
  | .con d, ρ => .ok (.val d) ρ
  | .op o as, ρ => (evA F as ρ).bind fun ds ρ1 => ofD o.lays ρ1 (prim F.rp F.sub o ds)
  | .and a b, ρ => (ev F a ρ).bind fun p ρ1 => onB p (ev F b ρ1) (.ok (.val (.bl false)) ρ1)
  | .or a b, ρ => (ev F a ρ).bind fun p ρ1 => onB p (.ok (.val (.bl true)) ρ1) (ev F b ρ1)
  | .not a, ρ => (ev F a ρ).bind fun p ρ1 => onB p (.ok (.val (.bl false)) ρ1) (.ok (.val (.bl true)) ρ1)
  | .ite t a b, ρ => (ev F t ρ).bind fun p ρ1 => onB p (ev F a ρ1) (ev F b ρ1)
  | .tup as, ρ => (evPs F as ρ).bind fun ps ρ1 => if okLen ps.length then .ok (.val (.tup (frs ps))) ρ1 else .bad
  | .lst as, ρ => (evPs F as ρ).bind fun ps ρ1 => if okLen ps.length then .ok (.lst ps) ρ1 else .bad
  | .dct0, ρ => .ok (.dct []) ρ
  | .call f as ds, ρ => (evPs F as ρ).bind fun ps ρ1 => match F.fn f (ps ++ vals ds) with
    | .ok p _ => .ok p ρ1
    | .exc c d _ => .exc c d ρ1
    | .bad => .bad
  | .callM f i as, ρ => if !held ρ i then .bad else (evPs F as ρ).bind fun ps ρ1 => match ρ1[i]? with
    | some (some (.lst qs)) => (match F.fn f (.lst qs :: ps) with
      | .ok p (some q) => .ok p (ρ1.set i (some q))
      | .exc c d (some q) => .exc c d (ρ1.set i (some q))
      | _ => .bad)
    | _ => .bad
  | .pop i a, ρ => if !held ρ i then .bad else (ev F a ρ).bind fun p ρ1 => match p, ρ1[i]? with
    | .val (.int k), some (some (.lst ps)) => if decide (0 ≤ k) && decide (k < 2 ^ 62) then (match ps[k.toNat]? with
        | some p => .ok p (ρ1.set i (some (.lst (ps.eraseIdx k.toNat))))
        | none => .bad) else .bad
    | _, _ => .bad
  | .lc t it c e, ρ => (evI F it ρ).bind fun ds ρ1 => if !okLen ds.length then .bad else
      (loopC (fun d ρ => match setT t d ρ with
        | some ρ2 => ((ev F c ρ2).bind fun b ρ3 => onB b ((ev F e ρ3).bind fun p ρ4 => .ok (some p) (wipe ρ4 t.ix)) (.ok none (wipe ρ3 t.ix))).calm
        | none => .bad) ds [] (wipe ρ1 t.ix)).bind fun ps ρ2 => .ok (.lst ps) ρ2
/-- what an operation takes -/
def evA (F : Env) : CEs → Rho → Out Rho (List D)
  | .nil, ρ => .ok [] ρ
  | .cons e es, ρ => match e with
    | .look i => (match lookAt ρ i with
      | some d => if es.quiet then (evA F es ρ).bind fun ds ρ1 => .ok (d :: ds) ρ1 else .bad
      | none => .bad)
    | e => (ev F e ρ).bind fun p ρ1 => (evA F es ρ1).bind fun ds ρ2 => .ok (p.fr :: ds) ρ2
/-- what a call, a list takes -/
def evPs (F : Env) : CEs → Rho → Out Rho (List P)
  | .nil, ρ => .ok [] ρ
  | .cons e es, ρ => (ev F e ρ).bind fun p ρ1 => (evPs F es ρ1).bind fun ps ρ2 => .ok (p :: ps) ρ2
def evI (F : Env) : CI → Rho → Out Rho (List D)
  | .seq e, ρ => (ev F e ρ).bind fun p ρ1 => match seq? p.fr with
    | some ds => .ok ds ρ1
    | none => .bad
  | .range a b, ρ => (ev F a ρ).bind fun x ρ1 => (ev F b ρ1).bind fun y ρ2 => match x, y with
    | .val (.int i), .val (.int j) => if okRange i && okRange j then .ok (iotaFrom i (j - i).toNat) ρ2 else .bad
    | _, _ => .bad
  | .enum e, ρ => (ev F e ρ).bind fun p ρ1 => match p.fr with
    | .lst ds => .ok (numbered 0 ds) ρ1
    | _ => .bad
  | .zip a b, ρ => (ev F a ρ).bind fun x ρ1 => (ev F b ρ1).bind fun y ρ2 => match x.fr, y.fr with
    | .tup ds, .tup es => .ok (paired ds es) ρ2
    | .lst ds, .lst es => .ok (paired ds es) ρ2
    | _, _ => .bad
end

/-- how a statement ends -/
inductive Fl where
  | nx | rt (p : P)
def loopF (turn : D → Rho → Out Rho Fl) : List D → Rho → Out Rho Fl
  | [], ρ => .ok .nx ρ
  | d :: ds, ρ => (turn d ρ).bind fun f ρ1 => match f with
    | .nx => loopF turn ds ρ1
    | .rt p => .ok (.rt p) ρ1
def loopW (test : Rho → Out Rho P) (body : Rho → Out Rho Fl) : Nat → Rho → Out Rho Fl
  | 0, _ => .bad
  | n + 1, ρ => (test ρ).bind fun p ρ1 => onB p ((body ρ1).bind fun f ρ2 => match f with
    | .nx => loopW test body n ρ2
    | .rt p => .ok (.rt p) ρ2) (.ok .nx ρ1)
def fuel : Nat := 1000000
def setP (ρ : Rho) (i : Nat) (p : P) : Out Rho Fl := if i < ρ.length then .ok .nx (ρ.set i (some p)) else .bad

mutual
def evS (F : Env) : CS → Rho → Out Rho Fl
  | .asg i e, ρ => (ev F e ρ).bind fun p ρ1 => setP ρ1 i p
  | .asg2 a b e, ρ => (ev F e ρ).bind fun p ρ1 => match setT (.two a b) p.fr ρ1 with
    | some ρ2 => .ok .nx ρ2
    | none => .bad
  | .par i j e f, ρ => (evPs F (.cons e (.cons f .nil)) ρ).bind fun ps ρ1 => match ps with
    | [p, q] => if decide (i ≠ j) then (setP ρ1 i p).bind fun _ ρ2 => setP ρ2 j q else .bad
    | _ => .bad
  | .put i ix e, ρ => (ev F e ρ).bind fun p ρ1 => if !held ρ1 i then .bad else (ev F ix ρ1).bind fun k ρ2 => match k, ρ2[i]? with
    | .val (.int k), some (some (.lst ps)) => if decide (0 ≤ k) && decide (k.toNat < ps.length) then .ok .nx (ρ2.set i (some (.lst (ps.set k.toNat p)))) else .bad
    | _, _ => .bad
  | .app i e, ρ => if !held ρ i then .bad else (ev F e ρ).bind fun p ρ1 => match ρ1[i]? with
    | some (some (.lst ps)) => if decide (ps.length < line) then .ok .nx (ρ1.set i (some (.lst (ps ++ [p])))) else .bad
    | _ => .bad
  | .ext i e, ρ => if !held ρ i then .bad else (ev F e ρ).bind fun p ρ1 => match p.fr, ρ1[i]? with
    | .lst ds, some (some (.lst ps)) => if decide (ps.length + ds.length ≤ line) then .ok .nx (ρ1.set i (some (.lst (ps ++ vals ds)))) else .bad
    | _, _ => .bad
  | .aug i e, ρ => if (ρ[i]?).join.isNone then .bad else (ev F e ρ).bind fun p ρ1 => match p, ρ1[i]? with
    | .val (.int k), some (some (.val (.int n))) => .ok .nx (ρ1.set i (some (.val (.int (n + k)))))
    | _, _ => .bad
  | .exp e, ρ => (ev F e ρ).bind fun _ ρ1 => .ok .nx ρ1
  | .ret e, ρ => (match e with
    | .var i => (match ρ[i]? with
      | some (some p) => .ok (.rt p) (ρ.set i none)
      | _ => .bad)
    | e => (ev F e ρ).bind fun p ρ1 => .ok (.rt p) ρ1)
  | .pass, ρ => .ok .nx ρ
  | .if_ t a b, ρ => (ev F t ρ).bind fun p ρ1 => onB p (evSs F a ρ1) (evSs F b ρ1)
  | .for_ t it b, ρ => (evI F it ρ).bind fun ds ρ1 => loopF (fun d ρ => match setT t d ρ with
    | some ρ2 => evSs F b ρ2
    | none => .bad) ds ρ1
  | .while_ t b, ρ => loopW (ev F t) (evSs F b) fuel ρ
  | .never, _ => .bad
def evSs (F : Env) : CSs → Rho → Out Rho Fl
  | .nil, ρ => .ok .nx ρ
  | .cons s ss, ρ => (evS F s ρ).bind fun f ρ1 => match f with
    | .nx => evSs F ss ρ1
    | .rt p => .ok (.rt p) ρ1
end

mutual
/-- the first name is never stored -/
def CS.keep0 : CS → Bool
  | .asg i _ => decide (i ≠ 0)
  | .asg2 a b _ => decide (0 ∉ a.ix ++ b.ix)
  | .par i j _ _ => decide (i ≠ 0) && decide (j ≠ 0)
  | .aug i _ => decide (i ≠ 0)
  | .if_ _ a b => a.keep0 && b.keep0
  | .for_ t _ b => decide (0 ∉ t.ix) && b.keep0
  | .while_ _ b => b.keep0
  | _ => true
def CSs.keep0 : CSs → Bool
  | .nil => true
  | .cons s ss => s.keep0 && ss.keep0
end
/-! ### defs -/
structure Def where
  np : Nat
  ns : Nat
  /-- its first argument may be changed by it -/
  io : Bool
  body : CSs
def runDef (F : Env) (d : Def) (ps : List P) : Out (Option P) P :=
  if ps.length = d.np ∧ d.np ≤ d.ns ∧ (d.io = true → d.body.keep0 = true ∧ 0 < d.np) then
    match evSs F d.body (ps.map some ++ List.replicate (d.ns - d.np) none) with
    | .ok f ρ => .ok (match f with | .nx => .val .non | .rt p => p) (if d.io then (ρ[0]?).join else none)
    | .exc c v ρ => .exc c v (if d.io then (ρ[0]?).join else none)
    | .bad => .bad
  else .bad
abbrev Tab := Nat → Option Def
def calls (rp : D → Option (List Nat)) (sub : Sub) (T : Tab) : Nat → Fns
  | 0, _, _ => .bad
  | k + 1, f, ps => match T f with
    | some d => runDef ⟨rp, sub, calls rp sub T k⟩ d ps
    | none => .bad
end PV

set_option Elab.async false
set_option linter.all false
set_option maxRecDepth 100000
set_option maxHeartbeats 4000000
/-! PvRep: how plain data lies in the abstract heap. -/
namespace PV
open PySem PySem.Spec PyProof.Rows

abbrev V := L2.V
abbrev Hp := L2.Hp
abbrev HO := L2.HO
abbrev Frag := PySem.W.Frag
def toStr (x : List Nat) : Str := ⟨x.toArray⟩
def keyD : D → Option L2.Key
  | .int i => some (Sum.inl i)
  | .str x => some (Sum.inr (toStr x))
  | _ => none
mutual
def Rep (K : Frag) (H : Hp) : D → V → Prop
  | .non, v => v = .non
  | .bl b, v => v = .bl b
  | .int i, v => v = .int i
  | .str x, v => v = .str (toStr x)
  | .tup ds, v => ∃ a vs, v = .ref a ∧ L2.SqT K H a vs ∧ Reps K H ds vs
  | .lst ds, v => ∃ a vs, v = .ref a ∧ H a = some (.lst vs) ∧ Reps K H ds vs
  | .dct kvs, v => ∃ a kk, v = .ref a ∧ H a = some (.dK kk) ∧ RepKV K H kvs kk
  | .obj _ _, _ => False
  | .exc _ _, _ => False
  | .scr ns, v => ∃ a, v = .ref a ∧ L2.SqL K H a (ns.map .int)
def Reps (K : Frag) (H : Hp) : List D → List V → Prop
  | [], vs => vs = []
  | d :: ds, vs => ∃ v r, vs = v :: r ∧ Rep K H d v ∧ Reps K H ds r
def RepKV (K : Frag) (H : Hp) : List (D × D) → List (L2.Key × V) → Prop
  | [], kk => kk = []
  | (k, d) :: kvs, kk => ∃ q v r, kk = (q, v) :: r ∧ keyD k = some q ∧ Rep K H d v ∧ RepKV K H kvs r
end
/-- H' knows what H knows -/
def Le (H H' : Hp) : Prop := ∀ a o, H a = some o → H' a = some o
theorem Le.refl (H : Hp) : Le H H := fun _ _ e => e
theorem Le.trans {H H1 H2 : Hp} (a : Le H H1) (b : Le H1 H2) : Le H H2 := fun x o e => b x o (a x o e)
theorem Le.upd {H : Hp} {a : Addr} {o : HO} (h : H a = none) : Le H (L2.upd H a o) := fun b u e => by rw [L2.upd_ne (L2.ne_of_none e h)]; exact e
theorem Le.upd2 {H H' : Hp} {a : Addr} {o : HO} (h : Le H H') : Le (L2.upd H a o) (L2.upd H' a o) := fun b u e => by
  by_cases q : b = a
  · subst q; rw [L2.upd_same] at e ⊢; exact e
  · rw [L2.upd_ne q] at e ⊢; exact h b u e
theorem Le.into {H H' : Hp} {a : Addr} {o : HO} (h : Le H H') (n : H a = none) : Le H (L2.upd H' a o) := fun b u e => by
  rw [L2.upd_ne (L2.ne_of_none e n)]; exact h b u e
theorem Le.none {H H' : Hp} (h : Le H H') {a : Addr} (n : H' a = none) : H a = none := by
  cases q : H a with
  | none => rfl
  | some o => rw [h a o q] at n; cases n
theorem sqT_le {K : Frag} {H H' : Hp} {a : Addr} {xs : List V} (h : Le H H') (q : L2.SqT K H a xs) : L2.SqT K H' a xs := by
  rcases q with (q | ⟨o, q⟩) | q
  · exact .inl (.inl (h _ _ q))
  · exact .inl (.inr ⟨o, h _ _ q⟩)
  · exact .inr q
theorem sqL_le {K : Frag} {H H' : Hp} {a : Addr} {xs : List V} (h : Le H H') (q : L2.SqL K H a xs) : L2.SqL K H' a xs := by
  rcases q with (q | ⟨o, q⟩) | q
  · exact .inl (.inl (h _ _ q))
  · exact .inl (.inr ⟨o, h _ _ q⟩)
  · exact .inr q
mutual
theorem Rep.le {K : Frag} {H H' : Hp} (h : Le H H') : ∀ (d : D) (v : V), Rep K H d v → Rep K H' d v
  | .non, _, r => r
  | .bl _, _, r => r
  | .int _, _, r => r
  | .str _, _, r => r
  | .tup ds, _, ⟨a, vs, e, q, r⟩ => ⟨a, vs, e, sqT_le h q, Reps.le h ds vs r⟩
  | .lst ds, _, ⟨a, vs, e, q, r⟩ => ⟨a, vs, e, h _ _ q, Reps.le h ds vs r⟩
  | .dct kvs, _, ⟨a, kk, e, q, r⟩ => ⟨a, kk, e, h _ _ q, RepKV.le h kvs kk r⟩
  | .obj _ _, _, r => r
  | .exc _ _, _, r => r
  | .scr _, _, ⟨a, e, q⟩ => ⟨a, e, sqL_le h q⟩
theorem Reps.le {K : Frag} {H H' : Hp} (h : Le H H') : ∀ (ds : List D) (vs : List V), Reps K H ds vs → Reps K H' ds vs
  | [], _, r => r
  | d :: ds, _, ⟨v, r, e, q, qs⟩ => ⟨v, r, e, Rep.le h d v q, Reps.le h ds r qs⟩
theorem RepKV.le {K : Frag} {H H' : Hp} (h : Le H H') : ∀ (kvs : List (D × D)) (kk : List (L2.Key × V)), RepKV K H kvs kk → RepKV K H' kvs kk
  | [], _, r => r
  | (k, d) :: kvs, _, ⟨q, v, r, e, ek, rd, rr⟩ => ⟨q, v, r, e, ek, Rep.le h d v rd, RepKV.le h kvs r rr⟩
end
theorem Reps.length {K : Frag} {H : Hp} : ∀ {ds : List D} {vs : List V}, Reps K H ds vs → vs.length = ds.length
  | [], _, r => by cases (show _ = [] from r); rfl
  | d :: ds, _, ⟨v, r, e, q, qs⟩ => by subst e; simp [Reps.length qs]
theorem Reps.get {K : Frag} {H : Hp} : ∀ {ds : List D} {vs : List V} {i : Nat} {d : D}, Reps K H ds vs → ds[i]? = some d → ∃ v, vs[i]? = some v ∧ Rep K H d v
  | [], _, i, _, _, e => by simp at e
  | d :: ds, _, 0, x, ⟨v, r, e, q, qs⟩, e1 => by subst e; simp at e1; subst e1; exact ⟨v, by simp, q⟩
  | d :: ds, _, i + 1, x, ⟨v, r, e, q, qs⟩, e1 => by
    subst e
    obtain ⟨w, h1, h2⟩ := Reps.get (i := i) qs (by simpa using e1)
    exact ⟨w, by simpa using h1, h2⟩
theorem Reps.append {K : Frag} {H : Hp} : ∀ {ds es : List D} {vs ws : List V}, Reps K H ds vs → Reps K H es ws → Reps K H (ds ++ es) (vs ++ ws)
  | [], _, _, _, r, s => by cases (show _ = [] from r); exact s
  | d :: ds, _, _, ws, ⟨v, r, e, q, qs⟩, s => by subst e; exact ⟨v, r ++ ws, rfl, q, Reps.append qs s⟩
theorem Reps.take {K : Frag} {H : Hp} : ∀ (n : Nat) {ds : List D} {vs : List V}, Reps K H ds vs → Reps K H (ds.take n) (vs.take n)
  | 0, _, _, _ => by simp [Reps]
  | n + 1, [], _, r => by cases (show _ = [] from r); simp [Reps]
  | n + 1, d :: ds, _, ⟨v, r, e, q, qs⟩ => by subst e; exact ⟨v, r.take n, by simp, q, Reps.take n qs⟩
theorem Reps.drop {K : Frag} {H : Hp} : ∀ (n : Nat) {ds : List D} {vs : List V}, Reps K H ds vs → Reps K H (ds.drop n) (vs.drop n)
  | 0, _, _, r => by simpa using r
  | n + 1, [], _, r => by cases (show _ = [] from r); simp [Reps]
  | n + 1, d :: ds, _, ⟨v, r, e, q, qs⟩ => by subst e; simpa using Reps.drop n qs

/-! ### what a frame alone holds -/
mutual
def RepP (K : Frag) (Hd H : Hp) : P → V → List Addr → Prop
  | .val d, v, as => as = [] ∧ Rep K Hd d v
  | .lst ps, v, as => ∃ a vs r, v = .ref a ∧ H a = some (.lst vs) ∧ RepPs K Hd H ps vs r ∧ as = a :: r
  | .dct kvs, v, as => ∃ a kk, v = .ref a ∧ H a = some (.dK kk) ∧ RepKV K Hd kvs kk ∧ as = [a]
  | .obj _ _, _, _ => False
def RepPs (K : Frag) (Hd H : Hp) : List P → List V → List Addr → Prop
  | [], vs, as => vs = [] ∧ as = []
  | p :: ps, vs, as => ∃ v r a1 a2, vs = v :: r ∧ RepP K Hd H p v a1 ∧ RepPs K Hd H ps r a2 ∧ as = a1 ++ a2
end
/-- one slot -/
def RepO (K : Frag) (Hd H : Hp) : Option P → Option V → List Addr → Prop
  | some p, w, as => ∃ v, w = some v ∧ RepP K Hd H p v as
  | none, _, as => as = []
/-- .. and its slots -/
def RepR (K : Frag) (Hd H : Hp) : Rho → L2.St → List Addr → Prop
  | [], σ, as => σ = [] ∧ as = []
  | o :: ρ, σ, as => ∃ w r a1 a2, σ = w :: r ∧ RepO K Hd H o w a1 ∧ RepR K Hd H ρ r a2 ∧ as = a1 ++ a2
mutual
theorem RepP.mono {K : Frag} {Hd H Hd' H' : Hp} (h : Le Hd Hd') : ∀ (p : P) (v : V) (as : List Addr), (∀ a ∈ as, ∀ o, H a = some o → H' a = some o) → RepP K Hd H p v as → RepP K Hd' H' p v as
  | .val d, _, _, _, ⟨e, r⟩ => ⟨e, Rep.le h d _ r⟩
  | .lst ps, _, _, k, ⟨a, vs, r, e, q, rr, ea⟩ => by
    subst ea
    exact ⟨a, vs, r, e, k a (List.mem_cons_self ..) _ q, RepPs.mono h ps vs r (fun b hb => k b (List.mem_cons_of_mem _ hb)) rr, rfl⟩
  | .dct kvs, _, _, k, ⟨a, kk, e, q, rr, ea⟩ => by
    subst ea
    exact ⟨a, kk, e, k a (List.mem_cons_self ..) _ q, RepKV.le h kvs kk rr, rfl⟩
  | .obj _ _, _, _, _, r => r
theorem RepPs.mono {K : Frag} {Hd H Hd' H' : Hp} (h : Le Hd Hd') : ∀ (ps : List P) (vs : List V) (as : List Addr), (∀ a ∈ as, ∀ o, H a = some o → H' a = some o) → RepPs K Hd H ps vs as → RepPs K Hd' H' ps vs as
  | [], _, _, _, r => r
  | p :: ps, _, _, k, ⟨v, r, a1, a2, e, q, qs, ea⟩ => by
    subst ea
    exact ⟨v, r, a1, a2, e, RepP.mono h p v a1 (fun b hb => k b (List.mem_append_left _ hb)) q, RepPs.mono h ps r a2 (fun b hb => k b (List.mem_append_right _ hb)) qs, rfl⟩
end
theorem RepO.mono {K : Frag} {Hd H Hd' H' : Hp} (h : Le Hd Hd') : ∀ {o : Option P} {w : Option V} {as : List Addr}, (∀ a ∈ as, ∀ o, H a = some o → H' a = some o) → RepO K Hd H o w as → RepO K Hd' H' o w as
  | some p, _, _, k, ⟨v, e, q⟩ => ⟨v, e, RepP.mono h p v _ k q⟩
  | none, _, _, _, e => e
theorem RepR.mono {K : Frag} {Hd H Hd' H' : Hp} (h : Le Hd Hd') : ∀ {ρ : Rho} {σ : L2.St} {as : List Addr}, (∀ a ∈ as, ∀ o, H a = some o → H' a = some o) → RepR K Hd H ρ σ as → RepR K Hd' H' ρ σ as
  | [], _, _, _, r => r
  | o :: ρ, _, _, k, ⟨w, r, a1, a2, e, q, qs, ea⟩ => by
    subst ea
    exact ⟨w, r, a1, a2, e, q.mono h (fun b hb => k b (List.mem_append_left _ hb)), qs.mono h (fun b hb => k b (List.mem_append_right _ hb)), rfl⟩
mutual
theorem RepP.there {K : Frag} {Hd H : Hp} : ∀ (p : P) (v : V) (as : List Addr), RepP K Hd H p v as → ∀ a ∈ as, ∃ o, H a = some o
  | .val d, _, _, ⟨e, _⟩, a, ha => by subst e; cases ha
  | .lst ps, _, _, ⟨b, vs, r, e, q, rr, ea⟩, a, ha => by
    subst ea
    rcases List.mem_cons.mp ha with z | z
    · subst z; exact ⟨_, q⟩
    · exact RepPs.there ps vs r rr a z
  | .dct kvs, _, _, ⟨b, kk, e, q, rr, ea⟩, a, ha => by
    subst ea
    have : a = b := by simpa using ha
    subst this; exact ⟨_, q⟩
  | .obj _ _, _, _, r, _, _ => False.elim r
theorem RepPs.there {K : Frag} {Hd H : Hp} : ∀ (ps : List P) (vs : List V) (as : List Addr), RepPs K Hd H ps vs as → ∀ a ∈ as, ∃ o, H a = some o
  | [], _, _, ⟨_, e⟩, a, ha => by subst e; cases ha
  | p :: ps, _, _, ⟨v, r, a1, a2, e, q, qs, ea⟩, a, ha => by
    subst ea
    rcases List.mem_append.mp ha with z | z
    · exact RepP.there p v a1 q a z
    · exact RepPs.there ps r a2 qs a z
end
theorem RepO.there {K : Frag} {Hd H : Hp} : ∀ {o : Option P} {w : Option V} {as : List Addr}, RepO K Hd H o w as → ∀ a ∈ as, ∃ o, H a = some o
  | some p, _, _, ⟨v, _, q⟩, a, ha => RepP.there p v _ q a ha
  | none, _, _, e, a, ha => by cases (show _ = [] from e); cases ha
theorem RepR.there {K : Frag} {Hd H : Hp} : ∀ {ρ : Rho} {σ : L2.St} {as : List Addr}, RepR K Hd H ρ σ as → ∀ a ∈ as, ∃ o, H a = some o
  | [], _, _, ⟨_, e⟩, a, ha => by subst e; cases ha
  | o :: ρ, _, _, ⟨w, r, a1, a2, e, q, qs, ea⟩, a, ha => by
    subst ea
    rcases List.mem_append.mp ha with z | z
    · exact q.there a z
    · exact qs.there a z
theorem RepR.len {K : Frag} {Hd H : Hp} : ∀ {ρ : Rho} {σ : L2.St} {as : List Addr}, RepR K Hd H ρ σ as → σ.length = ρ.length
  | [], _, _, ⟨e, _⟩ => by subst e; rfl
  | o :: ρ, _, _, ⟨w, r, a1, a2, e, q, qs, ea⟩ => by subst e; simp [qs.len]
theorem RepR.app {K : Frag} {Hd H : Hp} : ∀ {ρ τ : Rho} {σ ν : L2.St} {a1 a2 : List Addr}, RepR K Hd H ρ σ a1 → RepR K Hd H τ ν a2 → RepR K Hd H (ρ ++ τ) (σ ++ ν) (a1 ++ a2)
  | [], _, _, _, _, _, ⟨e, ea⟩, s => by subst e ea; exact s
  | o :: ρ, τ, _, ν, _, a2, ⟨w, r, b1, b2, e, q, qs, ea⟩, s => by
    subst e ea
    exact ⟨w, r ++ ν, b1, b2 ++ a2, rfl, q, qs.app s, by simp⟩
theorem RepR.split {K : Frag} {Hd H : Hp} : ∀ {ρ τ : Rho} {σ ν : L2.St} {as : List Addr}, σ.length = ρ.length → RepR K Hd H (ρ ++ τ) (σ ++ ν) as → ∃ a1 a2, as = a1 ++ a2 ∧ RepR K Hd H ρ σ a1 ∧ RepR K Hd H τ ν a2
  | [], _, [], _, as, _, h => ⟨[], as, rfl, ⟨rfl, rfl⟩, h⟩
  | [], _, _ :: _, _, _, hl, _ => by simp at hl
  | _ :: _, _, [], _, _, hl, _ => by simp at hl
  | o :: ρ, τ, x :: σ, ν, _, hl, ⟨w, r, b1, b2, e, q, qs, ea⟩ => by
    subst ea
    simp only [List.cons_append, List.cons.injEq] at e
    obtain ⟨e1, e2⟩ := e
    subst e1 e2
    obtain ⟨a1, a2, ea, h1, h2⟩ := RepR.split (by simpa using hl) qs
    exact ⟨b1 ++ a1, a2, by rw [ea]; simp, ⟨_, _, b1, a1, rfl, q, h1, rfl⟩, h2⟩
/-- one slot apart: it may be put anew -/
theorem RepR.at {K : Frag} {Hd H : Hp} : ∀ {ρ : Rho} {σ : L2.St} {as : List Addr} {i : Nat} {o : Option P}, RepR K Hd H ρ σ as → ρ[i]? = some o →
    ∃ l a1 r w, as = l ++ (a1 ++ r) ∧ σ[i]? = some w ∧ RepO K Hd H o w a1 ∧ ∀ Hd' H', Le Hd Hd' → (∀ a, a ∈ l ∨ a ∈ r → ∀ o, H a = some o → H' a = some o) →
      ∀ o' w' a1', RepO K Hd' H' o' w' a1' → RepR K Hd' H' (ρ.set i o') (σ.set i w') (l ++ (a1' ++ r))
  | [], _, _, i, _, _, e => by simp at e
  | o :: ρ, _, _, 0, x, ⟨w, r, a1, a2, e, q, qs, ea⟩, e1 => by
    subst e ea
    simp at e1
    subst e1
    refine ⟨[], a1, a2, w, rfl, rfl, q, fun Hd' H' h k o' w' a1' q' => ?_⟩
    exact ⟨w', r, a1', a2, rfl, q', qs.mono h (fun a ha => k a (.inr ha)), rfl⟩
  | o :: ρ, _, _, i + 1, x, ⟨w, r, a1, a2, e, q, qs, ea⟩, e1 => by
    subst e ea
    obtain ⟨l, b1, rr, w2, ea, ew, q2, put⟩ := RepR.at (i := i) qs (by simpa using e1)
    refine ⟨a1 ++ l, b1, rr, w2, by rw [ea]; simp, by simpa using ew, q2, fun Hd' H' h k o' w' a1' q' => ?_⟩
    refine ⟨w, r.set i w', a1, l ++ (a1' ++ rr), by simp, q.mono h (fun a ha => k a (.inl (List.mem_append_left _ ha))), put Hd' H' h (fun a ha => k a ?_) o' w' a1' q', by simp⟩
    rcases ha with z | z
    · exact .inl (List.mem_append_right _ z)
    · exact .inr z
/-- the state of a frame: Hd what is plain, H all, as what is held by the slots -/
structure Good (K : Frag) (Hd H : Hp) (ρ : Rho) (σ : L2.St) (as : List Addr) : Prop where
  le : Le Hd H
  rep : RepR K Hd H ρ σ as
  nd : as.Nodup
  out : ∀ a ∈ as, Hd a = none
/-- from one state to a later one -/
structure Step (Hd H : Hp) (as : List Addr) (Hd' H' : Hp) (as' : List Addr) : Prop where
  hd : Le Hd Hd'
  keep : ∀ a o, H a = some o → a ∉ as → H' a = some o
  sub : ∀ a ∈ as', a ∈ as ∨ H a = none
  new : ∀ a o, Hd' a = some o → Hd a = some o ∨ a ∈ as ∨ H a = none
theorem Step.refl (Hd H : Hp) (as : List Addr) : Step Hd H as Hd H as := ⟨Le.refl _, fun _ _ e _ => e, fun _ h => .inl h, fun _ _ e => .inl e⟩
theorem Step.trans {Hd H Hd1 H1 Hd2 H2 : Hp} {as as1 as2 : List Addr} (a : Step Hd H as Hd1 H1 as1) (b : Step Hd1 H1 as1 Hd2 H2 as2) : Step Hd H as Hd2 H2 as2 where
  hd := a.hd.trans b.hd
  keep := fun x o e n => b.keep x o (a.keep x o e n) fun z => by
    rcases a.sub x z with q | q
    · exact n q
    · rw [e] at q; cases q
  sub := fun x h => by
    rcases b.sub x h with q | q
    · exact a.sub x q
    · by_cases z : x ∈ as
      · exact .inl z
      · right
        cases e : H x with
        | none => rfl
        | some o => rw [a.keep x o e z] at q; cases q
  new := fun x o h => by
    rcases b.new x o h with q | q | q
    · exact a.new x o q
    · exact .inr (a.sub x q)
    · by_cases z : x ∈ as
      · exact .inr (.inl z)
      · right; right
        cases e : H x with
        | none => rfl
        | some o => rw [a.keep x o e z] at q; cases q

/-! ### what is held becomes plain -/
mutual
theorem RepP.freeze {K : Frag} {Hd H : Hp} : ∀ (p : P) (v : V) (as : List Addr), Le Hd H → as.Nodup → (∀ a ∈ as, Hd a = none) → RepP K Hd H p v as →
    ∃ Hd', Le Hd Hd' ∧ Le Hd' H ∧ Rep K Hd' p.fr v ∧ ∀ a, a ∉ as → Hd' a = Hd a
  | .val d, v, as, hl, _, _, ⟨e, r⟩ => ⟨Hd, Le.refl _, hl, by simpa [P.fr] using r, fun _ _ => rfl⟩
  | .lst ps, v, as, hl, nd, out, ⟨a, vs, r, e, q, rr, ea⟩ => by
    subst ea e
    obtain ⟨na, nd'⟩ := List.nodup_cons.mp nd
    obtain ⟨Hd1, h1, h2, h3, h4⟩ := RepPs.freeze ps vs r hl nd' (fun b hb => out b (List.mem_cons_of_mem _ hb)) rr
    have n1 : Hd1 a = none := by rw [h4 a na]; exact out a (List.mem_cons_self ..)
    refine ⟨L2.upd Hd1 a (.lst vs), h1.trans (Le.upd n1), fun b o z => ?_, ?_, fun b hb => ?_⟩
    · by_cases hb : b = a
      · subst hb; rw [L2.upd_same] at z; rw [← z]; exact q
      · rw [L2.upd_ne hb] at z; exact h2 b o z
    · simp only [P.fr, Rep]
      exact ⟨a, vs, rfl, L2.upd_same, Reps.le (Le.upd n1) _ _ h3⟩
    · simp only [List.mem_cons, not_or] at hb
      rw [L2.upd_ne hb.1]; exact h4 b hb.2
  | .dct kvs, v, as, hl, nd, out, ⟨a, kk, e, q, rr, ea⟩ => by
    subst ea e
    have n1 : Hd a = none := out a (List.mem_cons_self ..)
    refine ⟨L2.upd Hd a (.dK kk), Le.upd n1, fun b o z => ?_, ?_, fun b hb => ?_⟩
    · by_cases hb : b = a
      · subst hb; rw [L2.upd_same] at z; rw [← z]; exact q
      · rw [L2.upd_ne hb] at z; exact hl b o z
    · simp only [P.fr, Rep]
      exact ⟨a, kk, rfl, L2.upd_same, RepKV.le (Le.upd n1) _ _ rr⟩
    · rw [L2.upd_ne (by simpa using hb)]
  | .obj _ _, _, _, _, _, _, r => False.elim r
theorem RepPs.freeze {K : Frag} {Hd H : Hp} : ∀ (ps : List P) (vs : List V) (as : List Addr), Le Hd H → as.Nodup → (∀ a ∈ as, Hd a = none) → RepPs K Hd H ps vs as →
    ∃ Hd', Le Hd Hd' ∧ Le Hd' H ∧ Reps K Hd' (frs ps) vs ∧ ∀ a, a ∉ as → Hd' a = Hd a
  | [], vs, as, hl, _, _, ⟨e, ea⟩ => ⟨Hd, Le.refl _, hl, by simpa [frs, Reps] using e, fun _ _ => rfl⟩
  | p :: ps, vs, as, hl, nd, out, ⟨v, r, a1, a2, e, q, qs, ea⟩ => by
    subst ea e
    obtain ⟨n1, n2, n3⟩ := List.nodup_append.mp nd
    obtain ⟨Hd1, h1, h2, h3, h4⟩ := RepP.freeze p v a1 hl n1 (fun b hb => out b (List.mem_append_left _ hb)) q
    have o2 : ∀ a ∈ a2, Hd1 a = none := fun a ha => by
      rw [h4 a (fun z => n3 a z a ha rfl)]
      exact out a (List.mem_append_right _ ha)
    obtain ⟨Hd2, k1, k2, k3, k4⟩ := RepPs.freeze ps r a2 h2 n2 o2 (RepPs.mono h1 ps r a2 (fun _ _ _ z => z) qs)
    refine ⟨Hd2, h1.trans k1, k2, ?_, fun a ha => ?_⟩
    · simp only [frs, Reps]
      exact ⟨v, r, rfl, Rep.le k1 _ _ h3, k3⟩
    · simp only [List.mem_append, not_or] at ha
      rw [k4 a ha.2, h4 a ha.1]
end
theorem nodup_mid {α : Type} {l a r : List α} (h : (l ++ (a ++ r)).Nodup) : a.Nodup ∧ (l ++ r).Nodup ∧ (∀ x ∈ a, x ∉ l ++ r) := by
  obtain ⟨h1, h2, h3⟩ := List.nodup_append.mp h
  obtain ⟨k1, k2, k3⟩ := List.nodup_append.mp h2
  refine ⟨k1, List.nodup_append.mpr ⟨h1, k2, fun x hx y hy => h3 x hx y (List.mem_append_right _ hy)⟩, fun x hx z => ?_⟩
  rcases List.mem_append.mp z with z | z
  · exact h3 x z x (List.mem_append_left _ hx) rfl
  · exact k3 x hx x z rfl
/-- .. that what became plain was held -/
theorem new_of {Hd Hd' H : Hp} {as bs : List Addr} (h4 : ∀ a, a ∉ as → Hd' a = Hd a) (hs : ∀ a ∈ as, a ∈ bs) : ∀ a o, Hd' a = some o → Hd a = some o ∨ a ∈ bs ∨ H a = none := fun a o e => by
  by_cases z : a ∈ as
  · exact .inr (.inl (hs a z))
  · rw [h4 a z] at e; exact .inl e
end PV

set_option Elab.async false
set_option linter.all false
set_option maxRecDepth 100000
set_option maxHeartbeats 4000000
/-! PvSound1: the readings of the core text, and the rules for expressions without calls. -/
namespace PV
open PySem PySem.Spec PyProof.Rows

structure Ctx where
  K : Frag
  F : Env
  cl : Nat → Addr

section
variable {K : Frag} {Hd H : Hp} {ρ τ : Rho} {σ ν : L2.St} {as : List Addr}
theorem Good.len (g : Good K Hd H ρ σ as) : σ.length = ρ.length := g.rep.len
/-- the last slot apart -/
theorem Good.last {p : P} {w : Option V} (g : Good K Hd H (ρ ++ [some p]) (σ ++ [w]) as) : ∃ v a1 a2, w = some v ∧ as = a1 ++ a2 ∧ RepP K Hd H p v a2 ∧ Good K Hd H ρ σ a1 := by
  have hl : σ.length = ρ.length := by have := g.len; simp at this; exact this
  obtain ⟨a1, a2, e, h1, h2⟩ := RepR.split hl g.rep
  obtain ⟨w', r, b1, b2, ew, q, qs, eb⟩ := h2
  obtain ⟨v, e3, q⟩ := q
  obtain ⟨er, e4⟩ := qs
  subst e4 er e
  simp only [List.cons.injEq, and_true] at ew
  subst ew
  simp only [List.append_nil] at eb
  subst eb
  have nd := List.nodup_append.mp g.nd
  exact ⟨v, a1, a2, e3, rfl, q, ⟨g.le, h1, nd.1, fun a ha => g.out a (List.mem_append_left _ ha)⟩⟩
/-- a slot more -/
theorem Good.push {p : P} {v : V} {a2 : List Addr} (g : Good K Hd H ρ σ as) (r : RepP K Hd H p v a2) (nd : a2.Nodup) (dj : ∀ a ∈ a2, a ∉ as) (out : ∀ a ∈ a2, Hd a = none) : Good K Hd H (ρ ++ [some p]) (σ ++ [some v]) (as ++ a2) where
  le := g.le
  rep := g.rep.app ⟨some v, [], a2, [], rfl, ⟨v, rfl, r⟩, ⟨rfl, rfl⟩, by simp⟩
  nd := List.nodup_append.mpr ⟨g.nd, nd, fun x hx y hy e => by subst e; exact dj x hy hx⟩
  out := fun a ha => (List.mem_append.mp ha).elim (g.out a) (out a)
theorem Good.pushV {d : D} {v : V} (g : Good K Hd H ρ σ as) (r : Rep K Hd d v) : Good K Hd H (ρ ++ [some (.val d)]) (σ ++ [some v]) as := by
  have := g.push (p := .val d) (v := v) (a2 := []) ⟨rfl, r⟩ List.nodup_nil (fun a ha => by cases ha) (fun a ha => by cases ha)
  simpa using this
/-- the last slot made plain -/
theorem Good.fz {p : P} {w : Option V} (g : Good K Hd H (ρ ++ [some p]) (σ ++ [w]) as) : ∃ v Hd' as', w = some v ∧ Step Hd H as Hd' H as' ∧ Good K Hd' H ρ σ as' ∧ Rep K Hd' p.fr v := by
  obtain ⟨v, a1, a2, ew, e, r, g1⟩ := g.last
  subst e
  obtain ⟨n1, n2, n3⟩ := List.nodup_append.mp g.nd
  obtain ⟨Hd', h1, h2, h3, h4⟩ := RepP.freeze p v a2 g.le n2 (fun a ha => g.out a (List.mem_append_right _ ha)) r
  refine ⟨v, Hd', a1, ew, ⟨h1, fun _ _ e _ => e, fun a ha => .inl (List.mem_append_left _ ha), new_of h4 fun a ha => List.mem_append_right _ ha⟩, ⟨h2, g1.rep.mono h1 (fun _ _ _ z => z), n1, fun a ha => ?_⟩, h3⟩
  rw [h4 a (fun z => n3 a ha a z rfl)]
  exact g1.out a ha
/-- a heap that grew, by plain things -/
theorem Good.grow {Hd' H' : Hp} (g : Good K Hd H ρ σ as) (h1 : Le Hd Hd') (h2 : Le Hd' H') (h3 : Le H H') (h4 : ∀ a ∈ as, Hd' a = none) : Good K Hd' H' ρ σ as :=
  ⟨h2, g.rep.mono h1 (fun a _ o e => h3 a o e), g.nd, h4⟩
theorem Good.there (g : Good K Hd H ρ σ as) {a : Addr} (ha : a ∈ as) : ∃ o, H a = some o := g.rep.there a ha
end

/-- how an expression's end is wished -/
def OnE (C : Ctx) (W : L2.WX) (q : Bool) (σ ν : L2.St) (τ : Rho) (Hd H : Hp) (as : List Addr) (Q : L2.VK) : Out Rho P → Prop
  | .ok p ρ' => ∀ v H' Hd' as', Step Hd H as Hd' H' as' → (q = true → Le H H') → Good C.K Hd' H' ((ρ' ++ τ) ++ [some p]) ((σ ++ ν) ++ [some v]) as' → Q v H'
  | .exc c d ρ' => ∀ dx v H' Hd' as', Step Hd H as Hd' H' as' → Good C.K Hd' H' (ρ' ++ τ) (σ ++ ν) as' → H' dx = some (.xd [("value", v)]) → Rep C.K Hd' d v → W (.ref (C.cl c)) (some dx) σ H'
  | .bad => False
def tE (C : Ctx) (W : L2.WX) (c : CE) : L2.TE := fun σ H Q => ∃ Hd ρ τ ν as, σ.length = ρ.length ∧ Good C.K Hd H (ρ ++ τ) (σ ++ ν) as ∧ OnE C W c.quiet σ ν τ Hd H as Q (ev C.F c ρ)
theorem OnE.step {C : Ctx} {W : L2.WX} {q : Bool} {σ ν : L2.St} {τ : Rho} {Hd H Hd1 H1 : Hp} {as as1 : List Addr} {Q : L2.VK} (s : Step Hd H as Hd1 H1 as1) (sq : q = true → Le H H1) : ∀ {x : Out Rho P}, OnE C W q σ ν τ Hd H as Q x → OnE C W q σ ν τ Hd1 H1 as1 Q x
  | .ok p ρ', h => fun v H' Hd' as' s' sq' g => h v H' Hd' as' (s.trans s') (fun e => (sq e).trans (sq' e)) g
  | .exc c d ρ', h => fun dx v H' Hd' as' s' g => h dx v H' Hd' as' (s.trans s') g
  | .bad, h => h
theorem OnE.weakq {C : Ctx} {W : L2.WX} {q q' : Bool} {σ ν : L2.St} {τ : Rho} {Hd H : Hp} {as : List Addr} {Q : L2.VK} (hq : q = true → q' = true) : ∀ {x : Out Rho P}, OnE C W q σ ν τ Hd H as Q x → OnE C W q' σ ν τ Hd H as Q x
  | .ok p ρ', h => fun v H' Hd' as' s' sq' g => h v H' Hd' as' s' (fun e => sq' (hq e)) g
  | .exc c d ρ', h => h
  | .bad, h => h
theorem PEimp {X : L2.Cx} {e : Expr} {t t' : L2.TE} (h : L2.PE X e t) (i : ∀ σ H Q, t' σ H Q → t σ H Q) : L2.PE X e t' := ⟨fun pins s σ H Q I hq => h.run pins s σ H Q I (i σ H Q hq)⟩
theorem PTimp {X : L2.Cx} {e : Expr} {t t' : L2.TT} (h : L2.PT X e t) (i : ∀ σ H Q, t' σ H Q → t σ H Q) : L2.PT X e t' := ⟨fun pins s σ H Q I hq => h.run pins s σ H Q I (i σ H Q hq)⟩
theorem PWimp {X : L2.Cx} {e : Expr} {t t' : L2.TT} (h : L2.PW X e t) (i : ∀ σ H Q, t' σ H Q → t σ H Q) : L2.PW X e t' := ⟨fun w pins s σ H Q I hq => h.run w pins s σ H Q I (i σ H Q hq)⟩
theorem PAimp {X : L2.Cx} {e : List Expr} {t t' : L2.TA} (h : L2.PA X e t) (i : ∀ σ H Q, t' σ H Q → t σ H Q) : L2.PA X e t' := ⟨fun w pins s σ H Q I hq => h.run w pins s σ H Q I (i σ H Q hq)⟩

section
variable {C : Ctx} {W : L2.WX} {σ ν : L2.St} {τ : Rho} {ρ : Rho} {Hd H : Hp} {as : List Addr} {Q : L2.VK}
/-- the first part of a bind -/
theorem tE_bind {q : Bool} {a : CE} {f : P → Rho → Out Rho P} {Q1 : L2.VK} (hl : σ.length = ρ.length) (g : Good C.K Hd H (ρ ++ τ) (σ ++ ν) as) (h : OnE C W q σ ν τ Hd H as Q ((ev C.F a ρ).bind f))
    (hQ : ∀ p ρ' v H' Hd' as', σ.length = ρ'.length → Step Hd H as Hd' H' as' → (a.quiet = true → Le H H') → Good C.K Hd' H' ((ρ' ++ τ) ++ [some p]) ((σ ++ ν) ++ [some v]) as' → OnE C W q σ ν τ Hd H as Q (f p ρ') → Q1 v H') : tE C W a σ H Q1 := by
  refine ⟨Hd, ρ, τ, ν, as, hl, g, ?_⟩
  have hv : ν.length = τ.length := by have := g.len; simp at this; omega
  cases e : ev C.F a ρ with
  | ok p ρ' =>
    rw [e] at h
    intro v H' Hd' as' s sq g'
    refine hQ p ρ' v H' Hd' as' ?_ s sq g' h
    have := g'.len; simp at this; omega
  | exc c d ρ' => rw [e] at h; exact h
  | bad => rw [e] at h; exact h
end

/-! ### names, constants -/
section
variable {X : L2.Cx} {C : Ctx} {W : L2.WX}
theorem lookR {ρ : Rho} {o : Option P} {i : Nat} {τ : Rho} (h : ρ[i]? = some o) : (ρ ++ τ)[i]? = some o := by
  obtain ⟨hlt, _⟩ := List.getElem?_eq_some_iff.mp h
  rw [List.getElem?_append_left hlt]; exact h
theorem set_left {α : Type} {ρ τ : List α} {i : Nat} {x : α} (h : i < ρ.length) : (ρ ++ τ).set i x = ρ.set i x ++ τ := by
  rw [List.set_append_left _ _ h]
theorem sE_var {i : Nat} {x : Str} {pos : Pos} (h : L2.PE X (.Name x pos) (L2.tVar i)) : L2.PE X (.Name x pos) (tE C W (.var i)) := by
  refine PEimp h fun σ H Q hq => ?_
  obtain ⟨Hd, ρ, τ, ν, as, hl, g, h⟩ := hq
  simp only [ev] at h
  unfold rdVar at h
  cases e : ρ[i]? with
  | none => rw [e] at h; exact h.elim
  | some o =>
    cases o with
    | none => rw [e] at h; exact h.elim
    | some p =>
      obtain ⟨hlt, _⟩ := List.getElem?_eq_some_iff.mp e
      obtain ⟨l, a1, r, w, ea, ew, ⟨v, ev', rp⟩, put⟩ := g.rep.at (lookR (τ := τ) e)
      subst ev'
      rw [List.getElem?_append_left (by omega)] at ew
      refine ⟨v, ew, ?_⟩
      have setσ : (σ ++ ν).set i (some v) = σ ++ ν := by
        rw [set_left (by omega)]
        congr 1
        apply List.ext_getElem?
        intro k
        by_cases hk : k = i
        · subst hk; rw [List.getElem?_set_self (by omega)]; exact ew.symm
        · rw [List.getElem?_set_ne (Ne.symm hk)]
      have rel : ∀ p' : P, p' = p → OnE C W true σ ν τ Hd H as Q (.ok (.val p'.fr) (ρ.set i (some (.val p'.fr)))) → Q v H := fun p' ep h => by
        subst ep ea
        obtain ⟨n1, n2, n3⟩ := nodup_mid g.nd
        obtain ⟨Hd', h1, h2, h3, h4⟩ := RepP.freeze p' v a1 g.le n1 (fun a ha => g.out a (List.mem_append_right _ (List.mem_append_left _ ha))) rp
        have out' : ∀ a ∈ l ++ r, Hd' a = none := fun a ha => by
          rw [h4 a (fun z => n3 a z ha)]
          exact g.out a (by rcases List.mem_append.mp ha with z | z; exact List.mem_append_left _ z; exact List.mem_append_right _ (List.mem_append_right _ z))
        have gn : Good C.K Hd' H ((ρ.set i (some (.val p'.fr))) ++ τ) (σ ++ ν) (l ++ r) := by
          refine ⟨h2, ?_, n2, out'⟩
          have := put Hd' H h1 (fun _ _ _ z => z) (some (.val p'.fr)) (some v) [] ⟨v, rfl, rfl, h3⟩
          rw [setσ, set_left hlt] at this
          simpa using this
        refine h v H Hd' (l ++ r) ⟨h1, fun _ _ e _ => e, fun a ha => .inl ?_, new_of h4 fun a ha => List.mem_append_right _ (List.mem_append_left _ ha)⟩ (fun _ => Le.refl _) (gn.pushV h3)
        rcases List.mem_append.mp ha with z | z
        · exact List.mem_append_left _ z
        · exact List.mem_append_right _ (List.mem_append_right _ z)
      cases p with
      | val d =>
        rw [e] at h
        obtain ⟨e1, rd⟩ := rp
        exact h v H Hd as (Step.refl _ _ _) (fun _ => Le.refl _) (g.pushV rd)
      | lst ps => rw [e] at h; exact rel _ rfl h
      | dct kvs => rw [e] at h; exact rel _ rfl h
      | obj c fs => rw [e] at h; exact rel _ rfl h
theorem sE_con {e : Expr} {d : D} {v : V} (hv : ∀ Hd, Rep C.K Hd d v) (h : L2.PE X e (L2.tC v)) : L2.PE X e (tE C W (.con d)) := by
  refine PEimp h fun σ H Q hq => ?_
  obtain ⟨Hd, ρ, τ, ν, as, hl, g, h⟩ := hq
  exact h v H Hd as (Step.refl _ _ _) (fun _ => Le.refl _) (g.pushV (hv Hd))
end

/-! ### and, or, not, if else -/
section
variable {X : L2.Cx} {C : Ctx} {W : L2.WX} {a b t : Expr} {ca cb ct : CE} {pos : Pos} {rest : List Expr}
/-- a test's reading -/
def tT (C : Ctx) (W : L2.WX) (c : CE) : L2.TT := fun σ H Q => tE C W c σ H fun v H' => ∃ k, v = .bl k ∧ Q k H'
theorem onB_cases {α : Type} {p : P} {x y : Out Rho α} : (p = .val (.bl true) ∧ onB p x y = x) ∨ (p = .val (.bl false) ∧ onB p x y = y) ∨ onB p x y = .bad := by
  cases p with
  | val d =>
    cases d with
    | bl b => cases b <;> simp [onB]
    | _ => simp [onB]
  | _ => simp [onB]
/-- the way of a test that has come to a bool -/
theorem onB_go {σ ν : L2.St} {τ ρ : Rho} {Hd H Hd1 H1 : Hp} {as as1 : List Addr} {Q : L2.VK} {q : Bool} {p : P} {v : V} {x y : Out Rho P} (s : Step Hd H as Hd1 H1 as1) (sq : q = true → Le H H1) (g : Good C.K Hd1 H1 ((ρ ++ τ) ++ [some p]) ((σ ++ ν) ++ [some v]) as1)
    (h : OnE C W q σ ν τ Hd H as Q (onB p x y)) : ∃ k, v = .bl k ∧ Good C.K Hd1 H1 (ρ ++ τ) (σ ++ ν) as1 ∧ p = .val (.bl k) ∧ (k = true → OnE C W q σ ν τ Hd1 H1 as1 Q x) ∧ (k = false → OnE C W q σ ν τ Hd1 H1 as1 Q y) := by
  rcases onB_cases (p := p) (x := x) (y := y) with ⟨e, e2⟩ | ⟨e, e2⟩ | e2
  · subst e
    obtain ⟨v', a1, a2, ew, ea, ⟨e3, rd⟩, g1⟩ := g.last
    cases ew
    subst e3
    simp only [List.append_nil] at ea
    subst ea
    rw [e2] at h
    exact ⟨true, rd, g1, rfl, fun _ => h.step s sq, fun z => by cases z⟩
  · subst e
    obtain ⟨v', a1, a2, ew, ea, ⟨e3, rd⟩, g1⟩ := g.last
    cases ew
    subst e3
    simp only [List.append_nil] at ea
    subst ea
    rw [e2] at h
    exact ⟨false, rd, g1, rfl, fun z => (by cases z), fun _ => h.step s sq⟩
  · rw [e2] at h; exact h.elim
theorem quiet_and : (CE.and ca cb).quiet = false := rfl
theorem sW_and1 (ha : L2.PT X a (tT C W ca)) : L2.PW X (.BoolOp .And [a] pos) (tT C W ca) := L2.pw_and1 ha
theorem sW_or1 (ha : L2.PT X a (tT C W ca)) : L2.PW X (.BoolOp .Or [a] pos) (tT C W ca) := L2.pw_or1 ha
theorem sW_and (ha : L2.PT X a (tT C W ca)) (hb : L2.PW X (.BoolOp .And (b :: rest) pos) (tT C W cb)) : L2.PW X (.BoolOp .And (a :: b :: rest) pos) (tT C W (.and ca cb)) := by
  refine PWimp (L2.pw_and ha hb) fun σ H Q hq => ?_
  obtain ⟨Hd, ρ, τ, ν, as, hl, g, h⟩ := hq
  simp only [ev] at h
  refine tE_bind hl g h fun p ρ' v H' Hd' as' hl' s sq g' h' => ?_
  obtain ⟨k, ev', g1, ep, h1⟩ := onB_go s (fun z => by cases z) g' h'
  refine ⟨k, ev', ?_⟩
  cases k with
  | true => exact ⟨Hd', ρ', τ, ν, as', hl', g1, (h1.1 rfl).weakq (fun z => by cases z)⟩
  | false =>
    have h2 := h1.2 rfl
    obtain ⟨k', e, q⟩ := h2 (.bl false) H' Hd' as' (Step.refl _ _ _) (fun _ => Le.refl _) (g1.pushV rfl)
    cases e
    exact q
theorem sW_or (ha : L2.PT X a (tT C W ca)) (hb : L2.PW X (.BoolOp .Or (b :: rest) pos) (tT C W cb)) : L2.PW X (.BoolOp .Or (a :: b :: rest) pos) (tT C W (.or ca cb)) := by
  refine PWimp (L2.pw_or ha hb) fun σ H Q hq => ?_
  obtain ⟨Hd, ρ, τ, ν, as, hl, g, h⟩ := hq
  simp only [ev] at h
  refine tE_bind hl g h fun p ρ' v H' Hd' as' hl' s sq g' h' => ?_
  obtain ⟨k, ev', g1, ep, h1⟩ := onB_go s (fun z => by cases z) g' h'
  refine ⟨k, ev', ?_⟩
  cases k with
  | false => exact ⟨Hd', ρ', τ, ν, as', hl', g1, (h1.2 rfl).weakq (fun z => by cases z)⟩
  | true =>
    have h2 := h1.1 rfl
    obtain ⟨k', e, q⟩ := h2 (.bl true) H' Hd' as' (Step.refl _ _ _) (fun _ => Le.refl _) (g1.pushV rfl)
    cases e
    exact q
theorem sT_not (ha : L2.PT X a (tT C W ca)) : L2.PT X (.UnaryOp .Not a pos) (tT C W (.not ca)) := by
  refine PTimp (L2.pt_not ha) fun σ H Q hq => ?_
  obtain ⟨Hd, ρ, τ, ν, as, hl, g, h⟩ := hq
  simp only [ev] at h
  refine tE_bind hl g h fun p ρ' v H' Hd' as' hl' s sq g' h' => ?_
  obtain ⟨k, ev', g1, ep, h1⟩ := onB_go s (fun z => by cases z) g' h'
  refine ⟨k, ev', ?_⟩
  cases k with
  | true =>
    have h2 := h1.1 rfl
    obtain ⟨k', e, q⟩ := h2 (.bl false) H' Hd' as' (Step.refl _ _ _) (fun _ => Le.refl _) (g1.pushV rfl)
    cases e
    exact q
  | false =>
    have h2 := h1.2 rfl
    obtain ⟨k', e, q⟩ := h2 (.bl true) H' Hd' as' (Step.refl _ _ _) (fun _ => Le.refl _) (g1.pushV rfl)
    cases e
    exact q
theorem sE_and (ha : L2.PE X a (tE C W ca)) (hb : L2.PE X (.BoolOp .And (b :: rest) pos) (tE C W cb)) : L2.PE X (.BoolOp .And (a :: b :: rest) pos) (tE C W (.and ca cb)) := by
  refine PEimp (L2.pe_and ha hb) fun σ H Q hq => ?_
  obtain ⟨Hd, ρ, τ, ν, as, hl, g, h⟩ := hq
  simp only [ev] at h
  refine tE_bind hl g h fun p ρ' v H' Hd' as' hl' s sq g' h' => ?_
  obtain ⟨k, ev', g1, ep, h1⟩ := onB_go s (fun z => by cases z) g' h'
  refine ⟨k, ev', ?_⟩
  cases k with
  | true => exact ⟨Hd', ρ', τ, ν, as', hl', g1, (h1.1 rfl).weakq (fun z => by cases z)⟩
  | false =>
    have h2 := h1.2 rfl
    exact h2 (.bl false) H' Hd' as' (Step.refl _ _ _) (fun _ => Le.refl _) (g1.pushV rfl)
theorem sE_or (ha : L2.PE X a (tE C W ca)) (hb : L2.PE X (.BoolOp .Or (b :: rest) pos) (tE C W cb)) : L2.PE X (.BoolOp .Or (a :: b :: rest) pos) (tE C W (.or ca cb)) := by
  refine PEimp (L2.pe_or ha hb) fun σ H Q hq => ?_
  obtain ⟨Hd, ρ, τ, ν, as, hl, g, h⟩ := hq
  simp only [ev] at h
  refine tE_bind hl g h fun p ρ' v H' Hd' as' hl' s sq g' h' => ?_
  obtain ⟨k, ev', g1, ep, h1⟩ := onB_go s (fun z => by cases z) g' h'
  refine ⟨k, ev', ?_⟩
  cases k with
  | false => exact ⟨Hd', ρ', τ, ν, as', hl', g1, (h1.2 rfl).weakq (fun z => by cases z)⟩
  | true =>
    have h2 := h1.1 rfl
    exact h2 (.bl true) H' Hd' as' (Step.refl _ _ _) (fun _ => Le.refl _) (g1.pushV rfl)
theorem sE_not (ha : L2.PE X a (tE C W ca)) : L2.PE X (.UnaryOp .Not a pos) (tE C W (.not ca)) := by
  refine PEimp (L2.pe_not ha) fun σ H Q hq => ?_
  obtain ⟨Hd, ρ, τ, ν, as, hl, g, h⟩ := hq
  simp only [ev] at h
  refine tE_bind hl g h fun p ρ' v H' Hd' as' hl' s sq g' h' => ?_
  obtain ⟨k, ev', g1, ep, h1⟩ := onB_go s (fun z => by cases z) g' h'
  refine ⟨k, ev', ?_⟩
  cases k with
  | true =>
    have h2 := h1.1 rfl
    exact h2 (.bl false) H' Hd' as' (Step.refl _ _ _) (fun _ => Le.refl _) (g1.pushV rfl)
  | false =>
    have h2 := h1.2 rfl
    exact h2 (.bl true) H' Hd' as' (Step.refl _ _ _) (fun _ => Le.refl _) (g1.pushV rfl)
theorem sE_ite (ht : L2.PT X t (tT C W ct)) (ha : L2.PE X a (tE C W ca)) (hb : L2.PE X b (tE C W cb)) : L2.PE X (.IfExp t a b pos) (tE C W (.ite ct ca cb)) := by
  refine PEimp (L2.pe_ifExp ht ha hb) fun σ H Q hq => ?_
  obtain ⟨Hd, ρ, τ, ν, as, hl, g, h⟩ := hq
  simp only [ev] at h
  refine tE_bind hl g h fun p ρ' v H' Hd' as' hl' s sq g' h' => ?_
  obtain ⟨k, ev', g1, ep, h1⟩ := onB_go s (fun z => by cases z) g' h'
  refine ⟨k, ev', ?_⟩
  cases k with
  | true => exact ⟨Hd', ρ', τ, ν, as', hl', g1, (h1.1 rfl).weakq (fun z => by cases z)⟩
  | false => exact ⟨Hd', ρ', τ, ν, as', hl', g1, (h1.2 rfl).weakq (fun z => by cases z)⟩
end
end PV

set_option Elab.async false
set_option linter.all false
set_option maxRecDepth 100000
set_option maxHeartbeats 4000000
/-! PvSound2: operations, their arguments; displays. -/
namespace PV
open PySem PySem.Spec PyProof.Rows

/-! ### what an operation looks at -/
def SRep (K : Frag) (Hd H : Hp) : D → V → Prop
  | .lst ds, v => ∃ a vs, v = .ref a ∧ H a = some (.lst vs) ∧ Reps K Hd ds vs
  | d, v => Rep K Hd d v
def SReps (K : Frag) (Hd H : Hp) : List D → List V → Prop
  | [], vs => vs = []
  | d :: ds, vs => ∃ v r, vs = v :: r ∧ SRep K Hd H d v ∧ SReps K Hd H ds r
theorem SRep.of {K : Frag} {Hd H : Hp} (h : Le Hd H) : ∀ {d : D} {v : V}, Rep K Hd d v → SRep K Hd H d v
  | .lst ds, v, ⟨a, vs, e, q, r⟩ => ⟨a, vs, e, h _ _ q, r⟩
  | .non, _, r => r
  | .bl _, _, r => r
  | .int _, _, r => r
  | .str _, _, r => r
  | .tup _, _, r => r
  | .dct _, _, r => r
  | .obj _ _, _, r => r
  | .exc _ _, _, r => r
  | .scr _, _, r => r
theorem SRep.le {K : Frag} {Hd H Hd' H' : Hp} (h : Le Hd Hd') (h2 : Le H H') : ∀ {d : D} {v : V}, SRep K Hd H d v → SRep K Hd' H' d v
  | .lst ds, v, ⟨a, vs, e, q, r⟩ => ⟨a, vs, e, h2 _ _ q, Reps.le h _ _ r⟩
  | .non, _, r => r
  | .bl _, _, r => r
  | .int _, _, r => r
  | .str _, _, r => r
  | .tup _, _, r => Rep.le h _ _ r
  | .dct _, _, r => Rep.le h _ _ r
  | .obj _ _, _, r => r
  | .exc _ _, _, r => r
  | .scr _, _, r => Rep.le h _ _ r
def OnA (C : Ctx) (W : L2.WX) (q : Bool) (σ ν : L2.St) (τ : Rho) (Hd H : Hp) (as : List Addr) (Q : List V → Hp → Prop) : Out Rho (List D) → Prop
  | .ok ds ρ' => ∀ vs H' Hd' as', Step Hd H as Hd' H' as' → (q = true → Le H H') → Good C.K Hd' H' (ρ' ++ τ) (σ ++ ν) as' → SReps C.K Hd' H' ds vs → Q vs H'
  | .exc c d ρ' => ∀ dx v H' Hd' as', Step Hd H as Hd' H' as' → Good C.K Hd' H' (ρ' ++ τ) (σ ++ ν) as' → H' dx = some (.xd [("value", v)]) → Rep C.K Hd' d v → W (.ref (C.cl c)) (some dx) σ H'
  | .bad => False
def tA (C : Ctx) (W : L2.WX) (cs : CEs) : L2.TA := fun σ H Q => ∃ Hd ρ τ ν as, σ.length = ρ.length ∧ Good C.K Hd H (ρ ++ τ) (σ ++ ν) as ∧ OnA C W cs.quiet σ ν τ Hd H as Q (evA C.F cs ρ)
theorem OnA.step {C : Ctx} {W : L2.WX} {q : Bool} {σ ν : L2.St} {τ : Rho} {Hd H Hd1 H1 : Hp} {as as1 : List Addr} {Q : List V → Hp → Prop} (s : Step Hd H as Hd1 H1 as1) (sq : q = true → Le H H1) : ∀ {x : Out Rho (List D)}, OnA C W q σ ν τ Hd H as Q x → OnA C W q σ ν τ Hd1 H1 as1 Q x
  | .ok p ρ', h => fun v H' Hd' as' s' sq' g => h v H' Hd' as' (s.trans s') (fun e => (sq e).trans (sq' e)) g
  | .exc c d ρ', h => fun dx v H' Hd' as' s' g => h dx v H' Hd' as' (s.trans s') g
  | .bad, h => h
/-- one argument's reading: a name that is looked at, or any -/
def tO (C : Ctx) (W : L2.WX) : CE → L2.TE
  | .look i => L2.tVar i
  | c => tE C W c

section
variable {C : Ctx} {W : L2.WX}
theorem flat_reps {K : Frag} {Hd H : Hp} : ∀ {ps : List P} {ds : List D} {vs : List V} {as : List Addr}, flat ps = some ds → RepPs K Hd H ps vs as → Reps K Hd ds vs
  | [], ds, vs, as, e, rr => by simp [flat] at e; subst e; exact rr.1
  | .val d0 :: ps, ds, vs, as, e, ⟨v, r, b1, b2, e5, q1, q2, _⟩ => by
    simp only [flat, Option.map_eq_some_iff] at e
    obtain ⟨ds', e6, e7⟩ := e
    subst e7
    exact ⟨v, r, e5, q1.2, flat_reps e6 q2⟩
  | .lst _ :: _, _, _, _, e, _ => by simp [flat] at e
  | .dct _ :: _, _, _, _, e, _ => by simp [flat] at e
  | .obj _ _ :: _, _, _, _, e, _ => by simp [flat] at e
/-- what a look finds -/
theorem look_at {K : Frag} {Hd H : Hp} {ρ τ : Rho} {σ ν : L2.St} {as : List Addr} {i : Nat} {d : D} (hl : σ.length = ρ.length) (g : Good K Hd H (ρ ++ τ) (σ ++ ν) as) (e : lookAt ρ i = some d) : ∃ v, σ[i]? = some (some v) ∧ SRep K Hd H d v := by
  unfold lookAt at e
  cases e1 : ρ[i]? with
  | none => rw [e1] at e; cases e
  | some o =>
    cases o with
    | none => rw [e1] at e; cases e
    | some p =>
      obtain ⟨hlt, _⟩ := List.getElem?_eq_some_iff.mp e1
      obtain ⟨l, a1, r, w, ea, ew, ⟨v, ev', rp⟩, _⟩ := g.rep.at (lookR (τ := τ) e1)
      subst ev'
      rw [List.getElem?_append_left (by omega)] at ew
      refine ⟨v, ew, ?_⟩
      cases p with
      | val d' =>
        rw [e1] at e
        cases e
        exact SRep.of g.le rp.2
      | lst ps =>
        rw [e1] at e
        obtain ⟨a, vs, r', e2, q, rr, _⟩ := rp
        simp only [Option.map_eq_some_iff] at e
        obtain ⟨ds, e3, e4⟩ := e
        subst e4 e2
        refine ⟨a, vs, rfl, q, ?_⟩
        exact flat_reps e3 rr
      | dct kvs => rw [e1] at e; cases e
      | obj c fs => rw [e1] at e; cases e
theorem quiet_cons {c : CE} {cs : CEs} : (CEs.cons c cs).quiet = (c.quiet && cs.quiet) := by simp [CEs.quiet]
theorem tA_cons {c : CE} {cs : CEs} {σ : L2.St} {H : Hp} {Q : List V → Hp → Prop} (h : tA C W (.cons c cs) σ H Q) : tO C W c σ H fun x H1 => tA C W cs σ H1 fun xs H2 => Q (x :: xs) H2 := by
  obtain ⟨Hd, ρ, τ, ν, as, hl, g, h⟩ := h
  have notlook : (∀ i, c ≠ .look i) → tO C W c σ H fun x H1 => tA C W cs σ H1 fun xs H2 => Q (x :: xs) H2 := fun hn => by
    have e1 : evA C.F (.cons c cs) ρ = (ev C.F c ρ).bind fun p ρ1 => (evA C.F cs ρ1).bind fun ds ρ2 => .ok (p.fr :: ds) ρ2 := by
      cases c <;> first | rfl | exact absurd rfl (hn _)
    have e2 : tO C W c = tE C W c := by
      cases c <;> first | rfl | exact absurd rfl (hn _)
    rw [e1] at h
    rw [e2]
    refine ⟨Hd, ρ, τ, ν, as, hl, g, ?_⟩
    have hv : ν.length = τ.length := by have := g.len; simp at this; omega
    cases e : ev C.F c ρ with
    | bad => rw [e] at h; exact h
    | exc k d ρ' => rw [e] at h; exact h
    | ok p ρ' =>
      rw [e] at h
      intro v H1 Hd1 as1 s1 sq1 g1
      have hl1 : σ.length = ρ'.length := by have := g1.len; simp at this; omega
      obtain ⟨v', Hd2, as2, ew, s2, g2, r2⟩ := g1.fz
      cases ew
      refine ⟨Hd2, ρ', τ, ν, as2, hl1, g2, ?_⟩
      have s12 := s1.trans s2
      simp only [Out.bind_ok] at h
      cases e3 : evA C.F cs ρ' with
      | bad => rw [e3] at h; exact h
      | exc k d ρ2 => rw [e3] at h; exact fun dx v H' Hd' as' s' g' => h dx v H' Hd' as' (s12.trans s') g'
      | ok ds ρ2 =>
        rw [e3] at h
        intro vs H' Hd' as' s' sq' g' r'
        refine h (v :: vs) H' Hd' as' (s12.trans s') (fun q => ?_) g' ⟨v, vs, rfl, SRep.of g'.le (Rep.le s'.hd _ _ r2), r'⟩
        rw [quiet_cons, Bool.and_eq_true] at q
        exact (sq1 q.1).trans (sq' q.2)
  cases c with
  | look i =>
    simp only [evA] at h
    cases e : lookAt ρ i with
    | none => rw [e] at h; exact h.elim
    | some d =>
      rw [e] at h
      obtain ⟨v, ev', sr⟩ := look_at hl g e
      refine ⟨v, ev', Hd, ρ, τ, ν, as, hl, g, ?_⟩
      cases eq : cs.quiet with
      | false => simp only [eq] at h; exact h.elim
      | true =>
        simp only [eq, if_true] at h
        cases e3 : evA C.F cs ρ with
        | bad => rw [e3] at h; exact h
        | exc k d ρ2 => rw [e3] at h; exact h
        | ok ds ρ2 =>
          rw [e3] at h
          intro vs H' Hd' as' s' sq' g' r'
          refine h (v :: vs) H' Hd' as' s' (fun q => sq' rfl) g' ⟨v, vs, rfl, sr.le s'.hd (sq' rfl), r'⟩
  | _ => exact notlook (fun i z => by cases z)
theorem tA_nil {σ : L2.St} {H : Hp} {Q : List V → Hp → Prop} (h : tA C W .nil σ H Q) : Q [] H := by
  obtain ⟨Hd, ρ, τ, ν, as, hl, g, h⟩ := h
  exact h [] H Hd as (Step.refl _ _ _) (fun _ => Le.refl _) g rfl
variable {X : L2.Cx}
theorem sA_nil : L2.PA X [] (tA C W .nil) := PAimp L2.pa_nil fun σ H Q h => tA_nil h
theorem sA_cons {e : Expr} {es : List Expr} {c : CE} {cs : CEs} (he : L2.PE X e (tO C W c)) (hr : L2.PA X es (tA C W cs)) (hs : starEach (e :: es) X.env = (false, eval e X.env) :: starEach es X.env) : L2.PA X (e :: es) (tA C W (.cons c cs)) :=
  PAimp (L2.pa_cons he hr hs) fun σ H Q h => tA_cons h

/-! ### an operation's end -/
inductive Lay (K : Frag) (Hd H : Hp) : Bool → D → V → Hp → Prop
  | same {d : D} {v : V} : Rep K Hd d v → Lay K Hd H false d v H
  | newT {a : Addr} {vs : List V} {ds : List D} : H a = none → Reps K Hd ds vs → Lay K Hd H false (.tup ds) (.ref a) (L2.upd H a (.tup vs))
  | newL {b : Bool} {a : Addr} {vs : List V} {ds : List D} : H a = none → Reps K Hd ds vs → Lay K Hd H b (.lst ds) (.ref a) (L2.upd H a (.lst vs))
theorem frs_vals : ∀ ds : List D, frs (vals ds) = ds
  | [] => rfl
  | d :: ds => by show d :: frs (vals ds) = d :: ds; rw [frs_vals ds]
theorem repPs_vals {K : Frag} {Hd H : Hp} : ∀ {ds : List D} {vs : List V}, Reps K Hd ds vs → RepPs K Hd H (vals ds) vs []
  | [], _, r => ⟨r, rfl⟩
  | d :: ds, _, ⟨v, r, e, q, qs⟩ => ⟨v, r, [], [], e, ⟨rfl, q⟩, repPs_vals qs, rfl⟩
/-- an address that is not in the heap is held by nobody -/
theorem Good.fresh {K : Frag} {Hd H : Hp} {ρ : Rho} {σ : L2.St} {as : List Addr} (g : Good K Hd H ρ σ as) {a : Addr} (h : H a = none) : a ∉ as := fun z => by
  obtain ⟨o, e⟩ := g.there z
  rw [h] at e; cases e
theorem upd_new {Hd H : Hp} {a b : Addr} {o u : HO} {as : List Addr} (h : H a = none) (e : L2.upd Hd a o b = some u) : Hd b = some u ∨ b ∈ as ∨ H b = none := by
  by_cases z : b = a
  · subst z; exact .inr (.inr h)
  · rw [L2.upd_ne z] at e; exact .inl e
/-- .. with something new in the heap, plain -/
theorem Good.newD {K : Frag} {Hd H : Hp} {ρ : Rho} {σ : L2.St} {as : List Addr} (g : Good K Hd H ρ σ as) {a : Addr} {o : HO} (h : H a = none) : Good K (L2.upd Hd a o) (L2.upd H a o) ρ σ as ∧ Step Hd H as (L2.upd Hd a o) (L2.upd H a o) as ∧ Le Hd (L2.upd Hd a o) ∧ Le H (L2.upd H a o) := by
  have hd : Hd a = none := g.le.none h
  refine ⟨g.grow (Le.upd hd) (Le.upd2 g.le) (Le.upd h) fun b hb => ?_, ⟨Le.upd hd, fun b o e _ => Le.upd h b o e, fun b hb => .inl hb, fun b u e => upd_new h e⟩, Le.upd hd, Le.upd h⟩
  rw [L2.upd_ne (fun z => by subst z; exact g.fresh h hb)]
  exact g.out b hb
/-- .. held by nobody yet -/
theorem Good.newH {K : Frag} {Hd H : Hp} {ρ : Rho} {σ : L2.St} {as : List Addr} (g : Good K Hd H ρ σ as) {a : Addr} {o : HO} (h : H a = none) : Good K Hd (L2.upd H a o) ρ σ as ∧ Step Hd H as Hd (L2.upd H a o) as ∧ Le H (L2.upd H a o) :=
  ⟨g.grow (Le.refl _) (g.le.trans (Le.upd h)) (Le.upd h) g.out, ⟨Le.refl _, fun b o e _ => Le.upd h b o e, fun b hb => .inl hb, fun _ _ e => .inl e⟩, Le.upd h⟩
theorem tE_op {o : Op} {cs : CEs} {σ : L2.St} {H : Hp} {Q : L2.VK} (h : tE C W (.op o cs) σ H Q) :
    tA C W cs σ H fun vs H1 => ∃ Hd ds d, SReps C.K Hd H1 ds vs ∧ Le Hd H1 ∧ prim C.F.rp C.F.sub o ds = some d ∧ ∀ v H', Lay C.K Hd H1 o.lays d v H' → Q v H' := by
  obtain ⟨Hd, ρ, τ, ν, as, hl, g, h⟩ := h
  refine ⟨Hd, ρ, τ, ν, as, hl, g, ?_⟩
  simp only [ev] at h
  cases e : evA C.F cs ρ with
  | bad => rw [e] at h; exact h
  | exc k d ρ' => rw [e] at h; exact h
  | ok ds ρ' =>
    rw [e] at h
    simp only [Out.bind_ok] at h
    intro vs H1 Hd1 as1 s1 sq1 g1 r1
    have qe : (CE.op o cs).quiet = cs.quiet := by simp [CE.quiet]
    rw [qe] at h
    cases ep : prim C.F.rp C.F.sub o ds with
    | none => rw [ep] at h; exact h.elim
    | some d =>
      refine ⟨Hd1, ds, d, r1, g1.le, ep, fun v H' lay => ?_⟩
      rw [ep] at h
      have plain : ∀ Hd2, Step Hd1 H1 as1 Hd2 H' as1 → Le H1 H' → Good C.K Hd2 H' (ρ' ++ τ) (σ ++ ν) as1 → Rep C.K Hd2 d v → (ofD o.lays ρ' (some d) = .ok (.val d) ρ') → Q v H' := fun Hd2 s2 l2 g2 r2 eo => by
        rw [eo] at h
        exact h v H' Hd2 as1 (s1.trans s2) (fun q => (sq1 q).trans l2) (g2.pushV r2)
      generalize eb : o.lays = b at lay h plain
      cases lay with
      | same r =>
        refine plain Hd1 (Step.refl _ _ _) (Le.refl _) g1 r ?_
        cases d <;> rfl
      | newT hn rr =>
        rename_i a ws es
        obtain ⟨g2, s2, l1, l2⟩ := g1.newD (o := .tup ws) hn
        exact plain _ s2 l2 g2 ⟨a, ws, rfl, .inl (.inl L2.upd_same), Reps.le l1 _ _ rr⟩ rfl
      | newL hn rr =>
        rename_i a ws es
        cases b with
        | false =>
          obtain ⟨g2, s2, l1, l2⟩ := g1.newD (o := .lst ws) hn
          exact plain _ s2 l2 g2 ⟨a, ws, rfl, L2.upd_same, Reps.le l1 _ _ rr⟩ rfl
        | true =>
          obtain ⟨g2, s2, l2⟩ := g1.newH (o := .lst ws) hn
          have h2 : OnE C W cs.quiet σ ν τ Hd H as Q (.ok (.lst (vals es)) ρ') := h
          have rp : RepP C.K Hd1 (L2.upd H1 a (.lst ws)) (.lst (vals es)) (.ref a) [a] := ⟨a, ws, [], rfl, L2.upd_same, repPs_vals rr, rfl⟩
          refine h2 (.ref a) _ Hd1 (as1 ++ [a]) (s1.trans ⟨s2.hd, s2.keep, fun b hb => ?_, s2.new⟩) (fun q => (sq1 q).trans l2) (g2.push rp (by simp) (fun b hb => ?_) (fun b hb => ?_))
          · rcases List.mem_append.mp hb with z | z
            · exact .inl z
            · have : b = a := by simpa using z
              subst this; exact .inr hn
          · have : b = a := by simpa using hb
            subst this; exact g1.fresh hn
          · have : b = a := by simpa using hb
            subst this; exact g1.le.none hn
end

/-! ### displays: what is held meanwhile stands behind the slots -/
def OnPs (C : Ctx) (W : L2.WX) (q : Bool) (σ ν : L2.St) (τ : Rho) (Hd H : Hp) (as : List Addr) (Q : List V → Hp → Prop) : Out Rho (List P) → Prop
  | .ok ps ρ' => ∀ vs H' Hd' as', Step Hd H as Hd' H' as' → (q = true → Le H H') → Good C.K Hd' H' ((ρ' ++ τ) ++ ps.map some) ((σ ++ ν) ++ vs.map some) as' → vs.length = ps.length → Q vs H'
  | .exc c d ρ' => ∀ dx v H' Hd' as', Step Hd H as Hd' H' as' → Good C.K Hd' H' (ρ' ++ τ) (σ ++ ν) as' → H' dx = some (.xd [("value", v)]) → Rep C.K Hd' d v → W (.ref (C.cl c)) (some dx) σ H'
  | .bad => False
def tPs (C : Ctx) (W : L2.WX) (cs : CEs) : L2.TA := fun σ H Q => ∃ Hd ρ τ ν as, σ.length = ρ.length ∧ Good C.K Hd H (ρ ++ τ) (σ ++ ν) as ∧ OnPs C W cs.quiet σ ν τ Hd H as Q (evPs C.F cs ρ)
section
variable {C : Ctx} {W : L2.WX} {X : L2.Cx}
theorem tPs_nil {σ : L2.St} {H : Hp} {Q : List V → Hp → Prop} (h : tPs C W .nil σ H Q) : Q [] H := by
  obtain ⟨Hd, ρ, τ, ν, as, hl, g, h⟩ := h
  exact h [] H Hd as (Step.refl _ _ _) (fun _ => Le.refl _) (by simpa using g) rfl
/-- slots behind the names forgotten -/
theorem Good.unpush {K : Frag} {Hd H : Hp} {ρ τ : Rho} {σ ν : L2.St} {as : List Addr} (hl : σ.length = ρ.length) (g : Good K Hd H (ρ ++ τ) (σ ++ ν) as) : ∃ a1 a2, as = a1 ++ a2 ∧ RepR K Hd H τ ν a2 ∧ Good K Hd H ρ σ a1 := by
  obtain ⟨a1, a2, e, h1, h2⟩ := RepR.split hl g.rep
  subst e
  have nd := List.nodup_append.mp g.nd
  exact ⟨a1, a2, rfl, h2, ⟨g.le, h1, nd.1, fun a ha => g.out a (List.mem_append_left _ ha)⟩⟩
theorem Step.less {Hd H : Hp} {a1 a2 : List Addr} : Step Hd H (a1 ++ a2) Hd H a1 := ⟨Le.refl _, fun _ _ e _ => e, fun a ha => .inl (List.mem_append_left _ ha), fun _ _ e => .inl e⟩
theorem tPs_cons {c : CE} {cs : CEs} {σ : L2.St} {H : Hp} {Q : List V → Hp → Prop} (h : tPs C W (.cons c cs) σ H Q) : tE C W c σ H fun x H1 => tPs C W cs σ H1 fun xs H2 => Q (x :: xs) H2 := by
  obtain ⟨Hd, ρ, τ, ν, as, hl, g, h⟩ := h
  simp only [evPs] at h
  have hv : ν.length = τ.length := by have := g.len; simp at this; omega
  refine ⟨Hd, ρ, τ, ν, as, hl, g, ?_⟩
  cases e : ev C.F c ρ with
  | bad => rw [e] at h; exact h
  | exc k d ρ' => rw [e] at h; exact h
  | ok p ρ' =>
    rw [e] at h
    simp only [Out.bind_ok] at h
    intro v H1 Hd1 as1 s1 sq1 g1
    have hl1 : σ.length = ρ'.length := by have := g1.len; simp at this; omega
    refine ⟨Hd1, ρ', τ ++ [some p], ν ++ [some v], as1, hl1, by simpa [List.append_assoc] using g1, ?_⟩
    cases e3 : evPs C.F cs ρ' with
    | bad => rw [e3] at h; exact h
    | exc k d ρ2 =>
      rw [e3] at h
      intro dx v2 H' Hd' as' s' g' hx rx
      have hl2 : σ.length = ρ2.length := by have := g'.len; simp at this; omega
      have g'' : Good C.K Hd' H' ((ρ2 ++ τ) ++ [some p]) ((σ ++ ν) ++ [some v]) as' := by simpa [List.append_assoc] using g'
      obtain ⟨a1, a2, ea, _, g3⟩ := g''.unpush (by simp [hl2, hv])
      subst ea
      exact h dx v2 H' Hd' a1 ((s1.trans s').trans Step.less) g3 hx rx
    | ok ps ρ2 =>
      rw [e3] at h
      intro vs H' Hd' as' s' sq' g' hlen
      refine h (v :: vs) H' Hd' as' (s1.trans s') (fun q => ?_) (by simpa [List.append_assoc] using g') (by simp [hlen])
      rw [quiet_cons, Bool.and_eq_true] at q
      exact (sq1 q.1).trans (sq' q.2)
theorem sPs_nil : L2.PA X [] (tPs C W .nil) := PAimp L2.pa_nil fun σ H Q h => tPs_nil h
theorem sPs_cons {e : Expr} {es : List Expr} {c : CE} {cs : CEs} (he : L2.PE X e (tE C W c)) (hr : L2.PA X es (tPs C W cs)) (hs : starEach (e :: es) X.env = (false, eval e X.env) :: starEach es X.env) : L2.PA X (e :: es) (tPs C W (.cons c cs)) :=
  PAimp (L2.pa_cons he hr hs) fun σ H Q h => tPs_cons h
theorem repR_some {K : Frag} {Hd H : Hp} : ∀ {ps : List P} {vs : List V} {as : List Addr}, RepR K Hd H (ps.map some) (vs.map some) as → RepPs K Hd H ps vs as
  | [], [], _, ⟨_, e⟩ => ⟨rfl, e⟩
  | [], _ :: _, _, ⟨e, _⟩ => by simp at e
  | p :: ps, [], _, ⟨w, r, a1, a2, e, _⟩ => by simp at e
  | p :: ps, v :: vs, _, ⟨w, r, a1, a2, e, ⟨v', ev', q⟩, qs, ea⟩ => by
    simp only [List.map_cons, List.cons.injEq] at e
    obtain ⟨e1, e2⟩ := e
    subst e2 ev'
    cases e1
    exact ⟨_, _, a1, a2, rfl, q, repR_some qs, ea⟩
theorem frs_len : ∀ ps : List P, (frs ps).length = ps.length
  | [] => rfl
  | p :: ps => by simp [frs, frs_len ps]
theorem sE_tup {es : List Expr} {cs : CEs} {k : Nat} {pos : Pos} (h : L2.PA X es (tPs C W cs)) : L2.PE X (.Tuple es k pos) (tE C W (.tup cs)) := by
  refine PEimp (L2.pe_tup h) fun σ H Q hq => ?_
  obtain ⟨Hd, ρ, τ, ν, as, hl, g, h⟩ := hq
  simp only [ev] at h
  have hv : ν.length = τ.length := by have := g.len; simp at this; omega
  refine ⟨Hd, ρ, τ, ν, as, hl, g, ?_⟩
  have qe : (CE.tup cs).quiet = cs.quiet := by simp [CE.quiet]
  rw [qe] at h
  cases e : evPs C.F cs ρ with
  | bad => rw [e] at h; exact h
  | exc k d ρ' => rw [e] at h; exact h
  | ok ps ρ' =>
    rw [e] at h
    simp only [Out.bind_ok] at h
    intro vs H1 Hd1 as1 s1 sq1 g1 hlen
    cases ek : okLen ps.length with
    | false => rw [ek] at h; simp only [Bool.false_eq_true, if_false] at h; exact h.elim
    | true =>
      rw [ek] at h
      simp only [if_true] at h
      have hz : vs.length ≤ sizeLine := by
        have := of_decide_eq_true ek
        rw [hlen, sizeLine_eq]; exact this
      refine ⟨hz, fun a ha => ?_⟩
      have hl1 : σ.length = ρ'.length := by have := g1.len; simp at this; omega
      obtain ⟨b1, b2, eb, rr, g2⟩ := g1.unpush (by simp [hl1, hv])
      subst eb
      obtain ⟨n1, n2, n3⟩ := List.nodup_append.mp g1.nd
      obtain ⟨Hd2, k1, k2, k3, k4⟩ := RepPs.freeze ps vs b2 g1.le n2 (fun a ha => g1.out a (List.mem_append_right _ ha)) (repR_some rr)
      have g3 : Good C.K Hd2 H1 (ρ' ++ τ) (σ ++ ν) b1 := g2.grow k1 k2 (Le.refl _) fun a ha => by rw [k4 a (fun z => n3 a ha a z rfl)]; exact g2.out a ha
      obtain ⟨g4, s4, l1, l2⟩ := g3.newD (o := .tup vs) ha
      have r4 : Rep C.K (L2.upd Hd2 a (.tup vs)) (.tup (frs ps)) (.ref a) := ⟨a, vs, rfl, .inl (.inl L2.upd_same), Reps.le l1 _ _ k3⟩
      refine h (.ref a) _ _ b1 ((s1.trans ⟨k1, fun _ _ e _ => e, fun a ha => .inl (List.mem_append_left _ ha), new_of k4 fun a ha => List.mem_append_right _ ha⟩).trans s4) (fun q => (sq1 q).trans l2) (g4.pushV r4)
theorem sE_lst {es : List Expr} {cs : CEs} {pos : Pos} (h : L2.PA X es (tPs C W cs)) : L2.PE X (.List es pos) (tE C W (.lst cs)) := by
  refine PEimp (L2.pe_lst h) fun σ H Q hq => ?_
  obtain ⟨Hd, ρ, τ, ν, as, hl, g, h⟩ := hq
  simp only [ev] at h
  have hv : ν.length = τ.length := by have := g.len; simp at this; omega
  refine ⟨Hd, ρ, τ, ν, as, hl, g, ?_⟩
  have qe : (CE.lst cs).quiet = cs.quiet := by simp [CE.quiet]
  rw [qe] at h
  cases e : evPs C.F cs ρ with
  | bad => rw [e] at h; exact h
  | exc k d ρ' => rw [e] at h; exact h
  | ok ps ρ' =>
    rw [e] at h
    simp only [Out.bind_ok] at h
    intro vs H1 Hd1 as1 s1 sq1 g1 hlen
    cases ek : okLen ps.length with
    | false => rw [ek] at h; simp only [Bool.false_eq_true, if_false] at h; exact h.elim
    | true =>
      rw [ek] at h
      simp only [if_true] at h
      have hz : vs.length ≤ sizeLine := by
        have := of_decide_eq_true ek
        rw [hlen, sizeLine_eq]; exact this
      refine ⟨hz, fun a ha => ?_⟩
      have hl1 : σ.length = ρ'.length := by have := g1.len; simp at this; omega
      obtain ⟨g4, s4, l2⟩ := g1.newH (o := .lst vs) ha
      obtain ⟨b1, b2, eb, rr, g2⟩ := g4.unpush (by simp [hl1, hv])
      have na := g1.fresh ha
      have nh := g1.le.none ha
      have out := g1.out
      have nd := g1.nd
      subst eb
      obtain ⟨n1, n2, n3⟩ := List.nodup_append.mp nd
      have rp : RepP C.K Hd1 (L2.upd H1 a (.lst vs)) (.lst ps) (.ref a) (a :: b2) := ⟨a, vs, b2, rfl, L2.upd_same, repR_some rr, rfl⟩
      refine h (.ref a) _ Hd1 (b1 ++ (a :: b2)) (s1.trans ⟨s4.hd, s4.keep, fun b hb => ?_, s4.new⟩) (fun q => (sq1 q).trans l2) (g2.push rp (List.nodup_cons.mpr ⟨fun z => na (List.mem_append_right _ z), n2⟩) (fun b hb z => ?_) (fun b hb => ?_))
      · rcases List.mem_append.mp hb with z | z
        · exact .inl (List.mem_append_left _ z)
        · rcases List.mem_cons.mp z with z | z
          · subst z; exact .inr ha
          · exact .inl (List.mem_append_right _ z)
      · rcases List.mem_cons.mp hb with y | y
        · subst y; exact na (List.mem_append_left _ z)
        · exact n3 b z b y rfl
      · rcases List.mem_cons.mp hb with y | y
        · subst y; exact nh
        · exact out b (List.mem_append_right _ y)
end
end PV

set_option Elab.async false
set_option linter.all false
set_option maxRecDepth 100000
set_option maxHeartbeats 4000000
/-! PvSound3: calls of defs. -/
namespace PV
open PySem PySem.Spec PyProof.Rows

/-- how a def's end is wished -/
def OnF (C : Ctx) (E : L2.XK) (w : Option V) (Hd H : Hp) (as : List Addr) (Q : L2.VK) : Out (Option P) P → Prop
  | .ok p io => ∀ v H' Hd' as', Step Hd H as Hd' H' as' → Good C.K Hd' H' [io, some p] [w, some v] as' → Q v H'
  | .exc c d io => ∀ dx v H' Hd' as', Step Hd H as Hd' H' as' → Good C.K Hd' H' [io] [w] as' → H' dx = some (.xd [("value", v)]) → Rep C.K Hd' d v → E (.ref (C.cl c)) (some dx) H'
  | .bad => False
/-- what a def promises: what the core text tells -/
def spI (C : Ctx) (np : Nat) (fn : List P → Out (Option P) P) : L2.Sp := fun vs H Q E => ∃ Hd ps as, ps.length = np ∧ Good C.K Hd H (ps.map some) (vs.map some) as ∧ OnF C E (vs.map some).head?.join Hd H as Q (fn ps)
theorem spI_len {C : Ctx} {np : Nat} {fn : List P → Out (Option P) P} {vs : List V} {H : Hp} {Q : L2.VK} {E : L2.XK} (h : spI C np fn vs H Q E) : vs.length = np := by
  obtain ⟨Hd, ps, as, e, g, _⟩ := h
  have := g.len
  simp at this
  omega
theorem reps_vals {K : Frag} {Hd H : Hp} : ∀ {ds : List D} {vs : List V}, Reps K Hd ds vs → RepR K Hd H ((vals ds).map some) (vs.map some) []
  | [], _, r => by cases (show _ = [] from r); exact ⟨rfl, rfl⟩
  | d :: ds, _, ⟨v, r, e, q, qs⟩ => by subst e; exact ⟨some v, r.map some, [], [], rfl, ⟨v, rfl, rfl, q⟩, reps_vals qs, rfl⟩
/-- two rows of slots change places -/
theorem Good.swap {K : Frag} {Hd H : Hp} {ρ τ : Rho} {σ ν : L2.St} {as : List Addr} (hl : σ.length = ρ.length) (g : Good K Hd H (ρ ++ τ) (σ ++ ν) as) : ∃ as', Good K Hd H (τ ++ ρ) (ν ++ σ) as' ∧ ∀ a, a ∈ as' ↔ a ∈ as := by
  obtain ⟨a1, a2, e, h1, h2⟩ := RepR.split hl g.rep
  subst e
  obtain ⟨n1, n2, n3⟩ := List.nodup_append.mp g.nd
  have m : ∀ a, a ∈ a2 ++ a1 ↔ a ∈ a1 ++ a2 := fun a => by simp [or_comm]
  exact ⟨a2 ++ a1, ⟨g.le, h2.app h1, List.nodup_append.mpr ⟨n2, n1, fun x hx y hy e => n3 y hy x hx e.symm⟩, fun a ha => g.out a ((m a).mp ha)⟩, m⟩
theorem Good.appV {K : Frag} {Hd H : Hp} {ρ : Rho} {σ : L2.St} {as : List Addr} {ds : List D} {vs : List V} (g : Good K Hd H ρ σ as) (r : Reps K Hd ds vs) : Good K Hd H (ρ ++ (vals ds).map some) (σ ++ vs.map some) as := by
  refine ⟨g.le, ?_, g.nd, g.out⟩
  have := g.rep.app (reps_vals (H := H) r)
  simpa using this
/-- behind a call: the caller's slots stand -/
theorem call_back {K : Frag} {Hd H Hd' H' : Hp} {ρ : Rho} {σ : L2.St} {a1 a2 as' : List Addr} {τ : Rho} {ν : L2.St} (g1 : Good K Hd H ρ σ a1) (nd : (a1 ++ a2).Nodup) (s : Step Hd H a2 Hd' H' as') (g' : Good K Hd' H' τ ν as') :
    Good K Hd' H' (ρ ++ τ) (σ ++ ν) (a1 ++ as') ∧ Step Hd H (a1 ++ a2) Hd' H' (a1 ++ as') := by
  obtain ⟨n1, n2, n3⟩ := List.nodup_append.mp nd
  have keep : ∀ a ∈ a1, ∀ o, H a = some o → H' a = some o := fun a ha o e => s.keep a o e fun z => n3 a ha a z rfl
  have dj : ∀ a ∈ as', a ∉ a1 := fun a ha z => by
    rcases s.sub a ha with y | y
    · exact n3 a z a y rfl
    · obtain ⟨o, e⟩ := g1.there z
      rw [y] at e; cases e
  refine ⟨⟨g'.le, (g1.rep.mono s.hd keep).app g'.rep, List.nodup_append.mpr ⟨n1, g'.nd, fun x hx y hy e => by subst e; exact dj x hy hx⟩, fun a ha => ?_⟩, ⟨s.hd, fun a o e n => s.keep a o e fun z => n (List.mem_append_right _ z), fun a ha => ?_, fun a o e => (s.new a o e).imp id (Or.imp (List.mem_append_right _) id)⟩⟩
  · rcases List.mem_append.mp ha with z | z
    · cases e : Hd' a with
      | none => rfl
      | some o =>
        exfalso
        rcases s.new a o e with y | y | y
        · rw [g1.out a z] at y; cases y
        · exact n3 a z a y rfl
        · obtain ⟨u, q⟩ := g1.there z
          rw [y] at q; cases q
    · exact g'.out a z
  · rcases List.mem_append.mp ha with z | z
    · exact .inl (List.mem_append_left _ z)
    · rcases s.sub a z with y | y
      · exact .inl (List.mem_append_right _ y)
      · exact .inr y

section
variable {C : Ctx} {W : L2.WX} {X : L2.Cx}
def WEs (W : L2.WX) : L2.St → L2.XK := fun σ cls d H => W cls d σ H
/-- the reading of a call, from what the core text tells -/
theorem tE_call {f np : Nat} {cs : CEs} {ds : List D} {dvs : List V} {σ : L2.St} {H : Hp} {Q : L2.VK} (hd : ∀ Hd, Reps C.K Hd ds dvs) (hnp : ∀ ps, C.F.fn f ps ≠ .bad → ps.length = np) (h : tE C W (.call f cs ds) σ H Q) :
    tPs C W cs σ H fun vs H1 => spI C np (C.F.fn f) (vs ++ dvs) H1 Q (WEs W σ) := by
  obtain ⟨Hd, ρ, τ, ν, as, hl, g, h⟩ := h
  have hv : ν.length = τ.length := by have := g.len; simp at this; omega
  refine ⟨Hd, ρ, τ, ν, as, hl, g, ?_⟩
  simp only [ev] at h
  cases e : evPs C.F cs ρ with
  | bad => rw [e] at h; exact h
  | exc k d ρ' => rw [e] at h; exact h
  | ok ps ρ' =>
    rw [e] at h
    simp only [Out.bind_ok] at h
    intro vs H1 Hd1 as1 s1 sq1 g1 hlen
    have hl1 : σ.length = ρ'.length := by have := g1.len; simp at this; omega
    obtain ⟨b1, b2, eb, rr, g2⟩ := g1.unpush (by simp [hl1, hv])
    subst eb
    obtain ⟨n1, n2, n3⟩ := List.nodup_append.mp g1.nd
    have g3 : Good C.K Hd1 H1 (ps.map some) (vs.map some) b2 := ⟨g1.le, rr, n2, fun a ha => g1.out a (List.mem_append_right _ ha)⟩
    have g4 := g3.appV (hd Hd1)
    refine ⟨Hd1, ps ++ vals ds, b2, ?_, by simpa using g4, ?_⟩
    · refine hnp _ fun z => ?_
      rw [z] at h; exact h
    cases ef : C.F.fn f (ps ++ vals ds) with
    | bad => rw [ef] at h; exact h
    | exc k d io =>
      rw [ef] at h
      intro dx v H' Hd' as' s' g' hx rx
      obtain ⟨g5, s5⟩ := call_back g2 g1.nd s' g'
      obtain ⟨c1, c2, ec, _, g6⟩ := g5.unpush (by simp [hl1, hv])
      rw [ec] at s5
      exact h dx v H' Hd' c1 ((s1.trans s5).trans Step.less) g6 hx rx
    | ok p io =>
      rw [ef] at h
      intro v H' Hd' as' s' g'
      obtain ⟨g5, s5⟩ := call_back g2 g1.nd s' g'
      -- what the first argument is then is forgotten
      obtain ⟨c1, c2, ec, rio, rp⟩ : ∃ c1 c2, as' = c1 ++ c2 ∧ RepR C.K Hd' H' [io] [(List.map some (vs ++ dvs)).head?.join] c1 ∧ RepR C.K Hd' H' [some p] [some v] c2 :=
        RepR.split (ρ := [io]) (τ := [some p]) (σ := [_]) (ν := [some v]) rfl g'.rep
      subst ec
      have nd := g5.nd
      rw [← List.append_assoc] at nd
      have sub : ∀ a, a ∈ b1 ++ c2 → a ∈ b1 ++ (c1 ++ c2) := fun a ha => by
        rcases List.mem_append.mp ha with z | z
        · exact List.mem_append_left _ z
        · exact List.mem_append_right _ (List.mem_append_right _ z)
      have g6 : Good C.K Hd' H' ((ρ' ++ τ) ++ [some p]) ((σ ++ ν) ++ [some v]) (b1 ++ c2) := by
        obtain ⟨m1, m2, m3⟩ := List.nodup_append.mp g5.nd
        obtain ⟨k1, k2, k3⟩ := List.nodup_append.mp m2
        refine ⟨g5.le, RepR.app (g2.rep.mono s'.hd fun a ha o e => s'.keep a o e fun z => n3 a ha a z rfl) rp, List.nodup_append.mpr ⟨m1, k2, fun x hx y hy => m3 x hx y (List.mem_append_right _ hy)⟩, fun a ha => g5.out a (sub a ha)⟩
      refine h v H' Hd' (b1 ++ c2) (s1.trans ⟨s5.hd, s5.keep, fun a ha => s5.sub a (sub a ha), s5.new⟩) (fun q => by cases q) g6
end
end PV

set_option Elab.async false
set_option linter.all false
set_option maxRecDepth 100000
set_option maxHeartbeats 4000000
/-! PvSound4: statements without loops. -/
namespace PV
open PySem PySem.Spec PyProof.Rows

def OnS (C : Ctx) (W : L2.WX) (k0 : Bool) (σ ν : L2.St) (τ : Rho) (Hd H : Hp) (as : List Addr) (D : L2.Ends) : Out Rho Fl → Prop
  | .ok .nx ρ' => ∀ σ' H' Hd' as', Step Hd H as Hd' H' as' → σ'.length = σ.length → (k0 = true → σ'[0]? = σ[0]?) → Good C.K Hd' H' (ρ' ++ τ) (σ' ++ ν) as' → D.nx σ' H'
  | .ok (.rt p) ρ' => ∀ v σ' H' Hd' as', Step Hd H as Hd' H' as' → σ'.length = σ.length → (k0 = true → σ'[0]? = σ[0]?) → Good C.K Hd' H' ((ρ' ++ τ) ++ [some p]) ((σ' ++ ν) ++ [some v]) as' → D.rt v H'
  | .exc c d ρ' => ∀ dx v σ' H' Hd' as', Step Hd H as Hd' H' as' → σ'.length = σ.length → (k0 = true → σ'[0]? = σ[0]?) → Good C.K Hd' H' (ρ' ++ τ) (σ' ++ ν) as' → H' dx = some (.xd [("value", v)]) → Rep C.K Hd' d v → W (.ref (C.cl c)) (some dx) σ' H'
  | .bad => False
def tS (C : Ctx) (W : L2.WX) (s : CS) : L2.TS := fun D σ H => ∃ Hd ρ τ ν as, σ.length = ρ.length ∧ Good C.K Hd H (ρ ++ τ) (σ ++ ν) as ∧ OnS C W s.keep0 σ ν τ Hd H as D (evS C.F s ρ)
def tSs (C : Ctx) (W : L2.WX) (ss : CSs) : L2.TS := fun D σ H => ∃ Hd ρ τ ν as, σ.length = ρ.length ∧ Good C.K Hd H (ρ ++ τ) (σ ++ ν) as ∧ OnS C W ss.keep0 σ ν τ Hd H as D (evSs C.F ss ρ)
theorem OnS.step {C : Ctx} {W : L2.WX} {k k' : Bool} {σ σ1 ν : L2.St} {τ : Rho} {Hd H Hd1 H1 : Hp} {as as1 : List Addr} {D : L2.Ends} (s : Step Hd H as Hd1 H1 as1) (hl : σ1.length = σ.length) (hk : k = true → k' = true ∧ σ1[0]? = σ[0]?) :
    ∀ {x : Out Rho Fl}, OnS C W k σ ν τ Hd H as D x → OnS C W k' σ1 ν τ Hd1 H1 as1 D x
  | .ok .nx ρ', h => fun σ' H' Hd' as' s' l' k0 g => h σ' H' Hd' as' (s.trans s') (l'.trans hl) (fun e => (k0 (hk e).1).trans (hk e).2) g
  | .ok (.rt p) ρ', h => fun v σ' H' Hd' as' s' l' k0 g => h v σ' H' Hd' as' (s.trans s') (l'.trans hl) (fun e => (k0 (hk e).1).trans (hk e).2) g
  | .exc c d ρ', h => fun dx v σ' H' Hd' as' s' l' k0 g => h dx v σ' H' Hd' as' (s.trans s') (l'.trans hl) (fun e => (k0 (hk e).1).trans (hk e).2) g
  | .bad, h => h
theorem PSimp {X : L2.Cx} {st : Stmt} {t t' : L2.TS} (h : L2.PS X st t) (i : ∀ D σ H, t' D σ H → t D σ H) : L2.PS X st t' := ⟨fun pins s σ H D I hq => h.run pins s σ H D I (i D σ H hq)⟩
theorem PSsimp {X : L2.Cx} {st : List Stmt} {t t' : L2.TS} (h : L2.PSs X st t) (i : ∀ D σ H, t' D σ H → t D σ H) : L2.PSs X st t' := ⟨fun pins s σ H D I hq => h.run pins s σ H D I (i D σ H hq)⟩

section
variable {X : L2.Cx} {C : Ctx} {W : L2.WX}
theorem sSs_nil : L2.PSs X [] (tSs C W .nil) := by
  refine PSsimp L2.pss_nil fun D σ H h => ?_
  obtain ⟨Hd, ρ, τ, ν, as, hl, g, h⟩ := h
  exact h σ H Hd as (Step.refl _ _ _) rfl (fun _ => rfl) g
theorem sSs_cons {s : Stmt} {ss : List Stmt} {c : CS} {cs : CSs} (h1 : L2.PS X s (tS C W c)) (h2 : L2.PSs X ss (tSs C W cs)) : L2.PSs X (s :: ss) (tSs C W (.cons c cs)) := by
  refine PSsimp (L2.pss_cons h1 h2) fun D σ H h => ?_
  obtain ⟨Hd, ρ, τ, ν, as, hl, g, h⟩ := h
  have hv : ν.length = τ.length := by have := g.len; simp at this; omega
  refine ⟨Hd, ρ, τ, ν, as, hl, g, ?_⟩
  have ek : (CSs.cons c cs).keep0 = (c.keep0 && cs.keep0) := by simp [CSs.keep0]
  rw [ek] at h
  simp only [evSs] at h
  cases e : evS C.F c ρ with
  | bad => rw [e] at h; exact h
  | exc k d ρ' =>
    rw [e] at h
    intro dx v σ' H' Hd' as' s' l' k0 g'
    exact h dx v σ' H' Hd' as' s' l' (fun q => k0 (Bool.and_eq_true_iff.mp q).1) g'
  | ok f ρ' =>
    rw [e] at h
    cases f with
    | rt p =>
      intro v σ' H' Hd' as' s' l' k0 g'
      exact h v σ' H' Hd' as' s' l' (fun q => k0 (Bool.and_eq_true_iff.mp q).1) g'
    | nx =>
      intro σ' H' Hd' as' s' l' k0 g'
      have hl' : σ'.length = ρ'.length := by have := g'.len; simp at this; omega
      exact ⟨Hd', ρ', τ, ν, as', hl', g', OnS.step s' l' (fun q => ⟨(Bool.and_eq_true_iff.mp q).2, k0 (Bool.and_eq_true_iff.mp q).1⟩) h⟩
/-- the first part of a statement: an expression -/
theorem tS_bind {k0 : Bool} {σ ν : L2.St} {τ ρ : Rho} {Hd H : Hp} {as : List Addr} {D : L2.Ends} {a : CE} {f : P → Rho → Out Rho Fl} {Q1 : L2.VK} (hl : σ.length = ρ.length) (g : Good C.K Hd H (ρ ++ τ) (σ ++ ν) as) (h : OnS C W k0 σ ν τ Hd H as D ((ev C.F a ρ).bind f))
    (hQ : ∀ p ρ' v H' Hd' as', σ.length = ρ'.length → Step Hd H as Hd' H' as' → Good C.K Hd' H' ((ρ' ++ τ) ++ [some p]) ((σ ++ ν) ++ [some v]) as' → OnS C W k0 σ ν τ Hd' H' as' D (f p ρ') → Q1 v H') : tE C W a σ H Q1 := by
  have hv : ν.length = τ.length := by have := g.len; simp at this; omega
  refine ⟨Hd, ρ, τ, ν, as, hl, g, ?_⟩
  cases e : ev C.F a ρ with
  | bad => rw [e] at h; exact h
  | exc c d ρ' =>
    rw [e] at h
    intro dx v H' Hd' as' s' g'
    exact h dx v σ H' Hd' as' s' rfl (fun _ => rfl) g'
  | ok p ρ' =>
    rw [e] at h
    intro v H' Hd' as' s sq g'
    refine hQ p ρ' v H' Hd' as' ?_ s g' (OnS.step s rfl (fun q => ⟨q, rfl⟩) h)
    have := g'.len; simp at this; omega
/-- the last value goes to a name -/
theorem Good.store {K : Frag} {Hd H : Hp} {ρ τ : Rho} {σ ν : L2.St} {as : List Addr} {p : P} {v : V} {i : Nat} (hl : σ.length = ρ.length) (hi : i < ρ.length) (g : Good K Hd H ((ρ ++ τ) ++ [some p]) ((σ ++ ν) ++ [some v]) as) :
    ∃ as', Good K Hd H (ρ.set i (some p) ++ τ) (σ.set i (some v) ++ ν) as' ∧ Step Hd H as Hd H as' := by
  obtain ⟨v', b1, b2, ew, ea, rp, g1⟩ := g.last
  cases ew
  subst ea
  obtain ⟨o, eo⟩ : ∃ o, (ρ ++ τ)[i]? = some o := ⟨(ρ ++ τ)[i]'(by simp; omega), by simp [List.getElem?_eq_getElem]⟩
  obtain ⟨l, a1, r, w, e1, ew, ro, put⟩ := g1.rep.at eo
  subst e1
  obtain ⟨n1, n2, n3⟩ := List.nodup_append.mp g.nd
  obtain ⟨m1, m2, m3⟩ := nodup_mid n1
  have sub : ∀ a, a ∈ l ++ (b2 ++ r) → a ∈ l ++ (a1 ++ r) ++ b2 := fun a ha => by
    simp only [List.mem_append] at ha ⊢
    rcases ha with z | z | z
    · exact .inl (.inl z)
    · exact .inr z
    · exact .inl (.inr (.inr z))
  have nd : (l ++ (b2 ++ r)).Nodup := by
    obtain ⟨p1, p2, p3⟩ := List.nodup_append.mp m2
    refine List.nodup_append.mpr ⟨p1, List.nodup_append.mpr ⟨n2, p2, fun x hx y hy e => n3 y (List.mem_append_right _ (List.mem_append_right _ hy)) x hx e.symm⟩, fun x hx y hy e => ?_⟩
    rcases List.mem_append.mp hy with z | z
    · exact n3 x (List.mem_append_left _ hx) y z e
    · exact p3 x hx y z e
  refine ⟨l ++ (b2 ++ r), ⟨g.le, ?_, nd, fun a ha => g.out a (sub a ha)⟩, ⟨Le.refl _, fun _ _ e _ => e, fun a ha => .inl (sub a ha), fun _ _ e => .inl e⟩⟩
  have := put Hd H (Le.refl _) (fun _ _ _ z => z) (some p) (some v) b2 ⟨v, rfl, rp⟩
  rw [set_left hi, set_left (by omega)] at this
  exact this
theorem set0 {σ : L2.St} {i : Nat} {w : Option V} (h : i ≠ 0) : (σ.set i w)[0]? = σ[0]? := List.getElem?_set_ne h
theorem sS_asg {st : Stmt} {i : Nat} {c : CE} (h : L2.PS X st (L2.tAsg (tE C W c) (L2.gName i))) : L2.PS X st (tS C W (.asg i c)) := by
  refine PSimp h fun D σ H h => ?_
  obtain ⟨Hd, ρ, τ, ν, as, hl, g, h⟩ := h
  simp only [evS] at h
  refine tS_bind hl g h fun p ρ' v H' Hd' as' hl' s g' h' => ?_
  unfold setP at h'
  by_cases hi : i < ρ'.length
  · rw [if_pos hi] at h'
    obtain ⟨as2, g2, s2⟩ := g'.store hl' hi
    refine h' (σ.set i (some v)) H' Hd' as2 s2 (by simp) (fun q => ?_) g2
    simp only [CS.keep0] at q
    exact set0 (of_decide_eq_true q)
  · rw [if_neg hi] at h'; exact h'.elim
theorem sS_exp {e : Expr} {c : CE} {pos : Pos} (he : L2.PE X e (tE C W c)) (hs : swapsWith e none pos.line X.env = pure false) : L2.PS X (.Expr e pos) (tS C W (.exp c)) := by
  refine PSimp (L2.ps_expr he hs) fun D σ H h => ?_
  obtain ⟨Hd, ρ, τ, ν, as, hl, g, h⟩ := h
  simp only [evS] at h
  have hv : ν.length = τ.length := by have := g.len; simp at this; omega
  refine tS_bind hl g h fun p ρ' v H' Hd' as' hl' s g' h' => ?_
  obtain ⟨b1, b2, eb, _, g2⟩ := g'.unpush (by simp [hl', hv])
  subst eb
  exact h' σ H' Hd' b1 Step.less rfl (fun _ => rfl) g2
theorem sS_ret {e : Expr} {c : CE} {pos : Pos} (he : L2.PE X e (tE C W c)) (hc : ∀ i, c ≠ .var i) : L2.PS X (.Return (some e) pos) (tS C W (.ret c)) := by
  refine PSimp (L2.ps_ret he) fun D σ H h => ?_
  obtain ⟨Hd, ρ, τ, ν, as, hl, g, h⟩ := h
  have e1 : evS C.F (.ret c) ρ = (ev C.F c ρ).bind fun p ρ1 => .ok (.rt p) ρ1 := by
    cases c <;> first | rfl | exact absurd rfl (hc _)
  rw [e1] at h
  refine tS_bind hl g h fun p ρ' v H' Hd' as' hl' s g' h' => ?_
  exact h' v σ H' Hd' as' (Step.refl _ _ _) rfl (fun _ => rfl) g'
theorem sS_retV {x : Str} {i : Nat} {pos pos' : Pos} (he : L2.PE X (.Name x pos') (L2.tVar i)) : L2.PS X (.Return (some (.Name x pos')) pos) (tS C W (.ret (.var i))) := by
  refine PSimp (L2.ps_ret he) fun D σ H h => ?_
  obtain ⟨Hd, ρ, τ, ν, as, hl, g, h⟩ := h
  simp only [evS] at h
  cases e : ρ[i]? with
  | none => rw [e] at h; exact h.elim
  | some o =>
    cases o with
    | none => rw [e] at h; exact h.elim
    | some p =>
      rw [e] at h
      obtain ⟨hlt, _⟩ := List.getElem?_eq_some_iff.mp e
      obtain ⟨l, a1, r, w, ea, ew, ⟨v, ev', rp⟩, put⟩ := g.rep.at (lookR (τ := τ) e)
      subst ev' ea
      rw [List.getElem?_append_left (by omega)] at ew
      refine ⟨v, ew, ?_⟩
      obtain ⟨n1, n2, n3⟩ := nodup_mid g.nd
      have r1 := put Hd H (Le.refl _) (fun _ _ _ z => z) none (some v) [] rfl
      rw [set_left hlt, set_left (by omega)] at r1
      have eσ : σ.set i (some v) = σ := by
        apply List.ext_getElem?
        intro k
        by_cases hk : k = i
        · subst hk; rw [List.getElem?_set_self (by omega)]; exact ew.symm
        · rw [List.getElem?_set_ne (Ne.symm hk)]
      rw [eσ] at r1
      have g1 : Good C.K Hd H (ρ.set i none ++ τ) (σ ++ ν) (l ++ r) := ⟨g.le, by simpa using r1, n2, fun a ha => g.out a (by
        simp only [List.mem_append] at ha ⊢
        rcases ha with z | z
        · exact .inl z
        · exact .inr (.inr z))⟩
      refine h v σ H Hd ((l ++ r) ++ a1) ⟨Le.refl _, fun _ _ e _ => e, fun a ha => .inl ?_, fun _ _ e => .inl e⟩ rfl (fun _ => rfl) (g1.push rp n1 (fun a ha => n3 a ha) (fun a ha => g.out a (List.mem_append_right _ (List.mem_append_left _ ha))))
      simp only [List.mem_append] at ha ⊢
      rcases ha with (z | z) | z
      · exact .inl z
      · exact .inr (.inr z)
      · exact .inr (.inl z)
theorem sS_pass {pos : Pos} : L2.PS X (.Pass pos) (tS C W .pass) := by
  refine PSimp L2.ps_pass fun D σ H h => ?_
  obtain ⟨Hd, ρ, τ, ν, as, hl, g, h⟩ := h
  exact h σ H Hd as (Step.refl _ _ _) rfl (fun _ => rfl) g
theorem sS_never {st : Stmt} : L2.PS X st (tS C W .never) := PSimp L2.ps_never fun D σ H h => by
  obtain ⟨Hd, ρ, τ, ν, as, hl, g, h⟩ := h
  exact h
theorem onB_goS {k0 : Bool} {σ ν : L2.St} {τ ρ : Rho} {Hd H : Hp} {as : List Addr} {D : L2.Ends} {p : P} {v : V} {x y : Out Rho Fl} (g : Good C.K Hd H ((ρ ++ τ) ++ [some p]) ((σ ++ ν) ++ [some v]) as) (h : OnS C W k0 σ ν τ Hd H as D (onB p x y)) :
    ∃ k, v = .bl k ∧ Good C.K Hd H (ρ ++ τ) (σ ++ ν) as ∧ (k = true → OnS C W k0 σ ν τ Hd H as D x) ∧ (k = false → OnS C W k0 σ ν τ Hd H as D y) := by
  rcases onB_cases (p := p) (x := x) (y := y) with ⟨e, e2⟩ | ⟨e, e2⟩ | e2
  · subst e
    obtain ⟨v', a1, a2, ew, ea, ⟨e3, rd⟩, g1⟩ := g.last
    cases ew
    subst e3
    simp only [List.append_nil] at ea
    subst ea
    rw [e2] at h
    exact ⟨true, rd, g1, fun _ => h, fun z => by cases z⟩
  · subst e
    obtain ⟨v', a1, a2, ew, ea, ⟨e3, rd⟩, g1⟩ := g.last
    cases ew
    subst e3
    simp only [List.append_nil] at ea
    subst ea
    rw [e2] at h
    exact ⟨false, rd, g1, fun z => (by cases z), fun _ => h⟩
  · rw [e2] at h; exact h.elim
theorem sS_if {t : Expr} {a b : List Stmt} {ct : CE} {ca cb : CSs} {pos : Pos} (ht : L2.PT X t (tT C W ct)) (ha : L2.PSs X a (tSs C W ca)) (hb : L2.PSs X b (tSs C W cb)) : L2.PS X (.If t a b pos) (tS C W (.if_ ct ca cb)) := by
  refine PSimp (L2.ps_if ht ha hb) fun D σ H h => ?_
  obtain ⟨Hd, ρ, τ, ν, as, hl, g, h⟩ := h
  simp only [evS] at h
  refine tS_bind hl g h fun p ρ' v H' Hd' as' hl' s g' h' => ?_
  obtain ⟨k, ev', g1, h1, h2⟩ := onB_goS g' h'
  refine ⟨k, ev', ?_⟩
  have ek : (CS.if_ ct ca cb).keep0 = (ca.keep0 && cb.keep0) := by simp [CS.keep0]
  cases k with
  | true => exact ⟨Hd', ρ', τ, ν, as', hl', g1, OnS.step (Step.refl _ _ _) rfl (fun q => by rw [ek, Bool.and_eq_true] at q; exact ⟨q.1, rfl⟩) (h1 rfl)⟩
  | false => exact ⟨Hd', ρ', τ, ν, as', hl', g1, OnS.step (Step.refl _ _ _) rfl (fun q => by rw [ek, Bool.and_eq_true] at q; exact ⟨q.2, rfl⟩) (h2 rfl)⟩

/-! ### lists that are changed -/
/-- a held list apart: it may be put anew -/
theorem Good.lst {K : Frag} {Hd H : Hp} {ρ τ : Rho} {σ ν : L2.St} {as : List Addr} {i : Nat} {ps : List P} (hl : σ.length = ρ.length) (g : Good K Hd H (ρ ++ τ) (σ ++ ν) as) (e : ρ[i]? = some (some (.lst ps))) :
    ∃ a vs a1, σ[i]? = some (some (.ref a)) ∧ H a = some (.lst vs) ∧ RepPs K Hd H ps vs a1 ∧ (a :: a1).Nodup ∧ (∀ b ∈ a :: a1, b ∈ as) ∧ ∀ ps' vs' a1' Hd' H', Le Hd Hd' → Le Hd' H' → (∀ b o, b ≠ a → b ∈ as → H b = some o → H' b = some o) → H' a = some (.lst vs') → RepPs K Hd' H' ps' vs' a1' → a1'.Nodup → (∀ b ∈ a1', b ≠ a ∧ Hd' b = none ∧ (b ∈ a1 ∨ b ∉ as)) → (∀ b ∈ as, Hd' b = none) →
      ∃ as', Good K Hd' H' (ρ.set i (some (.lst ps')) ++ τ) (σ ++ ν) as' ∧ ∀ b ∈ as', (b ∈ as ∧ b ∉ a1) ∨ b ∈ a1' := by
  obtain ⟨hlt, _⟩ := List.getElem?_eq_some_iff.mp e
  obtain ⟨l, c1, r, w, ea, ew, ⟨v, ev', rp⟩, put⟩ := g.rep.at (lookR (τ := τ) e)
  subst ev' ea
  obtain ⟨a, vs, a1, e1, hH, rr, ec⟩ := rp
  subst e1 ec
  rw [List.getElem?_append_left (by omega)] at ew
  obtain ⟨n1, n2, n3⟩ := nodup_mid g.nd
  have eσ : σ.set i (some (.ref a)) = σ := by
    apply List.ext_getElem?
    intro k
    by_cases hk : k = i
    · subst hk; rw [List.getElem?_set_self (by omega)]; exact ew.symm
    · rw [List.getElem?_set_ne (Ne.symm hk)]
  refine ⟨a, vs, a1, ew, hH, rr, n1, fun b hb => List.mem_append_right _ (List.mem_append_left _ hb), fun ps' vs' a1' Hd' H' h1 h2 h3 h4 h5 h6 h7 h8 => ?_⟩
  have r1 := put Hd' H' h1 (fun b hb o eo => h3 b o (fun z => n3 b (by rw [z]; exact List.mem_cons_self ..) (by simpa [List.mem_append] using hb)) (by simp only [List.mem_append]; rcases hb with z | z; exact .inl z; exact .inr (.inr z)) eo) (some (.lst ps')) (some (.ref a)) (a :: a1') ⟨_, rfl, a, vs', a1', rfl, h4, h5, rfl⟩
  rw [set_left hlt, set_left (by omega), eσ] at r1
  have sub : ∀ b ∈ l ++ ((a :: a1') ++ r), (b ∈ l ++ ((a :: a1) ++ r) ∧ b ∉ a1) ∨ b ∈ a1' := fun b hb => by
    have nl : b ∈ l ++ r → b ∉ a1 := fun h z => n3 b (List.mem_cons_of_mem _ z) h
    simp only [List.mem_append, List.mem_cons] at hb nl ⊢
    rcases hb with z | (z | z) | z
    · exact .inl ⟨.inl z, nl (.inl z)⟩
    · refine .inl ⟨.inr (.inl (.inl z)), ?_⟩
      rw [z]; exact (List.nodup_cons.mp n1).1
    · exact .inr z
    · exact .inl ⟨.inr (.inr z), nl (.inr z)⟩
  have oth : ∀ b, b ∈ l ++ r → b ∉ a :: a1' := fun b hb z => by
    rcases List.mem_cons.mp z with y | y
    · subst y; exact n3 b (List.mem_cons_self ..) hb
    · rcases (h7 b y).2.2 with x | x
      · exact n3 b (List.mem_cons_of_mem _ x) hb
      · refine x ?_
        rcases List.mem_append.mp hb with q | q
        · exact List.mem_append_left _ q
        · exact List.mem_append_right _ (List.mem_append_right _ q)
  obtain ⟨p1, p2, p3⟩ := List.nodup_append.mp n2
  refine ⟨l ++ ((a :: a1') ++ r), ⟨h2, r1, ?_, fun b hb => ?_⟩, sub⟩
  · refine List.nodup_append.mpr ⟨p1, List.nodup_append.mpr ⟨List.nodup_cons.mpr ⟨fun z => (h7 a z).1 rfl, h6⟩, p2, fun x hx y hy e => oth y (List.mem_append_right _ hy) (e ▸ hx)⟩, fun x hx y hy e => ?_⟩
    rcases List.mem_append.mp hy with z | z
    · exact oth x (List.mem_append_left _ hx) (e ▸ z)
    · exact p3 x hx y z e
  · rcases sub b hb with z | z
    · exact h8 b z.1
    · exact (h7 b z).2.1
end
end PV

set_option Elab.async false
set_option linter.all false
set_option maxRecDepth 100000
set_option maxHeartbeats 4000000
/-! PvSound5: lists that are changed; calls that change their first argument. -/
namespace PV
open PySem PySem.Spec PyProof.Rows
section
variable {K : Frag} {Hd H : Hp}
theorem RepPs.app : ∀ {ps qs : List P} {vs ws : List V} {a b : List Addr}, RepPs K Hd H ps vs a → RepPs K Hd H qs ws b → RepPs K Hd H (ps ++ qs) (vs ++ ws) (a ++ b)
  | [], _, _, _, _, _, ⟨e, ea⟩, s => by subst e ea; exact s
  | p :: ps, qs, _, ws, _, b, ⟨v, r, b1, b2, e, q, qs', ea⟩, s => by
    subst e ea
    exact ⟨v, r ++ ws, b1, b2 ++ b, rfl, q, qs'.app s, by simp⟩
theorem RepPs.len : ∀ {ps : List P} {vs : List V} {a : List Addr}, RepPs K Hd H ps vs a → vs.length = ps.length
  | [], _, _, ⟨e, _⟩ => by subst e; rfl
  | p :: ps, _, _, ⟨v, r, b1, b2, e, q, qs', ea⟩ => by subst e; simp [qs'.len]
/-- one item apart -/
theorem RepPs.at : ∀ {ps : List P} {vs : List V} {as : List Addr} {k : Nat} {p : P}, RepPs K Hd H ps vs as → ps[k]? = some p → ∃ v l a1 r, vs[k]? = some v ∧ as = l ++ (a1 ++ r) ∧ RepP K Hd H p v a1 ∧ RepPs K Hd H (ps.eraseIdx k) (vs.eraseIdx k) (l ++ r) ∧
      ∀ p' v' a1', RepP K Hd H p' v' a1' → RepPs K Hd H (ps.set k p') (vs.set k v') (l ++ (a1' ++ r))
  | [], _, _, k, _, _, e => by simp at e
  | p :: ps, _, _, 0, x, ⟨v, r, b1, b2, e, q, qs, ea⟩, e1 => by
    subst e ea
    simp at e1; subst e1
    exact ⟨v, [], b1, b2, rfl, rfl, q, by simpa using qs, fun p' v' a1' q' => ⟨v', r, a1', b2, rfl, q', qs, rfl⟩⟩
  | p :: ps, _, _, k + 1, x, ⟨v, r, b1, b2, e, q, qs, ea⟩, e1 => by
    subst e ea
    obtain ⟨w, l, a1, rr, h1, h2, h3, h4, h5⟩ := RepPs.at (k := k) qs (by simpa using e1)
    refine ⟨w, b1 ++ l, a1, rr, by simpa using h1, by rw [h2]; simp, h3, ⟨v, r.eraseIdx k, b1, l ++ rr, by simp, q, h4, by simp⟩, fun p' v' a1' q' => ⟨v, r.set k v', b1, l ++ (a1' ++ rr), by simp, q, h5 p' v' a1' q', by simp⟩⟩
end
section
variable {X : L2.Cx} {C : Ctx} {W : L2.WX}
/-- what held tells -/
theorem held_at {K : Frag} {Hd H : Hp} {ρ τ : Rho} {σ ν : L2.St} {as : List Addr} {i : Nat} (hl : σ.length = ρ.length) (g : Good K Hd H (ρ ++ τ) (σ ++ ν) as) (e : held ρ i = true) : ∃ a vs, σ[i]? = some (some (.ref a)) ∧ H a = some (.lst vs) := by
  unfold held at e
  cases e1 : ρ[i]? with
  | none => rw [e1] at e; cases e
  | some o =>
    cases o with
    | none => rw [e1] at e; cases e
    | some p =>
      cases p with
      | lst ps =>
        obtain ⟨a, vs, a1, f1, f2, _⟩ := g.lst hl e1
        exact ⟨a, vs, f1, f2⟩
      | val _ => rw [e1] at e; cases e
      | dct _ => rw [e1] at e; cases e
      | obj _ _ => rw [e1] at e; cases e
/-- a held list is changed: its items ps' at vs', which hold a1' -/
theorem Good.lst2 {K : Frag} {Hd H : Hp} {ρ τ : Rho} {σ ν : L2.St} {as : List Addr} {i : Nat} {ps : List P} (hl : σ.length = ρ.length) (g : Good K Hd H (ρ ++ τ) (σ ++ ν) as) (e : ρ[i]? = some (some (.lst ps))) :
    ∃ a vs a1, σ[i]? = some (some (.ref a)) ∧ H a = some (.lst vs) ∧ RepPs K Hd H ps vs a1 ∧ (a :: a1).Nodup ∧ (∀ b ∈ a :: a1, b ∈ as) ∧ ∀ ps' vs' a1' bs, (as ++ bs).Nodup → (∀ b ∈ bs, Hd b = none) → RepPs K Hd H ps' vs' a1' → a1'.Nodup → (∀ b ∈ a1', b ∈ a1 ∨ b ∈ bs) →
      ∃ as', Good K Hd (L2.upd H a (.lst vs')) (ρ.set i (some (.lst ps')) ++ τ) (σ ++ ν) as' ∧ Step Hd H (as ++ bs) Hd (L2.upd H a (.lst vs')) as' ∧ ∀ b ∈ as', (b ∈ as ∧ b ∉ a1) ∨ b ∈ a1' := by
  obtain ⟨a, vs, a1, f1, f2, f3, f4, f5, put⟩ := g.lst hl e
  refine ⟨a, vs, a1, f1, f2, f3, f4, f5, fun ps' vs' a1' bs hn ho r1 r2 r3 => ?_⟩
  obtain ⟨m1, m2⟩ := List.nodup_cons.mp f4
  obtain ⟨n1, n2, n3⟩ := List.nodup_append.mp hn
  have ha : a ∈ as := f5 a (List.mem_cons_self ..)
  have hda : Hd a = none := g.out a ha
  have nea : ∀ b ∈ a1', b ≠ a := fun b hb z => by
    subst z
    rcases r3 b hb with y | y
    · exact m1 y
    · exact n3 b ha b y rfl
  obtain ⟨as', g2, sub⟩ := put ps' vs' a1' Hd (L2.upd H a (.lst vs')) (Le.refl _) (g.le.into hda) (fun b o hb _ eo => by rw [L2.upd_ne hb]; exact eo) L2.upd_same (RepPs.mono (Le.refl _) ps' vs' a1' (fun b hb o eo => by rw [L2.upd_ne (nea b hb)]; exact eo) r1) r2
    (fun b hb => ⟨nea b hb, by
      rcases r3 b hb with y | y
      · exact g.out b (f5 b (List.mem_cons_of_mem _ y))
      · exact ho b y, by
      rcases r3 b hb with y | y
      · exact .inl y
      · exact .inr fun z => n3 b z b y rfl⟩) g.out
  refine ⟨as', g2, ⟨Le.refl _, fun b o eo nb => ?_, fun b hb => .inl ?_, fun _ _ e => .inl e⟩, sub⟩
  · rw [L2.upd_ne (fun z => by subst z; exact nb (List.mem_append_left _ ha))]; exact eo
  · rcases sub b hb with y | y
    · exact List.mem_append_left _ y.1
    · rcases r3 b y with x | x
      · exact List.mem_append_left _ (f5 b (List.mem_cons_of_mem _ x))
      · exact List.mem_append_right _ x
/-- the list in slot i grows by one item -/
theorem sS_app {st : Stmt} {i : Nat} {c : CE} (h : L2.PS X st (L2.tDrop (L2.tBM X.K "list" L2.rAppend (L2.tVar i) (L2.tCons (tE C W c) L2.tNil)))) : L2.PS X st (tS C W (.app i c)) := by
  refine PSimp h fun D σ H h => ?_
  obtain ⟨Hd, ρ, τ, ν, as, hl, g, h⟩ := h
  simp only [evS] at h
  cases eh : held ρ i with
  | false => rw [eh] at h; exact h.elim
  | true =>
    rw [eh] at h
    simp only [Bool.not_true, Bool.false_eq_true, if_false] at h
    obtain ⟨a, vs0, e1, e2⟩ := held_at hl g eh
    refine ⟨.ref a, e1, .inl ⟨rfl, vs0, .inl (.inl e2)⟩, ?_⟩
    refine tS_bind hl g h fun p ρ' v H' Hd' as' hl' s g' h' => ?_
    cases e : ρ'[i]? with
    | none => rw [e] at h'; exact h'.elim
    | some o =>
      rw [e] at h'
      cases o with
      | none => exact h'.elim
      | some q =>
        cases q with
        | lst ps =>
          simp only at h'
          by_cases hz : ps.length < line
          · rw [if_pos (decide_eq_true hz)] at h'
            obtain ⟨v', b1, b2, ew, eb, rp, g1⟩ := g'.last
            cases ew
            subst eb
            obtain ⟨n1, n2, n3⟩ := List.nodup_append.mp g'.nd
            obtain ⟨a', vs, a1, f1, f2, f3, f4, f5, put⟩ := g1.lst2 hl' e
            rw [e1] at f1
            cases f1
            obtain ⟨as2, g2, s2, _⟩ := put (ps ++ [p]) (vs ++ [v]) (a1 ++ b2) b2 g'.nd (fun b hb => g'.out b (List.mem_append_right _ hb)) (f3.app ⟨v, [], b2, [], rfl, rp, ⟨rfl, rfl⟩, by simp⟩)
              (List.nodup_append.mpr ⟨(List.nodup_cons.mp f4).2, n2, fun x hx y hy e => n3 x (f5 x (List.mem_cons_of_mem _ hx)) y hy e⟩) (fun b hb => List.mem_append.mp hb)
            refine ⟨a, vs, v, rfl, rfl, f2, ?_, h' σ _ Hd' as2 s2 rfl (fun _ => rfl) g2⟩
            rw [f3.len, sizeLine_eq]; exact hz
          · rw [if_neg (by simpa using hz)] at h'; exact h'.elim
        | _ => exact h'.elim
/-- .. by the items of another list -/
theorem sS_ext {st : Stmt} {i : Nat} {c : CE} (h : L2.PS X st (L2.tDrop (L2.tBM X.K "list" L2.rExtend (L2.tVar i) (L2.tCons (tE C W c) L2.tNil)))) : L2.PS X st (tS C W (.ext i c)) := by
  refine PSimp h fun D σ H h => ?_
  obtain ⟨Hd, ρ, τ, ν, as, hl, g, h⟩ := h
  simp only [evS] at h
  cases eh : held ρ i with
  | false => rw [eh] at h; exact h.elim
  | true =>
    rw [eh] at h
    simp only [Bool.not_true, Bool.false_eq_true, if_false] at h
    obtain ⟨a, vs0, e1, e2⟩ := held_at hl g eh
    refine ⟨.ref a, e1, .inl ⟨rfl, vs0, .inl (.inl e2)⟩, ?_⟩
    refine tS_bind hl g h fun p ρ' v H' Hd' as' hl' s g' h' => ?_
    obtain ⟨v', Hd2, as2, ew, s2, g2, rd⟩ := g'.fz
    cases ew
    have h' := OnS.step (k' := (CS.ext i c).keep0) s2 rfl (fun q => ⟨q, rfl⟩) h'
    generalize p.fr = d at rd h'
    cases d with
    | lst ds =>
      obtain ⟨b, ws, eb, hb, rs⟩ := rd
      subst eb
      cases e : ρ'[i]? with
      | none => rw [e] at h'; exact h'.elim
      | some o =>
        rw [e] at h'
        cases o with
        | none => exact h'.elim
        | some q =>
          cases q with
          | lst ps =>
            simp only at h'
            by_cases hz : ps.length + ds.length ≤ line
            · rw [if_pos (decide_eq_true hz)] at h'
              obtain ⟨a', vs, a1, f1, f2, f3, f4, f5, put⟩ := g2.lst2 hl' e
              rw [e1] at f1
              cases f1
              obtain ⟨as3, g3, s3, _⟩ := put (ps ++ vals ds) (vs ++ ws) (a1 ++ []) [] (by simpa using g2.nd) (fun b hb => by cases hb) (f3.app (repPs_vals rs))
                (by simpa using (List.nodup_cons.mp f4).2) (fun b hb => by simpa using hb)
              refine ⟨a, b, vs, ws, rfl, rfl, f2, g2.le _ _ hb, ?_, h' σ _ Hd2 as3 (by simpa using s3) rfl (fun _ => rfl) g3⟩
              rw [f3.len, rs.length, sizeLine_eq]; exact hz
            · rw [if_neg (by simpa using hz)] at h'; exact h'.elim
          | _ => exact h'.elim
    | _ => exact h'.elim
/-- x[k] = e -/
theorem sS_put {st : Stmt} {i : Nat} {c ck : CE} (h : L2.PS X st (L2.tAsg (tE C W c) (L2.gSub (L2.tVar i) (tE C W ck) L2.rSetL))) : L2.PS X st (tS C W (.put i ck c)) := by
  refine PSimp h fun D σ H h => ?_
  obtain ⟨Hd, ρ, τ, ν, as, hl, g, h⟩ := h
  simp only [evS] at h
  have hv : ν.length = τ.length := by have := g.len; simp at this; omega
  refine tS_bind hl g h fun p ρ' v H' Hd' as' hl' s g' h' => ?_
  cases eh : held ρ' i with
  | false => rw [eh] at h'; exact h'.elim
  | true =>
    rw [eh] at h'
    simp only [Bool.not_true, Bool.false_eq_true, if_false] at h'
    have g0 : Good C.K Hd' H' (ρ' ++ (τ ++ [some p])) (σ ++ (ν ++ [some v])) as' := by simpa [List.append_assoc] using g'
    obtain ⟨a, vs0, e1, e2⟩ := held_at hl' g0 eh
    refine ⟨.ref a, e1, Hd', ρ', τ ++ [some p], ν ++ [some v], as', hl', g0, ?_⟩
    cases e : ev C.F ck ρ' with
    | bad => rw [e] at h'; exact h'.elim
    | exc k d r =>
      rw [e] at h'
      intro dx v2 H2 Hd2 as2 s2 g2 hx rx
      have hl2 : σ.length = r.length := by have := g2.len; simp at this; omega
      have g2' : Good C.K Hd2 H2 ((r ++ τ) ++ [some p]) ((σ ++ ν) ++ [some v]) as2 := by simpa [List.append_assoc] using g2
      obtain ⟨b1, b2, eb, _, g3⟩ := g2'.unpush (by simp [hl2, hv])
      subst eb
      exact h' dx v2 σ H2 Hd2 b1 (s2.trans Step.less) rfl (fun _ => rfl) g3 hx rx
    | ok q r =>
      rw [e] at h'
      simp only [Out.bind_ok] at h'
      intro v2 H2 Hd2 as2 s2 _ g2
      have hl2 : σ.length = r.length := by have := g2.len; simp at this; omega
      have nq : ∀ k, q = .val (.int k) → ∀ ps, r[i]? = some (some (.lst ps)) → (if (decide (0 ≤ k) && decide (k.toNat < ps.length)) = true then Out.ok Fl.nx (r.set i (some (.lst (ps.set k.toNat p)))) else .bad) = .bad ∨ (0 ≤ k ∧ k.toNat < ps.length) := fun k _ ps _ => by
        by_cases hz : 0 ≤ k ∧ k.toNat < ps.length
        · exact .inr hz
        · left
          rw [if_neg]
          simp only [Bool.and_eq_true, decide_eq_true_eq]
          exact hz
      cases q with
      | val d =>
        cases d with
        | int k =>
          cases e3 : r[i]? with
          | none => rw [e3] at h'; exact h'.elim
          | some o =>
            rw [e3] at h'
            cases o with
            | none => exact h'.elim
            | some q =>
              cases q with
              | lst ps =>
                simp only at h'
                rcases nq k rfl ps e3 with z | ⟨z1, z2⟩
                · rw [z] at h'; exact h'.elim
                · rw [if_pos (by simp [z1, z2])] at h'
                  -- the index, a plain int, is dropped; then the value p stands last
                  obtain ⟨v3, c1, c2, ew, ec, ⟨e4, rk⟩, g3⟩ := g2.last
                  cases ew
                  subst e4
                  simp only [List.append_nil] at ec
                  subst ec
                  have rk : v2 = .int k := rk
                  subst rk
                  have g4 : Good C.K Hd2 H2 ((r ++ τ) ++ [some p]) ((σ ++ ν) ++ [some v]) as2 := by simpa [List.append_assoc] using g3
                  obtain ⟨v4, b1, b2, ew, eb, rp, g5⟩ := g4.last
                  cases ew
                  subst eb
                  obtain ⟨n1, n2, n3⟩ := List.nodup_append.mp g4.nd
                  obtain ⟨a', vs, a1, f1, f2, f3, f4, f5, put⟩ := g5.lst2 hl2 e3
                  rw [e1] at f1
                  cases f1
                  obtain ⟨pk, epk⟩ : ∃ pk, ps[k.toNat]? = some pk := ⟨ps[k.toNat], by simp [List.getElem?_eq_getElem, z2]⟩
                  obtain ⟨w, l, m, rr, h1, h2, h3, h4, h5⟩ := f3.at epk
                  subst h2
                  have nd0 := (List.nodup_cons.mp f4).2
                  obtain ⟨q1, q2, q3⟩ := nodup_mid nd0
                  obtain ⟨p1, p2, p3⟩ := List.nodup_append.mp q2
                  have dj : ∀ x ∈ l ++ (m ++ rr), x ∉ b2 := fun x hx z => n3 x (f5 x (List.mem_cons_of_mem _ hx)) x z rfl
                  obtain ⟨as3, g6, s6, _⟩ := put (ps.set k.toNat p) (vs.set k.toNat v) (l ++ (b2 ++ rr)) b2 g4.nd (fun b hb => g4.out b (List.mem_append_right _ hb)) (h5 p v b2 rp)
                    (List.nodup_append.mpr ⟨p1, List.nodup_append.mpr ⟨n2, p2, fun x hx y hy e => dj y (List.mem_append_right _ (List.mem_append_right _ hy)) (e ▸ hx)⟩, fun x hx y hy e => by
                      rcases List.mem_append.mp hy with z | z
                      · exact dj x (List.mem_append_left _ hx) (e ▸ z)
                      · exact p3 x hx y z e⟩)
                    (fun b hb => by
                      simp only [List.mem_append] at hb ⊢
                      rcases hb with z | z | z
                      · exact .inl (.inl z)
                      · exact .inr z
                      · exact .inl (.inr (.inr z)))
                  refine ⟨a, vs, k, k.toNat, rfl, rfl, f2, ?_, h' σ _ Hd2 as3 (s2.trans s6) rfl (fun _ => rfl) g6⟩
                  unfold L2.ixN
                  rw [if_pos z1, if_pos (by rw [f3.len]; omega)]
              | _ => exact h'.elim
        | _ => exact h'.elim
      | _ => exact h'.elim
/-- x.pop(k) -/
theorem sE_pop {e : Expr} {i : Nat} {c : CE} (h : L2.PE X e (L2.tBM X.K "list" L2.rPopAt (L2.tVar i) (L2.tCons (tE C W c) L2.tNil))) : L2.PE X e (tE C W (.pop i c)) := by
  refine PEimp h fun σ H Q h => ?_
  obtain ⟨Hd, ρ, τ, ν, as, hl, g, h⟩ := h
  simp only [ev] at h
  cases eh : held ρ i with
  | false => rw [eh] at h; exact h.elim
  | true =>
    rw [eh] at h
    simp only [Bool.not_true, Bool.false_eq_true, if_false] at h
    obtain ⟨a, vs0, e1, e2⟩ := held_at hl g eh
    refine ⟨.ref a, e1, .inl ⟨rfl, vs0, .inl (.inl e2)⟩, ?_⟩
    refine tE_bind hl g h fun p ρ' v H' Hd' as' hl' s sq g' h' => ?_
    have h' := h'.step s (fun q => by cases q)
    cases p with
    | val d =>
      cases d with
      | int k =>
        cases e : ρ'[i]? with
        | none => rw [e] at h'; exact h'.elim
        | some o =>
          rw [e] at h'
          cases o with
          | none => exact h'.elim
          | some q =>
            cases q with
            | lst ps =>
              simp only at h'
              by_cases z0 : 0 ≤ k ∧ k < 2 ^ 62
              · rw [if_pos (by simp only [Bool.and_eq_true, decide_eq_true_eq]; exact z0)] at h'
                have z1 := z0.1
                cases epk : ps[k.toNat]? with
                | none => rw [epk] at h'; exact h'.elim
                | some pk =>
                  rw [epk] at h'
                  simp only at h'
                  obtain ⟨v3, c1, c2, ew, ec, ⟨e4, rk⟩, g3⟩ := g'.last
                  cases ew
                  subst e4
                  simp only [List.append_nil] at ec
                  subst ec
                  have rk : v = .int k := rk
                  subst rk
                  obtain ⟨a', vs, a1, f1, f2, f3, f4, f5, put⟩ := g3.lst2 hl' e
                  rw [e1] at f1
                  cases f1
                  obtain ⟨w, l, m, rr, h1, h2, h3, h4, h5⟩ := f3.at epk
                  subst h2
                  have nd0 := List.nodup_cons.mp f4
                  obtain ⟨q1, q2, q3⟩ := nodup_mid nd0.2
                  obtain ⟨as3, g6, s6, sub6⟩ := put (ps.eraseIdx k.toNat) (vs.eraseIdx k.toNat) (l ++ rr) [] (by simpa using g3.nd) (fun b hb => by cases hb) h4 q2
                    (fun b hb => by
                      simp only [List.mem_append] at hb ⊢
                      rcases hb with z | z
                      · exact .inl (.inl z)
                      · exact .inl (.inr (.inr z)))
                  have na : ∀ b ∈ m, b ≠ a := fun b hb z => nd0.1 (by rw [← z]; exact List.mem_append_right _ (List.mem_append_left _ hb))
                  have rp : RepP C.K Hd' (L2.upd H' a (.lst (vs.eraseIdx k.toNat))) pk w m := RepP.mono (Le.refl _) pk w m (fun b hb o eo => by rw [L2.upd_ne (na b hb)]; exact eo) h3
                  have g7 := g6.push rp q1 (fun b hb z => by
                    rcases sub6 b z with y | y
                    · exact y.2 (List.mem_append_right _ (List.mem_append_left _ hb))
                    · exact q3 b hb y) (fun b hb => g3.out b (f5 b (List.mem_cons_of_mem _ (List.mem_append_right _ (List.mem_append_left _ hb)))))
                  have hk : k.toNat < ps.length := (List.getElem?_eq_some_iff.mp epk).1
                  have hlen := f3.len
                  have z2 := z0.2
                  refine ⟨a, vs, k, k.toNat, w, rfl, rfl, f2, by omega, by omega, ?_, h1, h' w _ Hd' (as3 ++ m) ⟨s6.hd, fun b o eo nb => s6.keep b o eo (by simpa using nb), fun b hb => ?_, fun b o eo => by simpa using s6.new b o eo⟩ (fun q => by cases q) g7⟩
                  · have e9 : (if k < 0 then k + (vs.length : Int) else k) = k := if_neg (by omega)
                    unfold seqIndex?
                    simp only [e9]
                    rw [if_pos (by simp only [Bool.and_eq_true, decide_eq_true_eq]; omega)]
                  · rcases List.mem_append.mp hb with y | y
                    · simpa using s6.sub b y
                    · exact .inl (f5 b (List.mem_cons_of_mem _ (List.mem_append_right _ (List.mem_append_left _ y))))
              · rw [if_neg (by simp only [Bool.and_eq_true, decide_eq_true_eq]; exact z0)] at h'; exact h'.elim
            | _ => exact h'.elim
      | _ => exact h'.elim
    | _ => exact h'.elim
end
end PV

set_option Elab.async false
set_option linter.all false
set_option maxRecDepth 100000
set_option maxHeartbeats 4000000
/-! PvSound6: what is walked; targets; for, while, comprehensions. -/
namespace PV
open PySem PySem.Spec PyProof.Rows

/-- the iterator J gives the items ds, one behind another; Hd0: what it leans on -/
structure Wk (K : Frag) (J : L2.It) (Hd0 : Hp) (ds : List D) : Prop where
  go : ∀ i H, Le Hd0 H → i < ds.length → J.go i H
  yld : ∀ i H x H' d, Le Hd0 H → ds[i]? = some d → J.yld i H x H' → (H' = H ∧ Rep K Hd0 d x) ∨ ∃ a ws es, H a = none ∧ H' = L2.upd H a (.tup ws) ∧ d = .tup es ∧ x = .ref a ∧ Reps K Hd0 es ws
  stop : ∀ i H, Le Hd0 H → ds.length ≤ i → J.stop i H
def OnI (C : Ctx) (W : L2.WX) (σ ν : L2.St) (τ : Rho) (Hd H : Hp) (as : List Addr) (R : L2.It → Hp → Prop) : Out Rho (List D) → Prop
  | .ok ds ρ' => ∀ J H' Hd' as', Step Hd H as Hd' H' as' → Good C.K Hd' H' (ρ' ++ τ) (σ ++ ν) as' → Wk C.K J Hd' ds → R J H'
  | .exc c d ρ' => ∀ dx v H' Hd' as', Step Hd H as Hd' H' as' → Good C.K Hd' H' (ρ' ++ τ) (σ ++ ν) as' → H' dx = some (.xd [("value", v)]) → Rep C.K Hd' d v → W (.ref (C.cl c)) (some dx) σ H'
  | .bad => False
def tI (C : Ctx) (W : L2.WX) (it : CI) : L2.TI := fun σ H R => ∃ Hd ρ τ ν as, σ.length = ρ.length ∧ Good C.K Hd H (ρ ++ τ) (σ ++ ν) as ∧ OnI C W σ ν τ Hd H as R (evI C.F it ρ)
theorem PIimp {X : L2.Cx} {tg e : Expr} {t t' : L2.TI} (h : L2.PI X tg e t) (i : ∀ σ H R, t' σ H R → t σ H R) : L2.PI X tg e t' := ⟨fun pins s σ H R I hq => h.run pins s σ H R I (i σ H R hq)⟩

theorem wk_list {K : Frag} {Hd : Hp} {a : Addr} {vs : List V} {ds : List D} (h : Hd a = some (.lst vs)) (r : Reps K Hd ds vs) : Wk K (L2.Itl K a) Hd ds where
  go := fun i H l hi => ⟨vs, vs[i]'(by rw [r.length]; exact hi), .inl (.inl (l _ _ h)), by simp⟩
  yld := fun i H x H' d l e y => by
    obtain ⟨e1, e2⟩ := y
    obtain ⟨v, h1, h2⟩ := r.get e
    have := e2 vs (.inl (.inl (l _ _ h)))
    rw [h1] at this
    cases this
    exact .inl ⟨e1, h2⟩
  stop := fun i H l hi => ⟨vs, .inl (.inl (l _ _ h)), by rw [r.length]; exact hi⟩
theorem wk_tup {K : Frag} {Hd : Hp} {a : Addr} {vs : List V} {ds : List D} (h : L2.SqT K Hd a vs) (r : Reps K Hd ds vs) : Wk K (L2.Itt K a) Hd ds where
  go := fun i H l hi => ⟨vs, vs[i]'(by rw [r.length]; exact hi), sqT_le l h, by simp⟩
  yld := fun i H x H' d l e y => by
    obtain ⟨e1, e2⟩ := y
    obtain ⟨v, h1, h2⟩ := r.get e
    have := e2 vs (sqT_le l h)
    rw [h1] at this
    cases this
    exact .inl ⟨e1, h2⟩
  stop := fun i H l hi => ⟨vs, sqT_le l h, by rw [r.length]; exact hi⟩
theorem wk_range {K : Frag} {Hd : Hp} {a : Int} {n : Nat} : Wk K (L2.Itr a n) Hd (iotaFrom a n) where
  go := fun i H l hi => by
    have : i < n := by simpa [iotaFrom] using hi
    exact this
  yld := fun i H x H' d l e y => by
    obtain ⟨e1, e2⟩ := y
    simp only [iotaFrom, List.getElem?_map] at e
    obtain ⟨k, hk, e3⟩ := Option.map_eq_some_iff.mp e
    have : k = i := by
      obtain ⟨h1, h2⟩ := List.getElem?_eq_some_iff.mp hk
      simpa using h2.symm
    subst this e3
    exact .inl ⟨e1, e2⟩
  stop := fun i H l hi => by
    have : n ≤ i := by simpa [iotaFrom] using hi
    exact this
/-- a list or a tuple, whichever comes -/
def iSeq (K : Frag) (tl : L2.TE) : L2.TI := fun σ H R => tl σ H fun x H1 => ∃ a, x = .ref a ∧ ((∃ xs, L2.SqL K H1 a xs) ∧ R (L2.Itl K a) H1 ∨ (∃ xs, L2.SqT K H1 a xs) ∧ R (L2.Itt K a) H1)
theorem pi_seq {X : L2.Cx} {tg l : Expr} {tl : L2.TE} (hl : L2.PE X l tl) : L2.PI X tg l (iSeq X.K tl) := by
  refine ⟨fun pins s σ H R I h => ?_⟩
  refine L2.thn (hl.run pins s σ H _ I h) fun v s1 ⟨x, H1, I1, r1, q1⟩ => ?_
  obtain ⟨a, e, q⟩ := q1
  subst e
  cases r1
  rcases q with ⟨⟨xs, hq⟩, q⟩ | ⟨⟨xs, hq⟩, q⟩
  · obtain ⟨its, rv, p, hz⟩ := I1.list hq
    refine wpAny_pyIter_list p.isList ?_
    refine ⟨s1.heap.objs.size, [s1.heap.objs.size], _, _, H1, rfl, I1.kept (t' := s1.toks) fun b o e => Heap.get?_push_of_some _ e, L2.turn_list a _, ⟨_, Heap.get?_push_size _ rfl, rfl, rfl⟩, fun b hb => ?_, q⟩
    have e : b = s1.heap.objs.size := by simpa using hb
    subst e
    exact I1.fpOk (Nat.le_refl _) (I1.hok.fresh (Nat.le_refl _))
  · obtain ⟨its, rv, p, hz⟩ := I1.tuple hq
    refine wpAny_pyIter_tuple (show s1.heap.IsTuple a its.toArray from p) ?_
    refine ⟨s1.heap.objs.size, [s1.heap.objs.size], _, _, H1, rfl, I1.kept (t' := s1.toks) fun b o e => Heap.get?_push_of_some _ e, L2.turn_tuple a _, ⟨_, Heap.get?_push_size _ rfl, rfl, rfl⟩, fun b hb => ?_, q⟩
    have e : b = s1.heap.objs.size := by simpa using hb
    subst e
    exact I1.fpOk (Nat.le_refl _) (I1.hok.fresh (Nat.le_refl _))
section
variable {X : L2.Cx} {C : Ctx} {W : L2.WX}
/-- the first part of what is walked -/
theorem tI_bind {σ ν : L2.St} {τ ρ : Rho} {Hd H : Hp} {as : List Addr} {R : L2.It → Hp → Prop} {a : CE} {f : P → Rho → Out Rho (List D)} {Q1 : L2.VK} (hl : σ.length = ρ.length) (g : Good C.K Hd H (ρ ++ τ) (σ ++ ν) as) (h : OnI C W σ ν τ Hd H as R ((ev C.F a ρ).bind f))
    (hQ : ∀ p ρ' v H' Hd' as', σ.length = ρ'.length → Step Hd H as Hd' H' as' → Good C.K Hd' H' (ρ' ++ τ) (σ ++ ν) as' → Rep C.K Hd' p.fr v → OnI C W σ ν τ Hd' H' as' R (f p ρ') → Q1 v H') : tE C W a σ H Q1 := by
  have hv : ν.length = τ.length := by have := g.len; simp at this; omega
  refine ⟨Hd, ρ, τ, ν, as, hl, g, ?_⟩
  cases e : ev C.F a ρ with
  | bad => rw [e] at h; exact h
  | exc c d ρ' => rw [e] at h; exact h
  | ok p ρ' =>
    rw [e] at h
    intro v H' Hd' as' s sq g'
    obtain ⟨v', Hd2, as2, ew, s2, g2, rd⟩ := g'.fz
    cases ew
    have st := s.trans s2
    refine hQ p ρ' v H' Hd2 as2 (by have := g2.len; simp at this; omega) st g2 rd ?_
    simp only [Out.bind_ok] at h
    cases e2 : f p ρ' with
    | bad => rw [e2] at h; exact h
    | exc c d ρ2 => rw [e2] at h; exact fun dx v H' Hd' as' s' g' => h dx v H' Hd' as' (st.trans s') g'
    | ok ds ρ2 => rw [e2] at h; exact fun J H' Hd' as' s' g' => h J H' Hd' as' (st.trans s') g'
theorem sI_seq {tg e : Expr} {c : CE} (hK : X.K = C.K) (he : L2.PE X e (tE C W c)) : L2.PI X tg e (tI C W (.seq c)) := by
  refine PIimp (pi_seq he) fun σ H R h => ?_
  obtain ⟨Hd, ρ, τ, ν, as, hl, g, h⟩ := h
  simp only [evI] at h
  refine tI_bind hl g h fun p ρ' v H' Hd' as' hl' s g' rd h' => ?_
  generalize p.fr = d at rd h'
  cases d with
  | tup ds =>
    obtain ⟨a, vs, e, q, r⟩ := rd
    rw [hK]
    exact ⟨a, e, .inr ⟨⟨vs, sqT_le g'.le q⟩, h' _ H' Hd' as' (Step.refl _ _ _) g' (wk_tup q r)⟩⟩
  | lst ds =>
    obtain ⟨a, vs, e, q, r⟩ := rd
    rw [hK]
    exact ⟨a, e, .inl ⟨⟨vs, .inl (.inl (g'.le _ _ q))⟩, h' _ H' Hd' as' (Step.refl _ _ _) g' (wk_list q r)⟩⟩
  | _ => exact h'.elim
theorem sI_range {tg a b : Expr} {ca cb : CE} {p pos : Pos} (hg : L2.Gl X "range") (hm : X.mg "range" = none) (ha : L2.PE X a (tE C W ca)) (hb : L2.PE X b (tE C W cb)) (h1 : starEach [a, b] X.env = [(false, eval a X.env), (false, eval b X.env)]) (h2 : starEach [b] X.env = [(false, eval b X.env)]) :
    L2.PI X tg (.Call (.Name "range" p) [a, b] [] pos) (tI C W (.range ca cb)) := by
  refine PIimp (L2.pi_range2 hg hm (L2.pa_cons ha (L2.pa_cons hb L2.pa_nil h2) (by rw [h1, h2])) h1 h2) fun σ H R h => ?_
  obtain ⟨Hd, ρ, τ, ν, as, hl, g, h⟩ := h
  simp only [evI] at h
  refine tI_bind hl g h fun p ρ' v H' Hd' as' hl' s g' rd h' => ?_
  refine tI_bind hl' g' h' fun q ρ2 v2 H2 Hd2 as2 hl2 s2 g2 rd2 h2 => ?_
  cases p with
  | val d =>
    cases d with
    | int i =>
      cases q with
      | val d =>
        cases d with
        | int j =>
          have e1 : v = .int i := rd
          have e2 : v2 = .int j := rd2
          subst e1 e2
          simp only at h2
          cases ek : (okRange i && okRange j) with
          | false => rw [ek] at h2; exact h2.elim
          | true =>
            rw [ek] at h2
            simp only [okRange, Bool.and_eq_true, decide_eq_true_eq] at ek
            exact ⟨i, j, rfl, ⟨ek.1.1, ek.1.2, ek.2.1, ek.2.2⟩, h2 _ H2 Hd2 as2 (Step.refl _ _ _) g2 wk_range⟩
        | _ => exact h2.elim
      | _ => exact h2.elim
    | _ => exact h2.elim
  | _ => exact h2.elim
theorem sI_range1 {tg a : Expr} {ca : CE} {p pos : Pos} (hg : L2.Gl X "range") (hm : X.mg "range" = none) (ha : L2.PE X a (tE C W ca)) (h1 : starEach [a] X.env = [(false, eval a X.env)]) :
    L2.PI X tg (.Call (.Name "range" p) [a] [] pos) (tI C W (.range (.con (.int 0)) ca)) := by
  refine PIimp (L2.pi_range1 hg hm (L2.pa_cons ha L2.pa_nil h1) h1) fun σ H R h => ?_
  obtain ⟨Hd, ρ, τ, ν, as, hl, g, h⟩ := h
  simp only [evI, ev, Out.bind_ok] at h
  refine tI_bind hl g h fun q ρ2 v2 H2 Hd2 as2 hl2 s2 g2 rd2 h2 => ?_
  cases q with
  | val d =>
    cases d with
    | int j =>
      have e2 : v2 = .int j := rd2
      subst e2
      simp only at h2
      cases ek : (okRange 0 && okRange j) with
      | false => rw [ek] at h2; exact h2.elim
      | true =>
        rw [ek] at h2
        simp only [okRange, Bool.and_eq_true, decide_eq_true_eq] at ek
        refine ⟨j, rfl, ek.2.1, ek.2.2, ?_⟩
        have := h2 (L2.Itr 0 (j - 0).toNat) H2 Hd2 as2 (Step.refl _ _ _) g2 wk_range
        simpa using this
    | _ => exact h2.elim
  | _ => exact h2.elim
end

/-! ### targets -/
def gT (K : Frag) : CT → L2.TG
  | .name i => L2.gName i
  | .two a b => L2.gTup K 2 (L2.gCons (gT K a) (L2.gCons (gT K b) L2.gNil))
theorem gT_ok {K : Frag} {Hd H : Hp} {τ : Rho} {ν : L2.St} (t : CT) : ∀ {d : D} {v : V} {ρ ρ' : Rho} {σ : L2.St} {as : List Addr} {Q : L2.St → Hp → Prop}, σ.length = ρ.length → Good K Hd H (ρ ++ τ) (σ ++ ν) as → Rep K Hd d v → setT t d ρ = some ρ' →
    (∀ σ' as', σ'.length = σ.length → (∀ k, k ∉ t.ix → σ'[k]? = σ[k]?) → Good K Hd H (ρ' ++ τ) (σ' ++ ν) as' → Step Hd H as Hd H as' → Q σ' H) → gT K t v σ H Q := by
  induction t with
  | name i =>
    intro d v ρ ρ' σ as Q hl g r e h
    unfold setT at e
    by_cases hi : i < ρ.length
    · rw [if_pos hi] at e
      cases e
      obtain ⟨as2, g2, s2⟩ := (g.pushV r).store hl hi
      exact h _ as2 (by simp) (fun k hk => List.getElem?_set_ne (by simpa [CT.ix, eq_comm] using hk)) g2 s2
    · rw [if_neg hi] at e; cases e
  | two a b iha ihb =>
    intro d v ρ ρ' σ as Q hl g r e h
    obtain ⟨x, y, ed⟩ : ∃ x y, d = .tup [x, y] := by
      unfold setT at e
      split at e
      · rename_i h2; cases h2
      · exact ⟨_, _, rfl⟩
      · cases e
    subst ed
    obtain ⟨ad, vs, ev', q, rr⟩ := r
    obtain ⟨vx, r1, e1, rx, rr⟩ := rr
    obtain ⟨vy, r2, e2, ry, rr⟩ := rr
    have e3 : r2 = [] := rr
    subst e3 e2 e1
    simp only [setT] at e
    obtain ⟨ρ1, f1, f2⟩ := Option.bind_eq_some_iff.mp e
    refine ⟨ad, [vx, vy], ev', sqT_le g.le q, rfl, vx, [vy], rfl, ?_⟩
    refine iha hl g rx f1 fun σ1 as1 l1 k1 g1 s1 => ?_
    have hl1 : σ1.length = ρ1.length := by
      have := g1.len
      have hv := g.len
      simp at this hv
      omega
    refine ⟨vy, [], rfl, ihb hl1 g1 ry f2 fun σ2 as2 l2 k2 g2 s2 => ⟨rfl, ?_⟩⟩
    refine h σ2 as2 (l2.trans l1) (fun k hk => ?_) g2 (s1.trans s2)
    simp only [CT.ix, List.mem_append, not_or] at hk
    exact (k2 k hk.2).trans (k1 k hk.1)

/-! ### while -/
section
variable {X : L2.Cx} {C : Ctx} {W : L2.WX}
theorem sS_while {t : Expr} {b : List Stmt} {ct : CE} {cb : CSs} {pos : Pos} (hp : PassesOwn (model X.prog X.w) X.A X.env X.xe) (ht : L2.PT X t (tT C W ct)) (hb : L2.PSs X b (tSs C W cb)) : L2.PS X (.While t b [] pos) (tS C W (.while_ ct cb)) := by
  refine PSimp (L2.ps_while hp ht hb) fun D σ H h => ?_
  obtain ⟨Hd, ρ, τ, ν, as, hl, g, h⟩ := h
  simp only [evS] at h
  have hv : ν.length = τ.length := by have := g.len; simp at this; omega
  have ek : (CS.while_ ct cb).keep0 = cb.keep0 := by simp [CS.keep0]
  rw [ek] at h
  refine ⟨fun m σ1 H1 => ∃ Hd1 ρ1 as1, σ1.length = ρ1.length ∧ Good C.K Hd1 H1 (ρ1 ++ τ) (σ1 ++ ν) as1 ∧ OnS C W cb.keep0 σ1 ν τ Hd1 H1 as1 D (loopW (ev C.F ct) (evSs C.F cb) m ρ1), ⟨fuel, Hd, ρ, as, hl, g, h⟩, ?_⟩
  rintro m σ1 H1 ⟨Hd1, ρ1, as1, hl1, g1, h1⟩
  cases m with
  | zero => exact h1.elim
  | succ n =>
    simp only [loopW] at h1
    refine tS_bind hl1 g1 h1 fun p ρ2 v H2 Hd2 as2 hl2 s2 g2 h2 => ?_
    obtain ⟨k, ev', g3, q1, q2⟩ := onB_goS g2 h2
    refine ⟨k, ev', ?_⟩
    cases k with
    | false => exact q2 rfl σ1 H2 Hd2 as2 (Step.refl _ _ _) rfl (fun _ => rfl) g3
    | true =>
      have h3 := q1 rfl
      refine ⟨fun σ' H' => ∃ Hd' ρ' as', σ'.length = ρ'.length ∧ Good C.K Hd' H' (ρ' ++ τ) (σ' ++ ν) as' ∧ OnS C W cb.keep0 σ' ν τ Hd' H' as' D (loopW (ev C.F ct) (evSs C.F cb) n ρ'), fun σ' H' w => ⟨n, Nat.lt_succ_self n, w⟩, ?_⟩
      refine ⟨Hd2, ρ2, τ, ν, as2, hl2, g3, ?_⟩
      cases e : evSs C.F cb ρ2 with
      | bad => rw [e] at h3; exact h3
      | exc c d ρ' => rw [e] at h3; exact h3
      | ok f ρ' =>
        rw [e] at h3
        cases f with
        | rt p => exact h3
        | nx =>
          intro σ' H' Hd' as' s' l' k0 g'
          refine ⟨Hd', ρ', as', ?_, g', OnS.step s' l' (fun q => ⟨q, k0 q⟩) h3⟩
          have := g'.len; simp at this; omega

/-! ### for -/
theorem Good.yld {K : Frag} {Hd H H' : Hp} {ρ : Rho} {σ : L2.St} {as : List Addr} {d : D} {x : V} (g : Good K Hd H ρ σ as) {Hd0 : Hp} (h0 : Le Hd0 Hd) (y : (H' = H ∧ Rep K Hd0 d x) ∨ ∃ a ws es, H a = none ∧ H' = L2.upd H a (.tup ws) ∧ d = .tup es ∧ x = .ref a ∧ Reps K Hd0 es ws) :
    ∃ Hd', Good K Hd' H' ρ σ as ∧ Step Hd H as Hd' H' as ∧ Rep K Hd' d x ∧ Le H H' := by
  rcases y with ⟨e, r⟩ | ⟨a, ws, es, hn, e, ed, ex, r⟩
  · subst e
    exact ⟨Hd, g, Step.refl _ _ _, Rep.le h0 _ _ r, Le.refl _⟩
  · subst e ed ex
    obtain ⟨g2, s2, l1, l2⟩ := g.newD (o := .tup ws) hn
    exact ⟨_, g2, s2, ⟨a, ws, rfl, .inl (.inl L2.upd_same), Reps.le (h0.trans l1) _ _ r⟩, l2⟩
theorem sS_for {tg it : Expr} {b : List Stmt} {t : CT} {ci : CI} {cb : CSs} {pos : Pos} (hK : X.K = C.K) (hp : PassesOwn (model X.prog X.w) X.A X.env X.xe) (hc : X.calm = true) (hi : L2.PI X tg it (tI C W ci)) (hg : L2.PG X tg (gT C.K t)) (hb : L2.PSs X b (tSs C W cb))
    (hs : ∀ x, foldedSetIterable it X.env x = pure x) : L2.PS X (.For tg it b [] pos) (tS C W (.for_ t ci cb)) := by
  refine PSimp (L2.ps_for hp hc hi hg hb hs) fun D σ H h => ?_
  obtain ⟨Hd, ρ, τ, ν, as, hl, g, h⟩ := h
  simp only [evS] at h
  have hv : ν.length = τ.length := by have := g.len; simp at this; omega
  refine ⟨Hd, ρ, τ, ν, as, hl, g, ?_⟩
  have ek : (CS.for_ t ci cb).keep0 = (decide (0 ∉ t.ix) && cb.keep0) := by simp [CS.keep0]
  rw [ek] at h
  cases e : evI C.F ci ρ with
  | bad => rw [e] at h; exact h
  | exc c d ρ' =>
    rw [e] at h
    exact fun dx v H' Hd' as' s' g' => h dx v σ H' Hd' as' s' rfl (fun _ => rfl) g'
  | ok ds ρ0 =>
    rw [e] at h
    simp only [Out.bind_ok] at h
    intro J H0 Hd0 as0 s0 g0 wk
    have hl0 : σ.length = ρ0.length := by have := g0.len; simp at this; omega
    generalize hturn : (fun d ρ => match setT t d ρ with | some ρ2 => evSs C.F cb ρ2 | none => Out.bad) = turn at h
    refine ⟨fun i m σ1 H1 => m = ds.length - i ∧ i ≤ ds.length ∧ ∃ Hd1 ρ1 as1, Le Hd0 Hd1 ∧ σ1.length = ρ1.length ∧ Good C.K Hd1 H1 (ρ1 ++ τ) (σ1 ++ ν) as1 ∧ OnS C W (decide (0 ∉ t.ix) && cb.keep0) σ1 ν τ Hd1 H1 as1 D (loopF turn (ds.drop i) ρ1),
      ⟨ds.length, by simp, Nat.zero_le _, Hd0, ρ0, as0, Le.refl _, hl0, g0, by simpa using OnS.step s0 rfl (fun q => ⟨q, rfl⟩) h⟩, ?_⟩
    rintro i m σ1 H1 ⟨em, hi', Hd1, ρ1, as1, l1, hl1, g1, h1⟩
    have lH : Le Hd0 H1 := l1.trans g1.le
    by_cases hlt : i < ds.length
    · right
      obtain ⟨d, ed⟩ : ∃ d, ds[i]? = some d := ⟨ds[i], by simp [hlt]⟩
      have edrop : ds.drop i = d :: ds.drop (i + 1) := by
        rw [List.drop_eq_getElem_cons hlt]
        congr 1
        simp [hlt] at ed
        exact ed
      rw [edrop] at h1
      simp only [loopF] at h1
      refine ⟨wk.go i H1 lH hlt, fun σ' H' => ∃ Hd' ρ' as', Le Hd0 Hd' ∧ σ'.length = ρ'.length ∧ Good C.K Hd' H' (ρ' ++ τ) (σ' ++ ν) as' ∧ OnS C W (decide (0 ∉ t.ix) && cb.keep0) σ' ν τ Hd' H' as' D (loopF turn (ds.drop (i + 1)) ρ'),
        fun σ' H' ⟨Hd', ρ', as', w⟩ => ⟨ds.length - (i + 1), by omega, rfl, hlt, Hd', ρ', as', w⟩, fun x H2 y => ?_⟩
      obtain ⟨Hd2, g2, s2, rx, _⟩ := g1.yld l1 (wk.yld i H1 x H2 d lH ed y)
      have et : turn d ρ1 = (match setT t d ρ1 with | some ρ2 => evSs C.F cb ρ2 | none => Out.bad) := by rw [← hturn]
      rw [et] at h1
      cases es : setT t d ρ1 with
      | none => rw [es] at h1; exact h1.elim
      | some ρ2 =>
        rw [es] at h1
        simp only at h1
        refine gT_ok t hl1 g2 rx es fun σ3 as3 l3 k3 g3 s3 => ?_
        have hl3 : σ3.length = ρ2.length := by have := g3.len; simp at this; omega
        refine ⟨Hd2, ρ2, τ, ν, as3, hl3, g3, ?_⟩
        have st := s2.trans s3
        have h2 := OnS.step (k' := (decide (0 ∉ t.ix) && cb.keep0)) st l3 (fun q => ⟨q, k3 0 (of_decide_eq_true (Bool.and_eq_true_iff.mp q).1)⟩) h1
        cases e2 : evSs C.F cb ρ2 with
        | bad => rw [e2] at h2; exact h2
        | exc c d' ρ' =>
          rw [e2] at h2
          exact fun dx v σ' H' Hd' as' s' l' k0 g' => h2 dx v σ' H' Hd' as' s' l' (fun q => k0 (Bool.and_eq_true_iff.mp q).2) g'
        | ok f ρ' =>
          rw [e2] at h2
          cases f with
          | rt p => exact fun v σ' H' Hd' as' s' l' k0 g' => h2 v σ' H' Hd' as' s' l' (fun q => k0 (Bool.and_eq_true_iff.mp q).2) g'
          | nx =>
            intro σ' H' Hd' as' s' l' k0 g'
            refine ⟨Hd', ρ', as', (l1.trans st.hd).trans s'.hd, ?_, g', OnS.step s' l' (fun q => ⟨q, k0 (Bool.and_eq_true_iff.mp q).2⟩) h2⟩
            have := g'.len; simp at this; omega
    · left
      have ei : i = ds.length := by omega
      subst ei
      rw [List.drop_length] at h1
      exact ⟨wk.stop _ H1 lH (Nat.le_refl _), h1 σ1 H1 Hd1 as1 (Step.refl _ _ _) rfl (fun _ => rfl) g1⟩
end
end PV

set_option Elab.async false
set_option linter.all false
set_option maxRecDepth 100000
set_option maxHeartbeats 4000000
/-! PvSound7: comprehensions. -/
namespace PV
open PySem PySem.Spec PyProof.Rows

theorem wipe_len (ρ : Rho) : ∀ ix : List Nat, (wipe ρ ix).length = ρ.length
  | [] => rfl
  | i :: r => by simp [wipe, wipe_len ρ r]
theorem wipe_at {ρ : Rho} : ∀ {ix : List Nat} {k : Nat}, (wipe ρ ix)[k]? = if k ∈ ix then (if k < ρ.length then some none else none) else ρ[k]?
  | [], k => by simp [wipe]
  | i :: r, k => by
    unfold wipe
    by_cases hk : k = i
    · subst hk
      rw [if_pos (by simp)]
      by_cases hl : k < ρ.length
      · rw [List.getElem?_set_self (by rw [wipe_len]; exact hl), if_pos hl]
      · rw [if_neg hl, List.getElem?_eq_none (by simp [wipe_len]; omega)]
    · rw [List.getElem?_set_ne (Ne.symm hk), wipe_at]
      simp [hk]
theorem wipeL_at {σ : L2.St} : ∀ {ix : List Nat} {k : Nat}, (L2.wipe σ ix)[k]? = if k ∈ ix then (if k < σ.length then some none else none) else σ[k]?
  | [], k => by simp [L2.wipe]
  | i :: r, k => by
    unfold L2.wipe
    by_cases hk : k = i
    · subst hk
      rw [if_pos (by simp)]
      by_cases hl : k < σ.length
      · rw [List.getElem?_set_self (by rw [L2.wipe_length]; exact hl), if_pos hl]
      · rw [if_neg hl, List.getElem?_eq_none (by simp [L2.wipe_length]; omega)]
    · rw [List.getElem?_set_ne (Ne.symm hk), wipeL_at]
      simp [hk]
theorem wipeL_eq {σ σ2 : L2.St} {ix : List Nat} (hl : σ2.length = σ.length) (h : ∀ k, k ∉ ix → σ2[k]? = σ[k]?) : L2.wipe σ2 ix = L2.wipe σ ix := by
  apply List.ext_getElem?
  intro k
  rw [wipeL_at, wipeL_at, hl]
  by_cases hk : k ∈ ix
  · simp [hk]
  · simp [hk, h k hk]
/-- slots of which nothing is told may hold anything -/
theorem RepR.any {K : Frag} {Hd H : Hp} : ∀ {ρ : Rho} {σ σ' : L2.St} {as : List Addr}, RepR K Hd H ρ σ as → σ'.length = σ.length → (∀ (k : Nat) (p : P), ρ[k]? = some (some p) → σ'[k]? = σ[k]?) → RepR K Hd H ρ σ' as
  | [], _, σ', _, ⟨e, ea⟩, hl, _ => by subst e; exact ⟨List.eq_nil_of_length_eq_zero hl, ea⟩
  | o :: ρ, _, [], _, ⟨w, r, a1, a2, e, q, qs, ea⟩, hl, _ => by subst e; simp at hl
  | o :: ρ, _, x :: σ', _, ⟨w, r, a1, a2, e, q, qs, ea⟩, hl, h => by
    subst e
    refine ⟨x, σ', a1, a2, rfl, ?_, qs.any (by simpa using hl) (fun k p hk => by simpa using h (k + 1) p (by simpa using hk)), ea⟩
    cases o with
    | none => exact q
    | some p =>
      have := h 0 p (by simp)
      simp at this
      rw [this]; exact q
theorem Good.any {K : Frag} {Hd H : Hp} {ρ τ : Rho} {σ σ' ν : L2.St} {as : List Addr} (g : Good K Hd H (ρ ++ τ) (σ ++ ν) as) (hl0 : σ.length = ρ.length) (hl : σ'.length = σ.length) (h : ∀ (k : Nat) (p : P), ρ[k]? = some (some p) → σ'[k]? = σ[k]?) : Good K Hd H (ρ ++ τ) (σ' ++ ν) as := by
  obtain ⟨a1, a2, e, r1, r2⟩ := RepR.split hl0 g.rep
  subst e
  exact ⟨g.le, (r1.any hl h).app r2, g.nd, g.out⟩
/-- a slot forgotten -/
theorem Good.drop {K : Frag} {Hd H : Hp} {ρ τ : Rho} {σ ν : L2.St} {as : List Addr} (hl : σ.length = ρ.length) (g : Good K Hd H (ρ ++ τ) (σ ++ ν) as) (i : Nat) : ∃ as', Good K Hd H (ρ.set i none ++ τ) (σ.set i none ++ ν) as' ∧ ∀ a ∈ as', a ∈ as := by
  by_cases hi : i < ρ.length
  · obtain ⟨o, eo⟩ : ∃ o, (ρ ++ τ)[i]? = some o := ⟨(ρ ++ τ)[i]'(by simp; omega), by simp [List.getElem?_eq_getElem]⟩
    obtain ⟨l, a1, r, w, e1, ew, ro, put⟩ := g.rep.at eo
    subst e1
    obtain ⟨m1, m2, m3⟩ := nodup_mid g.nd
    have sub : ∀ a ∈ l ++ r, a ∈ l ++ (a1 ++ r) := fun a ha => by
      simp only [List.mem_append] at ha ⊢
      rcases ha with z | z
      · exact .inl z
      · exact .inr (.inr z)
    refine ⟨l ++ r, ⟨g.le, ?_, m2, fun a ha => g.out a (sub a ha)⟩, sub⟩
    have := put Hd H (Le.refl _) (fun _ _ _ z => z) none none [] rfl
    rw [set_left hi, set_left (by omega)] at this
    simpa using this
  · rw [List.set_eq_of_length_le (by omega), List.set_eq_of_length_le (by omega)]
    exact ⟨as, g, fun a ha => ha⟩
theorem Good.wipe {K : Frag} {Hd H : Hp} {ρ τ : Rho} {σ ν : L2.St} {as : List Addr} (hl : σ.length = ρ.length) (g : Good K Hd H (ρ ++ τ) (σ ++ ν) as) : ∀ ix : List Nat, ∃ as', Good K Hd H (PV.wipe ρ ix ++ τ) (L2.wipe σ ix ++ ν) as' ∧ ∀ a ∈ as', a ∈ as
  | [] => ⟨as, g, fun a ha => ha⟩
  | i :: r => by
    obtain ⟨as1, g1, s1⟩ := Good.wipe hl g r
    obtain ⟨as2, g2, s2⟩ := g1.drop (by rw [wipe_len, L2.wipe_length]; exact hl) i
    exact ⟨as2, g2, fun a ha => s1 a (s2 a ha)⟩
theorem Good.updH {K : Frag} {Hd H : Hp} {ρ : Rho} {σ : L2.St} {as : List Addr} {a : Addr} {o : HO} (g : Good K Hd H ρ σ as) (h1 : a ∉ as) (h2 : Hd a = none) : Good K Hd (L2.upd H a o) ρ σ as :=
  ⟨g.le.into h2, g.rep.mono (Le.refl _) (fun b hb u e => by rw [L2.upd_ne (fun z => by subst z; exact h1 hb)]; exact e), g.nd, g.out⟩

section
variable {X : L2.Cx} {C : Ctx} {W W0 : L2.WX}
def noW : L2.WX := fun _ _ _ _ => False
/-- what a comprehension's reading asks, from what the core text tells -/
theorem tE_lc {t : CT} {ci : CI} {cc ce : CE} {tt : L2.TT} {σ : L2.St} {H : Hp} {Q : L2.VK} (htt : ∀ σ H Q, tT C noW cc σ H Q → tt σ H Q) (h : tE C W (.lc t ci cc ce) σ H Q) : L2.tLc (tI C W ci) (gT C.K t) tt (tE C noW ce) t.ix σ H Q := by
  obtain ⟨Hd, ρ, τ, ν, as, hl, g, h⟩ := h
  simp only [ev] at h
  have hv : ν.length = τ.length := by have := g.len; simp at this; omega
  refine ⟨Hd, ρ, τ, ν, as, hl, g, ?_⟩
  cases e : evI C.F ci ρ with
  | bad => rw [e] at h; exact h
  | exc c d ρ' => rw [e] at h; exact h
  | ok ds ρ0 =>
    rw [e] at h
    simp only [Out.bind_ok] at h
    intro J H0 Hd0 as0 s0 g0 wk D hD
    have hl0 : σ.length = ρ0.length := by have := g0.len; simp at this; omega
    cases ek : okLen ds.length with
    | false => rw [ek] at h; exact h.elim
    | true =>
    rw [ek] at h
    simp only [Bool.not_true, Bool.false_eq_true, if_false] at h
    have hz : ds.length ≤ sizeLine := by rw [sizeLine_eq]; exact of_decide_eq_true ek
    generalize hturn : (fun d ρ => match setT t d ρ with
        | some ρ2 => ((ev C.F cc ρ2).bind fun b ρ3 => onB b ((ev C.F ce ρ3).bind fun p ρ4 => Out.ok (some p) (wipe ρ4 t.ix)) (.ok none (wipe ρ3 t.ix))).calm
        | none => .bad) = turn at h
    have qf : (CE.lc t ci cc ce).quiet = false := rfl
    rw [qf] at h
    have h := h.step s0 (fun z => by cases z)
    refine ⟨fun i m H1 => m = ds.length - i ∧ i ≤ ds.length ∧ ∃ Hd1 ρ1 as1 acc, acc.length ≤ i ∧ ρ1.length = σ.length ∧ Step Hd0 H0 as0 Hd1 H1 as1 ∧ Good C.K Hd1 H1 ((wipe ρ1 t.ix ++ τ) ++ [some (.lst acc.reverse)]) ((L2.wipe σ t.ix ++ ν) ++ [some (.ref D)]) as1 ∧
      OnE C W false σ ν τ Hd0 H0 as0 Q ((loopC turn (ds.drop i) acc (wipe ρ1 t.ix)).bind fun ps ρ2 => .ok (.lst ps) ρ2), ?_, ?_⟩
    · refine ⟨ds.length, by simp, Nat.zero_le _, ?_⟩
      obtain ⟨g1, s1, l1⟩ := g0.newH (o := .lst []) hD
      obtain ⟨as2, g2, sub⟩ := g1.wipe hl0 t.ix
      have rp : RepP C.K Hd0 (L2.upd H0 D (.lst [])) (.lst []) (.ref D) [D] := ⟨D, [], [], rfl, L2.upd_same, ⟨rfl, rfl⟩, rfl⟩
      refine ⟨Hd0, ρ0, as2 ++ [D], [], by simp, hl0.symm, ⟨s1.hd, s1.keep, fun b hb => ?_, s1.new⟩, g2.push rp (by simp) (fun b hb => ?_) (fun b hb => ?_), by simpa using h⟩
      · rcases List.mem_append.mp hb with z | z
        · exact .inl (sub b z)
        · have : b = D := by simpa using z
          subst this; exact .inr hD
      · have : b = D := by simpa using hb
        subst this; exact fun z => g0.fresh hD (sub b z)
      · have : b = D := by simpa using hb
        subst this; exact g0.le.none hD
    · rintro i m H1 ⟨em, hi', Hd1, ρ1, as1, acc, hacc, hl1, s1, g1, h1⟩
      have lH : Le Hd0 H1 := s1.hd.trans g1.le
      by_cases hlt : i < ds.length
      · right
        obtain ⟨d, ed⟩ : ∃ d, ds[i]? = some d := ⟨ds[i], by simp [hlt]⟩
        have edrop : ds.drop i = d :: ds.drop (i + 1) := by
          rw [List.drop_eq_getElem_cons hlt]
          congr 1
          simp [hlt] at ed
          exact ed
        rw [edrop] at h1
        simp only [loopC] at h1
        refine ⟨wk.go i H1 lH hlt, fun H' => ∃ Hd1 ρ1 as1 acc, acc.length ≤ i + 1 ∧ ρ1.length = σ.length ∧ Step Hd0 H0 as0 Hd1 H' as1 ∧ Good C.K Hd1 H' ((wipe ρ1 t.ix ++ τ) ++ [some (.lst acc.reverse)]) ((L2.wipe σ t.ix ++ ν) ++ [some (.ref D)]) as1 ∧
          OnE C W false σ ν τ Hd0 H0 as0 Q ((loopC turn (ds.drop (i + 1)) acc (wipe ρ1 t.ix)).bind fun ps ρ2 => .ok (.lst ps) ρ2), fun H' w => ⟨ds.length - (i + 1), by omega, rfl, hlt, w⟩, fun x H2 y => ?_⟩
        obtain ⟨Hd2, g2, s2, rx, _⟩ := g1.yld s1.hd (wk.yld i H1 x H2 d lH ed y)
        have et : turn d (wipe ρ1 t.ix) = (match setT t d (wipe ρ1 t.ix) with
          | some ρ2 => ((ev C.F cc ρ2).bind fun b ρ3 => onB b ((ev C.F ce ρ3).bind fun p ρ4 => Out.ok (some p) (wipe ρ4 t.ix)) (.ok none (wipe ρ3 t.ix))).calm
          | none => .bad) := by rw [← hturn]
        rw [et] at h1
        cases es : setT t d (wipe ρ1 t.ix) with
        | none => rw [es] at h1; exact h1.elim
        | some ρ2 =>
          rw [es] at h1
          simp only at h1
          have hlw : (L2.wipe σ t.ix).length = (wipe ρ1 t.ix).length := by rw [L2.wipe_length, wipe_len]; exact hl1.symm
          have g2' : Good C.K Hd2 H2 (wipe ρ1 t.ix ++ (τ ++ [some (.lst acc.reverse)])) (L2.wipe σ t.ix ++ (ν ++ [some (.ref D)])) as1 := by simpa [List.append_assoc] using g2
          refine gT_ok t hlw g2' rx es fun σ3 as3 l3 k3 g3 s3 => ?_
          have hl3 : σ3.length = ρ2.length := by have := g3.len; simp at this; omega
          rw [L2.wipe_length] at l3
          have ew : L2.wipe σ3 t.ix = L2.wipe σ t.ix := by
            refine wipeL_eq l3 fun k hk => ?_
            have := k3 k hk
            rw [wipeL_at, if_neg hk] at this
            exact this
          refine ⟨ew, ?_⟩
          refine htt σ3 H2 _ ⟨Hd2, ρ2, τ ++ [some (.lst acc.reverse)], ν ++ [some (.ref D)], as3, hl3, g3, ?_⟩
          have st3 := (s1.trans s2).trans s3
          cases e1 : ev C.F cc ρ2 with
          | bad => rw [e1] at h1; exact h1
          | exc c d' ρ' => rw [e1] at h1; exact h1.elim
          | ok b ρ3 =>
            rw [e1] at h1
            simp only [Out.bind_ok] at h1
            intro v H3 Hd3 as4 s4 _ g4
            have hl4 : σ3.length = ρ3.length := by have := g4.len; simp at this; omega
            have st4 := st3.trans s4
            rcases onB_cases (p := b) (x := (ev C.F ce ρ3).bind fun p ρ4 => Out.ok (some p) (wipe ρ4 t.ix)) (y := (.ok none (wipe ρ3 t.ix))) with ⟨eb, eo⟩ | ⟨eb, eo⟩ | eo
            · subst eb
              rw [eo] at h1
              obtain ⟨v', c1, c2, ew2, ec, ⟨e3, rd⟩, g5⟩ := g4.last
              cases ew2
              subst e3
              simp only [List.append_nil] at ec
              subst ec
              have rd : v = .bl true := rd
              refine ⟨true, rd, ?_⟩
              refine L2.iteT ?_
              refine ⟨Hd3, ρ3, τ ++ [some (.lst acc.reverse)], ν ++ [some (.ref D)], as4, hl4, g5, ?_⟩
              cases e2 : ev C.F ce ρ3 with
              | bad => rw [e2] at h1; exact h1
              | exc c d' ρ' => rw [e2] at h1; exact h1.elim
              | ok p ρ4 =>
                rw [e2] at h1
                simp only [Out.bind_ok, Out.calm] at h1
                intro yv H4 Hd4 as5 s5 _ g6
                have hl5 : σ3.length = ρ4.length := by have := g6.len; simp at this; omega
                have st5 := st4.trans s5
                obtain ⟨v1, b1, b2, ew3, eb2, rp, g7⟩ := g6.last
                cases ew3
                subst eb2
                obtain ⟨n1, n2, n3⟩ := List.nodup_append.mp g6.nd
                have g7' : Good C.K Hd4 H4 ((ρ4 ++ τ) ++ [some (.lst acc.reverse)]) ((σ3 ++ ν) ++ [some (.ref D)]) b1 := by simpa [List.append_assoc] using g7
                obtain ⟨v2, c1, c2, ew4, ec, rl, g8⟩ := g7'.last
                cases ew4
                subst ec
                obtain ⟨D', vs, a1, eD, hH, rr, ec2⟩ := rl
                cases eD
                subst ec2
                obtain ⟨m1, m2, m3⟩ := List.nodup_append.mp n1
                obtain ⟨k1, k2⟩ := List.nodup_cons.mp m2
                have hlen : vs.length = acc.length := by rw [rr.len]; simp
                refine ⟨vs, hH, by omega, ?_⟩
                have nD1 : D ∉ c1 := fun z => m3 D z D (List.mem_cons_self ..) rfl
                have nDd : Hd4 D = none := g7'.out D (List.mem_append_right _ (List.mem_cons_self ..))
                have nD2 : D ∉ b2 := fun z => n3 D (List.mem_append_right _ (List.mem_cons_self ..)) D z rfl
                have g9 := g8.updH (o := .lst (vs ++ [yv])) nD1 nDd
                obtain ⟨as6, g10, sub6⟩ := g9.wipe hl5 t.ix
                have rp2 : RepP C.K Hd4 (L2.upd H4 D (.lst (vs ++ [yv]))) (.lst (acc.reverse ++ [p])) (.ref D) (D :: (a1 ++ b2)) := by
                  refine ⟨D, vs ++ [yv], a1 ++ b2, rfl, L2.upd_same, ?_, rfl⟩
                  refine RepPs.app (RepPs.mono (Le.refl _) _ _ _ (fun b hb o eo => by rw [L2.upd_ne (fun z => by subst z; exact k1 hb)]; exact eo) rr) ⟨yv, [], b2, [], rfl, ?_, ⟨rfl, rfl⟩, by simp⟩
                  exact RepP.mono (Le.refl _) p yv b2 (fun b hb o eo => by rw [L2.upd_ne (fun z => by subst z; exact nD2 hb)]; exact eo) rp
                have nd2 : (D :: (a1 ++ b2)).Nodup := by
                  refine List.nodup_cons.mpr ⟨fun z => ?_, List.nodup_append.mpr ⟨k2, n2, fun x hx y hy e => n3 x (List.mem_append_right _ (List.mem_cons_of_mem _ hx)) y hy e⟩⟩
                  rcases List.mem_append.mp z with z | z
                  · exact k1 z
                  · exact nD2 z
                have inA : ∀ b ∈ D :: (a1 ++ b2), b ∈ (c1 ++ (D :: a1)) ++ b2 := fun b hb => by
                  simp only [List.mem_cons, List.mem_append] at hb ⊢
                  rcases hb with z | z | z
                  · exact .inl (.inr (.inl z))
                  · exact .inl (.inr (.inr z))
                  · exact .inr z
                have g11 := g10.push rp2 nd2 (fun b hb z => by
                  have zc := sub6 b z
                  simp only [List.mem_cons, List.mem_append] at hb
                  rcases hb with q | q | q
                  · subst q; exact nD1 zc
                  · exact m3 b zc b (List.mem_cons_of_mem _ q) rfl
                  · exact n3 b (List.mem_append_left _ zc) b q rfl) (fun b hb => g6.out b (inA b hb))
                rw [ew] at g11
                refine ⟨Hd4, ρ4, as6 ++ (D :: (a1 ++ b2)), p :: acc, by simp; omega, by omega, ⟨st5.hd, fun b o eo nb => ?_, fun b hb => ?_, st5.new⟩, by simpa using g11, h1⟩
                · have q := st5.keep b o eo nb
                  rw [L2.upd_ne]
                  · exact q
                  · intro z
                    subst z
                    rw [hD] at eo; cases eo
                · have : b ∈ (c1 ++ (D :: a1)) ++ b2 := by
                    rcases List.mem_append.mp hb with z | z
                    · exact List.mem_append_left _ (List.mem_append_left _ (sub6 b z))
                    · exact inA b z
                  exact st5.sub b this
            · subst eb
              rw [eo] at h1
              obtain ⟨v', c1, c2, ew2, ec, ⟨e3, rd⟩, g5⟩ := g4.last
              cases ew2
              subst e3
              simp only [List.append_nil] at ec
              subst ec
              have rd : v = .bl false := rd
              refine ⟨false, rd, ?_⟩
              refine L2.iteF ?_
              simp only [Out.calm, Out.bind_ok] at h1
              have g5' : Good C.K Hd3 H3 (ρ3 ++ (τ ++ [some (.lst acc.reverse)])) (σ3 ++ (ν ++ [some (.ref D)])) as4 := g5
              obtain ⟨as6, g10, sub6⟩ := g5'.wipe hl4 t.ix
              rw [ew] at g10
              refine ⟨Hd3, ρ3, as6, acc, by omega, by omega, ⟨st4.hd, st4.keep, fun b hb => st4.sub b (sub6 b hb), st4.new⟩, by simpa [List.append_assoc] using g10, h1⟩
            · rw [eo] at h1; exact h1.elim
      · left
        have ei : i = ds.length := by omega
        subst ei
        rw [List.drop_length] at h1
        refine ⟨wk.stop _ H1 lH (Nat.le_refl _), ?_⟩
        simp only [loopC, Out.bind_ok] at h1
        refine h1 (.ref D) H1 Hd1 as1 s1 (fun z => by cases z) ?_
        have g2 : Good C.K Hd1 H1 (wipe ρ1 t.ix ++ (τ ++ [some (.lst acc.reverse)])) (L2.wipe σ t.ix ++ (ν ++ [some (.ref D)])) as1 := by simpa [List.append_assoc] using g1
        have g3 := g2.any (σ' := σ) (by rw [L2.wipe_length, wipe_len]; exact hl1.symm) (by rw [L2.wipe_length]) fun k p hk => by
          rw [wipe_at] at hk
          by_cases hi : k ∈ t.ix
          · rw [if_pos hi] at hk
            split at hk <;> cases hk
          · rw [wipeL_at, if_neg hi]
        simpa [List.append_assoc] using g3
end
end PV

set_option Elab.async false
set_option linter.all false
set_option maxRecDepth 100000
set_option maxHeartbeats 4000000
/-! PvSound8: the rest of the statements; a def keeps what its core text tells. -/
namespace PV
open PySem PySem.Spec PyProof.Rows
section
variable {X : L2.Cx} {C : Ctx} {W : L2.WX}
theorem sE_lc {elt tg iter : Expr} {ifs : List Expr} {scope : Scope} {own : List (Str × Nat)} {pos : Pos} {t : CT} {ci : CI} {cc ce : CE} {tt : L2.TT} (hc : X.calm = true) (hN : X.N.Nodup) (hi : L2.PI X tg iter (tI C W ci)) (ok : L2.BlkOk X.N X.env.scope scope own) (ho : own.map (·.2) = t.ix)
    (hg : ∀ (s : Shared) (H : Hp) (A : Addr) (cl : List (Str × Addr)) (fp : List Addr), L2.PG (X.blk s H scope (compEnvC scope cl A X.env) fp) tg (gT C.K t)) (ht : ∀ (s : Shared) (H : Hp) (A : Addr) (cl : List (Str × Addr)) (fp : List Addr), L2.PTs (X.blk s H scope (compEnvC scope cl A X.env) fp) ifs tt)
    (htt : ∀ σ H Q, tT C noW cc σ H Q → tt σ H Q) (he : ∀ (s : Shared) (H : Hp) (A : Addr) (cl : List (Str × Addr)) (fp : List Addr), L2.PE (X.blk s H scope (compEnvC scope cl A X.env) fp) elt (tE C noW ce)) (hs : ∀ x, foldedSetIterable iter X.env x = pure x) :
    L2.PE X (.ListComp elt [⟨tg, iter, ifs, 0⟩] scope pos) (tE C W (.lc t ci cc ce)) := by
  refine PEimp (L2.pe_lc hc hN hi ok hg ht he hs) fun σ H Q h => ?_
  rw [ho]
  exact tE_lc htt h
theorem sS_setLc {i : Nat} {y : Str} {py spos : Pos} {elt tg iter : Expr} {ifs : List Expr} {scope : Scope} {own : List (Str × Nat)} {pos : Pos} {t : CT} {ci : CI} {cc ce : CE} {tt : L2.TT} (hc : X.calm = true) (hN : X.N.Nodup) (hy : X.N[i]? = some y) (hyl : X.env.scope.names.lookup y = some .local)
    (hsw : swapsWith (.ListComp elt [⟨tg, iter, ifs, 0⟩] scope pos) (some (.Name y py)) spos.line X.env = pure true) (hi : L2.PI X tg iter (tI C W ci)) (ok : L2.BlkOk X.N X.env.scope scope own) (ho : own.map (·.2) = t.ix)
    (hg : ∀ (s : Shared) (H : Hp) (A : Addr) (cl : List (Str × Addr)) (fp : List Addr), L2.PG (X.blk s H scope (compEnvC scope cl A X.env) fp) tg (gT C.K t)) (ht : ∀ (s : Shared) (H : Hp) (A : Addr) (cl : List (Str × Addr)) (fp : List Addr), L2.PTs (X.blk s H scope (compEnvC scope cl A X.env) fp) ifs tt)
    (htt : ∀ σ H Q, tT C noW cc σ H Q → tt σ H Q) (he : ∀ (s : Shared) (H : Hp) (A : Addr) (cl : List (Str × Addr)) (fp : List Addr), L2.PE (X.blk s H scope (compEnvC scope cl A X.env) fp) elt (tE C noW ce)) (hs : ∀ x, foldedSetIterable iter X.env x = pure x) :
    L2.PS X (.Assign [.Name y py] (.ListComp elt [⟨tg, iter, ifs, 0⟩] scope pos) spos) (tS C W (.asg i (.lc t ci cc ce))) := by
  have q := L2.ps_setLc (spos := spos) hc hN hy hyl hsw hi ok hg ht he hs
  rw [ho] at q
  refine sS_asg (PSimp q fun D σ H h => ?_)
  exact tE_lc htt h
theorem sS_par {st : Stmt} {i j : Nat} {ca cb : CE} (h : L2.PS X st (L2.tPar i j (tPs C W (.cons ca (.cons cb .nil))))) : L2.PS X st (tS C W (.par i j ca cb)) := by
  refine PSimp h fun D σ H h => ?_
  obtain ⟨Hd, ρ, τ, ν, as, hl, g, h⟩ := h
  simp only [evS] at h
  have hv : ν.length = τ.length := by have := g.len; simp at this; omega
  refine ⟨Hd, ρ, τ, ν, as, hl, g, ?_⟩
  cases e : evPs C.F (.cons ca (.cons cb .nil)) ρ with
  | bad => rw [e] at h; exact h
  | exc c d ρ' =>
    rw [e] at h
    exact fun dx v H' Hd' as' s' g' => h dx v σ H' Hd' as' s' rfl (fun _ => rfl) g'
  | ok ps ρ1 =>
    rw [e] at h
    simp only [Out.bind_ok] at h
    intro vs H1 Hd1 as1 s1 _ g1 hlen
    have hl1 : σ.length = ρ1.length := by have := g1.len; simp at this; omega
    match ps, vs, hlen, h, g1 with
    | [p, q], [v, w], _, h, g1 =>
      by_cases hij : i ≠ j
      · simp only at h
        rw [if_pos (decide_eq_true hij)] at h
        unfold setP at h
        by_cases hi : i < ρ1.length
        · rw [if_pos hi] at h
          simp only [Out.bind_ok, List.length_set] at h
          by_cases hj : j < ρ1.length
          · rw [if_pos hj] at h
            refine ⟨v, w, rfl, ?_⟩
            have g2 : Good C.K Hd1 H1 ((ρ1 ++ (τ ++ [some p])) ++ [some q]) ((σ ++ (ν ++ [some v])) ++ [some w]) as1 := by simpa [List.append_assoc] using g1
            obtain ⟨as2, g3, s3⟩ := g2.store hl1 hj
            have g4 : Good C.K Hd1 H1 ((ρ1.set j (some q) ++ τ) ++ [some p]) ((σ.set j (some w) ++ ν) ++ [some v]) as2 := by simpa [List.append_assoc] using g3
            obtain ⟨as3, g5, s5⟩ := g4.store (i := i) (by simpa using hl1) (by simpa using hi)
            rw [List.set_comm _ _ (Ne.symm hij), List.set_comm _ _ (Ne.symm hij)] at g5
            refine h _ H1 Hd1 as3 (s1.trans (s3.trans s5)) (by simp) (fun k => ?_) g5
            simp only [CS.keep0, Bool.and_eq_true, decide_eq_true_eq] at k
            rw [set0 k.2, set0 k.1]
          · rw [if_neg hj] at h; exact h.elim
        · rw [if_neg hi] at h; exact h.elim
      · simp only at h
        rw [if_neg (by simpa using hij)] at h; exact h.elim
    | [], _, _, h, _ => exact h.elim
    | [_], _, _, h, _ => exact h.elim
    | _ :: _ :: _ :: _, _, _, h, _ => exact h.elim
    | [_, _], [], hlen, _, _ => simp at hlen
    | [_, _], [_], hlen, _, _ => simp at hlen
    | [_, _], _ :: _ :: _ :: _, hlen, _, _ => simp at hlen
theorem sS_asg2 {st : Stmt} {a b : CT} {c : CE} (h : L2.PS X st (L2.tAsg (tE C W c) (gT C.K (.two a b)))) : L2.PS X st (tS C W (.asg2 a b c)) := by
  refine PSimp h fun D σ H h => ?_
  obtain ⟨Hd, ρ, τ, ν, as, hl, g, h⟩ := h
  simp only [evS] at h
  refine tS_bind hl g h fun p ρ' v H' Hd' as' hl' s g' h' => ?_
  obtain ⟨v', Hd2, as2, ew, s2, g2, rd⟩ := g'.fz
  cases ew
  cases e : setT (.two a b) p.fr ρ' with
  | none => rw [e] at h'; exact h'.elim
  | some ρ2 =>
    rw [e] at h'
    refine gT_ok (.two a b) hl' g2 rd e fun σ3 as3 l3 k3 g3 s3 => ?_
    refine h' σ3 H' Hd2 as3 (s2.trans s3) l3 (fun q => ?_) g3
    simp only [CS.keep0] at q
    exact k3 0 (of_decide_eq_true q)
theorem sS_aug {st : Stmt} {i : Nat} {c : CE} (h : L2.PS X st (L2.tAug i (tE C W c) (L2.ipI fun i j => i + j))) : L2.PS X st (tS C W (.aug i c)) := by
  refine PSimp h fun D σ H h => ?_
  obtain ⟨Hd, ρ, τ, ν, as, hl, g, h⟩ := h
  simp only [evS] at h
  cases e0 : ρ[i]? with
  | none => rw [e0] at h; exact h.elim
  | some o =>
    cases o with
    | none => rw [e0] at h; exact h.elim
    | some p0 =>
      rw [e0] at h
      obtain ⟨hlt, _⟩ := List.getElem?_eq_some_iff.mp e0
      obtain ⟨l, a1, r, w, ea, ew, ⟨x, ex, _⟩, _⟩ := g.rep.at (lookR (τ := τ) e0)
      subst ex
      rw [List.getElem?_append_left (by omega)] at ew
      refine ⟨x, ew, ?_⟩
      have h : OnS C W (CS.aug i c).keep0 σ ν τ Hd H as D ((ev C.F c ρ).bind fun p ρ1 => match p, ρ1[i]? with
        | .val (.int k), some (some (.val (.int n))) => .ok .nx (ρ1.set i (some (.val (.int (n + k)))))
        | _, _ => .bad) := h
      refine tS_bind hl g h fun p ρ' v H' Hd' as' hl' s g' h' => ?_
      cases p with
      | val d =>
        cases d with
        | int k =>
          cases e1 : ρ'[i]? with
          | none => rw [e1] at h'; exact h'.elim
          | some o =>
            rw [e1] at h'
            cases o with
            | none => exact h'.elim
            | some q =>
              cases q with
              | val d =>
                cases d with
                | int n =>
                  simp only at h'
                  obtain ⟨hlt', _⟩ := List.getElem?_eq_some_iff.mp e1
                  obtain ⟨v', c1, c2, ew2, ec, ⟨e3, rd⟩, g5⟩ := g'.last
                  cases ew2
                  subst e3
                  simp only [List.append_nil] at ec
                  subst ec
                  have rd : v = .int k := rd
                  obtain ⟨l, a1, r, w, ea, ew3, ⟨x', ex', ⟨_, rx⟩⟩, _⟩ := g5.rep.at (lookR (τ := τ) e1)
                  subst ex'
                  rw [List.getElem?_append_left (by omega), ew] at ew3
                  cases ew3
                  have rx : x = .int n := rx
                  refine ⟨n, k, rx, rd, ?_⟩
                  obtain ⟨as2, g6, s6⟩ := (g5.pushV (d := .int (n + k)) (v := .int (n + k)) rfl).store hl' hlt'
                  refine h' _ H' Hd' as2 s6 (by simp) (fun q => ?_) g6
                  simp only [CS.keep0] at q
                  exact set0 (of_decide_eq_true q)
                | _ => exact h'.elim
              | _ => exact h'.elim
        | _ => exact h'.elim
      | _ => exact h'.elim
/-- a call that may change its first argument, a name -/
theorem tE_callM {f np i : Nat} {cs : CEs} {σ : L2.St} {H : Hp} {Q : L2.VK} (hnp : ∀ ps, C.F.fn f ps ≠ .bad → ps.length = np) (h : tE C W (.callM f i cs) σ H Q) :
    ∃ x, σ[i]? = some (some x) ∧ tPs C W cs σ H fun vs H1 => spI C np (C.F.fn f) (x :: vs) H1 Q (WEs W σ) := by
  obtain ⟨Hd, ρ, τ, ν, as, hl, g, h⟩ := h
  simp only [ev] at h
  have hv : ν.length = τ.length := by have := g.len; simp at this; omega
  cases eh : held ρ i with
  | false => rw [eh] at h; exact h.elim
  | true =>
  rw [eh] at h
  simp only [Bool.not_true, Bool.false_eq_true, if_false] at h
  obtain ⟨a, vs0, e1, e2⟩ := held_at hl g eh
  refine ⟨.ref a, e1, Hd, ρ, τ, ν, as, hl, g, ?_⟩
  cases e : evPs C.F cs ρ with
  | bad => rw [e] at h; exact h
  | exc k d ρ' => rw [e] at h; exact h
  | ok ps ρ' =>
    rw [e] at h
    simp only [Out.bind_ok] at h
    intro vs H1 Hd1 as1 s1 _ g1 hlen
    have hl1 : σ.length = ρ'.length := by have := g1.len; simp at this; omega
    obtain ⟨b1, b2, eb, rr, g2⟩ := g1.unpush (by simp [hl1, hv])
    subst eb
    obtain ⟨n1, n2, n3⟩ := List.nodup_append.mp g1.nd
    cases e3 : ρ'[i]? with
    | none => rw [e3] at h; exact h.elim
    | some o =>
      rw [e3] at h
      cases o with
      | none => exact h.elim
      | some q0 =>
        cases q0 with
        | lst qs =>
          simp only at h
          obtain ⟨hlt, _⟩ := List.getElem?_eq_some_iff.mp e3
          obtain ⟨l, a1, r, w, ea, ew, ⟨v, ev', rp⟩, put⟩ := g2.rep.at (lookR (τ := τ) e3)
          subst ev' ea
          rw [List.getElem?_append_left (by omega), e1] at ew
          cases ew
          obtain ⟨m1, m2, m3⟩ := nodup_mid n1
          have sub : ∀ b ∈ l ++ r, b ∈ l ++ (a1 ++ r) := fun b hb => by
            simp only [List.mem_append] at hb ⊢
            rcases hb with z | z
            · exact .inl z
            · exact .inr (.inr z)
          -- the caller's slots but this one
          have gC : Good C.K Hd1 H1 (ρ'.set i none ++ τ) (σ ++ ν) (l ++ r) := by
            refine ⟨g1.le, ?_, m2, fun b hb => g2.out b (sub b hb)⟩
            have := put Hd1 H1 (Le.refl _) (fun _ _ _ z => z) none (some (.ref a)) [] rfl
            rw [set_left hlt, set_left (by omega)] at this
            have eσ : σ.set i (some (.ref a)) = σ := by
              apply List.ext_getElem?
              intro k
              by_cases hk : k = i
              · subst hk; rw [List.getElem?_set_self (by omega)]; exact e1.symm
              · rw [List.getElem?_set_ne (Ne.symm hk)]
            rw [eσ] at this
            simpa using this
          have nd2 : ((l ++ r) ++ (a1 ++ b2)).Nodup := by
            refine List.nodup_append.mpr ⟨m2, List.nodup_append.mpr ⟨m1, n2, fun x hx y hy e => n3 x (List.mem_append_right _ (List.mem_append_left _ hx)) y hy e⟩, fun x hx y hy e => ?_⟩
            subst e
            rcases List.mem_append.mp hy with z | z
            · exact m3 x z hx
            · exact n3 x (sub x hx) x z rfl
          have gF : Good C.K Hd1 H1 ((P.lst qs :: ps).map some) ((L2.V.ref a :: vs).map some) (a1 ++ b2) := by
            refine ⟨g1.le, ⟨some (.ref a), vs.map some, a1, b2, rfl, ⟨_, rfl, rp⟩, rr, rfl⟩, (List.nodup_append.mp nd2).2.1, fun b hb => ?_⟩
            rcases List.mem_append.mp hb with z | z
            · exact g2.out b (List.mem_append_right _ (List.mem_append_left _ z))
            · exact g1.out b (List.mem_append_right _ z)
          refine ⟨Hd1, P.lst qs :: ps, a1 ++ b2, ?_, gF, ?_⟩
          · refine hnp _ fun z => ?_
            rw [z] at h; exact h
          have stepC : Step Hd1 H1 ((l ++ (a1 ++ r)) ++ b2) Hd1 H1 ((l ++ r) ++ (a1 ++ b2)) := ⟨Le.refl _, fun _ _ e _ => e, fun b hb => .inl (by
            simp only [List.mem_append] at hb ⊢
            rcases hb with (z | z) | z | z
            · exact .inl (.inl z)
            · exact .inl (.inr (.inr z))
            · exact .inl (.inr (.inl z))
            · exact .inr z), fun _ _ e => .inl e⟩
          cases ef : C.F.fn f (P.lst qs :: ps) with
          | bad => rw [ef] at h; exact h
          | exc k d io =>
            rw [ef] at h
            cases io with
            | none => exact h.elim
            | some q =>
              intro dx v H' Hd' as' s' g' hx rx
              obtain ⟨g5, s5⟩ := call_back gC nd2 s' g'
              have hlc : σ.length = (ρ'.set i none).length := by simpa using hl1
              have g6 : Good C.K Hd' H' ((ρ'.set i none ++ τ) ++ [some q]) ((σ ++ ν) ++ [some (.ref a)]) ((l ++ r) ++ as') := g5
              obtain ⟨as6, g7, s7⟩ := g6.store (i := i) hlc (by simpa using hlt)
              have eσ : σ.set i (some (.ref a)) = σ := by
                apply List.ext_getElem?
                intro k
                by_cases hk : k = i
                · subst hk; rw [List.getElem?_set_self (by omega)]; exact e1.symm
                · rw [List.getElem?_set_ne (Ne.symm hk)]
              rw [eσ, List.set_set] at g7
              exact h dx v H' Hd' as6 (((s1.trans stepC).trans s5).trans s7) g7 hx rx
          | ok p io =>
            rw [ef] at h
            cases io with
            | none => exact h.elim
            | some q =>
              intro v H' Hd' as' s' g'
              obtain ⟨g5, s5⟩ := call_back gC nd2 s' g'
              have hlc : σ.length = (ρ'.set i none).length := by simpa using hl1
              -- the answer ahead, the argument last
              have g5' : Good C.K Hd' H' ((ρ'.set i none ++ τ) ++ ([some q] ++ [some p])) ((σ ++ ν) ++ ([some (.ref a)] ++ [some v])) ((l ++ r) ++ as') := g5
              obtain ⟨c1, c2, ec, hA, hB⟩ := RepR.split (ρ := [some q]) (τ := [some p]) (σ := [some (L2.V.ref a)]) (ν := [some v]) rfl (show RepR C.K Hd' H' ([some q] ++ [some p]) ([some (L2.V.ref a)] ++ [some v]) as' from g'.rep)
              subst ec
              have nd5 := g5.nd
              have g6 : Good C.K Hd' H' (((ρ'.set i none ++ τ) ++ [some p]) ++ [some q]) (((σ ++ ν) ++ [some v]) ++ [some (.ref a)]) (((l ++ r) ++ c2) ++ c1) := by
                obtain ⟨k1, k2, k3⟩ := List.nodup_append.mp nd5
                obtain ⟨j1, j2, j3⟩ := List.nodup_append.mp k2
                refine ⟨g5.le, RepR.app (RepR.app (gC.rep.mono s'.hd fun b hb o eo => s'.keep b o eo fun z => (List.nodup_append.mp nd2).2.2 b hb b z rfl) hB) hA, List.nodup_append.mpr ⟨List.nodup_append.mpr ⟨k1, j2, fun x hx y hy => k3 x hx y (List.mem_append_right _ hy)⟩, j1, fun x hx y hy e => ?_⟩, fun b hb => g5.out b ?_⟩
                · rcases List.mem_append.mp hx with z | z
                  · exact k3 x z y (List.mem_append_left _ hy) e
                  · exact j3 y hy x z e.symm
                · simp only [List.mem_append] at hb ⊢
                  rcases hb with (z | z) | z
                  · exact .inl z
                  · exact .inr (.inr z)
                  · exact .inr (.inl z)
              have g6' : Good C.K Hd' H' ((ρ'.set i none ++ (τ ++ [some p])) ++ [some q]) ((σ ++ (ν ++ [some v])) ++ [some (.ref a)]) (((l ++ r) ++ c2) ++ c1) := by simpa [List.append_assoc] using g6
              obtain ⟨as6, g7, s7⟩ := g6'.store (i := i) hlc (by simpa using hlt)
              have eσ : σ.set i (some (.ref a)) = σ := by
                apply List.ext_getElem?
                intro k
                by_cases hk : k = i
                · subst hk; rw [List.getElem?_set_self (by omega)]; exact e1.symm
                · rw [List.getElem?_set_ne (Ne.symm hk)]
              rw [eσ, List.set_set] at g7
              have s6 : Step Hd' H' ((l ++ r) ++ (c1 ++ c2)) Hd' H' (((l ++ r) ++ c2) ++ c1) := ⟨Le.refl _, fun _ _ e _ => e, fun b hb => .inl (by
                simp only [List.mem_append] at hb ⊢
                rcases hb with (z | z) | z
                · exact .inl z
                · exact .inr (.inr z)
                · exact .inr (.inl z)), fun _ _ e => .inl e⟩
              refine h v H' Hd' as6 ((((s1.trans stepC).trans s5).trans s6).trans s7) (fun z => by cases z) (by simpa [List.append_assoc] using g7)
        | _ => exact h.elim
end

/-! ### a def -/
section
variable {C : Ctx}
theorem repR_none {K : Frag} {Hd H : Hp} : ∀ n : Nat, RepR K Hd H (List.replicate n none) (List.replicate n none) []
  | 0 => ⟨rfl, rfl⟩
  | n + 1 => ⟨none, List.replicate n none, [], [], rfl, rfl, repR_none n, rfl⟩
/-- the first slot alone -/
theorem Good.first {K : Frag} {Hd H : Hp} {ρ : Rho} {σ : L2.St} {as : List Addr} {w : Option V} {io : Bool} (g : Good K Hd H ρ σ as) (hw : io = true → σ[0]? = some w) : ∃ as', Good K Hd H [if io then (ρ[0]?).join else none] [w] as' ∧ ∀ a ∈ as', a ∈ as := by
  cases io with
  | false => exact ⟨[], ⟨g.le, ⟨w, [], [], [], rfl, rfl, ⟨rfl, rfl⟩, rfl⟩, List.nodup_nil, fun a ha => by cases ha⟩, fun a ha => by cases ha⟩
  | true =>
    have hw := hw rfl
    cases ρ with
    | nil =>
      have := g.len
      simp at this
      subst this
      simp at hw
    | cons o ρ =>
      obtain ⟨w', r, a1, a2, e, q, qs, ea⟩ := g.rep
      subst e ea
      simp at hw
      subst hw
      obtain ⟨n1, n2, n3⟩ := List.nodup_append.mp g.nd
      exact ⟨a1, ⟨g.le, ⟨w', [], a1, [], rfl, by simpa using q, ⟨rfl, rfl⟩, by simp⟩, n1, fun a ha => g.out a (List.mem_append_left _ ha)⟩, fun a ha => List.mem_append_left _ ha⟩
theorem body_ok {d : Def} {vs : List V} {H : Hp} {Q : L2.VK} {E : L2.XK} {N : List Str} (hns : N.length = d.ns) (h : spI C d.np (runDef C.F d) vs H Q E) :
    tSs C (fun cls dx _ H => E cls dx H) d.body { nx := fun _ H' => Q .non H', rt := Q } (L2.start N vs) H := by
  obtain ⟨Hd, ps, as, hl, g, h⟩ := h
  have hv : vs.length = ps.length := by have := g.len; simpa using this
  unfold runDef at h
  by_cases hc : ps.length = d.np ∧ d.np ≤ d.ns ∧ (d.io = true → d.body.keep0 = true ∧ 0 < d.np)
  · rw [if_pos hc] at h
    have en : N.length - vs.length = d.ns - d.np := by rw [hns, hv, hc.1]
    have g0 : Good C.K Hd H (ps.map some ++ List.replicate (d.ns - d.np) none) (vs.map some ++ List.replicate (d.ns - d.np) none) as := ⟨g.le, by
      have := g.rep.app (repR_none (K := C.K) (Hd := Hd) (H := H) (d.ns - d.np))
      simpa using this, g.nd, g.out⟩
    have es : L2.start N vs = vs.map some ++ List.replicate (d.ns - d.np) none := by unfold L2.start; rw [en]
    rw [es]
    refine ⟨Hd, ps.map some ++ List.replicate (d.ns - d.np) none, [], [], as, by simp [hv], by simpa using g0, ?_⟩
    have w0 : ∀ {σ' : L2.St}, (d.body.keep0 = true → σ'[0]? = (vs.map some ++ List.replicate (d.ns - d.np) none)[0]?) → d.io = true → σ'[0]? = some (vs.map some).head?.join := fun {σ'} k hio => by
      obtain ⟨k1, k2⟩ := hc.2.2 hio
      rw [k k1]
      cases vs with
      | nil => simp at hv; omega
      | cons v vs => simp
    cases e : evSs C.F d.body (ps.map some ++ List.replicate (d.ns - d.np) none) with
    | bad => rw [e] at h; exact h
    | exc c dd ρ' =>
      rw [e] at h
      intro dx v σ' H' Hd' as' s' l' k0 g' hx rx
      obtain ⟨as2, g2, sub⟩ := (show Good C.K Hd' H' ρ' σ' as' by simpa using g').first (io := d.io) (w0 k0)
      exact h dx v H' Hd' as2 ⟨s'.hd, s'.keep, fun a ha => s'.sub a (sub a ha), s'.new⟩ g2 hx rx
    | ok f ρ' =>
      rw [e] at h
      cases f with
      | nx =>
        intro σ' H' Hd' as' s' l' k0 g'
        obtain ⟨as2, g2, sub⟩ := (show Good C.K Hd' H' ρ' σ' as' by simpa using g').first (io := d.io) (w0 k0)
        exact h .non H' Hd' as2 ⟨s'.hd, s'.keep, fun a ha => s'.sub a (sub a ha), s'.new⟩ (g2.pushV (d := .non) (v := .non) rfl)
      | rt p =>
        intro v σ' H' Hd' as' s' l' k0 g'
        have g' : Good C.K Hd' H' (ρ' ++ [some p]) (σ' ++ [some v]) as' := by simpa using g'
        obtain ⟨v', b1, b2, ew, eb, rp, g1⟩ := g'.last
        cases ew
        subst eb
        obtain ⟨n1, n2, n3⟩ := List.nodup_append.mp g'.nd
        obtain ⟨as2, g2, sub⟩ := g1.first (io := d.io) (w0 k0)
        have g3 := g2.push rp n2 (fun b hb z => n3 b (sub b z) b hb rfl) (fun b hb => g'.out b (List.mem_append_right _ hb))
        refine h v H' Hd' (as2 ++ b2) ⟨s'.hd, s'.keep, fun a ha => s'.sub a ?_, s'.new⟩ g3
        rcases List.mem_append.mp ha with z | z
        · exact List.mem_append_left _ (sub a z)
        · exact List.mem_append_right _ z
  · rw [if_neg hc] at h; exact h.elim
theorem fn_ok {P : Program} {w : World} {mg : Str → Option Value} {base : Heap} {x qual : Str} {params : Arguments} {body : List Stmt} {scope : Scope} {dvs : List V} {kws : List (Str × V)} {f : Addr} {fd : FuncData} {N ps : List Str} {k : Nat} {d : Def}
    (F : L2.FunD C.K x qual params body scope dvs kws f fd) (S : L2.FnScope N ps scope) (hnp : ps.length = d.np) (hns : N.length = d.ns)
    (hb : ∀ (cdv : Value) (A : Around) (outer : List PySem.Env) (s : Shared) (H : Hp) (E : L2.XK), L2.Room k (A.deeper (envOfC qual scope s.heap.objs.size f cdv)) → L2.PSs (L2.cxOf (L2.CX P w) P w C.K mg base N qual scope f cdv A outer s H E) body (tSs C (fun cls dx _ H => E cls dx H) d.body)) :
    L2.FnOk P w C.K mg base (L2.CX P w) (k + 1) f fd ps (spI C d.np (runDef C.F d)) :=
  F.ok S (fun vs H Q E h => (spI_len h).trans hnp.symm) fun cdv A outer s H vs Q E hr h => ⟨_, hb cdv A outer s H E hr, body_ok hns h⟩
end
end PV

set_option Elab.async false
set_option linter.all false
set_option maxRecDepth 100000
set_option maxHeartbeats 4000000
/-! PvCall: defs that run with no guard standing below them (repr of sequences asks for it). -/
namespace PV
open PySem PySem.Spec PyProof.Rows
/-- a def's promise where no guard stands -/
structure FnG (P : Program) (w : World) (K : Frag) (mg : Str → Option Value) (base : Heap) (k : Nat) (f : Addr) (fd : FuncData) (ps : List Str) (sp : L2.Sp) : Prop where
  len : ∀ vs H Q E, sp vs H Q E → vs.length = ps.length
  run : ∀ (A : Around) (outer : List PySem.Env) (s : Shared) (H : Hp) (args : Args) (us : List Value) (vs : List V) (Q : L2.VK) (E : L2.XK), A.guards = some [] → L2.Room k A → L2.Env0 P w K mg base A outer s H → BindsTo s fd args (ps.zip us) → L2.Vals vs us → sp vs H Q E →
    codeAny (model P w) A (.call (.ref f) args) (L2.CR (L2.CX P w) outer P w H s Q E) s
theorem FnG.mono {P : Program} {w : World} {K : Frag} {mg : Str → Option Value} {base : Heap} {j k : Nat} {f : Addr} {fd : FuncData} {ps : List Str} {sp : L2.Sp} (F : FnG P w K mg base j f fd ps sp) (h : j ≤ k) : FnG P w K mg base k f fd ps sp :=
  ⟨F.len, fun A outer s H args us vs Q E hg hr => F.run A outer s H args us vs Q E hg (hr.mono h)⟩
section
variable {X : L2.Cx} {k : Nat} {f : Addr} {fd : FuncData} {ps : List Str} {sp : L2.Sp} {dvs : List V} {ds : List Value} {E : L2.St → L2.XK} {x : Str} {p pos : Pos} {e : Expr} {es : List Expr} {t : L2.TA}
theorem run_fnG {pins : List (Addr × Obj)} {σ : L2.St} {H : Hp} {s : Shared} {Q : L2.VK} {us : List Value} {vs : List V} (F : FnG X.prog X.w X.K X.mg X.base k f fd ps sp) (hr : L2.Room k X.A) (hgd : X.A.guards = some []) (hb : L2.Binds X.K fd ps ds) (hd : L2.Vals dvs ds) (hx : L2.PassesAt (L2.CX X.prog X.w) X σ (E σ))
    (I : L2.Inv X pins σ H s) (r : L2.Vals vs us) (h : sp (vs ++ dvs) H Q (E σ)) : wpAny (model X.prog X.w) X.A (call (.ref f) us) (L2.EP X pins σ Q) X.xe s := by
  have r2 : L2.Vals (vs ++ dvs) (us ++ ds) := r.append hd
  have hl : (us ++ ds).length = ps.length := by rw [← r2.length]; exact F.len _ _ _ _ h
  refine wpAny_call (codeAny_mono (F.run X.A X.stack s H ⟨us, []⟩ (us ++ ds) (vs ++ dvs) Q (E σ) hgd hr I.env0 (hb s us I.kIn hl) r2 h) fun r s' hq => ?_)
  cases r with
  | error e => exact hx pins H s e s' I hq
  | ok fl =>
    cases fl with
    | ret u => exact I.after hq
    | next => exact False.elim hq
    | brk => exact False.elim hq
    | cont => exact False.elim hq
theorem pe_callG (F : FnG X.prog X.w X.K X.mg X.base k f fd ps sp) (hr : L2.Room k X.A) (hgd : X.A.guards = some []) (hg : L2.Gl X x) (hm : X.mg x = some (.ref f)) (hk : PySem.W.keepIn X.K (.ref f) = true) (hb : L2.Binds X.K fd ps ds) (hd : L2.Vals dvs ds) (hx : ∀ σ, L2.PassesAt (L2.CX X.prog X.w) X σ (E σ))
    (ha : L2.PA X (e :: es) t) (hdb : (x == ("__debug__" : Str)) = false) (he : starEach (e :: es) X.env = (false, eval e X.env) :: starEach es X.env) (hpl : (backTo pos (starEach es X.env)).any (·.1) = false) :
    L2.PE X (.Call (.Name x p) (e :: es) [] pos) (L2.tCallSD sp dvs E t) := by
  refine ⟨fun pins s σ H Q I h => ?_⟩
  refine wpAny_Call_Name_kw (L2.ld_glob I hg hm ?_ hdb)
  refine PySem.W.callWith_K (h₀ := X.base) I.ok.mod.kin hk (L2.thn (ha.run pos pins s σ H _ I h) fun us s1 ⟨vs, H1, I1, r, q⟩ => ⟨I1.kIn, ?_⟩) he hpl
  exact run_fnG F hr hgd hb hd (hx σ) I1 r q
end
section
variable {C : Ctx}
theorem fnG_of {P : Program} {w : World} {mg : Str → Option Value} {base : Heap} {x qual : Str} {params : Arguments} {body : List Stmt} {scope : Scope} {dvs : List V} {kws : List (Str × V)} {f : Addr} {fd : FuncData} {N ps : List Str} {k : Nat} {d : Def}
    (F : L2.FunD C.K x qual params body scope dvs kws f fd) (S : L2.FnScope N ps scope) (hnp : ps.length = d.np) (hns : N.length = d.ns)
    (hbody : ∀ (cdv : Value) (A : Around) (outer : List PySem.Env) (s : Shared) (H : Hp) (E : L2.XK), A.guards = some [] → L2.Room k (A.deeper (envOfC qual scope s.heap.objs.size f cdv)) → L2.PSs (L2.cxOf (L2.CX P w) P w C.K mg base N qual scope f cdv A outer s H E) body (tSs C (fun cls dx _ H => E cls dx H) d.body)) :
    FnG P w C.K mg base (k + 1) f fd ps (spI C d.np (runDef C.F d)) := by
  obtain ⟨oc, od, dV, kV, doc, pm, an, cdv, ct, osl, rfl, lk, hcd, _, _⟩ := F.ex
  have len : ∀ vs H Q E, spI C d.np (runDef C.F d) vs H Q E → vs.length = ps.length := fun vs H Q E h => (spI_len h).trans hnp.symm
  refine ⟨len, fun A outer s H args us vs Q E hgd hr e0 hb r hsp => ?_⟩
  have hl := len _ _ _ _ hsp
  have KX : C.K.In s.heap := e0.mod.kin.keeps fun b o e => (e0.bs b o e).1
  have lim : s.heap.NoLimit := e0.mod.nolimit.keeps fun b o e => (e0.bs b o e).1
  have hkind : ∀ y ∈ ps.zip us, scope.names.lookup y.1 = some .local ∨ (scope.names.lookup y.1 = some .cell ∧ ((cellsFrom (s.heap.objs.size + 1) scope.names []).lookup y.1).isSome = true) := fun ⟨n, v⟩ hy => by
    rcases S.par n (List.of_mem_zip hy).1 with q | q
    · exact .inl q
    · exact .inr ⟨q, PySem.W.cellsFrom_some _ _ _ (.inl q)⟩
  refine codeAny_call_function hr.depth (KX _ _ lk) rfl S.co S.gen rfl (PySem.W.codeRec_of KX hcd) (hb _ _ _ _ ?_)
  refine wpAny_newFunctionEnv_cells S.kind hkind fun env he s1 x => ?_
  subst he
  refine ⟨lim.keeps x.toInCall.keep, codeAny_func ?_⟩
  have ht := hbody cdv A outer s H E hgd (hr.deeper _)
  have hq := body_ok (N := N) hns hsp
  have I : L2.Inv (L2.cxOf (L2.CX P w) P w C.K mg base N qual scope f cdv A outer s H E) [] (L2.start N vs) H s1 := L2.inv_start S hr.hd e0 hl r x
  refine wpAny_mono (ht.run [] s1 (L2.start N vs) H _ I hq) (fun fl s' hs => ?_) fun e s' hs => hs
  have fin : ∀ {σ' : L2.St} {H' : Hp} {v : V} {u : Value}, L2.Inv (L2.cxOf (L2.CX P w) P w C.K mg base N qual scope f cdv A outer s H E) [] σ' H' s' → L2.RelV v u → Q v H' → L2.CE outer P w H s Q u s' :=
    fun {σ' H' v u} J rv q => ⟨v, H', J.os, J.bare, J.base, J.hok, rv, q⟩
  cases fl with
  | ret u =>
    obtain ⟨v, σ', H', J, rv, q⟩ := hs
    exact fin J rv q
  | next =>
    obtain ⟨σ', H', J, q⟩ := hs
    exact fin (v := L2.V.non) (u := Value.none) J rfl q
  | brk =>
    obtain ⟨_, _, _, q⟩ := hs
    exact False.elim q
  | cont =>
    obtain ⟨_, _, _, q⟩ := hs
    exact False.elim q
end
end PV

set_option Elab.async false
set_option linter.all false
set_option maxRecDepth 100000
set_option maxHeartbeats 4000000
/-! PvOps1: operations, first part. -/
namespace PV
open PySem PySem.Spec PyProof.Rows
section
variable {C : Ctx} {W : L2.WX}
theorem OnE.mono {q : Bool} {σ ν : L2.St} {τ : Rho} {Hd H : Hp} {as : List Addr} {Q Q' : L2.VK} (hQ : ∀ v H, Q v H → Q' v H) : ∀ {x : Out Rho P}, OnE C W q σ ν τ Hd H as Q x → OnE C W q σ ν τ Hd H as Q' x
  | .ok p ρ', h => fun v H' Hd' as' s' sq' g => hQ _ _ (h v H' Hd' as' s' sq' g)
  | .exc c d ρ', h => h
  | .bad, h => h
theorem tE_mono {c : CE} {σ : L2.St} {H : Hp} {Q Q' : L2.VK} (hQ : ∀ v H, Q v H → Q' v H) (h : tE C W c σ H Q) : tE C W c σ H Q' := by
  obtain ⟨Hd, ρ, τ, ν, as, hl, g, h⟩ := h
  exact ⟨Hd, ρ, τ, ν, as, hl, g, h.mono hQ⟩
theorem tO_mono {c : CE} {σ : L2.St} {H : Hp} {Q Q' : L2.VK} (hQ : ∀ v H, Q v H → Q' v H) (h : tO C W c σ H Q) : tO C W c σ H Q' := by
  cases c with
  | look i => obtain ⟨v, e, q⟩ := h; exact ⟨v, e, hQ _ _ q⟩
  | _ => exact tE_mono hQ h
/-- what a rule asks of two values -/
def Op2 (C : Ctx) (o : Op) (r : L2.R2) : Prop := ∀ (Hd H : Hp) (d1 d2 : D) (x y : V) (d : D) (Q : L2.VK), SRep C.K Hd H d1 x → SRep C.K Hd H d2 y → Le Hd H → prim C.F.rp C.F.sub o [d1, d2] = some d → (∀ v H', Lay C.K Hd H o.lays d v H' → Q v H') → r x y H Q
def Op1 (C : Ctx) (o : Op) (r : V → Hp → L2.VK → Prop) : Prop := ∀ (Hd H : Hp) (d1 : D) (x : V) (d : D) (Q : L2.VK), SRep C.K Hd H d1 x → Le Hd H → prim C.F.rp C.F.sub o [d1] = some d → (∀ v H', Lay C.K Hd H o.lays d v H' → Q v H') → r x H Q
def OpN (C : Ctx) (o : Op) (r : List V → Hp → L2.VK → Prop) : Prop := ∀ (Hd H : Hp) (ds : List D) (vs : List V) (d : D) (Q : L2.VK), SReps C.K Hd H ds vs → Le Hd H → prim C.F.rp C.F.sub o ds = some d → (∀ v H', Lay C.K Hd H o.lays d v H' → Q v H') → r vs H Q
theorem op2_read {o : Op} {r : L2.R2} {ca cb : CE} {σ : L2.St} {H : Hp} {Q : L2.VK} (hr : Op2 C o r) (h : tE C W (.op o (.cons ca (.cons cb .nil))) σ H Q) : L2.tOp r (tO C W ca) (tO C W cb) σ H Q := by
  refine tO_mono (fun x H1 h1 => ?_) (tA_cons (tE_op h))
  refine tO_mono (fun y H2 h2 => ?_) (tA_cons h1)
  obtain ⟨Hd, ds, d, sr, le, ep, k⟩ := tA_nil h2
  match ds, sr, ep with
  | [d1, d2], ⟨v1, r1, e1, s1, v2, r2, e2, s2, e3⟩, ep =>
    have e3 : r2 = [] := e3
    subst e3 e2
    injection e1 with e4 e5
    injection e5 with e6 e7
    subst e4 e6
    exact hr Hd H2 d1 d2 x y d Q s1 s2 le ep k
  | [], sr, _ => cases (show [x, y] = [] from sr)
  | [_], ⟨v1, r1, e1, s1, e2⟩, _ =>
    have e2 : r1 = [] := e2
    subst e2
    cases e1
  | _ :: _ :: _ :: _, ⟨v1, r1, e1, s1, v2, r2, e2, s2, v3, r3, e3, s3, _⟩, _ =>
    subst e3 e2
    cases e1
theorem op1_read {o : Op} {r : V → Hp → L2.VK → Prop} {ca : CE} {σ : L2.St} {H : Hp} {Q : L2.VK} (hr : Op1 C o r) (h : tE C W (.op o (.cons ca .nil)) σ H Q) : L2.tUn r (tO C W ca) σ H Q := by
  refine tO_mono (fun x H1 h1 => ?_) (tA_cons (tE_op h))
  obtain ⟨Hd, ds, d, sr, le, ep, k⟩ := tA_nil h1
  match ds, sr, ep with
  | [d1], ⟨v1, r1, e1, s1, e2⟩, ep =>
    have e2 : r1 = [] := e2
    subst e2
    injection e1 with e4 e5
    subst e4
    exact hr Hd H1 d1 x d Q s1 le ep k
  | [], sr, _ => cases (show [x] = [] from sr)
  | _ :: _ :: _, ⟨v1, r1, e1, s1, v2, r2, e2, s2, _⟩, _ =>
    subst e2
    cases e1
theorem tA_mono {cs : CEs} {σ : L2.St} {H : Hp} {Q Q' : List V → Hp → Prop} (hQ : ∀ v H, Q v H → Q' v H) (h : tA C W cs σ H Q) : tA C W cs σ H Q' := by
  obtain ⟨Hd, ρ, τ, ν, as, hl, g, h⟩ := h
  refine ⟨Hd, ρ, τ, ν, as, hl, g, ?_⟩
  cases e : evA C.F cs ρ with
  | bad => rw [e] at h; exact h
  | exc c d ρ' => rw [e] at h; exact h
  | ok ds ρ' => rw [e] at h; exact fun vs H' Hd' as' s' sq' g' r' => hQ _ _ (h vs H' Hd' as' s' sq' g' r')
theorem opN_read {o : Op} {r : List V → Hp → L2.VK → Prop} {cs : CEs} {σ : L2.St} {H : Hp} {Q : L2.VK} (hr : OpN C o r) (h : tE C W (.op o cs) σ H Q) : L2.tCB r (tA C W cs) σ H Q := by
  refine tA_mono (fun vs H1 h1 => ?_) (tE_op h)
  obtain ⟨Hd, ds, d, sr, le, ep, k⟩ := h1
  exact hr Hd H1 ds vs d Q sr le ep k
variable {X : L2.Cx} {a b : Expr} {ca cb : CE} {pos : Pos} {o : Op}
theorem sE_bin {op : Operator} {r : L2.R2} (ho : L2.OpR X (binaryOp op) r) (hr : Op2 C o r) (ha : L2.PE X a (tO C W ca)) (hb : L2.PE X b (tO C W cb)) : L2.PE X (.BinOp a op b pos) (tE C W (.op o (.cons ca (.cons cb .nil)))) :=
  PEimp (L2.pe_op ho ha hb) fun σ H Q h => op2_read hr h
theorem sE_cmp {op : CmpOp} {r : L2.R2} (ho : L2.OpR X (compareOp op) r) (hr : Op2 C o r) (ha : L2.PE X a (tO C W ca)) (hb : L2.PE X b (tO C W cb)) (hm : behindInMarks op b = false) : L2.PE X (.Compare a [op] [b] pos) (tE C W (.op o (.cons ca (.cons cb .nil)))) :=
  PEimp (L2.pe_cmpR ho ha hb hm) fun σ H Q h => op2_read hr h
theorem sT_cmp {op : CmpOp} {r : L2.R2} (ho : L2.OpR X (compareOp op) r) (hr : Op2 C o r) (ha : L2.PE X a (tO C W ca)) (hb : L2.PE X b (tO C W cb)) (hm : behindInMarks op b = false) : L2.PT X (.Compare a [op] [b] pos) (tT C W (.op o (.cons ca (.cons cb .nil)))) :=
  PTimp (L2.pt_cmpR ho ha hb hm) fun σ H Q h => op2_read hr h
theorem sE_ix {r : L2.R2} (ho : L2.IxR X r) (hr : Op2 C o r) (ha : L2.PE X a (tO C W ca)) (hb : L2.PE X b (tO C W cb)) (hs : L2.PlainIx b) : L2.PE X (.Subscript a b pos) (tE C W (.op o (.cons ca (.cons cb .nil)))) :=
  PEimp (L2.pe_ix ho ha hb hs) fun σ H Q h => op2_read hr h
theorem sE_un {op : UnaryOp} {r : V → Hp → L2.VK → Prop} (ho : L2.UnR X (unaryOp op) r) (hr : Op1 C o r) (ha : L2.PE X a (tO C W ca)) : L2.PE X (.UnaryOp op a pos) (tE C W (.op o (.cons ca .nil))) :=
  PEimp (L2.pe_un ho ha) fun σ H Q h => op1_read hr h
theorem sE_blt {x : Str} {id : String} {r : List V → Hp → L2.VK → Prop} {p : Pos} {e : Expr} {es : List Expr} {cs : CEs} (hc : L2.CallR X (.builtin id) r) (hr : OpN C o r) (hg : L2.Gl X x) (hm : X.mg x = none) (hv : bootBuiltins x = some (.builtin id)) (ha : L2.PA X (e :: es) (tA C W cs))
    (hn : x ≠ "__name__") (hdb : (x == ("__debug__" : Str)) = false) (he : starEach (e :: es) X.env = (false, eval e X.env) :: starEach es X.env) (hpl : (backTo pos (starEach es X.env)).any (·.1) = false) : L2.PE X (.Call (.Name x p) (e :: es) [] pos) (tE C W (.op o cs)) :=
  PEimp (L2.pe_callB hc hg hm hv ha hn hdb he hpl) fun σ H Q h => opN_read hr h
theorem sE_bty {x : Str} {T : String} {r : List V → Hp → L2.VK → Prop} {p : Pos} {e : Expr} {es : List Expr} {cs : CEs} (hc : L2.CallR X (.type T) r) (hr : OpN C o r) (hg : L2.Gl X x) (hm : X.mg x = none) (hv : bootBuiltins x = some (.type T)) (ha : L2.PA X (e :: es) (tA C W cs))
    (hn : x ≠ "__name__") (hdb : (x == ("__debug__" : Str)) = false) (he : starEach (e :: es) X.env = (false, eval e X.env) :: starEach es X.env) (hpl : (backTo pos (starEach es X.env)).any (·.1) = false) : L2.PE X (.Call (.Name x p) (e :: es) [] pos) (tE C W (.op o cs)) :=
  PEimp (L2.pe_callTy hc hg hm hv ha hn hdb he hpl) fun σ H Q h => opN_read hr h
end

/-! ### numbers -/
section
variable {C : Ctx} {X : L2.Cx}
theorem str_len (x : List Nat) : (toStr x).length = x.length := by simp [toStr, Str.length]
theorem toStr_app (x y : List Nat) : toStr (x ++ y) = toStr x ++ toStr y := by
  show (⟨(x ++ y).toArray⟩ : Str) = ⟨x.toArray ++ y.toArray⟩
  simp
theorem when_some {b : Bool} {d e : D} (h : when_ b d = some e) : b = true ∧ e = d := by
  unfold when_ at h
  cases b with
  | true => simp at h; exact ⟨rfl, h.symm⟩
  | false => simp at h
theorem okLen_le {n : Nat} (h : okLen n = true) : n ≤ sizeLine := by rw [sizeLine_eq]; exact of_decide_eq_true h
def rAdd : L2.R2 := fun x y H Q => L2.rI0 (fun i j => .int (i + j)) x y H Q ∨ ((∃ i j, x = .str i ∧ y = .str j ∧ i.length + j.length ≤ sizeLine ∧ Q (.str (i ++ j)) H) ∨ L2.rCat x y H Q)
theorem or_add : L2.OpR X (binaryOp .Add) (fun x y H Q => L2.rI0 (fun i j => .int (i + j)) x y H Q ∨ ((∃ i j, x = .str i ∧ y = .str j ∧ i.length + j.length ≤ sizeLine ∧ Q (.str (i ++ j)) H) ∨ (L2.rCat x y H Q ∨ L2.rCatA X.K x y H Q))) := L2.op_add.or (L2.op_add_str.or (L2.op_cat.or L2.op_catA))
theorem opAdd_some {a b d : D} (h : opAdd a b = some d) : (∃ i j, a = .int i ∧ b = .int j ∧ d = .int (i + j)) ∨ (∃ x y, a = .str x ∧ b = .str y ∧ okLen (x.length + y.length) = true ∧ d = .str (x ++ y)) ∨
    (∃ xs ys, a = .lst xs ∧ b = .lst ys ∧ okLen (xs.length + ys.length) = true ∧ d = .lst (xs ++ ys)) ∨ (∃ xs ys, a = .tup xs ∧ b = .tup ys ∧ okLen (xs.length + ys.length) = true ∧ d = .tup (xs ++ ys)) := by
  unfold opAdd at h
  split at h
  · cases h; exact .inl ⟨_, _, rfl, rfl, rfl⟩
  · obtain ⟨h1, h2⟩ := when_some h; exact .inr (.inl ⟨_, _, rfl, rfl, h1, h2⟩)
  · obtain ⟨h1, h2⟩ := when_some h; exact .inr (.inr (.inl ⟨_, _, rfl, rfl, h1, h2⟩))
  · obtain ⟨h1, h2⟩ := when_some h; exact .inr (.inr (.inr ⟨_, _, rfl, rfl, h1, h2⟩))
  · cases h
theorem o2_add (hK : X.K = C.K) : Op2 C .add (fun x y H Q => L2.rI0 (fun i j => .int (i + j)) x y H Q ∨ ((∃ i j, x = .str i ∧ y = .str j ∧ i.length + j.length ≤ sizeLine ∧ Q (.str (i ++ j)) H) ∨ (L2.rCat x y H Q ∨ L2.rCatA X.K x y H Q))) := by
  intro Hd H d1 d2 x y d Q s1 s2 le e k
  simp only [prim] at e
  rcases opAdd_some e with ⟨i, j, rfl, rfl, rfl⟩ | ⟨p, q, rfl, rfl, h, rfl⟩ | ⟨xs, ys, rfl, rfl, h, rfl⟩ | ⟨xs, ys, rfl, rfl, h, rfl⟩
  · have e1 : x = .int i := s1
    have e2 : y = .int j := s2
    exact .inl ⟨i, j, e1, e2, k _ _ (.same rfl)⟩
  · have e1 : x = .str (toStr p) := s1
    have e2 : y = .str (toStr q) := s2
    exact .inr (.inl ⟨_, _, e1, e2, by rw [str_len, str_len]; exact okLen_le h, k _ _ (.same (by show _ = _; rw [toStr_app]))⟩)
  · obtain ⟨a, vs, e1, h1, r1⟩ := s1
    obtain ⟨b, ws, e2, h2, r2⟩ := s2
    exact .inr (.inr (.inl ⟨a, b, vs, ws, e1, e2, h1, h2, by rw [r1.length, r2.length]; exact okLen_le h, fun p hp => k _ _ (.newL hp (r1.append r2))⟩))
  · obtain ⟨a, vs, e1, h1, r1⟩ := s1
    obtain ⟨b, ws, e2, h2, r2⟩ := s2
    subst e1 e2
    rw [hK]
    refine .inr (.inr (.inr ⟨a, b, vs, ws, rfl, rfl, sqT_le le h1, sqT_le le h2, by rw [r1.length, r2.length]; exact okLen_le h, fun z => ?_, fun z1 z2 => ?_, fun _ _ p hp => k _ _ (.newT hp (r1.append r2))⟩))
    · subst z
      have : xs = [] := List.eq_nil_of_length_eq_zero (by simpa using r1.length.symm)
      subst this
      exact k _ _ (.same ⟨b, ws, rfl, h2, r2⟩)
    · subst z2
      have : ys = [] := List.eq_nil_of_length_eq_zero (by simpa using r2.length.symm)
      subst this
      refine k _ _ (.same ⟨a, vs, rfl, h1, by simpa using r1⟩)
theorem opI_some {f : Int → Int → D} {a b d : D} (h : opI f a b = some d) : ∃ i j, a = .int i ∧ b = .int j ∧ d = f i j := by
  unfold opI at h
  split at h
  · cases h; exact ⟨_, _, rfl, rfl, rfl⟩
  · cases h
theorem opIc_some {c : Int → Int → Bool} {f : Int → Int → D} {a b d : D} (h : opIc c f a b = some d) : ∃ i j, a = .int i ∧ b = .int j ∧ c i j = true ∧ d = f i j := by
  unfold opIc at h
  split at h
  · obtain ⟨h1, h2⟩ := when_some h; exact ⟨_, _, rfl, rfl, h1, h2⟩
  · cases h
theorem o2_int {o : Op} {f : Int → Int → D} {g : Int → Int → V} (ho : ∀ a b, prim C.F.rp C.F.sub o [a, b] = opI f a b) (hl : o.lays = false) (hg : ∀ K H i j, Rep K H (f i j) (g i j)) : Op2 C o (L2.rI0 g) := by
  intro Hd H d1 d2 x y d Q s1 s2 le e k
  rw [ho] at e
  obtain ⟨i, j, rfl, rfl, rfl⟩ := opI_some e
  have e1 : x = .int i := s1
  have e2 : y = .int j := s2
  rw [hl] at k
  exact ⟨i, j, e1, e2, k _ _ (.same (hg _ _ _ _))⟩
theorem o2_intc {o : Op} {c : Int → Int → Bool} {f : Int → Int → D} {g : Int → Int → V} {Cd : Int → Int → Prop} (ho : ∀ a b, prim C.F.rp C.F.sub o [a, b] = opIc c f a b) (hl : o.lays = false) (hg : ∀ K H i j, Rep K H (f i j) (g i j)) (hc : ∀ i j, c i j = true → Cd i j) : Op2 C o (L2.rI Cd g) := by
  intro Hd H d1 d2 x y d Q s1 s2 le e k
  rw [ho] at e
  obtain ⟨i, j, rfl, rfl, h, rfl⟩ := opIc_some e
  have e1 : x = .int i := s1
  have e2 : y = .int j := s2
  rw [hl] at k
  exact ⟨i, j, e1, e2, hc _ _ h, k _ _ (.same (hg _ _ _ _))⟩
theorem o2_sub : Op2 C .sub (L2.rI0 fun i j => .int (i - j)) := o2_int (f := fun i j => .int (i - j)) (fun _ _ => rfl) rfl fun _ _ _ _ => rfl
theorem o2_lt : Op2 C .lt (L2.rI0 fun i j => .bl (decide (i < j))) := o2_int (f := fun i j => .bl (decide (i < j))) (fun _ _ => rfl) rfl fun _ _ _ _ => rfl
theorem o2_le : Op2 C .le (L2.rI0 fun i j => .bl (decide (i ≤ j))) := o2_int (f := fun i j => .bl (decide (i ≤ j))) (fun _ _ => rfl) rfl fun _ _ _ _ => rfl
theorem o2_gt : Op2 C .gt (L2.rI0 fun i j => .bl (decide (j < i))) := o2_int (f := fun i j => .bl (decide (j < i))) (fun _ _ => rfl) rfl fun _ _ _ _ => rfl
theorem o2_ge : Op2 C .ge (L2.rI0 fun i j => .bl (decide (j ≤ i))) := o2_int (f := fun i j => .bl (decide (j ≤ i))) (fun _ _ => rfl) rfl fun _ _ _ _ => rfl
def CDivG (_ j : Int) : Prop := j ≠ 0 ∧ j.natAbs.log2 < 9000
theorem op_fdivG : L2.OpR X (binaryOp .FloorDiv) (L2.rI CDivG fun i j => .int (i.fdiv j)) := L2.opI fun _ _ _ _ _ _ _ hc q => floordiv_int hc.1 q (.inl (PyProof.noPylong_of_log2 hc.2))
theorem o2_fdiv : Op2 C .fdiv (L2.rI CDivG fun i j => .int (i.fdiv j)) := o2_intc (c := fun _ j => okDiv j) (f := fun i j => .int (i.fdiv j)) (fun _ _ => rfl) rfl (fun _ _ _ _ => rfl) fun i j h => by
  unfold okDiv at h
  simp only [Bool.and_eq_true, decide_eq_true_eq] at h
  exact h
theorem o2_mod : Op2 C .mod (L2.rI (fun _ j => j ≠ 0) fun i j => .int (i.fmod j)) := o2_intc (c := fun _ j => decide (j ≠ 0)) (f := fun i j => .int (i.fmod j)) (fun _ _ => rfl) rfl (fun _ _ _ _ => rfl) fun i j h => of_decide_eq_true h
theorem op_powG : L2.OpR X (binaryOp .Pow) (L2.rI (fun i j => 0 ≤ j ∧ (Builtin.Int.intBits i : Int) * j ≤ 2 ^ 27) fun i j => .int (i ^ j.toNat)) := L2.opI fun _ _ _ _ _ _ _ hc q => pow_int hc.1 hc.2 q
theorem intBits_eq (i : Int) : Builtin.Int.intBits i = intBits i := by
  unfold Builtin.Int.intBits intBits
  by_cases h : i = 0
  · subst h; rfl
  · rw [if_neg h, if_neg (by simpa using h)]
theorem o2_pow : Op2 C .pow (L2.rI (fun i j => 0 ≤ j ∧ (Builtin.Int.intBits i : Int) * j ≤ 2 ^ 27) fun i j => .int (i ^ j.toNat)) := o2_intc (c := okPow) (f := fun i j => .int (i ^ j.toNat)) (fun _ _ => rfl) rfl (fun _ _ _ _ => rfl) fun i j h => by
  unfold okPow at h
  simp only [Bool.and_eq_true, decide_eq_true_eq] at h
  rw [intBits_eq]
  exact ⟨h.1, by have := h.2; omega⟩
theorem opMul_some {a b d : D} (h : opMul a b = some d) : (∃ i j, a = .int i ∧ b = .int j ∧ okMul i j = true ∧ d = .int (i * j)) ∨ (∃ xs j, a = .lst xs ∧ b = .int j ∧ okTimes xs.length j = true ∧ d = .lst (List.replicate j.toNat xs).flatten) := by
  unfold opMul at h
  split at h
  · obtain ⟨h1, h2⟩ := when_some h; exact .inl ⟨_, _, rfl, rfl, h1, h2⟩
  · obtain ⟨h1, h2⟩ := when_some h; exact .inr ⟨_, _, rfl, rfl, h1, h2⟩
  · cases h
theorem reps_rep {K : Frag} {Hd : Hp} {ds : List D} {vs : List V} (r : Reps K Hd ds vs) : ∀ n : Nat, Reps K Hd (List.replicate n ds).flatten (List.replicate n vs).flatten
  | 0 => rfl
  | n + 1 => by rw [List.replicate_succ, List.replicate_succ, List.flatten_cons, List.flatten_cons]; exact r.append (reps_rep r n)
theorem o2_mul : Op2 C .mul (fun x y H Q => L2.rI L2.CMulW (fun i j => .int (i * j)) x y H Q ∨ L2.rRep x y H Q) := by
  intro Hd H d1 d2 x y d Q s1 s2 le e k
  simp only [prim] at e
  rcases opMul_some e with ⟨i, j, rfl, rfl, h, rfl⟩ | ⟨xs, j, rfl, rfl, h, rfl⟩
  · have e1 : x = .int i := s1
    have e2 : y = .int j := s2
    exact .inl ⟨i, j, e1, e2, (of_decide_eq_true h : i.natAbs.log2 + j.natAbs.log2 < 1000000), k _ _ (.same rfl)⟩
  · obtain ⟨a, vs, e1, h1, r1⟩ := s1
    have e2 : y = .int j := s2
    unfold okTimes at h
    simp only [Bool.and_eq_true, decide_eq_true_eq] at h
    exact .inr ⟨a, j, vs, e1, e2, h1, h.2.1, h.2.2, by rw [r1.length]; exact okLen_le h.1, fun p hp => k _ _ (.newL hp (reps_rep r1 _))⟩
theorem or_mul : L2.OpR X (binaryOp .Mult) (fun x y H Q => L2.rI L2.CMulW (fun i j => .int (i * j)) x y H Q ∨ L2.rRep x y H Q) := L2.op_mulW.or L2.op_rep
theorem o1_neg : Op1 C .neg (L2.rU fun i => .int (-i)) := by
  intro Hd H d1 x d Q s1 le e k
  obtain ⟨i, rfl, rfl⟩ : ∃ i, d1 = .int i ∧ d = .int (-i) := by
    cases d1 with
    | int i => simp only [prim] at e; cases e; exact ⟨i, rfl, rfl⟩
    | _ => simp only [prim] at e; cases e
  have e1 : x = .int i := s1
  exact ⟨i, e1, k _ _ (.same rfl)⟩
end
end PV

set_option Elab.async false
set_option linter.all false
set_option maxRecDepth 100000
set_option maxHeartbeats 4000000
/-! PvOps2: operations, second part: ==, is, len, conversions, subscripts, slices, all, any, isinstance. -/
namespace PV
open PySem PySem.Spec PyProof.Rows

/-! ### == -/
mutual
def toPy : D → PyData
  | .bl b => .bool b
  | .int i => .int i
  | .str x => .str (toStr x)
  | .tup xs => .tuple (toPys xs)
  | .lst xs => .list (toPys xs)
  | _ => .none
def toPys : List D → List PyData
  | [] => []
  | x :: xs => toPy x :: toPys xs
end
theorem toStr_eq {x y : List Nat} : (toStr x == toStr y) = (x == y) := by
  have : toStr x = toStr y ↔ x = y := by
    constructor
    · intro h
      have := congrArg (fun z : Str => z.cps.toList) h
      simpa [toStr] using this
    · intro h; rw [h]
  by_cases h : x = y
  · subst h; simp
  · rw [beq_eq_false_iff_ne.mpr h, beq_eq_false_iff_ne.mpr fun z => h (this.mp z)]
mutual
theorem eqv_py : ∀ (a b : D), dat a = true → dat b = true → PyData.eqv (toPy a) (toPy b) = eqv a b
  | .non, b, _, hb => by cases b <;> first | (simp [dat] at hb; done) | simp [toPy, eqv, PyData.eqv]
  | .bl x, b, _, hb => by cases b <;> first | (simp [dat] at hb; done) | simp [toPy, eqv, PyData.eqv, b2i]
  | .int x, b, _, hb => by cases b <;> first | (simp [dat] at hb; done) | simp [toPy, eqv, PyData.eqv, b2i]
  | .str x, b, _, hb => by cases b <;> first | (simp [dat] at hb; done) | simp [toPy, eqv, PyData.eqv, toStr_eq]
  | .tup xs, b, ha, hb => by
    cases b with
    | tup ys => simp only [toPy, eqv, PyData.eqv]; exact eqvs_py xs ys (by simpa [dat] using ha) (by simpa [dat] using hb)
    | _ => first | (simp [dat] at hb; done) | simp [toPy, eqv, PyData.eqv]
  | .lst xs, b, ha, hb => by
    cases b with
    | lst ys => simp only [toPy, eqv, PyData.eqv]; exact eqvs_py xs ys (by simpa [dat] using ha) (by simpa [dat] using hb)
    | _ => first | (simp [dat] at hb; done) | simp [toPy, eqv, PyData.eqv]
  | .dct _, _, ha, _ => by simp [dat] at ha
  | .obj _ _, _, ha, _ => by simp [dat] at ha
  | .exc _ _, _, ha, _ => by simp [dat] at ha
  | .scr _, _, ha, _ => by simp [dat] at ha
theorem eqvs_py : ∀ (a b : List D), dats a = true → dats b = true → PyData.eqvAll (toPys a) (toPys b) = eqvs a b
  | [], [], _, _ => by simp [toPys, eqvs, PyData.eqvAll]
  | [], _ :: _, _, _ => by simp [toPys, eqvs, PyData.eqvAll]
  | _ :: _, [], _, _ => by simp [toPys, eqvs, PyData.eqvAll]
  | x :: xs, y :: ys, ha, hb => by
    simp only [dats, Bool.and_eq_true] at ha hb
    simp only [toPys, eqvs, PyData.eqvAll]
    rw [eqv_py x y ha.1 hb.1, eqvs_py xs ys ha.2 hb.2]
end
mutual
theorem dp_of {K : Frag} {H : Hp} : ∀ (d : D) (v : V), dat d = true → Rep K H d v → L2.Dp K H v (toPy d)
  | .non, v, _, r => by cases (show v = .non from r); exact .non
  | .bl b, v, _, r => by cases (show v = .bl b from r); exact .bl b
  | .int i, v, _, r => by cases (show v = .int i from r); exact .int i
  | .str x, v, _, r => by cases (show v = .str (toStr x) from r); exact .str _
  | .tup ds, v, h, ⟨a, vs, e, q, r⟩ => by subst e; exact .tup q (dps_of ds vs (by simpa [dat] using h) r)
  | .lst ds, v, h, ⟨a, vs, e, q, r⟩ => by subst e; exact .lst (.inl (.inl q)) (dps_of ds vs (by simpa [dat] using h) r)
  | .dct _, _, h, _ => by simp [dat] at h
  | .obj _ _, _, h, _ => by simp [dat] at h
  | .exc _ _, _, h, _ => by simp [dat] at h
  | .scr _, _, h, _ => by simp [dat] at h
theorem dps_of {K : Frag} {H : Hp} : ∀ (ds : List D) (vs : List V), dats ds = true → Reps K H ds vs → L2.DpAll K H vs (toPys ds)
  | [], vs, _, r => by cases (show vs = [] from r); exact .nil
  | d :: ds, vs, h, ⟨v, r, e, q, qs⟩ => by
    subst e
    simp only [dats, Bool.and_eq_true] at h
    exact .cons (dp_of d v h.1 q) (dps_of ds r h.2 qs)
end
theorem dp_s {K : Frag} {Hd H : Hp} (le : Le Hd H) {d : D} {v : V} (h : dat d = true) (s : SRep K Hd H d v) : L2.Dp K H v (toPy d) := by
  cases d with
  | lst ds =>
    obtain ⟨a, vs, e, q, r⟩ := s
    subst e
    exact .lst (.inl (.inl q)) (dps_of ds vs (by simpa [dat] using h) (Reps.le le _ _ r))
  | _ => exact dp_of _ v h (Rep.le le _ _ s)
mutual
theorem dep_py : ∀ d : D, (toPy d).depth = dep d
  | .non => by simp [toPy, PyData.depth, dep]
  | .bl _ => by simp [toPy, PyData.depth, dep]
  | .int _ => by simp [toPy, PyData.depth, dep]
  | .str _ => by simp [toPy, PyData.depth, dep]
  | .tup xs => by simp [toPy, PyData.depth, dep, deps_py xs]
  | .lst xs => by simp [toPy, PyData.depth, dep, deps_py xs]
  | .dct _ => by simp [toPy, PyData.depth, dep]
  | .obj _ _ => by simp [toPy, PyData.depth, dep]
  | .exc _ _ => by simp [toPy, PyData.depth, dep]
  | .scr _ => by simp [toPy, PyData.depth, dep]
theorem deps_py : ∀ ds : List D, PyData.depthAll (toPys ds) = deps ds
  | [] => by simp [toPys, PyData.depthAll, deps]
  | d :: ds => by simp [toPys, PyData.depthAll, deps, dep_py d, deps_py ds]
end
theorem strOk_of {x : List Nat} (h : okStr x = true) : PyData.strOk (toStr x) = true := by
  unfold PyData.strOk toStr
  simpa [okStr] using h
mutual
theorem lay_py : ∀ d : D, dat d = true → (toPy d).canLay0 = true
  | .non, _ => by simp [toPy, PyData.canLay0]
  | .bl _, _ => by simp [toPy, PyData.canLay0]
  | .int _, _ => by simp [toPy, PyData.canLay0]
  | .str x, h => by simp only [toPy, PyData.canLay0]; exact strOk_of (by simpa [dat] using h)
  | .tup xs, h => by simp only [toPy, PyData.canLay0]; exact lays_py xs (by simpa [dat] using h)
  | .lst xs, h => by simp only [toPy, PyData.canLay0]; exact lays_py xs (by simpa [dat] using h)
  | .dct _, h => by simp [dat] at h
  | .obj _ _, h => by simp [dat] at h
  | .exc _ _, h => by simp [dat] at h
  | .scr _, h => by simp [dat] at h
theorem lays_py : ∀ ds : List D, dats ds = true → PyData.canLayAll0 (toPys ds) = true
  | [], _ => by simp [toPys, PyData.canLayAll0]
  | d :: ds, h => by
    simp only [dats, Bool.and_eq_true] at h
    simp [toPys, PyData.canLayAll0, lay_py d h.1, lays_py ds h.2]
end
theorem shaped_py {d : D} (h : cmpOk d = true) : SeqAt.shaped (toPy d) = true := by
  unfold cmpOk at h
  simp only [Bool.and_eq_true, decide_eq_true_eq] at h
  unfold SeqAt.shaped
  simp only [Bool.and_eq_true, decide_eq_true_eq]
  exact ⟨lay_py d h.1, by rw [dep_py]; exact h.2⟩
section
variable {C : Ctx} {X : L2.Cx}
theorem cmp_dat {d : D} (h : cmpOk d = true) : dat d = true := by
  unfold cmpOk at h
  simp only [Bool.and_eq_true] at h
  exact h.1
theorem o2_eq (hK : X.K = C.K) : Op2 C .eq (L2.rEqD X.K) := by
  intro Hd H d1 d2 x y d Q s1 s2 le e k
  simp only [prim, opEq] at e
  obtain ⟨h, rfl⟩ := when_some e
  simp only [Bool.and_eq_true] at h
  rw [hK]
  refine ⟨toPy d1, toPy d2, dp_s le (cmp_dat h.1) s1, dp_s le (cmp_dat h.2) s2, shaped_py h.1, shaped_py h.2, ?_⟩
  rw [eqv_py d1 d2 (cmp_dat h.1) (cmp_dat h.2)]
  exact k _ _ (.same (by show _ = _; simp))
theorem o2_ne (hK : X.K = C.K) : Op2 C .ne (L2.rNeD X.K) := by
  intro Hd H d1 d2 x y d Q s1 s2 le e k
  simp only [prim, opEq] at e
  obtain ⟨h, rfl⟩ := when_some e
  simp only [Bool.and_eq_true] at h
  rw [hK]
  refine ⟨toPy d1, toPy d2, dp_s le (cmp_dat h.1) s1, dp_s le (cmp_dat h.2) s2, shaped_py h.1, shaped_py h.2, ?_⟩
  rw [eqv_py d1 d2 (cmp_dat h.1) (cmp_dat h.2)]
  exact k _ _ (.same (by show _ = _; simp))
end
end PV

set_option Elab.async false
set_option linter.all false
set_option maxRecDepth 100000
set_option maxHeartbeats 4000000
/-! PvOps3: operations, third part. -/
namespace PV
open PySem PySem.Spec PyProof.Rows
section
variable {C : Ctx} {W : L2.WX} {X : L2.Cx}
def isNon : D → Bool
  | .non => true
  | _ => false
theorem rep_non {K : Frag} {Hd H : Hp} : ∀ {d : D} {x : V}, SRep K Hd H d x → decide (x = .non) = isNon d
  | .non, x, r => by cases (show x = .non from r); rfl
  | .bl b, x, r => by cases (show x = .bl b from r); rfl
  | .int b, x, r => by cases (show x = .int b from r); rfl
  | .str b, x, r => by cases (show x = .str _ from r); rfl
  | .tup _, x, ⟨a, vs, e, _⟩ => by subst e; rfl
  | .lst _, x, ⟨a, vs, e, _⟩ => by subst e; rfl
  | .dct _, x, ⟨a, vs, e, _⟩ => by subst e; rfl
  | .obj _ _, x, r => False.elim r
  | .exc _ _, x, r => False.elim r
  | .scr _, x, ⟨a, e, _⟩ => by subst e; rfl
theorem sE_isN {a : Expr} {ca : CE} {j : Nat} {pos p2 : Pos} (ha : L2.PE X a (tO C W ca)) : L2.PE X (.Compare a [.Is] [.Constant .none j p2] pos) (tE C W (.op .isN (.cons ca .nil))) := by
  refine PEimp (L2.pe_cmp (L2.pc_isN ha)) fun σ H Q h => op1_read (r := fun x H Q => Q (.bl (decide (x = .non))) H) (fun Hd H d1 x d Q s1 le e k => ?_) h
  show Q (.bl (decide (x = .non))) H
  rw [rep_non s1]
  have : d = .bl (isNon d1) := by cases d1 <;> (simp only [prim] at e; cases e; rfl)
  subst this
  exact k _ _ (.same rfl)
theorem sE_notN {a : Expr} {ca : CE} {j : Nat} {pos p2 : Pos} (ha : L2.PE X a (tO C W ca)) : L2.PE X (.Compare a [.IsNot] [.Constant .none j p2] pos) (tE C W (.op .notN (.cons ca .nil))) := by
  refine PEimp (L2.pe_cmp (L2.pc_notN ha)) fun σ H Q h => op1_read (r := fun x H Q => Q (.bl (!decide (x = .non))) H) (fun Hd H d1 x d Q s1 le e k => ?_) h
  show Q (.bl (!decide (x = .non))) H
  rw [rep_non s1]
  have : d = .bl (!isNon d1) := by cases d1 <;> (simp only [prim] at e; cases e; rfl)
  subst this
  exact k _ _ (.same rfl)
theorem sT_isN {a : Expr} {ca : CE} {j : Nat} {pos p2 : Pos} (ha : L2.PE X a (tO C W ca)) : L2.PT X (.Compare a [.Is] [.Constant .none j p2] pos) (tT C W (.op .isN (.cons ca .nil))) := by
  refine PTimp (L2.pt_cmp (L2.pc_isN ha)) fun σ H Q h => op1_read (r := fun x H Q => Q (.bl (decide (x = .non))) H) (fun Hd H d1 x d Q s1 le e k => ?_) h
  show Q (.bl (decide (x = .non))) H
  rw [rep_non s1]
  have : d = .bl (isNon d1) := by cases d1 <;> (simp only [prim] at e; cases e; rfl)
  subst this
  exact k _ _ (.same rfl)
theorem sT_notN {a : Expr} {ca : CE} {j : Nat} {pos p2 : Pos} (ha : L2.PE X a (tO C W ca)) : L2.PT X (.Compare a [.IsNot] [.Constant .none j p2] pos) (tT C W (.op .notN (.cons ca .nil))) := by
  refine PTimp (L2.pt_cmp (L2.pc_notN ha)) fun σ H Q h => op1_read (r := fun x H Q => Q (.bl (!decide (x = .non))) H) (fun Hd H d1 x d Q s1 le e k => ?_) h
  show Q (.bl (!decide (x = .non))) H
  rw [rep_non s1]
  have : d = .bl (!isNon d1) := by cases d1 <;> (simp only [prim] at e; cases e; rfl)
  subst this
  exact k _ _ (.same rfl)
/-- x is True, x is not True, of bools -/
theorem is_true {a : Expr} {ca : CE} {j : Nat} {pos p2 : Pos} {neg : Bool} (Q : L2.VK) (σ : L2.St) (H : Hp) (h : tE C W (.op (if neg then .notT else .isT) (.cons ca .nil)) σ H Q) : L2.tOp (if neg then L2.rNotB else L2.rIsB) (tO C W ca) (L2.tC (.bl true)) σ H Q := by
  have key : Op1 C (if neg then .notT else .isT) fun x H Q => ∃ b, x = .bl b ∧ Q (.bl (if neg then !b else b)) H := fun Hd H d1 x d Q s1 le e k => by
    cases neg <;> cases d1 <;> simp only [prim, if_true, if_false, Bool.false_eq_true] at e <;> first | cases e | skip
    · rename_i b
      have e1 : x = .bl b := s1
      exact ⟨b, e1, k _ _ (.same rfl)⟩
    · rename_i b
      have e1 : x = .bl b := s1
      exact ⟨b, e1, k _ _ (.same rfl)⟩
  refine tO_mono (fun x H1 q => ?_) (op1_read key h)
  obtain ⟨b, rfl, q⟩ := q
  cases neg with
  | false => exact ⟨b, true, rfl, rfl, by cases b <;> simpa using q⟩
  | true => exact ⟨b, true, rfl, rfl, by cases b <;> simpa using q⟩
theorem sE_isT {a : Expr} {ca : CE} {j : Nat} {pos p2 : Pos} (ha : L2.PE X a (tO C W ca)) : L2.PE X (.Compare a [.Is] [.Constant (.bool true) j p2] pos) (tE C W (.op .isT (.cons ca .nil))) :=
  PEimp (L2.pe_cmpR L2.op_isBl ha L2.pe_bl (L2.nomark _)) fun σ H Q h => is_true (neg := false) (a := a) (j := j) (pos := pos) (p2 := p2) Q σ H h
theorem sE_notT {a : Expr} {ca : CE} {j : Nat} {pos p2 : Pos} (ha : L2.PE X a (tO C W ca)) : L2.PE X (.Compare a [.IsNot] [.Constant (.bool true) j p2] pos) (tE C W (.op .notT (.cons ca .nil))) :=
  PEimp (L2.pe_cmpR L2.op_notBl ha L2.pe_bl (L2.nomark _)) fun σ H Q h => is_true (neg := true) (a := a) (j := j) (pos := pos) (p2 := p2) Q σ H h
theorem sT_isT {a : Expr} {ca : CE} {j : Nat} {pos p2 : Pos} (ha : L2.PE X a (tO C W ca)) : L2.PT X (.Compare a [.Is] [.Constant (.bool true) j p2] pos) (tT C W (.op .isT (.cons ca .nil))) :=
  PTimp (L2.pt_cmpR L2.op_isBl ha L2.pe_bl (L2.nomark _)) fun σ H Q h => is_true (neg := false) (a := a) (j := j) (pos := pos) (p2 := p2) _ σ H h
theorem sT_notT {a : Expr} {ca : CE} {j : Nat} {pos p2 : Pos} (ha : L2.PE X a (tO C W ca)) : L2.PT X (.Compare a [.IsNot] [.Constant (.bool true) j p2] pos) (tT C W (.op .notT (.cons ca .nil))) :=
  PTimp (L2.pt_cmpR L2.op_notBl ha L2.pe_bl (L2.nomark _)) fun σ H Q h => is_true (neg := true) (a := a) (j := j) (pos := pos) (p2 := p2) _ σ H h

/-! ### built-ins -/
/-- one argument -/
theorem oN_one {o : Op} {r : List V → Hp → L2.VK → Prop} (hno : ∀ ds d, prim C.F.rp C.F.sub o ds = some d → ds.length = 1) (h : ∀ (Hd H : Hp) (d1 : D) (x : V) (d : D) (Q : L2.VK), SRep C.K Hd H d1 x → Le Hd H → prim C.F.rp C.F.sub o [d1] = some d → (∀ v H', Lay C.K Hd H o.lays d v H' → Q v H') → r [x] H Q) : OpN C o r := by
  intro Hd H ds vs d Q sr le e k
  have hl := hno ds d e
  match ds, sr, e, hl with
  | [d1], ⟨v, r1, e1, s1, e2⟩, e, _ =>
    have e2 : r1 = [] := e2
    subst e2 e1
    exact h Hd H d1 v d Q s1 le e k
  | [], _, _, hl => simp at hl
  | _ :: _ :: _, _, _, hl => simp at hl
theorem one_len (ds : List D) (d : D) (e : prim C.F.rp C.F.sub .len ds = some d) : ds.length = 1 := by
  match ds, e with
  | [], e => simp [prim] at e
  | [_], _ => rfl
  | _ :: _ :: _, e => simp [prim] at e
theorem oN_len (hK : X.K = C.K) : OpN C .len (fun xs H Q => ∃ x n, xs = [x] ∧ L2.LenV X.K x H n ∧ Q (.int (n : Nat)) H) := oN_one one_len fun Hd H d1 x d Q s1 le e k => by
  rw [hK]
  cases d1 with
  | scr ns =>
    simp only [prim] at e
    cases e
    obtain ⟨a, rfl, q⟩ := s1
    exact ⟨_, ns.length, rfl, .inl ⟨_, sqL_le le q, by simp⟩, k _ _ (.same rfl)⟩
  | tup ds =>
    simp only [prim] at e
    cases e
    obtain ⟨a, vs, rfl, q, r⟩ := s1
    exact ⟨_, ds.length, rfl, .inr ⟨vs, sqT_le le q, r.length.symm⟩, k _ _ (.same rfl)⟩
  | lst ds =>
    simp only [prim] at e
    cases e
    obtain ⟨a, vs, rfl, q, r⟩ := s1
    exact ⟨_, ds.length, rfl, .inl ⟨vs, .inl (.inl q), r.length.symm⟩, k _ _ (.same rfl)⟩
  | str z =>
    simp only [prim] at e
    obtain ⟨h, rfl⟩ := when_some e
    cases (show x = .str (toStr z) from s1)
    exact ⟨_, z.length, rfl, ⟨by rw [str_len]; exact okLen_le h, (str_len z).symm⟩, k _ _ (.same rfl)⟩
  | _ => simp [prim] at e
theorem one_abs (ds : List D) (d : D) (e : prim C.F.rp C.F.sub .abs ds = some d) : ds.length = 1 := by
  match ds, e with
  | [], e => simp [prim] at e
  | [_], _ => rfl
  | _ :: _ :: _, e => simp [prim] at e
theorem oN_abs : OpN C .abs (fun xs H Q => ∃ i, xs = [.int i] ∧ Q (.int (if i < 0 then -i else i)) H) := oN_one one_abs fun Hd H d1 x d Q s1 le e k => by
  cases d1 with
  | int i =>
    simp only [prim] at e
    cases e
    cases (show x = .int i from s1)
    exact ⟨i, rfl, k _ _ (.same rfl)⟩
  | _ => simp [prim] at e
theorem one_int (ds : List D) (d : D) (e : prim C.F.rp C.F.sub .int ds = some d) : ds.length = 1 := by
  match ds, e with
  | [], e => simp [prim] at e
  | [_], _ => rfl
  | _ :: _ :: _, e => simp [prim] at e
theorem oN_int : OpN C .int (fun xs H Q => (∃ i, xs = [.int i] ∧ Q (.int i) H) ∨ ∃ k, xs = [.bl k] ∧ Q (.int (if k then 1 else 0)) H) := oN_one one_int fun Hd H d1 x d Q s1 le e k => by
  cases d1 with
  | int i =>
    simp only [prim] at e
    cases e
    cases (show x = .int i from s1)
    exact .inl ⟨i, rfl, k _ _ (.same rfl)⟩
  | bl b =>
    simp only [prim] at e
    cases e
    cases (show x = .bl b from s1)
    exact .inr ⟨b, rfl, k _ _ (.same rfl)⟩
  | _ => simp [prim] at e
theorem one_tuple (ds : List D) (d : D) (e : prim C.F.rp C.F.sub .tuple ds = some d) : ds.length = 1 := by
  match ds, e with
  | [], e => simp [prim] at e
  | [_], _ => rfl
  | _ :: _ :: _, e => simp [prim] at e
theorem oN_tuple (hK : X.K = C.K) : OpN C .tuple (fun xs H Q => ∃ p ys, xs = [.ref p] ∧ ((L2.SqL X.K H p ys ∧ ∀ l, H l = none → Q (.ref l) (L2.upd H l (.tup ys))) ∨ (L2.SqT X.K H p ys ∧ Q (.ref p) H))) := oN_one one_tuple fun Hd H d1 x d Q s1 le e k => by
  rw [hK]
  cases d1 with
  | tup ds =>
    simp only [prim, seq?] at e
    cases e
    obtain ⟨a, vs, rfl, q, r⟩ := s1
    exact ⟨a, vs, rfl, .inr ⟨sqT_le le q, k _ _ (.same ⟨a, vs, rfl, q, r⟩)⟩⟩
  | lst ds =>
    simp only [prim, seq?] at e
    cases e
    obtain ⟨a, vs, rfl, q, r⟩ := s1
    exact ⟨a, vs, rfl, .inl ⟨.inl (.inl q), fun l hn => k _ _ (.newT hn r)⟩⟩
  | _ => simp [prim, seq?] at e
theorem one_list (ds : List D) (d : D) (e : prim C.F.rp C.F.sub .list ds = some d) : ds.length = 1 := by
  match ds, e with
  | [], e => simp [prim] at e
  | [_], _ => rfl
  | _ :: _ :: _, e => simp [prim] at e
theorem oN_list (hK : X.K = C.K) : OpN C .list (fun xs H Q => ∃ p ys, xs = [.ref p] ∧ (L2.SqL X.K H p ys ∨ L2.SqT X.K H p ys) ∧ ∀ l, H l = none → Q (.ref l) (L2.upd H l (.lst ys))) := oN_one one_list fun Hd H d1 x d Q s1 le e k => by
  rw [hK]
  cases d1 with
  | tup ds =>
    simp only [prim, seq?] at e
    cases e
    obtain ⟨a, vs, rfl, q, r⟩ := s1
    exact ⟨a, vs, rfl, .inr (sqT_le le q), fun l hn => k _ _ (.newL hn r)⟩
  | lst ds =>
    simp only [prim, seq?] at e
    cases e
    obtain ⟨a, vs, rfl, q, r⟩ := s1
    exact ⟨a, vs, rfl, .inl (.inl (.inl q)), fun l hn => k _ _ (.newL hn r)⟩
  | _ => simp [prim, seq?] at e
theorem bls_reps {K : Frag} {Hd : Hp} : ∀ {ds : List D} {bs : List Bool} {vs : List V}, bls ds = some bs → Reps K Hd ds vs → vs = bs.map .bl
  | [], bs, vs, e, r => by simp [bls] at e; subst e; exact r
  | .bl b :: ds, bs, vs, e, ⟨v, r, e1, q, qs⟩ => by
    simp only [bls, Option.map_eq_some_iff] at e
    obtain ⟨bs', e2, e3⟩ := e
    subst e3 e1
    cases (show v = .bl b from q)
    rw [bls_reps e2 qs]
    rfl
  | .non :: _, _, _, e, _ => by simp [bls] at e
  | .int _ :: _, _, _, e, _ => by simp [bls] at e
  | .str _ :: _, _, _, e, _ => by simp [bls] at e
  | .tup _ :: _, _, _, e, _ => by simp [bls] at e
  | .lst _ :: _, _, _, e, _ => by simp [bls] at e
  | .dct _ :: _, _, _, e, _ => by simp [bls] at e
  | .obj _ _ :: _, _, _, e, _ => by simp [bls] at e
  | .exc _ _ :: _, _, _, e, _ => by simp [bls] at e
  | .scr _ :: _, _, _, e, _ => by simp [bls] at e
theorem one_all (ds : List D) (d : D) (e : prim C.F.rp C.F.sub .all ds = some d) : ds.length = 1 := by
  match ds, e with
  | [], e => simp [prim] at e
  | [_], _ => rfl
  | _ :: _ :: _, e => simp [prim] at e
theorem oN_all (hK : X.K = C.K) : OpN C .all (L2.rAll X.K) := oN_one one_all fun Hd H d1 x d Q s1 le e k => by
  rw [hK]
  cases d1 with
  | lst ds =>
    simp only [prim, Option.map_eq_some_iff] at e
    obtain ⟨bs, e1, rfl⟩ := e
    obtain ⟨a, vs, rfl, q, r⟩ := s1
    have := bls_reps e1 r
    subst this
    exact ⟨a, bs, rfl, .inl (.inl q), k _ _ (.same rfl)⟩
  | _ => simp [prim] at e
theorem one_any (ds : List D) (d : D) (e : prim C.F.rp C.F.sub .any ds = some d) : ds.length = 1 := by
  match ds, e with
  | [], e => simp [prim] at e
  | [_], _ => rfl
  | _ :: _ :: _, e => simp [prim] at e
theorem oN_any (hK : X.K = C.K) : OpN C .any (L2.rAny X.K) := oN_one one_any fun Hd H d1 x d Q s1 le e k => by
  rw [hK]
  cases d1 with
  | lst ds =>
    simp only [prim, Option.map_eq_some_iff] at e
    obtain ⟨bs, e1, rfl⟩ := e
    obtain ⟨a, vs, rfl, q, r⟩ := s1
    have := bls_reps e1 r
    subst this
    exact ⟨a, bs, rfl, .inl (.inl q), k _ _ (.same rfl)⟩
  | _ => simp [prim] at e

/-! ### subscripts -/
theorem atI_eq {α : Type} (xs : List α) (i : Int) : L2.atI xs i = atI xs i := by
  unfold L2.atI atI L2.ixN
  by_cases h : 0 ≤ i
  · rw [if_pos h, if_pos h]
    by_cases h2 : i < xs.length
    · rw [if_pos h2]; rfl
    · rw [if_neg h2]
      have : xs[i.toNat]? = none := List.getElem?_eq_none (by omega)
      rw [this]; rfl
  · rw [if_neg h, if_neg h]
    by_cases h2 : -(xs.length : Int) ≤ i
    · rw [if_pos h2, if_pos (by omega)]
      show xs[(i + ↑xs.length).toNat]? = _
      rw [Int.add_comm]
    · rw [if_neg h2, if_neg (by omega)]; rfl
theorem atI_reps {K : Frag} {Hd : Hp} {ds : List D} {vs : List V} {i : Int} {d : D} (r : Reps K Hd ds vs) (e : atI ds i = some d) : ∃ v, L2.atI vs i = some v ∧ Rep K Hd d v := by
  rw [atI_eq]
  unfold atI at e ⊢
  rw [r.length]
  split at e
  · rename_i h; rw [if_pos h]; exact r.get e
  · rename_i h
    split at e
    · rename_i h2; rw [if_neg h, if_pos h2]; exact r.get e
    · cases e
theorem opAt_some {a b d : D} (h : opAt a b = some d) : ∃ i, b = .int i ∧ ((∃ ns, a = .scr ns ∧ (atI ns i).map .int = some d) ∨ (∃ xs, a = .tup xs ∧ atI xs i = some d) ∨ (∃ xs, a = .lst xs ∧ atI xs i = some d) ∨ ∃ x c, a = .str x ∧ okLen x.length = true ∧ atI x i = some c ∧ d = .str [c]) := by
  unfold opAt at h
  split at h
  · exact ⟨_, rfl, .inl ⟨_, rfl, h⟩⟩
  · exact ⟨_, rfl, .inr (.inl ⟨_, rfl, h⟩)⟩
  · exact ⟨_, rfl, .inr (.inr (.inl ⟨_, rfl, h⟩))⟩
  · split at h
    · rename_i h2
      simp only [Option.map_eq_some_iff] at h
      obtain ⟨c, e1, e2⟩ := h
      exact ⟨_, rfl, .inr (.inr (.inr ⟨_, c, rfl, h2, e1, e2.symm⟩))⟩
    · cases h
  · cases h
theorem o2_at (hK : X.K = C.K) : Op2 C .at (L2.rIx X.K) := by
  intro Hd H d1 d2 x y d Q s1 s2 le e k
  simp only [prim] at e
  rw [hK]
  obtain ⟨i, rfl, h⟩ := opAt_some e
  cases (show y = .int i from s2)
  rcases h with ⟨ns, rfl, h⟩ | ⟨xs, rfl, h⟩ | ⟨xs, rfl, h⟩ | ⟨z, c, rfl, hz, h, rfl⟩
  · obtain ⟨a, rfl, q⟩ := s1
    simp only [Option.map_eq_some_iff] at h
    obtain ⟨n, h1, rfl⟩ := h
    refine .inl ⟨a, _, i, .int n, rfl, rfl, sqL_le le q, ?_, k _ _ (.same rfl)⟩
    rw [atI_eq]
    unfold atI at h1 ⊢
    rw [List.length_map]
    split at h1
    · rename_i h2; rw [if_pos h2, List.getElem?_map, h1]; rfl
    · rename_i h2
      split at h1
      · rename_i h3; rw [if_neg h2, if_pos h3, List.getElem?_map, h1]; rfl
      · cases h1
  · obtain ⟨a, vs, rfl, q, r⟩ := s1
    obtain ⟨v, h1, h2⟩ := atI_reps r h
    exact .inr (.inl ⟨a, vs, i, v, rfl, rfl, sqT_le le q, h1, k _ _ (.same h2)⟩)
  · obtain ⟨a, vs, rfl, q, r⟩ := s1
    obtain ⟨v, h1, h2⟩ := atI_reps r h
    exact .inl ⟨a, vs, i, v, rfl, rfl, .inl (.inl q), h1, k _ _ (.same h2)⟩
  · cases (show x = .str (toStr z) from s1)
    refine .inr (.inr ⟨toStr z, i, c, rfl, rfl, by rw [str_len]; exact okLen_le hz, ?_, k _ _ (.same rfl)⟩)
    rw [atI_eq]
    simpa [toStr] using h
end
end PV

set_option Elab.async false
set_option linter.all false
set_option maxRecDepth 100000
set_option maxHeartbeats 4000000
/-! PvOps4: operations, fourth part: isinstance, str, slices, sum, max, min, sorted, list(range). -/
namespace PV
open PySem PySem.Spec PyProof.Rows

/-! ### isinstance -/
def tyN : D → String
  | .non => "NoneType" | .bl _ => "bool" | .int _ => "int" | .str _ => "str" | .tup _ => "tuple" | .lst _ => "list" | .dct _ => "dict" | .obj _ _ => "" | .exc _ _ => "" | .scr _ => "list"
def kiN : Ki → String
  | .int => "int" | .bl => "bool" | .str => "str" | .tup => "tuple" | .lst => "list" | .dct => "dict" | .cls _ => ""
theorem rep_ty {K : Frag} {Hd H : Hp} (le : Le Hd H) : ∀ {d : D} {x : V}, SRep K Hd H d x → L2.TyX K H x (.type (tyN d))
  | .non, x, r => by cases (show x = .non from r); exact .base .non
  | .bl b, x, r => by cases (show x = .bl b from r); exact .base (.bl b)
  | .int b, x, r => by cases (show x = .int b from r); exact .base (.int b)
  | .str b, x, r => by cases (show x = .str _ from r); exact .base (.str _)
  | .tup _, x, ⟨a, vs, e, q, _⟩ => by
    subst e
    rcases sqT_le le q with (q | ⟨o, q⟩) | ⟨o, its, n, q, c, _⟩
    · exact .base (.tup q)
    · exact .fTuple q
    · exact .kTuple q c
  | .lst _, x, ⟨a, vs, e, q, _⟩ => by subst e; exact .base (.lst q)
  | .dct _, x, ⟨a, vs, e, q, _⟩ => by subst e; exact .base (.dK (le _ _ q))
  | .obj _ _, x, r => False.elim r
  | .exc _ _, x, r => False.elim r
  | .scr _, x, ⟨a, e, q⟩ => by
    subst e
    rcases sqL_le le q with (q | ⟨o, q⟩) | ⟨o, its, n, q, c, _⟩
    · exact .base (.lst q)
    · exact .base (.frz q)
    · exact .kList q c
section
variable {C : Ctx} {W : L2.WX} {X : L2.Cx}
/-- the built-in kinds -/
def Ki.plain : Ki → Bool
  | .cls _ => false
  | _ => true
theorem kit_all {K : Frag} {sub : Sub} {H Hd : Hp} {d : D} {x : V} (s : SRep K Hd H d x) {k : Ki} (hk : k.plain = true) : PySem.W.kitOne K (.type (tyN d)) (.type (kiN k)) = some (isKi sub d k) := by
  cases d with
  | obj _ _ => exact False.elim s
  | exc _ _ => exact False.elim s
  | _ => cases k <;> first | exact absurd hk (by decide) | (refine L2.kit_ty ?_; simp only [tyN, kiN, isKi]; decide +kernel)
theorem sE_isi {k : Ki} {a : Expr} {ca : CE} {t : Str} {p p1 pos : Pos} (hk : k.plain = true) (hK : X.K = C.K) (ha : L2.PE X a (tO C W ca)) (hg : L2.Gl X "isinstance") (hm : X.mg "isinstance" = none) (hgt : L2.Gl X t) (hmt : X.mg t = none) (hvt : bootBuiltins t = some (.type (kiN k))) (hnt : t ≠ "__name__") (hdt : (t == ("__debug__" : Str)) = false)
    (he : starEach [a, .Name t p1] X.env = [(false, eval a X.env), (false, eval (.Name t p1) X.env)]) (he1 : starEach [.Name t p1] X.env = [(false, eval (.Name t p1) X.env)]) :
    L2.PE X (.Call (.Name "isinstance" p) [a, .Name t p1] [] pos) (tE C W (.op (.isi k) (.cons ca .nil))) := by
  have hty : L2.PE X (.Name t p1) (L2.tC (.ty (kiN k))) := L2.pe_bltn hgt hmt hvt rfl hnt hdt
  refine PEimp (L2.pe_callB L2.call_isi hg hm PyProof.Rows.boot_isinstance (L2.pa_cons ha (L2.pa_cons hty L2.pa_nil (by rw [he1]; rfl)) (by rw [he, he1])) (by decide) (by decide) (by rw [he, he1]) (by rw [he1]; rfl)) fun σ H Q h => ?_
  refine op1_read (r := fun x H Q => L2.rIsi X.K [x, .ty (kiN k)] H Q) (fun Hd H d1 x d Q s1 le e q => ?_) h
  have : d = .bl (isKi C.F.sub d1 k) := by simp only [prim] at e; cases e; rfl
  subst this
  exact ⟨x, _, _, _, _, rfl, .ty _, by rw [hK]; exact rep_ty le s1, kit_all s1 hk, q _ _ (.same rfl)⟩

/-! ### the empty dict -/
theorem sE_dct0 {pos : Pos} : L2.PE X (.Dict [] [] pos) (tE C W .dct0) := by
  refine PEimp L2.pe_dnewK fun σ H Q h p hp => ?_
  obtain ⟨Hd, ρ, τ, ν, as, hl, g, h⟩ := h
  refine h (.ref p) _ Hd (as ++ [p]) ?_ ?_ ?_
  · exact ⟨Le.refl _, fun a o e _ => by rw [L2.upd_ne (L2.ne_of_none e hp)]; exact e, fun a ha => by
      rcases List.mem_append.mp ha with z | z
      · exact .inl z
      · obtain rfl := List.mem_singleton.mp z; exact .inr hp, fun a o e => .inl e⟩
  · intro z; cases z
  · have kp : ∀ a ∈ as, ∀ o, H a = some o → L2.upd H p (.dK []) a = some o := fun a _ o e => by rw [L2.upd_ne (L2.ne_of_none e hp)]; exact e
    have g1 : Good C.K Hd (L2.upd H p (.dK [])) (ρ ++ τ) (σ ++ ν) as := ⟨g.le.into (g.le.none hp), g.rep.mono (Le.refl _) kp, g.nd, g.out⟩
    exact g1.push (p := .dct []) (a2 := [p]) ⟨p, [], rfl, L2.upd_same .., rfl, rfl⟩ (by simp) (fun b hb z => by obtain rfl := List.mem_singleton.mp hb; exact g.fresh hp z) (fun b hb => by obtain rfl := List.mem_singleton.mp hb; exact g.le.none hp)

/-! ### str(i) -/
theorem digits_nat (n : Nat) : (Str.ofString (toString n)) = toStr (natDigits n) := by
  rw [Str.ofString_eq_toList]
  show (⟨((Nat.repr n).toList.map Char.toNat).toArray⟩ : Str) = _
  simp [toStr, natDigits, Nat.repr]
theorem int_str (i : Int) : (Str.ofString (toString i)) = toStr (intStr i) := by
  cases i with
  | ofNat n => exact digits_nat n
  | negSucc n =>
    show Str.ofString ("-" ++ toString (n + 1)) = toStr (45 :: natDigits (n + 1))
    have := digits_nat (n + 1)
    rw [Str.ofString_eq_toList] at this ⊢
    simp only [toStr] at this ⊢
    rw [String.toList_append]
    have h2 : (toString (n + 1)).toList.map Char.toNat = natDigits (n + 1) := by simpa using this
    rw [List.map_append, h2]
    rfl
theorem one_str (ds : List D) (d : D) (e : prim C.F.rp C.F.sub .str ds = some d) : ds.length = 1 := by
  match ds, e with
  | [], e => simp [prim] at e
  | [_], _ => rfl
  | _ :: _ :: _, e => simp [prim] at e
theorem oN_str : OpN C .str (fun xs H Q => ∃ i, xs = [.int i] ∧ i.natAbs.log2 < 1920 ∧ Q (.str (toString i)) H) := oN_one one_str fun Hd H d1 x d Q s1 le e k => by
  cases d1 with
  | int i =>
    simp only [prim] at e
    obtain ⟨h, rfl⟩ := when_some e
    cases (show x = .int i from s1)
    exact ⟨i, rfl, of_decide_eq_true h, k _ _ (.same (by show L2.V.str _ = L2.V.str _; rw [← int_str]))⟩
  | _ => simp [prim] at e
end
end PV

set_option Elab.async false
set_option linter.all false
set_option maxRecDepth 100000
set_option maxHeartbeats 4000000
/-! PvOps5: operations, fifth part: slices, sum, max, min, sorted, list(range), reversing. -/
namespace PV
open PySem PySem.Spec PyProof.Rows
section
variable {C : Ctx} {W : L2.WX} {X : L2.Cx}
/-! ### slices -/
theorem clip_eq (n d : Nat) (i : Int) : clip n i = HT.sIx n d (some i) := by
  show (if 0 ≤ i then min i.toNat n else ((n : Int) + i).toNat) = (if i < 0 then (i + (n : Int)).toNat else min i.toNat n)
  by_cases h : 0 ≤ i
  · rw [if_pos h, if_neg (by omega)]
  · rw [if_neg h, if_pos (by omega), Int.add_comm]
theorem sIx_d (n d e : Nat) (i : Int) : HT.sIx n d (some i) = HT.sIx n e (some i) := rfl
theorem cut_eq {α : Type} (xs : List α) (lo hi : Option Int) : cut xs lo hi = (xs.drop (HT.sIx xs.length 0 lo)).take (HT.sIx xs.length xs.length hi - HT.sIx xs.length 0 lo) := by
  cases lo <;> cases hi <;> (unfold cut; simp only [List.drop_take, clip_eq xs.length 0, clip_eq xs.length xs.length, HT.sIx_none]; try rfl)
theorem reps_cut {K : Frag} {Hd : Hp} {ds : List D} {vs : List V} (r : Reps K Hd ds vs) (lo hi : Option Int) : Reps K Hd (cut ds lo hi) (L2.cutV vs lo hi) := by
  rw [cut_eq]
  unfold L2.cutV
  rw [r.length]
  exact (r.drop _).take _
theorem cutV_whole {vs : List V} {lo hi : Option Int} (h : HT.sIx vs.length 0 lo = 0 ∧ HT.sIx vs.length vs.length hi = vs.length) : L2.cutV vs lo hi = vs := by
  unfold L2.cutV
  rw [h.1, h.2]
  simp
def rSl (K : Frag) : V → Option Int → Option Int → Hp → L2.VK → Prop := fun x lo hi H Q => L2.rSlA K x lo hi H Q ∨ (L2.rSlL K x lo hi H Q ∨ L2.rSlS x lo hi H Q)
theorem sl_all : L2.SlR X (rSl X.K) := L2.sl_tupA.or (L2.sl_list.or L2.sl_str)
theorem o_sl {K : Frag} {Hd H : Hp} {d1 d : D} {x : V} {lo hi : Option Int} {Q : L2.VK} (s1 : SRep K Hd H d1 x) (le : Le Hd H) (e : opSlice lo hi d1 = some d) (k : ∀ v H', Lay K Hd H false d v H' → Q v H') : rSl K x lo hi H Q := by
  cases d1 with
  | tup ds =>
    simp only [opSlice] at e
    cases e
    obtain ⟨a, vs, rfl, q, r⟩ := s1
    refine .inl ⟨a, vs, rfl, sqT_le le q, fun hw => ?_, fun _ p hp => k _ _ (.newT hp (reps_cut r lo hi))⟩
    have := reps_cut r lo hi
    rw [cutV_whole hw] at this
    exact k _ _ (.same ⟨a, vs, rfl, q, this⟩)
  | lst ds =>
    simp only [opSlice] at e
    cases e
    obtain ⟨a, vs, rfl, q, r⟩ := s1
    exact .inr (.inl ⟨a, vs, rfl, .inl (.inl q), fun p hp => k _ _ (.newL hp (reps_cut r lo hi))⟩)
  | str z =>
    simp only [opSlice] at e
    obtain ⟨h, rfl⟩ := when_some e
    cases (show x = .str (toStr z) from s1)
    refine .inr (.inr ⟨_, rfl, by rw [str_len]; exact okLen_le h, k _ _ (.same ?_)⟩)
    show L2.V.str _ = L2.V.str _
    congr 1
    unfold L2.cutS
    rw [cut_eq, str_len]
    simp [toStr]
  | _ => simp [opSlice] at e
variable {a lo hi : Expr} {ca cl ch : CE} {p2 pos : Pos}
theorem sE_slAll (hK : X.K = C.K) (ha : L2.PE X a (tO C W ca)) : L2.PE X (.Subscript a (.Slice none none none p2) pos) (tE C W (.op .slAll (.cons ca .nil))) := by
  refine PEimp (L2.pe_slice sl_all ha L2.po_none L2.po_none) fun σ H Q h => ?_
  refine op1_read (r := fun x H Q => rSl X.K x none none H Q) (fun Hd H d1 x d Q s1 le e k => ?_) h
  rw [hK]
  exact o_sl s1 le (by simpa only [prim] using e) k
theorem int_of {K : Frag} {Hd H : Hp} {d : D} {x : V} (s : SRep K Hd H d x) {f : Int → Option D} {r : D} (e : (match d with | .int i => f i | _ => none) = some r) : ∃ i, d = .int i ∧ x = .int i ∧ f i = some r := by
  cases d with
  | int i => exact ⟨i, rfl, s, e⟩
  | _ => cases e
theorem sE_slLo (hK : X.K = C.K) (ha : L2.PE X a (tO C W ca)) (hl : L2.PE X lo (tO C W cl)) : L2.PE X (.Subscript a (.Slice (some lo) none none p2) pos) (tE C W (.op .slLo (.cons ca (.cons cl .nil)))) := by
  refine PEimp (L2.pe_slice sl_all ha (L2.po_some hl) L2.po_none) fun σ H Q h => ?_
  refine op2_read (r := fun x y H Q => ∃ i, y = .int i ∧ rSl X.K x (some i) none H Q) (fun Hd H d1 d2 x y d Q s1 s2 le e k => ?_) h
  rw [hK]
  cases d2 with
  | int i => exact ⟨i, s2, o_sl s1 le (by simpa only [prim] using e) k⟩
  | _ => simp [prim] at e
theorem sE_slHi (hK : X.K = C.K) (ha : L2.PE X a (tO C W ca)) (hh : L2.PE X hi (tO C W ch)) : L2.PE X (.Subscript a (.Slice none (some hi) none p2) pos) (tE C W (.op .slHi (.cons ca (.cons ch .nil)))) := by
  refine PEimp (L2.pe_slice sl_all ha L2.po_none (L2.po_some hh)) fun σ H Q h => ?_
  refine op2_read (r := fun x y H Q => ∃ i, y = .int i ∧ rSl X.K x none (some i) H Q) (fun Hd H d1 d2 x y d Q s1 s2 le e k => ?_) h
  rw [hK]
  cases d2 with
  | int i => exact ⟨i, s2, o_sl s1 le (by simpa only [prim] using e) k⟩
  | _ => simp [prim] at e
theorem op3_read {o : Op} {r : V → V → V → Hp → L2.VK → Prop} {ca cb cc : CE} {σ : L2.St} {H : Hp} {Q : L2.VK}
    (hr : ∀ (Hd H : Hp) (d1 d2 d3 : D) (x y z : V) (d : D) (Q : L2.VK), SRep C.K Hd H d1 x → SRep C.K Hd H d2 y → SRep C.K Hd H d3 z → Le Hd H → prim C.F.rp C.F.sub o [d1, d2, d3] = some d → (∀ v H', Lay C.K Hd H o.lays d v H' → Q v H') → r x y z H Q)
    (h : tE C W (.op o (.cons ca (.cons cb (.cons cc .nil)))) σ H Q) : tO C W ca σ H fun x H1 => tO C W cb σ H1 fun y H2 => tO C W cc σ H2 fun z H3 => r x y z H3 Q := by
  refine tO_mono (fun x H1 h1 => ?_) (tA_cons (tE_op h))
  refine tO_mono (fun y H2 h2 => ?_) (tA_cons h1)
  refine tO_mono (fun z H3 h3 => ?_) (tA_cons h2)
  obtain ⟨Hd, ds, d, sr, le, ep, k⟩ := tA_nil h3
  match ds, sr, ep with
  | [d1, d2, d3], ⟨v1, r1, e1, s1, v2, r2, e2, s2, v3, r3, e3, s3, e4⟩, ep =>
    have e4 : r3 = [] := e4
    subst e4 e3 e2
    injection e1 with e5 e6
    injection e6 with e7 e8
    injection e8 with e9 e10
    subst e5 e7 e9
    exact hr Hd H3 d1 d2 d3 x y z d Q s1 s2 s3 le ep k
  | [], sr, _ => cases (show [x, y, z] = [] from sr)
  | [_], ⟨v1, r1, e1, s1, e2⟩, _ =>
    have e2 : r1 = [] := e2
    subst e2
    cases e1
  | [_, _], ⟨v1, r1, e1, s1, v2, r2, e2, s2, e3⟩, _ =>
    have e3 : r2 = [] := e3
    subst e3 e2
    cases e1
  | _ :: _ :: _ :: _ :: _, ⟨v1, r1, e1, s1, v2, r2, e2, s2, v3, r3, e3, s3, v4, r4, e4, s4, _⟩, _ =>
    subst e4 e3 e2
    cases e1
theorem con_read {i : Int} {σ : L2.St} {H : Hp} {Q : L2.VK} (h : tO C W (.con (.int i)) σ H Q) : Q (.int i) H := by
  obtain ⟨Hd, ρ, τ, ν, as, hl, g, h⟩ := h
  exact h _ _ Hd as (Step.refl _ _ _) (fun _ => Le.refl _) (g.pushV (d := .int i) (v := .int i) rfl)
theorem sE_sliceC {i : Int} {j : Nat} {p3 : Pos} (hK : X.K = C.K) (ha : L2.PE X a (tO C W ca)) (hh : L2.PE X hi (tO C W ch)) : L2.PE X (.Subscript a (.Slice (some (.Constant (.int i) j p3)) (some hi) none p2) pos) (tE C W (.op .slice (.cons ca (.cons (.con (.int i)) (.cons ch .nil))))) := by
  refine PEimp (L2.pe_slice sl_all ha (L2.po_some L2.pe_int) (L2.po_some hh)) fun σ H Q h => ?_
  have := op3_read (r := fun x y z H Q => ∃ i, y = .int i ∧ ∃ j, z = .int j ∧ rSl X.K x (some i) (some j) H Q) (fun Hd H d1 d2 d3 x y z d Q s1 s2 s3 le e k => ?_) h
  · refine tO_mono (fun x H1 h1 => ⟨i, rfl, ?_⟩) this
    refine tO_mono (fun z H2 h2 => ?_) (con_read h1)
    obtain ⟨i', e1, j, e2, q⟩ := h2
    cases e1
    exact ⟨j, e2, q⟩
  · rw [hK]
    cases d2 with
    | int i =>
      cases d3 with
      | int j => exact ⟨i, s2, j, s3, o_sl s1 le (by simpa only [prim] using e) k⟩
      | _ => simp [prim] at e
    | _ => simp [prim] at e
end
end PV

set_option Elab.async false
set_option linter.all false
set_option maxRecDepth 100000
set_option maxHeartbeats 4000000
/-! PvOps6: operations, sixth part: sum, max, min, sorted, list(range), reversing. -/
namespace PV
open PySem PySem.Spec PyProof.Rows
/-! ### lists of ints -/
theorem ints_reps {K : Frag} {Hd : Hp} : ∀ {ds : List D} {is : List Int} {vs : List V}, dInts ds = some is → Reps K Hd ds vs → vs = is.map .int
  | [], is, vs, e, r => by simp [dInts] at e; subst e; exact r
  | .int b :: ds, is, vs, e, ⟨v, r, e1, q, qs⟩ => by
    simp only [dInts, Option.map_eq_some_iff] at e
    obtain ⟨bs', e2, e3⟩ := e
    subst e3 e1
    cases (show v = .int b from q)
    rw [ints_reps e2 qs]
    rfl
  | .non :: _, _, _, e, _ => by simp [dInts] at e
  | .bl _ :: _, _, _, e, _ => by simp [dInts] at e
  | .str _ :: _, _, _, e, _ => by simp [dInts] at e
  | .tup _ :: _, _, _, e, _ => by simp [dInts] at e
  | .lst _ :: _, _, _, e, _ => by simp [dInts] at e
  | .dct _ :: _, _, _, e, _ => by simp [dInts] at e
  | .obj _ _ :: _, _, _, e, _ => by simp [dInts] at e
  | .exc _ _ :: _, _, _, e, _ => by simp [dInts] at e
  | .scr _ :: _, _, _, e, _ => by simp [dInts] at e
theorem sumL_eq : ∀ l : List Int, l.sum = sumL l
  | [] => rfl
  | i :: r => by rw [List.sum_cons, sumL_eq r]; rfl
theorem maxL_spec : ∀ (l : List Int) (m : Int), (maxL m l = m ∨ maxL m l ∈ l) ∧ m ≤ maxL m l ∧ ∀ y ∈ l, y ≤ maxL m l
  | [], m => ⟨.inl rfl, Int.le_refl _, fun y hy => by cases hy⟩
  | i :: r, m => by
    have := maxL_spec r (if i > m then i else m)
    obtain ⟨h1, h2, h3⟩ := this
    show (maxL (if i > m then i else m) r = m ∨ maxL (if i > m then i else m) r ∈ i :: r) ∧ _ ∧ _
    refine ⟨?_, ?_, fun y hy => ?_⟩
    · rcases h1 with h | h
      · by_cases c : i > m
        · rw [if_pos c] at h ⊢; exact .inr (by rw [h]; exact List.mem_cons_self ..)
        · rw [if_neg c] at h ⊢; exact .inl h
      · exact .inr (List.mem_cons_of_mem _ h)
    · show m ≤ maxL (if i > m then i else m) r
      split at h2 <;> split <;> omega
    · show y ≤ maxL (if i > m then i else m) r
      rcases List.mem_cons.mp hy with z | z
      · subst z; split at h2 <;> split <;> omega
      · exact h3 y z
theorem minL_spec : ∀ (l : List Int) (m : Int), (minL m l = m ∨ minL m l ∈ l) ∧ minL m l ≤ m ∧ ∀ y ∈ l, minL m l ≤ y
  | [], m => ⟨.inl rfl, Int.le_refl _, fun y hy => by cases hy⟩
  | i :: r, m => by
    have := minL_spec r (if i < m then i else m)
    obtain ⟨h1, h2, h3⟩ := this
    show (minL (if i < m then i else m) r = m ∨ minL (if i < m then i else m) r ∈ i :: r) ∧ _ ∧ _
    refine ⟨?_, ?_, fun y hy => ?_⟩
    · rcases h1 with h | h
      · by_cases c : i < m
        · rw [if_pos c] at h ⊢; exact .inr (by rw [h]; exact List.mem_cons_self ..)
        · rw [if_neg c] at h ⊢; exact .inl h
      · exact .inr (List.mem_cons_of_mem _ h)
    · show minL (if i < m then i else m) r ≤ m
      split at h2 <;> split <;> omega
    · show minL (if i < m then i else m) r ≤ y
      rcases List.mem_cons.mp hy with z | z
      · subst z; split at h2 <;> split <;> omega
      · exact h3 y z
theorem max_uniq {i : Int} {r : List Int} {m : Int} (h : m ∈ i :: r) (h2 : ∀ y ∈ i :: r, y ≤ m) : m = maxL i r := by
  obtain ⟨h3, h4, h5⟩ := maxL_spec r i
  have a : maxL i r ≤ m := by
    rcases h3 with z | z
    · rw [z]; exact h2 i (List.mem_cons_self ..)
    · exact h2 _ (List.mem_cons_of_mem _ z)
  have b : m ≤ maxL i r := by
    rcases List.mem_cons.mp h with z | z
    · rw [z]; exact h4
    · exact h5 m z
  omega
theorem min_uniq {i : Int} {r : List Int} {m : Int} (h : m ∈ i :: r) (h2 : ∀ y ∈ i :: r, m ≤ y) : m = minL i r := by
  obtain ⟨h3, h4, h5⟩ := minL_spec r i
  have a : m ≤ minL i r := by
    rcases h3 with z | z
    · rw [z]; exact h2 i (List.mem_cons_self ..)
    · exact h2 _ (List.mem_cons_of_mem _ z)
  have b : minL i r ≤ m := by
    rcases List.mem_cons.mp h with z | z
    · rw [z]; exact h4
    · exact h5 m z
  omega
theorem ins_perm (i : Int) : ∀ l : List Int, (ins i l).Perm (i :: l)
  | [] => List.Perm.refl _
  | j :: r => by
    unfold ins
    split
    · exact List.Perm.refl _
    · exact ((ins_perm i r).cons j).trans (List.Perm.swap i j r)
theorem isort_perm : ∀ l : List Int, (isort l).Perm l
  | [] => List.Perm.refl _
  | i :: r => (ins_perm i (isort r)).trans ((isort_perm r).cons i)
theorem ins_sorted (i : Int) : ∀ l : List Int, l.Pairwise (· ≤ ·) → (ins i l).Pairwise (· ≤ ·)
  | [], _ => by simp [ins]
  | j :: r, h => by
    unfold ins
    obtain ⟨h1, h2⟩ := List.pairwise_cons.mp h
    split
    · rename_i c
      refine List.pairwise_cons.mpr ⟨fun y hy => ?_, h⟩
      rcases List.mem_cons.mp hy with z | z
      · omega
      · have := h1 y z; omega
    · rename_i c
      refine List.pairwise_cons.mpr ⟨fun y hy => ?_, ins_sorted i r h2⟩
      rcases List.mem_cons.mp ((ins_perm i r).mem_iff.mp hy) with z | z
      · omega
      · exact h1 y z
theorem isort_sorted : ∀ l : List Int, (isort l).Pairwise (· ≤ ·)
  | [] => List.Pairwise.nil
  | i :: r => ins_sorted i _ (isort_sorted r)
theorem sorted_uniq : ∀ {l m : List Int}, l.Perm m → l.Pairwise (· ≤ ·) → m.Pairwise (· ≤ ·) → l = m
  | [], m, p, _, _ => (List.Perm.eq_nil p.symm).symm
  | x :: l, [], p, _, _ => absurd (List.Perm.eq_nil p) (by simp)
  | x :: l, y :: m, p, hl, hm => by
    obtain ⟨l1, l2⟩ := List.pairwise_cons.mp hl
    obtain ⟨m1, m2⟩ := List.pairwise_cons.mp hm
    have e : x = y := by
      have hx : x ∈ y :: m := p.mem_iff.mp (List.mem_cons_self ..)
      have hy : y ∈ x :: l := p.mem_iff.mpr (List.mem_cons_self ..)
      have a : y ≤ x := by
        rcases List.mem_cons.mp hx with z | z
        · omega
        · exact m1 x z
      have b : x ≤ y := by
        rcases List.mem_cons.mp hy with z | z
        · omega
        · exact l1 y z
      omega
    subst e
    rw [sorted_uniq ((List.perm_cons x).mp p) l2 m2]
theorem isort_of {ns ns' : List Int} (p : ns'.Perm ns) (h : ns'.Pairwise (· ≤ ·)) : ns' = isort ns := sorted_uniq (p.trans (isort_perm ns).symm) h (isort_sorted ns)

/-! ### tuples -/
section
variable {prog : Program} {w : World} {A : Around} {E : Value → Shared → Prop} {s : Shared}
theorem collect_tup {l : Addr} {vs : List Value} {Q : List Value → Shared → Prop} (hl : s.heap.IsTuple l vs.toArray)
    (h : Q vs { s with heap := (s.heap.push (seqObj "list" #[] 0)).update s.heap.objs.size (Obj.mapSeq (· ++ vs.toArray)) }) (hsz : vs.length ≤ sizeLine) :
    wpAny (model prog w) A (collect (.ref l)) Q E s := by
  obtain ⟨o, ho, hc, n, hd⟩ := id hl
  unfold collect
  refine wpAny_bind (wpAny_runValue (codeAny_builtin entry_proto_collect' ?_))
  show wpAny _ _ (do again (.builtin "list.__iadd__" ⟨[← newList [], .ref l], []⟩)) _ _ s
  refine wpAny_bind (wpAny_newList (wpAny_pure ⟨Code.quiet_builtin _ (by decide +kernel), codeAny_builtin entry_list_iadd' ?_⟩))
  show wpAny _ _ (Builtin.List.listExtendWith (.ref s.heap.objs.size) (.ref l) (.ref s.heap.objs.size)) _ _ { s with heap := s.heap.push (seqObj "list" #[] 0) }
  unfold Builtin.List.listExtendWith
  have ho' : (s.heap.push (seqObj "list" #[] 0)).get? l = some o := Heap.get?_push_of_some _ ho
  refine wpAny_bind (wpAny_typeOf (T := "tuple") ⟨o, ho', hc⟩ ?_)
  have ht : (Value.type "tuple" == Value.type "tuple") = true := by rfl
  rw [if_pos (by rw [ht]; simp)]
  refine wpAny_bind (listItems_at ho' hd ?_)
  refine wpAny_bind (listItems_at (xs := #[]) (n := 0) (Heap.get?_push_size _ rfl) rfl ?_)
  rw [if_neg (by simp)]
  refine wpAny_bind (listUpdate_at (xs := #[]) (n := 0) (Heap.get?_push_size _ rfl) rfl ?_ (Nat.zero_le _) (by show (#[] ++ vs.toArray).size ≤ sizeLine + 1; simp only [Array.size_append, List.size_toArray, List.length_nil]; omega))
  refine wpAny_pure ?_
  show wpAny (model prog w) A (do
      let o ← load s.heap.objs.size
      match o.data with
      | .seq xs _ => pure xs.toList
      | _ => unsupported "internal:collect") Q E { s with heap := (s.heap.push (seqObj "list" #[] 0)).update s.heap.objs.size (Obj.mapSeq (· ++ vs.toArray)) }
  refine wpAny_bind (wpAny_load (get?_update_seq (Heap.get?_push_size _ rfl) _) ?_)
  show wpAny _ _ (pure ((#[] : Array Value) ++ vs.toArray).toList) Q E _
  rw [show ((#[] : Array Value) ++ vs.toArray).toList = vs by simp]
  exact wpAny_pure h
open Srt in
theorem sorted_tup {l : Addr} {vs : List Value} {ltv : Value → Value → Bool} {Q : Value → Shared → Prop} (O : SrtO.Swo ltv) (hl : s.heap.IsTuple l vs.toArray) (hz : vs.length ≤ sizeLine)
    (hS : 2 ≤ vs.length → ∀ (h₁ : Heap) (a : Addr), h₁.get? a = some (seqObj "list" vs.toArray 0) → (∀ b o, s.heap.get? b = some o → b ≠ a ∧ h₁.get? b = some o) → SrtO.SortableO prog w A.in1.in1 { s with heap := h₁ } a vs ltv)
    (h : ∀ out : List Value, SrtO.Srtd ltv out → SrtO.Stb ltv out vs → Q (.ref (s.heap.objs.size + 1)) { s with heap := sortedAll s.heap vs out.toArray }) :
    wpAny (model prog w) A (call (.builtin "sorted") [.ref l]) Q E s := by
  refine Calls.call_function_entry kind_sorted plain_sorted entry_sorted (args_sorted1 _) ?_
  unfold Builtin.«sorted»
  refine wpAny_bind (m := checkCount "sorted" 1 1 _) (wpAny_pure ?_)
  refine wpAny_bind (collect_tup hl ?_ hz)
  refine wpAny_bind (wpAny_newList ?_ hz)
  have hsz : ((s.heap.push (seqObj "list" #[] 0)).update s.heap.objs.size (Obj.mapSeq (· ++ vs.toArray))).objs.size = s.heap.objs.size + 1 := by
    rw [Heap.size_update, size_push']
  have hoL : (((s.heap.push (seqObj "list" #[] 0)).update s.heap.objs.size (Obj.mapSeq (· ++ vs.toArray))).push (seqObj "list" vs.toArray 0)).get? (s.heap.objs.size + 1) = some (seqObj "list" vs.toArray 0) := by
    rw [← hsz]; exact Heap.get?_push_size _ rfl
  have keep : ∀ b o, s.heap.get? b = some o → b ≠ s.heap.objs.size + 1 ∧ (((s.heap.push (seqObj "list" #[] 0)).update s.heap.objs.size (Obj.mapSeq (· ++ vs.toArray))).push (seqObj "list" vs.toArray 0)).get? b = some o := fun b o q => by
    have hlt : b < s.heap.objs.size := Heap.lt_size q
    refine ⟨Nat.ne_of_lt (Nat.lt_succ_of_lt hlt), Heap.get?_push_of_some _ ?_⟩
    rw [Heap.get?_update_ne _ _ _ _ (Nat.ne_of_lt hlt)]
    exact Heap.get?_push_of_some _ q
  show wpAny _ _ _ _ _ { s with heap := ((s.heap.push (seqObj "list" #[] 0)).update s.heap.objs.size (Obj.mapSeq (· ++ vs.toArray))).push (seqObj "list" vs.toArray 0) }
  rw [hsz]
  refine wpAny_bind (wpAny_holding (wpAny_call_entry slot_list_sort ⟨_, hoL, rfl⟩ entry_list_sort (SrtO.list_sort_ord O hoL hz (fun h2 => hS h2 _ _ hoL keep) fun out hs hb => ⟨_, rfl, ?_⟩) (args_list_sort _)))
  exact wpAny_pure ⟨_, rfl, h out hs hb⟩
end
section
variable {X : L2.Cx}
def rSumT (K : Frag) : List V → Hp → L2.VK → Prop := fun vs H Q => ∃ (a : Addr) (ns : List Int), vs = [L2.V.ref a] ∧ L2.SqT K H a (ns.map L2.V.int) ∧ Q (.int ns.sum) H
theorem cr_sumT (hc : X.calm = true) : L2.CallR X (.builtin "sum") (rSumT X.K) := by
  intro pins s σ H vs us Q I r h
  obtain ⟨a, ns, rfl, hs, q⟩ := h
  obtain ⟨its, rv, hl, _⟩ := I.tuple hs
  rw [L2.Vals.ref1 r]
  have hi := rv.ints
  obtain ⟨xs, e⟩ := hi.allInts.items
  have hn : numsOf (intItems xs).toList = ns := by rw [← e]; exact hi.numsOf
  rw [nums_intItems] at hn
  have hl : s.heap.IsTuple a its.toArray := hl
  rw [e] at hl
  refine PySem.W.ktm_sumG (I.ok.hd hc) hl fun h' tk t' hk => ?_
  rw [preSum_eq, List.take_of_length_le (by simp), hn]
  exact ⟨.int _, H, I.kept hk, ⟨_, rfl⟩, q⟩
def rSortedT (K : Frag) : List V → Hp → L2.VK → Prop := fun vs H Q => ∃ (a : Addr) (ns : List Int), vs = [L2.V.ref a] ∧ L2.SqT K H a (ns.map L2.V.int) ∧
  ∀ (ns' : List Int) (p : Addr), ns'.Perm ns → ns'.Pairwise (· ≤ ·) → H p = none → Q (.ref p) (L2.upd H p (.lst (ns'.map L2.V.int)))
theorem cr_sortedT : L2.CallR X (.builtin "sorted") (rSortedT X.K) := by
  intro pins s σ H vs us Q I r h
  obtain ⟨a, ns, rfl, hs, q⟩ := h
  obtain ⟨its, rv, hl, hz⟩ := I.tuple hs
  rw [L2.Vals.ref1 r]
  have hi := rv.ints
  refine sorted_tup SrtO.swo_int (show s.heap.IsTuple a its.toArray from hl) (by rw [← rv.length]; exact hz) (fun h2 h₁ a' _ _ => SrtO.ints_sortable hi h2) fun out h1 h2 => ?_
  obtain ⟨k1, k2, k3⟩ := SrtO.ints_out hi h1 h2
  obtain ⟨ep, he'⟩ := PyProof.Rows.sortedAll_at s.heap its out.toArray
  have hlen : ((out.map SrtO.iv).map L2.V.int).length ≤ sizeLine := by
    rw [List.length_map, k2.length_eq]
    rw [List.length_map] at hz
    exact hz
  exact ⟨.ref _, L2.upd H (s.heap.objs.size + 1) (.lst ((out.map SrtO.iv).map L2.V.int)), I.laid (t' := s.toks) (fun _ _ => PyProof.Rows.sortedAll_old) (Nat.le_succ _) ⟨hlen, out, ep, L2.vals_of_ints k1, he'⟩, rfl, q _ _ k2 k3 (I.hok.fresh (Nat.le_succ _))⟩
theorem reads_ints {h : Heap} : ∀ {its : List Value} {ns : List Int}, IntsAre its ns → ReadsAll h its (ns.map PyData.int) []
  | _, _, .nil => .nil
  | _, _, .cons n t r => .cons (as := []) (.int n t) (reads_ints r)
theorem alike_ints (ns : List Int) : PySem.W.AlikeAll (ns.map PyData.int) := by
  refine ⟨fun x hx y hy => ?_, fun x hx => ?_⟩
  · obtain ⟨i, _, rfl⟩ := List.mem_map.mp hx
    obtain ⟨j, _, rfl⟩ := List.mem_map.mp hy
    rfl
  · obtain ⟨i, _, rfl⟩ := List.mem_map.mp hx
    intro z; cases z
def rMaxT (K : Frag) : List V → Hp → L2.VK → Prop := fun vs H Q => ∃ (a : Addr) (i : Int) (r : List Int), vs = [L2.V.ref a] ∧ L2.SqT K H a ((i :: r).map L2.V.int) ∧ Q (.int (r.foldl max i)) H
theorem depth_ints : ∀ ns : List Int, PyData.depthAll (ns.map PyData.int) = 0
  | [] => rfl
  | n :: ns => by
    show max (PyData.depth (.int n)) (PyData.depthAll (ns.map PyData.int)) = 0
    rw [depth_ints ns]; rfl
theorem cr_maxT (hc : X.calm = true) (hu : X.A.units + 1 < cLine) : L2.CallR X (.builtin "max") (rMaxT X.K) := by
  intro pins s σ H vs us Q I r h
  obtain ⟨a, i, ns, rfl, hs, q⟩ := h
  obtain ⟨its, rv, hl, hz⟩ := I.tuple hs
  rw [L2.Vals.ref1 r]
  have hi := rv.ints
  refine PySem.W.max_tuple_data (I.ok.hd hc) (show s.heap.IsTuple a its.toArray from hl) (reads_ints hi) (alike_ints (i :: ns)) (by show X.A.units + 1 + PyData.depthAll ((i :: ns).map PyData.int) < cLine; rw [depth_ints]; exact hu) fun j v h' tk bs hv hr hk => ?_
  rw [PySem.W.maxD_ints] at hr
  cases hr
  exact ⟨.int _, H, I.kept hk, ⟨_, rfl⟩, q⟩
def rMinT (K : Frag) : List V → Hp → L2.VK → Prop := fun vs H Q => ∃ (a : Addr) (i : Int) (r : List Int), vs = [L2.V.ref a] ∧ L2.SqT K H a ((i :: r).map L2.V.int) ∧ Q (.int (r.foldl min i)) H
theorem cr_minT (hc : X.calm = true) (hu : X.A.units + 1 < cLine) : L2.CallR X (.builtin "min") (rMinT X.K) := by
  intro pins s σ H vs us Q I r h
  obtain ⟨a, i, ns, rfl, hs, q⟩ := h
  obtain ⟨its, rv, hl, hz⟩ := I.tuple hs
  rw [L2.Vals.ref1 r]
  have hi := rv.ints
  refine PySem.W.min_tuple_data (I.ok.hd hc) (show s.heap.IsTuple a its.toArray from hl) (reads_ints hi) (alike_ints (i :: ns)) (by show X.A.units + 1 + PyData.depthAll ((i :: ns).map PyData.int) < cLine; rw [depth_ints]; exact hu) fun j v h' tk bs hv hr hk => ?_
  rw [PySem.W.minD_ints] at hr
  cases hr
  exact ⟨.int _, H, I.kept hk, ⟨_, rfl⟩, q⟩
theorem foldl_minL : ∀ (r : List Int) (i : Int), r.foldl min i = minL i r
  | [], _ => rfl
  | j :: r, i => by
    show r.foldl min (min i j) = minL (if j < i then j else i) r
    rw [foldl_minL r]
    congr 1
    by_cases h : j < i
    · rw [if_pos h]; omega
    · rw [if_neg h]; omega
theorem foldl_maxL : ∀ (r : List Int) (i : Int), r.foldl max i = maxL i r
  | [], _ => rfl
  | j :: r, i => by
    show r.foldl max (max i j) = maxL (if j > i then j else i) r
    rw [foldl_maxL r]
    congr 1
    by_cases h : j > i
    · rw [if_pos h]; omega
    · rw [if_neg h]; omega
end
section
variable {C : Ctx} {W : L2.WX} {X : L2.Cx}
theorem seq_reps {K : Frag} {Hd H : Hp} {d1 : D} {x : V} {ds : List D} (s1 : SRep K Hd H d1 x) (le : Le Hd H) (e : seq? d1 = some ds) : ∃ a vs, x = .ref a ∧ Reps K Hd ds vs ∧ ((∃ (_ : H a = some (.lst vs)), L2.SqL K H a vs) ∨ L2.SqT K H a vs) := by
  cases d1 with
  | tup es =>
    simp only [seq?] at e
    cases e
    obtain ⟨a, vs, rfl, q, r⟩ := s1
    exact ⟨a, vs, rfl, r, .inr (sqT_le le q)⟩
  | lst es =>
    simp only [seq?] at e
    cases e
    obtain ⟨a, vs, rfl, q, r⟩ := s1
    exact ⟨a, vs, rfl, r, .inl ⟨q, .inl (.inl q)⟩⟩
  | _ => simp [seq?] at e
theorem one_sum (ds : List D) (d : D) (e : prim C.F.rp C.F.sub .sum ds = some d) : ds.length = 1 := by
  match ds, e with
  | [], e => simp [prim] at e
  | [_], _ => rfl
  | _ :: _ :: _, e => simp [prim] at e
theorem oN_sum (hK : X.K = C.K) : OpN C .sum (fun xs H Q => L2.rSum X.K xs H Q ∨ rSumT X.K xs H Q) := oN_one one_sum fun Hd H d1 x d Q s1 le e k => by
  rw [hK]
  simp only [prim, Option.map_eq_some_iff, Option.bind_eq_some_iff] at e
  obtain ⟨is, ⟨ds, e1, e2⟩, rfl⟩ := e
  obtain ⟨a, vs, rfl, r, h⟩ := seq_reps s1 le e1
  have := ints_reps e2 r
  subst this
  rcases h with ⟨_, h⟩ | h
  · exact .inl ⟨a, is, rfl, h, by rw [sumL_eq]; exact k _ _ (.same rfl)⟩
  · exact .inr ⟨a, is, rfl, h, by rw [sumL_eq]; exact k _ _ (.same rfl)⟩
theorem one_sorted (ds : List D) (d : D) (e : prim C.F.rp C.F.sub .sorted ds = some d) : ds.length = 1 := by
  match ds, e with
  | [], e => simp [prim] at e
  | [_], _ => rfl
  | _ :: _ :: _, e => simp [prim] at e
theorem reps_ints {K : Frag} {Hd : Hp} : ∀ is : List Int, Reps K Hd (is.map D.int) (is.map L2.V.int)
  | [] => rfl
  | i :: is => ⟨.int i, is.map L2.V.int, rfl, rfl, reps_ints is⟩
theorem oN_sorted (hK : X.K = C.K) : OpN C .sorted (fun xs H Q => L2.rSortedI X.K xs H Q ∨ rSortedT X.K xs H Q) := oN_one one_sorted fun Hd H d1 x d Q s1 le e k => by
  rw [hK]
  simp only [prim, Option.map_eq_some_iff, Option.bind_eq_some_iff] at e
  obtain ⟨is, ⟨ds, e1, e2⟩, rfl⟩ := e
  obtain ⟨a, vs, rfl, r, h⟩ := seq_reps s1 le e1
  have := ints_reps e2 r
  subst this
  rcases h with ⟨_, h⟩ | h
  · exact .inl ⟨a, is, rfl, h, fun ns' p h1 h2 hp => by rw [isort_of h1 h2]; exact k _ _ (.newL hp (reps_ints _))⟩
  · exact .inr ⟨a, is, rfl, h, fun ns' p h1 h2 hp => by rw [isort_of h1 h2]; exact k _ _ (.newL hp (reps_ints _))⟩
/-- max of two, of a list, of a tuple -/
def rMaxA (K : Frag) : List V → Hp → L2.VK → Prop := fun xs H Q => (∃ i j, xs = [.int i, .int j] ∧ Q (.int (if j > i then j else i)) H) ∨ (L2.rMax K xs H Q ∨ rMaxT K xs H Q)
theorem cr_maxA (hc : X.calm = true) (hu : X.A.units + 1 < cLine) : L2.CallR X (.builtin "max") (rMaxA X.K) := (L2.call_max2 hc).or ((L2.cr_max hc).or (cr_maxT hc hu))
theorem max_some {rp : D → Option (List Nat)} {sub : Sub} {ds : List D} {d : D} (e : prim rp sub .max ds = some d) : (∃ i j, ds = [.int i, .int j] ∧ d = .int (if j > i then j else i)) ∨ ∃ a es i r, ds = [a] ∧ seq? a = some es ∧ dInts es = some (i :: r) ∧ d = .int (maxL i r) := by
  match ds, e with
  | [], e => simp [prim] at e
  | [a], e =>
    simp only [prim] at e
    split at e
    · rename_i i r h
      obtain ⟨es, h1, h2⟩ := Option.bind_eq_some_iff.mp h
      cases e
      exact .inr ⟨a, es, i, r, rfl, h1, h2, rfl⟩
    · cases e
  | [a, b], e =>
    cases a <;> cases b <;> simp only [prim] at e <;> first | cases e | skip
    exact .inl ⟨_, _, rfl, rfl⟩
  | _ :: _ :: _ :: _, e => simp [prim] at e
theorem oN_max (hK : X.K = C.K) : OpN C .max (rMaxA X.K) := fun Hd H ds vs d Q sr le e k => by
  rw [hK]
  rcases max_some e with ⟨i, j, rfl, rfl⟩ | ⟨a, es, i, r, rfl, e1, e2, rfl⟩
  · obtain ⟨v1, r1, rfl, s1, v2, r2, rfl, s2, e3⟩ := sr
    have e3 : r2 = [] := e3
    subst e3
    cases (show v1 = .int i from s1)
    cases (show v2 = .int j from s2)
    exact .inl ⟨i, j, rfl, k _ _ (.same rfl)⟩
  · obtain ⟨v1, r1, rfl, s1, e3⟩ := sr
    have e3 : r1 = [] := e3
    subst e3
    obtain ⟨b, vs, rfl, rr, h⟩ := seq_reps s1 le e1
    have := ints_reps e2 rr
    subst this
    rcases h with ⟨_, h⟩ | h
    · exact .inr (.inl ⟨b, i :: r, rfl, h, by simp, fun m h1 h2 => by rw [max_uniq h1 h2]; exact k _ _ (.same rfl)⟩)
    · exact .inr (.inr ⟨b, i, r, rfl, h, by rw [foldl_maxL]; exact k _ _ (.same rfl)⟩)
/-- min of two, of a list, of a tuple -/
def rMinA (K : Frag) : List V → Hp → L2.VK → Prop := fun xs H Q => (∃ i j, xs = [.int i, .int j] ∧ Q (.int (if j < i then j else i)) H) ∨ (L2.rMin K xs H Q ∨ rMinT K xs H Q)
theorem cr_minA (hc : X.calm = true) (hu : X.A.units + 1 < cLine) : L2.CallR X (.builtin "min") (rMinA X.K) := (L2.call_min2 hc).or ((L2.cr_min hc).or (cr_minT hc hu))
theorem min_some {rp : D → Option (List Nat)} {sub : Sub} {ds : List D} {d : D} (e : prim rp sub .min ds = some d) : (∃ i j, ds = [.int i, .int j] ∧ d = .int (if j < i then j else i)) ∨ ∃ a es i r, ds = [a] ∧ seq? a = some es ∧ dInts es = some (i :: r) ∧ d = .int (minL i r) := by
  match ds, e with
  | [], e => simp [prim] at e
  | [a], e =>
    simp only [prim] at e
    split at e
    · rename_i i r h
      obtain ⟨es, h1, h2⟩ := Option.bind_eq_some_iff.mp h
      cases e
      exact .inr ⟨a, es, i, r, rfl, h1, h2, rfl⟩
    · cases e
  | [a, b], e =>
    cases a <;> cases b <;> simp only [prim] at e <;> first | cases e | skip
    exact .inl ⟨_, _, rfl, rfl⟩
  | _ :: _ :: _ :: _, e => simp [prim] at e
theorem oN_min (hK : X.K = C.K) : OpN C .min (rMinA X.K) := fun Hd H ds vs d Q sr le e k => by
  rw [hK]
  rcases min_some e with ⟨i, j, rfl, rfl⟩ | ⟨a, es, i, r, rfl, e1, e2, rfl⟩
  · obtain ⟨v1, r1, rfl, s1, v2, r2, rfl, s2, e3⟩ := sr
    have e3 : r2 = [] := e3
    subst e3
    cases (show v1 = .int i from s1)
    cases (show v2 = .int j from s2)
    exact .inl ⟨i, j, rfl, k _ _ (.same rfl)⟩
  · obtain ⟨v1, r1, rfl, s1, e3⟩ := sr
    have e3 : r1 = [] := e3
    subst e3
    obtain ⟨b, vs, rfl, rr, h⟩ := seq_reps s1 le e1
    have := ints_reps e2 rr
    subst this
    rcases h with ⟨_, h⟩ | h
    · exact .inr (.inl ⟨b, i :: r, rfl, h, by simp, fun m h1 h2 => by rw [min_uniq h1 h2]; exact k _ _ (.same rfl)⟩)
    · exact .inr (.inr ⟨b, i, r, rfl, h, by rw [foldl_minL]; exact k _ _ (.same rfl)⟩)

/-! ### list(range(n)) -/
theorem reps_rg {K : Frag} {Hd : Hp} (n : Nat) : Reps K Hd (iota n) ((List.range n).map fun i => L2.V.int (0 + (i : Nat))) := by
  unfold iota
  induction List.range n with
  | nil => rfl
  | cons k l ih => exact ⟨_, _, rfl, by show L2.V.int _ = L2.V.int _; rw [Int.zero_add], ih⟩
theorem sE_listRange {a : Expr} {ca : CE} {p p1 pos pos1 : Pos} (hc : X.calm = true) (hg : L2.Gl X "list") (hm : X.mg "list" = none) (hgr : L2.Gl X "range") (hmr : X.mg "range" = none) (ha : L2.PE X a (tO C W ca))
    (na : starEach [a] X.env = (false, eval a X.env) :: starEach [] X.env) (na2 : starEach [.Call (.Name "range" p1) [a] [] pos1] X.env = (false, eval (.Call (.Name "range" p1) [a] [] pos1) X.env) :: starEach [] X.env) :
    L2.PE X (.Call (.Name "list" p) [.Call (.Name "range" p1) [a] [] pos1] [] pos) (tE C W (.op .listRange (.cons ca .nil))) := by
  refine PEimp (L2.pe_listRg hc hg hm (L2.prg_1 hgr hmr ha na) na2) fun σ H Q h => ?_
  refine op1_read (r := fun x H1 Q => ∃ n, x = .int n ∧ L2.RgOk 0 n ∧ ∀ q, H1 q = none → Q (.ref q) (L2.upd H1 q (.lst (L2.rgV 0 n)))) (fun Hd H d1 x d Q s1 le e k => ?_) h
  cases d1 with
  | int n =>
    simp only [prim] at e
    obtain ⟨h1, rfl⟩ := when_some e
    simp only [Bool.and_eq_true, decide_eq_true_eq] at h1
    refine ⟨n, s1, ⟨by decide, by decide, by omega, by omega, by omega⟩, fun q hq => k _ _ (.newL hq ?_)⟩
    have := reps_rg (K := C.K) (Hd := Hd) n.toNat
    unfold L2.rgV
    rw [Int.sub_zero]
    exact this
  | _ => simp [prim] at e

/-! ### xs[::-1] -/
theorem Reps.snoc {K : Frag} {Hd : Hp} {ds : List D} {vs : List V} {d : D} {v : V} (r : Reps K Hd ds vs) (q : Rep K Hd d v) : Reps K Hd (ds ++ [d]) (vs ++ [v]) := r.append ⟨v, [], rfl, q, rfl⟩
theorem Reps.reverse {K : Frag} {Hd : Hp} : ∀ {ds : List D} {vs : List V}, Reps K Hd ds vs → Reps K Hd ds.reverse vs.reverse
  | [], _, r => by cases (show _ = [] from r); exact rfl
  | d :: ds, _, ⟨v, r, e, q, qs⟩ => by
    subst e
    rw [List.reverse_cons, List.reverse_cons]
    exact (Reps.reverse qs).snoc q
end
end PV

set_option Elab.async false
set_option linter.all false
set_option maxRecDepth 100000
set_option maxHeartbeats 4000000
/-! PvOps7: xs[::-1]; zip, enumerate. -/
namespace PV
open PySem PySem.Spec PyProof.Rows
section
variable {prog : Program} {w : World} {A : Around} {E : Value → Shared → Prop} {s : Shared}
theorem adjust_rev (n : Nat) : Builtin.Slice.sliceAdjust none none (-1) (n : Int) = ((n : Int) - 1, -1) := by
  unfold Builtin.Slice.sliceAdjust
  have h1 : (-1 : Int) < 0 := by decide
  simp only [h1, if_true]
theorem places_rev (n : Nat) : Builtin.Slice.slicePlaces ((n : Int) - 1) (-1) (-1) = n := by
  unfold Builtin.Slice.slicePlaces
  have h1 : ¬ ((-1 : Int) > 0) := by decide
  simp only [h1, if_false]
  by_cases h : (n : Int) - 1 > -1
  · rw [if_pos h, show (- -1 : Int) = 1 by decide, Int.ediv_one]; omega
  · rw [if_neg h]; simp; omega
theorem pick_rev (xs : Array Value) : ((List.range xs.size).filterMap fun (m : Nat) => xs[((xs.size : Int) - 1 + (m : Int) * (-1)).toNat]?).toArray = xs.toList.reverse.toArray := by
  have e : (List.range xs.size).filterMap (fun (m : Nat) => xs[((xs.size : Int) - 1 + (m : Int) * (-1)).toNat]?) = ((List.range xs.size).map fun k => xs.size - 1 - k).filterMap (xs[·]?) := by
    rw [List.filterMap_map]
    have g : ∀ l : List Nat, (∀ k ∈ l, k < xs.size) → l.filterMap (fun (m : Nat) => xs[((xs.size : Int) - 1 + (m : Int) * (-1)).toNat]?) = l.filterMap ((xs[·]?) ∘ fun k => xs.size - 1 - k) := by
      intro l
      induction l with
      | nil => intro _; rfl
      | cons k l ih =>
        intro h
        have hk := h k (List.mem_cons_self ..)
        have e1 : ((xs.size : Int) - 1 + (k : Int) * (-1)).toNat = xs.size - 1 - k := by omega
        rw [List.filterMap_cons, List.filterMap_cons, ih fun j hj => h j (List.mem_cons_of_mem _ hj), e1]
        rfl
    exact g _ fun k hk => List.mem_range.mp hk
  rw [e, PySem.W.krv_range, List.filterMap_reverse, PySem.W.krv_all]
theorem sliceApplied_rev {sl : Addr} {vl vu vs : Value} {n : Nat} {Q : Int × Int × Nat → Shared → Prop} (hs : s.heap.IsSliceOf sl vl vu vs) (pl : IsPart vl none) (pu : IsPart vu none) (ps : IsPart vs (some (-1)))
    (h : Q ((n : Int) - 1, -1, n) s) : wpAny (model prog w) A (Builtin.Slice.sliceApplied (.ref sl) (pure (n : Int))) Q E s := by
  obtain ⟨os, hos, hcs, hds⟩ := id hs
  unfold Builtin.Slice.sliceApplied Builtin.Slice.sliceFields
  refine wpAny_bind (wpAny_bind (wpAny_field hos hds (x := vl) rfl (wpAny_bind (wpAny_field hos hds (x := vu) rfl (wpAny_bind (wpAny_field hos hds (x := vs) rfl (wpAny_pure ?_)))))))
  refine wpAny_bind (HT.slicePart_ ps ?_)
  show wpAny _ _ (if ((-1 : Int) == 0) = true then _ else _) _ _ s
  rw [if_neg (by decide)]
  refine wpAny_bind (HT.slicePart_ pl (wpAny_bind (HT.slicePart_ pu (wpAny_bind (wpAny_pure ?_)))))
  show wpAny _ _ (match Builtin.Slice.sliceAdjust none none (-1) (n : Int) with | (lo, hi) => pure (lo, (-1 : Int), Builtin.Slice.slicePlaces lo hi (-1))) _ _ s
  rw [adjust_rev n]
  show wpAny _ _ (pure ((n : Int) - 1, (-1 : Int), Builtin.Slice.slicePlaces ((n : Int) - 1) (-1) (-1))) _ _ s
  rw [places_rev]
  exact wpAny_pure h
theorem getItem_tuple_rev {t sl : Addr} {items : Array Value} {vl vu vs : Value} {Q : Value → Shared → Prop} (ht : IsTup s.heap t items) (hs : s.heap.IsSliceOf sl vl vu vs) (pl : IsPart vl none) (pu : IsPart vu none) (ps : IsPart vs (some (-1)))
    (h : Q (.ref s.heap.objs.size) { s with heap := s.heap.push { cls := .type "tuple", data := .seq items.toList.reverse.toArray } })
    (hsz : items.size ≤ sizeLine) : wpAny (model prog w) A (getItem (.ref t) (.ref sl)) Q E s := by
  have htake : sizeOk (.seq items.toList.reverse.toArray) := by
    show items.toList.reverse.toArray.size ≤ sizeLine
    rw [List.size_toArray, List.length_reverse, Array.length_toList]
    exact hsz
  obtain ⟨os, hos, hcs, hds⟩ := id hs
  have hTs : s.TypeIs (.ref sl) "slice" := ⟨os, hos, hcs⟩
  unfold getItem
  try with_reducible refine wpAny_holding ?_
  first | refine wpAny_bind (wpAny_pure ?_) | skip
  refine wpAny_bind (wpAny_sequenceKey ht.typeIs (by decide) ?_)
  refine wpAny_bind (wpAny_callSpecial?_slot (name := Str.ofString "__getitem__") ht.typeIs PyProof.Rows.slot_tuple_getitem
    (wpAny_call_entry PyProof.Rows.slot_tuple_getitem ht.typeIs entry_tuple_getitem ?_ (args_tuple_getitem _ _)))
  show wpAny _ _ (Builtin.Tuple.tupleItemsOf (.ref t) >>= _) _ _ s
  refine wpAny_bind (tupleItemsOf_ ht ?_)
  refine wpAny_bind (wpAny_typeOf hTs ?_)
  rw [if_pos (by decide)]
  refine wpAny_bind (sliceApplied_rev hs pl pu ps ?_)
  have hno : ¬ ((((items.size : Int) - 1) == 0 && (-1 : Int) == 1 && items.size == items.size) = true) := by simp
  show wpAny _ _ (if (((items.size : Int) - 1) == 0 && (-1 : Int) == 1 && items.size == items.size) = true then _ else _) _ _ s
  rw [if_neg hno, pick_rev]
  first
    | exact wpAny_bind (m := Builtin.Tuple.tupleExact _) (wpAny_newObj_type (wpAny_pure ⟨_, rfl, wpAny_pure h⟩) htake)
    | exact wpAny_bind (m := Builtin.Tuple.tupleExact _) (wpAny_newObj_type (wpAny_bind (wpAny_pure (wpAny_pure ⟨_, rfl, wpAny_pure h⟩))) htake)
    | exact wpAny_bind (wpAny_bind (m := Builtin.Tuple.tupleExact _) (wpAny_newObj_type (wpAny_pure (wpAny_pure ⟨_, rfl, wpAny_pure h⟩)) htake))
    | exact wpAny_bind (wpAny_bind (m := Builtin.Tuple.tupleExact _) (wpAny_newObj_type (wpAny_pure ⟨_, rfl, wpAny_pure h⟩) htake))
end
section
variable {C : Ctx} {W : L2.WX} {X : L2.Cx}
/-- a list, a tuple reversed -/
def rRev (K : Frag) : V → Hp → L2.VK → Prop := fun x H Q => ∃ a xs, x = .ref a ∧ ((L2.SqL K H a xs ∧ ∀ p, H p = none → Q (.ref p) (L2.upd H p (.lst xs.reverse))) ∨ (L2.SqT K H a xs ∧ ∀ p, H p = none → Q (.ref p) (L2.upd H p (.tup xs.reverse))))
theorem pe_rev {e : Expr} {te : L2.TE} {k : Nat} {p1 p2 p3 pos : Pos} (he : L2.PE X e te) : L2.PE X (.Subscript e (.Slice none none (some (.UnaryOp .USub (.Constant (.int 1) k p1) p2)) p3) pos) (L2.tUn (rRev X.K) te) := by
  refine ⟨fun pins s σ H Q I h => ?_⟩
  refine Subscript_ (L2.thn (he.run pins s σ H _ I h) fun v s1 ⟨x, H1, I1, r1, q1⟩ => ?_)
  obtain ⟨a, xs, ex, q⟩ := q1
  subst ex
  cases r1
  have hst : L2.PO X (some (.UnaryOp .USub (.Constant (.int 1) k p1) p2)) (L2.tPart (L2.tUn (L2.rU fun i => .int (-i)) (L2.tC (.int 1)))) := L2.po_some (L2.pe_un L2.un_neg L2.pe_int)
  refine wpAny_Slice (L2.thn (L2.po_none.run pins s1 σ H1 (fun o H2 => o = none ∧ H2 = H1) I1 ⟨rfl, rfl⟩) fun vl s2 ⟨l, H2, I2, pl, el, e2⟩ => ?_)
  subst el e2
  refine L2.thn (L2.po_none.run pins s2 σ H2 (fun o H3 => o = none ∧ H3 = H2) I2 ⟨rfl, rfl⟩) fun vu s3 ⟨u, H3, I3, pu, eu, e3⟩ => ?_
  subst eu e3
  refine L2.thn (hst.run pins s3 σ H3 (fun o H4 => o = some (-1) ∧ H4 = H3) I3 ⟨1, rfl, -1, rfl, rfl, rfl⟩) fun vs s4 ⟨o, H4, I4, ps, eo, e4⟩ => ?_
  subst eo e4
  have I5 : L2.Inv X pins σ H4 { s4 with heap := s4.heap.push { cls := .type "slice", data := .fields #[vl, vu, vs] } } := I4.kept (t' := s4.toks) fun b ob q => Heap.get?_push_of_some _ q
  show wpAny (model X.prog X.w) X.A (subscriptTail e (.Slice none none (some (.UnaryOp .USub (.Constant (.int 1) k p1) p2)) p3) (.ref a) (.ref s4.heap.objs.size)) (L2.EP X pins σ Q) X.xe { s4 with heap := s4.heap.push { cls := .type "slice", data := .fields #[vl, vu, vs] } }
  rcases q with ⟨hx, q⟩ | ⟨hx, q⟩
  · obtain ⟨its, r, ht, hz⟩ := I5.list hx
    have hlen := r.length
    refine tail_any (ops := [.ref a, .ref s4.heap.objs.size]) ht.isList.typeIs (PySem.slot_list_getitem.lookup) ?_ (by with_unfolding_all rfl)
    refine wpAny_getItem_list_slice ht.isList (Heap.IsSliceOf.new _ vl vu vs) pl pu ps (by decide) ?_ (by rw [List.size_toArray]; omega)
    rw [PySem.W.krv_pick]
    refine ⟨.ref _, _, I5.laid (t' := s4.toks) (o := .lst xs.reverse) (fun b ob q => Heap.get?_push_of_some _ q) (Nat.le_refl _) ?_, rfl, q _ (I5.hok.fresh (Nat.le_refl _))⟩
    exact ⟨by rw [List.length_reverse]; exact hz, _, 0, r.reverse, Heap.get?_push_size _ rfl⟩
  · obtain ⟨its, r, ht, hz⟩ := I5.tuple hx
    have hlen := r.length
    refine tail_any (ops := [.ref a, .ref s4.heap.objs.size]) ht.typeIs (PyProof.Rows.slot_tuple_getitem.lookup) ?_ (by with_unfolding_all rfl)
    refine getItem_tuple_rev ht (Heap.IsSliceOf.new _ vl vu vs) pl pu ps ?_ (by rw [List.size_toArray]; omega)
    refine ⟨.ref _, _, I5.laid (t' := s4.toks) (o := .tup xs.reverse) (fun b ob q => Heap.get?_push_of_some _ q) (Nat.le_refl _) ?_, rfl, q _ (I5.hok.fresh (Nat.le_refl _))⟩
    exact ⟨by rw [List.length_reverse]; exact hz, _, r.reverse, IsTup.new _ _⟩
theorem sE_rev {e : Expr} {ca : CE} {k : Nat} {p1 p2 p3 pos : Pos} (hK : X.K = C.K) (he : L2.PE X e (tO C W ca)) : L2.PE X (.Subscript e (.Slice none none (some (.UnaryOp .USub (.Constant (.int 1) k p1) p2)) p3) pos) (tE C W (.op .rev (.cons ca .nil))) := by
  refine PEimp (pe_rev he) fun σ H Q h => op1_read (r := rRev X.K) (fun Hd H d1 x d Q s1 le e k => ?_) h
  rw [hK]
  cases d1 with
  | tup ds =>
    simp only [prim] at e
    cases e
    obtain ⟨a, vs, rfl, q, r⟩ := s1
    exact ⟨a, vs, rfl, .inr ⟨sqT_le le q, fun p hp => k _ _ (.newT hp r.reverse)⟩⟩
  | lst ds =>
    simp only [prim] at e
    cases e
    obtain ⟨a, vs, rfl, q, r⟩ := s1
    exact ⟨a, vs, rfl, .inl ⟨.inl (.inl q), fun p hp => k _ _ (.newL hp r.reverse)⟩⟩
  | _ => simp [prim] at e

/-! ### zip -/
theorem paired_at : ∀ {ds es : List D} {i : Nat} {d : D}, (paired ds es)[i]? = some d → ∃ x y, d = .tup [x, y] ∧ ds[i]? = some x ∧ es[i]? = some y
  | [], es, i, d, h => by simp [paired] at h
  | _ :: _, [], i, d, h => by simp [paired] at h
  | x :: ds, y :: es, 0, d, h => by simp [paired] at h; exact ⟨x, y, h.symm, by simp, by simp⟩
  | x :: ds, y :: es, i + 1, d, h => by
    simp only [paired, List.getElem?_cons_succ] at h
    obtain ⟨a, b, h1, h2, h3⟩ := paired_at h
    exact ⟨a, b, h1, by simpa using h2, by simpa using h3⟩
theorem paired_len : ∀ (ds es : List D), (paired ds es).length = min ds.length es.length
  | [], es => by simp [paired]
  | _ :: _, [] => by simp [paired]
  | x :: ds, y :: es => by simp [paired, paired_len ds es]
theorem wk_zipL {K : Frag} {Hd : Hp} {a b : Addr} {vs ws : List V} {ds es : List D} (h1 : Hd a = some (.lst vs)) (r1 : Reps K Hd ds vs) (h2 : Hd b = some (.lst ws)) (r2 : Reps K Hd es ws) : Wk K (L2.Itz K a b) Hd (paired ds es) where
  go := fun i H l hi => by
    rw [paired_len] at hi
    have e1 := r1.length
    have e2 := r2.length
    exact ⟨vs, ws, vs[i]'(by omega), ws[i]'(by omega), .inl (.inl (l _ _ h1)), .inl (.inl (l _ _ h2)), by simp, by simp⟩
  yld := fun i H x H' d l e y => by
    obtain ⟨p, q, rfl, e1, e2⟩ := paired_at e
    obtain ⟨T, u, v, ex, hn, eh, g1, g2⟩ := y
    obtain ⟨u', f1, f2⟩ := r1.get e1
    obtain ⟨v', f3, f4⟩ := r2.get e2
    have k1 := g1 vs (.inl (.inl (l _ _ h1)))
    have k2 := g2 ws (.inl (.inl (l _ _ h2)))
    rw [f1] at k1
    rw [f3] at k2
    cases k1
    cases k2
    exact .inr ⟨T, [u, v], [p, q], hn, eh, rfl, ex, u, [v], rfl, f2, v, [], rfl, f4, rfl⟩
  stop := fun i H l hi => by
    rw [paired_len] at hi
    have e1 := r1.length
    have e2 := r2.length
    exact ⟨vs, ws, .inl (.inl (l _ _ h1)), .inl (.inl (l _ _ h2)), by omega⟩
theorem wk_zipT {K : Frag} {Hd : Hp} {a b : Addr} {vs ws : List V} {ds es : List D} (h1 : L2.SqT K Hd a vs) (r1 : Reps K Hd ds vs) (h2 : L2.SqT K Hd b ws) (r2 : Reps K Hd es ws) : Wk K (RZ.ItzT K a b) Hd (paired ds es) where
  go := fun i H l hi => by
    rw [paired_len] at hi
    have e1 := r1.length
    have e2 := r2.length
    exact ⟨vs, ws, vs[i]'(by omega), ws[i]'(by omega), sqT_le l h1, sqT_le l h2, by simp, by simp⟩
  yld := fun i H x H' d l e y => by
    obtain ⟨p, q, rfl, e1, e2⟩ := paired_at e
    obtain ⟨T, u, v, ex, hn, eh, g1, g2⟩ := y
    obtain ⟨u', f1, f2⟩ := r1.get e1
    obtain ⟨v', f3, f4⟩ := r2.get e2
    have k1 := g1 vs (sqT_le l h1)
    have k2 := g2 ws (sqT_le l h2)
    rw [f1] at k1
    rw [f3] at k2
    cases k1
    cases k2
    exact .inr ⟨T, [u, v], [p, q], hn, eh, rfl, ex, u, [v], rfl, f2, v, [], rfl, f4, rfl⟩
  stop := fun i H l hi => by
    rw [paired_len] at hi
    have e1 := r1.length
    have e2 := r2.length
    exact ⟨vs, ws, sqT_le l h1, sqT_le l h2, by omega⟩
end
end PV

set_option Elab.async false
set_option linter.all false
set_option maxRecDepth 100000
set_option maxHeartbeats 4000000
/-! PvOps8: zip, enumerate as what is walked. -/
namespace PV
open PySem PySem.Spec PyProof.Rows
section
variable {C : Ctx} {W : L2.WX} {X : L2.Cx}
theorem sI_zip {a b : Expr} {ca cb : CE} {p pos tpos : Pos} {elts : List Expr} {kk : Nat} (hK : X.K = C.K) (hg : L2.Gl X "zip") (hm : X.mg "zip" = none) (ha : L2.PE X a (tE C W ca)) (hb : L2.PE X b (tE C W cb)) (h1 : starEach [a, b] X.env = [(false, eval a X.env), (false, eval b X.env)]) (h2 : starEach [b] X.env = [(false, eval b X.env)]) :
    L2.PI X (.Tuple elts kk tpos) (.Call (.Name "zip" p) [a, b] [] pos) (tI C W (.zip ca cb)) := by
  refine PIimp (RZ.pi_zipA hg hm (L2.pa_cons ha (L2.pa_cons hb L2.pa_nil h2) (by rw [h1, h2])) (by rw [h1, h2]) (by rw [h2]; rfl)) fun σ H R h => ?_
  obtain ⟨Hd, ρ, τ, ν, as, hl, g, h⟩ := h
  simp only [evI] at h
  refine tI_bind hl g h fun p ρ' v H' Hd' as' hl' s g' rd h' => ?_
  refine tI_bind hl' g' h' fun q ρ2 v2 H2 Hd2 as2 hl2 s2 g2 rd2 h2 => ?_
  have rd := Rep.le s2.hd _ _ rd
  generalize p.fr = d1 at rd h2
  generalize q.fr = d2 at rd2 h2
  rw [hK]
  cases d1 with
  | tup ds =>
    cases d2 with
    | tup es =>
      obtain ⟨a1, vs, rfl, q1, r1⟩ := rd
      obtain ⟨a2, ws, rfl, q2, r2⟩ := rd2
      exact ⟨a1, a2, vs, ws, rfl, .inr ⟨sqT_le g2.le q1, sqT_le g2.le q2, h2 _ H2 Hd2 as2 (Step.refl _ _ _) g2 (wk_zipT q1 r1 q2 r2)⟩⟩
    | _ => exact h2.elim
  | lst ds =>
    cases d2 with
    | lst es =>
      obtain ⟨a1, vs, rfl, q1, r1⟩ := rd
      obtain ⟨a2, ws, rfl, q2, r2⟩ := rd2
      exact ⟨a1, a2, vs, ws, rfl, .inl ⟨.inl (.inl (g2.le _ _ q1)), .inl (.inl (g2.le _ _ q2)), h2 _ H2 Hd2 as2 (Step.refl _ _ _) g2 (wk_zipL q1 r1 q2 r2)⟩⟩
    | _ => exact h2.elim
  | _ => exact h2.elim
theorem numbered_at : ∀ {ds : List D} {k i : Nat} {d : D}, (numbered k ds)[i]? = some d → ∃ x, d = .tup [.int ((k + i : Nat) : Int), x] ∧ ds[i]? = some x
  | [], k, i, d, h => by simp [numbered] at h
  | x :: ds, k, 0, d, h => by simp [numbered] at h; exact ⟨x, h.symm, by simp⟩
  | x :: ds, k, i + 1, d, h => by
    simp only [numbered, List.getElem?_cons_succ] at h
    obtain ⟨a, h1, h2⟩ := numbered_at h
    refine ⟨a, ?_, by simpa using h2⟩
    rw [h1, show k + 1 + i = k + (i + 1) by omega]
theorem numbered_len : ∀ (ds : List D) (k : Nat), (numbered k ds).length = ds.length
  | [], k => by simp [numbered]
  | x :: ds, k => by simp [numbered, numbered_len ds]
theorem wk_enum {K : Frag} {Hd : Hp} {a : Addr} {vs : List V} {ds : List D} (h1 : Hd a = some (.lst vs)) (r1 : Reps K Hd ds vs) : Wk K (L2.Ite K a) Hd (numbered 0 ds) where
  go := fun i H l hi => by
    rw [numbered_len] at hi
    have e1 := r1.length
    exact ⟨vs, vs[i]'(by omega), .inl (.inl (l _ _ h1)), by simp⟩
  yld := fun i H x H' d l e y => by
    obtain ⟨p, rfl, e1⟩ := numbered_at e
    obtain ⟨T, u, ex, hn, eh, g1⟩ := y
    obtain ⟨u', f1, f2⟩ := r1.get e1
    have k1 := g1 vs (.inl (.inl (l _ _ h1)))
    rw [f1] at k1
    cases k1
    exact .inr ⟨T, [.int (i : Nat), u], [.int ((0 + i : Nat) : Int), p], hn, eh, rfl, ex, .int (i : Nat), [u], rfl, by show L2.V.int _ = L2.V.int _; rw [Nat.zero_add], u, [], rfl, f2, rfl⟩
  stop := fun i H l hi => by
    rw [numbered_len] at hi
    have e1 := r1.length
    exact ⟨vs, .inl (.inl (l _ _ h1)), by omega⟩
theorem sI_enum {a : Expr} {ca : CE} {p pos tpos : Pos} {elts : List Expr} {kk : Nat} (hK : X.K = C.K) (hg : L2.Gl X "enumerate") (hm : X.mg "enumerate" = none) (ha : L2.PE X a (tE C W ca)) (h1 : starEach [a] X.env = [(false, eval a X.env)]) :
    L2.PI X (.Tuple elts kk tpos) (.Call (.Name "enumerate" p) [a] [] pos) (tI C W (.enum ca)) := by
  refine PIimp (L2.pi_enum hg hm (L2.pa_cons ha L2.pa_nil h1) h1) fun σ H R h => ?_
  obtain ⟨Hd, ρ, τ, ν, as, hl, g, h⟩ := h
  simp only [evI] at h
  refine tI_bind hl g h fun p ρ' v H' Hd' as' hl' s g' rd h' => ?_
  generalize p.fr = d1 at rd h'
  rw [hK]
  cases d1 with
  | lst ds =>
    obtain ⟨a1, vs, rfl, q1, r1⟩ := rd
    exact ⟨a1, vs, rfl, .inl (.inl (g'.le _ _ q1)), h' _ H' Hd' as' (Step.refl _ _ _) g' (wk_enum q1 r1)⟩
  | _ => exact h'.elim

/-! ### repr -/
def showD (d : D) : Option (List Nat) := if dat d && decide (dep d ≤ 64) && (toPy d).showable && decide ((toPy d).shown.length ≤ line) then some (toPy d).shown.cps.toList else none
end
end PV

set_option Elab.async false
set_option linter.all false
set_option maxRecDepth 100000
set_option maxHeartbeats 4000000
/-! PvOps9: repr of data. -/
namespace PV
open PySem PySem.Spec PyProof.Rows
section
variable {C : Ctx} {W : L2.WX} {X : L2.Cx}
def rRepr (K : Frag) : List V → Hp → L2.VK → Prop := fun xs H Q => ∃ (v : V) (d : PyData), xs = [v] ∧ L2.Dp K H v d ∧ d.showable = true ∧ d.hasDict = false ∧ d.depth ≤ 64 ∧ d.shown.length ≤ sizeLine ∧ Q (.str d.shown) H
theorem cr_repr (hg : X.A.guards = some []) (hu : X.A.units + 100 < cLine) : L2.CallR X (.builtin "repr") (rRepr X.K) := by
  intro pins s σ H xs us Q I r h
  obtain ⟨v, d, rfl, hd, hs, hn, hdep, hz, q⟩ := h
  obtain ⟨u, rfl, ru⟩ := L2.vals1 r
  obtain ⟨as, rd⟩ := L2.Dp.reads I d v u hd ru
  have fin : ∀ (h' : Heap) (t : Tok) (tk : Nat), (∀ b o, s.heap.get? b = some o → h'.get? b = some o) → L2.EP X pins σ Q (.str d.shown t) { s with heap := h', toks := tk } := fun h' t tk hk => ⟨.str _, H, I.kept hk, ⟨_, rfl⟩, q⟩
  cases rd with
  | none => exact P.repr_of_none (fin s.heap _ _ fun _ _ e => e)
  | bool b => exact P.repr_of_bool (by have := fin s.heap s.toks (s.toks + 1) fun _ _ e => e; cases b <;> exact this)
  | int i t => exact P.repr_of_int (by simpa [PyData.showable] using hs) (fin s.heap _ _ fun _ _ e => e)
  | str x t => exact P.repr_of_str (fin s.heap _ _ fun _ _ e => e) hz
  | list h1 h2 h3 h4 => exact repr_of_reads' (.list h1 h2 h3 h4) hs (PyData.noDict_hsm hn) hg (by omega) (fun _ _ e => e) (fun h' u tk hk => fin h' u tk hk) hz
  | tuple h1 h2 h3 h4 => exact repr_of_reads' (.tuple h1 h2 h3 h4) hs (PyData.noDict_hsm hn) hg (by omega) (fun _ _ e => e) (fun h' u tk hk => fin h' u tk hk) hz
  | dict h1 h2 h3 h4 h5 => exact repr_of_reads' (.dict h1 h2 h3 h4 h5) hs (PyData.noDict_hsm hn) hg (by omega) (fun _ _ e => e) (fun h' u tk hk => fin h' u tk hk) hz
theorem one_repr (ds : List D) (d : D) (e : prim C.F.rp C.F.sub .repr ds = some d) : ds.length = 1 := by
  match ds, e with
  | [], e => simp [prim] at e
  | [_], _ => rfl
  | _ :: _ :: _, e => simp [prim] at e
theorem oN_repr (hrp : C.F.rp = showD) (hK : X.K = C.K) : OpN C .repr (rRepr X.K) := oN_one one_repr fun Hd H d1 x d Q s1 le e k => by
  rw [hK]
  simp only [prim, hrp, Option.map_eq_some_iff] at e
  obtain ⟨z, e1, rfl⟩ := e
  unfold showD at e1
  split at e1
  · rename_i h
    simp only [Bool.and_eq_true, decide_eq_true_eq] at h
    obtain ⟨⟨⟨h1, h2⟩, h3⟩, h4⟩ := h
    cases e1
    refine ⟨x, toPy d1, rfl, dp_s le h1 s1, h3, PyData.hasDict_of_canLay _ (lay_py d1 h1), by rw [dep_py]; exact h2, by rw [sizeLine_eq]; exact h4, k _ _ (.same ?_)⟩
    show L2.V.str _ = L2.V.str _
    simp [toStr]
  · cases e1
end
end PV

set_option Elab.async false
set_option linter.all false
set_option maxRecDepth 100000
set_option maxHeartbeats 4000000
/-! PvComp1: from the program's text to the core text. -/
namespace PV
open PySem PySem.Spec PyProof.Rows
/-- what a global name is -/
inductive Gv where
  /-- a def: its number, how many parameters, may it change its first argument, its defaults -/
  | fn (f np : Nat) (io : Bool) (dfl : List D)
  | con (d : D)
  | blt
structure Sc where
  N : List Str
  sc : Scope
  /-- within a comprehension: its scope as written -/
  own : Option Scope
  gs : List (Str × Gv)
def okN (x : Str) : Bool := !(x == ("__debug__" : Str)) && !(x == ("__classdict__" : Str)) && !(x == ("__name__" : Str))
def Sc.kind (S : Sc) (x : Str) : Option NameKind := S.sc.names.lookup x
def Sc.vis (S : Sc) (x : Str) : Bool := match S.kind x with
  | some .local => true
  | some .cell => true
  | some .free => true
  | _ => false
def Sc.glo (S : Sc) (x : Str) : Option Gv := match S.kind x with
  | some .globalImplicit => if okN x then S.gs.lookup x else none
  | _ => none
def Sc.idx (S : Sc) (x : Str) : Option Nat := if S.vis x && okN x then S.N.findIdx? (· == x) else none
/-- a name that may be stored here -/
def Sc.st (S : Sc) (x : Str) : Option Nat := match S.kind x, S.own with
  | some .local, _ => S.N.findIdx? (· == x)
  | some .cell, none => S.N.findIdx? (· == x)
  | some .cell, some o => (match o.names.lookup x with
    | some .cell => S.N.findIdx? (· == x)
    | _ => none)
  | _, _ => none
def rel (scope sc : Scope) : Scope := { scope with names := scope.names.map fun (n, k) => if (k == .free && sc.kind == .function && sc.names.lookup n == some .cell) then (n, .cell) else (n, k) }
def Sc.blk (S : Sc) (scope : Scope) : Sc := { S with sc := rel scope S.sc, own := some scope }
def isStar : Expr → Bool
  | .Starred _ _ => true
  | _ => false
def cCon : Const → Option D
  | .none => some .non
  | .bool b => some (.bl b)
  | .int i => some (.int i)
  | .str x => some (.str x.cps.toList)
  | _ => none
def cName (S : Sc) (x : Str) : Option CE := match S.idx x with
  | some i => some (.var i)
  | none => match S.glo x with
    | some (.con d) => some (.con d)
    | _ => none
def lookOf (S : Sc) : Expr → Option Nat
  | .Name x _ => S.idx x
  | _ => none
def noLook : Option CE → Option CE
  | some (.look _) => none
  | r => r
def cO (S : Sc) (f : Expr → Option CE) (q : Bool) (e : Expr) : Option CE := match (if q then lookOf S e else none) with
  | some i => some (.look i)
  | none => noLook (f e)
/-- operations whose arguments are looked at and not frozen -/
def Op.lk : Op → Bool
  | .at => true | .len => true | .sum => true | .max => true | .min => true | .all => true | .any => true | .slice => true | .slLo => true | .slHi => true | .slAll => true
  | _ => false
def cA (S : Sc) (f : Expr → Option CE) (lk : Bool) : List Expr → Option CEs
  | [] => some .nil
  | e :: es => if isStar e then none else match cA S f lk es with
    | some cs => (match cO S f (lk && cs.quiet) e with
      | some c => some (.cons c cs)
      | none => none)
    | none => none
def cPs (f : Expr → Option CE) : List Expr → Option CEs
  | [] => some .nil
  | e :: es => if isStar e then none else match f e, cPs f es with
    | some c, some cs => some (.cons c cs)
    | _, _ => none
def c2 (S : Sc) (f : Expr → Option CE) (o : Op) (a b : Expr) : Option CE := match cO S f o.lk b with
  | some cb => (match cO S f (o.lk && cb.quiet) a with
    | some ca => some (.op o (.cons ca (.cons cb .nil)))
    | none => none)
  | none => none
def c1 (S : Sc) (f : Expr → Option CE) (o : Op) (a : Expr) : Option CE := match cO S f o.lk a with
  | some ca => some (.op o (.cons ca .nil))
  | none => none
def binO : Operator → Option Op
  | .Add => some .add | .Sub => some .sub | .Mult => some .mul | .FloorDiv => some .fdiv | .Mod => some .mod | .Pow => some .pow
  | _ => none
def cmpO : CmpOp → Option Op
  | .Eq => some .eq | .NotEq => some .ne | .Lt => some .lt | .LtE => some .le | .Gt => some .gt | .GtE => some .ge
  | _ => none
/-- is it read as a plain test -/
def tst : Nat → Expr → Bool
  | 0, _ => false
  | n + 1, e => match e with
    | .UnaryOp .Not x _ => tst n x
    | .BoolOp _ vs _ => vs.all (tst n)
    | .IfExp _ _ _ _ => false
    | .Compare _ [_] [_] _ => true
    | .Compare _ _ _ _ => false
    | _ => true
def cBool (op : BoolOp) (f : Expr → Option CE) : List Expr → Option CE
  | [] => none
  | [a] => f a
  | a :: b :: r => match f a, cBool op f (b :: r) with
    | some ca, some cb => some (match op with | .And => .and ca cb | .Or => .or ca cb)
    | _, _ => none
def cCmp (S : Sc) (f : Expr → Option CE) (a : Expr) (op : CmpOp) (b : Expr) : Option CE := match op, b with
  | .Is, .Constant .none _ _ => c1 S f .isN a
  | .IsNot, .Constant .none _ _ => c1 S f .notN a
  | .Is, .Constant (.bool true) _ _ => c1 S f .isT a
  | .IsNot, .Constant (.bool true) _ _ => c1 S f .notT a
  | _, _ => match cmpO op with
    | some o => (match b with
      | .Set _ _ _ => none
      | _ => c2 S f o a b)
    | none => none
def plainIx : Expr → Bool
  | .Name _ _ => true
  | .Constant (.int _) _ _ => true
  | .BinOp _ _ _ _ => true
  | .UnaryOp _ _ _ => true
  | .Call _ _ _ _ => true
  | .Subscript _ _ _ => true
  | _ => false
def cSub (S : Sc) (f : Expr → Option CE) (a : Expr) : Expr → Option CE
  | .Slice none none none _ => c1 S f .slAll a
  | .Slice (some l) none none _ => c2 S f .slLo a l
  | .Slice none (some h) none _ => c2 S f .slHi a h
  | .Slice (some (.Constant (.int i) _ _)) (some h) none _ => (match cO S f true h with
    | some ch => (match cO S f ch.quiet a with
      | some ca => some (.op .slice (.cons ca (.cons (.con (.int i)) (.cons ch .nil))))
      | none => none)
    | none => none)
  | .Slice none none (some (.UnaryOp .USub (.Constant (.int 1) _ _) _)) _ => c1 S f .rev a
  | i => if plainIx i then c2 S f .at a i else none
def kiOf (t : Str) : Option Ki := if t == ("int" : Str) then some .int else if t == ("bool" : Str) then some .bl else if t == ("str" : Str) then some .str else if t == ("tuple" : Str) then some .tup else if t == ("list" : Str) then some .lst else if t == ("dict" : Str) then some .dct else none
/-- built-in functions, types -/
def bltF (x : Str) : Option Op := if x == ("len" : Str) then some .len else if x == ("abs" : Str) then some .abs else if x == ("sum" : Str) then some .sum else if x == ("max" : Str) then some .max else if x == ("min" : Str) then some .min else if x == ("sorted" : Str) then some .sorted
  else if x == ("all" : Str) then some .all else if x == ("any" : Str) then some .any else if x == ("repr" : Str) then some .repr else none
def bltT (x : Str) : Option Op := if x == ("int" : Str) then some .int else if x == ("str" : Str) then some .str else if x == ("tuple" : Str) then some .tuple else if x == ("list" : Str) then some .list else none
def isBlt (S : Sc) (x : Str) : Bool := match S.glo x with
  | some .blt => true
  | _ => false
def cRange (S : Sc) (f : Expr → Option CE) : List Expr → Option CE
  | [.Call (.Name r _) [a] [] _] => if r == ("range" : Str) && isBlt S r && !isStar a then c1 S f .listRange a else none
  | _ => none
def cBlt (S : Sc) (f : Expr → Option CE) (x : Str) (args : List Expr) : Option CE :=
  if x == ("isinstance" : Str) then (match args with
    | [a, .Name t _] => if isStar a then none else if isBlt S t then (match kiOf t with
      | some k => c1 S f (.isi k) a
      | none => none) else none
    | _ => none)
  else match (if x == ("list" : Str) then cRange S f args else none) with
  | some c => some c
  | none => match args with
    | [] => none
    | e :: es => match bltF x with
      | some o => (cA S f o.lk (e :: es)).map (.op o)
      | none => match bltT x with
        | some o => (cA S f o.lk (e :: es)).map (.op o)
        | none => none
def cFn (S : Sc) (f : Expr → Option CE) (fi np : Nat) (io : Bool) (dfl : List D) : List Expr → Option CE
  | [] => none
  | e :: es => if np < (e :: es).length || decide (dfl.length < np - (e :: es).length) then none else
    match (if io && decide (np = (e :: es).length) then lookOf S e else none) with
    | some i => (cPs f es).map (.callM fi i)
    | none => (cPs f (e :: es)).map fun cs => .call fi cs (dfl.drop (dfl.length - (np - (e :: es).length)))
def cCall (S : Sc) (f : Expr → Option CE) (g : Expr) (args : List Expr) (pos : Pos) : Option CE := match g with
  | .Name x _ => (match S.glo x with
    | some (.fn fi np io dfl) => cFn S f fi np io dfl args
    | some .blt => cBlt S f x args
    | _ => none)
  | .Attribute (.Name x _) m apos => if m == ("pop" : Str) && apos.endLine == pos.line then (match S.idx x, args with
    | some i, [a] => if isStar a then none else (f a).map (.pop i)
    | _, _ => none) else none
  | _ => none
def cT (S : Sc) : Expr → Option CT
  | .Name x _ => (S.st x).map .name
  | .Tuple [.Name x _, .Name y _] _ _ => match S.st x, S.st y with
    | some i, some j => if i = j then none else some (.two (.name i) (.name j))
    | _, _ => none
  | _ => none
def isTup : Expr → Bool
  | .Tuple _ _ _ => true
  | _ => false
def isSet : Expr → Bool
  | .Set _ _ _ => true
  | _ => false
def cSeq (f : Expr → Option CE) (e : Expr) : Option CI := if isSet e then none else (f e).map .seq
def cI (S : Sc) (f : Expr → Option CE) (tup : Bool) (e : Expr) : Option CI := match e with
  | .Call (.Name x _) [a] [] _ =>
    if x == ("range" : Str) then (if isBlt S x && !isStar a then (f a).map fun c => .range (.con (.int 0)) c else none)
    else if x == ("enumerate" : Str) then (if tup && isBlt S x && !isStar a then (f a).map .enum else none)
    else cSeq f e
  | .Call (.Name x _) [a, b] [] _ =>
    if x == ("range" : Str) then (if isBlt S x && !isStar a && !isStar b then (match f a, f b with | some ca, some cb => some (.range ca cb) | _, _ => none) else none)
    else if x == ("zip" : Str) then (if tup && isBlt S x && !isStar a && !isStar b then (match f a, f b with | some ca, some cb => some (.zip ca cb) | _, _ => none) else none)
    else cSeq f e
  | _ => cSeq f e
/-- a target's names -/
def tgN : Expr → List Str
  | .Name x _ => [x]
  | .Tuple [.Name x _, .Name y _] _ _ => [x, y]
  | _ => []
def cIf (tk : Expr → Bool) (f : Expr → Option CE) : List Expr → Option CE
  | [] => some (.con (.bl true))
  | [c] => if tk c then f c else none
  | _ => none
def cLc (S : Sc) (f : Sc → Expr → Option CE) (tk : Expr → Bool) (elt tg it : Expr) (ifs : List Expr) (scope : Scope) : Option CE :=
  match cT (S.blk scope) tg with
  | some t => if L2.blkC S.N S.sc scope ((tgN tg).zip t.ix) && decide (((tgN tg).zip t.ix).map (·.2) = t.ix) then
      (match cI S (f S) (isTup tg) it, cIf tk (f (S.blk scope)) ifs, f (S.blk scope) elt with
      | some ci, some cc, some ce => some (.lc t ci cc ce)
      | _, _, _ => none) else none
  | none => none
def cE : Nat → Sc → Expr → Option CE
  | 0, _, _ => none
  | n + 1, S, e => match e with
    | .Constant c _ _ => (cCon c).map .con
    | .Name x _ => cName S x
    | .BinOp a op b _ => (match binO op with | some o => c2 S (cE n S) o a b | none => none)
    | .UnaryOp .Not a _ => (cE n S a).map .not
    | .UnaryOp .USub a _ => c1 S (cE n S) .neg a
    | .BoolOp op vs _ => cBool op (cE n S) vs
    | .IfExp t a b _ => if tst n t then (match cE n S t, cE n S a, cE n S b with | some ct, some ca, some cb => some (.ite ct ca cb) | _, _, _ => none) else none
    | .Tuple es _ _ => (cPs (cE n S) es).map .tup
    | .List es _ => (cPs (cE n S) es).map .lst
    | .Dict [] [] _ => some .dct0
    | .Compare a [op] [b] _ => cCmp S (cE n S) a op b
    | .Subscript a s _ => cSub S (cE n S) a s
    | .Call g args [] pos => cCall S (cE n S) g args pos
    | .ListComp elt [⟨tg, it, ifs, 0⟩] scope _ => cLc S (cE n) (tst n) elt tg it ifs scope
    | _ => none

/-! ### statements -/
def cSs (g : Stmt → Option CS) : List Stmt → Option CSs
  | [] => some .nil
  | s :: ss => match g s, cSs g ss with
    | some c, some cs => some (.cons c cs)
    | _, _ => none
def isComp : Expr → Bool
  | .ListComp _ _ _ _ => true
  | .SetComp _ _ _ _ => true
  | .DictComp _ _ _ _ _ => true
  | _ => false
/-- two values stored at once to two names -/
def cPair (S : Sc) (f : Expr → Option CE) (x y : Str) (px py : Pos) (v : Expr) : Option CS := match S.st x, S.st y with
  | some i, some j => if i = j then none else (match v with
    | .Tuple [a, b] _ _ => if isStar a || isStar b then none else
      (match S.kind x == some .local && S.kind y == some .local && px.line == py.line, f a, f b with
      | true, some ca, some cb => if foldedForSure 8 a && foldedForSure 8 b then none else if constantsAlone 8 a && constantsAlone 8 b then none else if px.line == py.line then some (.par i j ca cb) else none
      | false, some ca, some cb => some (.asg2 (.name i) (.name j) (.tup (.cons ca (.cons cb .nil))))
      | _, _, _ => none)
    | .Tuple _ _ _ => none
    | _ => (f v).map fun c => .asg2 (.name i) (.name j) c)
  | _, _ => none
def cMeth (S : Sc) (f : Expr → Option CE) (x m : Str) (a : Expr) : Option CS := match S.idx x with
  | some i => if isStar a then none else if m == ("append" : Str) then (f a).map (.app i) else if m == ("extend" : Str) then (f a).map (.ext i) else none
  | none => none
def cS : Nat → Sc → Stmt → Option CS
  | 0, _, _ => none
  | n + 1, S, s => match s with
    | .Assign [.Name x _] v _ => (match S.st x, cE n S v with | some i, some c => some (.asg i c) | _, _ => none)
    | .Assign [.Tuple [.Name x px, .Name y py] _ _] v _ => cPair S (cE n S) x y px py v
    | .Assign [.Subscript (.Name x _) ix _] v _ => (match S.idx x, cE n S ix, cE n S v with | some i, some ci, some cv => if plainIx ix && !isComp v then some (.put i ci cv) else none | _, _, _ => none)
    | .AugAssign (.Name x _) .Add e _ => (match S.st x, cE n S e with | some i, some c => some (.aug i c) | _, _ => none)
    | .Expr (.Call (.Attribute (.Name x _) m apos) [a] [] cpos) _ => if apos.endLine == cpos.line && !(m == ("pop" : Str)) then cMeth S (cE n S) x m a else none
    | .Expr e _ => if isComp e then none else (cE n S e).map .exp
    | .Return (some (.Name x _)) _ => (match S.idx x with | some i => some (.ret (.var i)) | none => (cName S x).map .ret)
    | .Return (some e) _ => (match cE n S e with | some (.var _) => none | some c => some (.ret c) | none => none)
    | .Pass _ => some .pass
    | .If t a b _ => if tst n t then (match cE n S t, cSs (cS n S) a, cSs (cS n S) b with | some ct, some ca, some cb => some (.if_ ct ca cb) | _, _, _ => none) else none
    | .For tg it b [] _ => (match cT S tg, cI S (cE n S) (isTup tg) it, cSs (cS n S) b with | some t, some ci, some cb => some (.for_ t ci cb) | _, _, _ => none)
    | .While t b [] _ => if tst n t then (match cE n S t, cSs (cS n S) b with | some ct, some cb => some (.while_ ct cb) | _, _ => none) else none
    | .Raise _ _ _ => some .never
    | _ => none
end PV

set_option Elab.async false
set_option linter.all false
set_option maxRecDepth 100000
set_option maxHeartbeats 4000000
/-! PvComp2: the core text tells what the program's text does: expressions. -/
namespace PV
open PySem PySem.Spec PyProof.Rows
/-- what stands at a global name -/
def GOk (C : Ctx) (X : L2.Cx) (k : Nat) (x : Str) : Gv → Prop
  | .con d => ∃ v u, X.mg x = some u ∧ L2.RelV v u ∧ ∀ Hd, Rep C.K Hd d v
  | .blt => X.mg x = none
  | .fn f np _ dfl => ∃ fa fd ps, X.mg x = some (.ref fa) ∧ PySem.W.keepIn X.K (.ref fa) = true ∧ FnG X.prog X.w X.K X.mg X.base k fa fd ps (spI C np (C.F.fn f)) ∧ (∀ qs, C.F.fn f qs ≠ .bad → qs.length = np) ∧
      ∀ m, m ≤ dfl.length → ∃ ds dvs, L2.Binds X.K fd ps ds ∧ L2.Vals dvs ds ∧ ∀ Hd, Reps C.K Hd (dfl.drop m) dvs
structure XOk (C : Ctx) (S : Sc) (W : L2.WX) (X : L2.Cx) (k : Nat) : Prop where
  K : X.K = C.K
  N : X.N = S.N
  nd : S.N.Nodup
  sc : X.env.scope = S.sc
  bk : S.sc.kind = .function
  calm : X.calm = true
  room : L2.Room k X.A
  gd : X.A.guards = some []
  rp : C.F.rp = showD
  own : PassesOwn (model X.prog X.w) X.A X.env X.xe
  pass : ∀ σ, L2.PassesAt (L2.CX X.prog X.w) X σ (WEs W σ)
  fn0 : S.own = none → X.fn = fun _ => true
  fn1 : ∀ o, S.own = some o → X.fn = fun x => o.names.lookup x == some .cell
  gs : ∀ x g, S.gs.lookup x = some g → GOk C X k x g
section
variable {C : Ctx} {S : Sc} {W : L2.WX} {X : L2.Cx} {k : Nat}
theorem XOk.units (o : XOk C S W X k) : X.A.units + 200 < cLine := by have := o.room.un; omega
theorem okN_1 {x : Str} (h : okN x = true) : (x == ("__debug__" : Str)) = false ∧ (x == ("__classdict__" : Str)) = false ∧ x ≠ "__name__" := by
  unfold okN at h
  simp only [Bool.and_eq_true, Bool.not_eq_true'] at h
  exact ⟨h.1.1, h.1.2, fun z => by have := h.2; rw [z] at this; simp at this⟩
theorem find_at {N : List Str} {x : Str} {i : Nat} (h : N.findIdx? (· == x) = some i) : N[i]? = some x := by
  obtain ⟨h1, h2, _⟩ := List.findIdx?_eq_some_iff_getElem.mp h
  rw [List.getElem?_eq_getElem h1]
  simpa using h2
theorem idx_ok (o : XOk C S W X k) {x : Str} {i : Nat} {pos : Pos} (h : S.idx x = some i) : L2.PE X (.Name x pos) (L2.tVar i) := by
  unfold Sc.idx at h
  split at h
  · rename_i h1
    rw [Bool.and_eq_true] at h1
    obtain ⟨n1, n2, n3⟩ := okN_1 h1.2
    refine L2.pe_var (by rw [o.N]; exact find_at h) ?_ n1 n2
    have hv := h1.1
    unfold Sc.vis Sc.kind at hv
    unfold L2.Vis
    rw [o.sc]
    split at hv
    · rename_i e; exact .inl e
    · rename_i e; exact .inr (.inl e)
    · rename_i e; exact .inr (.inr e)
    · cases hv
  · cases h
theorem glo_ok (o : XOk C S W X k) {x : Str} {g : Gv} (h : S.glo x = some g) : L2.Gl X x ∧ GOk C X k x g ∧ (x == ("__debug__" : Str)) = false ∧ x ≠ "__name__" := by
  unfold Sc.glo Sc.kind at h
  split at h
  · rename_i e
    split at h
    · rename_i h1
      obtain ⟨n1, n2, n3⟩ := okN_1 h1
      refine ⟨?_, o.gs x g h, n1, n3⟩
      show X.env.scope.names.lookup x = _
      rw [o.sc]; exact e
    · cases h
  · cases h
theorem star_cons {e : Expr} (h : isStar e = false) (es : List Expr) (env : PySem.Env) : starEach (e :: es) env = (false, eval e env) :: starEach es env := by
  cases e <;> first | rfl | (exact absurd h (by simp [isStar]))
theorem back_nil {pos : Pos} : ∀ {es : List Expr} {env : PySem.Env}, (∀ e ∈ es, isStar e = false) → (backTo pos (starEach es env)).any (·.1) = false
  | [], _, _ => rfl
  | e :: es, env, h => by
    rw [star_cons (h e (List.mem_cons_self ..)) es env]
    show (false || (backTo pos (starEach es env)).any (·.1)) = false
    rw [back_nil fun x hx => h x (List.mem_cons_of_mem _ hx)]
    rfl
theorem cName_ok (o : XOk C S W X k) {x : Str} {c : CE} {pos : Pos} (h : cName S x = some c) : L2.PE X (.Name x pos) (tE C W c) := by
  unfold cName at h
  split at h
  · rename_i i e
    cases h
    exact sE_var (idx_ok o e)
  · split at h
    · rename_i d e
      cases h
      obtain ⟨hg, ⟨v, u, h1, h2, h3⟩, h4, _⟩ := glo_ok o e
      exact sE_con h3 ⟨fun pins s σ H Q I hq => L2.ld_glob I hg h1 ⟨v, H, I, h2, hq⟩ h4⟩
    · cases h
theorem cCon_ok {c : Const} {d : D} {j : Nat} {pos : Pos} (h : cCon c = some d) : L2.PE X (.Constant c j pos) (tE C W (.con d)) := by
  cases c <;> simp only [cCon] at h <;> first | cases h | skip
  · exact sE_con (v := .non) (fun _ => rfl) L2.pe_non
  · exact sE_con (v := .bl _) (fun _ => rfl) L2.pe_bl
  · exact sE_con (v := .int _) (fun _ => rfl) L2.pe_int
  · rename_i x
    exact sE_con (v := .str x) (fun _ => by show L2.V.str x = L2.V.str (toStr x.cps.toList); simp [toStr]) L2.pe_str
/-- what the parts of a text promise -/
def FE (C : Ctx) (W : L2.WX) (X : L2.Cx) (f : Expr → Option CE) : Prop := ∀ e c, f e = some c → L2.PE X e (tE C W c)
def FT (C : Ctx) (W : L2.WX) (X : L2.Cx) (f : Expr → Option CE) (tk : Expr → Bool) : Prop := ∀ e c, f e = some c → tk e = true → L2.PT X e (tT C W c)
theorem look_ok (o : XOk C S W X k) {e : Expr} {i : Nat} (h : lookOf S e = some i) : L2.PE X e (L2.tVar i) := by
  cases e <;> simp only [lookOf] at h <;> first | cases h | skip
  exact idx_ok o h
theorem noLook_some {r : Option CE} {c : CE} (h : noLook r = some c) : r = some c ∧ ∀ i, c ≠ .look i := by
  unfold noLook at h
  split at h
  · cases h
  · rename_i r' hr
    exact ⟨h, fun i z => by subst z; exact hr i h⟩
theorem tO_of {c : CE} {e : Expr} (hn : ∀ i, c ≠ .look i) (h : L2.PE X e (tE C W c)) : L2.PE X e (tO C W c) := by
  cases c <;> first | exact h | exact absurd rfl (hn _)
theorem cO_ok (o : XOk C S W X k) {f : Expr → Option CE} (hf : FE C W X f) {q : Bool} {e : Expr} {c : CE} (h : cO S f q e = some c) : L2.PE X e (tO C W c) := by
  unfold cO at h
  split at h
  · rename_i i e1
    cases h
    cases q with
    | true => exact look_ok o (by simpa using e1)
    | false => simp at e1
  · obtain ⟨h1, h2⟩ := noLook_some h
    exact tO_of h2 (hf _ _ h1)
theorem c2_some {f : Expr → Option CE} {op : Op} {a b : Expr} {c : CE} (h : c2 S f op a b = some c) : ∃ ca cb q1 q2, c = .op op (.cons ca (.cons cb .nil)) ∧ cO S f q1 a = some ca ∧ cO S f q2 b = some cb := by
  unfold c2 at h
  split at h
  · rename_i cb e1
    split at h
    · rename_i ca e2
      cases h
      exact ⟨ca, cb, _, _, rfl, e2, e1⟩
    · cases h
  · cases h
theorem c1_some {f : Expr → Option CE} {op : Op} {a : Expr} {c : CE} (h : c1 S f op a = some c) : ∃ ca q1, c = .op op (.cons ca .nil) ∧ cO S f q1 a = some ca := by
  unfold c1 at h
  split at h
  · rename_i ca e2
    cases h
    exact ⟨ca, _, rfl, e2⟩
  · cases h
theorem cA_ok (o : XOk C S W X k) {f : Expr → Option CE} (hf : FE C W X f) {lk : Bool} : ∀ {es : List Expr} {cs : CEs}, cA S f lk es = some cs → L2.PA X es (tA C W cs) ∧ ∀ e ∈ es, isStar e = false
  | [], cs, h => by
    simp only [cA] at h
    cases h
    exact ⟨sA_nil, fun e he => by cases he⟩
  | e :: es, cs, h => by
    simp only [cA] at h
    split at h
    · cases h
    · rename_i hs
      split at h
      · rename_i cs1 e1
        split at h
        · rename_i c e2
          cases h
          obtain ⟨h1, h2⟩ := cA_ok o hf e1
          have hs : isStar e = false := by simpa using hs
          exact ⟨sA_cons (cO_ok o hf e2) h1 (star_cons hs es X.env), fun x hx => by
            rcases List.mem_cons.mp hx with z | z
            · rw [z]; exact hs
            · exact h2 x z⟩
        · cases h
      · cases h
theorem cPs_ok {f : Expr → Option CE} (hf : FE C W X f) : ∀ {es : List Expr} {cs : CEs}, cPs f es = some cs → L2.PA X es (tPs C W cs) ∧ ∀ e ∈ es, isStar e = false
  | [], cs, h => by
    simp only [cPs] at h
    cases h
    exact ⟨sPs_nil, fun e he => by cases he⟩
  | e :: es, cs, h => by
    simp only [cPs] at h
    split at h
    · cases h
    · rename_i hs
      split at h
      · rename_i c cs1 e1 e2
        cases h
        obtain ⟨h1, h2⟩ := cPs_ok hf e2
        have hs : isStar e = false := by simpa using hs
        exact ⟨sPs_cons (hf _ _ e1) h1 (star_cons hs es X.env), fun x hx => by
          rcases List.mem_cons.mp hx with z | z
          · rw [z]; exact hs
          · exact h2 x z⟩
      · cases h
/-! ### operators -/
theorem bin_ok (o : XOk C S W X k) {f : Expr → Option CE} (hf : FE C W X f) {a b : Expr} {op : Operator} {p : Op} {c : CE} {pos : Pos} (hp : binO op = some p) (h : c2 S f p a b = some c) : L2.PE X (.BinOp a op b pos) (tE C W c) := by
  obtain ⟨ca, cb, q1, q2, rfl, ha, hb⟩ := c2_some h
  have ha := cO_ok o hf ha
  have hb := cO_ok o hf hb
  cases op <;> simp only [binO] at hp <;> first | cases hp | skip
  · exact sE_bin or_add (o2_add o.K) ha hb
  · exact sE_bin L2.op_sub o2_sub ha hb
  · exact sE_bin or_mul o2_mul ha hb
  · exact sE_bin L2.op_modN o2_mod ha hb
  · exact sE_bin op_powG o2_pow ha hb
  · exact sE_bin op_fdivG o2_fdiv ha hb
theorem un_ok (o : XOk C S W X k) {f : Expr → Option CE} (hf : FE C W X f) {a : Expr} {c : CE} {pos : Pos} (h : c1 S f .neg a = some c) : L2.PE X (.UnaryOp .USub a pos) (tE C W c) := by
  obtain ⟨ca, q1, rfl, ha⟩ := c1_some h
  exact sE_un L2.un_neg o1_neg (cO_ok o hf ha)
theorem nomark_of {op : CmpOp} {b : Expr} (h : ∀ es j p, b ≠ .Set es j p) : behindInMarks op b = false := by
  cases b <;> first | rfl | exact absurd rfl (h _ _ _)
/-- a comparison: as a value, as a test -/
theorem cmp_ok (o : XOk C S W X k) {f : Expr → Option CE} (hf : FE C W X f) {a b : Expr} {op : CmpOp} {c : CE} {pos : Pos} (h : cCmp S f a op b = some c) : L2.PE X (.Compare a [op] [b] pos) (tE C W c) ∧ L2.PT X (.Compare a [op] [b] pos) (tT C W c) := by
  unfold cCmp at h
  split at h
  · obtain ⟨ca, q1, rfl, ha⟩ := c1_some h
    exact ⟨sE_isN (cO_ok o hf ha), sT_isN (cO_ok o hf ha)⟩
  · obtain ⟨ca, q1, rfl, ha⟩ := c1_some h
    exact ⟨sE_notN (cO_ok o hf ha), sT_notN (cO_ok o hf ha)⟩
  · obtain ⟨ca, q1, rfl, ha⟩ := c1_some h
    exact ⟨sE_isT (cO_ok o hf ha), sT_isT (cO_ok o hf ha)⟩
  · obtain ⟨ca, q1, rfl, ha⟩ := c1_some h
    exact ⟨sE_notT (cO_ok o hf ha), sT_notT (cO_ok o hf ha)⟩
  · split at h
    · rename_i p hp
      split at h
      · cases h
      · rename_i hset
        obtain ⟨ca, cb, q1, q2, rfl, ha, hb⟩ := c2_some h
        have ha := cO_ok o hf ha
        have hb := cO_ok o hf hb
        have hm := nomark_of (op := op) (b := b) fun es j p z => hset es j p z
        have hu : X.A.units + 64 < cLine := by have := o.units; omega
        cases op <;> simp only [cmpO] at hp <;> first | cases hp | skip
        · exact ⟨sE_cmp (L2.op_eqD hu) (o2_eq o.K) ha hb hm, sT_cmp (L2.op_eqD hu) (o2_eq o.K) ha hb hm⟩
        · exact ⟨sE_cmp (L2.op_neD hu) (o2_ne o.K) ha hb hm, sT_cmp (L2.op_neD hu) (o2_ne o.K) ha hb hm⟩
        · exact ⟨sE_cmp L2.op_lt o2_lt ha hb hm, sT_cmp L2.op_lt o2_lt ha hb hm⟩
        · exact ⟨sE_cmp L2.op_le o2_le ha hb hm, sT_cmp L2.op_le o2_le ha hb hm⟩
        · exact ⟨sE_cmp L2.op_gt o2_gt ha hb hm, sT_cmp L2.op_gt o2_gt ha hb hm⟩
        · exact ⟨sE_cmp L2.op_ge o2_ge ha hb hm, sT_cmp L2.op_ge o2_ge ha hb hm⟩
    · cases h
theorem plainIx_ok {b : Expr} (h : plainIx b = true) : L2.PlainIx b := by
  intro o i
  cases b <;> first | rfl | (simp [plainIx] at h; done)
theorem sub_ok (o : XOk C S W X k) {f : Expr → Option CE} (hf : FE C W X f) {a s : Expr} {c : CE} {pos : Pos} (h : cSub S f a s = some c) : L2.PE X (.Subscript a s pos) (tE C W c) := by
  unfold cSub at h
  split at h
  · obtain ⟨ca, q1, rfl, ha⟩ := c1_some h
    exact sE_slAll o.K (cO_ok o hf ha)
  · obtain ⟨ca, cb, q1, q2, rfl, ha, hb⟩ := c2_some h
    exact sE_slLo o.K (cO_ok o hf ha) (cO_ok o hf hb)
  · obtain ⟨ca, cb, q1, q2, rfl, ha, hb⟩ := c2_some h
    exact sE_slHi o.K (cO_ok o hf ha) (cO_ok o hf hb)
  · split at h
    · rename_i ch e1
      split at h
      · rename_i ca e2
        cases h
        exact sE_sliceC o.K (cO_ok o hf e2) (cO_ok o hf e1)
      · cases h
    · cases h
  · obtain ⟨ca, q1, rfl, ha⟩ := c1_some h
    exact sE_rev o.K (cO_ok o hf ha)
  · split at h
    · rename_i hp
      obtain ⟨ca, cb, q1, q2, rfl, ha, hb⟩ := c2_some h
      exact sE_ix L2.ix_seq (o2_at o.K) (cO_ok o hf ha) (cO_ok o hf hb) (plainIx_ok hp)
    · cases h
end
end PV

set_option Elab.async false
set_option linter.all false
set_option maxRecDepth 100000
set_option maxHeartbeats 4000000
/-! PvComp3: calls, comprehensions. -/
namespace PV
open PySem PySem.Spec PyProof.Rows
section
variable {C : Ctx} {S : Sc} {W : L2.WX} {X : L2.Cx} {k : Nat}
theorem bltF_ok (o : XOk C S W X k) {x : Str} {p : Op} (h : bltF x = some p) : ∃ id r, bootBuiltins x = some (.builtin id) ∧ L2.CallR X (.builtin id) r ∧ OpN C p r := by
  have hu1 : X.A.units + 1 < cLine := by have := o.units; omega
  have hu2 : X.A.units + 100 < cLine := by have := o.units; omega
  unfold bltF at h
  split at h
  · rename_i e; obtain rfl := eq_of_beq e; cases h; exact ⟨"len", _, by decide +kernel, L2.call_len, oN_len o.K⟩
  split at h
  · rename_i e; obtain rfl := eq_of_beq e; cases h; exact ⟨"abs", _, by decide +kernel, L2.call_abs, oN_abs⟩
  split at h
  · rename_i e; obtain rfl := eq_of_beq e; cases h; exact ⟨"sum", _, by decide +kernel, (L2.cr_sum o.calm).or (cr_sumT o.calm), oN_sum o.K⟩
  split at h
  · rename_i e; obtain rfl := eq_of_beq e; cases h; exact ⟨"max", _, by decide +kernel, cr_maxA o.calm hu1, oN_max o.K⟩
  split at h
  · rename_i e; obtain rfl := eq_of_beq e; cases h; exact ⟨"min", _, by decide +kernel, cr_minA o.calm hu1, oN_min o.K⟩
  split at h
  · rename_i e; obtain rfl := eq_of_beq e; cases h; exact ⟨"sorted", _, by decide +kernel, L2.cr_sortedI.or cr_sortedT, oN_sorted o.K⟩
  split at h
  · rename_i e; obtain rfl := eq_of_beq e; cases h; exact ⟨"all", _, by decide +kernel, L2.cr_all o.calm, oN_all o.K⟩
  split at h
  · rename_i e; obtain rfl := eq_of_beq e; cases h; exact ⟨"any", _, by decide +kernel, L2.cr_any o.calm, oN_any o.K⟩
  split at h
  · rename_i e; obtain rfl := eq_of_beq e; cases h; exact ⟨"repr", _, by decide +kernel, cr_repr o.gd hu2, oN_repr o.rp o.K⟩
  cases h
theorem bltT_ok (o : XOk C S W X k) {x : Str} {p : Op} (h : bltT x = some p) : ∃ id r, bootBuiltins x = some (.type id) ∧ L2.CallR X (.type id) r ∧ OpN C p r := by
  unfold bltT at h
  split at h
  · rename_i e; obtain rfl := eq_of_beq e; cases h; exact ⟨"int", _, by decide +kernel, L2.call_int1, oN_int⟩
  split at h
  · rename_i e; obtain rfl := eq_of_beq e; cases h; exact ⟨"str", _, by decide +kernel, L2.call_str_int, oN_str⟩
  split at h
  · rename_i e; obtain rfl := eq_of_beq e; cases h; exact ⟨"tuple", _, by decide +kernel, L2.call_tuple_of, oN_tuple o.K⟩
  split at h
  · rename_i e; obtain rfl := eq_of_beq e; cases h; exact ⟨"list", _, by decide +kernel, L2.call_list_of, oN_list o.K⟩
  cases h
theorem kiOf_ok {t : Str} {p : Ki} (h : kiOf t = some p) : bootBuiltins t = some (.type (kiN p)) ∧ p.plain = true := by
  unfold kiOf at h
  split at h
  · rename_i e; obtain rfl := eq_of_beq e; cases h; exact ⟨by decide +kernel, rfl⟩
  split at h
  · rename_i e; obtain rfl := eq_of_beq e; cases h; exact ⟨by decide +kernel, rfl⟩
  split at h
  · rename_i e; obtain rfl := eq_of_beq e; cases h; exact ⟨by decide +kernel, rfl⟩
  split at h
  · rename_i e; obtain rfl := eq_of_beq e; cases h; exact ⟨by decide +kernel, rfl⟩
  split at h
  · rename_i e; obtain rfl := eq_of_beq e; cases h; exact ⟨by decide +kernel, rfl⟩
  split at h
  · rename_i e; obtain rfl := eq_of_beq e; cases h; exact ⟨by decide +kernel, rfl⟩
  cases h
theorem isBlt_ok (o : XOk C S W X k) {x : Str} (h : isBlt S x = true) : L2.Gl X x ∧ X.mg x = none ∧ (x == ("__debug__" : Str)) = false ∧ x ≠ "__name__" := by
  unfold isBlt at h
  split at h
  · rename_i e
    exact glo_ok o e
  · cases h
theorem noStar {b : Bool} (h : (!b) = true) : b = false := by cases b <;> first | rfl | cases h
theorem range_ok (o : XOk C S W X k) {f : Expr → Option CE} (hf : FE C W X f) {args : List Expr} {c : CE} {p pos : Pos} (hb : isBlt S "list" = true) (h : cRange S f args = some c) : L2.PE X (.Call (.Name "list" p) args [] pos) (tE C W c) := by
  unfold cRange at h
  split at h
  · rename_i r pr a pc
    split at h
    · rename_i h1
      simp only [Bool.and_eq_true] at h1
      obtain ⟨⟨e1, e2⟩, e3⟩ := h1
      obtain rfl := eq_of_beq e1
      obtain ⟨ca, q1, rfl, ha⟩ := c1_some h
      obtain ⟨g1, m1, _⟩ := isBlt_ok o hb
      obtain ⟨g2, m2, _⟩ := isBlt_ok o e2
      exact sE_listRange o.calm g1 m1 g2 m2 (cO_ok o hf ha) (star_cons (noStar e3) [] X.env) rfl
    · cases h
  · cases h
theorem blt_ok (o : XOk C S W X k) {f : Expr → Option CE} (hf : FE C W X f) {x : Str} {args : List Expr} {c : CE} {p pos : Pos} (hb : S.glo x = some .blt) (h : cBlt S f x args = some c) : L2.PE X (.Call (.Name x p) args [] pos) (tE C W c) := by
  obtain ⟨hg, hm, hd, hn⟩ := glo_ok o hb
  unfold cBlt at h
  split at h
  · rename_i e
    obtain rfl := eq_of_beq e
    split at h
    · rename_i a t pt
      split at h
      · cases h
      · rename_i hs
        have hs : isStar a = false := by simpa using hs
        split at h
        · rename_i ht
          split at h
          · rename_i ki hk
            obtain ⟨ca, q1, rfl, ha⟩ := c1_some h
            obtain ⟨h1, h2⟩ := kiOf_ok hk
            obtain ⟨g2, m2, d2, n2⟩ := isBlt_ok o ht
            exact sE_isi h2 o.K (cO_ok o hf ha) hg hm g2 m2 h1 n2 d2 (star_cons hs _ X.env) rfl
          · cases h
        · cases h
    · cases h
  · rename_i hne
    split at h
    · rename_i c1 e1
      cases h
      split at e1
      · rename_i e2
        obtain rfl := eq_of_beq e2
        exact range_ok o hf (by unfold isBlt; rw [hb]) e1
      · cases e1
    · cases args with
      | nil => cases h
      | cons e es =>
        simp only at h
        split at h
        · rename_i p1 e2
          simp only [Option.map_eq_some_iff] at h
          obtain ⟨cs, h1, rfl⟩ := h
          obtain ⟨h2, h3⟩ := cA_ok o hf h1
          obtain ⟨id, r, b1, b2, b3⟩ := bltF_ok o e2
          exact sE_blt b2 b3 hg hm b1 h2 hn hd (star_cons (h3 e (List.mem_cons_self ..)) es X.env) (back_nil fun y hy => h3 y (List.mem_cons_of_mem _ hy))
        · split at h
          · rename_i p1 e2
            simp only [Option.map_eq_some_iff] at h
            obtain ⟨cs, h1, rfl⟩ := h
            obtain ⟨h2, h3⟩ := cA_ok o hf h1
            obtain ⟨id, r, b1, b2, b3⟩ := bltT_ok o e2
            exact sE_bty b2 b3 hg hm b1 h2 hn hd (star_cons (h3 e (List.mem_cons_self ..)) es X.env) (back_nil fun y hy => h3 y (List.mem_cons_of_mem _ hy))
          · cases h
theorem fn_call_ok (o : XOk C S W X k) {f : Expr → Option CE} (hf : FE C W X f) {x : Str} {fi np : Nat} {io : Bool} {dfl : List D} {args : List Expr} {c : CE} {p pos : Pos} (hb : S.glo x = some (.fn fi np io dfl)) (h : cFn S f fi np io dfl args = some c) : L2.PE X (.Call (.Name x p) args [] pos) (tE C W c) := by
  obtain ⟨hg, ⟨fa, fd, ps, hm, hk, F, hnp, hB⟩, hd, hn⟩ := glo_ok o hb
  cases args with
  | nil => simp [cFn] at h
  | cons e es =>
    simp only [cFn] at h
    split at h
    · cases h
    · rename_i hc
      simp only [Bool.or_eq_true, decide_eq_true_eq, not_or] at hc
      split at h
      · rename_i i e1
        split at e1
        · rename_i h1
          simp only [Bool.and_eq_true, decide_eq_true_eq] at h1
          simp only [Option.map_eq_some_iff] at h
          obtain ⟨cs, h2, rfl⟩ := h
          obtain ⟨h3, h4⟩ := cPs_ok hf h2
          have hs : isStar e = false := by cases e <;> first | rfl | (simp [lookOf] at e1; done)
          obtain ⟨ds, dvs, b1, b2, b3⟩ := hB dfl.length (Nat.le_refl _)
          have b3 : dvs = [] := by have := b3 (fun _ => none); rw [List.drop_length] at this; exact this
          subst b3
          refine PEimp (pe_callG (E := WEs W) F o.room o.gd hg hm hk b1 b2 o.pass (L2.pa_cons (look_ok o e1) h3 (star_cons hs es X.env)) hd (star_cons hs es X.env) (back_nil fun y hy => h4 y hy)) fun σ H Q hq => ?_
          obtain ⟨v, hv, hq⟩ := tE_callM hnp hq
          refine ⟨v, hv, ?_⟩
          obtain ⟨Hd, ρ, τ, ν, as, hl, g, hh⟩ := hq
          refine ⟨Hd, ρ, τ, ν, as, hl, g, ?_⟩
          simpa using hh
        · cases e1
      · simp only [Option.map_eq_some_iff] at h
        obtain ⟨cs, h2, rfl⟩ := h
        obtain ⟨h3, h4⟩ := cPs_ok hf h2
        obtain ⟨ds, dvs, b1, b2, b3⟩ := hB (dfl.length - (np - (e :: es).length)) (Nat.sub_le _ _)
        have hs := h4 e (List.mem_cons_self ..)
        exact PEimp (pe_callG (E := WEs W) F o.room o.gd hg hm hk b1 b2 o.pass h3 hd (star_cons hs es X.env) (back_nil fun y hy => h4 y (List.mem_cons_of_mem _ hy))) fun σ H Q hq => tE_call b3 hnp hq
end
end PV

set_option Elab.async false
set_option linter.all false
set_option maxRecDepth 100000
set_option maxHeartbeats 4000000
/-! PvComp4: bools, targets, what is walked, comprehensions; all expressions. -/
namespace PV
open PySem PySem.Spec PyProof.Rows
section
variable {C : Ctx} {S : Sc} {W : L2.WX} {X : L2.Cx} {k : Nat}
theorem bool_ok {op : BoolOp} {f : Expr → Option CE} (hf : FE C W X f) {pos : Pos} : ∀ {vs : List Expr} {c : CE}, cBool op f vs = some c → L2.PE X (.BoolOp op vs pos) (tE C W c)
  | [], c, h => by simp [cBool] at h
  | [a], c, h => by
    simp only [cBool] at h
    exact L2.pe_one (hf _ _ h)
  | a :: b :: r, c, h => by
    simp only [cBool] at h
    split at h
    · rename_i ca cb e1 e2
      cases h
      cases op with
      | And => exact sE_and (hf _ _ e1) (bool_ok hf e2)
      | Or => exact sE_or (hf _ _ e1) (bool_ok hf e2)
    · cases h
theorem boolT_ok {op : BoolOp} {f : Expr → Option CE} {tk : Expr → Bool} (hf : FT C W X f tk) {pos : Pos} : ∀ {vs : List Expr} {c : CE}, cBool op f vs = some c → vs.all tk = true → L2.PW X (.BoolOp op vs pos) (tT C W c)
  | [], c, h, _ => by simp [cBool] at h
  | [a], c, h, ht => by
    simp only [cBool] at h
    simp only [List.all_cons, List.all_nil, Bool.and_true] at ht
    cases op with
    | And => exact sW_and1 (hf _ _ h ht)
    | Or => exact sW_or1 (hf _ _ h ht)
  | a :: b :: r, c, h, ht => by
    simp only [cBool] at h
    rw [List.all_cons, Bool.and_eq_true] at ht
    split at h
    · rename_i ca cb e1 e2
      cases h
      cases op with
      | And => exact sW_and (hf _ _ e1 ht.1) (boolT_ok hf e2 ht.2)
      | Or => exact sW_or (hf _ _ e1 ht.1) (boolT_ok hf e2 ht.2)
    · cases h
theorem pt_of_pw {e : Expr} {t : L2.TT} (h : L2.PW X e t) : L2.PT X e t := ⟨fun pins s σ H Q I hq => h.run _ pins s σ H Q I hq⟩
/-! ### names that are stored -/
theorem st_ok (o : XOk C S W X k) {x : Str} {i : Nat} (h : S.st x = some i) : X.N[i]? = some x ∧ L2.Loc X.env.scope x ∧ (X.fn x = true ∨ X.env.scope.names.lookup x = some .local) := by
  unfold Sc.st Sc.kind at h
  unfold L2.Loc
  rw [o.sc, o.N]
  split at h
  · rename_i e
    exact ⟨find_at h, .inl e, .inr e⟩
  · rename_i e e2
    exact ⟨find_at h, .inr e, .inl (by rw [o.fn0 e2])⟩
  · rename_i ow e e2
    split at h
    · rename_i e3
      exact ⟨find_at h, .inr e, .inl (by rw [o.fn1 _ e2]; simp [e3])⟩
    · cases h
  · cases h
theorem cT_ok (o : XOk C S W X k) {tg : Expr} {t : CT} (h : cT S tg = some t) : L2.PG X tg (gT C.K t) := by
  unfold cT at h
  split at h
  · simp only [Option.map_eq_some_iff] at h
    obtain ⟨i, h1, rfl⟩ := h
    obtain ⟨a, b, c⟩ := st_ok o h1
    exact L2.pg_name (by rw [o.N]; exact o.nd) a b c
  · split at h
    · rename_i i j e1 e2
      split at h
      · cases h
      · cases h
        obtain ⟨a, b, c⟩ := st_ok o e1
        obtain ⟨a2, b2, c2⟩ := st_ok o e2
        show L2.PG X _ (L2.gTup C.K 2 _)
        rw [← o.K]
        exact L2.pg_tup o.calm (L2.pgs_cons (L2.pg_name (by rw [o.N]; exact o.nd) a b c) (L2.pgs_cons (L2.pg_name (by rw [o.N]; exact o.nd) a2 b2 c2) L2.pgs_nil))
    · cases h
  · cases h
theorem isTup_some {tg : Expr} (h : isTup tg = true) : ∃ es kk pp, tg = .Tuple es kk pp := by
  cases tg <;> first | exact ⟨_, _, _, rfl⟩ | cases h
theorem seq_ok (o : XOk C S W X k) {f : Expr → Option CE} (hf : FE C W X f) {tg e : Expr} {ci : CI} (h : cSeq f e = some ci) : L2.PI X tg e (tI C W ci) ∧ ∀ x, foldedSetIterable e X.env x = pure x := by
  unfold cSeq at h
  split at h
  · cases h
  · rename_i hs
    simp only [Option.map_eq_some_iff] at h
    obtain ⟨c, h1, rfl⟩ := h
    refine ⟨sI_seq o.K (hf _ _ h1), fun x => ?_⟩
    cases e <;> first | rfl | (simp [isSet] at hs; done)
theorem and3 {a b c : Bool} (h : (a && b && c) = true) : a = true ∧ b = true ∧ c = true := by
  simp only [Bool.and_eq_true] at h
  exact ⟨h.1.1, h.1.2, h.2⟩
theorem cI_ok (o : XOk C S W X k) {f : Expr → Option CE} (hf : FE C W X f) {tg e : Expr} {ci : CI} (h : cI S f (isTup tg) e = some ci) : L2.PI X tg e (tI C W ci) ∧ ∀ x, foldedSetIterable e X.env x = pure x := by
  unfold cI at h
  split at h
  · rename_i x px a pos
    split at h
    · rename_i e1
      obtain rfl := eq_of_beq e1
      split at h
      · rename_i h1
        rw [Bool.and_eq_true] at h1
        simp only [Option.map_eq_some_iff] at h
        obtain ⟨c, h2, rfl⟩ := h
        obtain ⟨g1, m1, _⟩ := isBlt_ok o h1.1
        exact ⟨sI_range1 g1 m1 (hf _ _ h2) (star_cons (noStar h1.2) [] X.env), fun x => rfl⟩
      · cases h
    · split at h
      · rename_i e1
        obtain rfl := eq_of_beq e1
        split at h
        · rename_i h1
          obtain ⟨t1, t2, t3⟩ := and3 h1
          simp only [Option.map_eq_some_iff] at h
          obtain ⟨c, h2, rfl⟩ := h
          obtain ⟨g1, m1, _⟩ := isBlt_ok o t2
          obtain ⟨es, kk, pp, rfl⟩ := isTup_some t1
          exact ⟨sI_enum o.K g1 m1 (hf _ _ h2) (star_cons (noStar t3) [] X.env), fun x => rfl⟩
        · cases h
      · exact seq_ok o hf h
  · rename_i x px a b pos
    split at h
    · rename_i e1
      obtain rfl := eq_of_beq e1
      split at h
      · rename_i h1
        obtain ⟨t1, t2, t3⟩ := and3 h1
        split at h
        · rename_i ca cb h2 h3
          cases h
          obtain ⟨g1, m1, _⟩ := isBlt_ok o t1
          have sb := star_cons (noStar t3) [] X.env
          exact ⟨sI_range g1 m1 (hf _ _ h2) (hf _ _ h3) (by rw [star_cons (noStar t2), sb]; rfl) sb, fun x => rfl⟩
        · cases h
      · cases h
    · split at h
      · rename_i e1
        obtain rfl := eq_of_beq e1
        split at h
        · rename_i h1
          rw [Bool.and_eq_true] at h1
          obtain ⟨t1, t2, t3⟩ := and3 h1.1
          split at h
          · rename_i ca cb h2 h3
            cases h
            obtain ⟨g1, m1, _⟩ := isBlt_ok o t2
            have sb := star_cons (noStar h1.2) [] X.env
            obtain ⟨es, kk, pp, rfl⟩ := isTup_some t1
            exact ⟨sI_zip o.K g1 m1 (hf _ _ h2) (hf _ _ h3) (by rw [star_cons (noStar t3), sb]; rfl) sb, fun x => rfl⟩
          · cases h
        · cases h
      · exact seq_ok o hf h
  · exact seq_ok o hf h
/-! ### comprehensions -/
theorem GOk.blk {x : Str} {g : Gv} {s : Shared} {H : Hp} {scope : Scope} {cenv : PySem.Env} {fp : List Addr} (h : GOk C X k x g) : GOk C (X.blk s H scope cenv fp) k x g := by
  cases g <;> exact h
theorem XOk.blk (o : XOk C S W X k) {scope : Scope} {own : List (Str × Nat)} (ok : L2.BlkOk X.N X.env.scope scope own) (s : Shared) (H : Hp) (A : Addr) (cl : List (Str × Addr)) (fp : List Addr) :
    XOk C (S.blk scope) noW (X.blk s H scope (compEnvC scope cl A X.env) fp) k where
  K := o.K
  N := o.N
  nd := o.nd
  sc := by
    show _ = rel scope S.sc
    rw [← o.sc]
    rfl
  bk := ok.kind
  calm := o.calm
  room := o.room
  gd := o.gd
  rp := o.rp
  own := PassesOwn.never
  pass := fun σ pins H s e s' I c => by
    obtain ⟨a, B, H', cls, d, _, _, _, _, _, _, _, z⟩ := c
    exact z
  fn0 := fun z => by cases z
  fn1 := fun ow z => by cases z; rfl
  gs := fun x g h => (o.gs x g h).blk
theorem if_ok {tk : Expr → Bool} {f : Expr → Option CE} {ifs : List Expr} {cc : CE} (h : cIf tk f ifs = some cc) :
    ∃ tt : L2.TT, (∀ (Y : L2.Cx), FT C noW Y f tk → L2.PTs Y ifs tt) ∧ ∀ σ H Q, tT C noW cc σ H Q → tt σ H Q := by
  unfold cIf at h
  split at h
  · cases h
    refine ⟨L2.tYes, fun Y _ => L2.pts_nil, fun σ H Q hq => ?_⟩
    obtain ⟨Hd, ρ, τ, ν, as, hl, g, hh⟩ := hq
    simp only [ev] at hh
    obtain ⟨b, eb, q⟩ := hh (.bl true) H Hd as (Step.refl _ _ _) (fun _ => Le.refl _) (g.pushV rfl)
    cases eb
    exact q
  · split at h
    · rename_i ht
      exact ⟨tT C noW cc, fun Y hf => L2.pts_one (hf _ _ h ht), fun _ _ _ q => q⟩
    · cases h
  · cases h
theorem lc_ok (o : XOk C S W X k) {f : Sc → Expr → Option CE} {tk : Expr → Bool} (hf : ∀ (S : Sc) (W : L2.WX) (X : L2.Cx), XOk C S W X k → FE C W X (f S) ∧ FT C W X (f S) tk) {elt tg it : Expr} {ifs : List Expr} {scope : Scope} {c : CE} {pos : Pos} (h : cLc S f tk elt tg it ifs scope = some c) :
    L2.PE X (.ListComp elt [⟨tg, it, ifs, 0⟩] scope pos) (tE C W c) ∧ ∀ (i : Nat) (y : Str) (py spos : Pos), X.N[i]? = some y → X.env.scope.names.lookup y = some .local → swapsWith (.ListComp elt [⟨tg, it, ifs, 0⟩] scope pos) (some (.Name y py)) spos.line X.env = pure true →
      L2.PS X (.Assign [.Name y py] (.ListComp elt [⟨tg, it, ifs, 0⟩] scope pos) spos) (tS C W (.asg i c)) := by
  unfold cLc at h
  split at h
  · rename_i t et
    split at h
    · rename_i h1
      rw [Bool.and_eq_true, decide_eq_true_eq] at h1
      split at h
      · rename_i ci cc ce e1 e2 e3
        cases h
        have ok := L2.blkOk_by h1.1
        rw [← o.N, ← o.sc] at ok
        have hN : X.N.Nodup := by rw [o.N]; exact o.nd
        obtain ⟨hi, hs⟩ := cI_ok o (hf S W X o).1 (tg := tg) e1
        obtain ⟨tt, ht, htt⟩ := if_ok (C := C) e2
        refine ⟨sE_lc o.calm hN hi ok h1.2 (fun s H A cl fp => cT_ok (o.blk ok s H A cl fp) et) (fun s H A cl fp => ht _ (hf _ _ _ (o.blk ok s H A cl fp)).2) htt (fun s H A cl fp => (hf _ _ _ (o.blk ok s H A cl fp)).1 _ _ e3) hs, fun i y py spos hy hyl hsw => ?_⟩
        exact sS_setLc o.calm hN hy hyl hsw hi ok h1.2 (fun s H A cl fp => cT_ok (o.blk ok s H A cl fp) et) (fun s H A cl fp => ht _ (hf _ _ _ (o.blk ok s H A cl fp)).2) htt (fun s H A cl fp => (hf _ _ _ (o.blk ok s H A cl fp)).1 _ _ e3) hs
      · cases h
    · cases h
  · cases h
end
end PV

set_option Elab.async false
set_option linter.all false
set_option maxRecDepth 100000
set_option maxHeartbeats 4000000
/-! PvComp5: every expression that is compiled, every statement. -/
namespace PV
open PySem PySem.Spec PyProof.Rows
section
variable {C : Ctx} {S : Sc} {W : L2.WX} {X : L2.Cx} {k : Nat}
theorem few1 {a : Expr} {cpos : Pos} {env : PySem.Env} (h : isStar a = false) : ((backTo cpos (starEach [a] env)).all (fun x => !x.1) && (backToKw cpos (keywordEach [] env)).all (fun x => x.1.isSome)
      && decide ([a].length + ([] : List Keyword).length + (if ([] : List Keyword).isEmpty then 0 else 1) < 30)) = true := by
  rw [star_cons h]
  rfl
theorem call_ok (o : XOk C S W X k) {f : Expr → Option CE} (hf : FE C W X f) {g : Expr} {args : List Expr} {c : CE} {pos : Pos} (h : cCall S f g args pos = some c) : L2.PE X (.Call g args [] pos) (tE C W c) := by
  unfold cCall at h
  split at h
  · split at h
    · rename_i e
      exact fn_call_ok o hf e h
    · rename_i e
      exact blt_ok o hf e h
    · cases h
  · rename_i x px m apos
    split at h
    · rename_i h1
      rw [Bool.and_eq_true] at h1
      obtain rfl := eq_of_beq h1.1
      split at h
      · rename_i i a ei
        split at h
        · cases h
        · rename_i hs
          have hs : isStar a = false := by simpa using hs
          simp only [Option.map_eq_some_iff] at h
          obtain ⟨ca, h2, rfl⟩ := h
          refine sE_pop (L2.pe_bm PySem.F.plainAttrs_list PySem.F.slot_list_pop PySem.F.type_list_pop L2.mt_popAt (idx_ok o ei) (L2.pa_cons (hf _ _ h2) L2.pa_nil (star_cons hs [] X.env)) rfl (few1 hs) h1.2 (star_cons hs [] X.env) rfl)
      · cases h
    · cases h
  · cases h
theorem tst_val {e : Expr} {c : CE} (h : L2.PE X e (tE C W c)) (he : ∀ whole, isTrue e X.env whole = (do let v ← whole; standAt e.pos; holding [v] (truthy v))) : L2.PT X e (tT C W c) := L2.pt_val h he
theorem cE_ok : ∀ (n : Nat) (S : Sc) (W : L2.WX) (X : L2.Cx), XOk C S W X k → FE C W X (cE n S) ∧ FT C W X (cE n S) (tst n)
  | 0, S, W, X, o => ⟨fun e c h => (by cases h), fun e c h _ => (by cases h)⟩
  | n + 1, S, W, X, o => by
    obtain ⟨hE, hT⟩ := cE_ok n S W X o
    have main : FE C W X (cE (n + 1) S) := by
      intro e c h
      simp only [cE] at h
      split at h
      · simp only [Option.map_eq_some_iff] at h
        obtain ⟨d, h1, rfl⟩ := h
        exact cCon_ok h1
      · exact cName_ok o h
      · split at h
        · rename_i p hp
          exact bin_ok o hE hp h
        · cases h
      · simp only [Option.map_eq_some_iff] at h
        obtain ⟨ca, h1, rfl⟩ := h
        exact sE_not (hE _ _ h1)
      · exact un_ok o hE h
      · exact bool_ok hE h
      · split at h
        · rename_i ht
          split at h
          · rename_i ct ca cb e1 e2 e3
            cases h
            exact sE_ite (hT _ _ e1 ht) (hE _ _ e2) (hE _ _ e3)
          · cases h
        · cases h
      · simp only [Option.map_eq_some_iff] at h
        obtain ⟨ca, h1, rfl⟩ := h
        exact sE_tup (cPs_ok hE h1).1
      · simp only [Option.map_eq_some_iff] at h
        obtain ⟨ca, h1, rfl⟩ := h
        exact sE_lst (cPs_ok hE h1).1
      · cases h
        exact sE_dct0
      · exact (cmp_ok o hE h).1
      · exact sub_ok o hE h
      · exact call_ok o hE h
      · exact (lc_ok o (fun S W X o => cE_ok n S W X o) h).1
      · cases h
    refine ⟨main, fun e c h ht => ?_⟩
    have hp := main e c h
    simp only [cE] at h
    cases e <;> first | exact tst_val hp (fun _ => rfl) | skip
    · rename_i op vs pos
      simp only [tst] at ht
      exact pt_of_pw (boolT_ok hT h ht)
    · rename_i op x pos
      cases op <;> first | exact tst_val hp (fun _ => rfl) | skip
      simp only [tst] at ht
      simp only [Option.map_eq_some_iff] at h
      obtain ⟨ca, h1, rfl⟩ := h
      exact sT_not (hT _ _ h1 ht)
    · simp [tst] at ht
    · rename_i a ops bs pos
      match ops, bs, ht, h with
      | [op], [b], _, h => exact (cmp_ok o hE h).2
/-! ### statements -/
theorem kind_of (o : XOk C S W X k) {x : Str} {q : NameKind} (h : S.kind x = some q) : X.env.kindOf x = some q := by
  show X.env.scope.names.lookup x = some q
  rw [o.sc]
  exact h
theorem swF {e : Expr} {t : Option Expr} {l : Nat} {env : PySem.Env} (h : isComp e = false) : swapsWith e t l env = pure false := by
  cases e <;> first | rfl | cases h
theorem asg_ok (o : XOk C S W X k) {n : Nat} {x : Str} {i : Nat} {v : Expr} {c : CE} {px pos : Pos} (hx : S.st x = some i) (h : cE n S v = some c) : L2.PS X (.Assign [.Name x px] v pos) (tS C W (.asg i c)) := by
  obtain ⟨a, b, d⟩ := st_ok o hx
  have hN : X.N.Nodup := by rw [o.N]; exact o.nd
  have hv := (cE_ok n S W X o).1 _ _ h
  by_cases hc : isComp v = true
  · cases n with
    | zero => cases h
    | succ n =>
      cases v <;> first | cases hc | skip
      · rename_i elt gs scope vp
        have hgs : ∃ tg it ifs, gs = [⟨tg, it, ifs, 0⟩] := by
          simp only [cE] at h
          split at h <;> first | cases h | skip
          all_goals (rename_i z; cases z)
          exact ⟨_, _, _, rfl⟩
        obtain ⟨tg, it, ifs, rfl⟩ := hgs
        cases hsw : (X.env.blockKind == .function && X.env.kindOf x == some .local && px.line == vp.line && !(scope.names.any fun (n, k) => n == x && (k == .local || k == .cell))) with
        | true =>
          refine (lc_ok o (fun S W X o => cE_ok n S W X o) (by simpa only [cE] using h)).2 i x px pos a ?_ ?_
          · simp only [Bool.and_eq_true] at hsw
            exact (by simpa using hsw.1.1.2 : X.env.kindOf x = some NameKind.local)
          · unfold swapsWith
            simp only [Expr.pos]
            rw [hsw]
        | false =>
          refine sS_asg (L2.ps_set hN a b hv ?_ d)
          unfold swapsWith
          simp only [Expr.pos]
          rw [hsw]
      · simp [cE] at h
      · simp [cE] at h
  · exact sS_asg (L2.ps_set hN a b hv (swF (by simpa using hc)) d)
theorem cPs2 {f : Expr → Option CE} (hf : FE C W X f) {a b : Expr} {ca cb : CE} (ha : f a = some ca) (hb : f b = some cb) (hs : isStar a = false ∧ isStar b = false) : L2.PA X [a, b] (tPs C W (.cons ca (.cons cb .nil))) :=
  sPs_cons (hf _ _ ha) (sPs_cons (hf _ _ hb) sPs_nil (star_cons hs.2 [] X.env)) (star_cons hs.1 [b] X.env)
theorem kind_eq (o : XOk C S W X k) {x : Str} : X.env.kindOf x = S.kind x := by
  show X.env.scope.names.lookup x = _
  rw [o.sc]
  rfl
theorem noStars {a b : Expr} (hs : isStar a = false ∧ isStar b = false) (g : Expr → Bool) (hg : ∀ e, g e = isStar e) : [a, b].any g = false := by
  simp [hg, hs.1, hs.2]
theorem swap_two {env : PySem.Env} {x y : Str} {a b : Expr} {px py pt p2 : Pos} {kt k2 : Nat} (hbk : env.blockKind = .function) (hs : isStar a = false ∧ isStar b = false) (kx : env.kindOf x = some .local) (ky : env.kindOf y = some .local) (hl : px.line = py.line) (hxy : x ≠ y)
    (f1 : ¬(foldedForSure 8 a && foldedForSure 8 b) = true) (f2 : ¬(constantsAlone 8 a && constantsAlone 8 b) = true) : swappedStores [.Tuple [.Name x px, .Name y py] kt pt] (.Tuple [a, b] k2 p2) env = pure (some [x, y]) := by
  have f1 : (foldedForSure 8 a && foldedForSure 8 b) = false := by simpa using f1
  have f2 : (constantsAlone 8 a && constantsAlone 8 b) = false := by simpa using f2
  have h1 : ([x, y].eraseDups).length = 2 := by
    have : (y == x) = false := by simpa using Ne.symm hxy
    simp [List.eraseDups, List.eraseDupsBy, List.eraseDupsBy.loop, this]
  unfold swappedStores
  simp only [hbk, List.length_cons, List.length_nil]
  rw [noStars hs _ (fun e => by cases e <;> rfl)]
  simp only [List.head?_cons, Option.map_some, Option.getD_some, Expr.pos, List.filterMap_cons, List.filterMap_nil, kx, ky, ← hl]
  simp [f1, f2, h1, List.all_cons, List.all_nil]
theorem swap_none {env : PySem.Env} {x y : Str} {a b : Expr} {px py pt p2 : Pos} {kt k2 : Nat} (hbk : env.blockKind = .function) (hs : isStar a = false ∧ isStar b = false)
    (hk : (env.kindOf x == some .local && env.kindOf y == some .local && px.line == py.line) = false) : swappedStores [.Tuple [.Name x px, .Name y py] kt pt] (.Tuple [a, b] k2 p2) env = pure none := by
  unfold swappedStores
  simp only [hbk, List.length_cons, List.length_nil]
  rw [noStars hs _ (fun e => by cases e <;> rfl)]
  simp only [List.head?_cons, Option.map_some, Option.getD_some, Expr.pos, List.filterMap_cons, List.filterMap_nil]
  by_cases h1 : (env.kindOf x == some .local) = true
  · have h2 : (env.kindOf y == some .local && py.line == px.line) = false := by
      rw [h1, Bool.true_and] at hk
      rw [Bool.and_eq_false_iff] at hk ⊢
      rcases hk with z | z
      · exact .inl z
      · refine .inr ?_
        rw [beq_eq_false_iff_ne] at z ⊢
        exact fun e => z e.symm
    simp [h1, h2]
  · have h1 : (env.kindOf x == some .local) = false := by simpa using h1
    by_cases h2 : (env.kindOf y == some .local && py.line == px.line) = true
    · simp [h1, h2]
    · have h2 : (env.kindOf y == some .local && py.line == px.line) = false := by simpa using h2
      simp [h1, h2]
theorem pair_ok (o : XOk C S W X k) {f : Expr → Option CE} (hf : FE C W X f) {x y : Str} {px py pt pos : Pos} {kt : Nat} {v : Expr} {c : CS} (h : cPair S f x y px py v = some c) : L2.PS X (.Assign [.Tuple [.Name x px, .Name y py] kt pt] v pos) (tS C W c) := by
  have hN : X.N.Nodup := by rw [o.N]; exact o.nd
  have hbk : X.env.blockKind = .function := by unfold PySem.Env.blockKind; rw [o.sc, o.bk]; rfl
  unfold cPair at h
  split at h
  · rename_i i j ei ej
    obtain ⟨a1, b1, d1⟩ := st_ok o ei
    obtain ⟨a2, b2, d2⟩ := st_ok o ej
    have G : L2.PG X (.Tuple [.Name x px, .Name y py] kt pt) (gT C.K (.two (.name i) (.name j))) := by
      show L2.PG X _ (L2.gTup C.K 2 _)
      rw [← o.K]
      exact L2.pg_tup o.calm (L2.pgs_cons (L2.pg_name hN a1 b1 d1) (L2.pgs_cons (L2.pg_name hN a2 b2 d2) L2.pgs_nil))
    split at h
    · cases h
    · rename_i hij
      split at h
      · rename_i a b k2 p2
        split at h
        · cases h
        · rename_i hs
          simp only [Bool.or_eq_true, not_or, Bool.not_eq_true] at hs
          have s2 := star_cons hs.2 [] X.env
          have s1 := star_cons hs.1 [b] X.env
          split at h
          · rename_i ca cb e1 e2 e3
            simp only [Bool.and_eq_true] at e1
            have kx := kind_of o (eq_of_beq e1.1.1)
            have ky := kind_of o (eq_of_beq e1.1.2)
            split at h
            · cases h
            · rename_i f1
              split at h
              · cases h
              · rename_i f2
                split at h
                · rename_i hl
                  cases h
                  refine sS_par (L2.ps_par o.calm hN a1 a2 hij kx ky (cPs2 hf e2 e3 hs) ?_)
                  have hxy : x ≠ y := fun z => hij (by
                    subst z
                    have l1 := (List.getElem?_eq_some_iff.mp a1).1
                    exact (List.getElem?_inj l1 hN).mp (a1.trans a2.symm))
                  exact swap_two hbk hs kx ky (eq_of_beq hl) hxy f1 f2
                · cases h
          · rename_i ca cb e1 e2 e3
            cases h
            refine sS_asg2 (L2.ps_asg (sE_tup (cPs2 hf e2 e3 hs)) G rfl ?_)
            rw [← kind_eq o, ← kind_eq o] at e1
            exact swap_none hbk hs e1
          · cases h
      · cases h
      · rename_i hnt
        simp only [Option.map_eq_some_iff] at h
        obtain ⟨c1, h1, rfl⟩ := h
        refine sS_asg2 (L2.ps_asg (hf _ _ h1) G (by cases v <;> rfl) ?_)
        cases v <;> first | rfl | exact absurd rfl (hnt _ _ _)
  · cases h
end
end PV

set_option Elab.async false
set_option linter.all false
set_option maxRecDepth 100000
set_option maxHeartbeats 4000000
/-! PvComp6: every statement that is compiled. -/
namespace PV
open PySem PySem.Spec PyProof.Rows
section
variable {C : Ctx} {S : Sc} {W : L2.WX} {X : L2.Cx} {k : Nat}
/-- what a row of statements promises -/
def FS (C : Ctx) (W : L2.WX) (X : L2.Cx) (g : Stmt → Option CS) : Prop := ∀ s c, g s = some c → L2.PS X s (tS C W c)
theorem cSs_ok {g : Stmt → Option CS} (hg : FS C W X g) : ∀ {ss : List Stmt} {cs : CSs}, cSs g ss = some cs → L2.PSs X ss (tSs C W cs)
  | [], cs, h => by
    simp only [cSs] at h
    cases h
    exact sSs_nil
  | s :: ss, cs, h => by
    simp only [cSs] at h
    split at h
    · rename_i c cs1 e1 e2
      cases h
      exact sSs_cons (hg _ _ e1) (cSs_ok hg e2)
    · cases h
theorem meth_ok (o : XOk C S W X k) {f : Expr → Option CE} (hf : FE C W X f) {x m : Str} {a : Expr} {px apos cpos pos : Pos} {c : CS} (hl : (apos.endLine == cpos.line) = true) (h : cMeth S f x m a = some c) : L2.PS X (.Expr (.Call (.Attribute (.Name x px) m apos) [a] [] cpos) pos) (tS C W c) := by
  unfold cMeth at h
  split at h
  · rename_i i ei
    split at h
    · cases h
    · rename_i hs
      have hs : isStar a = false := by simpa using hs
      split at h
      · rename_i e1
        obtain rfl := eq_of_beq e1
        simp only [Option.map_eq_some_iff] at h
        obtain ⟨ca, h2, rfl⟩ := h
        exact sS_app (L2.ps_expr (L2.pe_bm PySem.F.plainAttrs_list PySem.F.slot_list_append PySem.F.type_list_append L2.mt_append (idx_ok o ei) (L2.pa_cons (hf _ _ h2) L2.pa_nil (star_cons hs [] X.env)) rfl (few1 hs) hl (star_cons hs [] X.env) rfl))
      · split at h
        · rename_i e1
          obtain rfl := eq_of_beq e1
          simp only [Option.map_eq_some_iff] at h
          obtain ⟨ca, h2, rfl⟩ := h
          exact sS_ext (L2.ps_expr (L2.pe_bm PySem.F.plainAttrs_list PySem.F.slot_list_extend PySem.F.type_list_extend L2.mt_extend (idx_ok o ei) (L2.pa_cons (hf _ _ h2) L2.pa_nil (star_cons hs [] X.env)) rfl (few1 hs) hl (star_cons hs [] X.env) rfl))
        · cases h
  · cases h
theorem asgIx {x : Str} {ix : Expr} {px pos : Pos} (h : plainIx ix = true) : ∀ v, assign (.Subscript (.Name x px) ix pos) X.env v = (do
      let ov ← holding [v] (eval (.Name x px) X.env)
      let iv ← holding [v, ov] (eval ix X.env)
      standAt pos
      holding [v, ov, iv] (setItem ov iv v)
      release [v, ov, iv] []) := by
  intro v
  cases ix <;> first | rfl | (simp [plainIx] at h; done)
theorem cS_ok : ∀ (n : Nat) (S : Sc) (W : L2.WX) (X : L2.Cx), XOk C S W X k → FS C W X (cS n S)
  | 0, S, W, X, o => fun e c h => (by cases h)
  | n + 1, S, W, X, o => by
    obtain ⟨hE, hT⟩ := cE_ok n S W X o
    have hS := cS_ok n S W X o
    have hN : X.N.Nodup := by rw [o.N]; exact o.nd
    intro s c h
    simp only [cS] at h
    split at h
    · split at h
      · rename_i i c1 e1 e2
        cases h
        exact asg_ok o e1 e2
      · cases h
    · exact pair_ok o hE h
    · rename_i x px ix sp v pos
      split at h
      · rename_i i ci cv e1 e2 e3
        split at h
        · rename_i h1
          rw [Bool.and_eq_true] at h1
          cases h
          have hc : isComp v = false := by simpa using h1.2
          exact sS_put (L2.ps_asg (hE _ _ e3) (L2.pg_sub (idx_ok o e1) (hE _ _ e2) L2.set_list (asgIx h1.1)) (by cases v <;> rfl) (by cases v <;> rfl) rfl)
        · cases h
      · cases h
    · split at h
      · rename_i i c1 e1 e2
        cases h
        obtain ⟨a1, b1, d1⟩ := st_ok o e1
        exact sS_aug (L2.ps_aug hN a1 b1 (hE _ _ e2) L2.ip_add d1)
      · cases h
    · split at h
      · rename_i h1
        rw [Bool.and_eq_true] at h1
        exact meth_ok o hE h1.1 h
      · cases h
    · rename_i e pos hne
      split at h
      · cases h
      · rename_i hc
        simp only [Option.map_eq_some_iff] at h
        obtain ⟨ca, h2, rfl⟩ := h
        exact sS_exp (hE _ _ h2) (swF (by simpa using hc))
    · split at h
      · rename_i i e1
        cases h
        exact sS_retV (idx_ok o e1)
      · rename_i e1
        simp only [Option.map_eq_some_iff] at h
        obtain ⟨ca, h2, rfl⟩ := h
        refine sS_ret (cName_ok o h2) fun i z => ?_
        subst z
        unfold cName at h2
        rw [e1] at h2
        simp only at h2
        split at h2 <;> cases h2
    · split at h
      · cases h
      · rename_i c1 hv e1
        cases h
        exact sS_ret (hE _ _ e1) hv
      · cases h
    · cases h
      exact sS_pass
    · split at h
      · rename_i ht
        split at h
        · rename_i ct ca cb e1 e2 e3
          cases h
          exact sS_if (hT _ _ e1 ht) (cSs_ok hS e2) (cSs_ok hS e3)
        · cases h
      · cases h
    · split at h
      · rename_i t ci cb e1 e2 e3
        cases h
        obtain ⟨hi, hs⟩ := cI_ok o hE e2
        exact sS_for o.K o.own o.calm hi (cT_ok o e1) (cSs_ok hS e3) hs
      · cases h
    · split at h
      · rename_i ht
        split at h
        · rename_i ct cb e1 e2
          cases h
          exact sS_while o.own (hT _ _ e1 ht) (cSs_ok hS e2)
        · cases h
      · cases h
    · cases h
      exact sS_never
    · cases h
end
end PV

set_option Elab.async false
set_option linter.all false
set_option maxRecDepth 100000
set_option maxHeartbeats 4000000
/-! PvBind: how arguments come to plain parameters, whatever their number. -/
namespace PV
open PySem PySem.Spec PyProof.Rows
section
variable {α : Type}
theorem lookZip {N : List Str} (nd : N.Nodup) : ∀ {us : List α} {i : Nat} {n : Str}, N[i]? = some n → (N.zip us).lookup n = us[i]? := by
  induction N with
  | nil => intro us i n h; simp at h
  | cons m N ih =>
    intro us i n h
    obtain ⟨h1, h2⟩ := List.nodup_cons.mp nd
    cases us with
    | nil => simp
    | cons u us =>
      cases i with
      | zero =>
        simp at h
        subst h
        simp
      | succ i =>
        have h3 : N[i]? = some n := by simpa using h
        have hne : (n == m) = false := by
          rw [beq_eq_false_iff_ne]
          intro z
          subst z
          exact h1 (List.mem_of_getElem? h3)
        simp only [List.zip_cons_cons, List.lookup_cons, hne]
        rw [ih h2 h3]
        simp
/-- the defaults that lack -/
def fill (S : List (Str × α)) (ps : List (Str × α)) : List (Str × α) := ps.foldl (fun S p => if (S.lookup p.1).isNone then S ++ [(p.1, p.2)] else S) S
theorem lookApp {S T : List (Str × α)} {n : Str} : (S ++ T).lookup n = (S.lookup n).or (T.lookup n) := by
  induction S with
  | nil => simp
  | cons p S ih =>
    obtain ⟨m, v⟩ := p
    simp only [List.cons_append, List.lookup_cons]
    cases h : n == m <;> simp [ih]
theorem lookFill {n : Str} : ∀ (ps S : List (Str × α)), (fill S ps).lookup n = (S.lookup n).or (ps.lookup n)
  | [], S => by simp [fill]
  | (m, v) :: ps, S => by
    have : fill S ((m, v) :: ps) = fill (if (S.lookup m).isNone then S ++ [(m, v)] else S) ps := rfl
    rw [this, lookFill ps]
    by_cases h : (S.lookup m).isNone = true
    · rw [if_pos h, lookApp]
      cases hb : n == m with
      | true =>
        obtain rfl := eq_of_beq hb
        have hn : S.lookup n = none := by simpa using h
        simp [hn, List.lookup_cons]
      | false => simp [List.lookup_cons, hb]
    · rw [if_neg h]
      cases hb : n == m with
      | true =>
        obtain rfl := eq_of_beq hb
        obtain ⟨v', hv⟩ : ∃ v', S.lookup n = some v' := Option.isSome_iff_exists.mp (by cases hh : S.lookup n <;> simp_all)
        simp [hv]
      | false => simp [List.lookup_cons, hb]
theorem filterZip {N : List Str} {S : List (Str × α)} : ∀ {vs : List α}, vs.length = N.length → (∀ (i : Nat) (n : Str), N[i]? = some n → S.lookup n = vs[i]?) → (N.filterMap fun n => (S.lookup n).map (n, ·)) = N.zip vs := by
  induction N with
  | nil => intro vs hl h; simp
  | cons m N ih =>
    intro vs hl h
    cases vs with
    | nil => simp at hl
    | cons v vs =>
      have h0 := h 0 m (by simp)
      simp at h0
      rw [List.filterMap_cons, h0]
      simp only [Option.map_some, List.zip_cons_cons, List.cons.injEq, true_and]
      exact ih (by simpa using hl) fun i n hi => by
        have := h (i + 1) n (by simpa using hi)
        simpa using this
end
theorem forFill {β : Type} {f : Str × Value → List (Str × Value) → Sem (ForInStep (List (Str × Value)))} (hf : ∀ p r, f p r = pure (ForInStep.yield (if (r.lookup p.1).isNone then r ++ [(p.1, p.2)] else r))) (g : List (Str × Value) → Sem β) : ∀ (ps S : List (Str × Value)), (forIn ps S f >>= g) = g (fill S ps)
  | [], S => rfl
  | p :: ps, S => by
    rw [List.forIn_cons, hf]
    simp only [pure_bind]
    exact forFill hf g ps _
theorem bind_gen {fd : FuncData} {us its : List Value} (h1 : fd.params.posonlyargs = []) (h2 : fd.params.kwonlyargs = []) (h3 : fd.params.vararg = none) (h4 : fd.params.kwarg = none) (nd : (fd.params.args.map (·.arg)).Nodup)
    (hu : us.length ≤ fd.params.args.length) (hi : its.length ≤ fd.params.args.length) (hm : fd.params.args.length ≤ us.length + its.length) :
    ∃ k, bindArgs fd ⟨us, []⟩ = seqItems? fd.defaults >>= k ∧ k (some its.toArray) = pure ((fd.params.args.map (·.arg)).zip (us ++ its.drop (us.length + its.length - fd.params.args.length))) ∧
      (its = [] → k none = pure ((fd.params.args.map (·.arg)).zip us)) := by
  generalize hN : fd.params.args.map (·.arg) = N at nd
  have hl : fd.params.args.length = N.length := by rw [← hN]; simp
  rw [hl] at hu hi hm ⊢
  have key : ∀ (its : List Value), its.length ≤ N.length → N.length ≤ us.length + its.length → (N.take (N.length - its.length)).filter (fun n => ((N.zip us).lookup n).isNone) = [] ∧
      ((N.filterMap fun n => ((fill (N.zip us) ((N.drop (N.length - its.length)).zip its)).lookup n).map (n, ·)) = N.zip (us ++ its.drop (us.length + its.length - N.length))) := by
    intro its hi hm
    constructor
    · rw [List.filter_eq_nil_iff]
      intro n hn
      obtain ⟨i, hi'⟩ := List.getElem?_of_mem hn
      have hlt : i < N.length - its.length := by
        have := (List.getElem?_eq_some_iff.mp hi').1
        simp at this
        omega
      rw [List.getElem?_take, if_pos hlt] at hi'
      rw [lookZip nd hi']
      rw [List.getElem?_eq_getElem (show i < us.length by omega)]
      simp
    · refine filterZip (by simp; omega) fun i n hn => ?_
      rw [lookFill, lookZip nd hn]
      have hlt := (List.getElem?_eq_some_iff.mp hn).1
      by_cases hiu : i < us.length
      · rw [List.getElem?_eq_getElem hiu, List.getElem?_append_left hiu, List.getElem?_eq_getElem hiu]
        simp
      · rw [List.getElem?_eq_none (by omega), List.getElem?_append_right (by omega)]
        have hd : (N.drop (N.length - its.length))[i - (N.length - its.length)]? = some n := by
          rw [List.getElem?_drop]
          rw [← hn]
          congr 1
          omega
        rw [lookZip (List.Sublist.nodup (List.drop_sublist _ _) nd) hd]
        rw [List.getElem?_drop]
        simp only [Option.none_or]
        congr 1
        omega
  unfold bindArgs
  simp only [h1, h2, h3, h4, List.forIn_nil, pure_bind, List.map_nil, List.nil_append, List.append_nil, hN]
  refine ⟨_, rfl, ?_, ?_⟩
  · obtain ⟨k1, k2⟩ := key its hi hm
    have e0 : (decide (us.length > N.length) && (none : Option Arg).isNone) = false := by simp; omega
    simp only [Option.getD_some, List.toList_toArray, e0, Bool.false_eq_true, if_false]
    have e1 : its.length - N.length = 0 := by omega
    simp only [e1, List.drop_zero, k1, List.isEmpty_nil, Bool.not_true, Bool.false_eq_true, if_false]
    rw [forFill (fun p r => by obtain ⟨n, d⟩ := p; by_cases h : (List.lookup n r).isNone = true <;> simp [h])]
    rw [k2]
  · intro z
    subst z
    obtain ⟨k1, k2⟩ := key [] hi hm
    have e0 : (decide (us.length > N.length) && (none : Option Arg).isNone) = false := by simp; omega
    have e1 : ((none : Option (Array Value)).getD #[]).toList = [] := rfl
    simp only [e0, e1, Bool.false_eq_true, if_false]
    simp only [List.length_nil, Nat.sub_zero] at k1
    simp only [List.length_nil, Nat.sub_zero, Nat.zero_sub, List.drop_zero, k1, List.isEmpty_nil, Bool.not_true, Bool.false_eq_true, if_false]
    rw [forFill (fun p r => by obtain ⟨n, d⟩ := p; by_cases h : (List.lookup n r).isNone = true <;> simp [h])]
    simpa using congrArg (pure (f := Sem)) k2
end PV

set_option Elab.async false
set_option linter.all false
set_option maxRecDepth 100000
set_option maxHeartbeats 4000000
/-! PvDefs: a whole program: its defs as a table, all of them keep what their core texts tell. -/
namespace PV
open PySem PySem.Spec PyProof.Rows
/-! ### constants of the top -/
mutual
def conB (K : Frag) : D → Value → Bool
  | .non, .none => true
  | .bl b, .bool c => b == c
  | .int i, .int j _ => decide (i = j)
  | .str x, .str y _ => decide (x = y.cps.toList)
  | .tup ds, .ref a => (match K.lookup a with
    | some ⟨.type c, _, .seq its _, _⟩ => decide (c = "tuple") && (decide (its.size ≤ sizeLine) && conBs K ds its.toList)
    | _ => false)
  | _, _ => false
def conBs (K : Frag) : List D → List Value → Bool
  | [], [] => true
  | d :: ds, u :: us => conB K d u && conBs K ds us
  | _, _ => false
end
mutual
theorem conB_ok {K : Frag} : ∀ (d : D) (u : Value), conB K d u = true → ∃ v, L2.RelV v u ∧ ∀ Hd, Rep K Hd d v
  | .non, u, h => by
    cases u <;> simp only [conB] at h <;> first | cases h | skip
    exact ⟨.non, rfl, fun _ => rfl⟩
  | .bl b, u, h => by
    cases u <;> simp only [conB] at h <;> first | (cases h; done) | skip
    obtain rfl := eq_of_beq h
    exact ⟨.bl b, rfl, fun _ => rfl⟩
  | .int i, u, h => by
    cases u <;> simp only [conB] at h <;> first | (cases h; done) | skip
    obtain rfl := of_decide_eq_true h
    exact ⟨.int i, ⟨_, rfl⟩, fun _ => rfl⟩
  | .str x, u, h => by
    cases u <;> simp only [conB] at h <;> first | (cases h; done) | skip
    rename_i y t
    have e := of_decide_eq_true h
    refine ⟨.str y, ⟨t, rfl⟩, fun _ => ?_⟩
    show L2.V.str y = L2.V.str (toStr x)
    rw [e]
    simp [toStr]
  | .tup ds, u, h => by
    cases u <;> simp only [conB] at h <;> first | (cases h; done) | skip
    rename_i a
    split at h
    · rename_i c od its n sl lk
      simp only [Bool.and_eq_true, decide_eq_true_eq] at h
      obtain ⟨h1, h2, h3⟩ := h
      obtain ⟨vs, hv, hr⟩ := conBs_ok ds its.toList h3
      refine ⟨.ref a, rfl, fun Hd => ⟨a, vs, rfl, .inr ⟨_, its, n, lk, congrArg Value.type h1, rfl, h2, hv⟩, hr Hd⟩⟩
    · cases h
  | .lst _, u, h => by simp [conB] at h
  | .dct _, u, h => by simp [conB] at h
  | .obj _ _, u, h => by simp [conB] at h
  | .exc _ _, u, h => by simp [conB] at h
  | .scr _, u, h => by simp [conB] at h
theorem conBs_ok {K : Frag} : ∀ (ds : List D) (us : List Value), conBs K ds us = true → ∃ vs, L2.Vals vs us ∧ ∀ Hd, Reps K Hd ds vs
  | [], us, h => by
    cases us with
    | nil => exact ⟨[], .nil, fun _ => rfl⟩
    | cons u us => simp [conBs] at h
  | d :: ds, us, h => by
    cases us with
    | nil => simp [conBs] at h
    | cons u us =>
      simp only [conBs, Bool.and_eq_true] at h
      obtain ⟨v, h1, h2⟩ := conB_ok d u h.1
      obtain ⟨vs, h3, h4⟩ := conBs_ok ds us h.2
      exact ⟨v :: vs, .cons h1 h3, fun Hd => ⟨v, vs, rfl, h2 Hd, h4 Hd⟩⟩
end
/-! ### defs -/
/-- one def as it is written (where it stands, its name, its qualified name), its names by slot, may it change its first argument, its defaults -/
structure DI where
  at_ : Str × Option Str
  name : Str
  qual : Str
  params : Arguments
  body : List Stmt
  scope : Scope
  N : List Str
  io : Bool
  dfl : List D
/-- a name as a number -/
def codeS (x : Str) : Nat := x.cps.toList.foldl (fun n c => n * 256 + c) 0
def codeP (p : Str × Option Str) : Nat := match p.2 with
  | none => codeS p.1
  | some m => (codeS p.1 * 256 + 46) * 256 ^ m.cps.size + codeS m
def DI.code (q : DI) : Nat := codeP q.at_
def findD (L : List DI) (f : Nat) : Option DI := L.find? fun q => q.code == f
theorem findD_mem {L : List DI} {f : Nat} {q : DI} (h : findD L f = some q) : q ∈ L := List.mem_of_find?_eq_some h
theorem findD_of : ∀ {L : List DI} {q : DI}, (L.map DI.code).Nodup → q ∈ L → findD L q.code = some q
  | [], q, _, h => by cases h
  | a :: L, q, nd, h => by
    have nd' : a.code ∉ L.map DI.code ∧ (L.map DI.code).Nodup := List.nodup_cons.mp nd
    rcases List.mem_cons.mp h with z | z
    · subst z
      simp [findD]
    · have hne : (a.code == q.code) = false := by
        rw [beq_eq_false_iff_ne]
        intro e
        exact nd'.1 (e ▸ List.mem_map_of_mem z)
      have := findD_of nd'.2 z
      unfold findD at this ⊢
      rw [List.find?_cons, hne]
      exact this
def DI.np (q : DI) : Nat := q.params.args.length
def DI.ps (q : DI) : List Str := q.params.args.map (·.arg)
def dvOf : D → Option He.Dv
  | .non => some .non
  | .bl b => some (.bl b)
  | .int i => some (.int i)
  | .str x => some (.str (toStr x))
  | _ => none
def dvsOf : List D → Option (List He.Dv)
  | [] => some []
  | d :: ds => match dvOf d, dvsOf ds with
    | some a, some r => some (a :: r)
    | _, _ => none
theorem dvsOf_ok {K : Frag} : ∀ {ds : List D} {vs : List He.Dv}, dvsOf ds = some vs → ∀ Hd, Reps K Hd ds (vs.map (He.Dv.v K))
  | [], vs, h, Hd => by simp only [dvsOf] at h; cases h; rfl
  | d :: ds, vs, h, Hd => by
    simp only [dvsOf] at h
    split at h
    · rename_i a r e1 e2
      cases h
      refine ⟨_, _, rfl, ?_, dvsOf_ok e2 Hd⟩
      cases d <;> simp only [dvOf] at e1 <;> first | cases e1 | skip
      all_goals rfl
    · cases h
theorem repsDrop {K : Frag} {Hd : Hp} {ds : List D} {vs : List V} (m : Nat) (h : Reps K Hd ds vs) : Reps K Hd (ds.drop m) (vs.drop m) := Reps.drop m h
def fnScB (N P : List Str) (sc : Scope) : Bool :=
  (match sc.kind with | .function => true | _ => false) && (!sc.isCoroutine) && (!sc.isGenerator) && decide (N.Nodup) && decide (N.take P.length = P) &&
    (P.all fun x => match sc.names.lookup x with | some .local => true | some .cell => true | _ => false) && (sc.names.all fun y => match y.2 with | .free => false | _ => true)
theorem fnScB_ok {N P : List Str} {sc : Scope} (h : fnScB N P sc = true) : L2.FnScope N P sc := by
  unfold fnScB at h
  simp only [Bool.and_eq_true, decide_eq_true_eq, List.all_eq_true, Bool.not_eq_true'] at h
  obtain ⟨⟨⟨⟨⟨⟨h1, h2⟩, h3⟩, h4⟩, h5⟩, h6⟩, h7⟩ := h
  refine ⟨?_, h2, h3, h4, h5, fun x hx => ?_, fun y hy z => ?_⟩
  · split at h1
    · assumption
    · cases h1
  · have q := h6 x hx
    split at q <;> first | exact .inl (by assumption) | exact .inr (by assumption) | cases q
  · have q := h7 y hy
    rw [z] at q
    cases q
def DI.d (q : DI) : He.DefD := ⟨q.at_, q.name, q.qual, q.params, q.body, q.scope, (dvsOf q.dfl).getD [], []⟩
/-- its form -/
def DI.ok (q : DI) : Bool :=
  q.params.posonlyargs.isEmpty && q.params.kwonlyargs.isEmpty && q.params.vararg.isNone && q.params.kwarg.isNone && decide (q.dfl.length ≤ q.np) && decide (q.ps.Nodup) && fnScB q.N q.ps q.scope && (dvsOf q.dfl).isSome
theorem dvsOf_len {ds : List D} {vs : List He.Dv} (h : dvsOf ds = some vs) : vs.length = ds.length := by
  have := (dvsOf_ok (K := []) h (fun _ => none)).length
  simpa using this
theorem seqN {α : Type} {k : Option (Array Value) → Sem α} : (seqItems? .none >>= k) = k none := rfl
theorem DI.binds {K : Frag} {q : DI} (ok : q.ok = true) {f : Addr} {fd : FuncData} (F : L2.FunD K q.d.name q.d.qual q.d.params q.d.body q.d.scope (q.d.dvs K) (q.d.kws K) f fd) :
    ∀ m, m ≤ q.dfl.length → ∃ ds dvs, L2.Binds K fd q.ps ds ∧ L2.Vals dvs ds ∧ ∀ Hd, Reps K Hd (q.dfl.drop m) dvs := by
  intro m hm
  unfold DI.ok at ok
  simp only [Bool.and_eq_true, decide_eq_true_eq, List.isEmpty_iff, Option.isNone_iff_eq_none] at ok
  obtain ⟨⟨⟨⟨⟨⟨⟨h1, h2⟩, h3⟩, h4⟩, h5⟩, h6⟩, h7⟩, h8⟩ := ok
  obtain ⟨ws, hw⟩ := Option.isSome_iff_exists.mp h8
  have hdv : q.d.dvs K = ws.map (He.Dv.v K) := by show ((dvsOf q.dfl).getD []).map _ = _; rw [hw]; rfl
  have hlen : (q.d.dvs K).length = q.dfl.length := by rw [hdv]; simp [dvsOf_len hw]
  have hrep : ∀ Hd, Reps K Hd q.dfl (q.d.dvs K) := fun Hd => by rw [hdv]; exact dvsOf_ok hw Hd
  obtain ⟨oc, od, dV, kV, doc, pm, an, cdv, ct, osl, rfl, lk, hcd, hD, hK⟩ := F.ex
  have hps : (PySem.W.fnOf q.d.name q.d.qual q.d.params q.d.body q.d.scope dV kV doc pm an cdv ct).params.args.map (·.arg) = q.ps := rfl
  have hnp : (PySem.W.fnOf q.d.name q.d.qual q.d.params q.d.body q.d.scope dV kV doc pm an cdv ct).params.args.length = q.ps.length := by rw [← hps]; simp
  have hq : q.np = q.ps.length := by unfold DI.np DI.ps; simp
  rcases hD with ⟨e, rfl⟩ | ⟨_, T, o, its, n, rfl, lT, oT, rT⟩
  · have e0 : q.dfl = [] := by
      rw [e] at hlen
      exact List.length_eq_zero_iff.mp hlen.symm
    have e1 : q.dfl.drop m = [] := by rw [e0]; simp
    refine ⟨[], [], fun s us X hl => ?_, .nil, fun Hd => by rw [e1]; rfl⟩
    rw [List.append_nil] at hl ⊢
    refine L2.BindsTo.of_looks fun M => ?_
    obtain ⟨k, b1, _, b3⟩ := bind_gen (fd := PySem.W.fnOf q.d.name q.d.qual q.d.params q.d.body q.d.scope .none kV doc pm an cdv ct) (us := us) (its := []) h1 h2 h3 h4 h6 (by rw [hnp]; omega) (Nat.zero_le _) (by rw [hnp]; simp; omega)
    rw [b1]
    refine .of_pure ?_
    show seqItems? .none >>= k = _
    rw [seqN]
    exact b3 rfl
  · have l1 : its.length = q.dfl.length := by rw [← rT.length]; exact hlen
    refine ⟨its.drop m, (q.d.dvs K).drop m, fun s us X hl => ?_, rT.drop m, fun Hd => Reps.drop m (hrep Hd)⟩
    refine L2.BindsTo.of_looks fun M => ?_
    have l2 : us.length + (its.length - m) = q.ps.length := by simpa using hl
    obtain ⟨k, b1, b2, _⟩ := bind_gen (fd := PySem.W.fnOf q.d.name q.d.qual q.d.params q.d.body q.d.scope (.ref T) kV doc pm an cdv ct) (us := us) (its := its) h1 h2 h3 h4 h6 (by rw [hnp]; omega) (by rw [hnp, l1, ← hq]; exact h5) (by rw [hnp]; omega)
    rw [b1]
    refine L2.looks_items X lT oT (.of_pure ?_)
    rw [b2, hnp]
    have e2 : us.length + its.length - q.ps.length = m := by omega
    rw [e2, hps]
/-! ### the table -/
def tabOf (gs : List (Str × Gv)) (L : List DI) : Tab := fun f => (findD L f).bind fun q => (cSs (cS 60 ⟨q.N, q.scope, none, gs⟩) q.body).map fun b => ⟨q.np, q.N.length, q.io, b⟩
/-- what the head tells of the program -/
structure Facts (K : Frag) (mg : Str → Option Value) (gs : List (Str × Gv)) (L : List DI) : Prop where
  fn : ∀ (f : Nat) (q : DI), findD L f = some q → q.ok = true ∧ ∃ fd, L2.FunD K q.d.name q.d.qual q.d.params q.d.body q.d.scope (q.d.dvs K) (q.d.kws K) (He.fAd K q.at_) fd
  con : ∀ x d, gs.lookup x = some (.con d) → ∃ v u, mg x = some u ∧ L2.RelV v u ∧ ∀ Hd, Rep K Hd d v
  blt : ∀ x, gs.lookup x = some .blt → mg x = none
  glo : ∀ x f np io dfl, gs.lookup x = some (.fn f np io dfl) → ∃ q, findD L f = some q ∧ mg x = some (.ref (He.fAd K q.at_)) ∧ q.np = np ∧ q.dfl = dfl
theorem calls_len {rp : D → Option (List Nat)} {sub : Sub} {gs : List (Str × Gv)} {L : List DI} {k f : Nat} {q : DI} (hq : findD L f = some q) {ps : List P} (h : calls rp sub (tabOf gs L) k f ps ≠ .bad) : ps.length = q.np := by
  cases k with
  | zero => exact absurd rfl h
  | succ k =>
    simp only [calls] at h
    split at h
    · rename_i d e
      unfold tabOf at e
      rw [hq] at e
      simp only [Option.bind_some, Option.map_eq_some_iff] at e
      obtain ⟨b, _, rfl⟩ := e
      unfold runDef at h
      split at h
      · rename_i hc; exact hc.1
      · exact absurd rfl h
    · exact absurd rfl h
theorem defs_ok {P : Program} {w : World} {K : Frag} {mg : Str → Option Value} {base : Heap} {gs : List (Str × Gv)} {L : List DI} {sub : Sub} {cl : Nat → Addr} (T : Facts K mg gs L) :
    ∃ fdOf : Nat → FuncData, (∀ f q, findD L f = some q → L2.FunD K q.d.name q.d.qual q.d.params q.d.body q.d.scope (q.d.dvs K) (q.d.kws K) (He.fAd K q.at_) (fdOf f)) ∧
      ∀ k f q, findD L f = some q → FnG P w K mg base k (He.fAd K q.at_) (fdOf f) q.ps (spI ⟨K, ⟨showD, sub, calls showD sub (tabOf gs L) k⟩, cl⟩ q.np (calls showD sub (tabOf gs L) k f)) := by
  have ch : ∀ (f : Nat), ∃ fd : FuncData, ∀ (q : DI), findD L f = some q → L2.FunD K q.d.name q.d.qual q.d.params q.d.body q.d.scope (q.d.dvs K) (q.d.kws K) (He.fAd K q.at_) fd := fun f => by
    cases e : findD L f with
    | none => exact ⟨default, fun q z => by cases z⟩
    | some q =>
      obtain ⟨fd, h⟩ := (T.fn f q e).2
      exact ⟨fd, fun q' z => by cases z; exact h⟩
  obtain ⟨fdOf, hfd⟩ := Classical.axiomOfChoice ch
  refine ⟨fdOf, fun f q h => hfd f q h, fun k => ?_⟩
  induction k with
  | zero =>
    intro f q hq
    refine ⟨fun vs H Q E h => ?_, fun A outer s H args us vs Q E _ _ _ _ _ h => ?_⟩
    · rw [spI_len h]; unfold DI.np DI.ps; simp
    · obtain ⟨Hd, ps, as, _, _, h⟩ := h
      exact h.elim
  | succ k ih =>
    intro f q hq
    obtain ⟨ok, _⟩ := T.fn f q hq
    have F := hfd f q hq
    have hps : q.ps.length = q.np := by unfold DI.np DI.ps; simp
    cases hc : cSs (cS 60 ⟨q.N, q.scope, none, gs⟩) q.body with
    | none =>
      refine ⟨fun vs H Q E h => by rw [spI_len h, hps], fun A outer s H args us vs Q E _ _ _ _ _ h => ?_⟩
      obtain ⟨Hd, ps, as, _, _, h⟩ := h
      simp only [calls, tabOf, hq, Option.bind_some, hc, Option.map_none] at h
      exact h.elim
    | some b =>
      have sc : L2.FnScope q.N q.ps q.scope := by
        unfold DI.ok at ok
        simp only [Bool.and_eq_true] at ok
        exact fnScB_ok ok.1.2
      have e1 : calls showD sub (tabOf gs L) (k + 1) f = runDef ⟨showD, sub, calls showD sub (tabOf gs L) k⟩ ⟨q.np, q.N.length, q.io, b⟩ := by
        funext ps
        simp only [calls, tabOf, hq, Option.bind_some, hc, Option.map_some]
      rw [e1]
      refine fnG_of (C := ⟨K, ⟨showD, sub, calls showD sub (tabOf gs L) k⟩, cl⟩) (d := ⟨q.np, q.N.length, q.io, b⟩) F sc hps rfl fun cdv A outer s H E hgd hr => ?_
      refine cSs_ok (cS_ok (k := k) 60 ⟨q.N, q.scope, none, gs⟩ _ _ ?_) hc
      refine ⟨rfl, rfl, sc.nd, rfl, sc.kind, rfl, hr, hgd, rfl, L2.passes_of rfl, fun σ => L2.passAt (L2.takes_of rfl rfl rfl rfl) σ, fun _ => rfl, fun o z => (by cases z), fun x g hg => ?_⟩
      cases g with
      | con d => exact T.con x d hg
      | blt => exact T.blt x hg
      | fn f' np io dfl =>
        obtain ⟨q', hq', hm, hn, hd⟩ := T.glo x f' np io dfl hg
        subst hn hd
        have F' := hfd f' q' hq'
        exact ⟨_, fdOf f', q'.ps, hm, F'.kp, ih f' q' hq', fun qs h => calls_len hq' h, DI.binds (T.fn f' q' hq').1 F'⟩
end PV

set_option Elab.async false
set_option linter.all false
set_option maxRecDepth 100000
set_option maxHeartbeats 4000000
/-! PvEnd: from the core text's answer to the law itself. -/
namespace PV
open PySem PySem.Spec PyProof.Rows
section
variable {P : Program} {w : World} {K : Frag} {mg mb : Str → Option Value} {k : Nat} {fa a : Addr} {fd : FuncData} {x : Str} {sp : L2.Sp} {s₁ : Shared} {vs : List Value} {ns : List Int}
/-- the law's call, where no guard stands (as the layer's own end, for FnG) -/
theorem end_G (KX : K.In s₁.heap) (hns : s₁.heap.Ns mainGlobals mg) (hb : s₁.heap.Ns builtinsNs mb) (hbb : ∀ y : Str, y ≠ "__name__" → mb y = bootBuiltins y) (hlim : s₁.heap.NoLimit) (hgen : s₁.gens = #[])
    (hls : s₁.heap.get? a = some { cls := .type "list", data := .seq vs.toArray }) (hint : IntsAre vs ns) (hlen : ns.length ≤ sizeLine) (hrm : L2.Room k callerA)
    (hF : ∀ B : Heap, K.In B → B.Ns mainGlobals mg → FnG P w K mg B k fa fd [x] sp) (hbd : ∀ (t : Shared) (u : Value), BindsTo t fd ⟨[u], []⟩ [(x, u)])
    (hprom : ∀ H : Hp, L2.Only H → L2.SqL K H a (ns.map L2.V.int) → sp [.ref a] H (fun v _ => v = .bl true) fun _ _ _ => False) :
    codeAny (model P w) callerA (.call (.ref fa) ⟨[.ref a], []⟩)
      (fun r s' => r = .ok (.ret (.bool true)) ∧ OldK s₁.heap s'.heap ∧ s'.os = s₁.os ∧ AllBare s'.gens) s₁ := by
  have rel := L2.vals_ints hint
  have ll := hint.length
  have go : ∀ H : Hp, L2.Only H → L2.SqL K H a (ns.map L2.V.int) → L2.HOk P w H s₁.heap → (∀ c, H c ≠ none → c = a) → (H a ≠ none → K.lookup a = none) →
      codeAny (model P w) callerA (.call (.ref fa) ⟨[.ref a], []⟩)
        (fun r s' => r = .ok (.ret (.bool true)) ∧ OldK s₁.heap s'.heap ∧ s'.os = s₁.os ∧ AllBare s'.gens) s₁ := by
    intro H only sq ok alone out
    have stay : ∀ {c : Addr} {o : Obj}, s₁.heap.get? c = some o → H c = none → (L2.hidT s₁.heap H).get? c = some o :=
      fun h1 h2 => L2.hidT_get h1 h2
    have dict0 : ∀ {c : Addr} {o : Obj} {es : Array DictEntry} {ep : Nat}, s₁.heap.get? c = some o → o.data = .dict es ep → H c = none := fun {c o es ep} h1 h2 => by
      cases hc : H c with
      | none => rfl
      | some u =>
        have : c = a := alone c (by rw [hc]; simp)
        subst this
        rw [hls] at h1
        cases h1
        cases (show Data.seq vs.toArray _ = Data.dict es ep from h2)
    have names : ∀ {c : Addr} {m : Str → Option Value}, s₁.heap.Ns c m → (L2.hidT s₁.heap H).Ns c m :=
      fun {c m} ⟨o, es, ep, h1, h2, r⟩ => ⟨o, es, ep, stay h1 (dict0 h1 h2), h2, r⟩
    have kin : K.In (L2.hidT s₁.heap H) := fun c o h1 => stay (KX c o h1) (by
      cases hc : H c with
      | none => rfl
      | some u =>
        have : c = a := alone c (by rw [hc]; simp)
        subst this
        rw [out (by rw [hc]; simp)] at h1
        cases h1)
    obtain ⟨mc, l1, l2⟩ := hlim
    have hmod : L2.Mod K mg (L2.hidT s₁.heap H) := ⟨kin, names hns, ⟨mb, names hb, hbb⟩, ⟨mc, names l1, l2⟩⟩
    have hE : L2.Env0 P w K mg (L2.hidT s₁.heap H) callerA [] s₁ H :=
      ⟨rfl, hmod, fun c o h1 => L2.of_hidT h1, Nat.le_of_eq (L2.hidT_size _ _), trivial,
        fun c hc => absurd (show c ∈ ([] : List Addr) from hc) (by simp), ok, .of_eq hgen⟩
    have run := (hF _ kin (names hns)).run callerA [] s₁ H ⟨[.ref a], []⟩ [.ref a] [.ref a] _ _ rfl hrm hE (hbd s₁ (.ref a)) (.cons rfl .nil) (hprom H only sq)
    refine codeAny_mono run fun r s' h => ?_
    cases r with
    | error e =>
      obtain ⟨_, _, _, _, _, _, _, _, _, _, _, _, z⟩ := h
      exact z.elim
    | ok fl =>
      cases fl with
      | next => exact h.elim
      | brk => exact h.elim
      | cont => exact h.elim
      | ret u =>
        obtain ⟨v, H', o1, o2, o3, o4, o5, o6⟩ := h
        obtain rfl : v = .bl true := o6
        obtain rfl : u = Value.bool true := o5
        refine ⟨rfl, OldK.of_keep fun c o h1 => ?_, o1, o2⟩
        cases hc : H c with
        | none =>
          exact o3.keep c o h1 hc (fun z => absurd (show c ∈ ([] : List Addr) from z) (by simp)) (by simp)
        | some u =>
          rcases only c with z | ⟨ob, xs, z⟩
          · rw [hc] at z
            cases z
          · obtain ⟨e1, _⟩ := ok c _ z
            obtain ⟨e2, _⟩ := o4 c _ (o3.frzs c ob _ z)
            rw [h1] at e1
            cases e1
            exact e2
  cases hk : K.lookup a with
  | some o =>
    have h1 := KX a o hk
    rw [hls] at h1
    cases h1
    refine go (fun _ => none) (fun _ => .inl rfl) (.inr ⟨_, vs.toArray, _, hk, rfl, rfl, rfl, ?_, by simpa using rel⟩) (fun c u z => ?_) (fun c z => absurd rfl z) fun z => absurd rfl z
    · rw [List.size_toArray, ll]
      exact hlen
    · cases (show (none : Option L2.HO) = some u from z)
  | none =>
    refine go (fun c => if c = a then some (.frz { cls := .type "list", data := .seq vs.toArray } (.lst (ns.map L2.V.int))) else none) (fun c => ?_)
      (.inl (.inr ⟨{ cls := .type "list", data := .seq vs.toArray }, if_pos rfl⟩)) (fun c u z => ?_) (fun c z => ?_) fun _ => hk
    all_goals by_cases hc : c = a
    · exact .inr ⟨_, _, if_pos hc⟩
    · exact .inl (if_neg hc)
    · have y := (if_pos hc).symm.trans z
      cases y
      subst hc
      exact ⟨hls, by rw [List.length_map]; exact hlen, vs, _, rel, hls⟩
    · have y := (if_neg hc).symm.trans z
      cases y
    · exact hc
    · exact absurd (if_neg hc) z
end
end PV

set_option Elab.async false
set_option linter.all false
set_option maxRecDepth 100000
set_option maxHeartbeats 4000000
/-! PvHead: what the head has to tell of a program, and the law's walk by it. -/
namespace PV
open PySem PySem.Spec PyProof.Rows
/-- a program: its defs, the constants of its top, the built-in names that it uses -/
structure Pr where
  L : List DI
  cons : List (Str × D)
  blts : List Str
def fnsOf : List DI → List (Str × Gv)
  | [] => []
  | q :: L => match q.at_.2 with
    | none => (q.at_.1, .fn (codeS q.at_.1) q.np q.io q.dfl) :: fnsOf L
    | some _ => fnsOf L
def Pr.gs (p : Pr) : List (Str × Gv) := fnsOf p.L ++ (p.cons.map (fun c => (c.1, Gv.con c.2)) ++ p.blts.map (fun x => (x, Gv.blt)))
theorem fnsOf_mem {x : Str} {g : Gv} : ∀ {L : List DI}, (x, g) ∈ fnsOf L → ∃ q, q ∈ L ∧ q.at_ = (x, none) ∧ g = .fn q.code q.np q.io q.dfl
  | [], h => by simp [fnsOf] at h
  | q :: L, h => by
    simp only [fnsOf] at h
    have more : (x, g) ∈ fnsOf L → ∃ q', q' ∈ (q :: L) ∧ q'.at_ = (x, none) ∧ g = .fn q'.code q'.np q'.io q'.dfl := fun h => by
      obtain ⟨q', h1, h2, h3⟩ := fnsOf_mem h
      exact ⟨q', List.mem_cons_of_mem _ h1, h2, h3⟩
    split at h
    · rename_i e
      rcases List.mem_cons.mp h with z | z
      · cases z
        refine ⟨q, List.mem_cons_self .., by rw [← e], ?_⟩
        unfold DI.code codeP
        rw [e]
      · exact more z
    · exact more h
/-- its form -/
def Pr.ok (p : Pr) : Bool := p.L.all DI.ok && decide ((p.L.map DI.code).Nodup)
theorem mem_look {β : Type} {x : Str} {b : β} : ∀ {l : List (Str × β)}, l.lookup x = some b → (x, b) ∈ l
  | [], h => by simp at h
  | (y, c) :: l, h => by
    rw [List.lookup_cons] at h
    split at h
    · rename_i e
      obtain rfl := eq_of_beq e
      cases h
      exact List.mem_cons_self ..
    · exact List.mem_cons_of_mem _ (mem_look h)
theorem gs_mem {p : Pr} {x : Str} {g : Gv} (h : p.gs.lookup x = some g) : (x, g) ∈ fnsOf p.L ∨ (∃ d, (x, d) ∈ p.cons ∧ g = .con d) ∨ (x ∈ p.blts ∧ g = .blt) := by
  have m := mem_look h
  unfold Pr.gs at m
  rcases List.mem_append.mp m with z | z
  · exact .inl z
  · rcases List.mem_append.mp z with z | z
    · obtain ⟨c, hc, e⟩ := List.mem_map.mp z
      cases e
      exact .inr (.inl ⟨c.2, hc, rfl⟩)
    · obtain ⟨c, hc, e⟩ := List.mem_map.mp z
      cases e
      exact .inr (.inr ⟨hc, rfl⟩)
/-! ### the Hook -/
def conKB (K : Frag) (x : Str) (d : D) : Bool := match PySem.W.nsIn K mainGlobals x with
  | some (some u) => conB K d u
  | _ => false
def chkB (p : Pr) (K : Frag) : Bool := (p.L.all fun q => q.at_.2.isSome || (He.Fa.glo q.at_.1).ok K) && (p.cons.all fun c => conKB K c.1 c.2) && (p.blts.all fun x => (He.Fa.free x).ok K)
def obsX (p : Pr) (K : Frag) : He.AlD := (chkB p K && (p.L.all fun q => q.d.ok K), p.L.map fun q => He.fnW K q.at_)
def valX (p : Pr) : He.AlD := (true, p.L.map fun q => q.d.val)
def obsXG (n : Nat) (p : Pr) (g : Addr → Option Obj) : He.AlD := obsX p (He.frG g (He.asD g n))
def hookX (n : Nat) (p : Pr) : PySem.W.Hook where
  α := He.AlD
  obs := fun s => obsXG n p s.heap.get?
  val := fun _ => valX p
  says := fun _ h => ∃ K : Frag, K.In h ∧ obsX p K = valX p
  of := fun _ _ e => ⟨_, He.frG_in, e⟩
  keeps := fun _ _ _ ⟨K, hK, c⟩ kp => ⟨K, PySem.W.Frag.In.keeps hK kp, c⟩
theorem obsXG_eq {n : Nat} {p : Pr} {g : Addr → Option Obj} {s : Shared} (h : ∀ a, g a = s.heap.get? a) : obsXG n p g = (hookX n p).obs s := by
  obtain rfl : g = s.heap.get? := funext h
  rfl
theorem facts_of {p : Pr} {K : Frag} {h : Heap} {mg : Str → Option Value} (ok : p.ok = true) (X : K.In h) (G : h.Ns mainGlobals mg) (c : obsX p K = valX p) : Facts K mg p.gs p.L := by
  have c1 : (chkB p K && (p.L.all fun q => q.d.ok K)) = true := congrArg (fun z : He.AlD => z.1) c
  have c2 : (p.L.map fun q => He.fnW K q.at_) = p.L.map fun q => q.d.val := congrArg (fun z : He.AlD => z.2) c
  unfold chkB at c1
  unfold Pr.ok at ok
  simp only [Bool.and_eq_true, List.all_eq_true, decide_eq_true_eq] at c1 ok
  obtain ⟨⟨⟨g1, g2⟩, g3⟩, g4⟩ := c1
  obtain ⟨ok, nd⟩ := ok
  refine ⟨fun f q hq => ⟨ok q (findD_mem hq), ?_⟩, fun x d hx => ?_, fun x hx => ?_, fun x f np io dfl hx => ?_⟩
  · exact He.DefD.funD (d := q.d) (List.map_inj_left.mp c2 q (findD_mem hq)) (g4 q (findD_mem hq))
  · rcases gs_mem hx with z | ⟨d', z, e⟩ | ⟨_, e⟩
    · obtain ⟨q, _, _, e⟩ := fnsOf_mem z
      cases e
    · cases e
      have k := g2 _ z
      unfold conKB at k
      split at k
      · rename_i u hu
        obtain ⟨v, h1, h2⟩ := conB_ok _ _ k
        exact ⟨v, u, PySem.W.mg_of X G hu, h1, h2⟩
      · cases k
    · cases e
  · rcases gs_mem hx with z | ⟨d', _, e⟩ | ⟨z, _⟩
    · obtain ⟨q, _, _, e⟩ := fnsOf_mem z
      cases e
    · cases e
    · exact He.free_ok X G (g3 _ z)
  · rcases gs_mem hx with z | ⟨d', _, e⟩ | ⟨_, e⟩
    · obtain ⟨q, h1, h2, e⟩ := fnsOf_mem z
      simp only [Gv.fn.injEq] at e
      obtain ⟨e1, e2, e3, e4⟩ := e
      subst e1 e2 e4
      refine ⟨q, findD_of nd h1, ?_, rfl, rfl⟩
      have k := g1 q h1
      rw [h2] at k ⊢
      exact He.glo_ok X G (by simpa using k)
    · cases e
    · cases e
/-- the law: the plain statement about its core text, then the law's own -/
theorem walk_X {l : PySem.W.OpenLaw} {n k hn' : Nat} {q : Program} {loose : List Str} {XP : (Str → Option Value) → Heap → Prop} {d : DefRec} {p : Pr} {i : Nat} {qi : DI} {x : Str} {sub : Sub}
    (hn : l.most = some n) (hn2 : n ≤ sizeLine) (hdf : d.params.defaults = []) (hr : L2.Room k callerA) (ok : p.ok = true)
    (hi : findD p.L i = some qi) (hat : qi.at_ = (d.name, none)) (hps : qi.ps = [x]) (hd0 : qi.dfl = [])
    (plain : ∀ ns : List Int, ns.length ≤ n → (∀ z ∈ ns, Builtin.Int.intBits z ≤ 1048576) → ∃ io, calls showD sub (tabOf p.gs p.L) k i [.val (.scr ns)] = .ok (.val (.bl true)) io) :
    PySem.W.WalkO q loose XP (hookX hn' p).says l.row.toRowW d [] (fun f vs => PySem.call f vs) := by
  refine Att.attach_callB hn hdf fun w s₀ s₁ mg mb fa o pm cd doc a vs ns G Y ho hd hcd hmg hobj hints hlen hbits hg => ?_
  obtain ⟨K, KX, c⟩ := Y
  have T := facts_of ok KX G.T.g c
  obtain ⟨fd, F, _⟩ : ∃ fd : FuncData, L2.FunD K qi.d.name qi.d.qual qi.d.params qi.d.body qi.d.scope (qi.d.dvs K) (qi.d.kws K) (He.fAd K qi.at_) fd ∧ True := by
    obtain ⟨fd, h⟩ := (T.fn i qi hi).2
    exact ⟨fd, h, trivial⟩
  have efa : fa = He.fAd K qi.at_ := by
    rw [hat]
    unfold chkB at *
    have c1 : (chkB p K && (p.L.all fun q => q.d.ok K)) = true := congrArg (fun z : He.AlD => z.1) c
    unfold chkB at c1
    simp only [Bool.and_eq_true, List.all_eq_true] at c1
    have kk := c1.1.1.1 qi (findD_mem hi)
    rw [hat] at kk
    have e := hmg.symm.trans (He.glo_ok KX G.T.g (by simpa using kk))
    cases e
    rfl
  subst efa
  have hq1 : qi.np = 1 := by
    have : qi.ps.length = qi.np := by unfold DI.np DI.ps; simp
    rw [hps] at this
    exact this.symm
  refine end_G (k := k) (fa := He.fAd K qi.at_) (fd := fd) (x := x) (sp := spI ⟨K, ⟨showD, sub, calls showD sub (tabOf p.gs p.L) k⟩, fun _ => 0⟩ 1 (calls showD sub (tabOf p.gs p.L) k i)) KX G.T.g G.T.b G.T.builtins G.T.nolimit hg hobj hints (Nat.le_trans hlen hn2) hr ?_ ?_ ?_
  · intro B hK hN
    obtain ⟨fdOf, h1, h2⟩ := defs_ok (P := l.prog) (w := w) (base := B) (sub := sub) (cl := fun _ => 0) (facts_of ok hK hN c)
    have h3 := h2 k i qi hi
    have e : fdOf i = fd := by
      obtain ⟨oc, od, dV, kV, doc, pm, an, cdv, ct, osl, e1, lk, _⟩ := F.ex
      obtain ⟨oc', od', dV', kV', doc', pm', an', cdv', ct', osl', e1', lk', _⟩ := (h1 i qi hi).ex
      rw [lk] at lk'
      cases lk'
      rfl
    rw [e, hps, hq1] at h3
    exact h3
  · intro s u
    obtain ⟨oc, od, dV, kV, doc, pm, an, cdv, ct, osl, e1, lk, hcd', hD, hK⟩ := F.ex
    subst e1
    have hdv : qi.d.dvs K = [] := by
      show ((dvsOf qi.dfl).getD []).map _ = []
      rw [hd0]
      rfl
    rcases hD with ⟨_, rfl⟩ | ⟨z, _⟩
    · have okq := (T.fn i qi hi).1
      unfold DI.ok at okq
      simp only [Bool.and_eq_true, decide_eq_true_eq, List.isEmpty_iff, Option.isNone_iff_eq_none] at okq
      obtain ⟨⟨⟨⟨⟨⟨⟨h1, h2⟩, h3⟩, h4⟩, h5⟩, h6⟩, h7⟩, h8⟩ := okq
      obtain ⟨kk, b1, _, b3⟩ := bind_gen (fd := PySem.W.fnOf qi.d.name qi.d.qual qi.d.params qi.d.body qi.d.scope .none kV doc pm an cdv ct) (us := [u]) (its := []) h1 h2 h3 h4 h6 (by show 1 ≤ qi.np; rw [hq1]; exact Nat.le_refl _) (Nat.zero_le _) (by show qi.np ≤ 1; rw [hq1]; exact Nat.le_refl _)
      refine BindsTo.of_eq ?_
      rw [b1]
      show seqItems? .none >>= kk = _
      rw [seqN, b3 rfl]
      show pure (qi.ps.zip [u]) = _
      rw [hps]
      rfl
    · exact absurd hdv z
  · intro H only sq
    obtain ⟨io, hp⟩ := plain ns hlen hbits
    have rsc : ∀ Hd : Hp, L2.SqL K Hd a (ns.map L2.V.int) → Rep K Hd (.scr ns) (.ref a) := fun Hd z => ⟨a, rfl, z⟩
    refine ⟨H, [.val (.scr ns)], [], rfl, ⟨Le.refl H, ⟨some (.ref a), [], [], [], rfl, ⟨_, rfl, rfl, rsc H sq⟩, ⟨rfl, rfl⟩, rfl⟩, List.nodup_nil, fun b hb => by cases hb⟩, ?_⟩
    rw [hp]
    intro v H' Hd' as' _ g
    obtain ⟨v', a1, a2, ew, ea, rp, g1⟩ := (show Good K Hd' H' ([io] ++ [some (.val (.bl true))]) ([_] ++ [some v]) as' from g).last
    cases ew
    exact rp.2
end PV

set_option Elab.async false
set_option linter.all false
set_option maxRecDepth 100000
set_option maxHeartbeats 4000000
/-! PvProg: a program's defs, constants and built-in names, read off its text. -/
namespace PV
open PySem
/-- the names of comprehensions within an expression -/
def eN : Nat → Expr → List Str
  | 0, _ => []
  | n + 1, e => match e with
    | .ListComp el gs _ _ => (gs.flatMap fun g => tgN g.target ++ eN n g.iter ++ g.ifs.flatMap (eN n)) ++ eN n el
    | .BinOp a _ b _ => eN n a ++ eN n b
    | .UnaryOp _ a _ => eN n a
    | .BoolOp _ vs _ => vs.flatMap (eN n)
    | .IfExp a b c _ => eN n a ++ eN n b ++ eN n c
    | .Tuple es _ _ => es.flatMap (eN n)
    | .List es _ => es.flatMap (eN n)
    | .Compare a _ bs _ => eN n a ++ bs.flatMap (eN n)
    | .Subscript a b _ => eN n a ++ eN n b
    | .Slice a b c _ => (a.map (eN n)).getD [] ++ (b.map (eN n)).getD []
    | .Call f as _ _ => eN n f ++ as.flatMap (eN n)
    | .Attribute a _ _ => eN n a
    | _ => []
def sN : Nat → Stmt → List Str
  | 0, _ => []
  | n + 1, s => match s with
    | .Assign _ v _ => eN n v
    | .AugAssign _ _ v _ => eN n v
    | .Expr v _ => eN n v
    | .Return (some v) _ => eN n v
    | .If t a b _ => eN n t ++ a.flatMap (sN n) ++ b.flatMap (sN n)
    | .For _ it b _ _ => eN n it ++ b.flatMap (sN n)
    | .While t b _ _ => eN n t ++ b.flatMap (sN n)
    | _ => []
def constOf : Nat → Expr → Option D
  | 0, _ => none
  | n + 1, e => match e with
    | .Constant c _ _ => cCon c
    | .Tuple es _ _ => (es.mapM (constOf n)).map .tup
    | _ => none
def isPot (args : Arguments) : Bool := match args.args with
  | a :: _ => a.arg == ("_law_pot" : Str)
  | [] => false
def diOf : Stmt → Option DI
  | .FunctionDef nm args body _ _ _ scope _ _ _ => some ⟨(nm, none), nm, nm, args, body, scope,
      (args.args.map (·.arg) ++ (scope.names.filterMap fun (n, k) => if k == .local || k == .cell then some n else none) ++ body.flatMap (sN 40)).eraseDups, isPot args, args.defaults.filterMap (constOf 9)⟩
  | _ => none
def conOf : Stmt → Option (Str × D)
  | .Assign [.Name x _] v _ => if x == ("__name__" : Str) then none else (constOf 9 v).map fun d => (x, d)
  | _ => none
/-- the names that the top binds -/
def topN : Stmt → List Str
  | .FunctionDef nm _ _ _ _ _ _ _ _ _ => [nm]
  | .ClassDef nm _ _ _ _ _ _ _ _ _ _ => [nm]
  | .Assign [.Name x _] _ _ => if x == ("__name__" : Str) then [] else [x]
  | _ => []
def bltN : List Str := ["isinstance", "int", "bool", "str", "tuple", "list", "dict", "len", "abs", "sum", "max", "min", "sorted", "all", "any", "repr", "range", "zip", "enumerate"]
def prOf (body : List Stmt) : Pr := ⟨body.filterMap diOf, body.filterMap conOf, bltN⟩
def looseOf (body : List Stmt) : List Str := (body.flatMap topN).filter fun x => !(x == ("law" : Str))
end PV

set_option Elab.async false
set_option linter.all false
set_option maxRecDepth 100000
/-! PvWp: a calculus over the core text: what it yields. -/
namespace PV
/-- it ends well, and so -/
@[irreducible] def Y {σ α : Type} (x : Out σ α) (Q : α → σ → Prop) : Prop := ∃ a s, x = .ok a s ∧ Q a s
section
variable {σ α β : Type}
theorem Y.ex {x : Out σ α} {Q : α → σ → Prop} (h : Y x Q) : ∃ a s, x = .ok a s ∧ Q a s := by
  unfold Y at h
  exact h
theorem Y.mk {x : Out σ α} {Q : α → σ → Prop} (h : ∃ a s, x = .ok a s ∧ Q a s) : Y x Q := by
  unfold Y
  exact h
theorem Y.ok {a : α} {s : σ} {Q : α → σ → Prop} (h : Q a s) : Y (.ok a s) Q := .mk ⟨a, s, rfl, h⟩
theorem Y.bind {x : Out σ α} {f : α → σ → Out σ β} {Q : β → σ → Prop} (h : Y x fun a s => Y (f a s) Q) : Y (x.bind f) Q := by
  obtain ⟨a, s, e, h⟩ := h.ex
  rw [e]
  exact h
theorem Y.mono {x : Out σ α} {P Q : α → σ → Prop} (h : Y x P) (i : ∀ a s, P a s → Q a s) : Y x Q := by
  obtain ⟨a, s, e, h⟩ := h.ex
  exact .mk ⟨a, s, e, i a s h⟩
theorem Y.eq {x : Out σ α} {a : α} {s : σ} (h : Y x fun b t => b = a ∧ t = s) : x = .ok a s := by
  obtain ⟨b, t, e, rfl, rfl⟩ := h.ex
  exact e
theorem Y.of_eq {x : Out σ α} {a : α} {s : σ} {Q : α → σ → Prop} (e : x = .ok a s) (h : Q a s) : Y x Q := .mk ⟨a, s, e, h⟩
end
variable {F : Env} {ρ : Rho} {rp : D → Option (List Nat)} {sub : Sub} {T : Tab}
/-! ### the evaluators, sealed -/
@[irreducible] def xE (F : Env) (e : CE) (ρ : Rho) : Out Rho P := ev F e ρ
@[irreducible] def xA (F : Env) (e : CEs) (ρ : Rho) : Out Rho (List D) := evA F e ρ
@[irreducible] def xPs (F : Env) (e : CEs) (ρ : Rho) : Out Rho (List P) := evPs F e ρ
@[irreducible] def xI (F : Env) (e : CI) (ρ : Rho) : Out Rho (List D) := evI F e ρ
@[irreducible] def xS (F : Env) (e : CS) (ρ : Rho) : Out Rho Fl := evS F e ρ
@[irreducible] def xSs (F : Env) (e : CSs) (ρ : Rho) : Out Rho Fl := evSs F e ρ
theorem xE_eq : @xE = @ev := by funext F e ρ; unfold xE; rfl
theorem xA_eq : @xA = @evA := by funext F e ρ; unfold xA; rfl
theorem xPs_eq : @xPs = @evPs := by funext F e ρ; unfold xPs; rfl
theorem xI_eq : @xI = @evI := by funext F e ρ; unfold xI; rfl
theorem xS_eq : @xS = @evS := by funext F e ρ; unfold xS; rfl
theorem xSs_eq : @xSs = @evSs := by funext F e ρ; unfold xSs; rfl
/-! ### defs -/
/-- what stands around at a level -/
def En (rp : D → Option (List Nat)) (sub : Sub) (T : Tab) (k : Nat) : Env := ⟨rp, sub, calls rp sub T k⟩
theorem Y.defA {k f : Nat} {d : Def} {ps : List P} {Q : P → Option P → Prop} (hT : T f = some d) (hn : ps.length = d.np) (hs : (decide (d.np ≤ d.ns) && (!d.io || (d.body.keep0 && decide (0 < d.np)))) = true)
    (h : Y (xSs (En rp sub T k) d.body (ps.map some ++ List.replicate (d.ns - d.np) none)) fun f ρ => Q (match f with | .nx => .val .non | .rt p => p) (if d.io then (ρ[0]?).join else none)) : Y (calls rp sub T (k + 1) f ps) Q := by
  simp only [calls, hT]
  unfold runDef
  simp only [Bool.and_eq_true, Bool.or_eq_true, Bool.not_eq_true', decide_eq_true_eq] at hs
  rw [if_pos ⟨hn, hs.1, fun z => by
    rcases hs.2 with y | y
    · rw [z] at y; cases y
    · exact y⟩]
  obtain ⟨a, s, e, h⟩ := h.ex
  simp only [xSs_eq] at e
  have e : evSs ⟨rp, sub, calls rp sub T k⟩ d.body (ps.map some ++ List.replicate (d.ns - d.np) none) = .ok a s := e
  rw [e]
  exact .mk ⟨_, _, rfl, h⟩
/-- how a def's body ends -/
def Ret (Q : P → Prop) (f : Fl) (_ : Rho) : Prop := match f with
  | .nx => Q (.val .non)
  | .rt p => Q p
theorem Ret.nx {Q : P → Prop} (h : Q (.val .non)) : Ret Q .nx ρ := h
theorem Ret.rt {Q : P → Prop} {p : P} (h : Q p) : Ret Q (.rt p) ρ := h
def RetM (Q : P → P → Prop) (f : Fl) (ρ : Rho) : Prop := match f with
  | .nx => ∃ q, ρ[0]? = some (some q) ∧ Q (.val .non) q
  | .rt p => ∃ q, ρ[0]? = some (some q) ∧ Q p q
theorem RetM.nx {Q : P → P → Prop} {q : P} (e : ρ[0]? = some (some q)) (h : Q (.val .non) q) : RetM Q .nx ρ := ⟨q, e, h⟩
theorem RetM.rt {Q : P → P → Prop} {p q : P} (e : ρ[0]? = some (some q)) (h : Q p q) : RetM Q (.rt p) ρ := ⟨q, e, h⟩
/-- a def that changes nothing -/
theorem Y.def {k f np ns : Nat} {b : CSs} {ps : List P} {Q : P → Prop} {ρ : Rho} (hT : T f = some ⟨np, ns, false, b⟩) (hn : ps.length = np) (hs : decide (np ≤ ns) = true) (hρ : ps.map some ++ List.replicate (ns - np) none = ρ)
    (h : Y (xSs (En rp sub T k) b ρ) (Ret Q)) : Y (calls rp sub T (k + 1) f ps) fun p _ => Q p := by
  subst hρ
  refine Y.defA hT hn (by simp [hs]) (h.mono fun f ρ q => ?_)
  cases f <;> exact q
/-- a def that may change its first argument -/
theorem Y.defM {k f np ns : Nat} {b : CSs} {ps : List P} {Q : P → P → Prop} {ρ : Rho} (hT : T f = some ⟨np, ns, true, b⟩) (hn : ps.length = np) (hs : (decide (np ≤ ns) && (b.keep0 && decide (0 < np))) = true) (hρ : ps.map some ++ List.replicate (ns - np) none = ρ)
    (h : Y (xSs (En rp sub T k) b ρ) (RetM Q)) : Y (calls rp sub T (k + 1) f ps) fun p io => ∃ q, io = some q ∧ Q p q := by
  subst hρ
  refine Y.defA hT hn (by simpa using hs) (h.mono fun f ρ q => ?_)
  cases f <;> (obtain ⟨x, e, q⟩ := q; exact ⟨x, by simp [e], q⟩)
/-- what is held, made plain -/
inductive FrIs : P → D → Prop
  | val {d : D} : FrIs (.val d) d
  | lst {ps : List P} : FrIs (.lst ps) (.lst (frs ps))
theorem FrIs.eq {p : P} {d : D} (h : FrIs p d) : p.fr = d := by cases h <;> rfl
/-- .. of several -/
inductive FrsIs : List P → List D → Prop
  | nil : FrsIs [] []
  | cons {p : P} {d : D} {ps : List P} {ds : List D} (h : FrIs p d) (hs : FrsIs ps ds) : FrsIs (p :: ps) (d :: ds)
theorem FrsIs.eq {ps : List P} {ds : List D} (h : FrsIs ps ds) : frs ps = ds := by
  induction h with
  | nil => rfl
  | cons h _ ih => simp only [frs, h.eq, ih]
/-! ### statements -/
/-- what follows a statement -/
def Kn (F : Env) (ss : CSs) (Q : Fl → Rho → Prop) (f : Fl) (ρ : Rho) : Prop := match f with
  | .nx => Y (xSs F ss ρ) Q
  | .rt p => Q (.rt p) ρ
theorem Kn.nx {ss : CSs} {Q : Fl → Rho → Prop} (h : Y (xSs F ss ρ) Q) : Kn F ss Q .nx ρ := h
theorem Kn.rt {ss : CSs} {Q : Fl → Rho → Prop} {p : P} (h : Q (.rt p) ρ) : Kn F ss Q (.rt p) ρ := h
theorem Y.nil {Q : Fl → Rho → Prop} (h : Q .nx ρ) : Y (xSs F .nil ρ) Q := .mk ⟨_, _, by simp only [xE_eq, xA_eq, xPs_eq, xI_eq, xS_eq, xSs_eq, evSs], h⟩
theorem Y.cons {s : CS} {ss : CSs} {Q : Fl → Rho → Prop} (h : Y (xS F s ρ) (Kn F ss Q)) : Y (xSs F (.cons s ss) ρ) Q := by
  simp only [xE_eq, xA_eq, xPs_eq, xI_eq, xS_eq, xSs_eq] at *
  simp only [evSs]
  refine Y.bind (h.mono fun f ρ1 q => ?_)
  cases f with
  | nx =>
    have q : Y (xSs F ss ρ1) Q := q
    rw [xSs_eq] at q
    exact q
  | rt p => exact Y.ok q
theorem setP_ok {i : Nat} {p : P} (h : i < ρ.length) : setP ρ i p = .ok .nx (ρ.set i (some p)) := by unfold setP; rw [if_pos h]
theorem Y.asg {i : Nat} {e : CE} {Q : Fl → Rho → Prop} (h : Y (xE F e ρ) fun p ρ1 => i < ρ1.length ∧ Q .nx (ρ1.set i (some p))) : Y (xS F (.asg i e) ρ) Q := by
  simp only [xE_eq, xA_eq, xPs_eq, xI_eq, xS_eq, xSs_eq] at *
  simp only [evS]
  refine Y.bind (h.mono fun p ρ1 ⟨q1, q2⟩ => ?_)
  rw [setP_ok q1]
  exact Y.ok q2
theorem Y.par {i j : Nat} {e f : CE} {Q : Fl → Rho → Prop} (hij : (decide (i ≠ j)) = true) (h : Y (xE F e ρ) fun p ρ1 => Y (xE F f ρ1) fun q ρ2 => i < ρ2.length ∧ j < ρ2.length ∧ Q .nx ((ρ2.set i (some p)).set j (some q))) : Y (xS F (.par i j e f) ρ) Q := by
  simp only [xE_eq, xA_eq, xPs_eq, xI_eq, xS_eq, xSs_eq] at *
  simp only [evS, evPs]
  refine Y.bind ?_
  refine Y.bind (h.mono fun p ρ1 h1 => ?_)
  refine Y.bind (Y.bind (h1.mono fun q ρ2 ⟨l1, l2, h2⟩ => ?_))
  refine Y.bind (Y.ok (Y.ok (Y.ok ?_)))
  simp only
  rw [if_pos hij]
  refine Y.bind ?_
  rw [setP_ok l1]
  refine Y.ok ?_
  rw [setP_ok (by simpa using l2)]
  exact Y.ok h2
theorem Y.asg2 {a b : CT} {e : CE} {Q : Fl → Rho → Prop} (h : Y (xE F e ρ) fun p ρ1 => ∃ d ρ2, FrIs p d ∧ setT (.two a b) d ρ1 = some ρ2 ∧ Q .nx ρ2) : Y (xS F (.asg2 a b e) ρ) Q := by
  simp only [xE_eq, xA_eq, xPs_eq, xI_eq, xS_eq, xSs_eq] at *
  simp only [evS]
  refine Y.bind (h.mono fun p ρ1 ⟨d, ρ2, q0, q1, q2⟩ => ?_)
  rw [q0.eq, q1]
  exact Y.ok q2
theorem Y.put {i : Nat} {ix e : CE} {Q : Fl → Rho → Prop} (h : Y (xE F e ρ) fun p ρ1 => held ρ1 i = true ∧ Y (xE F ix ρ1) fun k ρ2 => ∃ n ps, k = .val (.int n) ∧ ρ2[i]? = some (some (.lst ps)) ∧ 0 ≤ n ∧ n.toNat < ps.length ∧ Q .nx (ρ2.set i (some (.lst (ps.set n.toNat p))))) : Y (xS F (.put i ix e) ρ) Q := by
  simp only [xE_eq, xA_eq, xPs_eq, xI_eq, xS_eq, xSs_eq] at *
  simp only [evS]
  refine Y.bind (h.mono fun p ρ1 ⟨q1, q2⟩ => ?_)
  simp only [q1, Bool.not_true, Bool.false_eq_true, if_false]
  refine Y.bind (q2.mono fun k ρ2 ⟨n, ps, e1, e2, e3, e4, q3⟩ => ?_)
  subst e1
  rw [e2]
  simp only [decide_eq_true e3, decide_eq_true e4, Bool.and_true, if_true]
  exact Y.ok q3
theorem Y.app {i : Nat} {e : CE} {Q : Fl → Rho → Prop} (hh : held ρ i = true) (h : Y (xE F e ρ) fun p ρ1 => ∃ ps, ρ1[i]? = some (some (.lst ps)) ∧ ps.length < line ∧ Q .nx (ρ1.set i (some (.lst (ps ++ [p]))))) : Y (xS F (.app i e) ρ) Q := by
  simp only [xE_eq, xA_eq, xPs_eq, xI_eq, xS_eq, xSs_eq] at *
  simp only [evS, hh, Bool.not_true, Bool.false_eq_true, if_false]
  refine Y.bind (h.mono fun p ρ1 ⟨ps, q1, q2, q3⟩ => ?_)
  rw [q1]
  simp only [decide_eq_true q2, if_true]
  exact Y.ok q3
theorem Y.ext {i : Nat} {e : CE} {Q : Fl → Rho → Prop} (hh : held ρ i = true) (h : Y (xE F e ρ) fun p ρ1 => ∃ ds ps, FrIs p (.lst ds) ∧ ρ1[i]? = some (some (.lst ps)) ∧ ps.length + ds.length ≤ line ∧ Q .nx (ρ1.set i (some (.lst (ps ++ vals ds))))) : Y (xS F (.ext i e) ρ) Q := by
  simp only [xE_eq, xA_eq, xPs_eq, xI_eq, xS_eq, xSs_eq] at *
  simp only [evS, hh, Bool.not_true, Bool.false_eq_true, if_false]
  refine Y.bind (h.mono fun p ρ1 ⟨ds, ps, q0, q1, q2, q3⟩ => ?_)
  rw [q0.eq, q1]
  simp only [decide_eq_true q2, if_true]
  exact Y.ok q3
theorem Y.exp {e : CE} {Q : Fl → Rho → Prop} (h : Y (xE F e ρ) fun _ ρ1 => Q .nx ρ1) : Y (xS F (.exp e) ρ) Q := by
  simp only [xE_eq, xA_eq, xPs_eq, xI_eq, xS_eq, xSs_eq] at *
  simp only [evS]
  exact Y.bind (h.mono fun p ρ1 q => Y.ok q)
def isVar : CE → Bool
  | .var _ => true
  | _ => false
theorem Y.ret {e : CE} {Q : Fl → Rho → Prop} (hv : isVar e = false) (h : Y (xE F e ρ) fun p ρ1 => Q (.rt p) ρ1) : Y (xS F (.ret e) ρ) Q := by
  cases e <;> first | (cases hv; done) | (simp only [xE_eq, xA_eq, xPs_eq, xI_eq, xS_eq, xSs_eq, evS] at *; exact Y.bind (h.mono fun p ρ1 q => Y.ok q))
theorem Y.retV {i : Nat} {p : P} {Q : Fl → Rho → Prop} (hi : ρ[i]? = some (some p)) (h : Q (.rt p) (ρ.set i none)) : Y (xS F (.ret (.var i)) ρ) Q := by
  simp only [xE_eq, xA_eq, xPs_eq, xI_eq, xS_eq, xSs_eq] at *
  simp only [evS, hi]
  exact Y.ok h
theorem Y.pass {Q : Fl → Rho → Prop} (h : Q .nx ρ) : Y (xS F .pass ρ) Q := .mk ⟨_, _, by simp only [xE_eq, xA_eq, xPs_eq, xI_eq, xS_eq, xSs_eq, evS], h⟩
/-- a test's way -/
theorem Y.onB {α : Type} {b : Bool} {x y : Out Rho α} {Q : α → Rho → Prop} (h1 : b = true → Y x Q) (h2 : b = false → Y y Q) : Y (onB (.val (.bl b)) x y) Q := by
  cases b with
  | true => exact h1 rfl
  | false => exact h2 rfl
theorem Y.onTe {α : Type} {b : Bool} {x y : Out Rho α} {Q : α → Rho → Prop} (e : b = true) (h : Y x Q) : Y (PV.onB (.val (.bl b)) x y) Q := by rw [e]; exact h
theorem Y.onFe {α : Type} {b : Bool} {x y : Out Rho α} {Q : α → Rho → Prop} (e : b = false) (h : Y y Q) : Y (PV.onB (.val (.bl b)) x y) Q := by rw [e]; exact h
theorem Y.onT {α : Type} {x y : Out Rho α} {Q : α → Rho → Prop} (h : Y x Q) : Y (PV.onB (.val (.bl true)) x y) Q := h
theorem Y.onF {α : Type} {x y : Out Rho α} {Q : α → Rho → Prop} (h : Y y Q) : Y (PV.onB (.val (.bl false)) x y) Q := h
theorem Y.if {t : CE} {a b : CSs} {Q : Fl → Rho → Prop} (h : Y (xE F t ρ) fun p ρ1 => Y (PV.onB p (xSs F a ρ1) (xSs F b ρ1)) Q) : Y (xS F (.if_ t a b) ρ) Q := by
  simp only [xE_eq, xA_eq, xPs_eq, xI_eq, xS_eq, xSs_eq] at *
  simp only [evS]
  exact Y.bind h
/-- one turn of a for -/
def turnF (F : Env) (t : CT) (b : CSs) (d : D) (ρ : Rho) : Out Rho Fl := match setT t d ρ with
  | some ρ2 => xSs F b ρ2
  | none => .bad
theorem Y.for {t : CT} {it : CI} {b : CSs} {Q : Fl → Rho → Prop} (h : Y (xI F it ρ) fun ds ρ1 => Y (loopF (turnF F t b) ds ρ1) Q) : Y (xS F (.for_ t it b) ρ) Q := by
  have e : turnF F t b = fun d ρ => match setT t d ρ with
    | some ρ2 => evSs F b ρ2
    | none => .bad := by
    funext d ρ
    unfold turnF
    simp only [xSs_eq]
  rw [e] at h
  simp only [xE_eq, xA_eq, xPs_eq, xI_eq, xS_eq, xSs_eq] at *
  simp only [evS]
  exact Y.bind h
theorem Y.turnF {t : CT} {b : CSs} {d : D} {ρ2 : Rho} {Q : Fl → Rho → Prop} (h1 : setT t d ρ = some ρ2) (h : Y (xSs F b ρ2) Q) : Y (PV.turnF F t b d ρ) Q := by
  unfold PV.turnF
  rw [h1]
  exact h
theorem Y.loopF_nil {turn : D → Rho → Out Rho Fl} {Q : Fl → Rho → Prop} (h : Q .nx ρ) : Y (loopF turn [] ρ) Q := Y.ok h
/-- a for whose turns go on: an invariant by what is left -/
theorem Y.loopF {turn : D → Rho → Out Rho Fl} {Q : Fl → Rho → Prop} (I : List D → Rho → Prop) : ∀ (ds : List D) (ρ : Rho), I ds ρ → (∀ d ds ρ, I (d :: ds) ρ → Y (turn d ρ) fun f ρ1 => match f with | .nx => I ds ρ1 | .rt p => Q (.rt p) ρ1) → (∀ ρ, I [] ρ → Q .nx ρ) → Y (loopF turn ds ρ) Q
  | [], ρ, h0, _, h2 => Y.ok (h2 ρ h0)
  | d :: ds, ρ, h0, h1, h2 => by
    show Y ((turn d ρ).bind _) Q
    refine Y.bind ((h1 d ds ρ h0).mono fun f ρ1 q => ?_)
    cases f with
    | nx => exact Y.loopF I ds ρ1 q h1 h2
    | rt p => exact Y.ok q
theorem Y.while {t : CE} {b : CSs} {Q : Fl → Rho → Prop} (h : Y (loopW (xE F t) (xSs F b) fuel ρ) Q) : Y (xS F (.while_ t b) ρ) Q := by
  simp only [xE_eq, xA_eq, xPs_eq, xI_eq, xS_eq, xSs_eq] at *
  simp only [evS]
  exact h
/-! ### expressions -/
theorem Y.var {i : Nat} {d : D} {Q : P → Rho → Prop} (hi : ρ[i]? = some (some (.val d))) (h : Q (.val d) ρ) : Y (xE F (.var i) ρ) Q := by
  simp only [xE_eq, xA_eq, xPs_eq, xI_eq, xS_eq, xSs_eq] at *
  simp only [ev, rdVar, hi]
  exact Y.ok h
theorem Y.varL {i : Nat} {ps : List P} {Q : P → Rho → Prop} (hi : ρ[i]? = some (some (.lst ps))) (h : Q (.val (.lst (frs ps))) (ρ.set i (some (.val (.lst (frs ps)))))) : Y (xE F (.var i) ρ) Q := by
  simp only [xE_eq, xA_eq, xPs_eq, xI_eq, xS_eq, xSs_eq] at *
  simp only [ev, rdVar, hi]
  exact Y.ok h
theorem Y.con {d : D} {Q : P → Rho → Prop} (h : Q (.val d) ρ) : Y (xE F (.con d) ρ) Q := .mk ⟨_, _, by simp only [xE_eq, xA_eq, xPs_eq, xI_eq, xS_eq, xSs_eq, ev], h⟩
theorem Y.opA {o : Op} {as : CEs} {Q : P → Rho → Prop} (h : Y (xA F as ρ) fun ds ρ1 => Y (ofD o.lays ρ1 (prim F.rp F.sub o ds)) Q) : Y (xE F (.op o as) ρ) Q := by
  simp only [xE_eq, xA_eq, xPs_eq, xI_eq, xS_eq, xSs_eq] at *
  simp only [ev]
  exact Y.bind h
theorem Y.op {k : Nat} {o : Op} {as : CEs} {Q : P → Rho → Prop} (h : Y (xA (En rp sub T k) as ρ) fun ds ρ1 => Y (ofD o.lays ρ1 (prim rp sub o ds)) Q) : Y (xE (En rp sub T k) (.op o as) ρ) Q := Y.opA h
theorem Y.and {a b : CE} {Q : P → Rho → Prop} (h : Y (xE F a ρ) fun p ρ1 => Y (PV.onB p (xE F b ρ1) (.ok (.val (.bl false)) ρ1)) Q) : Y (xE F (.and a b) ρ) Q := by
  simp only [xE_eq, xA_eq, xPs_eq, xI_eq, xS_eq, xSs_eq] at *
  simp only [ev]
  exact Y.bind h
theorem Y.or {a b : CE} {Q : P → Rho → Prop} (h : Y (xE F a ρ) fun p ρ1 => Y (PV.onB p (.ok (.val (.bl true)) ρ1) (xE F b ρ1)) Q) : Y (xE F (.or a b) ρ) Q := by
  simp only [xE_eq, xA_eq, xPs_eq, xI_eq, xS_eq, xSs_eq] at *
  simp only [ev]
  exact Y.bind h
theorem Y.not {a : CE} {Q : P → Rho → Prop} (h : Y (xE F a ρ) fun p ρ1 => ∃ b, p = .val (.bl b) ∧ Q (.val (.bl (!b))) ρ1) : Y (xE F (.not a) ρ) Q := by
  simp only [xE_eq, xA_eq, xPs_eq, xI_eq, xS_eq, xSs_eq] at *
  simp only [ev]
  refine Y.bind (h.mono fun p ρ1 ⟨b, e, q⟩ => ?_)
  subst e
  cases b <;> exact Y.ok q
theorem Y.ite {t a b : CE} {Q : P → Rho → Prop} (h : Y (xE F t ρ) fun p ρ1 => Y (PV.onB p (xE F a ρ1) (xE F b ρ1)) Q) : Y (xE F (.ite t a b) ρ) Q := by
  simp only [xE_eq, xA_eq, xPs_eq, xI_eq, xS_eq, xSs_eq] at *
  simp only [ev]
  exact Y.bind h
theorem Y.tup {as : CEs} {Q : P → Rho → Prop} (h : Y (xPs F as ρ) fun ps ρ1 => okLen ps.length = true ∧ ∃ ds, FrsIs ps ds ∧ Q (.val (.tup ds)) ρ1) : Y (xE F (.tup as) ρ) Q := by
  simp only [xE_eq, xA_eq, xPs_eq, xI_eq, xS_eq, xSs_eq] at *
  simp only [ev]
  refine Y.bind (h.mono fun ps ρ1 ⟨q1, ds, e, q2⟩ => ?_)
  rw [if_pos q1, e.eq]
  exact Y.ok q2
theorem Y.lst {as : CEs} {Q : P → Rho → Prop} (h : Y (xPs F as ρ) fun ps ρ1 => okLen ps.length = true ∧ Q (.lst ps) ρ1) : Y (xE F (.lst as) ρ) Q := by
  simp only [xE_eq, xA_eq, xPs_eq, xI_eq, xS_eq, xSs_eq] at *
  simp only [ev]
  refine Y.bind (h.mono fun ps ρ1 ⟨q1, q2⟩ => ?_)
  rw [if_pos q1]
  exact Y.ok q2
theorem Y.dct0 {Q : P → Rho → Prop} (h : Q (.dct []) ρ) : Y (xE F .dct0 ρ) Q := .mk ⟨_, _, by simp only [xE_eq, xA_eq, xPs_eq, xI_eq, xS_eq, xSs_eq, ev], h⟩
theorem Y.call {k f : Nat} {as : CEs} {ds : List D} {Q : P → Rho → Prop} (h : Y (xPs (En rp sub T k) as ρ) fun ps ρ1 => Y (calls rp sub T k f (ps ++ vals ds)) fun p _ => Q p ρ1) : Y (xE (En rp sub T k) (.call f as ds) ρ) Q := by
  simp only [xE_eq, xA_eq, xPs_eq, xI_eq, xS_eq, xSs_eq] at *
  simp only [ev]
  refine Y.bind (h.mono fun ps ρ1 q => ?_)
  obtain ⟨p, io, e, q⟩ := q.ex
  have e : (En rp sub T k).fn f (ps ++ vals ds) = .ok p io := e
  rw [e]
  exact Y.ok q
theorem Y.callM {k f i : Nat} {as : CEs} {Q : P → Rho → Prop} (hh : held ρ i = true) (h : Y (xPs (En rp sub T k) as ρ) fun ps ρ1 => ∃ qs, ρ1[i]? = some (some (.lst qs)) ∧ Y (calls rp sub T k f (.lst qs :: ps)) fun p io => ∃ q, io = some q ∧ Q p (ρ1.set i (some q))) : Y (xE (En rp sub T k) (.callM f i as) ρ) Q := by
  simp only [xE_eq, xA_eq, xPs_eq, xI_eq, xS_eq, xSs_eq] at *
  simp only [ev, hh, Bool.not_true, Bool.false_eq_true, if_false]
  refine Y.bind (h.mono fun ps ρ1 q => ?_)
  obtain ⟨qs, e1, q⟩ := q
  obtain ⟨p, io, e2, q, e3, q2⟩ := q.ex
  subst e3
  have e2 : (En rp sub T k).fn f (.lst qs :: ps) = .ok p (some q) := e2
  rw [e1]
  simp only [e2]
  exact Y.ok q2
theorem Y.pop {i : Nat} {a : CE} {Q : P → Rho → Prop} (hh : held ρ i = true) (h : Y (xE F a ρ) fun p ρ1 => ∃ k ps x, p = .val (.int k) ∧ ρ1[i]? = some (some (.lst ps)) ∧ 0 ≤ k ∧ k < 2 ^ 62 ∧ ps[k.toNat]? = some x ∧ Q x (ρ1.set i (some (.lst (ps.eraseIdx k.toNat))))) : Y (xE F (.pop i a) ρ) Q := by
  simp only [xE_eq, xA_eq, xPs_eq, xI_eq, xS_eq, xSs_eq] at *
  simp only [ev, hh, Bool.not_true, Bool.false_eq_true, if_false]
  refine Y.bind (h.mono fun p ρ1 ⟨k, ps, x, e1, e2, e3, e4, e5, q⟩ => ?_)
  subst e1
  rw [e2]
  simp only [decide_eq_true e3, decide_eq_true e4, Bool.and_true, if_true, e5]
  exact Y.ok q
/-- one turn of a comprehension -/
def turnC (F : Env) (t : CT) (c e : CE) (d : D) (ρ : Rho) : Out Rho (Option P) := match setT t d ρ with
  | some ρ2 => ((xE F c ρ2).bind fun b ρ3 => PV.onB b ((xE F e ρ3).bind fun p ρ4 => .ok (some p) (wipe ρ4 t.ix)) (.ok none (wipe ρ3 t.ix))).calm
  | none => .bad
theorem Y.calm {σ α : Type} {x : Out σ α} {Q : α → σ → Prop} (h : Y x Q) : Y x.calm Q := by
  obtain ⟨a, s, e, h⟩ := h.ex
  rw [e]
  exact .mk ⟨a, s, rfl, h⟩
theorem Y.turnC {t : CT} {c e : CE} {d : D} {ρ2 : Rho} {Q : Option P → Rho → Prop} (h1 : setT t d ρ = some ρ2) (h : Y (xE F c ρ2) fun b ρ3 => Y (PV.onB b ((xE F e ρ3).bind fun p ρ4 => .ok (some p) (wipe ρ4 t.ix)) (.ok none (wipe ρ3 t.ix))) Q) : Y (PV.turnC F t c e d ρ) Q := by
  unfold PV.turnC
  rw [h1]
  exact Y.calm (Y.bind h)
/-- .. without an if -/
theorem Y.turnC1 {t : CT} {e : CE} {d : D} {ρ2 : Rho} {Q : Option P → Rho → Prop} (h1 : setT t d ρ = some ρ2) (h : Y (xE F e ρ2) fun p ρ4 => Q (some p) (wipe ρ4 t.ix)) : Y (PV.turnC F t (.con (.bl true)) e d ρ) Q :=
  Y.turnC h1 (Y.con (Y.onT (Y.bind (h.mono fun p ρ4 q => Y.ok q))))
theorem Y.lc {t : CT} {it : CI} {c e : CE} {Q : P → Rho → Prop} (h : Y (xI F it ρ) fun ds ρ1 => okLen ds.length = true ∧ Y (loopC (PV.turnC F t c e) ds [] (wipe ρ1 t.ix)) fun ps ρ2 => Q (.lst ps) ρ2) : Y (xE F (.lc t it c e) ρ) Q := by
  have e0 : PV.turnC F t c e = fun d ρ => match setT t d ρ with
    | some ρ2 => ((ev F c ρ2).bind fun b ρ3 => PV.onB b ((ev F e ρ3).bind fun p ρ4 => .ok (some p) (wipe ρ4 t.ix)) (.ok none (wipe ρ3 t.ix))).calm
    | none => .bad := by
    funext d ρ
    unfold PV.turnC
    simp only [xE_eq]
  rw [e0] at h
  simp only [xE_eq, xA_eq, xPs_eq, xI_eq, xS_eq, xSs_eq] at *
  simp only [ev]
  refine Y.bind (h.mono fun ds ρ1 ⟨q1, q2⟩ => ?_)
  rw [q1]
  simp only [Bool.not_true, Bool.false_eq_true, if_false]
  exact Y.bind (q2.mono fun ps ρ2 q => Y.ok q)
/-- a comprehension, item by item: R what an item gives; the slots stay -/
theorem Y.loopCG {turn : D → Rho → Out Rho (Option P)} {ρ : Rho} (g : D → P) : ∀ (ds : List D) (acc : List P) {Q : List P → Rho → Prop}, (∀ d ∈ ds, turn d ρ = .ok (some (g d)) ρ) → Q (acc.reverse ++ ds.map g) ρ → Y (loopC turn ds acc ρ) Q
  | [], acc, Q, _, h => by
    refine Y.ok ?_
    simpa using h
  | d :: ds, acc, Q, ht, h => by
    show Y ((turn d ρ).bind _) Q
    rw [ht d (List.mem_cons_self ..)]
    refine Y.loopCG g ds (g d :: acc) (fun d hd => ht d (List.mem_cons_of_mem _ hd)) ?_
    simpa using h
/-- a comprehension, by an invariant over what is left, what is made, the slots -/
theorem Y.loopCI {turn : D → Rho → Out Rho (Option P)} (I : List D → List P → Rho → Prop) {Q : List P → Rho → Prop} : ∀ (ds : List D) (acc : List P) (ρ : Rho), I ds acc ρ → (∀ d ds acc ρ, I (d :: ds) acc ρ → Y (turn d ρ) fun r ρ1 => match r with | some p => I ds (p :: acc) ρ1 | none => I ds acc ρ1) → (∀ acc ρ, I [] acc ρ → Q acc.reverse ρ) → Y (loopC turn ds acc ρ) Q
  | [], acc, ρ, h0, _, h2 => Y.ok (h2 acc ρ h0)
  | d :: ds, acc, ρ, h0, h1, h2 => by
    show Y ((turn d ρ).bind _) Q
    refine Y.bind ((h1 d ds acc ρ h0).mono fun r ρ1 q => ?_)
    cases r with
    | none => exact Y.loopCI I ds acc ρ1 q h1 h2
    | some p => exact Y.loopCI I ds (p :: acc) ρ1 q h1 h2
/-! ### arguments -/
theorem Y.anil {Q : List D → Rho → Prop} (h : Q [] ρ) : Y (xA F .nil ρ) Q := .mk ⟨_, _, by simp only [xE_eq, xA_eq, xPs_eq, xI_eq, xS_eq, xSs_eq, evA], h⟩
theorem Y.alook {i : Nat} {es : CEs} {d : D} {Q : List D → Rho → Prop} (hi : lookAt ρ i = some d) (hq : es.quiet = true) (h : Y (xA F es ρ) fun ds ρ1 => Q (d :: ds) ρ1) : Y (xA F (.cons (.look i) es) ρ) Q := by
  simp only [xE_eq, xA_eq, xPs_eq, xI_eq, xS_eq, xSs_eq] at *
  simp only [evA, hi, hq, if_true]
  exact Y.bind (h.mono fun ds ρ1 q => Y.ok q)
def isLook : CE → Bool
  | .look _ => true
  | _ => false
theorem Y.acons {e : CE} {es : CEs} {Q : List D → Rho → Prop} (he : isLook e = false) (h : Y (xE F e ρ) fun p ρ1 => ∃ d, FrIs p d ∧ Y (xA F es ρ1) fun ds ρ2 => Q (d :: ds) ρ2) : Y (xA F (.cons e es) ρ) Q := by
  have e1 : xA F (.cons e es) ρ = (xE F e ρ).bind fun p ρ1 => (xA F es ρ1).bind fun ds ρ2 => .ok (p.fr :: ds) ρ2 := by
    cases e <;> first | (cases he; done) | (simp only [xE_eq, xA_eq, xPs_eq, xI_eq, xS_eq, xSs_eq, evA])
  rw [e1]
  refine Y.bind (h.mono fun p ρ1 ⟨d, hd, q⟩ => ?_)
  rw [hd.eq]
  exact Y.bind (q.mono fun ds ρ2 q => Y.ok q)
theorem Y.pnil {Q : List P → Rho → Prop} (h : Q [] ρ) : Y (xPs F .nil ρ) Q := .mk ⟨_, _, by simp only [xE_eq, xA_eq, xPs_eq, xI_eq, xS_eq, xSs_eq, evPs], h⟩
theorem Y.pcons {e : CE} {es : CEs} {Q : List P → Rho → Prop} (h : Y (xE F e ρ) fun p ρ1 => Y (xPs F es ρ1) fun ps ρ2 => Q (p :: ps) ρ2) : Y (xPs F (.cons e es) ρ) Q := by
  simp only [xE_eq, xA_eq, xPs_eq, xI_eq, xS_eq, xSs_eq] at *
  simp only [evPs]
  exact Y.bind (h.mono fun p ρ1 q => Y.bind (q.mono fun ds ρ2 q => Y.ok q))
/-! ### what is walked -/
theorem Y.seq {e : CE} {Q : List D → Rho → Prop} (h : Y (xE F e ρ) fun p ρ1 => ∃ d ds, FrIs p d ∧ seq? d = some ds ∧ Q ds ρ1) : Y (xI F (.seq e) ρ) Q := by
  simp only [xE_eq, xA_eq, xPs_eq, xI_eq, xS_eq, xSs_eq] at *
  simp only [evI]
  refine Y.bind (h.mono fun p ρ1 ⟨d, ds, e0, e1, q⟩ => ?_)
  rw [e0.eq, e1]
  exact Y.ok q
theorem Y.range {a b : CE} {Q : List D → Rho → Prop} (h : Y (xE F a ρ) fun x ρ1 => Y (xE F b ρ1) fun y ρ2 => ∃ i j, x = .val (.int i) ∧ y = .val (.int j) ∧ (okRange i && okRange j) = true ∧ Q (iotaFrom i (j - i).toNat) ρ2) : Y (xI F (.range a b) ρ) Q := by
  simp only [xE_eq, xA_eq, xPs_eq, xI_eq, xS_eq, xSs_eq] at *
  simp only [evI]
  refine Y.bind (h.mono fun x ρ1 q => Y.bind (q.mono fun y ρ2 ⟨i, j, e1, e2, e3, q'⟩ => ?_))
  subst e1 e2
  simp only [e3, if_true]
  exact Y.ok q'
theorem Y.enum {e : CE} {Q : List D → Rho → Prop} (h : Y (xE F e ρ) fun p ρ1 => ∃ ds, FrIs p (.lst ds) ∧ Q (numbered 0 ds) ρ1) : Y (xI F (.enum e) ρ) Q := by
  simp only [xE_eq, xA_eq, xPs_eq, xI_eq, xS_eq, xSs_eq] at *
  simp only [evI]
  refine Y.bind (h.mono fun p ρ1 ⟨ds, e1, q⟩ => ?_)
  rw [e1.eq]
  exact Y.ok q
theorem Y.zipT {a b : CE} {Q : List D → Rho → Prop} (h : Y (xE F a ρ) fun x ρ1 => Y (xE F b ρ1) fun y ρ2 => ∃ ds es, FrIs x (.tup ds) ∧ FrIs y (.tup es) ∧ Q (paired ds es) ρ2) : Y (xI F (.zip a b) ρ) Q := by
  simp only [xE_eq, xA_eq, xPs_eq, xI_eq, xS_eq, xSs_eq] at *
  simp only [evI]
  refine Y.bind (h.mono fun x ρ1 q => Y.bind (q.mono fun y ρ2 ⟨ds, es, e1, e2, q⟩ => ?_))
  rw [e1.eq, e2.eq]
  exact Y.ok q
theorem Y.zipL {a b : CE} {Q : List D → Rho → Prop} (h : Y (xE F a ρ) fun x ρ1 => Y (xE F b ρ1) fun y ρ2 => ∃ ds es, FrIs x (.lst ds) ∧ FrIs y (.lst es) ∧ Q (paired ds es) ρ2) : Y (xI F (.zip a b) ρ) Q := by
  simp only [xE_eq, xA_eq, xPs_eq, xI_eq, xS_eq, xSs_eq] at *
  simp only [evI]
  refine Y.bind (h.mono fun x ρ1 q => Y.bind (q.mono fun y ρ2 ⟨ds, es, e1, e2, q⟩ => ?_))
  rw [e1.eq, e2.eq]
  exact Y.ok q
/-! ### operations -/
section
variable {l : Bool} {Q : P → Rho → Prop}
/-- what an operation gives that is no list -/
theorem Y.pr {o : Op} {ds : List D} {d : D} (e : prim rp sub o ds = some d) (hl : (match d with | .lst _ => false | _ => true) = true) (h : Q (.val d) ρ) : Y (ofD l ρ (prim rp sub o ds)) Q := by
  rw [e]
  cases d <;> first | exact Y.ok h | cases hl
theorem Y.prL {o : Op} {ds xs : List D} (e : prim rp sub o ds = some (.lst xs)) (h : Q (.lst (vals xs)) ρ) : Y (ofD true ρ (prim rp sub o ds)) Q := by
  rw [e]
  exact Y.ok h
theorem Y.prK {o : Op} {ds xs : List D} (e : prim rp sub o ds = some (.lst xs)) (h : Q (.val (.lst xs)) ρ) : Y (ofD false ρ (prim rp sub o ds)) Q := by
  rw [e]
  exact Y.ok h
theorem Y.add {a b : Int} (h : Q (.val (.int (a + b))) ρ) : Y (ofD l ρ (prim rp sub .add [.int a, .int b])) Q := Y.ok h
theorem Y.subI {a b : Int} (h : Q (.val (.int (a - b))) ρ) : Y (ofD l ρ (prim rp sub .sub [.int a, .int b])) Q := Y.ok h
theorem Y.neg {a : Int} (h : Q (.val (.int (-a))) ρ) : Y (ofD l ρ (prim rp sub .neg [.int a])) Q := Y.ok h
theorem Y.lt {a b : Int} (h : Q (.val (.bl (decide (a < b)))) ρ) : Y (ofD l ρ (prim rp sub .lt [.int a, .int b])) Q := Y.ok h
theorem Y.le {a b : Int} (h : Q (.val (.bl (decide (a ≤ b)))) ρ) : Y (ofD l ρ (prim rp sub .le [.int a, .int b])) Q := Y.ok h
theorem Y.gt {a b : Int} (h : Q (.val (.bl (decide (b < a)))) ρ) : Y (ofD l ρ (prim rp sub .gt [.int a, .int b])) Q := Y.ok h
theorem Y.ge {a b : Int} (h : Q (.val (.bl (decide (b ≤ a)))) ρ) : Y (ofD l ρ (prim rp sub .ge [.int a, .int b])) Q := Y.ok h
theorem Y.mul {a b : Int} (hm : okMul a b = true) (h : Q (.val (.int (a * b))) ρ) : Y (ofD l ρ (prim rp sub .mul [.int a, .int b])) Q := by
  have : prim rp sub .mul [.int a, .int b] = some (.int (a * b)) := by simp only [prim, opMul, when_, hm, if_true]
  rw [this]
  exact Y.ok h
theorem Y.fdiv {a b : Int} (hm : okDiv b = true) (h : Q (.val (.int (a.fdiv b))) ρ) : Y (ofD l ρ (prim rp sub .fdiv [.int a, .int b])) Q := by
  have : prim rp sub .fdiv [.int a, .int b] = some (.int (a.fdiv b)) := by simp only [prim, opIc, when_, hm, if_true]
  rw [this]
  exact Y.ok h
theorem Y.mod {a b : Int} (hm : b ≠ 0) (h : Q (.val (.int (a.fmod b))) ρ) : Y (ofD l ρ (prim rp sub .mod [.int a, .int b])) Q := by
  have : prim rp sub .mod [.int a, .int b] = some (.int (a.fmod b)) := by simp only [prim, opIc, when_, decide_eq_true hm, if_true]
  rw [this]
  exact Y.ok h
theorem Y.pow {a b : Int} (hm : okPow a b = true) (h : Q (.val (.int (a ^ b.toNat))) ρ) : Y (ofD l ρ (prim rp sub .pow [.int a, .int b])) Q := by
  have : prim rp sub .pow [.int a, .int b] = some (.int (a ^ b.toNat)) := by simp only [prim, opIc, when_, hm, if_true]
  rw [this]
  exact Y.ok h
theorem Y.abs {a : Int} (h : Q (.val (.int (if a < 0 then -a else a))) ρ) : Y (ofD l ρ (prim rp sub .abs [.int a])) Q := Y.ok h
theorem Y.intI {a : Int} (h : Q (.val (.int a)) ρ) : Y (ofD l ρ (prim rp sub .int [.int a])) Q := Y.ok h
theorem Y.intB {b : Bool} (h : Q (.val (.int (b2i b))) ρ) : Y (ofD l ρ (prim rp sub .int [.bl b])) Q := Y.ok h
theorem Y.eqI {a b : Int} (h : Q (.val (.bl (decide (a = b)))) ρ) : Y (ofD l ρ (prim rp sub .eq [.int a, .int b])) Q := by
  have : prim rp sub .eq [.int a, .int b] = some (.bl (decide (a = b))) := by
    simp [prim, opEq, when_, cmpOk, dat, dep, eqv]
    rfl
  rw [this]
  exact Y.ok h
theorem Y.neI {a b : Int} (h : Q (.val (.bl (!decide (a = b)))) ρ) : Y (ofD l ρ (prim rp sub .ne [.int a, .int b])) Q := by
  have : prim rp sub .ne [.int a, .int b] = some (.bl (!decide (a = b))) := by
    simp [prim, opEq, when_, cmpOk, dat, dep, eqv]
    rfl
  rw [this]
  exact Y.ok h
theorem Y.at {a : D} {i : Int} {d : D} (e : opAt a (.int i) = some d) (h : Q (.val d) ρ) : Y (ofD Op.at.lays ρ (prim rp sub .at [a, .int i])) Q := by
  have : prim rp sub .at [a, .int i] = some d := e
  rw [this]
  cases d <;> exact Y.ok h
theorem Y.isi {a : D} {ki : Ki} (h : Q (.val (.bl (isKi sub a ki))) ρ) : Y (ofD l ρ (prim rp sub (.isi ki) [a])) Q := Y.ok h
theorem Y.lenT {xs : List D} (h : Q (.val (.int xs.length)) ρ) : Y (ofD l ρ (prim rp sub .len [.tup xs])) Q := Y.ok h
theorem Y.lenL {xs : List D} (h : Q (.val (.int xs.length)) ρ) : Y (ofD l ρ (prim rp sub .len [.lst xs])) Q := Y.ok h
theorem okMul_of {i j : Int} {a b : Nat} (hi : i.natAbs < 2 ^ a) (hj : j.natAbs < 2 ^ b) (h : a + b < 1000000) : okMul i j = true := by
  unfold okMul
  refine decide_eq_true ?_
  have l : ∀ {n c : Nat}, n < 2 ^ c → n.log2 ≤ c := fun {n c} h => by
    by_cases z : n = 0
    · subst z; simp
    · exact Nat.le_of_lt ((Nat.log2_lt z).mpr h)
  have := l hi
  have := l hj
  omega
theorem okDiv_of {j : Int} {b : Nat} (h0 : j ≠ 0) (hj : j.natAbs < 2 ^ b) (h : b ≤ 9000) : okDiv j = true := by
  unfold okDiv
  rw [Bool.and_eq_true]
  refine ⟨decide_eq_true h0, decide_eq_true ?_⟩
  have := (Nat.log2_lt (n := j.natAbs) (k := b) (by omega)).mpr hj
  omega
end
theorem frs_valsW : ∀ ds : List D, frs (vals ds) = ds
  | [] => rfl
  | d :: ds => by
    show (P.val d).fr :: frs (vals ds) = _
    rw [frs_valsW ds]
    rfl
theorem frs_map {α : Type} (g : α → D) : ∀ xs : List α, frs (xs.map fun x => .val (g x)) = xs.map g
  | [] => rfl
  | x :: xs => by
    show (P.val (g x)).fr :: frs (xs.map fun x => .val (g x)) = _
    rw [frs_map g xs]
    rfl
/-! ### what kind of goal it is -/
section
variable {F : Env} {ρ : Rho}
theorem gE {e : CE} {Q : P → Rho → Prop} (h : Y (xE F e ρ) Q) : Y (xE F e ρ) Q := h
theorem gA {e : CEs} {Q : List D → Rho → Prop} (h : Y (xA F e ρ) Q) : Y (xA F e ρ) Q := h
theorem gP {e : CEs} {Q : List P → Rho → Prop} (h : Y (xPs F e ρ) Q) : Y (xPs F e ρ) Q := h
theorem gS {e : CS} {Q : Fl → Rho → Prop} (h : Y (xS F e ρ) Q) : Y (xS F e ρ) Q := h
theorem gL {e : CSs} {Q : Fl → Rho → Prop} (h : Y (xSs F e ρ) Q) : Y (xSs F e ρ) Q := h
theorem gO {l : Bool} {o : Option D} {Q : P → Rho → Prop} (h : Y (ofD l ρ o) Q) : Y (ofD l ρ o) Q := h
theorem gB {α : Type} {p : P} {x y : Out Rho α} {Q : α → Rho → Prop} (h : Y (onB p x y) Q) : Y (onB p x y) Q := h
theorem gX {α : Type} {p : α → Prop} (h : ∃ x, p x) : ∃ x, p x := h
end
end PV

set_option Elab.async false
set_option linter.all false
set_option maxRecDepth 100000
set_option maxHeartbeats 4000000
/-! PvGcd: ratios as Rat; the loop of the greatest common divisor. -/
namespace PV
/-- a ratio as data -/
def rD (q : Rat) : D := .tup [.int q.num, .int q.den]
theorem mod_half {b r : Nat} (h0 : 0 < r) (h : r < b) : 2 * (b % r) < b := by
  have h1 := Nat.mod_lt b h0
  have h2 := Nat.div_add_mod b r
  have h3 : 1 ≤ b / r := Nat.div_pos (Nat.le_of_lt h) h0
  have h4 : r * 1 ≤ r * (b / r) := Nat.mul_le_mul_left r h3
  omega
theorem loopW_gcd {test : Rho → Out Rho P} {body : Rho → Out Rho Fl} (st : Int → Int → Rho) (ht : ∀ a b : Int, test (st a b) = .ok (.val (.bl (decide (0 < b)))) (st a b)) (hb : ∀ a b : Int, 0 < b → body (st a b) = .ok .nx (st b (a.fmod b))) :
    ∀ (m n a b : Nat), b < 2 ^ m → 2 * m + 1 ≤ n → loopW test body n (st a b) = .ok .nx (st (Nat.gcd a b) 0) := by
  have stop : ∀ (n a : Nat), loopW test body (n + 1) (st a (0 : Nat)) = .ok .nx (st a 0) := fun n a => by
    simp only [loopW, ht]
    rfl
  have one : ∀ (n a b : Nat), 0 < b → loopW test body (n + 1) (st a b) = loopW test body n (st b (a % b : Nat)) := fun n a b h => by
    have h' : (0 : Int) < b := by exact_mod_cast h
    conv => lhs; unfold loopW
    rw [ht]
    simp only [Out.bind_ok, decide_eq_true h', onB]
    rw [hb _ _ h']
    simp only [Out.bind_ok]
    rw [Int.fmod_eq_emod_of_nonneg _ (Int.le_of_lt h')]
    rfl
  intro m
  induction m with
  | zero =>
    intro n a b h hn
    have : b = 0 := by simpa using h
    subst this
    obtain ⟨n', rfl⟩ : ∃ n', n = n' + 1 := ⟨n - 1, by omega⟩
    rw [stop]
    simp
  | succ m ih =>
    intro n a b h hn
    obtain ⟨n', rfl⟩ : ∃ n', n = n' + 1 + 1 + 1 := ⟨n - 3, by omega⟩
    by_cases hb0 : b = 0
    · subst hb0
      rw [stop]
      simp
    · rw [one _ a b (by omega)]
      by_cases hr : a % b = 0
      · rw [hr, stop]
        have : Nat.gcd a b = b := by rw [Nat.gcd_comm, Nat.gcd_rec, hr]; simp
        rw [this]
      · rw [one _ b (a % b) (by omega)]
        rw [ih _ _ _ ?_ (by omega)]
        · have e : Nat.gcd (a % b) (b % (a % b)) = Nat.gcd a b := by
            rw [Nat.gcd_comm (a % b), ← Nat.gcd_rec, ← Nat.gcd_rec, Nat.gcd_comm]
          rw [e]
        · have h1 := mod_half (b := b) (r := a % b) (by omega) (Nat.mod_lt _ (by omega))
          rw [Nat.pow_succ] at h
          omega
end PV

set_option Elab.async false
set_option linter.all false
set_option maxRecDepth 100000
/-! C36: the core texts of law k36's defs, as printed by the compile function. -/
namespace PV
abbrev f_is_integer : Nat := 497976731417541700183410
abbrev f_is_tuple : Nat := 7598521950095305829
abbrev f_common : Nat := 109330228408174
abbrev f_ratio : Nat := 491261290863
abbrev f_is_ratio : Nat := 7598521941170088303
abbrev f_is_share : Nat := 7598521945581253221
abbrev f_plus : Nat := 1886156147
abbrev f_check_many : Nat := 469440048988838795767417
abbrev f_sum_between : Nat := 139581003702449670136882542
abbrev f_loss : Nat := 1819243379
abbrev f_check_fair : Nat := 469440048988838678325618
abbrev f_fair : Nat := 1717660018
abbrev f_shows_fair : Nat := 544998638928989008259442
abbrev f__law_draws : Nat := 450624087419605854812019
abbrev f__law_take : Nat := 1760250341483102694245
abbrev f__law_of : Nat := 26859288657882982
abbrev f__law_cells : Nat := 450624087419601342458995
abbrev f__law_odd_one : Nat := 29532100193134370145023520357
abbrev f__law_bent : Nat := 1760250341482800967284
abbrev f__law_ratio : Nat := 450624087419665700383087
abbrev f__law_plus : Nat := 1760250341483036308851
abbrev f__law_is_int : Nat := 115359766379424600650509940
abbrev f__law_sum : Nat := 6875977896418309485
abbrev f__law_harmonic : Nat := 7560217649441893524996117916003
abbrev f__law_is_fair : Nat := 29532100193132697766479358322
abbrev f__law_shapes : Nat := 115359766379435548556158323
abbrev f__law_right : Nat := 450624087419665833748596
abbrev f_law : Nat := 7102839
/-- slots: [value, low, high] -/
def c_is_integer : Def := ⟨3, 3, false,
  (.cons
  (.if_ (.or (.not (.op (.isi .int) (.cons (.var 0) .nil))) (.op (.isi .bl) (.cons (.var 0) .nil))) (.cons
    (.ret (.con (.bl false)))
    .nil) .nil)
  (.cons
  (.ret (.and (.or (.op .isN (.cons (.var 1) .nil)) (.op .le (.cons (.var 1) (.cons (.var 0) .nil)))) (.or (.op .isN (.cons (.var 2) .nil)) (.op .le (.cons (.var 0) (.cons (.var 2) .nil))))))
  .nil))⟩
/-- slots: [value, least, most] -/
def c_is_tuple : Def := ⟨3, 3, false,
  (.cons
  (.if_ (.or (.not (.op (.isi .tup) (.cons (.var 0) .nil))) (.op .lt (.cons (.op .len (.cons (.look 0) .nil)) (.cons (.var 1) .nil)))) (.cons
    (.ret (.con (.bl false)))
    .nil) .nil)
  (.cons
  (.ret (.or (.op .isN (.cons (.var 2) .nil)) (.op .le (.cons (.op .len (.cons (.look 0) .nil)) (.cons (.var 2) .nil)))))
  .nil))⟩
/-- slots: [one, other] -/
def c_common : Def := ⟨2, 2, false,
  (.cons
  (.par 0 1 (.op .abs (.cons (.var 0) .nil)) (.op .abs (.cons (.var 1) .nil)))
  (.cons
  (.while_ (.op .gt (.cons (.var 1) (.cons (.con (.int 0)) .nil))) (.cons
    (.par 0 1 (.var 1) (.op .mod (.cons (.var 0) (.cons (.var 1) .nil))))
    .nil))
  (.cons
  (.ret (.var 0))
  .nil)))⟩
/-- slots: [number, under, divisor] -/
def c_ratio : Def := ⟨2, 3, false,
  (.cons
  (.asg 2 (.op .mul (.cons (.call f_common (.cons (.var 0) (.cons (.var 1) .nil)) []) (.cons (.ite (.op .lt (.cons (.var 1) (.cons (.con (.int 0)) .nil))) (.op .neg (.cons (.con (.int 1)) .nil)) (.con (.int 1))) .nil))))
  (.cons
  (.ret (.tup (.cons (.op .fdiv (.cons (.var 0) (.cons (.var 2) .nil))) (.cons (.op .fdiv (.cons (.var 1) (.cons (.var 2) .nil))) .nil))))
  .nil))⟩
/-- slots: [value] -/
def c_is_ratio : Def := ⟨1, 1, false,
  (.cons
  (.if_ (.or (.not (.call f_is_tuple (.cons (.var 0) (.cons (.con (.int 2)) (.cons (.con (.int 2)) .nil))) [])) (.or (.not (.call f_is_integer (.cons (.op .at (.cons (.look 0) (.cons (.con (.int 0)) .nil))) .nil) [.non, .non])) (.not (.call f_is_integer (.cons (.op .at (.cons (.look 0) (.cons (.con (.int 1)) .nil))) (.cons (.con (.int 1)) .nil)) [.non])))) (.cons
    (.ret (.con (.bl false)))
    .nil) .nil)
  (.cons
  (.ret (.op .eq (.cons (.call f_common (.cons (.op .at (.cons (.look 0) (.cons (.con (.int 0)) .nil))) (.cons (.op .at (.cons (.look 0) (.cons (.con (.int 1)) .nil))) .nil)) []) (.cons (.con (.int 1)) .nil))))
  .nil))⟩
/-- slots: [value] -/
def c_is_share : Def := ⟨1, 1, false,
  (.cons
  (.ret (.and (.call f_is_ratio (.cons (.var 0) .nil) []) (.op .ge (.cons (.op .at (.cons (.look 0) (.cons (.con (.int 0)) .nil))) (.cons (.con (.int 0)) .nil)))))
  .nil)⟩
/-- slots: [one, other] -/
def c_plus : Def := ⟨2, 2, false,
  (.cons
  (.ret (.call f_ratio (.cons (.op .add (.cons (.op .mul (.cons (.op .at (.cons (.look 0) (.cons (.con (.int 0)) .nil))) (.cons (.op .at (.cons (.look 1) (.cons (.con (.int 1)) .nil))) .nil))) (.cons (.op .mul (.cons (.op .at (.cons (.look 1) (.cons (.con (.int 0)) .nil))) (.cons (.op .at (.cons (.look 0) (.cons (.con (.int 1)) .nil))) .nil))) .nil))) (.cons (.op .mul (.cons (.op .at (.cons (.look 0) (.cons (.con (.int 1)) .nil))) (.cons (.op .at (.cons (.look 1) (.cons (.con (.int 1)) .nil))) .nil))) .nil)) []))
  .nil)⟩
/-- slots: [value] -/
def c_check_many : Def := ⟨1, 1, false,
  (.cons
  (.if_ (.not (.call f_is_integer (.cons (.var 0) (.cons (.con (.int 1)) (.cons (.con (.int 2000)) .nil))) [])) (.cons
    .never
    .nil) .nil)
  .nil)⟩
/-- slots: [low, high, middle] -/
def c_sum_between : Def := ⟨2, 3, false,
  (.cons
  (.if_ (.op .eq (.cons (.op .sub (.cons (.var 1) (.cons (.var 0) .nil))) (.cons (.con (.int 1)) .nil))) (.cons
    (.ret (.tup (.cons (.con (.int 1)) (.cons (.var 0) .nil))))
    .nil) .nil)
  (.cons
  (.asg 2 (.op .fdiv (.cons (.op .add (.cons (.var 0) (.cons (.var 1) .nil))) (.cons (.con (.int 2)) .nil))))
  (.cons
  (.ret (.call f_plus (.cons (.call f_sum_between (.cons (.var 0) (.cons (.var 2) .nil)) []) (.cons (.call f_sum_between (.cons (.var 2) (.cons (.var 1) .nil)) []) .nil)) []))
  .nil)))⟩
/-- slots: [many] -/
def c_loss : Def := ⟨1, 1, false,
  (.cons
  (.exp (.call f_check_many (.cons (.var 0) .nil) []))
  (.cons
  (.ret (.call f_sum_between (.cons (.con (.int 1)) (.cons (.op .add (.cons (.var 0) (.cons (.con (.int 1)) .nil))) .nil)) []))
  .nil))⟩
/-- slots: [many, strings] -/
def c_check_fair : Def := ⟨2, 2, false,
  (.cons
  (.exp (.call f_check_many (.cons (.var 0) .nil) []))
  (.cons
  (.if_ (.not (.call f_is_integer (.cons (.var 1) (.cons (.con (.int 1)) (.cons (.var 0) .nil))) [])) (.cons
    .never
    .nil) .nil)
  .nil))⟩
/-- slots: [many, strings, lengths, number] -/
def c_fair : Def := ⟨2, 4, false,
  (.cons
  (.exp (.call f_check_fair (.cons (.var 0) (.cons (.var 1) .nil)) []))
  (.cons
  (.asg 2 (.lc (.name 3) (.range (.con (.int 0)) (.var 1)) (.con (.bl true)) (.op .add (.cons (.op .fdiv (.cons (.var 0) (.cons (.var 1) .nil))) (.cons (.op .int (.cons (.op .lt (.cons (.var 3) (.cons (.op .mod (.cons (.var 0) (.cons (.var 1) .nil))) .nil))) .nil)) .nil)))))
  (.cons
  (.ret (.tup (.cons (.op .tuple (.cons (.var 2) .nil)) (.cons (.call f_loss (.cons (.op .at (.cons (.look 2) (.cons (.con (.int 0)) .nil))) .nil) []) .nil))))
  .nil)))⟩
/-- slots: [many, strings, value, told, length, one, other] -/
def c_shows_fair : Def := ⟨3, 7, false,
  (.cons
  (.exp (.call f_check_fair (.cons (.var 0) (.cons (.var 1) .nil)) []))
  (.cons
  (.asg 3 (.call f_fair (.cons (.var 0) (.cons (.var 1) .nil)) []))
  (.cons
  (.if_ (.or (.not (.call f_is_tuple (.cons (.var 2) (.cons (.con (.int 2)) (.cons (.con (.int 2)) .nil))) [])) (.not (.call f_is_tuple (.cons (.op .at (.cons (.look 2) (.cons (.con (.int 0)) .nil))) (.cons (.var 1) (.cons (.var 1) .nil))) []))) (.cons
    (.ret (.con (.bl false)))
    .nil) .nil)
  (.cons
  (.if_ (.or (.not (.op .all (.cons (.lc (.name 4) (.seq (.op .at (.cons (.look 2) (.cons (.con (.int 0)) .nil)))) (.con (.bl true)) (.call f_is_integer (.cons (.var 4) (.cons (.con (.int 1)) .nil)) [.non])) .nil))) (.op .ne (.cons (.op .sum (.cons (.op .at (.cons (.look 2) (.cons (.con (.int 0)) .nil))) .nil)) (.cons (.var 0) .nil)))) (.cons
    (.ret (.con (.bl false)))
    .nil) .nil)
  (.cons
  (.if_ (.or (.not (.op .all (.cons (.lc (.two (.name 5) (.name 6)) (.zip (.op .at (.cons (.look 2) (.cons (.con (.int 0)) .nil))) (.op .slLo (.cons (.op .at (.cons (.look 2) (.cons (.con (.int 0)) .nil))) (.cons (.con (.int 1)) .nil)))) (.con (.bl true)) (.op .ge (.cons (.var 5) (.cons (.var 6) .nil)))) .nil))) (.op .ne (.cons (.op .at (.cons (.op .at (.cons (.look 2) (.cons (.con (.int 0)) .nil))) (.cons (.con (.int 0)) .nil))) (.cons (.op .at (.cons (.op .at (.cons (.look 3) (.cons (.con (.int 0)) .nil))) (.cons (.con (.int 0)) .nil))) .nil)))) (.cons
    (.ret (.con (.bl false)))
    .nil) .nil)
  (.cons
  (.ret (.and (.call f_is_share (.cons (.op .at (.cons (.look 2) (.cons (.con (.int 1)) .nil))) .nil) []) (.op .eq (.cons (.op .at (.cons (.look 2) (.cons (.con (.int 1)) .nil))) (.cons (.op .at (.cons (.look 3) (.cons (.con (.int 1)) .nil))) .nil)))))
  .nil))))))⟩
/-- slots: [_law_script, _law_place, _law_cell, _law_own, _law_small] -/
def c__law_draws : Def := ⟨2, 5, false,
  (.cons
  (.asg 2 (.ite (.op .lt (.cons (.var 1) (.cons (.op .len (.cons (.look 0) .nil)) .nil))) (.op .at (.cons (.look 0) (.cons (.look 1) .nil))) (.op .add (.cons (.op .mul (.cons (.con (.int 223)) (.cons (.var 1) .nil))) (.cons (.con (.int 91)) .nil)))))
  (.cons
  (.asg 3 (.op .mul (.cons (.op .mod (.cons (.op .int (.cons (.op .abs (.cons (.var 2) .nil)) .nil)) (.cons (.op .pow (.cons (.op .pow (.cons (.con (.int 10)) (.cons (.con (.int 60)) .nil))) (.cons (.con (.int 5)) .nil))) .nil))) (.cons (.op .int (.cons (.op .ge (.cons (.op .abs (.cons (.var 2) .nil)) (.cons (.op .pow (.cons (.con (.int 10)) (.cons (.con (.int 18)) .nil))) .nil))) .nil)) .nil))))
  (.cons
  (.asg 4 (.op .mod (.cons (.op .int (.cons (.var 2) .nil)) (.cons (.con (.int 2305843009213693951)) .nil))))
  (.cons
  (.ret (.lst (.cons (.var 3) (.cons (.op .mod (.cons (.op .int (.cons (.op .add (.cons (.op .add (.cons (.op .mul (.cons (.var 4) (.cons (.con (.int 71347)) .nil))) (.cons (.op .mul (.cons (.op .mul (.cons (.con (.int 7369)) (.cons (.var 1) .nil))) (.cons (.var 1) .nil))) .nil))) (.cons (.con (.int 163)) .nil))) .nil)) (.cons (.con (.int 2305843009213693921)) .nil))) (.cons (.con (.int 0)) .nil)))))
  .nil))))⟩
/-- slots: [_law_pot, _law_upto, _law_digit, _law_prime, _law_mixed] -/
def c__law_take : Def := ⟨2, 5, true,
  (.cons
  (.if_ (.op .gt (.cons (.op .at (.cons (.look 0) (.cons (.con (.int 0)) .nil))) (.cons (.con (.int 0)) .nil))) (.cons
    (.asg 2 (.op .mod (.cons (.op .int (.cons (.op .at (.cons (.look 0) (.cons (.con (.int 0)) .nil))) .nil)) (.cons (.var 1) .nil))))
    (.cons
    (.put 0 (.con (.int 0)) (.op .fdiv (.cons (.op .at (.cons (.look 0) (.cons (.con (.int 0)) .nil))) (.cons (.var 1) .nil))))
    (.cons
    (.ret (.var 2))
    .nil))) .nil)
  (.cons
  (.put 0 (.con (.int 2)) (.op .add (.cons (.op .at (.cons (.look 0) (.cons (.con (.int 2)) .nil))) (.cons (.con (.int 1)) .nil))))
  (.cons
  (.asg 3 (.op .at (.cons (.lst (.cons (.con (.int 2147483647)) (.cons (.con (.int 2147483629)) (.cons (.con (.int 2147483587)) (.cons (.con (.int 2147483579)) (.cons (.con (.int 2147483563)) .nil)))))) (.cons (.op .mod (.cons (.op .int (.cons (.op .at (.cons (.look 0) (.cons (.con (.int 2)) .nil))) .nil)) (.cons (.con (.int 5)) .nil))) .nil))))
  (.cons
  (.asg 4 (.op .mod (.cons (.op .int (.cons (.op .pow (.cons (.op .int (.cons (.op .add (.cons (.op .add (.cons (.op .at (.cons (.look 0) (.cons (.con (.int 1)) .nil))) (.cons (.op .mul (.cons (.op .mul (.cons (.con (.int 99877)) (.cons (.op .at (.cons (.look 0) (.cons (.con (.int 2)) .nil))) .nil))) (.cons (.op .at (.cons (.look 0) (.cons (.con (.int 2)) .nil))) .nil))) .nil))) (.cons (.con (.int 71)) .nil))) .nil)) (.cons (.con (.int 3)) .nil))) .nil)) (.cons (.var 3) .nil))))
  (.cons
  (.asg 4 (.op .mod (.cons (.op .int (.cons (.op .mul (.cons (.var 4) (.cons (.op .add (.cons (.op .mod (.cons (.op .int (.cons (.var 4) .nil)) (.cons (.con (.int 10429)) .nil))) (.cons (.op .mul (.cons (.con (.int 163)) (.cons (.op .at (.cons (.look 0) (.cons (.con (.int 2)) .nil))) .nil))) .nil))) .nil))) .nil)) (.cons (.con (.int 2305843009213693907)) .nil))))
  (.cons
  (.ret (.op .mod (.cons (.op .int (.cons (.op .fdiv (.cons (.var 4) (.cons (.con (.int 149)) .nil))) .nil)) (.cons (.var 1) .nil))))
  .nil))))))⟩
/-- slots: [_law_pot, _law_some] -/
def c__law_of : Def := ⟨2, 2, true,
  (.cons
  (.ret (.op .at (.cons (.var 1) (.cons (.callM f__law_take 0 (.cons (.op .len (.cons (.look 1) .nil)) .nil)) .nil))))
  .nil)⟩
/-- slots: [_law_script, _law_limit] -/
def c__law_cells : Def := ⟨2, 2, false,
  (.cons
  (.ret (.op .listRange (.cons (.op .max (.cons (.con (.int 1)) (.cons (.op .min (.cons (.look 1) (.cons (.op .len (.cons (.look 0) .nil)) .nil))) .nil))) .nil)))
  .nil)⟩
/-- slots: [_law_pot, _law_some] -/
def c__law_odd_one : Def := ⟨1, 2, true,
  (.cons
  (.asg 1 (.lst (.cons (.con .non) (.cons (.con (.bl true)) (.cons (.con (.bl false)) (.cons (.con (.int 0)) (.cons (.con (.int 1)) (.cons (.op .neg (.cons (.con (.int 1)) .nil)) (.cons (.con (.int 2)) (.cons (.con (.int 7)) (.cons (.con (.str [])) (.cons (.con (.str [97])) (.cons (.con (.str [115, 116, 114, 105, 110, 103, 32, 97])) (.cons (.con (.str [110, 101, 118, 101, 114])) (.cons (.tup .nil) (.cons (.lst .nil) (.cons .dct0 (.cons (.tup (.cons (.con (.int 0)) .nil)) (.cons (.tup (.cons (.tup .nil) .nil)) (.cons (.lst (.cons (.con (.int 0)) .nil)) (.cons (.tup (.cons (.con (.int 0)) (.cons (.con (.int 1)) .nil))) .nil)))))))))))))))))))))
  (.cons
  (.ret (.callM f__law_of 0 (.cons (.op .add (.cons (.var 1) (.cons (.lst (.cons (.tup (.cons (.con (.int 1)) (.cons (.con (.int 2)) .nil))) (.cons (.tup (.cons (.con (.int 2)) (.cons (.con (.int 4)) .nil))) (.cons (.tup (.cons (.con (.int 1)) (.cons (.con (.int 0)) .nil))) (.cons (.tup (.cons (.con (.str [97])) .nil)) (.cons (.tup (.cons (.tup (.cons (.con (.int 1)) (.cons (.con (.int 1)) .nil))) .nil)) (.cons (.tup (.cons (.con .non) .nil)) (.cons (.op .pow (.cons (.con (.int 10)) (.cons (.con (.int 8)) .nil))) (.cons (.con (.str [65])) (.cons (.tup (.cons (.con (.bl true)) .nil)) (.cons (.tup (.cons (.con (.int 1)) (.cons (.con (.bl true)) .nil))) .nil))))))))))) .nil))) .nil)))
  .nil))⟩
/-- slots: [_law_pot, _law_value, _law_at] -/
def c__law_bent : Def := ⟨2, 3, true,
  (.cons
  (.if_ (.and (.op (.isi .tup) (.cons (.var 1) .nil)) (.and (.op .ne (.cons (.var 1) (.cons (.tup .nil) .nil))) (.op .gt (.cons (.callM f__law_take 0 (.cons (.con (.int 6)) .nil)) (.cons (.con (.int 0)) .nil))))) (.cons
    (.asg 2 (.callM f__law_take 0 (.cons (.op .len (.cons (.look 1) .nil)) .nil)))
    (.cons
    (.ret (.op .add (.cons (.op .add (.cons (.op .slHi (.cons (.look 1) (.cons (.look 2) .nil))) (.cons (.tup (.cons (.callM f__law_bent 0 (.cons (.op .at (.cons (.look 1) (.cons (.look 2) .nil))) .nil)) .nil)) .nil))) (.cons (.op .slLo (.cons (.look 1) (.cons (.op .add (.cons (.var 2) (.cons (.con (.int 1)) .nil))) .nil))) .nil))))
    .nil)) .nil)
  (.cons
  (.if_ (.op (.isi .tup) (.cons (.var 1) .nil)) (.cons
    (.ret (.callM f__law_of 0 (.cons (.lst (.cons (.op .list (.cons (.var 1) .nil)) (.cons (.op .slLo (.cons (.look 1) (.cons (.con (.int 1)) .nil))) (.cons (.op .slHi (.cons (.look 1) (.cons (.op .neg (.cons (.con (.int 1)) .nil)) .nil))) (.cons (.op .add (.cons (.var 1) (.cons (.op .slLo (.cons (.look 1) (.cons (.op .neg (.cons (.con (.int 1)) .nil)) .nil))) .nil))) (.cons (.op .rev (.cons (.var 1) .nil)) (.cons (.tup .nil) (.cons (.con .non) .nil)))))))) .nil)))
    .nil) .nil)
  (.cons
  (.if_ (.and (.op (.isi .int) (.cons (.var 1) .nil)) (.not (.op (.isi .bl) (.cons (.var 1) .nil)))) (.cons
    (.ret (.callM f__law_of 0 (.cons (.lst (.cons (.op .add (.cons (.var 1) (.cons (.con (.int 1)) .nil))) (.cons (.op .sub (.cons (.var 1) (.cons (.con (.int 1)) .nil))) (.cons (.op .eq (.cons (.var 1) (.cons (.con (.int 1)) .nil))) (.cons (.op .str (.cons (.var 1) .nil)) (.cons (.con .non) (.cons (.con (.int 0)) (.cons (.op .neg (.cons (.var 1) .nil)) .nil)))))))) .nil)))
    .nil) .nil)
  (.cons
  (.if_ (.op (.isi .str) (.cons (.var 1) .nil)) (.cons
    (.ret (.callM f__law_of 0 (.cons (.lst (.cons (.op .add (.cons (.var 1) (.cons (.con (.str [120])) .nil))) (.cons (.op .slHi (.cons (.look 1) (.cons (.op .neg (.cons (.con (.int 1)) .nil)) .nil))) (.cons (.con (.str [108, 101, 115, 115])) (.cons (.con (.str [110, 101, 118, 101, 114])) (.cons (.con .non) (.cons (.con (.int 0)) (.cons (.lst (.cons (.var 1) .nil)) .nil)))))))) .nil)))
    .nil) .nil)
  (.cons
  (.ret (.callM f__law_odd_one 0 .nil))
  .nil)))))⟩
/-- slots: [_law_number, _law_under, _law_one, _law_other, _law_sign] -/
def c__law_ratio : Def := ⟨2, 5, false,
  (.cons
  (.par 2 3 (.op .abs (.cons (.op .int (.cons (.var 0) .nil)) .nil)) (.op .abs (.cons (.op .int (.cons (.var 1) .nil)) .nil)))
  (.cons
  (.while_ (.op .gt (.cons (.var 3) (.cons (.con (.int 0)) .nil))) (.cons
    (.par 2 3 (.var 3) (.op .mod (.cons (.op .int (.cons (.var 2) .nil)) (.cons (.op .int (.cons (.var 3) .nil)) .nil))))
    .nil))
  (.cons
  (.asg 4 (.ite (.op .lt (.cons (.var 1) (.cons (.con (.int 0)) .nil))) (.op .neg (.cons (.con (.int 1)) .nil)) (.con (.int 1))))
  (.cons
  (.ret (.tup (.cons (.op .fdiv (.cons (.op .mul (.cons (.var 4) (.cons (.var 0) .nil))) (.cons (.var 2) .nil))) (.cons (.op .fdiv (.cons (.op .mul (.cons (.var 4) (.cons (.var 1) .nil))) (.cons (.var 2) .nil))) .nil))))
  .nil))))⟩
/-- slots: [_law_one, _law_other] -/
def c__law_plus : Def := ⟨2, 2, false,
  (.cons
  (.ret (.call f__law_ratio (.cons (.op .add (.cons (.op .mul (.cons (.op .at (.cons (.look 0) (.cons (.con (.int 0)) .nil))) (.cons (.op .at (.cons (.look 1) (.cons (.con (.int 1)) .nil))) .nil))) (.cons (.op .mul (.cons (.op .at (.cons (.look 1) (.cons (.con (.int 0)) .nil))) (.cons (.op .at (.cons (.look 0) (.cons (.con (.int 1)) .nil))) .nil))) .nil))) (.cons (.op .mul (.cons (.op .at (.cons (.look 0) (.cons (.con (.int 1)) .nil))) (.cons (.op .at (.cons (.look 1) (.cons (.con (.int 1)) .nil))) .nil))) .nil)) []))
  .nil)⟩
/-- slots: [_law_value, _law_low] -/
def c__law_is_int : Def := ⟨2, 2, false,
  (.cons
  (.ret (.and (.op (.isi .int) (.cons (.var 0) .nil)) (.and (.not (.op (.isi .bl) (.cons (.var 0) .nil))) (.op .ge (.cons (.var 0) (.cons (.var 1) .nil))))))
  .nil)⟩
/-- slots: [_law_rows, _law_found, _law_one] -/
def c__law_sum : Def := ⟨1, 3, false,
  (.cons
  (.asg 1 (.tup (.cons (.con (.int 0)) (.cons (.con (.int 1)) .nil))))
  (.cons
  (.for_ (.name 2) (.seq (.var 0)) (.cons
    (.asg 1 (.call f__law_plus (.cons (.var 1) (.cons (.var 2) .nil)) []))
    .nil))
  (.cons
  (.ret (.var 1))
  .nil)))⟩
/-- slots: [_law_amount, _law_under] -/
def c__law_harmonic : Def := ⟨1, 2, false,
  (.cons
  (.ret (.call f__law_sum (.cons (.lc (.name 1) (.range (.con (.int 1)) (.op .add (.cons (.var 0) (.cons (.con (.int 1)) .nil)))) (.con (.bl true)) (.tup (.cons (.con (.int 1)) (.cons (.var 1) .nil)))) .nil) []))
  .nil)⟩
/-- slots: [_law_amount, _law_rows, _law_value, _law_most_here, _law_size] -/
def c__law_is_fair : Def := ⟨3, 5, false,
  (.cons
  (.if_ (.or (.not (.op (.isi .tup) (.cons (.var 2) .nil))) (.or (.op .ne (.cons (.op .len (.cons (.look 2) .nil)) (.cons (.con (.int 2)) .nil))) (.or (.not (.op (.isi .tup) (.cons (.op .at (.cons (.look 2) (.cons (.con (.int 0)) .nil))) .nil))) (.op .ne (.cons (.op .len (.cons (.op .at (.cons (.look 2) (.cons (.con (.int 0)) .nil))) .nil)) (.cons (.var 1) .nil)))))) (.cons
    (.ret (.con (.bl false)))
    .nil) .nil)
  (.cons
  (.if_ (.or (.not (.op .all (.cons (.lc (.name 4) (.seq (.op .at (.cons (.look 2) (.cons (.con (.int 0)) .nil)))) (.con (.bl true)) (.call f__law_is_int (.cons (.var 4) (.cons (.con (.int 1)) .nil)) [])) .nil))) (.op .ne (.cons (.op .int (.cons (.op .sum (.cons (.op .at (.cons (.look 2) (.cons (.con (.int 0)) .nil))) .nil)) .nil)) (.cons (.var 0) .nil)))) (.cons
    (.ret (.con (.bl false)))
    .nil) .nil)
  (.cons
  (.asg 3 (.op .fdiv (.cons (.op .sub (.cons (.op .add (.cons (.var 0) (.cons (.var 1) .nil))) (.cons (.con (.int 1)) .nil))) (.cons (.var 1) .nil))))
  (.cons
  (.if_ (.or (.op .ne (.cons (.op .list (.cons (.op .at (.cons (.look 2) (.cons (.con (.int 0)) .nil))) .nil)) (.cons (.op .rev (.cons (.op .sorted (.cons (.op .at (.cons (.look 2) (.cons (.con (.int 0)) .nil))) .nil)) .nil)) .nil))) (.op .ne (.cons (.op .max (.cons (.op .at (.cons (.look 2) (.cons (.con (.int 0)) .nil))) .nil)) (.cons (.var 3) .nil)))) (.cons
    (.ret (.con (.bl false)))
    .nil) .nil)
  (.cons
  (.ret (.op .eq (.cons (.op .repr (.cons (.op .at (.cons (.look 2) (.cons (.con (.int 1)) .nil))) .nil)) (.cons (.op .repr (.cons (.call f__law_harmonic (.cons (.var 3) .nil) []) .nil)) .nil))))
  .nil)))))⟩
/-- slots: [_law_amount, _law_rows, _law_most_here, _law_found, _law_left, _law_spot, _law_size, _law_even] -/
def c__law_shapes : Def := ⟨2, 8, false,
  (.cons
  (.asg 2 (.op .fdiv (.cons (.op .sub (.cons (.op .add (.cons (.var 0) (.cons (.var 1) .nil))) (.cons (.con (.int 1)) .nil))) (.cons (.var 1) .nil))))
  (.cons
  (.par 3 4 (.lst .nil) (.var 0))
  (.cons
  (.for_ (.name 5) (.range (.con (.int 0)) (.var 1)) (.cons
    (.asg 6 (.op .max (.cons (.con (.int 1)) (.cons (.op .min (.cons (.look 2) (.cons (.op .sub (.cons (.var 4) (.cons (.op .sub (.cons (.op .sub (.cons (.var 1) (.cons (.var 5) .nil))) (.cons (.con (.int 1)) .nil))) .nil))) .nil))) .nil))))
    (.cons
    (.app 3 (.var 6))
    (.cons
    (.asg 4 (.op .sub (.cons (.var 4) (.cons (.var 6) .nil))))
    .nil))))
  (.cons
  (.asg 7 (.lc (.name 5) (.range (.con (.int 0)) (.var 1)) (.con (.bl true)) (.op .add (.cons (.op .fdiv (.cons (.var 0) (.cons (.var 1) .nil))) (.cons (.op .int (.cons (.op .lt (.cons (.var 5) (.cons (.op .mod (.cons (.var 0) (.cons (.var 1) .nil))) .nil))) .nil)) .nil)))))
  (.cons
  (.ret (.lst (.cons (.op .tuple (.cons (.var 3) .nil)) (.cons (.op .tuple (.cons (.var 7) .nil)) (.cons (.op .tuple (.cons (.op .add (.cons (.lst (.cons (.op .add (.cons (.op .sub (.cons (.var 0) (.cons (.var 1) .nil))) (.cons (.con (.int 1)) .nil))) .nil)) (.cons (.op .mul (.cons (.lst (.cons (.con (.int 1)) .nil)) (.cons (.op .sub (.cons (.var 1) (.cons (.con (.int 1)) .nil))) .nil))) .nil))) .nil)) .nil)))))
  .nil)))))⟩
/-- slots: [_law_pot, _law_lap, _law_amount, _law_rows, _law_told, _law_found, _law_some, _law_value, _law_size, _law_turn] -/
def c__law_right : Def := ⟨1, 10, true,
  (.cons
  (.for_ (.name 1) (.range (.con (.int 0)) (.con (.int 6))) (.cons
    (.asg 2 (.op .add (.cons (.con (.int 1)) (.cons (.callM f__law_take 0 (.cons (.con (.int 20)) .nil)) .nil))))
    (.cons
    (.asg 3 (.op .add (.cons (.con (.int 1)) (.cons (.callM f__law_take 0 (.cons (.var 2) .nil)) .nil))))
    (.cons
    (.asg 4 (.call f_fair (.cons (.var 2) (.cons (.var 3) .nil)) []))
    (.cons
    (.asg 5 (.lst (.cons (.var 4) (.cons (.op .list (.cons (.var 4) .nil)) (.cons (.op .add (.cons (.var 4) (.cons (.tup (.cons (.con .non) .nil)) .nil))) (.cons (.op .slHi (.cons (.look 4) (.cons (.con (.int 1)) .nil))) (.cons (.op .rev (.cons (.var 4) .nil)) (.cons (.con .non) (.cons (.tup .nil) (.cons (.callM f__law_odd_one 0 .nil) .nil))))))))))
    (.cons
    (.for_ (.name 6) (.seq (.call f__law_shapes (.cons (.var 2) (.cons (.var 3) .nil)) [])) (.cons
      (.ext 5 (.lst (.cons (.tup (.cons (.var 6) (.cons (.op .at (.cons (.look 4) (.cons (.con (.int 1)) .nil))) .nil))) (.cons (.tup (.cons (.op .rev (.cons (.var 6) .nil)) (.cons (.op .at (.cons (.look 4) (.cons (.con (.int 1)) .nil))) .nil))) (.cons (.tup (.cons (.var 6) (.cons (.call f__law_harmonic (.cons (.op .at (.cons (.look 6) (.cons (.con (.int 0)) .nil))) .nil) []) .nil))) .nil)))))
      (.cons
      (.app 5 (.tup (.cons (.op .list (.cons (.var 6) .nil)) (.cons (.op .at (.cons (.look 4) (.cons (.con (.int 1)) .nil))) .nil))))
      (.cons
      (.ext 5 (.lst (.cons (.tup (.cons (.op .slLo (.cons (.look 6) (.cons (.con (.int 1)) .nil))) (.cons (.op .at (.cons (.look 4) (.cons (.con (.int 1)) .nil))) .nil))) (.cons (.tup (.cons (.op .add (.cons (.var 6) (.cons (.tup (.cons (.con (.int 0)) .nil)) .nil))) (.cons (.op .at (.cons (.look 4) (.cons (.con (.int 1)) .nil))) .nil))) (.cons (.tup (.cons (.op .add (.cons (.op .slHi (.cons (.look 6) (.cons (.op .neg (.cons (.con (.int 1)) .nil)) .nil))) (.cons (.tup (.cons (.op .add (.cons (.op .at (.cons (.look 6) (.cons (.op .neg (.cons (.con (.int 1)) .nil)) .nil))) (.cons (.con (.int 1)) .nil))) .nil)) .nil))) (.cons (.op .at (.cons (.look 4) (.cons (.con (.int 1)) .nil))) .nil))) .nil)))))
      .nil))))
    (.cons
    (.app 5 (.tup (.cons (.op .at (.cons (.look 4) (.cons (.con (.int 0)) .nil))) (.cons (.tup (.cons (.op .mul (.cons (.op .at (.cons (.op .at (.cons (.look 4) (.cons (.con (.int 1)) .nil))) (.cons (.con (.int 0)) .nil))) (.cons (.con (.int 2)) .nil))) (.cons (.op .mul (.cons (.op .at (.cons (.op .at (.cons (.look 4) (.cons (.con (.int 1)) .nil))) (.cons (.con (.int 1)) .nil))) (.cons (.con (.int 2)) .nil))) .nil))) .nil))))
    (.cons
    (.app 5 (.tup (.cons (.op .tuple (.cons (.lc (.name 8) (.seq (.op .at (.cons (.look 4) (.cons (.con (.int 0)) .nil)))) (.con (.bl true)) (.op .eq (.cons (.var 8) (.cons (.con (.int 1)) .nil)))) .nil)) (.cons (.op .at (.cons (.look 4) (.cons (.con (.int 1)) .nil))) .nil))))
    (.cons
    (.for_ (.name 7) (.seq (.op .add (.cons (.var 5) (.cons (.lc (.name 9) (.range (.con (.int 0)) (.con (.int 10))) (.con (.bl true)) (.callM f__law_bent 0 (.cons (.var 4) .nil))) .nil)))) (.cons
      (.if_ (.op .ne (.cons (.op .repr (.cons (.call f_shows_fair (.cons (.var 2) (.cons (.var 3) (.cons (.var 7) .nil))) []) .nil)) (.cons (.op .repr (.cons (.call f__law_is_fair (.cons (.var 2) (.cons (.var 3) (.cons (.var 7) .nil))) []) .nil)) .nil))) (.cons
        (.ret (.con (.bl false)))
        .nil) .nil)
      .nil))
    .nil)))))))))
  (.cons
  (.ret (.con (.bl true)))
  .nil))⟩
/-- slots: [_law_script, _law_place] -/
def c_law : Def := ⟨1, 2, false,
  (.cons
  (.ret (.op .all (.cons (.lc (.name 1) (.seq (.call f__law_cells (.cons (.var 0) (.cons (.con (.int 4)) .nil)) [])) (.con (.bl true)) (.call f__law_right (.cons (.call f__law_draws (.cons (.var 0) (.cons (.var 1) .nil)) []) .nil) [])) .nil)))
  .nil)⟩
end PV

set_option Elab.async false
set_option linter.all false
set_option maxRecDepth 100000
set_option maxHeartbeats 4000000
/-! SRat: the defs about ratios. -/
namespace PV
local macro_rules | `(tactic| walk_at "yy") => `(tactic| first
  | ((with_reducible refine gE ?_); first
    | ((with_reducible refine' Y.var ?h1 ?_); (case h1 => rfl))
    | with_reducible first | refine Y.op ?_ | refine Y.con ?_ | refine Y.call ?_ | refine Y.tup ?_ | refine Y.or ?_ | refine Y.and ?_ | refine Y.not ?_ | refine Y.ite ?_ | refine Y.lst ?_)
  | ((with_reducible refine gA ?_); first
    | ((with_reducible refine' Y.alook ?h1 ?h2 ?_); (case h1 => rfl); (case h2 => rfl))
    | ((with_reducible refine' Y.acons ?h1 ?_); (case h1 => rfl))
    | with_reducible refine Y.anil ?_)
  | ((with_reducible refine gO ?_); first
    | with_reducible first | refine Y.add ?_ | refine Y.subI ?_ | refine Y.lt ?_ | refine Y.le ?_ | refine Y.gt ?_ | refine Y.ge ?_ | refine Y.intI ?_ | refine Y.eqI ?_ | refine Y.neI ?_ | refine Y.isi ?_ | refine Y.lenT ?_ | refine Y.lenL ?_ | refine Y.neg ?_ | refine Y.abs ?_ | refine Y.intB ?_
    | ((with_reducible refine' Y.at ?h1 ?_); (case h1 => rfl))
    | ((with_reducible refine' Y.mod ?h1 ?_); (case h1 => first | assumption | decide | omega))
    | ((with_reducible refine' Y.pr ?h1 ?h2 ?_); (case h1 => rfl); (case h2 => rfl)))
  | with_reducible first | refine Exists.intro _ (And.intro FrIs.val ?_) | refine Kn.nx ?_ | refine Kn.rt ?_
  | ((with_reducible refine gB ?_); first
    | with_reducible first | refine Y.onT ?_ | refine Y.onF ?_
    | ((with_reducible refine' Y.onTe ?h1 ?_); (case h1 => rfl))
    | ((with_reducible refine' Y.onFe ?h1 ?_); (case h1 => rfl)))
  | ((with_reducible refine gP ?_); (with_reducible first | refine Y.pcons ?_ | refine Y.pnil ?_))
  | ((with_reducible refine gL ?_); (with_reducible first | refine Y.cons ?_ | refine Y.nil ?_))
  | ((with_reducible refine gS ?_); first
    | with_reducible first | refine Y.asg ?_ | refine Y.if ?_ | refine Y.exp ?_ | refine Y.pass ?_
    | ((with_reducible refine' Y.ret ?h1 ?_); (case h1 => rfl))
    | ((with_reducible refine' Y.retV ?h1 ?_); (case h1 => rfl))
    | ((with_reducible refine' Y.par ?h1 ?_); (case h1 => rfl)))
  | with_reducible first | refine Ret.rt ?_ | refine Ret.nx ?_
  | ((with_reducible refine' And.intro ?h1 ?_); (case h1 => exact of_decide_eq_true rfl); (try dsimp only [List.set_cons_zero, List.set_cons_succ]))
  | ((with_reducible refine gX ?_); with_reducible first | refine Exists.intro _ (And.intro rfl ?_) | refine Exists.intro _ (And.intro FrIs.lst ?_) | refine Exists.intro _ (And.intro (.cons .val (.cons .val .nil)) ?_) | refine Exists.intro _ (And.intro (.cons .val .nil) ?_) | refine Exists.intro _ (And.intro FrsIs.nil ?_))
  | ((with_reducible refine' RetM.rt ?h1 ?_); (case h1 => rfl))
  | ((with_reducible refine' RetM.nx ?h1 ?_); (case h1 => rfl))
  | with_reducible refine Y.ok ?_)
local macro_rules | `(tactic| walk_at "yd") => `(tactic| ((try dsimp only [List.map, List.cons_append, List.nil_append, List.append_nil, List.replicate, Nat.sub_self, Nat.reduceSub, vals]); (repeat walk_at "yy")))
section
variable {rp : D → Option (List Nat)} {sub : Sub} {T : Tab} {k : Nat}
theorem absI (i : Int) : (if i < 0 then -i else i) = (i.natAbs : Int) := by split <;> omega
theorem common_ok (hT : T f_common = some c_common) {i j : Int} {m : Nat} (hm : m ≤ 400000) (hj : j.natAbs < 2 ^ m) : Y (calls rp sub T (k + 1) f_common [.val (.int i), .val (.int j)]) fun p _ => p = .val (.int (Int.gcd i j)) := by
  refine Y.def hT rfl rfl rfl ?_
  walk_at "yd"
  refine Y.while ?_
  rw [absI, absI]
  refine Y.of_eq (loopW_gcd (fun a b => [some (.val (.int a)), some (.val (.int b))]) (fun a b => Y.eq ?_) (fun a b hb => Y.eq ?_) m fuel i.natAbs j.natAbs hj (by show 2 * m + 1 ≤ 1000000; omega)) ?_
  · walk_at "yd"
    exact ⟨rfl, rfl⟩
  · have : b ≠ 0 := by omega
    walk_at "yd"
    exact ⟨rfl, rfl⟩
  · walk_at "yd"
    rfl
theorem fdiv_exact {a m c : Int} (hm : m ≠ 0) (h : a = m * c) : a.fdiv m = c := by
  rw [h]
  exact Int.mul_fdiv_cancel_left _ hm
theorem ratio_val {i j : Int} (h0 : j ≠ 0) (s : Int) (hs : s = if j < 0 then -1 else 1) : (((i.gcd j : Int) * s) ≠ 0) ∧ i.fdiv ((i.gcd j : Int) * s) = (Rat.divInt i j).num ∧ j.fdiv ((i.gcd j : Int) * s) = ((Rat.divInt i j).den : Int) := by
  have hg : (i.gcd j : Int) ≠ 0 := by
    have : i.gcd j ≠ 0 := fun z => h0 (Int.gcd_eq_zero_iff.mp z).2
    exact_mod_cast this
  have hgp : (0 : Int) < (i.gcd j : Int) := by omega
  obtain ⟨c, hc⟩ : (i.gcd j : Int) ∣ i := Int.gcd_dvd_left ..
  obtain ⟨d, hd⟩ : (i.gcd j : Int) ∣ j := Int.gcd_dvd_right ..
  have hcomm : (j.gcd i : Int) = (i.gcd j : Int) := by rw [Int.gcd_comm]
  have hs2 : s * s = 1 := by rw [hs]; split <;> rfl
  have hs0 : s ≠ 0 := by intro z; rw [z] at hs2; simp at hs2
  have hsg : j.sign = s := by
    rw [hs]
    split
    · exact Int.sign_eq_neg_one_of_neg (by assumption)
    · exact Int.sign_eq_one_of_pos (by omega)
  have hm : ((i.gcd j : Int) * s) ≠ 0 := Int.mul_ne_zero hg hs0
  refine ⟨hm, ?_, ?_⟩
  · rw [Rat.num_divInt, hcomm, hsg]
    have e1 : i = ((i.gcd j : Int) * s) * (s * c) := by
      have : ((i.gcd j : Int) * s) * (s * c) = (s * s) * ((i.gcd j : Int) * c) := by
        grind
      rw [this, hs2, Int.one_mul]
      exact hc
    have e2 : s * i / (i.gcd j : Int) = s * c := by
      have : s * i = (i.gcd j : Int) * (s * c) := by
        conv => lhs; rw [hc]
        simp only [Int.mul_left_comm]
      rw [this]
      exact Int.mul_ediv_cancel_left _ hg
    rw [e2]
    exact fdiv_exact hm e1
  · rw [Rat.den_divInt, if_neg h0]
    have e1 : j = ((i.gcd j : Int) * s) * (s * d) := by
      have : ((i.gcd j : Int) * s) * (s * d) = (s * s) * ((i.gcd j : Int) * d) := by
        grind
      rw [this, hs2, Int.one_mul]
      exact hd
    rw [fdiv_exact hm e1]
    have hsd : 0 ≤ s * d := by
      rw [hs]
      split
      · rename_i hn
        rw [hd] at hn
        have : d < 0 := by
          rcases Int.lt_or_le d 0 with z | z
          · exact z
          · have := Int.mul_nonneg (Int.le_of_lt hgp) z
            omega
        omega
      · rename_i hn
        have : 0 ≤ d := by
          rcases Int.lt_or_le d 0 with z | z
          · have := Int.mul_neg_of_pos_of_neg hgp z
            omega
          · exact z
        omega
    have en : j.natAbs = i.gcd j * (s * d).natAbs := by
      have e3 := congrArg Int.natAbs hd
      rw [Int.natAbs_mul] at e3
      rw [e3, Int.natAbs_mul]
      have : s.natAbs = 1 := by rw [hs]; split <;> rfl
      rw [this]
      simp
    have ed : j.natAbs / j.gcd i = (s * d).natAbs := by
      rw [Int.gcd_comm, en]
      exact Nat.mul_div_cancel_left _ (by omega)
    rw [ed]
    omega
theorem ratio_ok (hT : T f_ratio = some c_ratio) (hc : T f_common = some c_common) {i j : Int} {m : Nat} (hm : m ≤ 8999) (h0 : j ≠ 0) (hj : j.natAbs < 2 ^ m) : Y (calls rp sub T (k + 2) f_ratio [.val (.int i), .val (.int j)]) fun p _ => p = .val (rD (Rat.divInt i j)) := by
  refine Y.def hT rfl rfl rfl ?_
  walk_at "yd"
  refine (common_ok hc (Nat.le_trans hm (by decide)) hj).mono fun p _ e => ?_
  subst e
  have gle : (i.gcd j : Int).natAbs < 2 ^ m := by
    have : i.gcd j ≤ j.natAbs := Nat.le_of_dvd (by omega) (Nat.gcd_dvd_right ..)
    simp
    omega
  have main : ∀ s : Int, s = (if j < 0 then -1 else 1) → okMul (i.gcd j) s = true ∧ okDiv ((i.gcd j : Int) * s) = true := fun s hs => by
    have hs1 : s.natAbs < 2 ^ 1 := by rw [hs]; split <;> decide
    refine ⟨okMul_of gle hs1 (by omega), okDiv_of (ratio_val h0 s hs).1 (b := m) ?_ (by omega)⟩
    rw [Int.natAbs_mul]
    have : s.natAbs = 1 := by rw [hs]; split <;> rfl
    rw [this, Nat.mul_one]
    exact gle
  walk_at "yd"
  refine Y.onB (fun h => ?_) (fun h => ?_)
  · have hn : j < 0 := of_decide_eq_true h
    have hs : (-1 : Int) = if j < 0 then -1 else 1 := by rw [if_pos hn]
    obtain ⟨m1, m2⟩ := main _ hs
    obtain ⟨_, v1, v2⟩ := ratio_val (i := i) h0 _ hs
    walk_at "yd"
    refine Y.mul m1 ?_
    walk_at "yd"
    refine Y.fdiv m2 ?_
    walk_at "yd"
    refine Y.fdiv m2 ?_
    walk_at "yd"
    show P.val _ = P.val (.tup [.int _, .int _])
    rw [v1, v2]
  · have hn : ¬ j < 0 := of_decide_eq_false h
    have hs : (1 : Int) = if j < 0 then -1 else 1 := by rw [if_neg hn]
    obtain ⟨m1, m2⟩ := main _ hs
    obtain ⟨_, v1, v2⟩ := ratio_val (i := i) h0 _ hs
    walk_at "yd"
    refine Y.mul m1 ?_
    walk_at "yd"
    refine Y.fdiv m2 ?_
    walk_at "yd"
    refine Y.fdiv m2 ?_
    walk_at "yd"
    show P.val _ = P.val (.tup [.int _, .int _])
    rw [v1, v2]
end
end PV

set_option Elab.async false
set_option linter.all false
set_option maxRecDepth 100000
set_option maxHeartbeats 4000000
/-! SNum: plain values: integers, tuples, ratios. -/
namespace PV
local macro_rules | `(tactic| walk_at "yy") => `(tactic| first
  | ((with_reducible refine gE ?_); first
    | ((with_reducible refine' Y.var ?h1 ?_); (case h1 => rfl))
    | with_reducible first | refine Y.op ?_ | refine Y.con ?_ | refine Y.call ?_ | refine Y.tup ?_ | refine Y.or ?_ | refine Y.and ?_ | refine Y.not ?_ | refine Y.ite ?_ | refine Y.lst ?_)
  | ((with_reducible refine gA ?_); first
    | ((with_reducible refine' Y.alook ?h1 ?h2 ?_); (case h1 => rfl); (case h2 => rfl))
    | ((with_reducible refine' Y.acons ?h1 ?_); (case h1 => rfl))
    | with_reducible refine Y.anil ?_)
  | ((with_reducible refine gO ?_); first
    | with_reducible first | refine Y.add ?_ | refine Y.subI ?_ | refine Y.lt ?_ | refine Y.le ?_ | refine Y.gt ?_ | refine Y.ge ?_ | refine Y.intI ?_ | refine Y.eqI ?_ | refine Y.neI ?_ | refine Y.isi ?_ | refine Y.lenT ?_ | refine Y.lenL ?_ | refine Y.neg ?_ | refine Y.abs ?_ | refine Y.intB ?_
    | ((with_reducible refine' Y.at ?h1 ?_); (case h1 => rfl))
    | ((with_reducible refine' Y.mod ?h1 ?_); (case h1 => first | assumption | decide | omega))
    | ((with_reducible refine' Y.pr ?h1 ?h2 ?_); (case h1 => rfl); (case h2 => rfl)))
  | with_reducible first | refine Exists.intro _ (And.intro FrIs.val ?_) | refine Kn.nx ?_ | refine Kn.rt ?_
  | ((with_reducible refine gB ?_); first
    | with_reducible first | refine Y.onT ?_ | refine Y.onF ?_
    | ((with_reducible refine' Y.onTe ?h1 ?_); (case h1 => rfl))
    | ((with_reducible refine' Y.onFe ?h1 ?_); (case h1 => rfl)))
  | ((with_reducible refine gP ?_); (with_reducible first | refine Y.pcons ?_ | refine Y.pnil ?_))
  | ((with_reducible refine gL ?_); (with_reducible first | refine Y.cons ?_ | refine Y.nil ?_))
  | ((with_reducible refine gS ?_); first
    | with_reducible first | refine Y.asg ?_ | refine Y.if ?_ | refine Y.exp ?_ | refine Y.pass ?_
    | ((with_reducible refine' Y.ret ?h1 ?_); (case h1 => rfl))
    | ((with_reducible refine' Y.retV ?h1 ?_); (case h1 => rfl))
    | ((with_reducible refine' Y.par ?h1 ?_); (case h1 => rfl)))
  | with_reducible first | refine Ret.rt ?_ | refine Ret.nx ?_
  | ((with_reducible refine' And.intro ?h1 ?_); (case h1 => exact of_decide_eq_true rfl); (try dsimp only [List.set_cons_zero, List.set_cons_succ]))
  | ((with_reducible refine gX ?_); with_reducible first | refine Exists.intro _ (And.intro rfl ?_) | refine Exists.intro _ (And.intro FrIs.lst ?_) | refine Exists.intro _ (And.intro (.cons .val (.cons .val .nil)) ?_) | refine Exists.intro _ (And.intro (.cons .val .nil) ?_) | refine Exists.intro _ (And.intro FrsIs.nil ?_))
  | ((with_reducible refine' RetM.rt ?h1 ?_); (case h1 => rfl))
  | ((with_reducible refine' RetM.nx ?h1 ?_); (case h1 => rfl))
  | with_reducible refine Y.ok ?_)
local macro_rules | `(tactic| walk_at "yd") => `(tactic| ((try dsimp only [List.map, List.cons_append, List.nil_append, List.append_nil, List.replicate, Nat.sub_self, Nat.reduceSub, vals]); (repeat walk_at "yy")))
section
variable {rp : D → Option (List Nat)} {sub : Sub} {T : Tab} {k : Nat}
def oD : Option Int → D
  | none => .non
  | some i => .int i
def isIntB (v : D) (lo hi : Option Int) : Bool := match v with
  | .int i => (match lo with | some l => decide (l ≤ i) | none => true) && (match hi with | some h => decide (i ≤ h) | none => true)
  | _ => false
theorem is_integer_ok (hT : T f_is_integer = some c_is_integer) (v : D) (lo hi : Option Int) : Y (calls rp sub T (k + 1) f_is_integer [.val v, .val (oD lo), .val (oD hi)]) fun p _ => p = .val (.bl (isIntB v lo hi)) := by
  refine Y.def hT rfl rfl rfl ?_
  cases v with
  | int i =>
    cases lo with
    | none =>
      cases hi with
      | none => walk_at "yd"; rfl
      | some h => walk_at "yd"; simp [isIntB]
    | some l =>
      cases hi with
      | none =>
        walk_at "yd"
        refine Y.onB (fun h => ?_) (fun h => ?_)
        · walk_at "yd"; simp [isIntB, of_decide_eq_true h]
        · walk_at "yd"; simp [isIntB]; simpa using h
      | some u =>
        walk_at "yd"
        refine Y.onB (fun h => ?_) (fun h => ?_)
        · walk_at "yd"; simp [isIntB, of_decide_eq_true h]
        · walk_at "yd"
          have := of_decide_eq_false h
          simp [isIntB, this]
  | _ => walk_at "yd"; rfl
def isTupB (v : D) (lo : Int) (hi : Option Int) : Bool := match v with
  | .tup xs => decide (lo ≤ (xs.length : Int)) && (match hi with | some h => decide ((xs.length : Int) ≤ h) | none => true)
  | _ => false
theorem is_tuple_ok (hT : T f_is_tuple = some c_is_tuple) (v : D) (lo : Int) (hi : Option Int) : Y (calls rp sub T (k + 1) f_is_tuple [.val v, .val (.int lo), .val (oD hi)]) fun p _ => p = .val (.bl (isTupB v lo hi)) := by
  refine Y.def hT rfl rfl rfl ?_
  cases v with
  | tup xs =>
    walk_at "yd"
    refine Y.onB (fun h => ?_) (fun h => ?_)
    · walk_at "yd"
      have : ¬ lo ≤ (xs.length : Int) := by have := of_decide_eq_true h; omega
      simp [isTupB, this]
    · have : lo ≤ (xs.length : Int) := by have := of_decide_eq_false h; omega
      cases hi with
      | none => walk_at "yd"; simp [isTupB, this]
      | some u => walk_at "yd"; simp [isTupB, this]
  | _ => walk_at "yd"; rfl
def isRatB (v : D) : Bool := match v with
  | .tup [.int n, .int d] => decide (1 ≤ d) && decide (n.gcd d = 1)
  | _ => false
/-- no integer of it is great -/
def tameR (v : D) : Prop := ∀ n d, v = .tup [.int n, .int d] → d.natAbs < 2 ^ 8000
theorem isTup2 {v : D} (h : isTupB v 2 (some 2) = true) : ∃ a b, v = .tup [a, b] := by
  cases v <;> simp only [isTupB] at h <;> first | (cases h; done) | skip
  rename_i xs
  simp only [Bool.and_eq_true, decide_eq_true_eq] at h
  match xs, h with
  | [a, b], _ => exact ⟨a, b, rfl⟩
  | [], h => simp at h
  | [_], h => simp at h
  | _ :: _ :: _ :: _, h => simp at h; omega
theorem isInt_some {v : D} {lo hi : Option Int} (h : isIntB v lo hi = true) : ∃ i, v = .int i := by
  cases v <;> simp only [isIntB] at h <;> first | (cases h; done) | exact ⟨_, rfl⟩
theorem isRat_no : ∀ {v : D}, isTupB v 2 (some 2) = false → isRatB v = false
  | .tup [a, b], h => by simp [isTupB] at h
  | .tup [], _ => rfl
  | .tup [a], _ => by cases a <;> rfl
  | .tup (a :: b :: c :: r), _ => by cases a <;> cases b <;> rfl
  | .non, _ => rfl | .bl _, _ => rfl | .int _, _ => rfl | .str _, _ => rfl | .lst _, _ => rfl | .dct _, _ => rfl | .obj _ _, _ => rfl | .exc _ _, _ => rfl | .scr _, _ => rfl
theorem is_ratio_ok (h1 : T f_is_ratio = some c_is_ratio) (h2 : T f_is_tuple = some c_is_tuple) (h3 : T f_is_integer = some c_is_integer) (h4 : T f_common = some c_common) {v : D} (hv : tameR v) : Y (calls rp sub T (k + 2) f_is_ratio [.val v]) fun p _ => p = .val (.bl (isRatB v)) := by
  refine Y.def h1 rfl rfl rfl ?_
  walk_at "yd"
  refine (is_tuple_ok h2 v 2 (some 2)).mono fun p _ e => ?_
  subst e
  walk_at "yd"
  refine Y.onB (fun h => ?_) (fun h => ?_)
  · walk_at "yd"
    rw [isRat_no (by simpa using h)]
  · have h : isTupB v 2 (some 2) = true := by simpa using h
    obtain ⟨a, b, rfl⟩ := isTup2 h
    walk_at "yd"
    refine (is_integer_ok h3 a none none).mono fun p _ e => ?_
    subst e
    walk_at "yd"
    refine Y.onB (fun ha => ?_) (fun ha => ?_)
    · walk_at "yd"
      cases a <;> first | (simp [isIntB] at ha; done) | rfl
    · obtain ⟨n, rfl⟩ := isInt_some (v := a) (lo := none) (hi := none) (by simpa using ha)
      walk_at "yd"
      refine (is_integer_ok h3 b (some 1) none).mono fun p _ e => ?_
      subst e
      walk_at "yd"
      refine Y.onB (fun hb => ?_) (fun hb => ?_)
      · walk_at "yd"
        have hb' : isIntB b (some 1) none = false := by simpa using hb
        have hr : isRatB (.tup [.int n, b]) = false := by
          cases b with
          | int d =>
            have : ¬ 1 ≤ d := by simpa [isIntB] using hb'
            simp [isRatB, this]
          | _ => rfl
        rw [hr]
      · have hb : isIntB b (some 1) none = true := by simpa using hb
        obtain ⟨d, rfl⟩ := isInt_some hb
        have h1d : 1 ≤ d := by simpa [isIntB] using hb
        walk_at "yd"
        refine (common_ok h4 (m := 8000) (by decide) (hv n d rfl)).mono fun p _ e => ?_
        subst e
        walk_at "yd"
        simp [isRatB, h1d]
        omega
def isShB (v : D) : Bool := isRatB v && (match v with
  | .tup (.int n :: _) => decide (0 ≤ n)
  | _ => false)
theorem isRat_some {v : D} (h : isRatB v = true) : ∃ n d, v = .tup [.int n, .int d] ∧ 1 ≤ d ∧ n.gcd d = 1 := by
  unfold isRatB at h
  split at h
  · rename_i n d
    simp only [Bool.and_eq_true, decide_eq_true_eq] at h
    exact ⟨n, d, rfl, h.1, h.2⟩
  · cases h
theorem is_share_ok (h0 : T f_is_share = some c_is_share) (h1 : T f_is_ratio = some c_is_ratio) (h2 : T f_is_tuple = some c_is_tuple) (h3 : T f_is_integer = some c_is_integer) (h4 : T f_common = some c_common) {v : D} (hv : tameR v) : Y (calls rp sub T (k + 3) f_is_share [.val v]) fun p _ => p = .val (.bl (isShB v)) := by
  refine Y.def h0 rfl rfl rfl ?_
  walk_at "yd"
  refine (is_ratio_ok h1 h2 h3 h4 hv).mono fun p _ e => ?_
  subst e
  refine Y.onB (fun h => ?_) (fun h => ?_)
  · obtain ⟨n, d, rfl, _⟩ := isRat_some h
    walk_at "yd"
    simp [isShB, h]
  · walk_at "yd"
    simp [isShB, h]
/-- numbers of a ratio below 2 ^ m -/
def Small (m : Nat) (q : Rat) : Prop := q.num.natAbs < 2 ^ m ∧ q.den < 2 ^ m
theorem mul_lt {a b m n : Nat} (ha : a < 2 ^ m) (hb : b < 2 ^ n) : a * b < 2 ^ (m + n) := by
  rw [Nat.pow_add]
  rcases Nat.eq_zero_or_pos b with z | z
  · subst z
    rw [Nat.mul_zero]
    exact Nat.mul_pos (Nat.pow_pos (by decide)) (Nat.pow_pos (by decide))
  · exact Nat.lt_of_lt_of_le (Nat.mul_lt_mul_of_pos_right ha z) (Nat.mul_le_mul_left _ (Nat.le_of_lt hb))
theorem add_divInt (p q : Rat) : Rat.divInt (p.num * q.den + q.num * p.den) (p.den * q.den) = p + q := by
  rw [Rat.add_def']
  rfl
theorem plus_ok (h0 : T f_plus = some c_plus) (h1 : T f_ratio = some c_ratio) (h2 : T f_common = some c_common) {p q : Rat} {m : Nat} (hm : 2 * m ≤ 8000) (hp : Small m p) (hq : Small m q) : Y (calls rp sub T (k + 3) f_plus [.val (rD p), .val (rD q)]) fun r _ => r = .val (rD (p + q)) := by
  refine Y.def h0 rfl rfl rfl ?_
  have hpd : ((p.den : Int)).natAbs < 2 ^ m := by simpa using hp.2
  have hqd : ((q.den : Int)).natAbs < 2 ^ m := by simpa using hq.2
  unfold rD
  walk_at "yd"
  refine Y.mul (okMul_of hp.1 hqd (by omega)) ?_
  walk_at "yd"
  refine Y.mul (okMul_of hq.1 hpd (by omega)) ?_
  walk_at "yd"
  refine Y.mul (okMul_of hpd hqd (by omega)) ?_
  walk_at "yd"
  have hd : ((p.den : Int) * (q.den : Int)).natAbs < 2 ^ (m + m) := by
    rw [Int.natAbs_mul]
    exact mul_lt hpd hqd
  have h0 : ((p.den : Int) * (q.den : Int)) ≠ 0 := Int.mul_ne_zero (by exact_mod_cast p.den_nz) (by exact_mod_cast q.den_nz)
  refine (ratio_ok h1 h2 (m := m + m) (by omega) h0 hd).mono fun r _ e => ?_
  rw [e, add_divInt]
  rfl
end
end PV

set_option Elab.async false
set_option linter.all false
set_option maxRecDepth 100000
set_option maxHeartbeats 4000000
/-! SSum: sums of ratios, the program's and the law's. -/
namespace PV
local macro_rules | `(tactic| walk_at "yy") => `(tactic| first
  | ((with_reducible refine gE ?_); first
    | ((with_reducible refine' Y.var ?h1 ?_); (case h1 => rfl))
    | with_reducible first | refine Y.op ?_ | refine Y.con ?_ | refine Y.call ?_ | refine Y.tup ?_ | refine Y.or ?_ | refine Y.and ?_ | refine Y.not ?_ | refine Y.ite ?_ | refine Y.lst ?_)
  | ((with_reducible refine gA ?_); first
    | ((with_reducible refine' Y.alook ?h1 ?h2 ?_); (case h1 => rfl); (case h2 => rfl))
    | ((with_reducible refine' Y.acons ?h1 ?_); (case h1 => rfl))
    | with_reducible refine Y.anil ?_)
  | ((with_reducible refine gO ?_); first
    | with_reducible first | refine Y.add ?_ | refine Y.subI ?_ | refine Y.lt ?_ | refine Y.le ?_ | refine Y.gt ?_ | refine Y.ge ?_ | refine Y.intI ?_ | refine Y.eqI ?_ | refine Y.neI ?_ | refine Y.isi ?_ | refine Y.lenT ?_ | refine Y.lenL ?_ | refine Y.neg ?_ | refine Y.abs ?_ | refine Y.intB ?_
    | ((with_reducible refine' Y.at ?h1 ?_); (case h1 => rfl))
    | ((with_reducible refine' Y.mod ?h1 ?_); (case h1 => first | assumption | decide | omega))
    | ((with_reducible refine' Y.pr ?h1 ?h2 ?_); (case h1 => rfl); (case h2 => rfl)))
  | with_reducible first | refine Exists.intro _ (And.intro FrIs.val ?_) | refine Kn.nx ?_ | refine Kn.rt ?_
  | ((with_reducible refine gB ?_); first
    | with_reducible first | refine Y.onT ?_ | refine Y.onF ?_
    | ((with_reducible refine' Y.onTe ?h1 ?_); (case h1 => rfl))
    | ((with_reducible refine' Y.onFe ?h1 ?_); (case h1 => rfl)))
  | ((with_reducible refine gP ?_); (with_reducible first | refine Y.pcons ?_ | refine Y.pnil ?_))
  | ((with_reducible refine gL ?_); (with_reducible first | refine Y.cons ?_ | refine Y.nil ?_))
  | ((with_reducible refine gS ?_); first
    | with_reducible first | refine Y.asg ?_ | refine Y.if ?_ | refine Y.exp ?_ | refine Y.pass ?_
    | ((with_reducible refine' Y.ret ?h1 ?_); (case h1 => rfl))
    | ((with_reducible refine' Y.retV ?h1 ?_); (case h1 => rfl))
    | ((with_reducible refine' Y.par ?h1 ?_); (case h1 => rfl)))
  | with_reducible first | refine Ret.rt ?_ | refine Ret.nx ?_
  | ((with_reducible refine' And.intro ?h1 ?_); (case h1 => exact of_decide_eq_true rfl); (try dsimp only [List.set_cons_zero, List.set_cons_succ]))
  | ((with_reducible refine gX ?_); with_reducible first | refine Exists.intro _ (And.intro rfl ?_) | refine Exists.intro _ (And.intro FrIs.lst ?_) | refine Exists.intro _ (And.intro (.cons .val (.cons .val .nil)) ?_) | refine Exists.intro _ (And.intro (.cons .val .nil) ?_) | refine Exists.intro _ (And.intro FrsIs.nil ?_))
  | ((with_reducible refine' RetM.rt ?h1 ?_); (case h1 => rfl))
  | ((with_reducible refine' RetM.nx ?h1 ?_); (case h1 => rfl))
  | with_reducible refine Y.ok ?_)
local macro_rules | `(tactic| walk_at "yd") => `(tactic| ((try dsimp only [List.map, List.cons_append, List.nil_append, List.append_nil, List.replicate, Nat.sub_self, Nat.reduceSub, vals]); (repeat walk_at "yy")))
section
variable {rp : D → Option (List Nat)} {sub : Sub} {T : Tab} {k : Nat}
theorem ratio_val2 {i j : Int} (h0 : j ≠ 0) (s : Int) (hs : s = if j < 0 then -1 else 1) : ((i.gcd j : Int) ≠ 0) ∧ (s * i).fdiv (i.gcd j : Int) = (Rat.divInt i j).num ∧ (s * j).fdiv (i.gcd j : Int) = ((Rat.divInt i j).den : Int) := by
  obtain ⟨h1, h2, h3⟩ := ratio_val (i := i) h0 s hs
  have hg : (i.gcd j : Int) ≠ 0 := fun z => h1 (by rw [z, Int.zero_mul])
  have hs2 : s * s = 1 := by rw [hs]; split <;> rfl
  have hs0 : s ≠ 0 := by intro z; rw [z] at hs2; simp at hs2
  obtain ⟨c, hc⟩ : (i.gcd j : Int) ∣ i := Int.gcd_dvd_left ..
  obtain ⟨d, hd⟩ : (i.gcd j : Int) ∣ j := Int.gcd_dvd_right ..
  generalize (i.gcd j : Int) = g at *
  have k1 : i.fdiv (g * s) = s * c := fdiv_exact h1 (by rw [hc]; grind)
  have k2 : j.fdiv (g * s) = s * d := fdiv_exact h1 (by rw [hd]; grind)
  refine ⟨hg, ?_, ?_⟩
  · rw [← h2, k1]
    exact fdiv_exact hg (by rw [hc]; grind)
  · rw [← h3, k2]
    exact fdiv_exact hg (by rw [hd]; grind)
theorem law_ratio_ok (hT : T f__law_ratio = some c__law_ratio) {i j : Int} {m : Nat} (hm : m ≤ 8999) (h0 : j ≠ 0) (hi : i.natAbs < 2 ^ 20000) (hj : j.natAbs < 2 ^ m) : Y (calls rp sub T (k + 1) f__law_ratio [.val (.int i), .val (.int j)]) fun p _ => p = .val (rD (Rat.divInt i j)) := by
  refine Y.def hT rfl rfl rfl ?_
  walk_at "yd"
  refine Y.while ?_
  rw [absI, absI]
  refine Y.of_eq (loopW_gcd (fun a b => [some (.val (.int i)), some (.val (.int j)), some (.val (.int a)), some (.val (.int b)), none]) (fun a b => Y.eq ?_) (fun a b hb => Y.eq ?_) m fuel i.natAbs j.natAbs hj (by show 2 * m + 1 ≤ 1000000; omega)) ?_
  · walk_at "yd"
    exact ⟨rfl, rfl⟩
  · have : b ≠ 0 := by omega
    walk_at "yd"
    exact ⟨rfl, rfl⟩
  have gle : (i.gcd j : Int).natAbs < 2 ^ m := by
    have : i.gcd j ≤ j.natAbs := Nat.le_of_dvd (by omega) (Nat.gcd_dvd_right ..)
    simp
    omega
  have main : ∀ s : Int, s = (if j < 0 then -1 else 1) → okMul s i = true ∧ okMul s j = true ∧ okDiv (i.gcd j : Int) = true := fun s hs => by
    have hs1 : s.natAbs < 2 ^ 1 := by rw [hs]; split <;> decide
    exact ⟨okMul_of hs1 hi (by decide), okMul_of hs1 hj (by omega), okDiv_of (ratio_val2 h0 s hs).1 (b := m) gle (by omega)⟩
  walk_at "yd"
  refine Y.onB (fun h => ?_) (fun h => ?_)
  · have hn : j < 0 := of_decide_eq_true h
    have hs : (-1 : Int) = if j < 0 then -1 else 1 := by rw [if_pos hn]
    obtain ⟨m1, m2, m3⟩ := main _ hs
    obtain ⟨_, v1, v2⟩ := ratio_val2 (i := i) h0 _ hs
    walk_at "yd"
    refine Y.mul m1 ?_
    walk_at "yd"
    refine Y.fdiv m3 ?_
    walk_at "yd"
    refine Y.mul m2 ?_
    walk_at "yd"
    refine Y.fdiv m3 ?_
    walk_at "yd"
    show P.val (.tup [.int ((-1 * i).fdiv (i.gcd j : Int)), .int ((-1 * j).fdiv (i.gcd j : Int))]) = P.val (.tup [.int _, .int _])
    rw [v1, v2]
  · have hn : ¬ j < 0 := of_decide_eq_false h
    have hs : (1 : Int) = if j < 0 then -1 else 1 := by rw [if_neg hn]
    obtain ⟨m1, m2, m3⟩ := main _ hs
    obtain ⟨_, v1, v2⟩ := ratio_val2 (i := i) h0 _ hs
    walk_at "yd"
    refine Y.mul m1 ?_
    walk_at "yd"
    refine Y.fdiv m3 ?_
    walk_at "yd"
    refine Y.mul m2 ?_
    walk_at "yd"
    refine Y.fdiv m3 ?_
    walk_at "yd"
    show P.val (.tup [.int ((1 * i).fdiv (i.gcd j : Int)), .int ((1 * j).fdiv (i.gcd j : Int))]) = P.val (.tup [.int _, .int _])
    rw [v1, v2]
theorem law_plus_ok (h0 : T f__law_plus = some c__law_plus) (h1 : T f__law_ratio = some c__law_ratio) {p q : Rat} {m : Nat} (hm : 2 * m ≤ 8000) (hp : Small m p) (hq : Small m q) : Y (calls rp sub T (k + 2) f__law_plus [.val (rD p), .val (rD q)]) fun r _ => r = .val (rD (p + q)) := by
  refine Y.def h0 rfl rfl rfl ?_
  have hpd : ((p.den : Int)).natAbs < 2 ^ m := by simpa using hp.2
  have hqd : ((q.den : Int)).natAbs < 2 ^ m := by simpa using hq.2
  unfold rD
  walk_at "yd"
  refine Y.mul (okMul_of hp.1 hqd (by omega)) ?_
  walk_at "yd"
  refine Y.mul (okMul_of hq.1 hpd (by omega)) ?_
  walk_at "yd"
  refine Y.mul (okMul_of hpd hqd (by omega)) ?_
  walk_at "yd"
  have hd : ((p.den : Int) * (q.den : Int)).natAbs < 2 ^ (m + m) := by
    rw [Int.natAbs_mul]
    exact mul_lt hpd hqd
  have h0 : ((p.den : Int) * (q.den : Int)) ≠ 0 := Int.mul_ne_zero (by exact_mod_cast p.den_nz) (by exact_mod_cast q.den_nz)
  have hn : (p.num * (q.den : Int) + q.num * (p.den : Int)).natAbs < 2 ^ 20000 := by
    have e1 := mul_lt hp.1 hqd
    have e2 := mul_lt hq.1 hpd
    rw [← Int.natAbs_mul] at e1 e2
    have e3 := Int.natAbs_add_le (p.num * (q.den : Int)) (q.num * (p.den : Int))
    have e4 : 2 ^ (m + m) + 2 ^ (m + m) = 2 ^ (m + m + 1) := by rw [Nat.pow_succ]; omega
    have e5 : 2 ^ (m + m + 1) ≤ 2 ^ 20000 := Nat.pow_le_pow_right (by decide) (by omega)
    generalize 2 ^ 20000 = z at *
    omega
  refine (law_ratio_ok h1 (m := m + m) (by omega) h0 hn hd).mono fun r _ e => ?_
  rw [e, add_divInt]
  rfl
/-! ### sizes -/
theorem small_add {p q : Rat} {m n : Nat} (hp : Small m p) (hq : Small n q) : Small (m + n + 1) (p + q) := by
  have hd : p.den * q.den ≠ 0 := Nat.mul_ne_zero p.den_nz q.den_nz
  obtain ⟨c, hc, e1, e2⟩ := Rat.mkRat_num_den (n := p.num * q.den + q.num * p.den) (n' := (p + q).num) (d' := (p + q).den) (z' := (p + q).den_nz) (c := (p + q).reduced) hd (by rw [← Rat.add_def'])
  have hc1 : 1 ≤ c := by omega
  have k1 := mul_lt hp.1 (show ((q.den : Int)).natAbs < 2 ^ n by simpa using hq.2)
  have k2 := mul_lt hq.1 (show ((p.den : Int)).natAbs < 2 ^ m by simpa using hp.2)
  have k3 := mul_lt hp.2 hq.2
  rw [← Int.natAbs_mul] at k1 k2
  rw [Nat.add_comm n m] at k2
  have e3 := Int.natAbs_add_le (p.num * (q.den : Int)) (q.num * (p.den : Int))
  rw [e1, Int.natAbs_mul] at e3
  have e4 : (p + q).num.natAbs * 1 ≤ (p + q).num.natAbs * (c : Int).natAbs := Nat.mul_le_mul_left _ (by simpa using hc1)
  have e5 : (p + q).den * 1 ≤ (p + q).den * c := Nat.mul_le_mul_left _ hc1
  have e6 : 2 ^ (m + n + 1) = 2 ^ (m + n) + 2 ^ (m + n) := by rw [Nat.pow_succ]; omega
  constructor
  · rw [e6]; omega
  · rw [e6]; omega
/-- 1 / n -/
def inv1 (n : Nat) : Rat := mkRat 1 n
theorem inv1_num {n : Nat} (h : 1 ≤ n) : (inv1 n).num = 1 ∧ (inv1 n).den = n := by
  have e : inv1 n = { num := 1, den := n, den_nz := by omega, reduced := by simp } := by
    unfold inv1
    rw [Rat.mk_eq_divInt, Rat.divInt_ofNat]
  rw [e]
  exact ⟨rfl, rfl⟩
theorem rD_inv1 {n : Nat} (h : 1 ≤ n) : rD (inv1 n) = .tup [.int 1, .int n] := by
  unfold rD
  rw [(inv1_num h).1, (inv1_num h).2]
/-- 1 / low + .. : so many parts -/
def Hs (low : Nat) : Nat → Rat
  | 0 => 0
  | n + 1 => Hs low n + inv1 (low + n)
theorem Hs_add (low a : Nat) : ∀ b, Hs low (a + b) = Hs low a + Hs (low + a) b
  | 0 => by simp [Hs, Rat.add_zero]
  | b + 1 => by
    show Hs low (a + b) + inv1 (low + (a + b)) = Hs low a + (Hs (low + a) b + inv1 (low + a + b))
    rw [Hs_add low a b, Rat.add_assoc, Nat.add_assoc]
theorem Hs_one (low : Nat) : Hs low 1 = inv1 low := by
  show (0 : Rat) + inv1 (low + 0) = _
  rw [Rat.zero_add]
  rfl
theorem Hs_small {low : Nat} : ∀ {n : Nat}, low + n ≤ 64 → 1 ≤ low → Small (7 * n + 1) (Hs low n)
  | 0, _, _ => (show Small 1 0 from ⟨by decide, by decide⟩)
  | n + 1, h, h1 => by
    have := small_add (Hs_small (low := low) (n := n) (by omega) h1) (q := inv1 (low + n)) (n := 6) (by
      obtain ⟨e1, e2⟩ := inv1_num (n := low + n) (by omega)
      refine ⟨by rw [e1]; decide, ?_⟩
      rw [e2]
      show low + n < 64
      omega)
    have e : 7 * (n + 1) + 1 = 7 * n + 1 + 6 + 1 := by omega
    rw [e]
    exact this
theorem Small.mono {m n : Nat} {q : Rat} (h : Small m q) (hm : m ≤ n) : Small n q :=
  ⟨Nat.lt_of_lt_of_le h.1 (Nat.pow_le_pow_right (by decide) hm), Nat.lt_of_lt_of_le h.2 (Nat.pow_le_pow_right (by decide) hm)⟩
/-! ### the program's sums -/
theorem sum_between_ok (h0 : T f_sum_between = some c_sum_between) (h1 : T f_plus = some c_plus) (h2 : T f_ratio = some c_ratio) (h3 : T f_common = some c_common) : ∀ (n k low : Nat), 1 ≤ n → 1 ≤ low → low + n ≤ 64 → n + 3 ≤ k →
    Y (calls rp sub T k f_sum_between [.val (.int low), .val (.int ((low + n : Nat) : Int))]) fun p _ => p = .val (rD (Hs low n)) := by
  intro n
  induction n using Nat.strongRecOn with
  | ind n ih =>
    intro k low hn hlow hb hk
    obtain ⟨k, rfl⟩ : ∃ j, k = j + 1 := ⟨k - 1, by omega⟩
    refine Y.def h0 rfl rfl rfl ?_
    walk_at "yd"
    refine Y.onB (fun h => ?_) (fun h => ?_)
    · have h : ((low + n : Nat) : Int) - low = 1 := of_decide_eq_true h
      have : n = 1 := by omega
      subst this
      walk_at "yd"
      rw [Hs_one, rD_inv1 hlow]
    · have h : ¬ ((low + n : Nat) : Int) - low = 1 := of_decide_eq_false h
      have hn2 : 2 ≤ n := by omega
      have em : ((low : Int) + ((low + n : Nat) : Int)).fdiv 2 = ((low + n / 2 : Nat) : Int) := by
        rw [Int.fdiv_eq_ediv_of_nonneg _ (by decide)]
        omega
      walk_at "yd"
      rw [em]
      refine (ih (n / 2) (by omega) k low (by omega) hlow (by omega) (by omega)).mono fun p _ e => ?_
      subst e
      walk_at "yd"
      have e2 : low + n = low + n / 2 + (n - n / 2) := by omega
      rw [e2]
      refine (ih (n - n / 2) (by omega) k (low + n / 2) (by omega) (by omega) (by omega) (by omega)).mono fun p _ e => ?_
      subst e
      walk_at "yd"
      obtain ⟨k, rfl⟩ : ∃ j, k = j + 3 := ⟨k - 3, by omega⟩
      refine (plus_ok h1 h2 h3 (m := 7 * n + 1) (by omega) ((Hs_small (by omega) hlow).mono (by omega)) ((Hs_small (by omega) (by omega)).mono (by omega))).mono fun p _ e => ?_
      rw [e, ← Hs_add]
      have : n / 2 + (n - n / 2) = n := by omega
      rw [this]
      walk_at "yd"
      rfl
theorem check_many_ok (h0 : T f_check_many = some c_check_many) (h1 : T f_is_integer = some c_is_integer) {n : Nat} (hn : 1 ≤ n) (hm : n ≤ 2000) : Y (calls rp sub T (k + 2) f_check_many [.val (.int n)]) fun p _ => True := by
  refine Y.def h0 rfl rfl rfl ?_
  walk_at "yd"
  refine (is_integer_ok h1 (.int n) (some 1) (some 2000)).mono fun p _ e => ?_
  have : isIntB (.int n) (some 1) (some 2000) = true := by simp [isIntB]; omega
  rw [this] at e
  subst e
  walk_at "yd"
  trivial
/-- 1 + 1/2 + .. -/
def Hm (n : Nat) : Rat := Hs 1 n
theorem loss_ok (h : T f_loss = some c_loss) (hc : T f_check_many = some c_check_many) (hi : T f_is_integer = some c_is_integer) (h0 : T f_sum_between = some c_sum_between) (h1 : T f_plus = some c_plus) (h2 : T f_ratio = some c_ratio) (h3 : T f_common = some c_common) {n k : Nat} (hn : 1 ≤ n) (hm : n ≤ 60) (hk : n + 4 ≤ k) :
    Y (calls rp sub T k f_loss [.val (.int n)]) fun p _ => p = .val (rD (Hm n)) := by
  obtain ⟨k, rfl⟩ : ∃ j, k = j + 3 := ⟨k - 3, by omega⟩
  refine Y.def h rfl rfl rfl ?_
  walk_at "yd"
  refine (check_many_ok hc hi hn (by omega)).mono fun p _ _ => ?_
  walk_at "yd"
  have e : (n : Int) + 1 = ((1 + n : Nat) : Int) := by omega
  rw [e]
  exact (sum_between_ok h0 h1 h2 h3 n (k + 2) 1 hn (Nat.le_refl _) (by omega) (by omega)).mono fun p _ e => e
/-! ### the law's sums -/
theorem law_sum_ok (h0 : T f__law_sum = some c__law_sum) (h1 : T f__law_plus = some c__law_plus) (h2 : T f__law_ratio = some c__law_ratio) {n : Nat} (hn : n ≤ 60) {ps : List P} (hps : frs ps = (List.range n).map fun i => rD (inv1 (1 + i))) : Y (calls rp sub T (k + 3) f__law_sum [.lst ps]) fun p _ => p = .val (rD (Hm n)) := by
  refine Y.def h0 rfl rfl rfl ?_
  walk_at "yd"
  refine Y.for (Y.seq ?_)
  refine Y.varL rfl ?_
  refine ⟨_, _, FrIs.val, rfl, ?_⟩
  rw [hps]
  refine Y.loopF (fun ds ρ => ∃ (i : Nat) (o : Option P), i ≤ n ∧ ds = ((List.range n).map fun i => rD (inv1 (1 + i))).drop i ∧ ρ = [some (.val (.lst ((List.range n).map fun i => rD (inv1 (1 + i))))), some (.val (rD (Hm i))), o]) _ _ ⟨0, none, by omega, by simp, rfl⟩ ?_ ?_
  · rintro d ds ρ ⟨i, o, hi, hd, rfl⟩
    have hlt : i < n := by
      rcases Nat.lt_or_ge i n with z | z
      · exact z
      · rw [List.drop_eq_nil_of_le (by simpa using z)] at hd
        cases hd
    rw [List.drop_eq_getElem_cons (by simpa using hlt)] at hd
    simp only [List.getElem_map, List.getElem_range, List.cons.injEq] at hd
    obtain ⟨rfl, rfl⟩ := hd
    refine Y.turnF rfl ?_
    walk_at "yd"
    refine (law_plus_ok h1 h2 (m := 7 * n + 10) (by omega) ((Hs_small (by omega) (by omega)).mono (by omega)) ?_).mono fun p _ e => ?_
    · obtain ⟨e1, e2⟩ := inv1_num (n := 1 + i) (by omega)
      refine Small.mono (m := 6) ⟨by rw [e1]; decide, ?_⟩ (by omega)
      rw [e2]
      show 1 + i < 64
      omega
    · subst e
      walk_at "yd"
      exact ⟨i + 1, _, by omega, rfl, rfl⟩
  · rintro ρ ⟨i, o, hi, hd, rfl⟩
    have : i = n := by
      have := congrArg List.length hd
      simp at this
      omega
    subst this
    walk_at "yd"
    rfl
theorem law_harmonic_ok (h : T f__law_harmonic = some c__law_harmonic) (h0 : T f__law_sum = some c__law_sum) (h1 : T f__law_plus = some c__law_plus) (h2 : T f__law_ratio = some c__law_ratio) {n : Nat} (hn : n ≤ 60) : Y (calls rp sub T (k + 4) f__law_harmonic [.val (.int n)]) fun p _ => p = .val (rD (Hm n)) := by
  refine Y.def h rfl rfl rfl ?_
  walk_at "yd"
  refine Y.lc (Y.range ?_)
  walk_at "yd"
  refine ⟨1, (n : Int) + 1, rfl, rfl, ?_, ?_⟩
  · simp [okRange]
    omega
  refine ⟨?_, ?_⟩
  · simp [okLen, iotaFrom, line]
    omega
  refine Y.loopCG (fun d => .val (.tup [.int 1, d])) _ _ (fun d hd => Y.eq ?_) ?_
  · obtain ⟨i, _, rfl⟩ : ∃ i : Nat, True ∧ d = .int (1 + (i : Int)) := by
      simp only [iotaFrom, List.mem_map] at hd
      obtain ⟨i, _, e⟩ := hd
      exact ⟨i, trivial, e.symm⟩
    refine Y.turnC1 rfl ?_
    walk_at "yd"
    exact ⟨rfl, rfl⟩
  · walk_at "yd"
    refine (law_sum_ok h0 h1 h2 hn ?_).mono fun p _ e => e
    simp only [List.reverse_nil, List.nil_append, iotaFrom, List.map_map]
    have e : ((n : Int) + 1 - 1).toNat = n := by omega
    rw [e]
    have := frs_map (fun i : Nat => rD (inv1 (1 + i))) (List.range n)
    rw [← this]
    congr 1
    apply List.map_congr_left
    intro i _
    show P.val (.tup [.int 1, .int (1 + (i : Int))]) = _
    rw [rD_inv1 (by omega)]
    simp
end
end PV

set_option Elab.async false
set_option linter.all false
set_option maxRecDepth 100000
set_option maxHeartbeats 4000000
/-! SDraw: draws. -/
namespace PV
local macro_rules | `(tactic| walk_at "yy") => `(tactic| first
  | ((with_reducible refine gE ?_); first
    | ((with_reducible refine' Y.var ?h1 ?_); (case h1 => rfl))
    | with_reducible first | refine Y.op ?_ | refine Y.con ?_ | refine Y.call ?_ | refine Y.tup ?_ | refine Y.or ?_ | refine Y.and ?_ | refine Y.not ?_ | refine Y.ite ?_ | refine Y.lst ?_)
  | ((with_reducible refine gA ?_); first
    | ((with_reducible refine' Y.alook ?h1 ?h2 ?_); (case h1 => rfl); (case h2 => rfl))
    | ((with_reducible refine' Y.acons ?h1 ?_); (case h1 => rfl))
    | with_reducible refine Y.anil ?_)
  | ((with_reducible refine gO ?_); first
    | with_reducible first | refine Y.add ?_ | refine Y.subI ?_ | refine Y.lt ?_ | refine Y.le ?_ | refine Y.gt ?_ | refine Y.ge ?_ | refine Y.intI ?_ | refine Y.eqI ?_ | refine Y.neI ?_ | refine Y.isi ?_ | refine Y.lenT ?_ | refine Y.lenL ?_ | refine Y.neg ?_ | refine Y.abs ?_ | refine Y.intB ?_
    | ((with_reducible refine' Y.at ?h1 ?_); (case h1 => rfl))
    | ((with_reducible refine' Y.mod ?h1 ?_); (case h1 => first | assumption | decide | omega))
    | ((with_reducible refine' Y.pr ?h1 ?h2 ?_); (case h1 => rfl); (case h2 => rfl)))
  | with_reducible first | refine Exists.intro _ (And.intro FrIs.val ?_) | refine Kn.nx ?_ | refine Kn.rt ?_
  | ((with_reducible refine gB ?_); first
    | with_reducible first | refine Y.onT ?_ | refine Y.onF ?_
    | ((with_reducible refine' Y.onTe ?h1 ?_); (case h1 => rfl))
    | ((with_reducible refine' Y.onFe ?h1 ?_); (case h1 => rfl)))
  | ((with_reducible refine gP ?_); (with_reducible first | refine Y.pcons ?_ | refine Y.pnil ?_))
  | ((with_reducible refine gL ?_); (with_reducible first | refine Y.cons ?_ | refine Y.nil ?_))
  | ((with_reducible refine gS ?_); first
    | with_reducible first | refine Y.asg ?_ | refine Y.if ?_ | refine Y.exp ?_ | refine Y.pass ?_
    | ((with_reducible refine' Y.ret ?h1 ?_); (case h1 => rfl))
    | ((with_reducible refine' Y.retV ?h1 ?_); (case h1 => rfl))
    | ((with_reducible refine' Y.par ?h1 ?_); (case h1 => rfl)))
  | with_reducible first | refine Ret.rt ?_ | refine Ret.nx ?_
  | ((with_reducible refine' And.intro ?h1 ?_); (case h1 => exact of_decide_eq_true rfl); (try dsimp only [List.set_cons_zero, List.set_cons_succ]))
  | ((with_reducible refine gX ?_); with_reducible first | refine Exists.intro _ (And.intro rfl ?_) | refine Exists.intro _ (And.intro FrIs.lst ?_) | refine Exists.intro _ (And.intro (.cons .val (.cons .val .nil)) ?_) | refine Exists.intro _ (And.intro (.cons .val .nil) ?_) | refine Exists.intro _ (And.intro FrsIs.nil ?_))
  | ((with_reducible refine' RetM.rt ?h1 ?_); (case h1 => rfl))
  | ((with_reducible refine' RetM.nx ?h1 ?_); (case h1 => rfl))
  | with_reducible refine Y.ok ?_)
local macro_rules | `(tactic| walk_at "yd") => `(tactic| ((try dsimp only [List.map, List.cons_append, List.nil_append, List.append_nil, List.replicate, Nat.sub_self, Nat.reduceSub, vals]); (repeat walk_at "yy")))
section
variable {rp : D → Option (List Nat)} {sub : Sub} {T : Tab} {k : Nat}
def pot (a b c : Int) : P := .lst [.val (.int a), .val (.int b), .val (.int c)]
/-- a pot out of which at most n were taken -/
def PotI (n : Nat) (p : P) : Prop := ∃ a b c : Int, p = pot a b c ∧ 0 ≤ a ∧ a < 2 ^ 1000 ∧ 0 ≤ b ∧ b < 2 ^ 62 ∧ 0 ≤ c ∧ c ≤ n
theorem PotI.mono {m n : Nat} {p : P} (h : PotI m p) (hm : m ≤ n) : PotI n p := by
  obtain ⟨a, b, c, e, h1, h2, h3, h4, h5, h6⟩ := h
  exact ⟨a, b, c, e, h1, h2, h3, h4, h5, by omega⟩
theorem okPow_of {i : Int} {j m : Nat} (hi : i.natAbs < 2 ^ m) (h : m * j ≤ 134217728) : okPow i j = true := by
  unfold okPow
  rw [Bool.and_eq_true]
  refine ⟨decide_eq_true (by omega), decide_eq_true ?_⟩
  have hb : intBits i ≤ m := by
    unfold intBits
    split
    · omega
    · have := (Nat.log2_lt (n := i.natAbs) (k := m) (by omega)).mpr hi
      omega
  have : intBits i * j ≤ m * j := Nat.mul_le_mul_right _ hb
  have : ((intBits i * j : Nat) : Int) ≤ 134217728 := by omega
  simpa using this
theorem natAbs_lt {i : Int} {m : Nat} (h0 : 0 ≤ i) (h : i < 2 ^ m) : i.natAbs < 2 ^ m := by
  have : (i.natAbs : Int) < ((2 ^ m : Nat) : Int) := by
    rw [Int.natAbs_of_nonneg h0]
    simpa using h
  omega
theorem fmod_b {a u : Int} (h : 0 < u) : 0 ≤ a.fmod u ∧ a.fmod u < u := by
  rw [Int.fmod_eq_emod_of_nonneg _ (Int.le_of_lt h)]
  exact ⟨Int.emod_nonneg _ (by omega), Int.emod_lt_of_pos _ h⟩
theorem primes {i : Int} (h0 : 0 ≤ i) (h5 : i < 5) : ∃ p : Int, opAt (.lst [.int 2147483647, .int 2147483629, .int 2147483587, .int 2147483579, .int 2147483563]) (.int i) = some (.int p) ∧ 0 < p ∧ p < 2 ^ 32 := by
  have : i = 0 ∨ i = 1 ∨ i = 2 ∨ i = 3 ∨ i = 4 := by omega
  rcases this with rfl | rfl | rfl | rfl | rfl <;> exact ⟨_, rfl, by decide, by decide⟩
/-- what a draw gives -/
structure TakeR (n : Nat) (u : Int) (r q : P) : Prop where
  ex : ∃ v : Int, r = .val (.int v) ∧ 0 ≤ v ∧ v < u
  pot : PotI (n + 1) q
theorem take_ok (hT : T f__law_take = some c__law_take) {n : Nat} {p : P} {u : Int} (hn : n < 2 ^ 60) (hp : PotI n p) (h0 : 0 < u) (hu : u < 2 ^ 62) : Y (calls rp sub T (k + 1) f__law_take [p, .val (.int u)]) fun r io => ∃ q, io = some q ∧ TakeR n u r q := by
  obtain ⟨a, b, c, rfl, ha, ha', hb, hb', hc, hc'⟩ := hp
  have hun : u ≠ 0 := by omega
  refine Y.defM hT rfl rfl rfl ?_
  unfold pot
  walk_at "yd"
  refine Y.onB (fun h => ?_) (fun h => ?_)
  · have h : 0 < a := of_decide_eq_true h
    walk_at "yd"
    refine Y.put ?_
    walk_at "yd"
    refine Y.fdiv (okDiv_of hun (natAbs_lt (Int.le_of_lt h0) hu) (by decide)) ?_
    refine ⟨rfl, ?_⟩
    walk_at "yd"
    refine ⟨_, _, rfl, rfl, by decide, of_decide_eq_true rfl, ?_⟩
    walk_at "yd"
    have hd : 0 ≤ a.fdiv u ∧ a.fdiv u ≤ a := by
      rw [Int.fdiv_eq_ediv_of_nonneg _ (Int.le_of_lt h0)]
      exact ⟨Int.ediv_nonneg ha (Int.le_of_lt h0), Int.ediv_le_self _ ha⟩
    exact ⟨⟨_, rfl, (fmod_b h0).1, (fmod_b h0).2⟩, ⟨_, _, _, rfl, hd.1, Int.lt_of_le_of_lt hd.2 ha', hb, hb', hc, by omega⟩⟩
  · have h : ¬ 0 < a := of_decide_eq_false h
    walk_at "yd"
    refine Y.put ?_
    walk_at "yd"
    refine ⟨_, _, rfl, rfl, by decide, of_decide_eq_true rfl, ?_⟩
    obtain ⟨pr, ep, p0, p1⟩ := primes (i := (c + 1).fmod 5) (fmod_b (by decide)).1 (fmod_b (by decide)).2
    have hpr : pr ≠ 0 := by omega
    walk_at "yd"
    refine Y.at ep ?_
    have hc1 : (c + 1).natAbs < 2 ^ 61 := by omega
    have e1 := mul_lt (a := (99877 : Int).natAbs) (m := 17) (by decide) hc1
    rw [← Int.natAbs_mul] at e1
    have e2 := mul_lt e1 hc1
    rw [← Int.natAbs_mul] at e2
    walk_at "yd"
    refine Y.mul (okMul_of (i := 99877) (a := 17) (by decide) hc1 (by decide)) ?_
    walk_at "yd"
    refine Y.mul (okMul_of e1 hc1 (by decide)) ?_
    walk_at "yd"
    refine Y.pow (okPow_of (j := 3) (m := 200) ?_ (by decide)) ?_
    · have e3 := Int.natAbs_add_le (b + 99877 * (c + 1) * (c + 1)) 71
      have e4 := Int.natAbs_add_le b (99877 * (c + 1) * (c + 1))
      generalize (99877 * (c + 1) * (c + 1)).natAbs = x at *
      have : (2 : Nat) ^ (17 + 61 + 61) + 2 ^ 62 + 71 < 2 ^ 200 := by decide
      omega
    walk_at "yd"
    obtain ⟨m0, m1⟩ := fmod_b (a := (b + 99877 * (c + 1) * (c + 1) + 71) ^ (3 : Int).toNat) p0
    generalize ((b + 99877 * (c + 1) * (c + 1) + 71) ^ (3 : Int).toNat).fmod pr = x at *
    obtain ⟨n0, n1⟩ := fmod_b (a := x) (u := 10429) (by decide)
    refine Y.mul (okMul_of (i := 163) (a := 8) (by decide) hc1 (by decide)) ?_
    walk_at "yd"
    refine Y.mul (okMul_of (a := 32) (b := 80) (by omega) ?_ (by decide)) ?_
    · have : (2 : Nat) ^ 80 = 1208925819614629174706176 := by decide
      omega
    walk_at "yd"
    exact ⟨⟨_, rfl, (fmod_b h0).1, (fmod_b h0).2⟩, ⟨_, _, _, rfl, ha, ha', hb, hb', by omega, by omega⟩⟩
end
end PV

set_option Elab.async false
set_option linter.all false
set_option maxRecDepth 100000
set_option maxHeartbeats 4000000
/-! SFair: fair lengths, and what shows them. -/
namespace PV
local macro_rules | `(tactic| walk_at "yy") => `(tactic| first
  | ((with_reducible refine gE ?_); first
    | ((with_reducible refine' Y.var ?h1 ?_); (case h1 => rfl))
    | ((with_reducible refine' Y.varL ?h1 ?_); (case h1 => rfl))
    | with_reducible first | refine Y.op ?_ | refine Y.con ?_ | refine Y.call ?_ | refine Y.tup ?_ | refine Y.or ?_ | refine Y.and ?_ | refine Y.not ?_ | refine Y.ite ?_ | refine Y.lst ?_)
  | ((with_reducible refine gA ?_); first
    | ((with_reducible refine' Y.alook ?h1 ?h2 ?_); (case h1 => rfl); (case h2 => rfl))
    | ((with_reducible refine' Y.acons ?h1 ?_); (case h1 => rfl))
    | with_reducible refine Y.anil ?_)
  | ((with_reducible refine gO ?_); first
    | with_reducible first | refine Y.add ?_ | refine Y.subI ?_ | refine Y.lt ?_ | refine Y.le ?_ | refine Y.gt ?_ | refine Y.ge ?_ | refine Y.intI ?_ | refine Y.eqI ?_ | refine Y.neI ?_ | refine Y.isi ?_ | refine Y.lenT ?_ | refine Y.lenL ?_ | refine Y.neg ?_ | refine Y.abs ?_ | refine Y.intB ?_
    | ((with_reducible refine' Y.at ?h1 ?_); (case h1 => rfl))
    | ((with_reducible refine' Y.mod ?h1 ?_); (case h1 => first | assumption | decide | omega))
    | ((with_reducible refine' Y.pr ?h1 ?h2 ?_); (case h1 => rfl); (case h2 => rfl)))
  | with_reducible first | refine Exists.intro _ (And.intro FrIs.val ?_) | refine Kn.nx ?_ | refine Kn.rt ?_
  | ((with_reducible refine gB ?_); first
    | with_reducible first | refine Y.onT ?_ | refine Y.onF ?_
    | ((with_reducible refine' Y.onTe ?h1 ?_); (case h1 => rfl))
    | ((with_reducible refine' Y.onFe ?h1 ?_); (case h1 => rfl)))
  | ((with_reducible refine gP ?_); (with_reducible first | refine Y.pcons ?_ | refine Y.pnil ?_))
  | ((with_reducible refine gL ?_); (with_reducible first | refine Y.cons ?_ | refine Y.nil ?_))
  | ((with_reducible refine gS ?_); first
    | with_reducible first | refine Y.asg ?_ | refine Y.if ?_ | refine Y.exp ?_ | refine Y.pass ?_
    | ((with_reducible refine' Y.ret ?h1 ?_); (case h1 => rfl))
    | ((with_reducible refine' Y.retV ?h1 ?_); (case h1 => rfl))
    | ((with_reducible refine' Y.par ?h1 ?_); (case h1 => rfl)))
  | with_reducible first | refine Ret.rt ?_ | refine Ret.nx ?_
  | ((with_reducible refine' And.intro ?h1 ?_); (case h1 => exact of_decide_eq_true rfl); (try dsimp only [List.set_cons_zero, List.set_cons_succ]))
  | ((with_reducible refine gX ?_); with_reducible first | refine Exists.intro _ (And.intro rfl ?_) | refine Exists.intro _ (And.intro FrIs.lst ?_) | refine Exists.intro _ (And.intro (.cons .val (.cons .val .nil)) ?_) | refine Exists.intro _ (And.intro (.cons .val .nil) ?_) | refine Exists.intro _ (And.intro FrsIs.nil ?_))
  | ((with_reducible refine' RetM.rt ?h1 ?_); (case h1 => rfl))
  | ((with_reducible refine' RetM.nx ?h1 ?_); (case h1 => rfl))
  | with_reducible refine Y.ok ?_)
local macro_rules | `(tactic| walk_at "yd") => `(tactic| ((try dsimp only [List.map, List.cons_append, List.nil_append, List.append_nil, List.replicate, Nat.sub_self, Nat.reduceSub, vals, wipe, CT.ix, List.set_cons_zero, List.set_cons_succ]); (repeat walk_at "yy")))
section
variable {rp : D → Option (List Nat)} {sub : Sub} {T : Tab} {k : Nat}
theorem bls_map {α : Type} (f : α → Bool) : ∀ xs : List α, bls (xs.map fun x => .bl (f x)) = some (xs.map f)
  | [] => rfl
  | x :: xs => by simp [bls, bls_map f xs]
theorem all_map {α : Type} {l : Bool} {ρ : Rho} {Q : P → Rho → Prop} (f : α → Bool) (xs : List α) (h : Q (.val (.bl (xs.all f))) ρ) : Y (ofD l ρ (prim rp sub .all [.lst (xs.map fun x => .bl (f x))])) Q := by
  have e : prim rp sub .all [.lst (xs.map fun x => .bl (f x))] = some (.bl (xs.all f)) := by
    simp only [prim, bls_map, Option.map_some]
    congr 2
    rw [List.all_map]
    rfl
  rw [e]
  exact Y.ok h
/-- the hypotheses about the table -/
structure TR (T : Tab) : Prop where
  is_integer : T f_is_integer = some c_is_integer
  is_tuple : T f_is_tuple = some c_is_tuple
  common : T f_common = some c_common
  ratio : T f_ratio = some c_ratio
  is_ratio : T f_is_ratio = some c_is_ratio
  is_share : T f_is_share = some c_is_share
  plus : T f_plus = some c_plus
  check_many : T f_check_many = some c_check_many
  sum_between : T f_sum_between = some c_sum_between
  loss : T f_loss = some c_loss
  check_fair : T f_check_fair = some c_check_fair
  fair : T f_fair = some c_fair
  shows_fair : T f_shows_fair = some c_shows_fair
  draws : T f__law_draws = some c__law_draws
  take : T f__law_take = some c__law_take
  of : T f__law_of = some c__law_of
  cells : T f__law_cells = some c__law_cells
  odd_one : T f__law_odd_one = some c__law_odd_one
  bent : T f__law_bent = some c__law_bent
  lratio : T f__law_ratio = some c__law_ratio
  lplus : T f__law_plus = some c__law_plus
  is_int : T f__law_is_int = some c__law_is_int
  sum : T f__law_sum = some c__law_sum
  harmonic : T f__law_harmonic = some c__law_harmonic
  is_fair : T f__law_is_fair = some c__law_is_fair
  shapes : T f__law_shapes = some c__law_shapes
  right : T f__law_right = some c__law_right
  law : T f_law = some c_law
variable (R : TR T)
include R
theorem check_fair_ok {m n : Nat} (hn : 1 ≤ n) (hm : n ≤ m) (hm2 : m ≤ 2000) : Y (calls rp sub T (k + 3) f_check_fair [.val (.int m), .val (.int n)]) fun p _ => True := by
  refine Y.def R.check_fair rfl rfl rfl ?_
  walk_at "yd"
  refine (check_many_ok R.check_many R.is_integer (by omega) hm2).mono fun p _ _ => ?_
  walk_at "yd"
  refine (is_integer_ok R.is_integer (.int n) (some 1) (some m)).mono fun p _ e => ?_
  have : isIntB (.int n) (some 1) (some (m : Int)) = true := by simp [isIntB]; omega
  rw [this] at e
  subst e
  walk_at "yd"
  trivial
/-- the lengths, the longest -/
def lens (m n : Nat) : List Nat := (List.range n).map fun i => m / n + if i < m % n then 1 else 0
def top (m n : Nat) : Nat := (m + n - 1) / n
omit R in
theorem top_eq {m n : Nat} (hn : 1 ≤ n) : m / n + (if 0 < m % n then 1 else 0) = top m n := by
  unfold top
  have h1 := Nat.div_add_mod m n
  have h2 := Nat.mod_lt m hn
  generalize m / n = q at *
  generalize m % n = r at *
  split
  · have e : m + n - 1 = n * (q + 1) + (r - 1) := by rw [Nat.mul_succ]; omega
    rw [e, Nat.mul_add_div (by omega), Nat.div_eq_of_lt (by omega)]
  · have e : m + n - 1 = n * q + (n - 1) := by omega
    rw [e, Nat.mul_add_div (by omega), Nat.div_eq_of_lt (by omega)]
omit R in
theorem top_pos {m n : Nat} (hn : 1 ≤ n) (hm : n ≤ m) : 1 ≤ top m n := by
  unfold top
  exact Nat.div_pos (by omega) (by omega)
omit R in
theorem top_le {m n : Nat} (hn : 1 ≤ n) : top m n ≤ m := by
  unfold top
  rw [Nat.div_le_iff_le_mul_add_pred (by omega)]
  have : m * 1 ≤ n * m := by rw [Nat.mul_comm]; exact Nat.mul_le_mul_right _ hn
  omega
omit R in
theorem lens_at {m n : Nat} (hn : 1 ≤ n) : opAt (.lst ((lens m n).map fun (i : Nat) => .int i)) (.int 0) = some (.int (top m n)) := by
  have e : (lens m n)[0]? = some (top m n) := by
    unfold lens
    rw [List.getElem?_map, List.getElem?_range (by omega)]
    simp only [Option.map_some]
    rw [top_eq hn]
  show atI ((lens m n).map fun (i : Nat) => D.int i) 0 = _
  unfold atI
  rw [if_pos (by decide)]
  show ((lens m n).map fun (i : Nat) => D.int i)[0]? = _
  rw [List.getElem?_map, e]
  rfl
def toldD (m n : Nat) : D := .tup [.tup ((lens m n).map fun (i : Nat) => .int i), rD (Hm (top m n))]
theorem fair_ok {m n : Nat} (hn : 1 ≤ n) (hm : n ≤ m) (hm2 : m ≤ 20) (hk : 30 ≤ k) : Y (calls rp sub T k f_fair [.val (.int m), .val (.int n)]) fun p _ => p = .val (toldD m n) := by
  obtain ⟨k, rfl⟩ : ∃ j, k = j + 4 := ⟨k - 4, by omega⟩
  refine Y.def R.fair rfl rfl rfl ?_
  walk_at "yd"
  refine (check_fair_ok R hn hm (by omega)).mono fun p _ _ => ?_
  walk_at "yd"
  refine Y.lc (Y.range ?_)
  walk_at "yd"
  refine ⟨0, (n : Int), rfl, rfl, ?_, ?_⟩
  · simp [okRange]
    omega
  refine ⟨?_, ?_⟩
  · simp [okLen, iotaFrom, line]
    omega
  have hn0 : (n : Int) ≠ 0 := by omega
  have hdv : okDiv (n : Int) = true := okDiv_of hn0 (b := 10) (by simp; omega) (by decide)
  refine Y.loopCG (fun d => match d with | .int i => .val (.int ((m : Int).fdiv n + b2i (decide (i < (m : Int).fmod n)))) | _ => .val .non) _ _ (fun d hd => Y.eq ?_) ?_
  · obtain ⟨i, rfl⟩ : ∃ i : Nat, d = .int (0 + (i : Int)) := by
      simp only [iotaFrom, List.mem_map] at hd
      obtain ⟨i, _, e⟩ := hd
      exact ⟨i, e.symm⟩
    refine Y.turnC1 rfl ?_
    walk_at "yd"
    refine Y.fdiv hdv ?_
    walk_at "yd"
    exact ⟨rfl, rfl⟩
  · have e0 : (((n : Int) - 0).toNat) = n := by omega
    simp only [iotaFrom, List.reverse_nil, List.nil_append, List.map_map, e0]
    have e1 : (List.range n).map ((fun d => match d with | D.int i => P.val (.int ((m : Int).fdiv n + b2i (decide (i < (m : Int).fmod n)))) | _ => .val .non) ∘ fun (k : Nat) => D.int (0 + (k : Int))) = (lens m n).map fun (i : Nat) => P.val (.int i) := by
      unfold lens
      rw [List.map_map]
      apply List.map_congr_left
      intro i _
      simp only [Function.comp]
      congr 2
      rw [Int.fdiv_eq_ediv_of_nonneg _ (by omega), Int.fmod_eq_emod_of_nonneg _ (by omega)]
      have e2 : ((m : Int) % (n : Int)) = ((m % n : Nat) : Int) := rfl
      have e3 : ((m : Int) / (n : Int)) = ((m / n : Nat) : Int) := rfl
      rw [e2, e3]
      by_cases h : i < m % n
      · have h' : (0 : Int) + (i : Int) < ((m % n : Nat) : Int) := by omega
        rw [if_pos h, decide_eq_true h']
        simp [b2i]
      · have h' : ¬ (0 : Int) + (i : Int) < ((m % n : Nat) : Int) := by omega
        rw [if_neg h, decide_eq_false h']
        simp [b2i]
    rw [e1]
    walk_at "yd"
    rw [frs_map (fun (i : Nat) => D.int i) (lens m n)]
    refine Y.at (d := .int (top m n)) (lens_at hn) ?_
    walk_at "yd"
    refine (loss_ok R.loss R.check_many R.is_integer R.sum_between R.plus R.ratio R.common (n := top m n) (top_pos hn hm) (Nat.le_trans (top_le hn) (by omega)) (by have := top_le (m := m) hn; omega)).mono fun p _ e => ?_
    subst e
    walk_at "yd"
    rfl
/-! ### what shows it -/
omit R in
theorem Y.sum {l : Bool} {ρ : Rho} {Q : P → Rho → Prop} {a : D} {xs : List D} {is : List Int} (h0 : seq? a = some xs) (h1 : dInts xs = some is) (h : Q (.val (.int (sumL is))) ρ) : Y (ofD l ρ (prim rp sub .sum [a])) Q := by
  have e : prim rp sub .sum [a] = some (.int (sumL is)) := by simp [prim, h0, h1]
  rw [e]
  exact Y.ok h
def desc (is : List Int) : Bool := (is.zip (is.drop 1)).all fun p => decide (p.2 ≤ p.1)
/-- what shows_fair tells -/
def sfI (m n : Nat) (is : List Int) (b : D) : Bool := decide (sumL is = m) && (desc is && (decide (is.head? = some (top m n : Int)) && (isShB b && eqv b (rD (Hm (top m n))))))
def sfB (m n : Nat) (v : D) : Bool := match v with
  | .tup [.tup xs, b] => decide (xs.length = n) && (match dInts xs with
    | some is => is.all (fun i => decide (1 ≤ i)) && sfI m n is b
    | none => false)
  | _ => false
omit R in
theorem ints_some : ∀ {xs : List D} {is : List Int}, dInts xs = some is → xs = is.map .int
  | [], is, h => by simp [dInts] at h; subst h; rfl
  | .int i :: xs, is, h => by
    simp only [dInts, Option.map_eq_some_iff] at h
    obtain ⟨r, h1, rfl⟩ := h
    rw [ints_some h1]
    rfl
  | .non :: _, _, h => by simp [dInts] at h
  | .bl _ :: _, _, h => by simp [dInts] at h
  | .str _ :: _, _, h => by simp [dInts] at h
  | .tup _ :: _, _, h => by simp [dInts] at h
  | .lst _ :: _, _, h => by simp [dInts] at h
  | .dct _ :: _, _, h => by simp [dInts] at h
  | .obj _ _ :: _, _, h => by simp [dInts] at h
  | .exc _ _ :: _, _, h => by simp [dInts] at h
  | .scr _ :: _, _, h => by simp [dInts] at h
omit R in
theorem ints_map : ∀ is : List Int, dInts (is.map .int) = some is
  | [] => rfl
  | i :: is => by simp [dInts, ints_map is]
omit R in
theorem all_ints : ∀ {xs : List D}, xs.all (fun x => isIntB x (some 1) none) = true → ∃ is : List Int, xs = is.map D.int ∧ is.all (fun i => decide (1 ≤ i)) = true
  | [], _ => ⟨[], rfl, rfl⟩
  | x :: xs, h => by
    rw [List.all_cons, Bool.and_eq_true] at h
    obtain ⟨i, rfl⟩ := isInt_some h.1
    obtain ⟨is, rfl, h2⟩ := all_ints h.2
    refine ⟨i :: is, rfl, ?_⟩
    rw [List.all_cons, h2, Bool.and_true]
    simpa [isIntB] using h.1
omit R in
theorem not_all : ∀ {xs : List D} {is : List Int}, xs.all (fun x => isIntB x (some 1) none) = false → dInts xs = some is → is.all (fun i => decide (1 ≤ i)) = false := by
  intro xs is h e
  rw [ints_some e, List.all_map] at h
  rw [← h]
  congr 1
  funext i
  simp [isIntB]
omit R in
theorem paired_map : ∀ (is js : List Int), paired (is.map .int) (js.map .int) = (is.zip js).map fun p => .tup [.int p.1, .int p.2]
  | [], _ => by simp [paired]
  | _ :: _, [] => by simp [paired]
  | i :: is, j :: js => by simp [paired, paired_map is js]
omit R in
theorem cut1 {α : Type} (xs : List α) : cut xs (some 1) none = xs.drop 1 := by
  unfold cut clip
  simp only [show (0 : Int) ≤ 1 from by decide, if_true, List.take_length]
  cases xs with
  | nil => rfl
  | cons x xs => simp
omit R in
theorem isTupN {a : D} {n : Nat} (h : isTupB a n (some (n : Int)) = true) : ∃ xs, a = .tup xs ∧ xs.length = n := by
  cases a with
  | tup xs =>
    simp only [isTupB, Bool.and_eq_true, decide_eq_true_eq] at h
    exact ⟨xs, rfl, by omega⟩
  | _ => cases h
omit R in
theorem Y.slLo1 {l : Bool} {ρ : Rho} {Q : P → Rho → Prop} {xs : List D} (h : Q (.val (.tup (xs.drop 1))) ρ) : Y (ofD l ρ (prim rp sub .slLo [.tup xs, .int 1])) Q := by
  have e : prim rp sub .slLo [.tup xs, .int 1] = some (.tup (xs.drop 1)) := by
    show some (D.tup (cut xs (some 1) none)) = _
    rw [cut1]
  rw [e]
  exact Y.ok h
omit R in
theorem at0 {is : List Int} {i : Int} (h : is.head? = some i) : opAt (.tup (is.map .int)) (.int 0) = some (.int i) := by
  cases is with
  | nil => cases h
  | cons a r => cases h; rfl
theorem shows_fair_ok {m n : Nat} (hn : 1 ≤ n) (hm : n ≤ m) (hm2 : m ≤ 20) (hk : 40 ≤ k) {v : D} (hv : ∀ a b, v = .tup [a, b] → tameR b) : Y (calls rp sub T k f_shows_fair [.val (.int m), .val (.int n), .val v]) fun p _ => p = .val (.bl (sfB m n v)) := by
  obtain ⟨k, rfl⟩ : ∃ j, k = j + 4 := ⟨k - 4, by omega⟩
  refine Y.def R.shows_fair rfl rfl rfl ?_
  walk_at "yd"
  refine (check_fair_ok R hn hm (by omega)).mono fun p _ _ => ?_
  walk_at "yd"
  refine (fair_ok R hn hm hm2 (by omega)).mono fun p _ e => ?_
  subst e
  unfold toldD
  walk_at "yd"
  refine (is_tuple_ok R.is_tuple v 2 (some 2)).mono fun p _ e => ?_
  subst e
  walk_at "yd"
  refine Y.onB (fun h => ?_) (fun h => ?_)
  · walk_at "yd"
    have h : isTupB v 2 (some 2) = false := by simpa using h
    have hs : sfB m n v = false := by
      unfold sfB
      split
      · simp [isTupB] at h
      · rfl
    rw [hs]
  obtain ⟨a, b, rfl⟩ := isTup2 (v := v) (by simpa using h)
  walk_at "yd"
  refine (is_tuple_ok R.is_tuple a n (some n)).mono fun p _ e => ?_
  subst e
  walk_at "yd"
  refine Y.onB (fun h => ?_) (fun h => ?_)
  · walk_at "yd"
    have h : isTupB a n (some (n : Int)) = false := by simpa using h
    have hs : sfB m n (.tup [a, b]) = false := by
      unfold sfB
      split
      · rename_i xs b' e
        cases e
        have : xs.length ≠ n := fun z => by simp [isTupB, z] at h
        simp [this]
      · rfl
    rw [hs]
  have h : isTupB a n (some (n : Int)) = true := by simpa using h
  obtain ⟨xs, rfl, hl⟩ := isTupN h
  walk_at "yd"
  refine Y.lc (Y.seq ?_)
  walk_at "yd"
  refine ⟨_, _, FrIs.val, rfl, ?_⟩
  refine ⟨by simp [okLen, line, hl]; omega, ?_⟩
  refine Y.loopCG (fun d => .val (.bl (isIntB d (some 1) none))) _ _ (fun d hd => Y.eq ?_) ?_
  · refine Y.turnC1 rfl ?_
    walk_at "yd"
    refine (is_integer_ok R.is_integer d (some 1) none).mono fun p _ e => ?_
    subst e
    exact ⟨rfl, rfl⟩
  simp only [List.reverse_nil, List.nil_append]
  walk_at "yd"
  rw [frs_map (fun d => D.bl (isIntB d (some 1) none)) xs]
  refine all_map _ _ ?_
  walk_at "yd"
  refine Y.onB (fun h => ?_) (fun h => ?_)
  · walk_at "yd"
    have h : xs.all (fun d => isIntB d (some 1) none) = false := by simpa using h
    have hs : sfB m n (.tup [.tup xs, b]) = false := by
      simp only [sfB]
      split
      · rename_i is e
        rw [not_all h e]
        simp
      · simp
    rw [hs]
  obtain ⟨is, rfl, hall⟩ := all_ints (xs := xs) (by simpa using h)
  have hl : is.length = n := by simpa using hl
  have hsf : sfB m n (.tup [.tup (is.map .int), b]) = sfI m n is b := by
    simp [sfB, ints_map, hall, hl]
  rw [hsf]
  walk_at "yd"
  refine Y.sum rfl (ints_map is) ?_
  walk_at "yd"
  refine Y.onB (fun h => ?_) (fun h => ?_)
  · walk_at "yd"
    have h : ¬ sumL is = m := by simpa using h
    simp [sfI, h]
  have hsum : sumL is = m := by simpa using h
  walk_at "yd"
  refine Y.lc (Y.zipT ?_)
  walk_at "yd"
  refine ⟨_, _, FrIs.val, FrIs.val, ?_⟩
  rw [cut1, ← List.map_drop, paired_map]
  refine ⟨by simp [okLen, line]; omega, ?_⟩
  refine Y.loopCG (fun d => match d with | .tup [.int x, .int y] => .val (.bl (decide (y ≤ x))) | _ => .val .non) _ _ (fun d hd => Y.eq ?_) ?_
  · obtain ⟨⟨x, y⟩, _, rfl⟩ := List.mem_map.mp hd
    refine Y.turnC1 rfl ?_
    walk_at "yd"
    exact ⟨rfl, rfl⟩
  simp only [List.reverse_nil, List.nil_append, List.map_map]
  walk_at "yd"
  have efr : frs ((is.zip (is.drop 1)).map ((fun d => match d with | D.tup [D.int x, D.int y] => P.val (.bl (decide (y ≤ x))) | _ => .val .non) ∘ fun (p : Int × Int) => D.tup [.int p.1, .int p.2])) = (is.zip (is.drop 1)).map fun p => D.bl (decide (p.2 ≤ p.1)) :=
    frs_map (fun (p : Int × Int) => D.bl (decide (p.2 ≤ p.1))) (is.zip (is.drop 1))
  rw [efr]
  refine all_map _ _ ?_
  walk_at "yd"
  refine Y.onB (fun h => ?_) (fun h => ?_)
  · walk_at "yd"
    have h : desc is = false := by simpa [desc] using h
    simp [sfI, h]
  have hdesc : desc is = true := by simpa [desc] using h
  obtain ⟨i0, hi0⟩ : ∃ i, is.head? = some i := by
    cases is with
    | nil => simp at hl; omega
    | cons a r => exact ⟨a, rfl⟩
  walk_at "yd"
  refine Y.at (at0 hi0) ?_
  walk_at "yd"
  have hl0 : opAt (.tup ((lens m n).map fun (i : Nat) => D.int i)) (.int 0) = some (.int (top m n)) := lens_at hn
  refine Y.at hl0 ?_
  walk_at "yd"
  refine Y.onB (fun h => ?_) (fun h => ?_)
  · walk_at "yd"
    have h : ¬ i0 = (top m n : Int) := by simpa using h
    simp [sfI, hi0, h]
  have htop : i0 = (top m n : Int) := by simpa using h
  walk_at "yd"
  refine (is_share_ok R.is_share R.is_ratio R.is_tuple R.is_integer R.common (hv _ _ rfl)).mono fun p _ e => ?_
  subst e
  refine Y.onB (fun h => ?_) (fun h => ?_)
  · have hr : isRatB b = true := by unfold isShB at h; rw [Bool.and_eq_true] at h; exact h.1
    obtain ⟨x, y, rfl, _⟩ := isRat_some hr
    unfold rD
    walk_at "yd"
    have e1 : sfI m n is (.tup [.int x, .int y]) = eqv (.tup [.int x, .int y]) (rD (Hm (top m n))) := by
      simp [sfI, hsum, hdesc, hi0, htop, h]
    rw [e1, Bool.false_xor]
    rfl
  · walk_at "yd"
    simp [sfI, h]
end
end PV

set_option Elab.async false
set_option linter.all false
set_option maxRecDepth 100000
set_option maxHeartbeats 4000000
/-! SShow: what repr tells of plain data. -/
namespace PV
open PySem
def txt (d : D) : List Nat := (toPy d).shown.cps.toList
/-- signs of an int's text -/
def ds (c : Nat) : Bool := c == 45 || (decide (48 ≤ c) && decide (c ≤ 57))
theorem txt_int (i : Int) : txt (.int i) = intStr i := by
  unfold txt
  simp only [toPy, PyData.shown]
  rw [int_str]
  simp [toStr]
theorem digit_ds {c : Char} (h : c.isDigit = true) : ds c.toNat = true := by
  unfold Char.isDigit at h
  simp only [Bool.and_eq_true, decide_eq_true_eq] at h
  unfold ds
  have h1 : 48 ≤ c.toNat := h.1
  have h2 : c.toNat ≤ 57 := h.2
  simp [h1, h2]
theorem natDigits_ds (n : Nat) : ∀ c ∈ natDigits n, ds c = true := by
  intro c hc
  obtain ⟨ch, h1, rfl⟩ := List.mem_map.mp hc
  exact digit_ds (Nat.isDigit_of_mem_toDigits (by decide) (by decide) h1)
theorem intStr_ds (i : Int) : ∀ c ∈ intStr i, ds c = true := by
  cases i with
  | ofNat n => exact natDigits_ds n
  | negSucc n =>
    intro c hc
    rcases List.mem_cons.mp hc with z | z
    · subst z; rfl
    · exact natDigits_ds _ c z
theorem natDigits_ne (n : Nat) : natDigits n ≠ [] := by
  intro z
  have := congrArg List.length z
  simp only [natDigits, List.length_map, List.length_nil] at this
  have := Nat.length_toDigits_pos (b := 10) (n := n)
  omega
theorem intStr_ne (i : Int) : intStr i ≠ [] := by
  cases i with
  | ofNat n => exact natDigits_ne n
  | negSucc n => exact List.cons_ne_nil _ _
theorem natDigits_inj {m n : Nat} (h : natDigits m = natDigits n) : m = n := by
  have hc : ∀ {a b : List Char}, a.map Char.toNat = b.map Char.toNat → a = b := by
    intro a
    induction a with
    | nil => intro b h; cases b with
      | nil => rfl
      | cons _ _ => simp at h
    | cons x a ih =>
      intro b h
      cases b with
      | nil => simp at h
      | cons y b =>
        simp only [List.map_cons, List.cons.injEq] at h
        rw [ih h.2, Char.toNat_inj.mp h.1]
  have h1 := hc h
  rw [← Nat.ofDigitChars_toDigits (b := 10) (n := m) (by decide) (by decide), h1, Nat.ofDigitChars_toDigits (by decide) (by decide)]
theorem natDigits_45 {n : Nat} {r : List Nat} : natDigits n ≠ 45 :: r := by
  intro h
  have : (45 : Nat) ∈ natDigits n := by rw [h]; exact List.mem_cons_self ..
  obtain ⟨ch, h1, h2⟩ := List.mem_map.mp this
  have h3 := Nat.isDigit_of_mem_toDigits (b := 10) (by decide) (by decide) h1
  unfold Char.isDigit at h3
  simp only [Bool.and_eq_true, decide_eq_true_eq] at h3
  have h4 : 48 ≤ ch.toNat := h3.1
  omega
theorem intStr_inj {i j : Int} (h : intStr i = intStr j) : i = j := by
  cases i with
  | ofNat m =>
    cases j with
    | ofNat n => rw [natDigits_inj h]
    | negSucc n => exact absurd h natDigits_45
  | negSucc m =>
    cases j with
    | ofNat n => exact absurd h.symm natDigits_45
    | negSucc n =>
      have := natDigits_inj (List.cons.inj h).2
      have : m = n := by omega
      rw [this]
/-! ### sequences -/
def joinL : List (List Nat) → List Nat
  | [] => []
  | [x] => x
  | x :: y :: r => x ++ (44 :: 32 :: joinL (y :: r))
theorem join_cps : ∀ ts : List Str, (Str.join ", " ts).cps.toList = joinL (ts.map fun t => t.cps.toList)
  | [] => rfl
  | [x] => rfl
  | x :: y :: r => by
    show (x ++ ", " ++ Str.join ", " (y :: r)).cps.toList = _
    have e : ∀ a b : Str, (a ++ b).cps.toList = a.cps.toList ++ b.cps.toList := fun a b => by
      show (a.cps ++ b.cps).toList = _
      simp
    rw [e, e, join_cps (y :: r)]
    have : ((", " : String) : Str).cps.toList = [44, 32] := by rfl
    rw [this]
    simp [joinL]
theorem shownAll_map : ∀ xs : List D, (PyData.shownAll (toPys xs)).map (fun t => t.cps.toList) = xs.map txt
  | [] => rfl
  | x :: xs => by
    simp only [toPys, PyData.shownAll, List.map_cons, shownAll_map xs]
    rfl
theorem txt_tup (xs : List D) : txt (.tup xs) = 40 :: (joinL (xs.map txt) ++ (if xs.length = 1 then [44, 41] else [41])) := by
  unfold txt
  simp only [toPy, PyData.shown]
  unfold tupleText
  have e : ∀ a b : Str, (a ++ b).cps.toList = a.cps.toList ++ b.cps.toList := fun a b => by
    show (a.cps ++ b.cps).toList = _
    simp
  have hl : (PyData.shownAll (toPys xs)).length = xs.length := by
    have := congrArg List.length (shownAll_map xs)
    simpa using this
  rw [e, e, join_cps, shownAll_map, hl]
  have e1 : (("(" : String) : Str).cps.toList = [40] := by rfl
  rw [e1]
  by_cases h : xs.length = 1
  · rw [if_pos h]
    simp only [h, beq_self_eq_true, if_true]
    rfl
  · rw [if_neg h]
    have hb : (xs.length == 1) = false := by simpa using h
    simp only [hb]
    rfl
/-- no sign of an int's text is the first one -/
def odd1 (x : List Nat) : Prop := ∃ c r, x = c :: r ∧ ds c = false ∧ c ≠ 40
theorem txt_non : txt .non = [78, 111, 110, 101] := by rfl
theorem txt_bl (b : Bool) : txt (.bl b) = if b then [84, 114, 117, 101] else [70, 97, 108, 115, 101] := by cases b <;> rfl
/-- the text of a text: its marks -/
theorem foldl_first {α : Type} (f : α → List Nat) : ∀ (l : List α) (acc : Array Nat), (l.foldl (fun out c => out ++ (f c).toArray) acc).toList = acc.toList ++ l.flatMap f
  | [], acc => by simp
  | c :: l, acc => by
    rw [List.foldl_cons, foldl_first f l]
    simp [List.flatMap_cons]
theorem txt_strE (x : List Nat) : ∃ q, (q = 39 ∨ q = 34) ∧ txt (.str x) = q :: (x.flatMap (Builtin.Str.reprChar q) ++ [q]) := by
  refine ⟨reprQuote (toStr x), ?_, ?_⟩
  · unfold reprQuote
    split <;> simp
  · unfold txt
    simp only [toPy, PyData.shown]
    unfold reprText
    simp only [Array.toList_push]
    rw [← Array.foldl_toList, foldl_first]
    simp [toStr]
theorem txt_str (x : List Nat) : ∃ q r, txt (.str x) = q :: r ∧ (q = 39 ∨ q = 34) := by
  obtain ⟨q, h, e⟩ := txt_strE x
  exact ⟨q, _, e, h⟩
theorem textFrom_first : ∀ (ts : List Str) (k : Nat) (acc : Str), ∃ r, (textFrom k acc ts).cps.toList = acc.cps.toList ++ r
  | [], k, acc => ⟨[], by simp [textFrom]⟩
  | t :: ts, k, acc => by
    obtain ⟨r, e⟩ := textFrom_first ts (k + 1) (acc ++ (if k > 0 then ", " else "" : String) ++ t)
    have ea : ∀ a b : Str, (a ++ b).cps.toList = a.cps.toList ++ b.cps.toList := fun a b => by
      show (a.cps ++ b.cps).toList = _
      simp
    rw [ea, ea, List.append_assoc, List.append_assoc] at e
    exact ⟨_, e⟩
theorem txt_lst (xs : List D) : ∃ r, txt (.lst xs) = 91 :: r := by
  unfold txt
  simp only [toPy, PyData.shown]
  unfold listText
  obtain ⟨r, e⟩ := textFrom_first (PyData.shownAll (toPys xs)) 0 "["
  have ea : ∀ a b : Str, (a ++ b).cps.toList = a.cps.toList ++ b.cps.toList := fun a b => by
    show (a.cps ++ b.cps).toList = _
    simp
  rw [ea, e]
  have e1 : (("[" : String) : Str).cps.toList = [91] := by rfl
  rw [e1]
  exact ⟨_, rfl⟩
/-! ### only a ratio has a ratio's text -/
theorem split_ds {a a' b b' : List Nat} (ha : ∀ c ∈ a, ds c = true) (ha' : ∀ c ∈ a', ds c = true) (hb : ∀ c r, b = c :: r → ds c = false) (hb' : ∀ c r, b' = c :: r → ds c = false) (h : a ++ b = a' ++ b') : a = a' ∧ b = b' := by
  induction a generalizing a' with
  | nil =>
    cases a' with
    | nil => exact ⟨rfl, h⟩
    | cons x r =>
      have h1 := hb x (r ++ b') h
      rw [ha' x (List.mem_cons_self ..)] at h1
      cases h1
  | cons x r ih =>
    cases a' with
    | nil =>
      have h1 := hb' x (r ++ b) h.symm
      rw [ha x (List.mem_cons_self ..)] at h1
      cases h1
    | cons y s =>
      simp only [List.cons_append, List.cons.injEq] at h
      obtain ⟨e1, e2⟩ := ih (fun c hc => ha c (List.mem_cons_of_mem _ hc)) (fun c hc => ha' c (List.mem_cons_of_mem _ hc)) h.2
      exact ⟨by rw [h.1, e1], e2⟩
/-- a text that begins as an int's is an int's -/
theorem int_of_first {d : D} (hd : dat d = true) {c : Nat} {r : List Nat} (h : txt d = c :: r) (hc : ds c = true) : ∃ i, d = .int i := by
  cases d with
  | int i => exact ⟨i, rfl⟩
  | non => rw [txt_non] at h; cases h; cases hc
  | bl b => rw [txt_bl] at h; cases b <;> (cases h; cases hc)
  | str x =>
    obtain ⟨q, s, e, hq⟩ := txt_str x
    rw [e] at h
    cases h
    rcases hq with rfl | rfl <;> cases hc
  | tup xs => rw [txt_tup] at h; cases h; cases hc
  | lst xs =>
    obtain ⟨s, e⟩ := txt_lst xs
    rw [e] at h
    cases h
    cases hc
  | _ => simp [dat] at hd
theorem txt_ne {d : D} (hd : dat d = true) : txt d ≠ [] := by
  cases d with
  | int i => rw [txt_int]; exact intStr_ne i
  | non => rw [txt_non]; simp
  | bl b => rw [txt_bl]; cases b <;> simp
  | str x => obtain ⟨q, s, e, _⟩ := txt_str x; rw [e]; simp
  | tup xs => rw [txt_tup]; simp
  | lst xs => obtain ⟨s, e⟩ := txt_lst xs; rw [e]; simp
  | _ => simp [dat] at hd
theorem int_of_app {d : D} (hd : dat d = true) {i : Int} {b b' : List Nat} (h : txt d ++ b = intStr i ++ b') : ∃ j, d = .int j := by
  cases e : txt d with
  | nil => exact absurd e (txt_ne hd)
  | cons c r =>
    cases e2 : intStr i with
    | nil => exact absurd e2 (intStr_ne i)
    | cons c' r' =>
      rw [e, e2] at h
      simp only [List.cons_append, List.cons.injEq] at h
      have := intStr_ds i c' (by rw [e2]; exact List.mem_cons_self ..)
      exact int_of_first hd e (by rw [h.1]; exact this)
theorem txt_pair {b : D} (hb : dat b = true) {p q : Int} (h : txt b = txt (.tup [.int p, .int q])) : b = .tup [.int p, .int q] := by
  have e2 : txt (.tup [.int p, .int q]) = 40 :: (intStr p ++ (44 :: 32 :: (intStr q ++ [41]))) := by
    rw [txt_tup]
    simp [joinL, txt_int]
  rw [e2] at h
  have hds : ∀ (c : Nat) (r s : List Nat), (44 :: s : List Nat) = c :: r → ds c = false := fun c r s z => by cases z; rfl
  have hds1 : ∀ (c : Nat) (r : List Nat), ([41] : List Nat) = c :: r → ds c = false := fun c r z => by cases z; rfl
  cases b with
  | tup xs =>
    have hd : dats xs = true := by simpa [dat] using hb
    rw [txt_tup] at h
    have h := (List.cons.inj h).2
    match xs, hd, h with
    | [], _, h =>
      exfalso
      cases e : intStr p with
      | nil => exact intStr_ne p e
      | cons c r =>
        rw [e] at h
        simp [joinL] at h
    | [x], hd, h =>
      exfalso
      have hx : dat x = true := by simpa [dats] using hd
      have h : txt x ++ [44, 41] = intStr p ++ (44 :: 32 :: (intStr q ++ [41])) := by simpa [joinL] using h
      obtain ⟨j, rfl⟩ := int_of_app hx h
      rw [txt_int] at h
      obtain ⟨_, h2⟩ := split_ds (intStr_ds j) (intStr_ds p) (hds · · _) (hds · · _) h
      simp at h2
    | [x, y], hd, h =>
      have hx : dat x = true := by simp [dats] at hd; exact hd.1
      have hy : dat y = true := by simp [dats] at hd; exact hd.2
      have h : txt x ++ (44 :: 32 :: (txt y ++ [41])) = intStr p ++ (44 :: 32 :: (intStr q ++ [41])) := by simpa [joinL] using h
      obtain ⟨j, rfl⟩ := int_of_app hx h
      rw [txt_int] at h
      obtain ⟨h1, h2⟩ := split_ds (intStr_ds j) (intStr_ds p) (hds · · _) (hds · · _) h
      simp only [List.cons.injEq, true_and] at h2
      obtain ⟨l, rfl⟩ := int_of_app hy h2
      rw [txt_int] at h2
      obtain ⟨h3, _⟩ := split_ds (intStr_ds l) (intStr_ds q) hds1 hds1 h2
      rw [intStr_inj h1, intStr_inj h3]
    | x :: y :: z :: r, hd, h =>
      exfalso
      have hx : dat x = true := by simp [dats] at hd; exact hd.1
      have hy : dat y = true := by simp [dats] at hd; exact hd.2.1
      have h : txt x ++ (44 :: 32 :: (txt y ++ (44 :: 32 :: (joinL ((z :: r).map txt) ++ [41])))) = intStr p ++ (44 :: 32 :: (intStr q ++ [41])) := by simpa [joinL] using h
      obtain ⟨j, rfl⟩ := int_of_app hx h
      rw [txt_int] at h
      obtain ⟨h1, h2⟩ := split_ds (intStr_ds j) (intStr_ds p) (hds · · _) (hds · · _) h
      simp only [List.cons.injEq, true_and] at h2
      obtain ⟨l, rfl⟩ := int_of_app hy h2
      rw [txt_int] at h2
      obtain ⟨_, h4⟩ := split_ds (intStr_ds l) (intStr_ds q) (hds · · _) hds1 h2
      cases h4
  | int i =>
    exfalso
    rw [txt_int] at h
    have := intStr_ds i 40 (by rw [h]; exact List.mem_cons_self ..)
    cases this
  | non => rw [txt_non] at h; cases h
  | bl b => rw [txt_bl] at h; cases b <;> cases h
  | str x =>
    obtain ⟨q', s, e, hq⟩ := txt_str x
    rw [e] at h
    have := (List.cons.inj h).1
    rcases hq with rfl | rfl <;> cases this
  | lst xs =>
    obtain ⟨s, e⟩ := txt_lst xs
    rw [e] at h
    cases h
  | _ => simp [dat] at hb
end PV

set_option Elab.async false
set_option linter.all false
set_option maxRecDepth 100000
set_option maxHeartbeats 4000000
/-! SShow2: small plain data: its text is told. -/
namespace PV
open PySem
theorem joinL_cons (x : List Nat) : ∀ r : List (List Nat), joinL (x :: r) = x ++ r.flatMap fun t => 44 :: 32 :: t
  | [] => by simp [joinL]
  | y :: r => by
    show x ++ (44 :: 32 :: joinL (y :: r)) = _
    rw [joinL_cons y r]
    simp [List.flatMap_cons]
theorem app_cps (a b : Str) : (a ++ b).cps.toList = a.cps.toList ++ b.cps.toList := by
  show (a.cps ++ b.cps).toList = _
  simp
theorem textFrom_pos : ∀ (ts : List Str) (k : Nat) (acc : Str), 0 < k → (textFrom k acc ts).cps.toList = acc.cps.toList ++ ts.flatMap fun t => 44 :: 32 :: t.cps.toList
  | [], k, acc, _ => by simp [textFrom]
  | t :: ts, k, acc, h => by
    show (textFrom (k + 1) (acc ++ (if k > 0 then ", " else "" : String) ++ t) ts).cps.toList = _
    rw [textFrom_pos ts (k + 1) _ (by omega), app_cps, app_cps, if_pos h]
    have : ((", " : String) : Str).cps.toList = [44, 32] := by rfl
    rw [this]
    simp [List.flatMap_cons]
theorem txt_lstE (xs : List D) : txt (.lst xs) = 91 :: (joinL (xs.map txt) ++ [93]) := by
  unfold txt
  simp only [toPy, PyData.shown]
  unfold listText
  rw [app_cps]
  have e1 : (("[" : String) : Str).cps.toList = [91] := by rfl
  have e2 : (("]" : String) : Str).cps.toList = [93] := by rfl
  cases xs with
  | nil => rfl
  | cons x xs =>
    simp only [toPys, PyData.shownAll, List.map_cons]
    show (textFrom 1 (("[" : Str) ++ (if 0 > 0 then ", " else "" : String) ++ (toPy x).shown) (PyData.shownAll (toPys xs))).cps.toList ++ _ = _
    rw [textFrom_pos _ _ _ (by decide), app_cps, app_cps, e1, e2, joinL_cons]
    have e3 : (((if 0 > 0 then ", " else "" : String)) : Str).cps.toList = [] := by rfl
    rw [e3]
    have e4 : (PyData.shownAll (toPys xs)).flatMap (fun t => 44 :: 32 :: t.cps.toList) = (xs.map txt).flatMap fun t => 44 :: 32 :: t := by
      rw [← shownAll_map, List.flatMap_map]
    rw [e4]
    simp only [List.cons_append, List.nil_append, List.append_assoc]
    rfl
/-! ### sizes and signs -/
def small (n : Nat) (x : List Nat) : Prop := x.length ≤ n ∧ ∀ c ∈ x, c < 128
theorem small.okStr {n : Nat} {x : List Nat} (h : small n x) : PV.okStr x = true := by
  unfold PV.okStr
  rw [List.all_eq_true]
  intro c hc
  have := h.2 c hc
  exact decide_eq_true (by omega)
theorem small.mono {m n : Nat} {x : List Nat} (h : small m x) (hm : m ≤ n) : small n x := ⟨Nat.le_trans h.1 hm, h.2⟩
theorem small.app {m n : Nat} {x y : List Nat} (h : small m x) (h2 : small n y) : small (m + n) (x ++ y) := by
  refine ⟨by rw [List.length_append]; exact Nat.add_le_add h.1 h2.1, fun c hc => ?_⟩
  rcases List.mem_append.mp hc with z | z
  · exact h.2 c z
  · exact h2.2 c z
theorem ds_lt {c : Nat} (h : ds c = true) : c < 128 := by
  unfold ds at h
  simp only [Bool.or_eq_true, beq_iff_eq, Bool.and_eq_true, decide_eq_true_eq] at h
  omega
theorem small_int {i : Int} {m : Nat} (h : i.natAbs < 2 ^ m) (hm : 1 ≤ m) : small (m + 1) (intStr i) := by
  refine ⟨?_, fun c hc => ds_lt (intStr_ds i c hc)⟩
  have key : ∀ n : Nat, n < 2 ^ m → (natDigits n).length ≤ m := fun n hn => by
    unfold natDigits
    rw [List.length_map, Nat.length_toDigits_le_iff (by decide) (by omega)]
    exact Nat.lt_of_lt_of_le hn (Nat.pow_le_pow_left (by decide) m)
  cases i with
  | ofNat n => exact Nat.le_succ_of_le (key n h)
  | negSucc n =>
    show (45 :: natDigits (n + 1)).length ≤ _
    have := key (n + 1) (by simpa [Int.natAbs] using h)
    simp
    exact this
open Builtin Builtin.Str in
theorem reprChar_small : ∀ q, (q = 39 ∨ q = 34) → ∀ c, c < 128 → small 4 (reprChar q c) := by
  have h : ∀ q ∈ [39, 34], ∀ c ∈ List.range 128, (decide ((reprChar q c).length ≤ 4) && (reprChar q c).all fun x => decide (x < 128)) = true := by decide +kernel
  intro q hq c hc
  have := h q (by rcases hq with rfl | rfl <;> simp) c (List.mem_range.mpr hc)
  simp only [Bool.and_eq_true, decide_eq_true_eq, List.all_eq_true] at this
  exact ⟨this.1, fun x hx => this.2 x hx⟩
theorem small_flat {f : Nat → List Nat} {x : List Nat} (hf : ∀ c ∈ x, small 4 (f c)) : small (4 * x.length) (x.flatMap f) := by
  induction x with
  | nil => exact ⟨by simp, fun c hc => by simp at hc⟩
  | cons a x ih =>
    rw [List.flatMap_cons]
    exact ((hf a (List.mem_cons_self ..)).app (ih fun c hc => hf c (List.mem_cons_of_mem _ hc))).mono (by simp; omega)
/-- a small leaf -/
def G0 (m : Nat) : D → Prop
  | .non => True
  | .bl _ => True
  | .int i => i.natAbs < 2 ^ m
  | .str x => small (m + 1) x
  | _ => False
theorem G0.txt {m : Nat} (hm : 1 ≤ m) {d : D} (h : G0 m d) : small (4 * m + 16) (txt d) := by
  cases d with
  | non => rw [txt_non]; exact ⟨by simp <;> omega, by decide⟩
  | bl b => rw [txt_bl]; cases b <;> exact ⟨by simp <;> omega, by decide⟩
  | int i => rw [txt_int]; exact (small_int h hm).mono (by omega)
  | str x =>
    obtain ⟨q, hq, e⟩ := txt_strE x
    rw [e]
    have hx : small (m + 1) x := h
    have h1 := small_flat (f := Builtin.Str.reprChar q) (x := x) fun c hc => reprChar_small q hq c (hx.2 c hc)
    have hqs : small 1 [q] := ⟨by simp, fun c hc => by
      have : c = q := by simpa using hc
      rcases hq with z | z <;> omega⟩
    have := (hqs.app (h1.app hqs))
    refine small.mono this ?_
    have := hx.1
    omega
  | _ => exact h.elim
theorem G0.dat {m : Nat} {d : D} (h : G0 m d) : PV.dat d = true ∧ dep d = 0 := by
  cases d with
  | str x => exact ⟨(show small (m + 1) x from h).okStr, rfl⟩
  | non => exact ⟨rfl, rfl⟩
  | bl b => exact ⟨rfl, rfl⟩
  | int i => exact ⟨rfl, rfl⟩
  | _ => exact h.elim
theorem G0.showable {m : Nat} (hm : m ≤ 1900) {d : D} (h : G0 m d) : (toPy d).showable = true := by
  cases d with
  | int i =>
    simp only [toPy, PyData.showable]
    refine decide_eq_true ?_
    have h : i.natAbs < 2 ^ m := h
    by_cases z : i.natAbs = 0
    · rw [z]; decide
    · have := (Nat.log2_lt (n := i.natAbs) (k := m) z).mpr h
      omega
  | non => rfl
  | bl b => rfl
  | str x => rfl
  | _ => exact h.elim
/-- a small leaf, or a row of such -/
def G1 (m : Nat) (d : D) : Prop := G0 m d ∨ ∃ xs, (d = .tup xs ∨ d = .lst xs) ∧ xs.length ≤ m ∧ ∀ x ∈ xs, G0 m x
theorem small_join {n : Nat} : ∀ {ts : List (List Nat)}, (∀ t ∈ ts, small n t) → small ((n + 2) * ts.length) (joinL ts)
  | [], _ => ⟨by simp [joinL], fun c hc => by simp [joinL] at hc⟩
  | [x], h => (h x (List.mem_cons_self ..)).mono (by simp)
  | x :: y :: r, h => by
    show small _ (x ++ (44 :: 32 :: joinL (y :: r)))
    have h1 := h x (List.mem_cons_self ..)
    have h2 := small_join (ts := y :: r) fun t ht => h t (List.mem_cons_of_mem _ ht)
    have h3 : small 2 [44, 32] := ⟨by simp, by decide⟩
    refine small.mono (h1.app (h3.app h2)) ?_
    simp only [List.length_cons, Nat.mul_add, Nat.add_mul]
    omega
theorem G1.txt {m : Nat} (hm : 1 ≤ m) {d : D} (h : G1 m d) : small ((4 * m + 20) * m + 4 * m + 20) (PV.txt d) := by
  rcases h with h | ⟨xs, h, hl, hx⟩
  · exact (h.txt hm).mono (by omega)
  · have hj := small_join (n := 4 * m + 16) (ts := xs.map PV.txt) fun t ht => by
      obtain ⟨x, h1, rfl⟩ := List.mem_map.mp ht
      exact (hx x h1).txt hm
    have hj : small ((4 * m + 18) * m) (joinL (xs.map PV.txt)) := hj.mono (by rw [List.length_map]; exact Nat.mul_le_mul_left _ hl)
    have hm2 : (4 * m + 18) * m ≤ (4 * m + 20) * m := Nat.mul_le_mul_right _ (by omega)
    rcases h with rfl | rfl
    · rw [txt_tup]
      have h1 : small 1 [40] := ⟨by simp, by decide⟩
      have h2 : small 2 (if xs.length = 1 then [44, 41] else [41]) := by split <;> exact ⟨by simp, by decide⟩
      exact small.mono (h1.app (hj.app h2)) (by omega)
    · rw [txt_lstE]
      have h1 : small 1 [91] := ⟨by simp, by decide⟩
      have h2 : small 1 [93] := ⟨by simp, by decide⟩
      exact small.mono (h1.app (hj.app h2)) (by omega)
theorem dats_of : ∀ {xs : List D}, (∀ x ∈ xs, dat x = true) → dats xs = true
  | [], _ => rfl
  | x :: xs, h => by simp only [dats, Bool.and_eq_true]; exact ⟨h x (List.mem_cons_self ..), dats_of fun y hy => h y (List.mem_cons_of_mem _ hy)⟩
theorem deps_of {n : Nat} : ∀ {xs : List D}, (∀ x ∈ xs, dep x ≤ n) → deps xs ≤ n
  | [], _ => Nat.zero_le _
  | x :: xs, h => by
    simp only [deps]
    exact Nat.max_le.mpr ⟨h x (List.mem_cons_self ..), deps_of fun y hy => h y (List.mem_cons_of_mem _ hy)⟩
theorem showAll_of : ∀ {xs : List D}, (∀ x ∈ xs, (toPy x).showable = true) → PyData.showableAll (toPys xs) = true
  | [], _ => rfl
  | x :: xs, h => by simp only [toPys, PyData.showableAll, Bool.and_eq_true]; exact ⟨h x (List.mem_cons_self ..), showAll_of fun y hy => h y (List.mem_cons_of_mem _ hy)⟩
theorem G1.dat {m : Nat} {d : D} (h : G1 m d) : PV.dat d = true ∧ dep d ≤ 1 := by
  rcases h with h | ⟨xs, h, hl, hx⟩
  · exact ⟨h.dat.1, by rw [h.dat.2]; omega⟩
  · have h1 : dats xs = true := dats_of fun x h => (hx x h).dat.1
    have h2 : deps xs ≤ 0 := deps_of fun x h => by rw [(hx x h).dat.2]; omega
    rcases h with rfl | rfl <;> exact ⟨by simpa [PV.dat] using h1, by simp only [dep]; omega⟩
theorem G1.show {m : Nat} (h1 : 1 ≤ m) (hm : m ≤ 1000) {d : D} (h : G1 m d) : showD d = some (PV.txt d) := by
  obtain ⟨hd, hp⟩ := h.dat
  have hs : (toPy d).showable = true := by
    rcases h with h | ⟨xs, h, hl, hx⟩
    · exact h.showable (by omega)
    · have := showAll_of (xs := xs) fun x h => (hx x h).showable (by omega)
      rcases h with rfl | rfl <;> simpa [toPy, PyData.showable] using this
  have hl : (toPy d).shown.length ≤ line := by
    have := (h.txt h1).1
    have e : (PV.txt d).length = (toPy d).shown.length := by simp [PV.txt, Str.length]
    rw [e] at this
    have h3 : (4 * m + 20) * m ≤ (4 * 1000 + 20) * 1000 := Nat.mul_le_mul (by omega) hm
    show _ ≤ 16777216
    omega
  unfold showD
  have : (PV.dat d && decide (dep d ≤ 64) && (toPy d).showable && decide ((toPy d).shown.length ≤ line)) = true := by
    rw [hd, hs, decide_eq_true (show dep d ≤ 64 by omega), decide_eq_true hl]
    rfl
  rw [if_pos this]
  rfl
end PV

set_option Elab.async false
set_option linter.all false
set_option maxRecDepth 100000
set_option maxHeartbeats 4000000
/-! SFair2: the law's own look; both looks agree. -/
namespace PV
local macro_rules | `(tactic| walk_at "yy") => `(tactic| first
  | ((with_reducible refine gE ?_); first
    | ((with_reducible refine' Y.var ?h1 ?_); (case h1 => rfl))
    | ((with_reducible refine' Y.varL ?h1 ?_); (case h1 => rfl))
    | with_reducible first | refine Y.op ?_ | refine Y.con ?_ | refine Y.call ?_ | refine Y.tup ?_ | refine Y.or ?_ | refine Y.and ?_ | refine Y.not ?_ | refine Y.ite ?_ | refine Y.lst ?_)
  | ((with_reducible refine gA ?_); first
    | ((with_reducible refine' Y.alook ?h1 ?h2 ?_); (case h1 => rfl); (case h2 => rfl))
    | ((with_reducible refine' Y.acons ?h1 ?_); (case h1 => rfl))
    | with_reducible refine Y.anil ?_)
  | ((with_reducible refine gO ?_); first
    | with_reducible first | refine Y.add ?_ | refine Y.subI ?_ | refine Y.lt ?_ | refine Y.le ?_ | refine Y.gt ?_ | refine Y.ge ?_ | refine Y.intI ?_ | refine Y.eqI ?_ | refine Y.neI ?_ | refine Y.isi ?_ | refine Y.lenT ?_ | refine Y.lenL ?_ | refine Y.neg ?_ | refine Y.abs ?_ | refine Y.intB ?_
    | ((with_reducible refine' Y.at ?h1 ?_); (case h1 => rfl))
    | ((with_reducible refine' Y.mod ?h1 ?_); (case h1 => first | assumption | decide | omega))
    | ((with_reducible refine' Y.pr ?h1 ?h2 ?_); (case h1 => rfl); (case h2 => rfl)))
  | with_reducible first | refine Exists.intro _ (And.intro FrIs.val ?_) | refine Kn.nx ?_ | refine Kn.rt ?_
  | ((with_reducible refine gB ?_); first
    | with_reducible first | refine Y.onT ?_ | refine Y.onF ?_
    | ((with_reducible refine' Y.onTe ?h1 ?_); (case h1 => rfl))
    | ((with_reducible refine' Y.onFe ?h1 ?_); (case h1 => rfl)))
  | ((with_reducible refine gP ?_); (with_reducible first | refine Y.pcons ?_ | refine Y.pnil ?_))
  | ((with_reducible refine gL ?_); (with_reducible first | refine Y.cons ?_ | refine Y.nil ?_))
  | ((with_reducible refine gS ?_); first
    | with_reducible first | refine Y.asg ?_ | refine Y.if ?_ | refine Y.exp ?_ | refine Y.pass ?_
    | ((with_reducible refine' Y.ret ?h1 ?_); (case h1 => rfl))
    | ((with_reducible refine' Y.retV ?h1 ?_); (case h1 => rfl))
    | ((with_reducible refine' Y.par ?h1 ?_); (case h1 => rfl)))
  | with_reducible first | refine Ret.rt ?_ | refine Ret.nx ?_
  | ((with_reducible refine' And.intro ?h1 ?_); (case h1 => exact of_decide_eq_true rfl); (try dsimp only [List.set_cons_zero, List.set_cons_succ]))
  | ((with_reducible refine gX ?_); with_reducible first | refine Exists.intro _ (And.intro rfl ?_) | refine Exists.intro _ (And.intro FrIs.lst ?_) | refine Exists.intro _ (And.intro (.cons .val (.cons .val .nil)) ?_) | refine Exists.intro _ (And.intro (.cons .val .nil) ?_) | refine Exists.intro _ (And.intro FrsIs.nil ?_))
  | ((with_reducible refine' RetM.rt ?h1 ?_); (case h1 => rfl))
  | ((with_reducible refine' RetM.nx ?h1 ?_); (case h1 => rfl))
  | with_reducible refine Y.ok ?_)
local macro_rules | `(tactic| walk_at "yd") => `(tactic| ((try dsimp only [List.map, List.cons_append, List.nil_append, List.append_nil, List.replicate, Nat.sub_self, Nat.reduceSub, vals, wipe, CT.ix, List.set_cons_zero, List.set_cons_succ]); (repeat walk_at "yy")))
section
variable {sub : Sub} {T : Tab} {k : Nat}
theorem eqvs_int : ∀ is js : List Int, eqvs (is.map .int) (js.map .int) = decide (is = js)
  | [], [] => rfl
  | [], _ :: _ => rfl
  | _ :: _, [] => rfl
  | i :: is, j :: js => by
    simp only [List.map_cons, eqvs, eqv, eqvs_int is js]
    by_cases h : i = j <;> by_cases h2 : is = js <;> simp [h, h2]
theorem cmp_ints (is : List Int) : cmpOk (.lst (is.map .int)) = true := by
  unfold cmpOk
  have h1 : dats (is.map D.int) = true := dats_of fun x hx => by
    obtain ⟨i, _, rfl⟩ := List.mem_map.mp hx
    rfl
  have h2 : deps (is.map D.int) ≤ 0 := deps_of fun x hx => by
    obtain ⟨i, _, rfl⟩ := List.mem_map.mp hx
    exact Nat.le_refl _
  simp only [dat, dep, h1, Bool.true_and]
  exact decide_eq_true (by omega)
theorem Y.neL {rp : D → Option (List Nat)} {l : Bool} {ρ : Rho} {Q : P → Rho → Prop} {is js : List Int} (h : Q (.val (.bl (!decide (is = js)))) ρ) : Y (ofD l ρ (prim rp sub .ne [.lst (is.map .int), .lst (js.map .int)])) Q := by
  have e : prim rp sub .ne [.lst (is.map .int), .lst (js.map .int)] = some (.bl (!decide (is = js))) := by
    simp only [prim, opEq, cmp_ints, when_, Bool.and_true, if_true, eqv, eqvs_int, Bool.true_xor]
  rw [e]
  exact Y.ok h
theorem Y.eqS {rp : D → Option (List Nat)} {l : Bool} {ρ : Rho} {Q : P → Rho → Prop} {x y : List Nat} (hx : okStr x = true) (hy : okStr y = true) (h : Q (.val (.bl (decide (x = y)))) ρ) : Y (ofD l ρ (prim rp sub .eq [.str x, .str y])) Q := by
  have e : prim rp sub .eq [.str x, .str y] = some (.bl (decide (x = y))) := by
    have e1 : eqv (.str x) (.str y) = decide (x = y) := by
      simp only [eqv]
      by_cases h : x = y <;> simp [h]
    simp [prim, opEq, cmpOk, dat, dep, hx, hy, when_, e1]
  rw [e]
  exact Y.ok h
theorem Y.neS {rp : D → Option (List Nat)} {l : Bool} {ρ : Rho} {Q : P → Rho → Prop} {x y : List Nat} (hx : okStr x = true) (hy : okStr y = true) (h : Q (.val (.bl (!decide (x = y)))) ρ) : Y (ofD l ρ (prim rp sub .ne [.str x, .str y])) Q := by
  have e : prim rp sub .ne [.str x, .str y] = some (.bl (!decide (x = y))) := by
    have e1 : eqv (.str x) (.str y) = decide (x = y) := by
      simp only [eqv]
      by_cases h : x = y <;> simp [h]
    simp [prim, opEq, cmpOk, dat, dep, hx, hy, when_, e1]
  rw [e]
  exact Y.ok h
theorem Y.repr {l : Bool} {ρ : Rho} {Q : P → Rho → Prop} {d : D} {z : List Nat} (hz : showD d = some z) (h : Q (.val (.str z)) ρ) : Y (ofD l ρ (prim showD sub .repr [d])) Q := by
  have e : prim showD sub .repr [d] = some (.str z) := by simp [prim, hz]
  rw [e]
  exact Y.ok h
theorem Y.lay {rp : D → Option (List Nat)} {o : Op} {ρ : Rho} {ds xs : List D} {Q : P → Rho → Prop} (ho : o.lays = true) (e : prim rp sub o ds = some (.lst xs)) (h : Q (.lst (vals xs)) ρ) : Y (ofD o.lays ρ (prim rp sub o ds)) Q := by
  rw [ho]
  exact Y.prL e h
theorem Y.keep {rp : D → Option (List Nat)} {o : Op} {ρ : Rho} {ds xs : List D} {Q : P → Rho → Prop} (ho : o.lays = false) (e : prim rp sub o ds = some (.lst xs)) (h : Q (.val (.lst xs)) ρ) : Y (ofD o.lays ρ (prim rp sub o ds)) Q := by
  rw [ho]
  exact Y.prK e h
theorem frs_mapV (l : List D) : frs (List.map P.val l) = l := frs_valsW l
def maxH : List Int → Int
  | i :: r => maxL i r
  | [] => 0
theorem max_prim {rp : D → Option (List Nat)} : ∀ {is : List Int}, is ≠ [] → prim rp sub .max [.tup (is.map .int)] = some (.int (maxH is))
  | [], h => absurd rfl h
  | i :: r, _ => by
    have e := ints_map (i :: r)
    simp only [prim, seq?, Option.bind_some, e]
    rfl
/-- what the law's look tells -/
def jfI (m n : Nat) (is : List Int) (b : D) : Bool := decide (sumL is = m) && (decide (is = (isort is).reverse) && (decide (maxH is = (top m n : Int)) && decide (txt b = txt (rD (Hm (top m n))))))
def jfB (m n : Nat) (v : D) : Bool := match v with
  | .tup [.tup xs, b] => decide (xs.length = n) && (match dInts xs with
    | some is => is.all (fun i => decide (1 ≤ i)) && jfI m n is b
    | none => false)
  | _ => false
theorem rD_G1 {q : Rat} {m : Nat} (h2 : 2 ≤ m) (hq : Small m q) : G1 m (rD q) := by
  refine .inr ⟨_, .inl rfl, by simpa using h2, fun x hx => ?_⟩
  simp only [List.mem_cons, List.mem_nil_iff, or_false] at hx
  rcases hx with rfl | rfl
  · exact hq.1
  · show ((q.den : Int)).natAbs < 2 ^ m
    simpa using hq.2
theorem Hm_small {n : Nat} (h : n ≤ 20) : Small 200 (Hm n) := (Hs_small (low := 1) (n := n) (by omega) (by decide)).mono (by omega)
variable (R : TR T)
include R
theorem is_int_ok (v : D) : Y (calls showD sub T (k + 1) f__law_is_int [.val v, .val (.int 1)]) fun p _ => p = .val (.bl (isIntB v (some 1) none)) := by
  refine Y.def R.is_int rfl rfl rfl ?_
  cases v with
  | int i => walk_at "yd"; simp [isIntB]
  | bl b => walk_at "yd"; rfl
  | _ => walk_at "yd"; rfl
theorem is_fair_ok {m n : Nat} (hn : 1 ≤ n) (hm : n ≤ m) (hm2 : m ≤ 20) (hk : 40 ≤ k) {v : D} (hv : ∀ a b, v = .tup [a, b] → G1 300 b) : Y (calls showD sub T k f__law_is_fair [.val (.int m), .val (.int n), .val v]) fun p _ => p = .val (.bl (jfB m n v)) := by
  obtain ⟨k, rfl⟩ : ∃ j, k = j + 5 := ⟨k - 5, by omega⟩
  refine Y.def R.is_fair rfl rfl rfl ?_
  have no : (∀ xs b, v ≠ .tup [.tup xs, b]) → jfB m n v = false := fun h => by
    unfold jfB
    split
    · exact absurd rfl (h _ _)
    · rfl
  by_cases hv1 : ∃ ys, v = .tup ys
  · obtain ⟨ys, rfl⟩ := hv1
    walk_at "yd"
    refine Y.onB (fun h => ?_) (fun h => ?_)
    · walk_at "yd"
      rw [no fun xs b z => by
        cases z
        simp at h]
    have h2 : ys.length = 2 := by
      have : ((ys.length : Int)) = 2 := by simpa using h
      omega
    match ys, h2 with
    | [a, b], _ =>
      by_cases ha : ∃ xs, a = .tup xs
      · obtain ⟨xs, rfl⟩ := ha
        walk_at "yd"
        refine Y.onB (fun h => ?_) (fun h => ?_)
        · walk_at "yd"
          have h : ¬ xs.length = n := fun z => by simp [z] at h
          simp [jfB, h]
        have hl : xs.length = n := by
          have : ((xs.length : Int)) = n := by simpa using h
          omega
        walk_at "yd"
        refine Y.lc (Y.seq ?_)
        walk_at "yd"
        refine ⟨_, _, FrIs.val, rfl, ?_⟩
        refine ⟨by simp [okLen, line, hl]; omega, ?_⟩
        refine Y.loopCG (fun d => .val (.bl (isIntB d (some 1) none))) _ _ (fun d hd => Y.eq ?_) ?_
        · refine Y.turnC1 rfl ?_
          walk_at "yd"
          refine (is_int_ok R d).mono fun p _ e => ?_
          subst e
          exact ⟨rfl, rfl⟩
        simp only [List.reverse_nil, List.nil_append]
        walk_at "yd"
        rw [frs_map (fun d => D.bl (isIntB d (some 1) none)) xs]
        refine all_map _ _ ?_
        walk_at "yd"
        refine Y.onB (fun h => ?_) (fun h => ?_)
        · walk_at "yd"
          have h : xs.all (fun d => isIntB d (some 1) none) = false := by simpa using h
          have hs : jfB m n (.tup [.tup xs, b]) = false := by
            simp only [jfB]
            split
            · rename_i is e
              rw [not_all h e]
              simp
            · simp
          rw [hs]
        obtain ⟨is, rfl, hall⟩ := all_ints (xs := xs) (by simpa using h)
        have hl : is.length = n := by simpa using hl
        have hjf : jfB m n (.tup [.tup (is.map .int), b]) = jfI m n is b := by
          simp [jfB, ints_map, hall, hl]
        rw [hjf]
        walk_at "yd"
        refine Y.sum rfl (ints_map is) ?_
        walk_at "yd"
        refine Y.onB (fun h => ?_) (fun h => ?_)
        · walk_at "yd"
          have h : ¬ sumL is = m := by simpa using h
          simp [jfI, h]
        have hsum : sumL is = m := by simpa using h
        walk_at "yd"
        refine Y.fdiv (okDiv_of (by omega) (b := 10) (by simp; omega) (by decide)) ?_
        have etop : ((m : Int) + n - 1).fdiv n = (top m n : Int) := by
          rw [Int.fdiv_eq_ediv_of_nonneg _ (by omega)]
          have : (m : Int) + n - 1 = ((m + n - 1 : Nat) : Int) := by omega
          rw [this]
          rfl
        rw [etop]
        walk_at "yd"
        refine Y.lay rfl rfl ?_
        walk_at "yd"
        have esort : prim showD sub .sorted [.tup (is.map .int)] = some (.lst ((isort is).map .int)) := by simp [prim, seq?, ints_map]
        refine Y.lay rfl esort ?_
        walk_at "yd"
        rw [frs_mapV, frs_mapV]
        refine Y.keep rfl rfl ?_
        walk_at "yd"
        have erev : (List.map D.int (isort is)).reverse = (isort is).reverse.map .int := by rw [List.map_reverse]
        rw [erev]
        refine Y.neL ?_
        refine Y.onB (fun h => ?_) (fun h => ?_)
        · walk_at "yd"
          have h : ¬ is = (isort is).reverse := by simpa using h
          simp [jfI, h]
        have hsrt : is = (isort is).reverse := by simpa using h
        have hne : is ≠ [] := fun z => by rw [z] at hl; simp at hl; omega
        walk_at "yd"
        refine Y.pr (max_prim hne) rfl ?_
        walk_at "yd"
        refine Y.onB (fun h => ?_) (fun h => ?_)
        · walk_at "yd"
          have h : ¬ maxH is = (top m n : Int) := by simpa using h
          have : jfI m n is b = false := by
            unfold jfI
            simp [h]
          rw [this]
        have hmx : maxH is = (top m n : Int) := by simpa using h
        have hG : G1 300 b := hv _ _ rfl
        have ht20 : top m n ≤ 20 := Nat.le_trans (top_le hn) hm2
        have hH : G1 300 (rD (Hm (top m n))) := rD_G1 (by decide) ((Hm_small ht20).mono (by decide))
        walk_at "yd"
        refine Y.repr (hG.show (by decide) (by decide)) ?_
        walk_at "yd"
        refine (law_harmonic_ok R.harmonic R.sum R.lplus R.lratio (by omega)).mono fun p _ e => ?_
        subst e
        walk_at "yd"
        refine Y.repr (hH.show (by decide) (by decide)) ?_
        walk_at "yd"
        refine Y.eqS (hG.txt (by decide)).okStr (hH.txt (by decide)).okStr ?_
        walk_at "yd"
        have : jfI m n is b = decide (txt b = txt (rD (Hm (top m n)))) := by
          unfold jfI
          rw [← hsrt, hmx]
          simp [hsum]
        rw [this]
      · have e0 : ∀ (s : Sub), isKi s a .tup = false := fun s => by
          cases a with
          | tup xs => exact absurd ⟨xs, rfl⟩ ha
          | _ => rfl
        walk_at "yd"
        refine Y.onTe (by rw [e0]; rfl) ?_
        walk_at "yd"
        rw [no fun xs b' z => by
          cases z
          exact ha ⟨_, rfl⟩]
  · have e0 : ∀ (s : Sub), isKi s v .tup = false := fun s => by
      cases v with
      | tup xs => exact absurd ⟨xs, rfl⟩ hv1
      | _ => rfl
    walk_at "yd"
    refine Y.onTe (by rw [e0]; rfl) ?_
    walk_at "yd"
    rw [no fun xs b' z => hv1 ⟨_, z⟩]
end
end PV

set_option Elab.async false
set_option linter.all false
set_option maxRecDepth 100000
set_option maxHeartbeats 4000000
/-! SEq: both looks at fair lengths agree. -/
namespace PV
theorem desc_pw : ∀ {is : List Int}, desc is = true ↔ is.Pairwise (fun a b => b ≤ a)
  | [] => by simp [desc]
  | [a] => by simp [desc]
  | a :: b :: r => by
    have ih := desc_pw (is := b :: r)
    have e : desc (a :: b :: r) = (decide (b ≤ a) && desc (b :: r)) := by simp [desc]
    rw [e, Bool.and_eq_true, decide_eq_true_eq, ih]
    constructor
    · rintro ⟨h1, h2⟩
      refine List.Pairwise.cons (fun c hc => ?_) h2
      rcases List.mem_cons.mp hc with z | z
      · rw [z]; exact h1
      · have := List.rel_of_pairwise_cons h2 z
        omega
    · intro h
      exact ⟨List.rel_of_pairwise_cons h (List.mem_cons_self ..), h.of_cons⟩
theorem ins_permW (i : Int) : ∀ l : List Int, (ins i l).Perm (i :: l)
  | [] => List.Perm.refl _
  | j :: l => by
    unfold ins
    split
    · exact List.Perm.refl _
    · exact ((ins_permW i l).cons j).trans (List.Perm.swap i j l)
theorem ins_pw {i : Int} : ∀ {l : List Int}, l.Pairwise (· ≤ ·) → (ins i l).Pairwise (· ≤ ·)
  | [], _ => by simp [ins]
  | j :: l, h => by
    unfold ins
    split
    · rename_i hij
      refine List.Pairwise.cons (fun c hc => ?_) h
      rcases List.mem_cons.mp hc with z | z
      · rw [z]; exact hij
      · have := List.rel_of_pairwise_cons h z
        omega
    · rename_i hij
      refine List.Pairwise.cons (fun c hc => ?_) (ins_pw h.of_cons)
      have := (ins_permW i l).mem_iff.mp hc
      rcases List.mem_cons.mp this with z | z
      · omega
      · exact List.rel_of_pairwise_cons h z
theorem isort_permW : ∀ l : List Int, (isort l).Perm l
  | [] => List.Perm.refl _
  | i :: l => (ins_permW i (isort l)).trans ((isort_permW l).cons i)
theorem isort_pw : ∀ l : List Int, (isort l).Pairwise (· ≤ ·)
  | [] => List.Pairwise.nil
  | i :: l => ins_pw (isort_pw l)
theorem sorted_eq : ∀ {a b : List Int}, a.Pairwise (· ≤ ·) → b.Pairwise (· ≤ ·) → a.Perm b → a = b
  | [], b, _, _, h => h.nil_eq
  | x :: a, [], _, _, h => by simpa using h.eq_nil
  | x :: a, y :: b, ha, hb, h => by
    have hxy : x = y := by
      have h1 : x ∈ y :: b := h.mem_iff.mp (List.mem_cons_self ..)
      have h2 : y ∈ x :: a := h.mem_iff.mpr (List.mem_cons_self ..)
      rcases List.mem_cons.mp h1 with z | z
      · exact z
      · rcases List.mem_cons.mp h2 with w | w
        · exact w.symm
        · have := List.rel_of_pairwise_cons hb z
          have := List.rel_of_pairwise_cons ha w
          omega
    subst hxy
    rw [sorted_eq ha.of_cons hb.of_cons ((List.perm_cons x).mp h)]
theorem desc_sort (is : List Int) : desc is = decide (is = (isort is).reverse) := by
  by_cases h : desc is = true
  · rw [h]
    refine (decide_eq_true ?_).symm
    have h1 : is.reverse.Pairwise (· ≤ ·) := List.pairwise_reverse.mpr (desc_pw.mp h)
    have h2 : is.reverse = isort is := sorted_eq h1 (isort_pw is) ((List.reverse_perm is).trans (isort_permW is).symm)
    rw [← h2, List.reverse_reverse]
  · have h' : desc is = false := by simpa using h
    rw [h']
    refine (decide_eq_false fun e => h (desc_pw.mpr ?_)).symm
    rw [e]
    exact List.pairwise_reverse.mpr (isort_pw is)
theorem maxL_of : ∀ {r : List Int} {m : Int}, (∀ x ∈ r, x ≤ m) → maxL m r = m
  | [], _, _ => rfl
  | i :: r, m, h => by
    unfold maxL
    rw [if_neg (by have := h i (List.mem_cons_self ..); omega)]
    exact maxL_of fun x hx => h x (List.mem_cons_of_mem _ hx)
theorem max_head {is : List Int} (h : desc is = true) (hn : is ≠ []) : is.head? = some (maxH is) := by
  cases is with
  | nil => exact absurd rfl hn
  | cons i r =>
    have := desc_pw.mp h
    show some i = some (maxL i r)
    rw [maxL_of fun x hx => List.rel_of_pairwise_cons this hx]
theorem rat_look {b : D} (hb : dat b = true) {q : Rat} (hq : 0 ≤ q) : (isShB b && eqv b (rD q)) = decide (txt b = txt (rD q)) := by
  by_cases h : txt b = txt (rD q)
  · have e := txt_pair hb (p := q.num) (q := (q.den : Int)) h
    subst e
    rw [decide_eq_true h]
    have h1 : (1 : Int) ≤ q.den := by
      have := q.den_nz
      omega
    have h2 : q.num.gcd (q.den : Int) = 1 := by
      have := q.reduced
      simpa [Int.gcd] using this
    have h3 : 0 ≤ q.num := Rat.num_nonneg.mpr hq
    simp [isShB, isRatB, h1, h2, h3, rD, eqv, eqvs]
  · rw [decide_eq_false h]
    cases hs : isShB b with
    | false => rfl
    | true =>
      have hr : isRatB b = true := by unfold isShB at hs; rw [Bool.and_eq_true] at hs; exact hs.1
      obtain ⟨x, y, rfl, _⟩ := isRat_some hr
      rw [Bool.true_and]
      cases he : eqv (.tup [.int x, .int y]) (rD q) with
      | false => rfl
      | true =>
        exfalso
        unfold rD at he h
        simp only [eqv, eqvs, Bool.and_true, Bool.and_eq_true, beq_iff_eq] at he
        rw [he.1, he.2] at h
        exact h rfl
theorem inv1_nonneg (n : Nat) : 0 ≤ inv1 n := by
  rcases Nat.eq_zero_or_pos n with z | z
  · subst z; decide
  · rw [← Rat.num_nonneg, (inv1_num z).1]; decide
theorem Hs_nonneg (low : Nat) : ∀ n, 0 ≤ Hs low n
  | 0 => by show (0 : Rat) ≤ 0; exact Rat.le_refl
  | n + 1 => by
    show (0 : Rat) ≤ Hs low n + inv1 (low + n)
    have h1 := Hs_nonneg low n
    have h2 := inv1_nonneg (low + n)
    grind
theorem looks_agree {m n : Nat} (hn : 1 ≤ n) {v : D} (hv : ∀ a b, v = .tup [a, b] → G1 300 b) : sfB m n v = jfB m n v := by
  by_cases hx : ∃ xs b, v = .tup [.tup xs, b]
  · obtain ⟨xs, b, rfl⟩ := hx
    simp only [sfB, jfB]
    by_cases hl : xs.length = n
    · congr 1
      cases e : dInts xs with
      | none => rfl
      | some is =>
        simp only
        congr 1
        unfold sfI jfI
        have hne : is ≠ [] := fun z => by
          have := ints_some e
          rw [this, z] at hl
          simp at hl
          omega
        rw [← desc_sort, rat_look (q := Hm (top m n)) (hv _ _ rfl).dat.1 (Hs_nonneg 1 _)]
        cases hd : desc is with
        | false => simp
        | true =>
          rw [max_head hd hne]
          simp
    · simp [hl]
  · have h1 : sfB m n v = false := by
      unfold sfB
      split
      · exact absurd ⟨_, _, rfl⟩ hx
      · rfl
    have h2 : jfB m n v = false := by
      unfold jfB
      split
      · exact absurd ⟨_, _, rfl⟩ hx
      · rfl
    rw [h1, h2]
theorem G1.tame {m : Nat} (hm : m ≤ 8000) {b : D} (h : G1 m b) : tameR b := by
  rintro n d rfl
  rcases h with h | ⟨xs, e, hl, hx⟩
  · exact h.elim
  · rcases e with e | e
    · cases e
      have : G0 m (.int d) := hx _ (by simp)
      exact Nat.lt_of_lt_of_le this (Nat.pow_le_pow_right (by decide) hm)
    · cases e
end PV

set_option Elab.async false
set_option linter.all false
set_option maxRecDepth 100000
set_option maxHeartbeats 4000000
/-! SVal: values that are drawn. -/
namespace PV
local macro_rules | `(tactic| walk_at "yy") => `(tactic| first
  | ((with_reducible refine gE ?_); first
    | ((with_reducible refine' Y.var ?h1 ?_); (case h1 => rfl))
    | ((with_reducible refine' Y.varL ?h1 ?_); (case h1 => rfl))
    | with_reducible first | refine Y.op ?_ | refine Y.con ?_ | refine Y.call ?_ | refine Y.tup ?_ | refine Y.or ?_ | refine Y.and ?_ | refine Y.not ?_ | refine Y.ite ?_ | refine Y.lst ?_ | refine Y.dct0 ?_)
  | ((with_reducible refine gA ?_); first
    | ((with_reducible refine' Y.alook ?h1 ?h2 ?_); (case h1 => rfl); (case h2 => rfl))
    | ((with_reducible refine' Y.acons ?h1 ?_); (case h1 => rfl))
    | with_reducible refine Y.anil ?_)
  | ((with_reducible refine gO ?_); first
    | with_reducible first | refine Y.add ?_ | refine Y.subI ?_ | refine Y.lt ?_ | refine Y.le ?_ | refine Y.gt ?_ | refine Y.ge ?_ | refine Y.intI ?_ | refine Y.eqI ?_ | refine Y.neI ?_ | refine Y.isi ?_ | refine Y.lenT ?_ | refine Y.lenL ?_ | refine Y.neg ?_ | refine Y.abs ?_ | refine Y.intB ?_
    | ((with_reducible refine' Y.at ?h1 ?_); (case h1 => rfl))
    | ((with_reducible refine' Y.mod ?h1 ?_); (case h1 => first | assumption | decide | omega))
    | ((with_reducible refine' Y.pr ?h1 ?h2 ?_); (case h1 => rfl); (case h2 => rfl)))
  | with_reducible first | refine Exists.intro _ (And.intro FrIs.val ?_) | refine Kn.nx ?_ | refine Kn.rt ?_
  | ((with_reducible refine gB ?_); first
    | with_reducible first | refine Y.onT ?_ | refine Y.onF ?_
    | ((with_reducible refine' Y.onTe ?h1 ?_); (case h1 => rfl))
    | ((with_reducible refine' Y.onFe ?h1 ?_); (case h1 => rfl)))
  | ((with_reducible refine gP ?_); (with_reducible first | refine Y.pcons ?_ | refine Y.pnil ?_))
  | ((with_reducible refine gL ?_); (with_reducible first | refine Y.cons ?_ | refine Y.nil ?_))
  | ((with_reducible refine gS ?_); first
    | with_reducible first | refine Y.asg ?_ | refine Y.if ?_ | refine Y.exp ?_ | refine Y.pass ?_
    | ((with_reducible refine' Y.ret ?h1 ?_); (case h1 => rfl))
    | ((with_reducible refine' Y.retV ?h1 ?_); (case h1 => rfl))
    | ((with_reducible refine' Y.par ?h1 ?_); (case h1 => rfl)))
  | with_reducible first | refine Ret.rt ?_ | refine Ret.nx ?_
  | ((with_reducible refine' And.intro ?h1 ?_); (case h1 => exact of_decide_eq_true rfl); (try dsimp only [List.set_cons_zero, List.set_cons_succ]))
  | ((with_reducible refine gX ?_); with_reducible first | refine Exists.intro _ (And.intro rfl ?_) | refine Exists.intro _ (And.intro FrIs.lst ?_) | refine Exists.intro _ (And.intro (.cons .val (.cons .val .nil)) ?_) | refine Exists.intro _ (And.intro (.cons .val .nil) ?_) | refine Exists.intro _ (And.intro FrsIs.nil ?_))
  | ((with_reducible refine' RetM.rt ?h1 ?_); (case h1 => rfl))
  | ((with_reducible refine' RetM.nx ?h1 ?_); (case h1 => rfl))
  | with_reducible refine Y.ok ?_)
local macro_rules | `(tactic| walk_at "yd") => `(tactic| ((try dsimp only [List.map, List.cons_append, List.nil_append, List.append_nil, List.replicate, Nat.sub_self, Nat.reduceSub, vals, wipe, CT.ix, List.set_cons_zero, List.set_cons_succ]); (repeat walk_at "yy")))
section
variable {rp : D → Option (List Nat)} {sub : Sub} {T : Tab} {k : Nat}
theorem Y.callP {f i : Nat} {as : CEs} {ρ : Rho} {p : P} {Q : P → Rho → Prop} (hi : ρ[i]? = some (some p)) (hl : ∃ qs, p = .lst qs)
    (h : Y (xPs (En rp sub T k) as ρ) fun ps ρ1 => ρ1[i]? = some (some p) ∧ Y (calls rp sub T k f (p :: ps)) fun r io => ∃ q, io = some q ∧ Q r (ρ1.set i (some q))) : Y (xE (En rp sub T k) (.callM f i as) ρ) Q := by
  obtain ⟨qs, rfl⟩ := hl
  refine Y.callM ?_ (h.mono fun ps ρ1 ⟨e, q⟩ => ⟨qs, e, q⟩)
  unfold held
  rw [hi]
theorem PotI.lst {n : Nat} {p : P} (h : PotI n p) : ∃ qs, p = .lst qs := by
  obtain ⟨a, b, c, e, _⟩ := h
  exact ⟨_, e⟩
structure OfR (n : Nat) (ds : List D) (r q : P) : Prop where
  ex : ∃ d, d ∈ ds ∧ r = .val d
  pot : PotI (n + 1) q
theorem at_mem {xs : List D} {v : Int} (h0 : 0 ≤ v) (h1 : v < xs.length) : ∃ d, d ∈ xs ∧ opAt (.lst xs) (.int v) = some d ∧ opAt (.tup xs) (.int v) = some d ∧ xs[v.toNat]? = some d := by
  have hlt : v.toNat < xs.length := by omega
  have e : atI xs v = some xs[v.toNat] := by
    unfold atI
    rw [if_pos h0, List.getElem?_eq_getElem hlt]
  exact ⟨_, List.getElem_mem hlt, e, e, List.getElem?_eq_getElem hlt⟩
theorem of_ok (hT : T f__law_of = some c__law_of) (ht : T f__law_take = some c__law_take) {n : Nat} {p p2 : P} {ds : List D} (hn : n < 2 ^ 60) (hp : PotI n p) (h2 : FrIs p2 (.lst ds)) (h0 : ds ≠ []) (hu : ds.length < 2 ^ 60) : Y (calls rp sub T (k + 2) f__law_of [p, p2]) fun r io => ∃ q, io = some q ∧ OfR n ds r q := by
  refine Y.defM hT rfl rfl rfl ?_
  have hl0 : 0 < ds.length := List.length_pos_iff.mpr h0
  generalize hd : D.lst ds = d at h2
  cases h2 with
  | val =>
    subst hd
    walk_at "yd"
    refine Y.callP rfl hp.lst ?_
    walk_at "yd"
    refine ⟨rfl, ?_⟩
    refine (take_ok ht hn hp (by omega) (by omega)).mono fun r io ⟨q, e, t⟩ => ⟨q, e, ?_⟩
    obtain ⟨⟨v, rfl, v0, v1⟩, tp⟩ := t
    obtain ⟨x, hx, e1, _⟩ := at_mem v0 v1
    walk_at "yd"
    refine Y.at e1 ?_
    walk_at "yd"
    exact ⟨⟨x, hx, rfl⟩, tp⟩
  | lst =>
    cases hd
    walk_at "yd"
    refine Y.callP rfl hp.lst ?_
    walk_at "yd"
    refine ⟨rfl, ?_⟩
    refine (take_ok ht hn hp (by omega) (by omega)).mono fun r io ⟨q, e, t⟩ => ⟨q, e, ?_⟩
    obtain ⟨⟨v, rfl, v0, v1⟩, tp⟩ := t
    obtain ⟨x, hx, e1, _⟩ := at_mem v0 v1
    walk_at "yd"
    refine Y.at e1 ?_
    walk_at "yd"
    exact ⟨⟨x, hx, rfl⟩, tp⟩
def VOk (v : D) : Prop := ∀ a b, v = .tup [a, b] → G1 300 b
structure ValR (n : Nat) (A : D → Prop) (r q : P) : Prop where
  ex : ∃ d, A d ∧ r = .val d
  pot : PotI n q
variable (R : TR T)
include R
theorem odd_ok {n : Nat} {p : P} (hn : n < 2 ^ 60) (hp : PotI n p) : Y (calls rp sub T (k + 3) f__law_odd_one [p]) fun r io => ∃ q, io = some q ∧ ValR (n + 1) VOk r q := by
  refine Y.defM R.odd_one rfl rfl rfl ?_
  walk_at "yd"
  refine Y.callP rfl hp.lst ?_
  walk_at "yd"
  simp only [frs, P.fr]
  refine Y.keep rfl rfl ?_
  walk_at "yd"
  refine ⟨rfl, ?_⟩
  refine (of_ok R.of R.take hn hp .val (by simp) (by simp)).mono fun r io ⟨q, e, t⟩ => ⟨q, e, ?_⟩
  obtain ⟨⟨d, hd, rfl⟩, tp⟩ := t
  walk_at "yd"
  refine ⟨⟨d, ?_, rfl⟩, tp⟩
  intro a b e
  subst e
  simp only [List.cons_append, List.nil_append, List.mem_cons, List.mem_nil_iff, D.tup.injEq, List.cons.injEq, reduceCtorEq, false_or, or_false, and_false, and_true, false_and, List.nil_eq, List.ne_cons_self] at hd
  have g : ∀ i : Int, i.natAbs < 2 ^ 300 → G1 300 (.int i) := fun i hi => .inl hi
  rcases hd with ⟨_, rfl⟩ | ⟨_, rfl⟩ | ⟨_, rfl⟩ | ⟨_, rfl⟩ | ⟨_, rfl⟩
  · exact g _ (by decide)
  · exact g _ (by decide)
  · exact g _ (by decide)
  · exact g _ (by decide)
  · exact .inl trivial
/-! ### one part otherwise -/
omit R in
theorem strI {i : Int} {m : Nat} (hm : m ≤ 1900) (h : i.natAbs < 2 ^ m) : prim rp sub .str [.int i] = some (.str (intStr i)) := by
  have : i.natAbs.log2 < 1920 := by
    by_cases z : i.natAbs = 0
    · rw [z]; decide
    · have := (Nat.log2_lt (n := i.natAbs) (k := m) z).mpr h
      omega
  simp [prim, when_, this]
theorem bent_int {n m : Nat} {p : P} {i : Int} (hn : n < 2 ^ 59) (hp : PotI n p) (h1 : 1 ≤ m) (hm : m ≤ 1000) (hi : i.natAbs < 2 ^ m) : Y (calls rp sub T (k + 3) f__law_bent [p, .val (.int i)]) fun r io => ∃ q, io = some q ∧ ValR (n + 1) (G0 (m + 1)) r q := by
  refine Y.defM R.bent rfl rfl rfl ?_
  walk_at "yd"
  refine Y.callP rfl hp.lst ?_
  walk_at "yd"
  refine Y.pr (strI (by omega) hi) rfl ?_
  walk_at "yd"
  refine ⟨rfl, ?_⟩
  refine (of_ok R.of R.take (by omega) hp .lst (by simp [frs]) (by simp [frs])).mono fun r io ⟨q, e, t⟩ => ⟨q, e, ?_⟩
  obtain ⟨⟨d, hd, rfl⟩, tp⟩ := t
  walk_at "yd"
  refine ⟨⟨d, ?_, rfl⟩, tp⟩
  simp only [frs, P.fr, List.mem_cons, List.mem_nil_iff, or_false] at hd
  have e2 : (2 : Nat) ^ (m + 1) = 2 ^ m + 2 ^ m := by rw [Nat.pow_succ]; omega
  have e3 : 1 ≤ (2 : Nat) ^ m := Nat.one_le_two_pow
  rcases hd with rfl | rfl | rfl | rfl | rfl | rfl | rfl
  · show (i + 1).natAbs < 2 ^ (m + 1)
    omega
  · show (i - 1).natAbs < 2 ^ (m + 1)
    omega
  · trivial
  · exact (small_int hi h1).mono (by omega)
  · trivial
  · show (0 : Int).natAbs < 2 ^ (m + 1)
    simp only [Int.natAbs_zero]
    omega
  · show (-i).natAbs < 2 ^ (m + 1)
    omega
omit R in
theorem cut_mem {α : Type} {xs : List α} {lo hi : Option Int} {x : α} (h : x ∈ cut xs lo hi) : x ∈ xs := by
  unfold cut at h
  exact List.mem_of_mem_take (List.mem_of_mem_drop h)
omit R in
theorem cut_len {α : Type} (xs : List α) (lo hi : Option Int) : (cut xs lo hi).length ≤ xs.length := by
  unfold cut
  simp only [List.length_drop, List.length_take]
  omega
omit R in
theorem ne_nil {xs : List D} (hc : cmpOk (.tup xs) = true) (h : xs ≠ []) : prim rp sub .ne [.tup xs, .tup []] = some (.bl true) := by
  have h2 : cmpOk (.tup []) = true := rfl
  have h3 : eqv (.tup xs) (.tup []) = false := by
    cases xs with
    | nil => exact absurd rfl h
    | cons a r => rfl
  simp only [prim, opEq, hc, h2, h3, when_, Bool.and_true, if_true]
  rfl
omit R in
theorem cmp_tup {n : Nat} {xs : List D} (hn : n ≤ 60) (h : ∀ x ∈ xs, dat x = true ∧ dep x ≤ n) : cmpOk (.tup xs) = true := by
  unfold cmpOk
  have h1 : dats xs = true := dats_of fun x hx => (h x hx).1
  have h2 : deps xs ≤ n := deps_of fun x hx => (h x hx).2
  simp only [dat, dep, h1, Bool.true_and]
  exact decide_eq_true (by omega)
omit R in
theorem addT {xs ys : List D} (h : xs.length + ys.length ≤ 1000) : prim rp sub .add [.tup xs, .tup ys] = some (.tup (xs ++ ys)) := by
  have : okLen (xs.length + ys.length) = true := decide_eq_true (by show _ ≤ 16777216; omega)
  simp only [prim, opAdd, when_, this, if_true]
/-- a row of integers, bent -/
theorem bent_row {n m : Nat} {p : P} {xs : List Int} (hn : n < 2 ^ 58) (hp : PotI n p) (h2 : 2 ≤ m) (hm : m ≤ 400) (hx : ∀ i ∈ xs, i.natAbs < 2 ^ m) (h0 : xs ≠ []) (hl : xs.length < m) : Y (calls rp sub T (k + 4) f__law_bent [p, .val (.tup (xs.map .int))]) fun r io => ∃ q, io = some q ∧ ValR (n + 3) (G1 (m + 1)) r q := by
  have hdx : ∀ x ∈ xs.map D.int, dat x = true ∧ dep x ≤ 0 := fun x hx => by
    obtain ⟨i, _, rfl⟩ := List.mem_map.mp hx
    exact ⟨rfl, Nat.le_refl _⟩
  have e2 : (2 : Nat) ^ (m + 1) = 2 ^ m + 2 ^ m := by rw [Nat.pow_succ]; omega
  have hG : ∀ x ∈ xs.map D.int, G0 (m + 1) x := fun x h => by
    obtain ⟨i, hi, rfl⟩ := List.mem_map.mp h
    have := hx i hi
    show i.natAbs < 2 ^ (m + 1)
    omega
  have h0' : xs.map D.int ≠ [] := by simpa using h0
  have hl' : (xs.map D.int).length < m := by simpa using hl
  have hlp : 0 < (xs.map D.int).length := List.length_pos_iff.mpr h0'
  have hmap : ∀ x ∈ xs.map D.int, ∃ i, x = .int i ∧ i.natAbs < 2 ^ m := fun x h => by
    obtain ⟨i, hi, rfl⟩ := List.mem_map.mp h
    exact ⟨i, rfl, hx i hi⟩
  generalize hys : xs.map D.int = ys at *
  refine Y.defM R.bent rfl rfl rfl ?_
  walk_at "yd"
  refine Y.pr (ne_nil (cmp_tup (by decide) hdx) h0') rfl ?_
  walk_at "yd"
  refine Y.callP rfl hp.lst ?_
  walk_at "yd"
  refine ⟨rfl, ?_⟩
  refine (take_ok R.take (by omega) hp (by decide) (by decide)).mono fun r io ⟨q, e, t⟩ => ⟨q, e, ?_⟩
  clear e
  obtain ⟨⟨v, rfl, v0, v1⟩, tp⟩ := t
  walk_at "yd"
  refine Y.onB (fun h => ?_) (fun h => ?_)
  · walk_at "yd"
    refine Y.callP rfl tp.lst ?_
    walk_at "yd"
    refine ⟨rfl, ?_⟩
    refine (take_ok R.take (by omega) tp (by omega) (by omega)).mono fun r io ⟨q2, e, t⟩ => ⟨q2, e, ?_⟩
    clear e
    obtain ⟨⟨a, rfl, a0, a1⟩, tp2⟩ := t
    obtain ⟨x, hxm, _, ea, _⟩ := at_mem a0 a1
    obtain ⟨i, rfl, hi⟩ := hmap x hxm
    walk_at "yd"
    refine Y.callP rfl tp2.lst ?_
    walk_at "yd"
    refine Y.at ea ?_
    walk_at "yd"
    refine ⟨rfl, ?_⟩
    refine (bent_int R (by omega) tp2 (by omega) (by omega) hi).mono fun r io ⟨q3, e, t⟩ => ⟨q3, e, ?_⟩
    clear e
    obtain ⟨⟨d, hd, rfl⟩, tp3⟩ := t
    walk_at "yd"
    have k1 := cut_len ys none (some a)
    have k2 := cut_len ys (some (a + 1)) none
    refine Y.pr (addT (by simp; omega)) rfl ?_
    walk_at "yd"
    have hadd : (cut ys none (some a) ++ [d]).length + (cut ys (some (a + 1)) none).length ≤ m + 1 := by
      unfold cut clip
      simp only [if_pos a0, if_pos (show (0 : Int) ≤ a + 1 by omega), List.length_append, List.length_drop, List.length_take, List.length_cons, List.length_nil]
      omega
    refine Y.pr (addT (by omega)) rfl ?_
    walk_at "yd"
    refine ⟨⟨_, ?_, rfl⟩, tp3⟩
    refine .inr ⟨_, .inl rfl, by rw [List.length_append]; exact hadd, fun y hy => ?_⟩
    rcases List.mem_append.mp hy with z | z
    · rcases List.mem_append.mp z with z | z
      · exact hG y (cut_mem z)
      · have : y = d := by simpa using z
        rw [this]
        exact hd
    · exact hG y (cut_mem z)
  · walk_at "yd"
    refine Y.callP rfl tp.lst ?_
    walk_at "yd"
    refine Y.lay rfl rfl ?_
    walk_at "yd"
    have k3 := cut_len ys (some (-1)) none
    refine Y.pr (addT (by omega)) rfl ?_
    walk_at "yd"
    refine ⟨rfl, ?_⟩
    refine (of_ok R.of R.take (by omega) tp .lst (by simp [frs]) (by simp [frs])).mono fun r io ⟨q2, e, t⟩ => ⟨q2, e, ?_⟩
    clear e
    obtain ⟨⟨d, hd, rfl⟩, tp2⟩ := t
    walk_at "yd"
    refine ⟨⟨d, ?_, rfl⟩, tp2.mono (by omega)⟩
    have row : ∀ zs : List D, zs.length ≤ m + 1 → (∀ z ∈ zs, z ∈ ys) → G1 (m + 1) (.tup zs) := fun zs hz hm => .inr ⟨zs, .inl rfl, hz, fun z h => hG z (hm z h)⟩
    simp only [frs, P.fr, frs_mapV, List.mem_cons, List.mem_nil_iff, or_false] at hd
    rcases hd with rfl | rfl | rfl | rfl | rfl | rfl | rfl
    · exact .inr ⟨ys, .inr rfl, by omega, fun z h => hG z h⟩
    · exact row _ (Nat.le_trans (cut_len ..) (by omega)) fun z h => cut_mem h
    · exact row _ (Nat.le_trans (cut_len ..) (by omega)) fun z h => cut_mem h
    · refine row _ ?_ fun z h => (List.mem_append.mp h).elim id cut_mem
      unfold cut clip
      simp only [List.length_append, List.length_drop, List.length_take]
      rw [if_neg (by decide)]
      omega
    · exact row _ (by simp; omega) fun z h => by simpa using h
    · exact row _ (by simp) fun z h => by cases h
    · exact .inl trivial
/-- a pair of rows of integers, bent -/
theorem bent_pair {n m : Nat} {p : P} {xs ys : List Int} (hn : n < 2 ^ 57) (hp : PotI n p) (h2 : 2 ≤ m) (hm : m ≤ 299) (hx : ∀ i ∈ xs, i.natAbs < 2 ^ m) (hy : ∀ i ∈ ys, i.natAbs < 2 ^ m) (hx0 : xs ≠ []) (hy0 : ys ≠ []) (hxl : xs.length < m) (hyl : ys.length < m) :
    Y (calls rp sub T (k + 5) f__law_bent [p, .val (.tup [.tup (xs.map .int), .tup (ys.map .int)])]) fun r io => ∃ q, io = some q ∧ ValR (n + 5) VOk r q := by
  have hrow : ∀ zs : List Int, (∀ i ∈ zs, i.natAbs < 2 ^ m) → zs.length < m → G1 300 (.tup (zs.map .int)) ∧ dat (.tup (zs.map .int)) = true ∧ dep (.tup (zs.map .int)) ≤ 1 := fun zs hz hl => by
    have g : G1 300 (.tup (zs.map .int)) := .inr ⟨_, .inl rfl, by simp; omega, fun x h => by
      obtain ⟨i, hi, rfl⟩ := List.mem_map.mp h
      exact Nat.lt_of_lt_of_le (hz i hi) (Nat.pow_le_pow_right (by decide) (by omega))⟩
    exact ⟨g, g.dat⟩
  obtain ⟨gx, dx⟩ := hrow xs hx hxl
  obtain ⟨gy, dy⟩ := hrow ys hy hyl
  have G300 : ∀ d, G1 (m + 1) d → G1 300 d := fun d h => by
    have g0 : ∀ x, G0 (m + 1) x → G0 300 x := fun x hx => by
      cases x with
      | int i => exact Nat.lt_of_lt_of_le hx (Nat.pow_le_pow_right (by decide) (by omega))
      | str x => exact small.mono hx (by omega)
      | non => trivial
      | bl b => trivial
      | _ => exact hx.elim
    rcases h with h | ⟨zs, h, hl, hz⟩
    · exact .inl (g0 d h)
    · exact .inr ⟨zs, h, by omega, fun x hx => g0 x (hz x hx)⟩
  refine Y.defM R.bent rfl rfl rfl ?_
  walk_at "yd"
  refine Y.pr (ne_nil (cmp_tup (n := 1) (by decide) ?_) (by simp)) rfl ?_
  · intro x hx
    simp only [List.mem_cons, List.mem_nil_iff, or_false] at hx
    rcases hx with rfl | rfl
    · exact dx
    · exact dy
  walk_at "yd"
  refine Y.callP rfl hp.lst ?_
  walk_at "yd"
  refine ⟨rfl, ?_⟩
  refine (take_ok R.take (by omega) hp (by decide) (by decide)).mono fun r io ⟨q, e, t⟩ => ⟨q, e, ?_⟩
  clear e
  obtain ⟨⟨v, rfl, v0, v1⟩, tp⟩ := t
  walk_at "yd"
  refine Y.onB (fun h => ?_) (fun h => ?_)
  · walk_at "yd"
    refine Y.callP rfl tp.lst ?_
    walk_at "yd"
    refine ⟨rfl, ?_⟩
    refine (take_ok R.take (by omega) tp (by simp) (by simp)).mono fun r io ⟨q2, e, t⟩ => ⟨q2, e, ?_⟩
    clear e
    obtain ⟨⟨a, rfl, a0, a1⟩, tp2⟩ := t
    have a01 : a = 0 ∨ a = 1 := by
      have : a < 2 := a1
      omega
    rcases a01 with rfl | rfl
    · walk_at "yd"
      refine Y.callP rfl tp2.lst ?_
      walk_at "yd"
      refine ⟨rfl, ?_⟩
      refine (bent_row R (by omega) tp2 h2 (by omega) hx hx0 hxl).mono fun r io ⟨q3, e, t⟩ => ⟨q3, e, ?_⟩
      clear e
      obtain ⟨⟨d, hd, rfl⟩, tp3⟩ := t
      walk_at "yd"
      refine ⟨⟨_, ?_, rfl⟩, tp3⟩
      intro a b e
      cases e
      exact gy
    · walk_at "yd"
      refine Y.callP rfl tp2.lst ?_
      walk_at "yd"
      refine ⟨rfl, ?_⟩
      refine (bent_row R (by omega) tp2 h2 (by omega) hy hy0 hyl).mono fun r io ⟨q3, e, t⟩ => ⟨q3, e, ?_⟩
      clear e
      obtain ⟨⟨d, hd, rfl⟩, tp3⟩ := t
      walk_at "yd"
      refine ⟨⟨_, ?_, rfl⟩, tp3⟩
      intro a b e
      cases e
      exact G300 _ hd
  · walk_at "yd"
    refine Y.callP rfl tp.lst ?_
    walk_at "yd"
    refine Y.lay rfl rfl ?_
    walk_at "yd"
    refine ⟨rfl, ?_⟩
    refine (of_ok R.of R.take (by omega) tp .lst (by simp [frs]) (by simp [frs])).mono fun r io ⟨q2, e, t⟩ => ⟨q2, e, ?_⟩
    clear e
    obtain ⟨⟨d, hd, rfl⟩, tp2⟩ := t
    walk_at "yd"
    refine ⟨⟨d, ?_, rfl⟩, tp2.mono (by omega)⟩
    simp only [frs, P.fr, frs_mapV, List.mem_cons, List.mem_nil_iff, or_false] at hd
    intro a b e
    subst e
    rcases hd with z | z | z | z | z | z | z <;> first | (cases z; done) | (cases z; exact gx)
end
end PV

set_option Elab.async false
set_option linter.all false
set_option maxRecDepth 100000
set_option maxHeartbeats 4000000
/-! SLaw36: shapes, the law's turns, the law k36. -/
namespace PV
local macro_rules | `(tactic| walk_at "yy") => `(tactic| first
  | ((with_reducible refine gE ?_); first
    | ((with_reducible refine' Y.var ?h1 ?_); (case h1 => rfl))
    | ((with_reducible refine' Y.varL ?h1 ?_); (case h1 => rfl))
    | with_reducible first | refine Y.op ?_ | refine Y.con ?_ | refine Y.call ?_ | refine Y.tup ?_ | refine Y.or ?_ | refine Y.and ?_ | refine Y.not ?_ | refine Y.ite ?_ | refine Y.lst ?_ | refine Y.dct0 ?_)
  | ((with_reducible refine gA ?_); first
    | ((with_reducible refine' Y.alook ?h1 ?h2 ?_); (case h1 => rfl); (case h2 => rfl))
    | ((with_reducible refine' Y.acons ?h1 ?_); (case h1 => rfl))
    | with_reducible refine Y.anil ?_)
  | ((with_reducible refine gO ?_); first
    | with_reducible first | refine Y.add ?_ | refine Y.subI ?_ | refine Y.lt ?_ | refine Y.le ?_ | refine Y.gt ?_ | refine Y.ge ?_ | refine Y.intI ?_ | refine Y.eqI ?_ | refine Y.neI ?_ | refine Y.isi ?_ | refine Y.lenT ?_ | refine Y.lenL ?_ | refine Y.neg ?_ | refine Y.abs ?_ | refine Y.intB ?_
    | ((with_reducible refine' Y.at ?h1 ?_); (case h1 => rfl))
    | ((with_reducible refine' Y.mod ?h1 ?_); (case h1 => first | assumption | decide | omega))
    | ((with_reducible refine' Y.pr ?h1 ?h2 ?_); (case h1 => rfl); (case h2 => rfl)))
  | with_reducible first | refine Exists.intro _ (And.intro FrIs.val ?_) | refine Kn.nx ?_ | refine Kn.rt ?_
  | ((with_reducible refine gB ?_); first
    | with_reducible first | refine Y.onT ?_ | refine Y.onF ?_
    | ((with_reducible refine' Y.onTe ?h1 ?_); (case h1 => rfl))
    | ((with_reducible refine' Y.onFe ?h1 ?_); (case h1 => rfl)))
  | ((with_reducible refine gP ?_); (with_reducible first | refine Y.pcons ?_ | refine Y.pnil ?_))
  | ((with_reducible refine gL ?_); (with_reducible first | refine Y.cons ?_ | refine Y.nil ?_))
  | ((with_reducible refine gS ?_); first
    | with_reducible first | refine Y.asg ?_ | refine Y.if ?_ | refine Y.exp ?_ | refine Y.pass ?_
    | ((with_reducible refine' Y.ret ?h1 ?_); (case h1 => rfl))
    | ((with_reducible refine' Y.retV ?h1 ?_); (case h1 => rfl))
    | ((with_reducible refine' Y.par ?h1 ?_); (case h1 => rfl)))
  | with_reducible first | refine Ret.rt ?_ | refine Ret.nx ?_
  | ((with_reducible refine' And.intro ?h1 ?_); (case h1 => exact of_decide_eq_true rfl); (try dsimp only [List.set_cons_zero, List.set_cons_succ]))
  | ((with_reducible refine gX ?_); with_reducible first | refine Exists.intro _ (And.intro rfl ?_) | refine Exists.intro _ (And.intro FrIs.lst ?_) | refine Exists.intro _ (And.intro (.cons .val (.cons .val .nil)) ?_) | refine Exists.intro _ (And.intro (.cons .val .nil) ?_) | refine Exists.intro _ (And.intro FrsIs.nil ?_))
  | ((with_reducible refine' RetM.rt ?h1 ?_); (case h1 => rfl))
  | ((with_reducible refine' RetM.nx ?h1 ?_); (case h1 => rfl))
  | with_reducible refine Y.ok ?_)
local macro_rules | `(tactic| walk_at "yd") => `(tactic| ((try dsimp only [List.map, List.cons_append, List.nil_append, List.append_nil, List.replicate, Nat.sub_self, Nat.reduceSub, vals, wipe, CT.ix, List.set_cons_zero, List.set_cons_succ]); (repeat walk_at "yy")))
section
variable {sub : Sub} {T : Tab} {k : Nat}
/-- so many integers from 1 to 20 -/
def Row (n : Nat) (xs : List Int) : Prop := xs.length = n ∧ ∀ x ∈ xs, 1 ≤ x ∧ x ≤ 20
theorem iota_drop {n i : Nat} (h : i < n) : (iotaFrom 0 n).drop i = .int (i : Int) :: (iotaFrom 0 n).drop (i + 1) := by
  rw [List.drop_eq_getElem_cons (by simpa [iotaFrom] using h)]
  simp [iotaFrom]
theorem iota_len (n : Nat) : (iotaFrom 0 n).length = n := by simp [iotaFrom]
theorem lens_map {m n : Nat} (hn : 1 ≤ n) : (iotaFrom 0 n).map (fun d => match d with | D.int j => P.val (.int ((m : Int).fdiv n + b2i (decide (j < (m : Int).fmod n)))) | _ => .val .non) = (lens m n).map fun (i : Nat) => P.val (.int i) := by
  unfold lens iotaFrom
  rw [List.map_map, List.map_map]
  apply List.map_congr_left
  intro i _
  simp only [Function.comp]
  congr 2
  rw [Int.fdiv_eq_ediv_of_nonneg _ (by omega), Int.fmod_eq_emod_of_nonneg _ (by omega)]
  have e2 : ((m : Int) % (n : Int)) = ((m % n : Nat) : Int) := rfl
  have e3 : ((m : Int) / (n : Int)) = ((m / n : Nat) : Int) := rfl
  rw [e2, e3]
  by_cases h : i < m % n
  · have h' : (0 : Int) + (i : Int) < ((m % n : Nat) : Int) := by omega
    rw [if_pos h, decide_eq_true h']
    simp [b2i]
  · have h' : ¬ (0 : Int) + (i : Int) < ((m % n : Nat) : Int) := by omega
    rw [if_neg h, decide_eq_false h']
    simp [b2i]
theorem lens_row {m n : Nat} (hn : 1 ≤ n) (hm : n ≤ m) (hm2 : m ≤ 20) : Row n ((lens m n).map fun (i : Nat) => (i : Int)) := by
  refine ⟨by simp [lens], fun x hx => ?_⟩
  obtain ⟨y, hy, rfl⟩ := List.mem_map.mp hx
  unfold lens at hy
  obtain ⟨j, hj, rfl⟩ := List.mem_map.mp hy
  have h1 : 1 ≤ m / n := Nat.div_pos hm hn
  have h2 := top_eq (m := m) hn
  have h3 : top m n ≤ 20 := Nat.le_trans (top_le hn) hm2
  have h4 : m / n + (if j < m % n then 1 else 0) ≤ m / n + (if 0 < m % n then 1 else 0) := by
    split
    · rw [if_pos (by omega)]; omega
    · omega
  omega
theorem flat1 : ∀ j : Nat, (List.replicate j [D.int 1]).flatten = List.replicate j (.int 1)
  | 0 => rfl
  | j + 1 => by
    rw [List.replicate_succ, List.flatten_cons, flat1 j, List.replicate_succ]
    rfl
theorem mul1 {j : Nat} (hj : j ≤ 100) : prim showD sub .mul [.lst [.int 1], .int ((j : Int))] = some (.lst (List.replicate j (.int 1))) := by
  have h1 : okTimes 1 (j : Int) = true := by
    unfold okTimes okLen
    simp only [Bool.and_eq_true, decide_eq_true_eq]
    have : (2 : Int) ^ 63 = 9223372036854775808 := by decide
    refine ⟨by show _ ≤ 16777216; simp; omega, by omega, by omega⟩
  have h2 := flat1 j
  simp only [prim, opMul, when_, List.length_cons, List.length_nil, h1, if_true, Int.toNat_natCast, h2]
variable (R : TR T)
include R
theorem shapes_ok {m n : Nat} (hn : 1 ≤ n) (hm : n ≤ m) (hm2 : m ≤ 20) : Y (calls showD sub T (k + 1) f__law_shapes [.val (.int m), .val (.int n)]) fun p _ => ∃ a b c, Row n a ∧ Row n b ∧ Row n c ∧ p = .lst [.val (.tup (a.map .int)), .val (.tup (b.map .int)), .val (.tup (c.map .int))] := by
  refine Y.def R.shapes rfl rfl rfl ?_
  have hdv : okDiv (n : Int) = true := okDiv_of (by omega) (b := 10) (by simp; omega) (by decide)
  have hn0 : (n : Int) ≠ 0 := by omega
  walk_at "yd"
  refine Y.fdiv hdv ?_
  have etop : ((m : Int) + n - 1).fdiv n = (top m n : Int) := by
    rw [Int.fdiv_eq_ediv_of_nonneg _ (by omega)]
    have : (m : Int) + n - 1 = ((m + n - 1 : Nat) : Int) := by omega
    rw [this]
    rfl
  rw [etop]
  have ht20 : top m n ≤ 20 := Nat.le_trans (top_le hn) hm2
  have ht1 := top_pos hn hm
  walk_at "yd"
  refine Y.for (Y.range ?_)
  walk_at "yd"
  refine ⟨0, (n : Int), rfl, rfl, by simp [okRange]; omega, ?_⟩
  have e0 : (((n : Int) - 0).toNat) = n := by omega
  rw [e0]
  refine Y.loopF (fun ds ρ => ∃ (i : Nat) (xs : List Int) (l : Int) (o5 o6 : Option P), i ≤ n ∧ ds = (iotaFrom 0 n).drop i ∧ Row i xs ∧ ρ = [some (.val (.int m)), some (.val (.int n)), some (.val (.int (top m n))), some (.lst (xs.map fun x => .val (.int x))), some (.val (.int l)), o5, o6, none]) _ _ ⟨0, [], m, none, none, by omega, by simp, ⟨rfl, fun x hx => by cases hx⟩, rfl⟩ ?_ ?_
  · rintro d ds ρ ⟨i, xs, l, o5, o6, hi, hd, hxs, rfl⟩
    have hlt : i < n := by
      rcases Nat.lt_or_ge i n with z | z
      · exact z
      · rw [List.drop_eq_nil_of_le (by rw [iota_len]; exact z)] at hd
        cases hd
    rw [iota_drop hlt] at hd
    simp only [List.cons.injEq] at hd
    obtain ⟨rfl, rfl⟩ := hd
    refine Y.turnF rfl ?_
    walk_at "yd"
    refine Y.app rfl (Y.var rfl ?_)
    refine ⟨_, rfl, by simp [hxs.1, line]; omega, ?_⟩
    walk_at "yd"
    generalize hsz : (if (if l - ((n : Int) - i - 1) < (top m n : Int) then l - ((n : Int) - i - 1) else (top m n : Int)) > 1 then (if l - ((n : Int) - i - 1) < (top m n : Int) then l - ((n : Int) - i - 1) else (top m n : Int)) else 1) = sz
    refine ⟨i + 1, xs ++ [sz], l - sz, some (.val (.int i)), some (.val (.int sz)), by omega, rfl, ⟨by simp [hxs.1], fun x hx => ?_⟩, by simp⟩
    rcases List.mem_append.mp hx with z | z
    · exact hxs.2 x z
    · have : x = sz := by simpa using z
      have hy : (if l - ((n : Int) - i - 1) < (top m n : Int) then l - ((n : Int) - i - 1) else (top m n : Int)) ≤ 20 := by split <;> omega
      rw [this, ← hsz]
      generalize (if l - ((n : Int) - i - 1) < (top m n : Int) then l - ((n : Int) - i - 1) else (top m n : Int)) = y at hsz hy ⊢
      split <;> omega
  · rintro ρ ⟨i, xs, l, o5, o6, hi, hd, hxs, rfl⟩
    have : i = n := by
      have := congrArg List.length hd
      simp [iota_len] at this
      omega
    subst this
    walk_at "yd"
    refine Y.lc (Y.range ?_)
    walk_at "yd"
    refine ⟨0, (i : Int), rfl, rfl, by simp [okRange]; omega, ?_⟩
    refine ⟨by simp [okLen, iotaFrom, line]; omega, ?_⟩
    refine Y.loopCG (fun d => match d with | .int j => .val (.int ((m : Int).fdiv i + b2i (decide (j < (m : Int).fmod i)))) | _ => .val .non) _ _ (fun d hd => Y.eq ?_) ?_
    · obtain ⟨j, rfl⟩ : ∃ j : Nat, d = .int (0 + (j : Int)) := by
        simp only [iotaFrom, List.mem_map] at hd
        obtain ⟨j, _, e⟩ := hd
        exact ⟨j, e.symm⟩
      refine Y.turnC1 rfl ?_
      walk_at "yd"
      refine Y.fdiv hdv ?_
      walk_at "yd"
      exact ⟨rfl, rfl⟩
    walk_at "yd"
    simp only [List.reverse_nil, List.nil_append, e0, lens_map hn]
    have e5 : (i : Int) - 1 = ((i - 1 : Nat) : Int) := by omega
    rw [e5]
    refine Y.keep rfl (mul1 (by omega)) ?_
    walk_at "yd"
    have e6 : prim showD sub .add [.lst [.int ((m : Int) - i + 1)], .lst (List.replicate (i - 1) (.int 1))] = some (.lst (.int ((m : Int) - i + 1) :: List.replicate (i - 1) (.int 1))) := by
      have : okLen (1 + (i - 1)) = true := decide_eq_true (by show _ ≤ 16777216; omega)
      simp only [prim, opAdd, when_, List.length_cons, List.length_nil, List.length_replicate, Nat.zero_add, this, if_true]
      rfl
    refine Y.keep rfl e6 ?_
    walk_at "yd"
    refine ⟨xs, (lens m i).map fun (i : Nat) => (i : Int), ((m : Int) - i + 1) :: List.replicate (i - 1) 1, hxs, lens_row hn hm hm2, ⟨by simp; omega, fun x hx => ?_⟩, ?_⟩
    · rcases List.mem_cons.mp hx with z | z
      · omega
      · have := (List.mem_replicate.mp z).2
        omega
    · rw [frs_map (fun x : Int => D.int x) xs, frs_map (fun (x : Nat) => D.int x) (lens m i)]
      simp [List.map_map, Function.comp]
omit R in
theorem frs_app : ∀ a b : List P, frs (a ++ b) = frs a ++ frs b
  | [], _ => rfl
  | x :: a, b => by
    show x.fr :: frs (a ++ b) = x.fr :: (frs a ++ frs b)
    rw [frs_app a b]
omit R in
theorem frs_lenW : ∀ a : List P, (frs a).length = a.length
  | [] => rfl
  | x :: a => by
    show (frs a).length + 1 = _
    rw [frs_lenW a]
    rfl
/-- all of them as they have to be -/
def AllV (ds : List D) : Prop := ∀ d ∈ ds, VOk d
omit R in
theorem AllV.app {a b : List D} (ha : AllV a) (hb : AllV b) : AllV (a ++ b) := fun d hd => (List.mem_append.mp hd).elim (ha d) (hb d)
omit R in
theorem AllV.cons {a : D} {b : List D} (ha : VOk a) (hb : AllV b) : AllV (a :: b) := fun d hd => by
  rcases List.mem_cons.mp hd with z | z
  · rw [z]; exact ha
  · exact hb d z
omit R in
theorem AllV.nil : AllV [] := fun d hd => by cases hd
omit R in
theorem VOk.pair {a b : D} (h : G1 300 b) : VOk (.tup [a, b]) := fun x y e => by cases e; exact h
omit R in
theorem row_G1 {n : Nat} {xs : List Int} (hn : n ≤ 20) (h : Row n xs) : G1 300 (.tup (xs.map .int)) := .inr ⟨_, .inl rfl, by simp [h.1]; omega, fun x hx => by
  obtain ⟨i, hi, rfl⟩ := List.mem_map.mp hx
  have := h.2 i hi
  show i.natAbs < 2 ^ 300
  have : i.natAbs < 2 ^ 10 := by omega
  exact Nat.lt_of_lt_of_le this (Nat.pow_le_pow_right (by decide) (by decide))⟩
omit R in
theorem rowH {n : Nat} {xs : List Int} (hn : 1 ≤ n) (h : Row n xs) : ∃ a : Nat, xs.head? = some (a : Int) ∧ 1 ≤ a ∧ a ≤ 20 := by
  cases xs with
  | nil => have := h.1; simp at this; omega
  | cons x r =>
    have := h.2 x (List.mem_cons_self ..)
    exact ⟨x.toNat, by show some x = _; congr 1; omega, by omega, by omega⟩
omit R in
theorem rowL {n : Nat} {xs : List Int} (hn : 1 ≤ n) (h : Row n xs) : ∃ x : Int, opAt (.tup (xs.map .int)) (.int (-1)) = some (.int x) := by
  have hl : 0 < xs.length := by have := h.1; omega
  have e : atI (xs.map D.int) (-1) = some (.int (xs[xs.length - 1]'(by omega))) := by
    unfold atI
    rw [if_neg (by decide), if_pos (by simp; omega)]
    have e1 : (((xs.map D.int).length : Int) + -1).toNat = xs.length - 1 := by simp; omega
    rw [e1, List.getElem?_map, List.getElem?_eq_getElem (by omega)]
    rfl
  exact ⟨_, e⟩
/-- the slots of the law's turns -/
def sl (p : P) (o1 : Option P) (m n : Nat) (f : P) (o6 o7 o8 o9 : Option P) : Rho := [some p, o1, some (.val (.int m)), some (.val (.int n)), some (.val (toldD m n)), some f, o6, o7, o8, o9]
theorem shape_turn {m n : Nat} (hn : 1 ≤ n) (hm : n ≤ m) (hm2 : m ≤ 20) (hk : 10 ≤ k) {p : P} {o1 o6 o7 o8 o9 : Option P} {ps : List P} (hv : AllV (frs ps)) (hl : ps.length ≤ 100) {xs : List Int} (hx : Row n xs) {b : CSs}
    (hb : b = (match c__law_right.body with | .cons (.for_ _ _ (.cons _ (.cons _ (.cons _ (.cons _ (.cons (.for_ _ _ b) _)))))) _ => b | _ => .nil)) :
    Y (turnF (En showD sub T k) (.name 6) b (.tup (xs.map .int)) (sl p o1 m n (.lst ps) o6 o7 o8 o9)) fun f ρ => f = .nx ∧ ∃ ps' o6', AllV (frs ps') ∧ ps'.length = ps.length + 7 ∧ ρ = sl p o1 m n (.lst ps') o6' o7 o8 o9 := by
  obtain ⟨k, rfl⟩ : ∃ j, k = j + 4 := ⟨k - 4, by omega⟩
  have hH : G1 300 (rD (Hm (top m n))) := rD_G1 (by decide) ((Hm_small (Nat.le_trans (top_le hn) hm2)).mono (by decide))
  obtain ⟨a, ha, a1, a2⟩ := rowH hn hx
  obtain ⟨lst, hlst⟩ := rowL hn hx
  have hH2 : G1 300 (rD (Hm a)) := rD_G1 (by decide) ((Hm_small a2).mono (by decide))
  simp only [c__law_right] at hb
  subst hb
  unfold sl
  refine Y.turnF rfl ?_
  unfold toldD
  generalize hA : D.tup ((lens m n).map fun (i : Nat) => .int i) = A
  generalize hB : rD (Hm (top m n)) = B at hH
  walk_at "yd"
  refine Y.ext rfl ?_
  walk_at "yd"
  refine Y.at (at0 ha) ?_
  walk_at "yd"
  refine (law_harmonic_ok R.harmonic R.sum R.lplus R.lratio (n := a) (by omega)).mono fun r _ e => ?_
  subst e
  walk_at "yd"
  refine ⟨_, _, FrIs.lst, rfl, by simp [frs, line]; omega, ?_⟩
  walk_at "yd"
  refine Y.app rfl ?_
  walk_at "yd"
  refine Y.lay rfl rfl ?_
  walk_at "yd"
  refine ⟨_, .cons .lst (.cons .val .nil), ?_⟩
  refine ⟨_, rfl, by simp [frs, line]; omega, ?_⟩
  walk_at "yd"
  refine Y.ext rfl ?_
  have hxl : (xs.map D.int).length ≤ 20 := by simp [hx.1]; omega
  have hxl2 : xs.length ≤ 20 := by rw [hx.1]; omega
  walk_at "yd"
  refine Y.pr (addT (by simp; omega)) rfl ?_
  walk_at "yd"
  refine Y.at hlst ?_
  have k1 := cut_len (xs.map D.int) none (some (-1))
  walk_at "yd"
  refine Y.pr (addT (by simp only [List.length_cons, List.length_nil]; omega)) rfl ?_
  walk_at "yd"
  refine ⟨_, _, FrIs.lst, rfl, by simp [frs, line]; omega, ?_⟩
  walk_at "yd"
  refine ⟨rfl, _, _, ?_, ?_, rfl⟩
  · simp only [frs_app, frs_mapV]
    refine (AllV.app (AllV.app (AllV.app hv ?_) ?_) ?_)
    · simp only [frs, P.fr]
      exact .cons (.pair hH) (.cons (.pair hH) (.cons (.pair hH2) .nil))
    · simp only [frs, P.fr]
      exact .cons (.pair hH) .nil
    · simp only [frs, P.fr]
      exact .cons (.pair hH) (.cons (.pair hH) (.cons (.pair hH) .nil))
  · simp [frs]
/-- the last loop: all looks agree -/
theorem look_turn {m n : Nat} (hn : 1 ≤ n) (hm : n ≤ m) (hm2 : m ≤ 20) (hk : 45 ≤ k) {p f : P} {o1 o6 o7 o8 o9 : Option P} {d : D} (hd : VOk d) {b : CSs}
    (hb : b = (match c__law_right.body with | .cons (.for_ _ _ (.cons _ (.cons _ (.cons _ (.cons _ (.cons _ (.cons _ (.cons _ (.cons (.for_ _ _ b) _))))))))) _ => b | _ => .nil)) :
    Y (turnF (En showD sub T k) (.name 7) b d (sl p o1 m n f o6 o7 o8 o9)) fun g ρ => g = .nx ∧ ρ = sl p o1 m n f o6 (some (.val d)) o8 o9 := by
  simp only [c__law_right] at hb
  subst hb
  unfold sl
  refine Y.turnF rfl ?_
  walk_at "yd"
  refine (shows_fair_ok R hn hm hm2 (by omega) fun a b e => (hd a b e).tame (by decide)).mono fun r _ e => ?_
  subst e
  have gb : ∀ x : Bool, G1 300 (.bl x) := fun x => .inl trivial
  walk_at "yd"
  refine Y.repr ((gb _).show (by decide) (by decide)) ?_
  walk_at "yd"
  refine (is_fair_ok R hn hm hm2 (by omega) hd).mono fun r _ e => ?_
  subst e
  walk_at "yd"
  refine Y.repr ((gb _).show (by decide) (by decide)) ?_
  walk_at "yd"
  refine Y.neS ((gb _).txt (by decide)).okStr ((gb _).txt (by decide)).okStr ?_
  rw [looks_agree hn hd]
  refine Y.onFe (by simp) ?_
  walk_at "yd"
  exact ⟨rfl, rfl⟩
omit R in
theorem told_eq (m n : Nat) : toldD m n = .tup [.tup (((lens m n).map fun (i : Nat) => (i : Int)).map .int), .tup ([(Hm (top m n)).num, ((Hm (top m n)).den : Int)].map .int)] := by
  unfold toldD rD
  simp [List.map_map, Function.comp]
theorem right_ok {p : P} (hk : 50 ≤ k) (hp : PotI 0 p) : Y (calls showD sub T k f__law_right [p]) fun r io => ∃ q, io = some q ∧ r = .val (.bl true) := by
  obtain ⟨k, rfl⟩ : ∃ j, k = j + 8 + 1 := ⟨k - 9, by omega⟩
  refine Y.defM R.right rfl rfl rfl ?_
  walk_at "yd"
  refine Y.for (Y.range ?_)
  walk_at "yd"
  refine ⟨0, 6, rfl, rfl, rfl, ?_⟩
  refine Y.loopF (fun ds ρ => ∃ (i : Nat) (q : P) (o1 o2 o3 o4 o5 o6 o7 o8 o9 : Option P), i ≤ 6 ∧ ds = (iotaFrom 0 6).drop i ∧ PotI (1000 * i) q ∧ ρ = [some q, o1, o2, o3, o4, o5, o6, o7, o8, o9]) _ _ ⟨0, p, none, none, none, none, none, none, none, none, none, by decide, rfl, hp, rfl⟩ ?_ ?_
  · rintro d ds ρ ⟨i, q, o1, o2, o3, o4, o5, o6, o7, o8, o9, hi, hd, hq, rfl⟩
    have hlt : i < 6 := by
      rcases Nat.lt_or_ge i 6 with z | z
      · exact z
      · rw [List.drop_eq_nil_of_le (by rw [iota_len]; exact z)] at hd
        cases hd
    rw [iota_drop hlt] at hd
    simp only [List.cons.injEq] at hd
    obtain ⟨rfl, rfl⟩ := hd
    refine Y.turnF rfl ?_
    walk_at "yd"
    refine Y.callP rfl hq.lst ?_
    walk_at "yd"
    refine ⟨rfl, ?_⟩
    refine (take_ok R.take (by omega) hq (by decide) (by decide)).mono fun r io ⟨q1, e, t⟩ => ⟨q1, e, ?_⟩
    clear e
    obtain ⟨⟨v, rfl, v0, v1⟩, tp1⟩ := t
    obtain ⟨m, hm⟩ : ∃ m : Nat, 1 + v = (m : Int) := ⟨(1 + v).toNat, by omega⟩
    walk_at "yd"
    rw [hm]
    refine Y.callP rfl tp1.lst ?_
    walk_at "yd"
    refine ⟨rfl, ?_⟩
    refine (take_ok R.take (by omega) tp1 (by omega) (by omega)).mono fun r io ⟨q2, e, t⟩ => ⟨q2, e, ?_⟩
    clear e
    obtain ⟨⟨w, rfl, w0, w1⟩, tp2⟩ := t
    obtain ⟨n, hn⟩ : ∃ n : Nat, 1 + w = (n : Int) := ⟨(1 + w).toNat, by omega⟩
    have hn1 : 1 ≤ n := by omega
    have hnm : n ≤ m := by omega
    have hm20 : m ≤ 20 := by omega
    walk_at "yd"
    rw [hn]
    refine (fair_ok R hn1 hnm hm20 (by omega)).mono fun r _ e => ?_
    subst e
    have hH : G1 300 (rD (Hm (top m n))) := rD_G1 (by decide) ((Hm_small (Nat.le_trans (top_le hn1) hm20)).mono (by decide))
    have hrow := lens_row hn1 hnm hm20
    have hA : G1 300 (.tup ((lens m n).map fun (i : Nat) => .int i)) := by
      have := row_G1 (by omega) hrow
      rw [List.map_map] at this
      exact this
    walk_at "yd"
    refine Y.lay rfl rfl ?_
    walk_at "yd"
    refine Y.callP rfl tp2.lst ?_
    walk_at "yd"
    refine ⟨rfl, ?_⟩
    refine (odd_ok R (by omega) tp2).mono fun r io ⟨q3, e, t⟩ => ⟨q3, e, ?_⟩
    clear e
    obtain ⟨⟨od, hod, rfl⟩, tp3⟩ := t
    walk_at "yd"
    refine Y.for (Y.seq ?_)
    walk_at "yd"
    refine (shapes_ok R hn1 hnm hm20).mono fun r _ ⟨a, b, c, ha, hb, hc, e⟩ => ?_
    subst e
    refine ⟨_, _, FrIs.lst, rfl, ?_⟩
    refine Y.loopF (fun ds ρ => (∀ d ∈ ds, ∃ xs, Row n xs ∧ d = .tup (xs.map .int)) ∧ ∃ ps o6', AllV (frs ps) ∧ ps.length + 7 * ds.length ≤ 60 ∧ ρ = sl q3 (some (.val (.int i))) m n (.lst ps) o6' o7 o8 o9) _ _ ⟨?_, _, o6, ?_, ?_, rfl⟩ ?_ ?_
    · intro d hd
      simp only [frs, P.fr, List.mem_cons, List.mem_nil_iff, or_false] at hd
      rcases hd with rfl | rfl | rfl
      · exact ⟨a, ha, rfl⟩
      · exact ⟨b, hb, rfl⟩
      · exact ⟨c, hc, rfl⟩
    · simp only [frs, P.fr]
      refine .cons (.pair hH) (.cons (fun _ _ z => by cases z) (.cons (fun _ _ z => by cases z) (.cons (fun _ _ z => by cases z) (.cons (.pair hA) (.cons (fun _ _ z => by cases z) (.cons (fun _ _ z => by cases z) (.cons hod .nil)))))))
    · simp [frs]
    · rintro d ds ρ ⟨h1, ps, o6', hv, hl, rfl⟩
      obtain ⟨xs, hx, rfl⟩ := h1 d (List.mem_cons_self ..)
      simp only [List.length_cons] at hl
      refine (shape_turn R hn1 hnm hm20 (by omega) hv (by omega) hx rfl).mono fun f ρ1 ⟨e, ps', o6'', hv', hl', e2⟩ => ?_
      subst e e2
      exact ⟨fun d hd => h1 d (List.mem_cons_of_mem _ hd), ps', o6'', hv', by omega, rfl⟩
    · rintro ρ ⟨_, ps, o6', hv, hl, rfl⟩
      simp only [List.length_nil, Nat.mul_zero, Nat.add_zero] at hl
      have hsm := Hm_small (Nat.le_trans (top_le (m := m) hn1) hm20)
      have hsd : ((Hm (top m n)).den : Int).natAbs < 2 ^ 200 := by simpa using hsm.2
      unfold sl
      walk_at "yd"
      refine Y.app rfl ?_
      unfold toldD
      walk_at "yd"
      refine Y.mul (okMul_of hsm.1 (j := 2) (b := 2) (by decide) (by decide)) ?_
      walk_at "yd"
      refine Y.mul (okMul_of hsd (j := 2) (b := 2) (by decide) (by decide)) ?_
      walk_at "yd"
      refine ⟨by show _ < 16777216; omega, ?_⟩
      walk_at "yd"
      refine Y.app rfl ?_
      walk_at "yd"
      refine Y.lc (Y.seq ?_)
      walk_at "yd"
      refine ⟨_, _, FrIs.val, rfl, ?_⟩
      refine ⟨by simp [okLen, line, lens]; omega, ?_⟩
      refine Y.loopCG (fun d => match d with | .int j => .val (.bl (decide (j = 1))) | _ => .val .non) _ _ (fun d hd => Y.eq ?_) ?_
      · obtain ⟨j, _, rfl⟩ := List.mem_map.mp hd
        refine Y.turnC1 rfl ?_
        walk_at "yd"
        exact ⟨rfl, rfl⟩
      walk_at "yd"
      refine ⟨by simp [line]; omega, ?_⟩
      walk_at "yd"
      have hG2 : G1 300 (.tup [.int ((Hm (top m n)).num * 2), .int (((Hm (top m n)).den : Int) * 2)]) := by
        refine .inr ⟨_, .inl rfl, by simp, fun x hx => ?_⟩
        simp only [List.mem_cons, List.mem_nil_iff, or_false] at hx
        have key : ∀ z : Int, z.natAbs < 2 ^ 200 → (z * 2).natAbs < 2 ^ 300 := fun z hz => by
          have h1 := mul_lt hz (b := (2 : Int).natAbs) (n := 2) (by decide)
          rw [← Int.natAbs_mul] at h1
          exact Nat.lt_of_lt_of_le h1 (Nat.pow_le_pow_right (by decide) (by decide))
        rcases hx with rfl | rfl
        · exact key _ hsm.1
        · exact key _ hsd
      refine Y.for (Y.seq ?_)
      walk_at "yd"
      have hfv : AllV (frs (ps ++ [P.val (D.tup [D.tup ((lens m n).map fun (i : Nat) => D.int i), D.tup [D.int ((Hm (top m n)).num * 2), D.int (((Hm (top m n)).den : Int) * 2)]])] ++ [P.val (D.tup [D.tup (frs ([].reverse ++ List.map (fun d => match d with | D.int j => P.val (D.bl (decide (j = 1))) | x => P.val D.non) ((lens m n).map fun (i : Nat) => D.int i))), rD (Hm (top m n))])])) := by
        rw [frs_app, frs_app]
        refine (hv.app ?_).app ?_
        · exact .cons (.pair hG2) .nil
        · exact .cons (.pair hH) .nil
      have hfl : (frs (ps ++ [P.val (D.tup [D.tup ((lens m n).map fun (i : Nat) => D.int i), D.tup [D.int ((Hm (top m n)).num * 2), D.int (((Hm (top m n)).den : Int) * 2)]])] ++ [P.val (D.tup [D.tup (frs ([].reverse ++ List.map (fun d => match d with | D.int j => P.val (D.bl (decide (j = 1))) | x => P.val D.non) ((lens m n).map fun (i : Nat) => D.int i))), rD (Hm (top m n))])])).length ≤ 62 := by
        rw [frs_lenW]
        simp
        omega
      generalize frs (ps ++ [P.val (D.tup [D.tup ((lens m n).map fun (i : Nat) => D.int i), D.tup [D.int ((Hm (top m n)).num * 2), D.int (((Hm (top m n)).den : Int) * 2)]])] ++ [P.val (D.tup [D.tup (frs ([].reverse ++ List.map (fun d => match d with | D.int j => P.val (D.bl (decide (j = 1))) | x => P.val D.non) ((lens m n).map fun (i : Nat) => D.int i))), rD (Hm (top m n))])]) = fs at hfv hfl ⊢
      refine Y.lc (Y.range ?_)
      walk_at "yd"
      refine ⟨0, 10, rfl, rfl, rfl, rfl, ?_⟩
      walk_at "yd"
      refine Y.loopCI (fun ds acc ρ => ∃ (j : Nat) (q' : P), j + ds.length = 10 ∧ acc.length = j ∧ (∀ x ∈ acc, ∃ d, VOk d ∧ x = .val d) ∧ PotI (1000 * i + 3 + 5 * j) q' ∧ ρ = sl q' (some (.val (.int i))) m n (.val (.lst fs)) o6' o7 none none) _ _ _ ⟨0, q3, rfl, rfl, fun x hx => (by cases hx), tp3.mono (by omega), rfl⟩ ?_ ?_
      · rintro d ds acc ρ ⟨j, q', hj, hacc, hav, hq', rfl⟩
        simp only [List.length_cons] at hj
        unfold sl
        refine Y.turnC1 rfl ?_
        refine Y.callP rfl hq'.lst ?_
        walk_at "yd"
        refine ⟨rfl, ?_⟩
        rw [told_eq]
        refine (bent_pair R (m := 200) (by omega) hq' (by decide) (by decide) ?_ ?_ ?_ ?_ ?_ ?_).mono fun r io ⟨q4, e, t⟩ => ⟨q4, e, ?_⟩
        · intro x hx
          have := hrow.2 x hx
          have h10 : x.natAbs < 2 ^ 10 := by omega
          exact Nat.lt_of_lt_of_le h10 (Nat.pow_le_pow_right (by decide) (by decide))
        · intro x hx
          simp only [List.mem_cons, List.mem_nil_iff, or_false] at hx
          rcases hx with rfl | rfl
          · exact hsm.1
          · exact hsd
        · intro z
          have := hrow.1
          rw [z] at this
          simp at this
          omega
        · simp
        · rw [hrow.1]; omega
        · simp
        · clear e
          obtain ⟨⟨d', hd', rfl⟩, tp4⟩ := t
          rw [← told_eq]
          refine ⟨j + 1, q4, by omega, by simp [hacc], fun x hx => ?_, tp4.mono (by omega), rfl⟩
          rcases List.mem_cons.mp hx with z | z
          · exact ⟨d', hd', z⟩
          · exact hav x z
      · rintro acc ρ ⟨j, q', hj, hacc, hav, hq', rfl⟩
        simp only [List.length_nil, Nat.add_zero] at hj
        have hgv : AllV (frs acc.reverse) := by
          have : ∀ l : List P, (∀ x ∈ l, ∃ d, VOk d ∧ x = .val d) → AllV (frs l) := by
            intro l
            induction l with
            | nil => intro _; exact .nil
            | cons x l ih =>
              intro h
              obtain ⟨d, hd, rfl⟩ := h x (List.mem_cons_self ..)
              exact .cons hd (ih fun y hy => h y (List.mem_cons_of_mem _ hy))
          exact this _ fun x hx => hav x (by simpa using hx)
        have hgl : (frs acc.reverse).length = 10 := by rw [frs_lenW]; simp; omega
        walk_at "yd"
        generalize frs acc.reverse = gs at hgv hgl ⊢
        have eadd : prim showD sub .add [.lst fs, .lst gs] = some (.lst (fs ++ gs)) := by
          have : okLen (fs.length + gs.length) = true := decide_eq_true (by show _ ≤ 16777216; omega)
          simp only [prim, opAdd, when_, this, if_true]
        refine Y.keep rfl eadd ?_
        refine ⟨_, _, FrIs.val, rfl, ?_⟩
        refine Y.loopF (fun ds ρ => AllV ds ∧ ∃ o7', ρ = sl q' (some (.val (.int i))) m n (.val (.lst fs)) o6' o7' none none) _ _ ⟨hfv.app hgv, o7, rfl⟩ ?_ ?_
        · rintro d ds ρ ⟨h1, o7', rfl⟩
          refine (look_turn R hn1 hnm hm20 (by omega) (h1 d (List.mem_cons_self ..)) rfl).mono fun f ρ1 ⟨e, e2⟩ => ?_
          subst e e2
          exact ⟨fun x hx => h1 x (List.mem_cons_of_mem _ hx), _, rfl⟩
        · rintro ρ ⟨_, o7', rfl⟩
          walk_at "yd"
          exact ⟨i + 1, q', _, _, _, _, _, _, _, _, _, by omega, rfl, hq'.mono (by omega), rfl⟩
  · rintro ρ ⟨i, q, o1, o2, o3, o4, o5, o6, o7, o8, o9, hi, hd, hq, rfl⟩
    walk_at "yd"
    rfl
end
end PV

set_option Elab.async false
set_option linter.all false
set_option maxRecDepth 100000
set_option maxHeartbeats 4000000
/-! SLaw36b: the law k36 as a plain statement. -/
namespace PV
local macro_rules | `(tactic| walk_at "yy") => `(tactic| first
  | ((with_reducible refine gE ?_); first
    | ((with_reducible refine' Y.var ?h1 ?_); (case h1 => rfl))
    | ((with_reducible refine' Y.varL ?h1 ?_); (case h1 => rfl))
    | with_reducible first | refine Y.op ?_ | refine Y.con ?_ | refine Y.call ?_ | refine Y.tup ?_ | refine Y.or ?_ | refine Y.and ?_ | refine Y.not ?_ | refine Y.ite ?_ | refine Y.lst ?_ | refine Y.dct0 ?_)
  | ((with_reducible refine gA ?_); first
    | ((with_reducible refine' Y.alook ?h1 ?h2 ?_); (case h1 => rfl); (case h2 => rfl))
    | ((with_reducible refine' Y.acons ?h1 ?_); (case h1 => rfl))
    | with_reducible refine Y.anil ?_)
  | ((with_reducible refine gO ?_); first
    | with_reducible first | refine Y.add ?_ | refine Y.subI ?_ | refine Y.lt ?_ | refine Y.le ?_ | refine Y.gt ?_ | refine Y.ge ?_ | refine Y.intI ?_ | refine Y.eqI ?_ | refine Y.neI ?_ | refine Y.isi ?_ | refine Y.lenT ?_ | refine Y.lenL ?_ | refine Y.neg ?_ | refine Y.abs ?_ | refine Y.intB ?_
    | ((with_reducible refine' Y.at ?h1 ?_); (case h1 => rfl))
    | ((with_reducible refine' Y.mod ?h1 ?_); (case h1 => first | assumption | decide | omega))
    | ((with_reducible refine' Y.pr ?h1 ?h2 ?_); (case h1 => rfl); (case h2 => rfl)))
  | with_reducible first | refine Exists.intro _ (And.intro FrIs.val ?_) | refine Kn.nx ?_ | refine Kn.rt ?_
  | ((with_reducible refine gB ?_); first
    | with_reducible first | refine Y.onT ?_ | refine Y.onF ?_
    | ((with_reducible refine' Y.onTe ?h1 ?_); (case h1 => rfl))
    | ((with_reducible refine' Y.onFe ?h1 ?_); (case h1 => rfl)))
  | ((with_reducible refine gP ?_); (with_reducible first | refine Y.pcons ?_ | refine Y.pnil ?_))
  | ((with_reducible refine gL ?_); (with_reducible first | refine Y.cons ?_ | refine Y.nil ?_))
  | ((with_reducible refine gS ?_); first
    | with_reducible first | refine Y.asg ?_ | refine Y.if ?_ | refine Y.exp ?_ | refine Y.pass ?_
    | ((with_reducible refine' Y.ret ?h1 ?_); (case h1 => rfl))
    | ((with_reducible refine' Y.retV ?h1 ?_); (case h1 => rfl))
    | ((with_reducible refine' Y.par ?h1 ?_); (case h1 => rfl)))
  | with_reducible first | refine Ret.rt ?_ | refine Ret.nx ?_
  | ((with_reducible refine' And.intro ?h1 ?_); (case h1 => exact of_decide_eq_true rfl); (try dsimp only [List.set_cons_zero, List.set_cons_succ]))
  | ((with_reducible refine gX ?_); with_reducible first | refine Exists.intro _ (And.intro rfl ?_) | refine Exists.intro _ (And.intro FrIs.lst ?_) | refine Exists.intro _ (And.intro (.cons .val (.cons .val .nil)) ?_) | refine Exists.intro _ (And.intro (.cons .val .nil) ?_) | refine Exists.intro _ (And.intro FrsIs.nil ?_))
  | ((with_reducible refine' RetM.rt ?h1 ?_); (case h1 => rfl))
  | ((with_reducible refine' RetM.nx ?h1 ?_); (case h1 => rfl))
  | with_reducible refine Y.ok ?_)
local macro_rules | `(tactic| walk_at "yd") => `(tactic| ((try dsimp only [List.map, List.cons_append, List.nil_append, List.append_nil, List.replicate, Nat.sub_self, Nat.reduceSub, vals, wipe, CT.ix, List.set_cons_zero, List.set_cons_succ]); (repeat walk_at "yy")))
section
variable {sub : Sub} {T : Tab} {k : Nat}
variable (R : TR T)
include R
theorem cells_ok {ns : List Int} (hl : ns.length ≤ 63) : Y (calls showD sub T (k + 1) f__law_cells [.val (.scr ns), .val (.int 4)]) fun p _ => ∃ n : Nat, n ≤ 4 ∧ p = .lst (vals (iota n)) := by
  refine Y.def R.cells rfl rfl rfl ?_
  walk_at "yd"
  generalize hz : (if (if (ns.length : Int) < 4 then (ns.length : Int) else 4) > 1 then (if (ns.length : Int) < 4 then (ns.length : Int) else 4) else 1) = z
  have h0 : 0 ≤ z ∧ z ≤ 4 := by rw [← hz]; split <;> split <;> omega
  have e : prim showD sub .listRange [.int z] = some (.lst (iota z.toNat)) := by
    have : (decide (0 ≤ z) && decide (z ≤ 1000000)) = true := by simp; omega
    simp only [prim, when_, this, if_true]
  refine Y.lay rfl e ?_
  walk_at "yd"
  exact ⟨z.toNat, by omega, rfl⟩
theorem draws_ok {ns : List Int} {j : Nat} (hj : j < 4) : Y (calls showD sub T (k + 1) f__law_draws [.val (.scr ns), .val (.int j)]) fun p _ => PotI 0 p := by
  refine Y.def R.draws rfl rfl rfl ?_
  walk_at "yd"
  have main : ∀ cell : Int, Y (xSs (En showD sub T k) (match c__law_draws.body with | .cons _ b => b | _ => .nil) [some (.val (.scr ns)), some (.val (.int j)), some (.val (.int cell)), none, none]) (Ret fun p => PotI 0 p) := by
    intro cell
    simp only [c__law_draws]
    walk_at "yd"
    obtain ⟨b0, b1⟩ := fmod_b (a := if cell < 0 then -cell else cell) (u := (10 ^ Int.toNat 60) ^ Int.toNat 5) (by decide)
    have hb2 : ((10 : Int) ^ Int.toNat 60) ^ Int.toNat 5 < 2 ^ 1000 := by decide
    generalize ((if cell < 0 then -cell else cell).fmod ((10 ^ Int.toNat 60) ^ Int.toNat 5)) = x at b0 b1 ⊢
    generalize decide (10 ^ Int.toNat 18 ≤ if cell < 0 then -cell else cell) = bb
    have hbb : 0 ≤ b2i bb ∧ b2i bb ≤ 1 := by cases bb <;> decide
    refine Y.mul (okMul_of (a := 1000) (b := 2) (natAbs_lt b0 (Int.lt_trans b1 hb2)) (by omega) (by decide)) ?_
    have hx : 0 ≤ x * b2i bb ∧ x * b2i bb < 2 ^ 1000 := by
      cases bb
      · simp only [b2i, Bool.false_eq_true, if_false, Int.mul_zero]
        exact ⟨Int.le_refl _, by decide⟩
      · simp only [b2i, if_true, Int.mul_one]
        exact ⟨b0, Int.lt_trans b1 hb2⟩
    generalize x * b2i bb = y at hx ⊢
    walk_at "yd"
    obtain ⟨c0, c1⟩ := fmod_b (a := cell) (u := 2305843009213693951) (by decide)
    generalize cell.fmod 2305843009213693951 = c at c0 c1 ⊢
    refine Y.mul (okMul_of (a := 62) (b := 17) (by omega) (by decide) (by decide)) ?_
    walk_at "yd"
    have hj2 : ((j : Int)).natAbs < 2 ^ 3 := by simp; omega
    refine Y.mul (okMul_of (i := 7369) (a := 13) (by decide) hj2 (by decide)) ?_
    walk_at "yd"
    have hj3 := mul_lt (a := (7369 : Int).natAbs) (m := 13) (by decide) hj2
    rw [← Int.natAbs_mul] at hj3
    refine Y.mul (okMul_of hj3 hj2 (by decide)) ?_
    walk_at "yd"
    obtain ⟨d0, d1⟩ := fmod_b (a := c * 71347 + 7369 * (j : Int) * (j : Int) + 163) (u := 2305843009213693921) (by decide)
    exact ⟨_, _, _, rfl, hx.1, hx.2, d0, Int.lt_of_lt_of_le d1 (by decide), Int.le_refl _, Int.le_refl _⟩
  refine Y.onB (fun h => ?_) (fun h => ?_)
  · have h : (j : Int) < (ns.length : Int) := of_decide_eq_true h
    have hlt : j < ns.length := by omega
    have e : opAt (.scr ns) (.int (j : Int)) = some (.int ns[j]) := by
      show (atI ns (j : Int)).map D.int = _
      unfold atI
      rw [if_pos (by omega)]
      simp [hlt]
    walk_at "yd"
    refine Y.at e ?_
    refine ⟨of_decide_eq_true rfl, Kn.nx ?_⟩
    exact main _
  · walk_at "yd"
    refine Y.mul (okMul_of (i := 223) (a := 8) (by decide) (j := (j : Int)) (b := 3) (by simp; omega) (by decide)) ?_
    walk_at "yy"
    walk_at "yy"
    walk_at "yy"
    refine ⟨_, .val, Y.anil (Y.add ⟨of_decide_eq_true rfl, Kn.nx ?_⟩)⟩
    exact main _
theorem law_ok {ns : List Int} (hl : ns.length ≤ 63) (hk : 60 ≤ k) : Y (calls showD sub T k f_law [.val (.scr ns)]) fun p _ => p = .val (.bl true) := by
  obtain ⟨k, rfl⟩ : ∃ j, k = j + 2 := ⟨k - 2, by omega⟩
  refine Y.def R.law rfl rfl rfl ?_
  walk_at "yd"
  refine Y.lc (Y.seq ?_)
  walk_at "yd"
  refine (cells_ok R hl).mono fun p _ ⟨n, hn, e⟩ => ?_
  subst e
  refine ⟨_, _, FrIs.lst, rfl, ?_⟩
  rw [frs_valsW]
  refine ⟨by simp [okLen, iota, line]; omega, ?_⟩
  refine Y.loopCG (fun _ => .val (.bl true)) _ _ (fun d hd => Y.eq ?_) ?_
  · obtain ⟨j, hj, rfl⟩ := List.mem_map.mp hd
    have hj : j < n := List.mem_range.mp hj
    refine Y.turnC1 rfl ?_
    walk_at "yd"
    refine (draws_ok R (by omega)).mono fun p _ hp => ?_
    walk_at "yd"
    refine (right_ok R (by omega) hp).mono fun r io ⟨q, _, e⟩ => ?_
    subst e
    exact ⟨rfl, rfl⟩
  · simp only [List.reverse_nil, List.nil_append]
    walk_at "yd"
    rw [frs_map (fun _ => D.bl true) (iota n)]
    refine all_map (fun _ => true) _ ?_
    walk_at "yd"
    simp
end
end PV

set_option Elab.async false
set_option linter.all false
set_option maxRecDepth 100000
set_option maxHeartbeats 0
namespace K36
open PySem PySem.Spec PyProof.Rows PV
abbrev R : PySem.W.OpenRow := PySem.W.OpenLaw.row PySem.Challenge.rw_sunstrings_k36_what_shows_fair_lengths
def body : List Stmt := PySem.Challenge.pw_sunstrings_k36_what_shows_fair_lengths.main.body
def p : Pr := prOf body
def names : List Str := looseOf body
def ob (s : PySem.W.SharedT) : He.AlD := obsXG 4 p (HandSHeadRun.getT s)
theorem ob_eq (s : PySem.W.SharedT) : ob s = (hookX 4 p).obs s.abs := obsXG_eq (HandSHeadRun.getT_eq s)
theorem run (w : World) : HandSHeadRun.RunEq R (PySem.W.view R.prog [36]) (hookX 4 p) ob 3000 names w := by
  intro os
  kernel_rfl
def lawI : DI := (findD p.L f_law).getD ⟨("", none), "", "", ⟨[], [], none, [], [], none, []⟩, [], ⟨.function, [], false, false, []⟩, [], false, []⟩
theorem okL : p.ok = true := by decide +kernel
def tb : Tab := tabOf p.gs p.L
theorem tr : TR tb := by
  constructor
  all_goals kernel_rfl
theorem plain (ns : List Int) (hl : ns.length ≤ 63) (_ : ∀ z ∈ ns, Builtin.Int.intBits z ≤ 1048576) : ∃ io, calls showD (fun _ _ => false) (tabOf p.gs p.L) 60 f_law [.val (.scr ns)] = .ok (.val (.bl true)) io := by
  obtain ⟨r, io, e, q⟩ := (law_ok (sub := fun _ _ => false) (k := 60) tr hl (Nat.le_refl _)).ex
  subst q
  exact ⟨io, e⟩
theorem walk : PySem.W.WalkO (PySem.W.view R.prog [36]) names (PySem.W.XL (PySem.W.view R.prog [36]) []) (hookX 4 p).says R.toRowW (HandSHeadRun.topDef R.prog 36) [] (fun f vs => PySem.call f vs) :=
  walk_X (l := PySem.Challenge.rw_sunstrings_k36_what_shows_fair_lengths) (n := 63) (k := 60) (i := f_law) (qi := lawI) (x := "_law_script") (sub := fun _ _ => false) rfl (by decide) (by kernel_rfl) ⟨rfl, by decide, by decide⟩ okL (by kernel_rfl) (by kernel_rfl) (by kernel_rfl) (by rfl) plain
end K36
open PySem PySem.W PySem.Calls PyProof.Rows
theorem PySem.Challenge.cw_sunstrings_k36_what_shows_fair_lengths_holds : PySem.Challenge.rw_sunstrings_k36_what_shows_fair_lengths.Holds := by
  w_on; o_law
  refine HandSHeadRun.head_any (r := K36.R) (q := view K36.R.prog [36]) (H := PV.hookX 4 K36.p) (ob := K36.ob) (M := 3000) (loose := K36.names) (d := HandSHeadRun.topDef K36.R.prog 36) (kwd := []) K36.ob_eq
    (by kernel_rfl) (fun s => by kernel_rfl) K36.run (by kernel_rfl) (by kernel_rfl) (by kernel_rfl) (by rfl) (by first | assumption | decide +kernel) (by decide +kernel) ⟨rfl, rfl, rfl, rfl, rfl, by decide +kernel⟩ ?hw ?hc
  case hw => w_witness2
  case hc => exact K36.walk
