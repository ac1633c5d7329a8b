import PyProof.Rows.All
import Wide.All
import OpenK.AllK
import Wide.FinOn
import HandS.List
import HandS.ForMost
import HandS.Deep
import HandS.TupAny
import HandS.TupMul
import HandS.TupSets
import HandS.IsInst
import HandS.Flow
import HandS.Wide
import HandS.TupLen
import HandS.Conv
import HandS.Star
import KE.SortData
import KE.DataMinMax
import HandS.Iter
import KE.GoesMore
import HandS.DictComp
import HandS.SetBool
import HandS.Strs
import HandS.Zip0
import PyProof.MeetsSeq2
import HandS.Words
import HandS.EndBits
import PySem.Challenge.RW_templates_k67_whole_odd_walks_judged
set_option Elab.async false
set_option linter.all false
set_option maxRecDepth 100000
/-! Mi: a small functional reading of the Python that the program and the laws are written in. Values are data; lists and dicts are values too, but for those that are made on the store. -/
namespace Mi
open PySem

inductive D where
  | non | bl (b : Bool) | int (i : Int) | str (s : Str)
  | tup (xs : List D) | lst (xs : List D) | dct (tk : Bool) (ks vs : List D) | ref (n : Nat)
  /-- the law's script -/
  | scr (xs : List Int)
  deriving Inhabited

/-- what stands on the store -/
inductive MO where
  | lst (xs : List D)
  | ins (c : Str) (fs : List (Str × D))
  deriving Inhabited
abbrev Sto := List MO
/-- a slot: owned (a list or dict that only this name reaches), the value -/
abbrev MEnv := List (Option (Bool × D))

/-- an outcome -/
inductive Rs (α : Type) where
  | ok (a : α) (s : Sto)
  | exc (c : Nat) (fs : List D) (s : Sto)
  | no
def Rs.bind {α β : Type} : Rs α → (α → Sto → Rs β) → Rs β
  | .ok a s, f => f a s
  | .exc c fs s, _ => .exc c fs s
  | .no, _ => .no
@[simp] theorem Rs.bind_ok {α β : Type} (a : α) (s : Sto) (f : α → Sto → Rs β) : (Rs.ok a s).bind f = f a s := rfl
@[simp] theorem Rs.bind_exc {α β : Type} (c : Nat) (fs : List D) (s : Sto) (f : α → Sto → Rs β) : (Rs.exc c fs s : Rs α).bind f = .exc c fs s := rfl
@[simp] theorem Rs.bind_no {α β : Type} (f : α → Sto → Rs β) : (Rs.no : Rs α).bind f = .no := rfl
theorem Rs.bind_eq_ok {α β : Type} {r : Rs α} {f : α → Sto → Rs β} {b : β} {s : Sto} (h : r.bind f = .ok b s) : ∃ a s', r = .ok a s' ∧ f a s' = .ok b s := by
  cases r with
  | ok a s' => exact ⟨a, s', rfl, h⟩
  | exc c fs s' => cases h
  | no => cases h
theorem Rs.bind_ok_iff {α β : Type} {r : Rs α} {f : α → Sto → Rs β} {b : β} {s : Sto} : r.bind f = .ok b s ↔ ∃ a s', r = .ok a s' ∧ f a s' = .ok b s :=
  ⟨Rs.bind_eq_ok, fun ⟨a, s', h1, h2⟩ => by rw [h1]; exact h2⟩
/-- an option taken in -/
def Rs.of {α : Type} (o : Option α) (s : Sto) : Rs α := match o with | some a => .ok a s | none => .no
@[simp] theorem Rs.of_some {α : Type} (a : α) (s : Sto) : Rs.of (some a) s = .ok a s := rfl
@[simp] theorem Rs.of_none {α : Type} (s : Sto) : (Rs.of (none : Option α) s) = .no := rfl
theorem Rs.of_eq_ok {α : Type} {o : Option α} {s : Sto} {a : α} {s' : Sto} (h : Rs.of o s = .ok a s') : o = some a ∧ s' = s := by
  cases o with
  | none => cases h
  | some x => cases h; exact ⟨rfl, rfl⟩

/-! ### values -/
mutual
def D.toP : D → PyData
  | .non => .none | .bl b => .bool b | .int i => .int i | .str s => .str s
  | .tup xs => .tuple (D.toPs xs) | .lst xs => .list (D.toPs xs)
  | .dct _ _ _ => .none | .ref _ => .none | .scr _ => .none
def D.toPs : List D → List PyData
  | [] => []
  | x :: xs => D.toP x :: D.toPs xs
end
/-- data of depth at most n, without dicts and places of the store -/
def D.plain : Nat → D → Bool
  | _, .non => true
  | _, .bl _ => true
  | _, .int _ => true
  | _, .str s => PyData.strOk s
  | n + 1, .tup xs => xs.all (D.plain n)
  | n + 1, .lst xs => xs.all (D.plain n)
  | _, _ => false
mutual
def D.eqv : D → D → Bool
  | .non, .non => true
  | .bl a, .bl b => a == b
  | .bl a, .int j => (if a then 1 else 0) == j
  | .int i, .bl b => i == (if b then 1 else 0)
  | .int i, .int j => i == j
  | .str x, .str y => x == y
  | .lst xs, .lst ys => D.eqvs xs ys
  | .tup xs, .tup ys => D.eqvs xs ys
  | _, _ => false
def D.eqvs : List D → List D → Bool
  | [], [] => true
  | x :: xs, y :: ys => D.eqv x y && D.eqvs xs ys
  | _, _ => false
end
mutual
/-- can two be compared, place by place? -/
def D.alk : D → D → Bool
  | .non, .non => true
  | .bl _, .bl _ => true
  | .int _, .int _ => true
  | .str _, .str _ => true
  | .lst xs, .lst ys => D.alks xs ys
  | .tup xs, .tup ys => D.alks xs ys
  | _, _ => false
def D.alks : List D → List D → Bool
  | x :: xs, y :: ys => D.alk x y && D.alks xs ys
  | [], _ => true
  | _ :: _, [] => true
end
mutual
/-- a < b, of such -/
def D.ltv : D → D → Bool
  | .bl a, .bl b => !a && b
  | .int i, .int j => decide (i < j)
  | .str x, .str y => decide (x.cps.toList < y.cps.toList)
  | .lst xs, .lst ys => D.ltvs xs ys
  | .tup xs, .tup ys => D.ltvs xs ys
  | _, _ => false
def D.ltvs : List D → List D → Bool
  | [], [] => false
  | [], _ :: _ => true
  | _ :: _, [] => false
  | x :: xs, y :: ys => if D.eqv x y then D.ltvs xs ys else D.ltv x y
end
def leD (a b : D) : Bool := !(D.ltv b a)
def isCons : D → Bool
  | .tup (_ :: _) => true
  | _ => false
def isFlatK : D → Bool
  | .non => false
  | .tup _ => false
  | _ => true
/-- data that sorted, min, max take -/
def alikeOk (xs : List D) : Bool := xs.all (D.plain 50) && xs.all (fun x => xs.all fun y => D.alk x y)
def srtOk (xs : List D) : Bool := alikeOk xs && (xs.all isCons || xs.all isFlatK)
def sortD (xs : List D) : Option D := if srtOk xs then some (.lst (xs.mergeSort leD)) else none
def notNon : D → Bool
  | .non => false
  | .lst _ => false
  | _ => true
def minD : List D → Option D
  | [] => none
  | x :: xs => if alikeOk (x :: xs) && (x :: xs).all notNon then some (xs.foldl (fun a y => if D.ltv y a then y else a) x) else none
def maxD : List D → Option D
  | [] => none
  | x :: xs => if alikeOk (x :: xs) && (x :: xs).all notNon then some (xs.foldl (fun a y => if D.ltv a y then y else a) x) else none
/-- a list of the store as a value -/
def deref (s : Sto) : D → D
  | .ref n => match s[n]? with
    | some (.lst xs) => .lst xs
    | _ => .ref n
  | d => d
def seqOf (s : Sto) (d : D) : Option (List D) := match deref s d with
  | .tup xs => some xs
  | .lst xs => some xs
  | _ => none
def intsOf : List D → Option (List Int)
  | [] => some []
  | .int i :: r => (intsOf r).map (i :: ·)
  | _ => none
def blsOf : List D → Option (List Bool)
  | [] => some []
  | .bl b :: r => (blsOf r).map (b :: ·)
  | _ => none
/-- a name for the longest length (16777216) -/
def lenOk (n : Nat) : Bool := decide (n ≤ sizeLine)
def i64 (i : Int) : Bool := decide (i.natAbs < 2 ^ 64)
theorem i64_iff {i : Int} (h : i64 i = true) : -(2 ^ 64) < i ∧ i < 2 ^ 64 := by
  have h := of_decide_eq_true h
  have e : (2 : Nat) ^ 64 = 18446744073709551616 := by decide +kernel
  have e2 : (2 : Int) ^ 64 = 18446744073709551616 := by decide +kernel
  rw [e] at h
  rw [e2]
  omega
def powOk (i j : Int) : Bool := decide (0 ≤ j) && decide (j.natAbs ≤ 1000000) && decide (i.natAbs < 2 ^ 64)
theorem powOk_iff {i j : Int} (h : powOk i j = true) : 0 ≤ j ∧ j ≤ 1000000 ∧ i.natAbs < 2 ^ 64 := by
  simp only [powOk, Bool.and_eq_true, decide_eq_true_eq] at h
  obtain ⟨⟨h1, h2⟩, h3⟩ := h
  exact ⟨h1, by omega, h3⟩

def binD (op : Operator) (s : Sto) (a b : D) : Option D :=
  match op, deref s a, deref s b with
  | .Add, .int i, .int j => some (.int (i + j))
  | .Add, .str x, .str y => if lenOk (x.length + y.length) then some (.str (x ++ y)) else none
  | .Add, .tup x, .tup y => if lenOk (x.length + y.length) then some (.tup (x ++ y)) else none
  | .Add, .lst x, .lst y => if lenOk (x.length + y.length) then some (.lst (x ++ y)) else none
  | .Sub, .int i, .int j => some (.int (i - j))
  | .Mult, .int i, .int j => if i64 i || i64 j then some (.int (i * j)) else none
  | .Mult, .lst x, .int k => if decide (-(2 ^ 63) ≤ k) && decide (k < 2 ^ 63) && lenOk (x.length * k.toNat) then some (.lst (List.replicate k.toNat x).flatten) else none
  | .Mult, .tup x, .int k => if !x.isEmpty && decide (1 ≤ k) && decide (k ≤ 1000) && decide (x.length ≤ 1000) then some (.tup (List.replicate k.toNat x).flatten) else none
  | .FloorDiv, .int i, .int j => if j ≠ 0 ∧ j.natAbs < 1073741824 then some (.int (i.fdiv j)) else none
  | .Mod, .int i, .int j => if j ≠ 0 then some (.int (i.fmod j)) else none
  | .Pow, .int i, .int j => if powOk i j then some (.int (i ^ j.toNat)) else none
  | .LShift, .int i, .int j => if powOk i j then some (.int (i * 2 ^ j.toNat)) else none
  | .RShift, .int i, .int j => if 0 ≤ j then some (.int (i / 2 ^ j.toNat)) else none
  | .BitAnd, .int i, .int j => some (.int (Builtin.bitAnd i j))
  | .BitOr, .int i, .int j => some (.int (Builtin.bitOr i j))
  | _, _, _ => none

def eqD (s : Sto) (a b : D) : Option Bool :=
  let x := deref s a
  let y := deref s b
  if D.plain 60 x && D.plain 60 y then some (D.eqv x y) else none
def isK : D → Bool
  | .int _ => true
  | .str _ => true
  | _ => false
/-- a key of a dict with flat keys, with keys that are tuples of such -/
def keyOk (tk : Bool) (d : D) : Bool := if tk then (match d with | .tup xs => xs.all isK | _ => false) else isK d
def getK : List D → List D → D → Option D
  | z :: ks, v :: vs, k => if D.eqv z k then some v else getK ks vs k
  | _, _, _ => none
def setK : List D → List D → D → D → List D
  | z :: ks, v :: vs, k, w => (if D.eqv z k then w else v) :: setK ks vs k w
  | _, _, _, _ => []
def putKs (ks vs : List D) (k w : D) : List D × List D := if ks.any (fun z => D.eqv z k) then (ks, setK ks vs k w) else (ks ++ [k], vs ++ [w])
def isNon : D → Bool
  | .non => true
  | _ => false
def inD (s : Sto) (x y : D) : Option Bool :=
  match deref s y with
  | .lst ys => if D.plain 60 (deref s x) && ys.all (D.plain 60) then some (ys.any fun z => D.eqv z (deref s x)) else none
  | .tup ys => if D.plain 60 (deref s x) && ys.all (D.plain 60) then some (ys.any fun z => D.eqv z (deref s x)) else none
  | .dct tk ks _ => if keyOk tk x then some (ks.any fun z => D.eqv z x) else none
  | _ => none
/-- the same truth value -/
def isBl : D → D → Option Bool
  | .bl x, .bl y => some (x == y)
  | _, _ => none
def lexI : List Int → List Int → Bool := HT.lexLt
def cmpD (op : CmpOp) (s : Sto) (a b : D) : Option Bool :=
  match op with
  | .Eq => eqD s a b
  | .NotEq => (eqD s a b).map (!·)
  | .In => inD s a b
  | .NotIn => (inD s a b).map (!·)
  | .Is => if isNon b then some (isNon a) else isBl a b
  | .IsNot => if isNon b then some (!isNon a) else (isBl a b).map (!·)
  | .Lt => match a, b with
    | .int i, .int j => some (decide (i < j))
    | .tup x, .tup y => match intsOf x, intsOf y with
      | some n, some m => some (lexI n m)
      | _, _ => none
    | _, _ => none
  | .LtE => match a, b with
    | .int i, .int j => some (decide (i ≤ j))
    | _, _ => none
  | .Gt => match a, b with
    | .int i, .int j => some (decide (j < i))
    | _, _ => none
  | .GtE => match a, b with
    | .int i, .int j => some (decide (j ≤ i))
    | _, _ => none

def truD (s : Sto) (a : D) : Option Bool := match deref s a with
  | .non => some false
  | .bl b => some b
  | .int i => some (i != 0)
  | .tup xs => some (!xs.isEmpty)
  | .lst xs => some (!xs.isEmpty)
  | _ => none

def subD (s : Sto) (a i : D) : Option D := match deref s a, i with
  | .tup xs, .int k => L2.atI xs k
  | .lst xs, .int k => L2.atI xs k
  | .scr xs, .int k => (L2.atI xs k).map .int
  | .dct tk ks vs, k => if keyOk tk k then getK ks vs k else none
  | _, _ => none
def cutD (xs : List D) (lo hi : Option Int) : List D := (xs.drop (HT.sIx xs.length 0 lo)).take (HT.sIx xs.length xs.length hi - HT.sIx xs.length 0 lo)

/-! ### the language -/
inductive BF where
  | len | tuple | list | int | all | any | sum | sorted | min | max | str | abs
  deriving DecidableEq
inductive Ty where
  | int | bool | str | tuple | list | dict
  deriving DecidableEq
mutual
inductive Tgt where
  | nm (i : Nat)
  | tp (ts : Tgts)
inductive Tgts where
  | nil | cons (t : Tgt) (ts : Tgts)
end
mutual
inductive CE where
  | var (i : Nat)
  | cint (n : Int) | cbl (b : Bool) | cnon | cstr (s : Str)
  | glob (x : Str) (n : Int)
  | tup (es : CEs) | tupS (a : CE) (es : CEs) | lst (es : CEs)
  | bin (op : Operator) (a b : CE) | neg (a : CE)
  | cmp (op : CmpOp) (a b : CE) | chain (op op' : CmpOp) (a b c : CE)
  | and (es : CEs) | or (es : CEs) | not (a : CE) | ife (c : CT) (a b : CE)
  | sub (a i : CE) | slc (a : CE) (lo hi : CEs)
  | comp (tg : Tgt) (it : CI) (ifs : CTs) (elt : CE) (own : List Nat)
  | comp2 (tg : Tgt) (it : CI) (tg2 : Tgt) (it2 : CI) (ifs : CTs) (elt : CE) (own own2 : List Nat)
  | call (f : Nat) (args : CEs)
  | bfn (f : BF) (args : CEs)
  | isi (a : CE) (ts : List Ty) (one : Bool)
  | heap (a : CE)
  | dict0 (tk : Bool)
  | dcomp (tk : Bool) (tg : Tgt) (it : CI) (key val : CE) (own : List Nat)
  | ssort (tg : Tgt) (it : CI) (elt : CE) (own : List Nat)
inductive CEs where
  | nil | cons (e : CE) (es : CEs)
/-- a test -/
inductive CT where
  | and (ts : CTs) | or (ts : CTs) | not (t : CT) | val (e : CE)
inductive CTs where
  | nil | cons (t : CT) (ts : CTs)
inductive CI where
  | seq (e : CE) | range1 (a : CE) | range2 (a b : CE) | enum (e : CE) | zip2 (a b : CE) | zipS (e : CE)
end
mutual
inductive CS where
  | asg (tg : Tgt) (e : CE) | asgO (i : Nat) (e : CE) | par (oi : Bool) (i : Nat) (oj : Bool) (j : Nat) (a b : CE)
  | app (i : Nat) (e : CE) | appH (o e : CE) | seti (i : Nat) (k e : CE) | setH (o k e : CE)
  | expr (e : CE) | ite (c : CT) (a b : CSs)
  | forr (tg : Tgt) (it : CI) (b : CSs) | whil (fuel : Nat) (c : CT) (b : CSs)
  | ret (e : CE) | retO (i : Nat) | retN | brk | raise (c : Nat) (args : CEs)
inductive CSs where
  | nil | cons (s : CS) (ss : CSs) | frz (i : Nat) (ss : CSs)
end
/-- a def: the number of its parameters, of its slots, its body, whether what it hands back is new -/
structure Fn where
  ps : Nat
  ns : Nat
  fresh : Bool
  body : CSs

/-! ### its meaning -/
structure Cl where
  run : Nat → List D → Sto → Rs D
  fresh : Nat → Bool

def getV (env : MEnv) (i : Nat) : Option D := match env[i]? with
  | some (some (_, d)) => some d
  | _ => none
def ownd (env : MEnv) (i : Nat) : Bool := match env[i]? with
  | some (some (o, _)) => o
  | _ => false
/-- does the value reach a list that a name owns? -/
def bor (env : MEnv) : CE → Bool
  | .var i => ownd env i
  | .ife _ a b => bor env a || bor env b
  | _ => false
def bors (env : MEnv) : CEs → Bool
  | .nil => false
  | .cons e es => bor env e || bors env es
/-- is the list or dict, if it is one, new? -/
def fresh (F : Cl) : CE → Bool
  | .lst _ => true
  | .bin _ _ _ => true
  | .slc _ _ _ => true
  | .comp _ _ _ _ _ => true
  | .comp2 _ _ _ _ _ _ _ _ => true
  | .dict0 _ => true
  | .dcomp _ _ _ _ _ _ => true
  | .ssort _ _ _ _ => true
  | .bfn .list _ => true
  | .bfn .sorted _ => true
  | .call f _ => F.fresh f
  | .ife _ a b => fresh F a && fresh F b
  | _ => false
mutual
def bindT : Tgt → D → MEnv → Option MEnv
  | .nm i, d, env => if i < env.length then some (env.set i (some (false, d))) else none
  | .tp ts, .tup xs, env => bindTs ts xs env
  | .tp _, _, _ => none
def bindTs : Tgts → List D → MEnv → Option MEnv
  | .nil, [], env => some env
  | .cons t ts, x :: xs, env => (bindT t x env).bind fun env' => bindTs ts xs env'
  | _, _, _ => none
end
def wipeE (env : MEnv) : List Nat → MEnv
  | [] => env
  | v :: vs => (wipeE env vs).set v none

/-- exceptions are not let out of a comprehension -/
def Rs.still {α : Type} : Rs α → Rs α
  | .exc _ _ _ => .no
  | r => r
@[simp] theorem Rs.still_ok {α : Type} (a : α) (s : Sto) : (Rs.ok a s).still = .ok a s := rfl
@[simp] theorem Rs.still_no {α : Type} : (Rs.no : Rs α).still = .no := rfl
theorem Rs.still_eq_ok {α : Type} {r : Rs α} {a : α} {s : Sto} (h : r.still = .ok a s) : r = .ok a s := by
  cases r with
  | ok a s' => exact h
  | exc c fs s' => cases h
  | no => cases h

def goC (bd : D → Option MEnv) (cond : MEnv → Sto → Rs Bool) (elt : MEnv → Sto → Rs D) : List D → Sto → Rs (List D)
  | [], s => .ok [] s
  | x :: xs, s => match bd x with
    | none => .no
    | some env => (cond env s).bind fun b s1 =>
      if b then (elt env s1).bind fun y s2 => (goC bd cond elt xs s2).bind fun ys s3 => .ok (y :: ys) s3
      else goC bd cond elt xs s1
def goC2 (bd : D → Option MEnv) (inner : MEnv → Sto → Rs (List D)) : List D → Sto → Rs (List D)
  | [], s => .ok [] s
  | x :: xs, s => match bd x with
    | none => .no
    | some env => (inner env s).bind fun ys s1 => (goC2 bd inner xs s1).bind fun zs s2 => .ok (ys ++ zs) s2

/-- a dict's turns: the key, the value -/
def goD (tk : Bool) (bd : D → Option MEnv) (kv : MEnv → Sto → Rs (D × D)) : List D → List D → List D → Sto → Rs (List D × List D)
  | [], ks, vs, s => .ok (ks, vs) s
  | x :: xs, ks, vs, s => match bd x with
    | none => .no
    | some env => (kv env s).bind fun p s1 => if keyOk tk p.1 && lenOk (ks.length + 1) then goD tk bd kv xs (putKs ks vs p.1 p.2).1 (putKs ks vs p.1 p.2).2 s1 else .no
/-- rows of numbers of one length, each once -/
def intRow : D → Option (List Int)
  | .tup xs => intsOf xs
  | _ => none
def rowLen (n : Nat) (d : D) : Bool := match intRow d with
  | some l => l.length == n && l.all fun i => decide (0 ≤ i) && decide (i < 1000000)
  | none => false
def addD (xs : List D) (d : D) : List D := if xs.any fun z => D.eqv z d then xs else xs ++ [d]
def isInt : D → Bool
  | .int _ => true
  | _ => false
def ssortD (xs : List D) : Option D := if xs.all isInt && decide (xs.length < 64) then some (.lst ((xs.foldl addD []).mergeSort leD)) else match xs with
  | [] => none
  | x :: r => match intRow x with
    | some l => if decide (1 ≤ l.length) && (x :: r).all (rowLen l.length) && decide ((x :: r).length < 64) then some (.lst (((x :: r).foldl addD []).mergeSort leD)) else none
    | none => none

def rngD (lo : Int) : Nat → List D
  | 0 => []
  | n + 1 => .int lo :: rngD (lo + 1) n
def enumD (i : Int) : List D → List D
  | [] => []
  | x :: xs => .tup [.int i, x] :: enumD (i + 1) xs
def zipD : List D → List D → List D
  | x :: xs, y :: ys => .tup [x, y] :: zipD xs ys
  | _, _ => []
/-- zip(*xss): the rows of the i-th items, as long as every one has one -/
def zipN (xss : List (List D)) : Nat → Nat → List D
  | _, 0 => []
  | i, n + 1 => match xss.mapM (fun xs => xs[i]?) with
    | some row => .tup row :: zipN xss (i + 1) n
    | none => []
def zipSD (xss : List (List D)) : List D := match xss with
  | [] => []
  | xs :: _ => zipN xss 0 xs.length
def tupsOf : List D → Option (List (List D))
  | [] => some []
  | .tup xs :: r => (tupsOf r).map (xs :: ·)
  | _ => none
def i62 (i : Int) : Bool := decide (i.natAbs < 2 ^ 62)
theorem i62_iff {i : Int} (h : i62 i = true) : -(2 ^ 62) ≤ i ∧ i < 2 ^ 62 := by
  have h := of_decide_eq_true h
  have e : (2 : Nat) ^ 62 = 4611686018427387904 := by decide +kernel
  have e2 : (2 : Int) ^ 62 = 4611686018427387904 := by decide +kernel
  rw [e] at h
  rw [e2]
  omega

/-- the classes of a value -/
def isiD (s : Sto) (d : D) (t : Ty) : Option Bool :=
  match d with
  | .non => some false
  | .bl _ => some (decide (t = .bool) || decide (t = .int))
  | .int _ => some (decide (t = .int))
  | .str _ => some (decide (t = .str))
  | .tup _ => some (decide (t = .tuple))
  | .lst _ => some (decide (t = .list))
  | .dct _ _ _ => some (decide (t = .dict))
  | .scr _ => none
  | .ref n => match s[n]? with
    | some (.lst _) => some (decide (t = .list))
    | _ => none
def isiAny (s : Sto) (d : D) : List Ty → Option Bool
  | [] => some false
  | t :: ts => match isiD s d t with
    | some true => some true
    | some false => isiAny s d ts
    | none => none

/-- built-in functions by name -/
def bfnD (f : BF) (s : Sto) (as : List D) : Option D :=
  match f, as with
  | .len, [a] => match deref s a with
      | .tup xs => some (.int xs.length)
      | .lst xs => some (.int xs.length)
      | .dct _ ks _ => some (.int ks.length)
      | .scr xs => some (.int xs.length)
      | .str x => if lenOk x.length then some (.int x.length) else none
      | _ => none
  | .tuple, [a] => (seqOf s a).map .tup
  | .list, [a] => match deref s a with
      | .dct true ks _ => some (.lst ks)
      | d => (seqOf s d).map .lst
  | .int, [a] => match a with
      | .int i => some (.int i)
      | .bl b => some (.int (if b then 1 else 0))
      | _ => none
  | .all, [a] => match deref s a with
      | .lst xs => (blsOf xs).map fun bs => .bl (bs.all id)
      | _ => none
  | .any, [a] => match deref s a with
      | .lst xs => (blsOf xs).map fun bs => .bl (bs.any id)
      | _ => none
  | .sum, [a] => match deref s a with
      | .lst xs => (intsOf xs).map fun ns => .int ns.sum
      | _ => none
  | .sorted, [a] => match deref s a with
      | .lst xs => sortD xs
      | .tup xs => sortD xs
      | .dct true ks _ => sortD ks
      | _ => none
  | .min, [a] => match deref s a with
      | .lst xs => minD xs
      | .tup xs => minD xs
      | _ => none
  | .max, [a] => match deref s a with
      | .lst xs => maxD xs
      | .tup xs => maxD xs
      | _ => none
  | .abs, [a] => match a with
      | .int i => some (.int (if i < 0 then -i else i))
      | _ => none
  | .min, [a, b] => match a, b with
      | .int i, .int j => some (.int (if j < i then j else i))
      | _, _ => none
  | .max, [a, b] => match a, b with
      | .int i, .int j => some (.int (if j > i then j else i))
      | _, _ => none
  | _, _ => none

/-- what a loop walks is a name's own list, or nobody's -/
def okS (env : MEnv) : CE → Bool
  | .var _ => true
  | e => !bor env e

/-- the way behind a part of an and, of an or: es are the parts that follow -/
def andLast : CEs → D → Sto → Rs Bool → Rs Bool
  | .nil, x, s, _ => match x with
    | .bl b => .ok b s
    | _ => .no
  | .cons _ _, x, s, r => match x with
    | .bl b => if b then r else .ok false s
    | _ => .no
def orLast : CEs → D → Sto → Rs Bool → Rs Bool
  | .nil, x, s, _ => match x with
    | .bl b => .ok b s
    | _ => .no
  | .cons _ _, x, s, r => match x with
    | .bl b => if b then .ok true s else r
    | _ => .no
mutual
def evE (F : Cl) : CE → MEnv → Sto → Rs D
  | .var i, env, s => Rs.of (getV env i) s
  | .cint n, _, s => .ok (.int n) s
  | .cbl b, _, s => .ok (.bl b) s
  | .cnon, _, s => .ok .non s
  | .cstr x, _, s => .ok (.str x) s
  | .glob _ n, _, s => .ok (.int n) s
  | .tup es, env, s => if bors env es then .no else (evEs F es env s).bind fun xs s1 => if lenOk xs.length then .ok (.tup xs) s1 else .no
  | .tupS a es, env, s => if bors env es then .no else (evE F a env s).bind fun d s1 => (evEs F es env s1).bind fun ys s2 =>
      match d with
      | .tup xs => if lenOk (xs.length + ys.length) then .ok (.tup (xs ++ ys)) s2 else .no
      | .lst xs => if lenOk (xs.length + ys.length) then .ok (.tup (xs ++ ys)) s2 else .no
      | _ => .no
  | .lst es, env, s => if bors env es then .no else (evEs F es env s).bind fun xs s1 => if lenOk xs.length then .ok (.lst xs) s1 else .no
  | .bin op a b, env, s => (evE F a env s).bind fun x s1 => (evE F b env s1).bind fun y s2 => Rs.of (binD op s2 x y) s2
  | .neg a, env, s => (evE F a env s).bind fun x s1 => match x with
      | .int i => .ok (.int (-i)) s1
      | _ => .no
  | .cmp op a b, env, s => (evE F a env s).bind fun x s1 => (evE F b env s1).bind fun y s2 => (Rs.of (cmpD op s2 x y) s2).bind fun c s3 => .ok (.bl c) s3
  | .chain op op' a b c, env, s => (evE F a env s).bind fun x s1 => (evE F b env s1).bind fun y s2 => (Rs.of (cmpD op s2 x y) s2).bind fun k s3 =>
      if k then (evE F c env s3).bind fun z s4 => (Rs.of (cmpD op' s4 y z) s4).bind fun k s5 => .ok (.bl k) s5 else .ok (.bl false) s3
  | .and es, env, s => (evAnd F es env s).bind fun b s1 => .ok (.bl b) s1
  | .or es, env, s => (evOr F es env s).bind fun b s1 => .ok (.bl b) s1
  | .not a, env, s => (evE F a env s).bind fun x s1 => match x with
      | .bl b => .ok (.bl (!b)) s1
      | _ => .no
  | .ife c a b, env, s => (evT F c env s).bind fun k s1 => if k then evE F a env s1 else evE F b env s1
  | .sub a i, env, s => (evE F a env s).bind fun x s1 => (evE F i env s1).bind fun y s2 => Rs.of (subD s2 x y) s2
  | .slc a lo hi, env, s => (evE F a env s).bind fun x s1 => (evO F lo env s1).bind fun l s2 => (evO F hi env s2).bind fun h s3 =>
      match deref s3 x with
      | .lst xs => .ok (.lst (cutD xs l h)) s3
      | .tup xs => .ok (.tup (cutD xs l h)) s3
      | _ => .no
  | .comp tg it ifs elt own, env, s => (evI F it env s).bind fun xs s1 =>
      (goC (fun x => bindT tg x (wipeE env own)) (fun e s => evIfs F ifs e s) (fun e s => if bor e elt then .no else evE F elt e s) xs s1).still.bind fun ys s2 =>
        if lenOk ys.length then .ok (.lst ys) s2 else .no
  | .comp2 tg it tg2 it2 ifs elt own own2, env, s => (evI F it env s).bind fun xs s1 =>
      (goC2 (fun x => bindT tg x (wipeE env own)) (fun e s => (evI F it2 e s).bind fun xs2 s2 =>
        goC (fun x => bindT tg2 x (wipeE e own2)) (fun e s => evIfs F ifs e s) (fun e s => if bor e elt then .no else evE F elt e s) xs2 s2) xs s1).still.bind fun ys s2 =>
        if lenOk ys.length then .ok (.lst ys) s2 else .no
  | .call f args, env, s => if bors env args then .no else (evEs F args env s).bind fun xs s1 => F.run f xs s1
  | .bfn f args, env, s => (evEs F args env s).bind fun xs s1 => Rs.of (bfnD f s1 xs) s1
  | .isi a ts _, env, s => (evE F a env s).bind fun x s1 => (Rs.of (isiAny s1 x ts) s1).bind fun b s2 => .ok (.bl b) s2
  | .heap a, env, s => if fresh F a then (evE F a env s).bind fun x s1 => match x with
      | .lst xs => .ok (.ref s1.length) (s1 ++ [.lst xs])
      | _ => .no
    else .no
  | .dict0 tk, _, s => .ok (.dct tk [] []) s
  | .dcomp tk tg it key val own, env, s => (evI F it env s).bind fun xs s1 =>
      (goD tk (fun x => bindT tg x (wipeE env own)) (fun e s => if bor e val then .no else (evE F key e s).bind fun k s2 => (evE F val e s2).bind fun v s3 => .ok (k, v) s3) xs [] [] s1).still.bind fun p s2 => .ok (.dct tk p.1 p.2) s2
  | .ssort tg it elt own, env, s => (evI F it env s).bind fun xs s1 =>
      (goC (fun x => bindT tg x (wipeE env own)) (fun _ s => .ok true s) (fun e s => if bor e elt then .no else evE F elt e s) xs s1).still.bind fun ys s2 => Rs.of (ssortD ys) s2
def evEs (F : Cl) : CEs → MEnv → Sto → Rs (List D)
  | .nil, _, s => .ok [] s
  | .cons e es, env, s => (evE F e env s).bind fun x s1 => (evEs F es env s1).bind fun xs s2 => .ok (x :: xs) s2
def evAnd (F : Cl) : CEs → MEnv → Sto → Rs Bool
  | .nil, _, _ => .no
  | .cons e es, env, s => (evE F e env s).bind fun x s1 => andLast es x s1 (evAnd F es env s1)
def evOr (F : Cl) : CEs → MEnv → Sto → Rs Bool
  | .nil, _, _ => .no
  | .cons e es, env, s => (evE F e env s).bind fun x s1 => orLast es x s1 (evOr F es env s1)
/-- a test -/
def evT (F : Cl) : CT → MEnv → Sto → Rs Bool
  | .and es, env, s => evAndT F es env s
  | .or es, env, s => evOrT F es env s
  | .not a, env, s => (evT F a env s).bind fun b s1 => .ok (!b) s1
  | .val e, env, s => (evE F e env s).bind fun x s1 => Rs.of (truD s1 x) s1
def evAndT (F : Cl) : CTs → MEnv → Sto → Rs Bool
  | .nil, _, s => .ok true s
  | .cons e es, env, s => (evT F e env s).bind fun b s1 => if b then evAndT F es env s1 else .ok false s1
def evOrT (F : Cl) : CTs → MEnv → Sto → Rs Bool
  | .nil, _, s => .ok false s
  | .cons e es, env, s => (evT F e env s).bind fun b s1 => if b then .ok true s1 else evOrT F es env s1
/-- the tests of a comprehension: none or one -/
def evIfs (F : Cl) : CTs → MEnv → Sto → Rs Bool
  | .nil, _, s => .ok true s
  | .cons e .nil, env, s => evT F e env s
  | _, _, _ => .no
/-- a bound of a slice -/
def evO (F : Cl) : CEs → MEnv → Sto → Rs (Option Int)
  | .nil, _, s => .ok none s
  | .cons e .nil, env, s => (evE F e env s).bind fun x s1 => match x with
      | .int i => .ok (some i) s1
      | _ => .no
  | _, _, _ => .no
def evI (F : Cl) : CI → MEnv → Sto → Rs (List D)
  | .seq e, env, s => if !okS env e then .no else (evE F e env s).bind fun x s1 => match x with
      | .tup xs => .ok xs s1
      | .lst xs => .ok xs s1
      | _ => .no
  | .range1 a, env, s => (evE F a env s).bind fun x s1 => match x with
      | .int i => if i62 i then .ok (rngD 0 i.toNat) s1 else .no
      | _ => .no
  | .range2 a b, env, s => (evE F a env s).bind fun x s1 => (evE F b env s1).bind fun y s2 => match x, y with
      | .int i, .int j => if i62 i && i62 j then .ok (rngD i (j - i).toNat) s2 else .no
      | _, _ => .no
  | .enum e, env, s => if !okS env e then .no else (evE F e env s).bind fun x s1 => match x with
      | .lst xs => .ok (enumD 0 xs) s1
      | .tup xs => .ok (enumD 0 xs) s1
      | _ => .no
  | .zip2 a b, env, s => if !(okS env a && okS env b) then .no else (evE F a env s).bind fun x s1 => (evE F b env s1).bind fun y s2 => match x, y with
      | .lst xs, .lst ys => .ok (zipD xs ys) s2
      | _, _ => .no
  | .zipS e, env, s => if !okS env e then .no else (evE F e env s).bind fun x s1 => match x with
      | .lst xs => match tupsOf xs with
        | some (ys :: yss) => if decide (yss.length < 1000) && yss.all (fun zs => zs.length == ys.length) then .ok (zipSD (ys :: yss)) s1 else .no
        | _ => .no
      | .tup xs => match tupsOf xs with
        | some (ys :: yss) => if decide (yss.length < 1000) && yss.all (fun zs => zs.length == ys.length) then .ok (zipSD (ys :: yss)) s1 else .no
        | _ => .no
      | _ => .no
end

inductive Out where
  | nx (env : MEnv) | rt (fr : Bool) (d : D) | bk (env : MEnv)
  deriving Inhabited

def goFor (bd : D → MEnv → Option MEnv) (body : MEnv → Sto → Rs Out) : List D → MEnv → Sto → Rs Out
  | [], env, s => .ok (.nx env) s
  | x :: xs, env, s => match bd x env with
    | none => .no
    | some env1 => (body env1 s).bind fun o s1 => match o with
      | .nx env2 => goFor bd body xs env2 s1
      | .bk env2 => .ok (.nx env2) s1
      | .rt fr d => .ok (.rt fr d) s1
def goWh (cond : MEnv → Sto → Rs Bool) (body : MEnv → Sto → Rs Out) : Nat → MEnv → Sto → Rs Out
  | 0, _, _ => .no
  | n + 1, env, s => (cond env s).bind fun b s1 => if b then (body env s1).bind fun o s2 => match o with
      | .nx env2 => goWh cond body n env2 s2
      | .bk env2 => .ok (.nx env2) s2
      | .rt fr d => .ok (.rt fr d) s2
    else .ok (.nx env) s1
/-- a name no longer owns its list -/
def frzE (env : MEnv) (i : Nat) : MEnv := match env[i]? with
  | some (some (_, d)) => env.set i (some (false, d))
  | _ => env
def frzV (env : MEnv) : CE → MEnv
  | .var i => frzE env i
  | _ => env
def frzI (env : MEnv) : CI → MEnv
  | .seq e => frzV env e
  | .enum e => frzV env e
  | .zip2 a b => frzV (frzV env a) b
  | _ => env
def putD (d k v : D) : Option D := match d, k with
  | .lst xs, .int i => (L2.ixN xs.length i).map fun j => .lst (xs.set j v)
  | .dct tk ks vs, k => if keyOk tk k && lenOk (ks.length + 1) then some (.dct tk (putKs ks vs k v).1 (putKs ks vs k v).2) else none
  | _, _ => none

mutual
def evS (F : Cl) : CS → MEnv → Sto → Rs Out
  | .asg tg e, env, s => if bor env e then .no else (evE F e env s).bind fun d s1 => (Rs.of (bindT tg d env) s1).bind fun env1 s2 => .ok (.nx env1) s2
  | .asgO i e, env, s => if fresh F e && decide (i < env.length) then (evE F e env s).bind fun d s1 => .ok (.nx (env.set i (some (true, d)))) s1 else .no
  | .par oi i oj j a b, env, s => if ((!oi && !bor env a) || (oi && fresh F a)) && ((!oj && !bor env b) || (oj && fresh F b)) && decide (i < env.length) && decide (j < env.length) then
      (evE F a env s).bind fun x s1 => (evE F b env s1).bind fun y s2 => .ok (.nx ((env.set i (some (oi, x))).set j (some (oj, y)))) s2 else .no
  | .app i e, env, s => if bor env e then .no else (evE F e env s).bind fun d s1 => match env[i]? with
      | some (some (true, .lst xs)) => if lenOk (xs.length + 1) then .ok (.nx (env.set i (some (true, .lst (xs ++ [d]))))) s1 else .no
      | _ => .no
  | .appH o e, env, s => if bor env e then .no else (evE F o env s).bind fun x s1 => (evE F e env s1).bind fun d s2 => match x with
      | .ref n => match s2[n]? with
        | some (.lst xs) => if lenOk (xs.length + 1) then .ok (.nx env) (s2.set n (.lst (xs ++ [d]))) else .no
        | _ => .no
      | _ => .no
  | .seti i k e, env, s => if bor env e || bor env k then .no else (evE F e env s).bind fun v s1 => (evE F k env s1).bind fun kd s2 => match env[i]? with
      | some (some (true, d)) => match putD d kd v with
        | some d' => .ok (.nx (env.set i (some (true, d')))) s2
        | none => .no
      | _ => .no
  | .setH o k e, env, s => if bor env e then .no else (evE F e env s).bind fun v s1 => (evE F o env s1).bind fun x s2 => (evE F k env s2).bind fun kd s3 => match x with
      | .ref n => match s3[n]? with
        | some (.lst xs) => match putD (.lst xs) kd v with
          | some (.lst ys) => .ok (.nx env) (s3.set n (.lst ys))
          | _ => .no
        | _ => .no
      | _ => .no
  | .expr e, env, s => (evE F e env s).bind fun _ s1 => .ok (.nx env) s1
  | .ite c a b, env, s => (evT F c env s).bind fun k s1 => if k then evSs F a env s1 else evSs F b env s1
  | .forr tg it b, env, s => (evI F it env s).bind fun xs s1 => goFor (fun x e => bindT tg x e) (fun e s => evSs F b e s) xs (frzI env it) s1
  | .whil fuel c b, env, s => goWh (fun e s => evT F c e s) (fun e s => evSs F b e s) fuel env s
  | .ret e, env, s => if bor env e then .no else (evE F e env s).bind fun d s1 => .ok (.rt (fresh F e) d) s1
  | .retO i, env, s => match env[i]? with
      | some (some (true, d)) => .ok (.rt true d) s
      | _ => .no
  | .retN, _, s => .ok (.rt true .non) s
  | .brk, env, s => .ok (.bk env) s
  | .raise c args, env, s => if bors env args then .no else (evEs F args env s).bind fun xs s1 => .exc c xs s1
def evSs (F : Cl) : CSs → MEnv → Sto → Rs Out
  | .nil, env, s => .ok (.nx env) s
  | .cons c cs, env, s => (evS F c env s).bind fun o s1 => match o with
      | .nx env1 => evSs F cs env1 s1
      | o => .ok o s1
  | .frz i cs, env, s => evSs F cs (frzE env i) s
end

/-- the defs of a program -/
abbrev Tab := Nat → Option Fn
def callF (T : Tab) : Nat → Nat → List D → Sto → Rs D
  | 0, _, _, _ => .no
  | k + 1, f, xs, s => match T f with
    | none => .no
    | some fn => if xs.length = fn.ps then
        (evSs ⟨callF T k, fun g => match T g with | some gn => gn.fresh | none => false⟩ fn.body (xs.map (fun d => some (false, d)) ++ List.replicate (fn.ns - fn.ps) none) s).bind fun o s1 => match o with
          | .nx _ => .ok .non s1
          | .rt fr d => if fn.fresh && !fr then .no else .ok d s1
          | .bk _ => .no
      else .no
def clOf (T : Tab) (k : Nat) : Cl := ⟨callF T k, fun g => match T g with | some gn => gn.fresh | none => false⟩
end Mi
/-! M19: plain lemmas for runs of the language. -/
namespace Mi
open PySem PySem.Spec

theorem callF_eq {T : Tab} {f k : Nat} {fn : Fn} {xs : List D} {s : Sto} (h : T f = some fn) (hl : xs.length = fn.ps) : callF T (k + 1) f xs s =
    (evSs (clOf T k) fn.body (xs.map (fun d => some (false, d)) ++ List.replicate (fn.ns - fn.ps) none) s).bind fun o s1 => match o with
      | .nx _ => .ok .non s1
      | .rt fr d => if fn.fresh && !fr then .no else .ok d s1
      | .bk _ => .no := by
  simp only [callF, h, hl, if_true]
  rfl
@[simp] theorem run_clOf (T : Tab) (k f : Nat) (xs : List D) (s : Sto) : (clOf T k).run f xs s = callF T k f xs s := rfl
@[simp] theorem fresh_clOf (T : Tab) (k f : Nat) : (clOf T k).fresh f = (match T f with | some gn => gn.fresh | none => false) := rfl

/-! ### loops -/
theorem goFor_inv {bd : D → MEnv → Option MEnv} {body : MEnv → Sto → Rs Out} (P : Nat → MEnv → Sto → Prop) : ∀ (xs : List D) (j : Nat) (env : MEnv) (s : Sto), P j env s →
    (∀ i x env s, xs[i]? = some x → P (j + i) env s → ∃ env1 env2 s2, bd x env = some env1 ∧ body env1 s = .ok (.nx env2) s2 ∧ P (j + i + 1) env2 s2) →
    ∃ env' s', goFor bd body xs env s = .ok (.nx env') s' ∧ P (j + xs.length) env' s'
  | [], j, env, s, h0, _ => ⟨env, s, rfl, h0⟩
  | x :: xs, j, env, s, h0, h => by
    obtain ⟨env1, env2, s2, h1, h2, h3⟩ := h 0 x env s rfl h0
    obtain ⟨env', s', h4, h5⟩ := goFor_inv P xs (j + 1) env2 s2 h3 fun i x env s hx hp => by
      have := h (i + 1) x env s hx (by rw [show j + (i + 1) = j + 1 + i by omega]; exact hp)
      rw [show j + (i + 1) + 1 = j + 1 + i + 1 by omega] at this
      exact this
    refine ⟨env', s', ?_, by rw [List.length_cons, show j + (xs.length + 1) = j + 1 + xs.length by omega]; exact h5⟩
    simp only [goFor, h1, h2, Rs.bind_ok]
    exact h4
theorem goC_map {bd : D → Option MEnv} {cond : MEnv → Sto → Rs Bool} {elt : MEnv → Sto → Rs D} {s : Sto} (f : D → D) : ∀ (xs : List D), (∀ x ∈ xs, ∃ e, bd x = some e ∧ cond e s = .ok true s ∧ elt e s = .ok (f x) s) →
    goC bd cond elt xs s = .ok (xs.map f) s
  | [], _ => rfl
  | x :: xs, h => by
    obtain ⟨e, h1, h2, h3⟩ := h x (by simp)
    simp only [goC, h1, h2, h3, Rs.bind_ok, if_true, goC_map f xs fun y hy => h y (by simp [hy]), List.map_cons]
theorem goC_filter {bd : D → Option MEnv} {cond : MEnv → Sto → Rs Bool} {elt : MEnv → Sto → Rs D} {s : Sto} (p : D → Bool) (f : D → D) : ∀ (xs : List D), (∀ x ∈ xs, ∃ e, bd x = some e ∧ cond e s = .ok (p x) s ∧ (p x = true → elt e s = .ok (f x) s)) →
    goC bd cond elt xs s = .ok ((xs.filter p).map f) s
  | [], _ => rfl
  | x :: xs, h => by
    obtain ⟨e, h1, h2, h3⟩ := h x (by simp)
    have ih := goC_filter p f xs fun y hy => h y (by simp [hy])
    cases hp : p x with
    | true => simp only [goC, h1, h2, h3 hp, hp, Rs.bind_ok, if_true, ih, List.filter_cons, List.map_cons]
    | false => simp only [goC, h1, h2, hp, Rs.bind_ok, Bool.false_eq_true, if_false, ih, List.filter_cons]
theorem goC_st {bd : D → Option MEnv} {cond : MEnv → Sto → Rs Bool} {elt : MEnv → Sto → Rs D} (P : Sto → Prop) (Q : D → Prop) : ∀ (xs : List D) (s : Sto), P s →
    (∀ x ∈ xs, ∀ s, P s → ∃ e y s', bd x = some e ∧ cond e s = .ok true s ∧ elt e s = .ok y s' ∧ P s' ∧ Q y) → ∃ ys s', goC bd cond elt xs s = .ok ys s' ∧ P s' ∧ ys.length = xs.length ∧ ∀ y ∈ ys, Q y
  | [], s, h0, _ => ⟨[], s, rfl, h0, rfl, by simp⟩
  | x :: xs, s, h0, h => by
    obtain ⟨e, y, s', h1, h2, h3, h4, h5⟩ := h x (by simp) s h0
    obtain ⟨ys, s2, h6, h7, h8, h9⟩ := goC_st P Q xs s' h4 fun z hz => h z (by simp [hz])
    refine ⟨y :: ys, s2, ?_, h7, by simp [h8], ?_⟩
    · simp only [goC, h1, h2, h3, Rs.bind_ok, if_true, h6]
    · intro z hz
      rcases List.mem_cons.mp hz with rfl | hz
      · exact h5
      · exact h9 z hz
theorem goC2_flat {bd : D → Option MEnv} {inner : MEnv → Sto → Rs (List D)} {s : Sto} (f : D → List D) : ∀ (xs : List D), (∀ x ∈ xs, ∃ e, bd x = some e ∧ inner e s = .ok (f x) s) → goC2 bd inner xs s = .ok (xs.flatMap f) s
  | [], _ => rfl
  | x :: xs, h => by
    obtain ⟨e, h1, h2⟩ := h x (by simp)
    simp only [goC2, h1, h2, Rs.bind_ok, goC2_flat f xs fun y hy => h y (by simp [hy]), List.flatMap_cons]

/-! ### data -/
theorem intsOf_map (l : List Int) : intsOf (l.map D.int) = some l := by
  induction l with
  | nil => rfl
  | cons a l ih => simp [intsOf, ih]
theorem blsOf_map (l : List Bool) : blsOf (l.map D.bl) = some l := by
  induction l with
  | nil => rfl
  | cons a l ih => simp [blsOf, ih]
theorem lenOk_of {n : Nat} (h : n ≤ 16777216) : lenOk n = true := by
  unfold lenOk
  rw [show sizeLine = 16777216 from rfl]
  exact decide_eq_true h
theorem atI_of {α : Type} {xs : List α} {i : Nat} {x : α} (h : xs[i]? = some x) : L2.atI xs (i : Int) = some x := by
  have hi := (List.getElem?_eq_some_iff.mp h).1
  unfold L2.atI L2.ixN
  simp [hi]
  exact (List.getElem?_eq_some_iff.mp h).2
theorem rngD_eq (n : Nat) : ∀ lo : Int, rngD lo n = (List.range n).map fun i => D.int (lo + (i : Nat)) := by
  induction n with
  | zero => intro lo; rfl
  | succ n ih =>
    intro lo
    rw [rngD, ih, List.range_succ_eq_map]
    simp only [List.map_cons, List.map_map]
    congr 1
    · simp
    · apply List.map_congr_left
      intro a _
      simp; omega
end Mi
namespace Mi
open PySem PySem.Spec
theorem for_inv {F : Cl} {tg : Tgt} {it : CI} {b : CSs} {env : MEnv} {s s1 : Sto} {xs : List D} (P : Nat → MEnv → Sto → Prop) (hi : evI F it env s = .ok xs s1) (h0 : P 0 (frzI env it) s1)
    (hs : ∀ i x env s, xs[i]? = some x → P i env s → ∃ env1 env2 s2, bindT tg x env = some env1 ∧ evSs F b env1 s = .ok (.nx env2) s2 ∧ P (i + 1) env2 s2) : ∃ env' s', evS F (.forr tg it b) env s = .ok (.nx env') s' ∧ P xs.length env' s' := by
  obtain ⟨env', s', h1, h2⟩ := goFor_inv (bd := fun x e => bindT tg x e) (body := fun e s => evSs F b e s) P xs 0 (frzI env it) s1 h0 fun i x env s hx hp => by
    rw [Nat.zero_add] at hp ⊢
    exact hs i x env s hx hp
  refine ⟨env', s', ?_, by rwa [Nat.zero_add] at h2⟩
  simp only [evS, hi, Rs.bind_ok]
  exact h1
theorem comp_filter {F : Cl} {tg : Tgt} {it : CI} {ifs : CTs} {elt : CE} {own : List Nat} {env : MEnv} {s s1 : Sto} {xs : List D} (p : D → Bool) (f : D → D) (hi : evI F it env s = .ok xs s1) (hl : xs.length ≤ 16777216)
    (h : ∀ x ∈ xs, ∃ e, bindT tg x (wipeE env own) = some e ∧ evIfs F ifs e s1 = .ok (p x) s1 ∧ (p x = true → bor e elt = false ∧ evE F elt e s1 = .ok (f x) s1)) : evE F (.comp tg it ifs elt own) env s = .ok (.lst ((xs.filter p).map f)) s1 := by
  have hg := goC_filter (bd := fun x => bindT tg x (wipeE env own)) (cond := fun e s => evIfs F ifs e s) (elt := fun e s => if bor e elt then .no else evE F elt e s) (s := s1) p f xs fun x hx => by
    obtain ⟨e, h1, h2, h3⟩ := h x hx
    exact ⟨e, h1, h2, fun hp => by simp only [(h3 hp).1, Bool.false_eq_true, if_false]; exact (h3 hp).2⟩
  simp only [evE, hi, Rs.bind_ok, hg, Rs.still_ok]
  rw [if_pos (lenOk_of (by rw [List.length_map]; exact Nat.le_trans (List.length_filter_le _ _) hl))]
theorem comp_map {F : Cl} {tg : Tgt} {it : CI} {elt : CE} {own : List Nat} {env : MEnv} {s s1 : Sto} {xs : List D} (f : D → D) (hi : evI F it env s = .ok xs s1) (hl : xs.length ≤ 16777216)
    (h : ∀ x ∈ xs, ∃ e, bindT tg x (wipeE env own) = some e ∧ bor e elt = false ∧ evE F elt e s1 = .ok (f x) s1) : evE F (.comp tg it .nil elt own) env s = .ok (.lst (xs.map f)) s1 := by
  have := comp_filter (p := fun _ => true) (ifs := .nil) f hi hl fun x hx => by
    obtain ⟨e, h1, h2, h3⟩ := h x hx
    exact ⟨e, h1, rfl, fun _ => ⟨h2, h3⟩⟩
  rwa [List.filter_eq_self.mpr fun _ _ => rfl] at this
theorem comp_st {F : Cl} {tg : Tgt} {it : CI} {elt : CE} {own : List Nat} {env : MEnv} {s s1 : Sto} {xs : List D} (P : Sto → Prop) (Q : D → Prop) (hi : evI F it env s = .ok xs s1) (hl : xs.length ≤ 16777216) (h0 : P s1)
    (h : ∀ x ∈ xs, ∀ s, P s → ∃ e y s', bindT tg x (wipeE env own) = some e ∧ bor e elt = false ∧ evE F elt e s = .ok y s' ∧ P s' ∧ Q y) :
    ∃ ys s', evE F (.comp tg it .nil elt own) env s = .ok (.lst ys) s' ∧ P s' ∧ ys.length = xs.length ∧ ∀ y ∈ ys, Q y := by
  obtain ⟨ys, s', h1, h2, h3, h4⟩ := goC_st (bd := fun x => bindT tg x (wipeE env own)) (cond := fun e s => evIfs F .nil e s) (elt := fun e s => if bor e elt then .no else evE F elt e s) P Q xs s1 h0 fun x hx s hp => by
    obtain ⟨e, y, s', k1, k2, k3, k4, k5⟩ := h x hx s hp
    exact ⟨e, y, s', k1, rfl, by simp only [k2, Bool.false_eq_true, if_false]; exact k3, k4, k5⟩
  refine ⟨ys, s', ?_, h2, h3, h4⟩
  simp only [evE, hi, Rs.bind_ok, h1, Rs.still_ok]
  rw [if_pos (lenOk_of (by rw [h3]; exact hl))]
theorem comp2_flat {F : Cl} {tg tg2 : Tgt} {it it2 : CI} {elt : CE} {own own2 : List Nat} {env : MEnv} {s s1 : Sto} {xs : List D} (g : D → List D) (f : D → D → D) (hi : evI F it env s = .ok xs s1) (hl : (xs.flatMap fun x => (g x).map (f x)).length ≤ 16777216)
    (h : ∀ x ∈ xs, ∃ e, bindT tg x (wipeE env own) = some e ∧ evI F it2 e s1 = .ok (g x) s1 ∧ ∀ y ∈ g x, ∃ e2, bindT tg2 y (wipeE e own2) = some e2 ∧ bor e2 elt = false ∧ evE F elt e2 s1 = .ok (f x y) s1) :
    evE F (.comp2 tg it tg2 it2 .nil elt own own2) env s = .ok (.lst (xs.flatMap fun x => (g x).map (f x))) s1 := by
  have hg := goC2_flat (bd := fun x => bindT tg x (wipeE env own)) (inner := fun e s => (evI F it2 e s).bind fun xs2 s2 => goC (fun x => bindT tg2 x (wipeE e own2)) (fun e s => evIfs F .nil e s) (fun e s => if bor e elt then .no else evE F elt e s) xs2 s2) (s := s1)
    (fun x => (g x).map (f x)) xs fun x hx => by
      obtain ⟨e, h1, h2, h3⟩ := h x hx
      refine ⟨e, h1, ?_⟩
      simp only [h2, Rs.bind_ok]
      refine goC_map (f x) (g x) fun y hy => ?_
      obtain ⟨e2, k1, k2, k3⟩ := h3 y hy
      exact ⟨e2, k1, rfl, by simp only [k2, Bool.false_eq_true, if_false]; exact k3⟩
  simp only [evE, hi, Rs.bind_ok, hg, Rs.still_ok]
  rw [if_pos (lenOk_of hl)]
end Mi
namespace Mi
open PySem PySem.Spec
@[simp] theorem eqD_int (s : Sto) (i j : Int) : eqD s (.int i) (.int j) = some (decide (i = j)) := by
  simp [eqD, deref, D.plain, D.eqv]
  rfl
@[simp] theorem eqD_bl (s : Sto) (i j : Bool) : eqD s (.bl i) (.bl j) = some (i == j) := by
  simp [eqD, deref, D.plain, D.eqv]
theorem eqvs_nil (xs : List D) : D.eqvs xs [] = xs.isEmpty := by
  cases xs <;> rfl
theorem eqD_nil (s : Sto) (xs : List D) (h : xs.all (D.plain 59) = true) : eqD s (.lst xs) (.lst []) = some xs.isEmpty := by
  simp only [eqD, deref, D.plain, h, List.all_nil, Bool.and_self, if_true, D.eqv, eqvs_nil]
@[simp] theorem lenOk0 : lenOk 0 = true := by decide
@[simp] theorem lenOk1 : lenOk 1 = true := by decide
@[simp] theorem lenOk2 : lenOk 2 = true := by decide
@[simp] theorem lenOk3 : lenOk 3 = true := by decide
@[simp] theorem lenOk4 : lenOk 4 = true := by decide
end Mi
namespace Mi
theorem two62 : (2 : Int) ^ 62 = 4611686018427387904 := by decide +kernel
theorem two64 : (2 : Int) ^ 64 = 18446744073709551616 := by decide +kernel
theorem i62_small (i : Int) (h : -1000000000000000000 ≤ i ∧ i ≤ 1000000000000000000) : i62 i = true := by
  unfold i62
  have e : (2 : Nat) ^ 62 = 4611686018427387904 := by decide +kernel
  rw [e]
  simp only [decide_eq_true_eq]
  omega
theorem i64_of (i : Int) (h : -1000000000000000000 ≤ i ∧ i ≤ 1000000000000000000) : i64 i = true := by
  unfold i64
  have e : (2 : Nat) ^ 64 = 18446744073709551616 := by decide +kernel
  rw [e]
  simp only [decide_eq_true_eq]
  omega
end Mi
/-! H1: runs of the language as plain functions: words for them, and when a block is such a function. -/
namespace Mi
open PySem PySem.Spec

/-- how long a while loop may go on -/
def FUEL : Nat := 1000000
/-- a whole number that is not negative -/
def nat (n : Nat) : D := .int (n : Int)

/-! ### words for expressions -/
def tupR (xs : List D) (s : Sto) : Rs D := if lenOk xs.length then .ok (.tup xs) s else .no
def lstR (xs : List D) (s : Sto) : Rs D := if lenOk xs.length then .ok (.lst xs) s else .no
def tupSR (d : D) (ys : List D) (s : Sto) : Rs D := match d with
  | .tup xs => if lenOk (xs.length + ys.length) then .ok (.tup (xs ++ ys)) s else .no
  | .lst xs => if lenOk (xs.length + ys.length) then .ok (.tup (xs ++ ys)) s else .no
  | _ => .no
def binR (op : Operator) (x y : D) (s : Sto) : Rs D := Rs.of (binD op s x y) s
def negR (x : D) (s : Sto) : Rs D := match x with
  | .int i => .ok (.int (-i)) s
  | _ => .no
def notR (x : D) (s : Sto) : Rs D := match x with
  | .bl b => .ok (.bl (!b)) s
  | _ => .no
def cmpR (op : CmpOp) (x y : D) (s : Sto) : Rs D := (Rs.of (cmpD op s x y) s).bind fun c s1 => .ok (.bl c) s1
def blR (x : D) (s : Sto) : Rs Bool := match x with
  | .bl b => .ok b s
  | _ => .no
def andK (x : D) (s : Sto) (r : Rs Bool) : Rs Bool := match x with
  | .bl b => if b then r else .ok false s
  | _ => .no
def orK (x : D) (s : Sto) (r : Rs Bool) : Rs Bool := match x with
  | .bl b => if b then .ok true s else r
  | _ => .no
def subR (x y : D) (s : Sto) : Rs D := Rs.of (subD s x y) s
def slcR (x : D) (l h : Option Int) (s : Sto) : Rs D := match deref s x with
  | .lst xs => .ok (.lst (cutD xs l h)) s
  | .tup xs => .ok (.tup (cutD xs l h)) s
  | _ => .no
def optI (x : D) (s : Sto) : Rs (Option Int) := match x with
  | .int i => .ok (some i) s
  | _ => .no
def bfnR (f : BF) (xs : List D) (s : Sto) : Rs D := Rs.of (bfnD f s xs) s
def isiR (ts : List Ty) (x : D) (s : Sto) : Rs D := (Rs.of (isiAny s x ts) s).bind fun b s1 => .ok (.bl b) s1
def heapR (x : D) (s : Sto) : Rs D := match x with
  | .lst xs => .ok (.ref s.length) (s ++ [.lst xs])
  | _ => .no
def truR (x : D) (s : Sto) : Rs Bool := Rs.of (truD s x) s
def seqR (x : D) (s : Sto) : Rs (List D) := match x with
  | .tup xs => .ok xs s
  | .lst xs => .ok xs s
  | _ => .no
def rng1R (x : D) (s : Sto) : Rs (List D) := match x with
  | .int i => if i62 i then .ok (rngD 0 i.toNat) s else .no
  | _ => .no
def rng2R (x y : D) (s : Sto) : Rs (List D) := match x, y with
  | .int i, .int j => if i62 i && i62 j then .ok (rngD i (j - i).toNat) s else .no
  | _, _ => .no
def enumR (x : D) (s : Sto) : Rs (List D) := match x with
  | .lst xs => .ok (enumD 0 xs) s
  | .tup xs => .ok (enumD 0 xs) s
  | _ => .no
def zip2R (x y : D) (s : Sto) : Rs (List D) := match x, y with
  | .lst xs, .lst ys => .ok (zipD xs ys) s
  | _, _ => .no
def zipSR (x : D) (s : Sto) : Rs (List D) := match x with
  | .lst xs => match tupsOf xs with
    | some (ys :: yss) => if decide (yss.length < 1000) && yss.all (fun zs => zs.length == ys.length) then .ok (zipSD (ys :: yss)) s else .no
    | _ => .no
  | .tup xs => match tupsOf xs with
    | some (ys :: yss) => if decide (yss.length < 1000) && yss.all (fun zs => zs.length == ys.length) then .ok (zipSD (ys :: yss)) s else .no
    | _ => .no
  | _ => .no
def tup2 {α : Type} (x : D) (g : D → D → Rs α) : Rs α := match x with
  | .tup [a, b] => g a b
  | _ => .no
def tup3 {α : Type} (x : D) (g : D → D → D → Rs α) : Rs α := match x with
  | .tup [a, b, c] => g a b c
  | _ => .no
def tup4 {α : Type} (x : D) (g : D → D → D → D → Rs α) : Rs α := match x with
  | .tup [a, b, c, d] => g a b c d
  | _ => .no
/-- a comprehension without tests -/
def mapL (f : D → Sto → Rs D) : List D → Sto → Rs (List D)
  | [], s => .ok [] s
  | x :: xs, s => (f x s).bind fun y s1 => (mapL f xs s1).bind fun ys s2 => .ok (y :: ys) s2
def mapR (f : D → Sto → Rs D) (xs : List D) (s : Sto) : Rs D := (mapL f xs s).still.bind lstR
/-- .. with a test: the element, or none of it -/
def filL (f : D → Sto → Rs (Option D)) : List D → Sto → Rs (List D)
  | [], s => .ok [] s
  | x :: xs, s => (f x s).bind fun o s1 => match o with
    | some y => (filL f xs s1).bind fun ys s2 => .ok (y :: ys) s2
    | none => filL f xs s1
def filR (f : D → Sto → Rs (Option D)) (xs : List D) (s : Sto) : Rs D := (filL f xs s).still.bind lstR
def fmL (f : D → Sto → Rs (List D)) : List D → Sto → Rs (List D)
  | [], s => .ok [] s
  | x :: xs, s => (f x s).bind fun ys s1 => (fmL f xs s1).bind fun zs s2 => .ok (ys ++ zs) s2
def fmR (f : D → Sto → Rs (List D)) (xs : List D) (s : Sto) : Rs D := (fmL f xs s).still.bind lstR
/-- a dict, a sorted set -/
def dctL (tk : Bool) (f : D → Sto → Rs (D × D)) : List D → List D → List D → Sto → Rs (List D × List D)
  | [], ks, vs, s => .ok (ks, vs) s
  | x :: xs, ks, vs, s => (f x s).bind fun p s1 => if keyOk tk p.1 && lenOk (ks.length + 1) then dctL tk f xs (putKs ks vs p.1 p.2).1 (putKs ks vs p.1 p.2).2 s1 else .no
def dctR (tk : Bool) (f : D → Sto → Rs (D × D)) (xs : List D) (s : Sto) : Rs D := (dctL tk f xs [] [] s).still.bind fun p s2 => .ok (.dct tk p.1 p.2) s2
def ssortR (f : D → Sto → Rs D) (xs : List D) (s : Sto) : Rs D := (mapL f xs s).still.bind fun ys s2 => Rs.of (ssortD ys) s2
/-- the test and the element of a turn -/
def keepR (t : Rs Bool) (f : Sto → Rs D) : Rs (Option D) := t.bind fun b s => if b then (f s).bind fun y s1 => .ok (some y) s1 else .ok none s
def bindK {α : Type} (o : Option MEnv) (k : MEnv → Rs α) : Rs α := match o with
  | some e => k e
  | none => .no
theorem bt_2 {α : Type} {t1 t2 : Tgt} {x : D} {env : MEnv} {k : MEnv → Rs α} {g : D → D → Rs α} (h : ∀ a b, bindK (bindT t1 a env) (fun e1 => bindK (bindT t2 b e1) k) = g a b) : bindK (bindT (.tp (.cons t1 (.cons t2 .nil))) x env) k = tup2 x g := by
  cases x <;> try rfl
  rename_i xs
  match xs with
  | [] => rfl
  | [a] =>
    simp only [bindT, bindTs, tup2]
    cases bindT t1 a env <;> rfl
  | [a, b] =>
    simp only [bindT, bindTs, tup2, ← h]
    cases bindT t1 a env with
    | none => rfl
    | some e =>
      simp only [Option.bind_some, bindK]
      cases bindT t2 b e <;> rfl
  | a :: b :: c :: r =>
    simp only [bindT, bindTs, tup2]
    cases bindT t1 a env with
    | none => rfl
    | some e =>
      simp only [Option.bind_some]
      cases bindT t2 b e <;> rfl
theorem bt_3 {α : Type} {t1 t2 t3 : Tgt} {x : D} {env : MEnv} {k : MEnv → Rs α} {g : D → D → D → Rs α} (h : ∀ a b c, bindK (bindT t1 a env) (fun e1 => bindK (bindT t2 b e1) fun e2 => bindK (bindT t3 c e2) k) = g a b c) : bindK (bindT (.tp (.cons t1 (.cons t2 (.cons t3 .nil)))) x env) k = tup3 x g := by
  cases x <;> try rfl
  rename_i xs
  match xs with
  | [] => rfl
  | [a] =>
    simp only [bindT, bindTs, tup3]
    cases bindT t1 a env <;> rfl
  | [a, b] =>
    simp only [bindT, bindTs, tup3]
    cases bindT t1 a env with
    | none => rfl
    | some e =>
      simp only [Option.bind_some]
      cases bindT t2 b e <;> rfl
  | [a, b, c] =>
    simp only [bindT, bindTs, tup3, ← h]
    cases bindT t1 a env with
    | none => rfl
    | some e =>
      simp only [Option.bind_some, bindK]
      cases bindT t2 b e with
      | none => rfl
      | some e2 =>
        simp only [Option.bind_some]
        cases bindT t3 c e2 <;> rfl
  | a :: b :: c :: d :: r =>
    simp only [bindT, bindTs, tup3]
    cases bindT t1 a env with
    | none => rfl
    | some e =>
      simp only [Option.bind_some]
      cases bindT t2 b e with
      | none => rfl
      | some e2 =>
        simp only [Option.bind_some]
        cases bindT t3 c e2 <;> rfl
section
variable {F : Cl} {env : MEnv} {s : Sto}
theorem goC_mapL {bd : D → Option MEnv} {elt : MEnv → Sto → Rs D} {f : D → Sto → Rs D} (h : ∀ x s, bindK (bd x) (fun e => elt e s) = f x s) : ∀ (xs : List D) (s : Sto), goC bd (fun e s => evIfs F .nil e s) elt xs s = mapL f xs s
  | [], s => rfl
  | x :: xs, s => by
    rw [goC, mapL, ← h]
    cases bd x with
    | none => rfl
    | some e =>
      simp only [evIfs, Rs.bind_ok, if_true, bindK]
      congr 1
      funext y s1
      have ih := goC_mapL h xs s1
      simp only [evIfs] at ih
      rw [ih]
theorem goC_filL {bd : D → Option MEnv} {cond : MEnv → Sto → Rs Bool} {elt : MEnv → Sto → Rs D} {f : D → Sto → Rs (Option D)} (h : ∀ x s, bindK (bd x) (fun e => keepR (cond e s) fun s => elt e s) = f x s) : ∀ (xs : List D) (s : Sto), goC bd cond elt xs s = filL f xs s
  | [], s => rfl
  | x :: xs, s => by
    rw [goC, filL, ← h]
    cases bd x with
    | none => rfl
    | some e =>
      simp only [bindK, keepR]
      cases cond e s with
      | ok b s1 =>
        cases b with
        | true =>
          simp only [Rs.bind_ok, if_true]
          cases elt e s1 with
          | ok y s2 => simp only [Rs.bind_ok]; rw [goC_filL h xs s2]
          | exc c fs s2 => rfl
          | no => rfl
        | false => simp only [Rs.bind_ok, Bool.false_eq_true, if_false]; exact goC_filL h xs s1
      | exc c fs s1 => rfl
      | no => rfl
theorem goC2_fmL {bd : D → Option MEnv} {inner : MEnv → Sto → Rs (List D)} {f : D → Sto → Rs (List D)} (h : ∀ x s, bindK (bd x) (fun e => inner e s) = f x s) : ∀ (xs : List D) (s : Sto), goC2 bd inner xs s = fmL f xs s
  | [], s => rfl
  | x :: xs, s => by
    rw [goC2, fmL, ← h]
    cases bd x with
    | none => rfl
    | some e =>
      simp only [bindK]
      congr 1
      funext y s1
      rw [goC2_fmL h xs s1]
theorem comp_sh {tg : Tgt} {it : CI} {elt : CE} {own : List Nat} {IE : Rs (List D)} {f : D → Sto → Rs D} (hI : evI F it env s = IE) (h : ∀ x s, bindK (bindT tg x (wipeE env own)) (fun e => if bor e elt then .no else evE F elt e s) = f x s) :
    evE F (.comp tg it .nil elt own) env s = IE.bind (mapR f) := by
  simp only [evE, hI]
  congr 1
  funext xs s1
  rw [mapR, ← goC_mapL (F := F) (bd := fun x => bindT tg x (wipeE env own)) (elt := fun e s => if bor e elt then .no else evE F elt e s) h xs s1]
  rfl
theorem compf_sh {tg : Tgt} {it : CI} {ifs : CTs} {elt : CE} {own : List Nat} {IE : Rs (List D)} {f : D → Sto → Rs (Option D)} (hI : evI F it env s = IE) (h : ∀ x s, bindK (bindT tg x (wipeE env own)) (fun e => keepR (evIfs F ifs e s) fun s => if bor e elt then .no else evE F elt e s) = f x s) :
    evE F (.comp tg it ifs elt own) env s = IE.bind (filR f) := by
  simp only [evE, hI]
  congr 1
  funext xs s1
  rw [filR, ← goC_filL (bd := fun x => bindT tg x (wipeE env own)) (cond := fun e s => evIfs F ifs e s) (elt := fun e s => if bor e elt then .no else evE F elt e s) h xs s1]
  rfl
theorem comp2_sh {tg tg2 : Tgt} {it it2 : CI} {elt : CE} {own own2 : List Nat} {IE : Rs (List D)} {f : D → Sto → Rs (List D)} (hI : evI F it env s = IE) (h : ∀ x s, bindK (bindT tg x (wipeE env own)) (fun e => (evI F it2 e s).bind fun xs2 s2 =>
    goC (fun x => bindT tg2 x (wipeE e own2)) (fun e s => evIfs F .nil e s) (fun e s => if bor e elt then .no else evE F elt e s) xs2 s2) = f x s) :
    evE F (.comp2 tg it tg2 it2 .nil elt own own2) env s = IE.bind (fmR f) := by
  simp only [evE, hI]
  congr 1
  funext xs s1
  rw [fmR, ← goC2_fmL (bd := fun x => bindT tg x (wipeE env own)) (inner := fun e s => (evI F it2 e s).bind fun xs2 s2 => goC (fun x => bindT tg2 x (wipeE e own2)) (fun e s => evIfs F .nil e s) (fun e s => if bor e elt then .no else evE F elt e s) xs2 s2) h xs s1]
  rfl
theorem goD_dctL {tk : Bool} {bd : D → Option MEnv} {kv : MEnv → Sto → Rs (D × D)} {f : D → Sto → Rs (D × D)} (h : ∀ x s, bindK (bd x) (fun e => kv e s) = f x s) : ∀ (xs ks vs : List D) (s : Sto), goD tk bd kv xs ks vs s = dctL tk f xs ks vs s
  | [], ks, vs, s => rfl
  | x :: xs, ks, vs, s => by
    rw [goD, dctL, ← h]
    cases bd x with
    | none => rfl
    | some e =>
      simp only [bindK]
      congr 1
      funext p s1
      rw [goD_dctL h xs]
theorem dcomp_sh {tk : Bool} {tg : Tgt} {it : CI} {key val : CE} {own : List Nat} {IE : Rs (List D)} {f : D → Sto → Rs (D × D)} (hI : evI F it env s = IE)
    (h : ∀ x s, bindK (bindT tg x (wipeE env own)) (fun e => if bor e val then .no else (evE F key e s).bind fun k s2 => (evE F val e s2).bind fun v s3 => .ok (k, v) s3) = f x s) :
    evE F (.dcomp tk tg it key val own) env s = IE.bind (dctR tk f) := by
  simp only [evE, hI]
  congr 1
  funext xs s1
  rw [dctR, ← goD_dctL (bd := fun x => bindT tg x (wipeE env own)) (kv := fun e s => if bor e val then .no else (evE F key e s).bind fun k s2 => (evE F val e s2).bind fun v s3 => .ok (k, v) s3) h xs [] [] s1]
theorem ssort_sh {tg : Tgt} {it : CI} {elt : CE} {own : List Nat} {IE : Rs (List D)} {f : D → Sto → Rs D} (hI : evI F it env s = IE) (h : ∀ x s, bindK (bindT tg x (wipeE env own)) (fun e => if bor e elt then .no else evE F elt e s) = f x s) :
    evE F (.ssort tg it elt own) env s = IE.bind (ssortR f) := by
  simp only [evE, hI]
  congr 1
  funext xs s1
  have := goC_mapL (F := F) (bd := fun x => bindT tg x (wipeE env own)) (elt := fun e s => if bor e elt then .no else evE F elt e s) h xs s1
  simp only [evIfs] at this
  rw [ssortR, ← this]
theorem inner_sh {tg2 : Tgt} {it2 : CI} {elt : CE} {own2 : List Nat} {IE : Rs (List D)} {f : D → Sto → Rs D} (hI : evI F it2 env s = IE) (h : ∀ x s, bindK (bindT tg2 x (wipeE env own2)) (fun e => if bor e elt then .no else evE F elt e s) = f x s) :
    ((evI F it2 env s).bind fun xs2 s2 => goC (fun x => bindT tg2 x (wipeE env own2)) (fun e s => evIfs F .nil e s) (fun e s => if bor e elt then .no else evE F elt e s) xs2 s2) = IE.bind (mapL f) := by
  rw [hI]
  congr 1
  funext xs s1
  exact goC_mapL (F := F) (bd := fun x => bindT tg2 x (wipeE env own2)) (elt := fun e s => if bor e elt then .no else evE F elt e s) h xs s1
end

/-! ### words for statements -/
inductive O3 (σ : Type) where
  | nx (st : σ) | bk (st : σ) | rt (d : D)
inductive O2 (σ : Type) where
  | nx (st : σ) | rt (d : D)
def optK {α β : Type} (o : Option α) (k : α → Rs β) : Rs β := match o with
  | some a => k a
  | none => .no
def appD (v d : D) : Option D := match v with
  | .lst xs => if lenOk (xs.length + 1) then some (.lst (xs ++ [d])) else none
  | _ => none
/-- append to, store into a list of the store -/
def appHS (x d : D) (s : Sto) : Option Sto := match x with
  | .ref n => match s[n]? with
    | some (.lst xs) => if lenOk (xs.length + 1) then some (s.set n (.lst (xs ++ [d]))) else none
    | _ => none
  | _ => none
def setHS (x k v : D) (s : Sto) : Option Sto := match x with
  | .ref n => match s[n]? with
    | some (.lst xs) => match putD (.lst xs) k v with
      | some (.lst ys) => some (s.set n (.lst ys))
      | _ => none
    | _ => none
  | _ => none
def loopR {σ : Type} (step : D → σ → Sto → Rs (O3 σ)) : List D → σ → Sto → Rs (O2 σ)
  | [], st, s => .ok (.nx st) s
  | x :: xs, st, s => (step x st s).bind fun o s1 => match o with
    | .nx st1 => loopR step xs st1 s1
    | .bk st1 => .ok (.nx st1) s1
    | .rt d => .ok (.rt d) s1
def whR {σ : Type} (cond : σ → Sto → Rs Bool) (step : σ → Sto → Rs (O3 σ)) : Nat → σ → Sto → Rs (O2 σ)
  | 0, _, _ => .no
  | n + 1, st, s => (cond st s).bind fun b s1 => if b then (step st s1).bind fun o s2 => match o with
      | .nx st2 => whR cond step n st2 s2
      | .bk st2 => .ok (.nx st2) s2
      | .rt d => .ok (.rt d) s2
    else .ok (.nx st) s1
def o2K {σ τ : Type} (r : Rs (O2 σ)) (g : σ → Sto → Rs (O3 τ)) : Rs (O3 τ) := r.bind fun o s => match o with
  | .nx st => g st s
  | .rt d => .ok (.rt d) s
def retK (q : Rs (O3 Unit)) : Rs D := q.bind fun o s => match o with
  | .nx _ => .ok .non s
  | .rt d => .ok d s
  | .bk _ => .no

/-! ### when a block is such a function -/
def Sim {σ : Type} (b : Bool) (R : σ → MEnv → Prop) (r : Rs Out) (q : Rs (O3 σ)) : Prop := match q with
  | .ok (.nx st) s => ∃ env, r = .ok (.nx env) s ∧ R st env
  | .ok (.bk st) s => ∃ env, r = .ok (.bk env) s ∧ R st env
  | .ok (.rt d) s => ∃ fr, r = .ok (.rt fr d) s ∧ (b = true → fr = true)
  | .exc c fs s => r = .exc c fs s
  | .no => r = .no
def Sim2 {σ : Type} (b : Bool) (R : σ → MEnv → Prop) (r : Rs Out) (q : Rs (O2 σ)) : Prop := match q with
  | .ok (.nx st) s => ∃ env, r = .ok (.nx env) s ∧ R st env
  | .ok (.rt d) s => ∃ fr, r = .ok (.rt fr d) s ∧ (b = true → fr = true)
  | .exc c fs s => r = .exc c fs s
  | .no => r = .no
/-- one block behind another -/
def CSs.app : CSs → CSs → CSs
  | .nil, c => c
  | .cons a b, c => .cons a (b.app c)
  | .frz i b, c => .frz i (b.app c)
section
variable {F : Cl} {env : MEnv} {s : Sto} {σ τ : Type} {b : Bool} {R : σ → MEnv → Prop} {cs : CSs}
def seqO (r : Rs Out) (k : MEnv → Sto → Rs Out) : Rs Out := r.bind fun o s1 => match o with
  | .nx e => k e s1
  | o => .ok o s1
theorem evSs_cons (c : CS) : evSs F (.cons c cs) env s = seqO (evS F c env s) (fun e s1 => evSs F cs e s1) := by
  simp only [evSs, seqO]
  all_goals congr 1
theorem seqO_assoc (r : Rs Out) (f g : MEnv → Sto → Rs Out) : seqO (seqO r f) g = seqO r fun e s => seqO (f e s) g := by
  cases r with
  | ok o s => cases o <;> rfl
  | exc c fs s => rfl
  | no => rfl
theorem seqO_nx (r : Rs Out) : seqO r (fun e s1 => evSs F .nil e s1) = r := by
  cases r with
  | ok o s => cases o <;> rfl
  | exc c fs s => rfl
  | no => rfl
theorem evSs_app : ∀ (a : CSs) (env : MEnv) (s : Sto), evSs F (a.app cs) env s = seqO (evSs F a env s) (fun e s1 => evSs F cs e s1)
  | .nil, env, s => rfl
  | .cons c a, env, s => by
    rw [CSs.app, evSs_cons, evSs_cons, seqO_assoc]
    congr 1
    funext e s1
    exact evSs_app a e s1
  | .frz i a, env, s => by
    rw [CSs.app]
    show evSs F (a.app cs) (frzE env i) s = seqO (evSs F a (frzE env i) s) _
    exact evSs_app a _ s
theorem Sim.bind {α : Type} {e : Rs α} {f : α → Sto → Rs Out} {g : α → Sto → Rs (O3 σ)} (h : ∀ a s, Sim b R (f a s) (g a s)) : Sim b R (e.bind f) (e.bind g) := by
  cases e with
  | ok a s => exact h a s
  | exc c fs s => rfl
  | no => rfl
theorem sim_nil {st : σ} (h : R st env) : Sim b R (evSs F .nil env s) (.ok (.nx st) s) := ⟨env, rfl, h⟩
theorem sim_frz {i : Nat} {q : Rs (O3 σ)} (h : Sim b R (evSs F cs (frzE env i) s) q) : Sim b R (evSs F (.frz i cs) env s) q := h
theorem sim_asg {i : Nat} {e : CE} {E : Rs D} {g : D → Sto → Rs (O3 σ)} (hE : evE F e env s = E) (hb : bor env e = false) (hi : i < env.length) (h : ∀ d s1, Sim b R (evSs F cs (env.set i (some (false, d))) s1) (g d s1)) :
    Sim b R (evSs F (.cons (.asg (.nm i) e) cs) env s) (E.bind g) := by
  rw [evSs_cons]
  simp only [evS, hb, Bool.false_eq_true, if_false, hE, bindT, hi, if_true]
  cases E with
  | ok d s1 => exact h d s1
  | exc c fs s1 => rfl
  | no => rfl
theorem sim_asgT {tg : Tgt} {e : CE} {E : Rs D} {g : D → Sto → Rs (O3 σ)} (hE : evE F e env s = E) (hb : bor env e = false) (h : ∀ d s1, Sim b R (bindK (bindT tg d env) fun e1 => evSs F cs e1 s1) (g d s1)) :
    Sim b R (evSs F (.cons (.asg tg e) cs) env s) (E.bind g) := by
  rw [evSs_cons]
  simp only [evS, hb, Bool.false_eq_true, if_false, hE]
  cases E with
  | ok d s1 =>
    have := h d s1
    simp only [Rs.bind_ok]
    cases hT : bindT tg d env with
    | none => rw [hT] at this; exact this
    | some e1 => rw [hT] at this; exact this
  | exc c fs s1 => rfl
  | no => rfl
theorem sim_bind {o : Option MEnv} {k : MEnv → Rs Out} {q r : Rs (O3 σ)} : Sim b R (bindK o k) q → q = r → Sim b R (bindK o k) r := fun h e => e ▸ h
theorem sim_tup2 {t1 t2 : Tgt} {x : D} {k : MEnv → Rs Out} {g : D → D → Rs (O3 σ)} (h : ∀ a c, Sim b R (bindK (bindT t1 a env) fun e1 => bindK (bindT t2 c e1) k) (g a c)) : Sim b R (bindK (bindT (.tp (.cons t1 (.cons t2 .nil))) x env) k) (tup2 x g) := by
  rw [bt_2 (g := fun a c => bindK (bindT t1 a env) fun e1 => bindK (bindT t2 c e1) k) fun _ _ => rfl]
  cases x <;> try rfl
  rename_i xs
  match xs with
  | [] => rfl
  | [a] => rfl
  | [a, c] => exact h a c
  | a :: c :: d :: r => rfl
theorem sim_tup3 {t1 t2 t3 : Tgt} {x : D} {k : MEnv → Rs Out} {g : D → D → D → Rs (O3 σ)} (h : ∀ a c d, Sim b R (bindK (bindT t1 a env) fun e1 => bindK (bindT t2 c e1) fun e2 => bindK (bindT t3 d e2) k) (g a c d)) : Sim b R (bindK (bindT (.tp (.cons t1 (.cons t2 (.cons t3 .nil)))) x env) k) (tup3 x g) := by
  rw [bt_3 (g := fun a c d => bindK (bindT t1 a env) fun e1 => bindK (bindT t2 c e1) fun e2 => bindK (bindT t3 d e2) k) fun _ _ _ => rfl]
  cases x <;> try rfl
  rename_i xs
  match xs with
  | [] => rfl
  | [a] => rfl
  | [a, c] => rfl
  | [a, c, d] => exact h a c d
  | a :: c :: d :: e :: r => rfl
theorem sim_asgO {i : Nat} {e : CE} {E : Rs D} {g : D → Sto → Rs (O3 σ)} (hE : evE F e env s = E) (hf : fresh F e = true) (hi : i < env.length) (h : ∀ d s1, Sim b R (evSs F cs (env.set i (some (true, d))) s1) (g d s1)) :
    Sim b R (evSs F (.cons (.asgO i e) cs) env s) (E.bind g) := by
  rw [evSs_cons]
  simp only [evS, hf, hi, decide_true, Bool.and_self, if_true, hE]
  cases E with
  | ok d s1 => exact h d s1
  | exc c fs s1 => rfl
  | no => rfl
theorem sim_par {oi oj : Bool} {i j : Nat} {x y : CE} {E1 : Rs D} {E2 : Sto → Rs D} {g : D → D → Sto → Rs (O3 σ)} (h1 : evE F x env s = E1) (h2 : ∀ s1, evE F y env s1 = E2 s1)
    (hc : (((!oi && !bor env x) || (oi && fresh F x)) && ((!oj && !bor env y) || (oj && fresh F y)) && decide (i < env.length) && decide (j < env.length)) = true)
    (h : ∀ d1 d2 s1, Sim b R (evSs F cs ((env.set i (some (oi, d1))).set j (some (oj, d2))) s1) (g d1 d2 s1)) :
    Sim b R (evSs F (.cons (.par oi i oj j x y) cs) env s) (E1.bind fun d1 s1 => (E2 s1).bind fun d2 s2 => g d1 d2 s2) := by
  rw [evSs_cons]
  simp only [evS, hc, if_true, h1]
  cases E1 with
  | ok d s1 =>
    simp only [Rs.bind_ok, h2]
    cases E2 s1 with
    | ok d2 s2 => exact h d d2 s2
    | exc c fs s1 => rfl
    | no => rfl
  | exc c fs s1 => rfl
  | no => rfl
theorem sim_app {i : Nat} {e : CE} {v : D} {E : Rs D} {g : D → Sto → Rs (O3 σ)} (hE : evE F e env s = E) (hb : bor env e = false) (hv : env[i]? = some (some (true, v))) (h : ∀ w s1, Sim b R (evSs F cs (env.set i (some (true, w))) s1) (g w s1)) :
    Sim b R (evSs F (.cons (.app i e) cs) env s) (E.bind fun d s1 => optK (appD v d) fun w => g w s1) := by
  rw [evSs_cons]
  simp only [evS, hb, Bool.false_eq_true, if_false, hE, hv]
  cases E with
  | ok d s1 =>
    simp only [Rs.bind_ok]
    cases v <;> try rfl
    rename_i xs
    simp only [appD]
    by_cases hl : lenOk (xs.length + 1) = true
    · simp only [hl, if_true, optK]
      exact h _ s1
    · simp only [hl, if_false, optK]
      rfl
  | exc c fs s1 => rfl
  | no => rfl
theorem sim_seti {i : Nat} {k e : CE} {v : D} {E : Rs D} {EK : Sto → Rs D} {g : D → Sto → Rs (O3 σ)} (hE : evE F e env s = E) (hK : ∀ s1, evE F k env s1 = EK s1) (hb : bor env e = false) (hb2 : bor env k = false) (hv : env[i]? = some (some (true, v))) (h : ∀ w s1, Sim b R (evSs F cs (env.set i (some (true, w))) s1) (g w s1)) :
    Sim b R (evSs F (.cons (.seti i k e) cs) env s) (E.bind fun d s1 => (EK s1).bind fun kd s2 => optK (putD v kd d) fun w => g w s2) := by
  rw [evSs_cons]
  simp only [evS, hb, hb2, Bool.or_self, Bool.false_eq_true, if_false, hE, hv]
  cases E with
  | ok d s1 =>
    simp only [Rs.bind_ok, hK]
    cases EK s1 with
    | ok kd s2 =>
      simp only [Rs.bind_ok]
      cases putD v kd d with
      | none => rfl
      | some w => exact h w s2
    | exc c fs s1 => rfl
    | no => rfl
  | exc c fs s1 => rfl
  | no => rfl
theorem sim_appH {o e : CE} {EO : Rs D} {E : Sto → Rs D} {g : Sto → Rs (O3 σ)} (hO : evE F o env s = EO) (hE : ∀ s1, evE F e env s1 = E s1) (hb : bor env e = false) (h : ∀ s1, Sim b R (evSs F cs env s1) (g s1)) :
    Sim b R (evSs F (.cons (.appH o e) cs) env s) (EO.bind fun x s1 => (E s1).bind fun d s2 => optK (appHS x d s2) g) := by
  rw [evSs_cons]
  simp only [evS, hb, Bool.false_eq_true, if_false, hO]
  cases EO with
  | ok x s1 =>
    simp only [Rs.bind_ok, hE]
    cases E s1 with
    | ok d s2 =>
      simp only [Rs.bind_ok]
      cases x <;> try rfl
      rename_i n
      simp only [appHS]
      cases s2[n]? with
      | none => rfl
      | some m =>
        cases m with
        | lst xs =>
          simp only
          by_cases hl : lenOk (xs.length + 1) = true
          · simp only [hl, if_true, optK]
            exact h _
          · simp only [hl, if_false, optK]
            rfl
        | ins _ _ => rfl
    | exc c fs s1 => rfl
    | no => rfl
  | exc c fs s1 => rfl
  | no => rfl
theorem sim_setH {o k e : CE} {E : Rs D} {EO EK : Sto → Rs D} {g : Sto → Rs (O3 σ)} (hE : evE F e env s = E) (hO : ∀ s1, evE F o env s1 = EO s1) (hK : ∀ s1, evE F k env s1 = EK s1) (hb : bor env e = false) (h : ∀ s1, Sim b R (evSs F cs env s1) (g s1)) :
    Sim b R (evSs F (.cons (.setH o k e) cs) env s) (E.bind fun v s1 => (EO s1).bind fun x s2 => (EK s2).bind fun kd s3 => optK (setHS x kd v s3) g) := by
  rw [evSs_cons]
  simp only [evS, hb, Bool.false_eq_true, if_false, hE]
  cases E with
  | ok v s1 =>
    simp only [Rs.bind_ok, hO]
    cases EO s1 with
    | ok x s2 =>
      simp only [Rs.bind_ok, hK]
      cases EK s2 with
      | ok kd s3 =>
        simp only [Rs.bind_ok]
        cases x <;> try rfl
        rename_i n
        simp only [setHS]
        cases s3[n]? with
        | none => rfl
        | some m =>
          cases m with
          | lst xs =>
            simp only
            cases putD (.lst xs) kd v with
            | none => rfl
            | some w => cases w <;> first | rfl | exact h _
          | ins _ _ => rfl
      | exc c fs s1 => rfl
      | no => rfl
    | exc c fs s1 => rfl
    | no => rfl
  | exc c fs s1 => rfl
  | no => rfl
theorem sim_expr {e : CE} {E : Rs D} {g : Sto → Rs (O3 σ)} (hE : evE F e env s = E) (h : ∀ s1, Sim b R (evSs F cs env s1) (g s1)) : Sim b R (evSs F (.cons (.expr e) cs) env s) (E.bind fun _ s1 => g s1) := by
  rw [evSs_cons]
  simp only [evS, hE]
  cases E with
  | ok d s1 => exact h s1
  | exc c fs s1 => rfl
  | no => rfl
theorem sim_ite {c : CT} {x y : CSs} {TE : Rs Bool} {g1 g2 : Sto → Rs (O3 σ)} (hT : evT F c env s = TE) (h1 : ∀ s1, Sim b R (evSs F (x.app cs) env s1) (g1 s1)) (h2 : ∀ s1, Sim b R (evSs F (y.app cs) env s1) (g2 s1)) :
    Sim b R (evSs F (.cons (.ite c x y) cs) env s) (TE.bind fun k s1 => if k then g1 s1 else g2 s1) := by
  rw [evSs_cons]
  simp only [evS, hT]
  cases TE with
  | ok k s1 =>
    cases k with
    | true => have := h1 s1; rw [evSs_app] at this; exact this
    | false => have := h2 s1; rw [evSs_app] at this; exact this
  | exc c fs s1 => rfl
  | no => rfl
theorem sim_ret {e : CE} {E : Rs D} (hE : evE F e env s = E) (hb : bor env e = false) (hf : b = true → fresh F e = true) : Sim b R (evSs F (.cons (.ret e) cs) env s) (E.bind fun d s1 => .ok (.rt d) s1) := by
  rw [evSs_cons]
  simp only [evS, hb, Bool.false_eq_true, if_false, hE]
  cases E with
  | ok d s1 => exact ⟨_, rfl, hf⟩
  | exc c fs s1 => rfl
  | no => rfl
theorem sim_retO {i : Nat} {v : D} (hv : env[i]? = some (some (true, v))) : Sim b R (evSs F (.cons (.retO i) cs) env s) (.ok (.rt v) s) := by
  rw [evSs_cons]
  simp only [evS, hv]
  exact ⟨true, rfl, fun _ => rfl⟩
theorem sim_retN : Sim b R (evSs F (.cons .retN cs) env s) (.ok (.rt .non) s) := ⟨true, rfl, fun _ => rfl⟩
theorem sim_brk {st : σ} (h : R st env) : Sim b R (evSs F (.cons .brk cs) env s) (.ok (.bk st) s) := ⟨env, rfl, h⟩
theorem sim_raise {c : Nat} {es : CEs} {E : Rs (List D)} (hE : evEs F es env s = E) (hb : bors env es = false) : Sim b R (evSs F (.cons (.raise c es) cs) env s) (E.bind fun xs s1 => .exc c xs s1) := by
  rw [evSs_cons]
  simp only [evS, hb, Bool.false_eq_true, if_false, hE]
  cases E with
  | ok d s1 => rfl
  | exc c fs s1 => rfl
  | no => rfl
theorem sim_loop {tg : Tgt} {body : CSs} {step : D → σ → Sto → Rs (O3 σ)} (hb : ∀ x st e s, R st e → Sim b R (bindK (bindT tg x e) fun e1 => evSs F body e1 s) (step x st s)) : ∀ (xs : List D) (st : σ) (e : MEnv) (s : Sto), R st e →
    Sim2 b R (goFor (fun x e => bindT tg x e) (fun e s => evSs F body e s) xs e s) (loopR step xs st s)
  | [], st, e, s, h => ⟨e, rfl, h⟩
  | x :: xs, st, e, s, h => by
    have q := hb x st e s h
    rw [goFor, loopR]
    generalize step x st s = z at q
    cases z with
    | ok o s1 =>
      cases o with
      | nx st1 =>
        obtain ⟨e1, q1, q2⟩ := q
        have ih := sim_loop hb xs st1 e1 s1 q2
        cases hT : bindT tg x e with
        | none => rw [hT] at q1; cases q1
        | some e2 =>
          rw [hT] at q1
          have q1 : evSs F body e2 s = _ := q1
          simp only [q1, Rs.bind_ok]
          exact ih
      | bk st1 =>
        obtain ⟨e1, q1, q2⟩ := q
        cases hT : bindT tg x e with
        | none => rw [hT] at q1; cases q1
        | some e2 =>
          rw [hT] at q1
          have q1 : evSs F body e2 s = _ := q1
          simp only [q1, Rs.bind_ok]
          exact ⟨e1, rfl, q2⟩
      | rt d =>
        obtain ⟨fr, q1, q2⟩ := q
        cases hT : bindT tg x e with
        | none => rw [hT] at q1; cases q1
        | some e2 =>
          rw [hT] at q1
          have q1 : evSs F body e2 s = _ := q1
          simp only [q1, Rs.bind_ok]
          exact ⟨fr, rfl, q2⟩
    | exc c fs s1 =>
      have q : bindK (bindT tg x e) _ = _ := q
      cases hT : bindT tg x e with
      | none => rw [hT] at q; cases q
      | some e2 =>
        rw [hT] at q
        have q : evSs F body e2 s = _ := q
        simp only [q, Rs.bind_exc]
        rfl
    | no =>
      have q : bindK (bindT tg x e) _ = _ := q
      cases hT : bindT tg x e with
      | none => rfl
      | some e2 =>
        rw [hT] at q
        have q : evSs F body e2 s = _ := q
        simp only [q, Rs.bind_no]
        rfl
theorem sim_wh {c : CT} {body : CSs} {cond : σ → Sto → Rs Bool} {step : σ → Sto → Rs (O3 σ)} (hc : ∀ st e s, R st e → evT F c e s = cond st s) (hb : ∀ st e s, R st e → Sim b R (evSs F body e s) (step st s)) : ∀ (n : Nat) (st : σ) (e : MEnv) (s : Sto), R st e →
    Sim2 b R (goWh (fun e s => evT F c e s) (fun e s => evSs F body e s) n e s) (whR cond step n st s)
  | 0, st, e, s, h => rfl
  | n + 1, st, e, s, h => by
    rw [goWh, whR, hc st e s h]
    cases cond st s with
    | ok k s1 =>
      cases k with
      | false => exact ⟨e, rfl, h⟩
      | true =>
        simp only [Rs.bind_ok, if_true]
        have q := hb st e s1 h
        generalize step st s1 = z at q
        cases z with
        | ok o s2 =>
          cases o with
          | nx st1 =>
            obtain ⟨e1, q1, q2⟩ := q
            simp only [q1, Rs.bind_ok]
            exact sim_wh hc hb n st1 e1 s2 q2
          | bk st1 =>
            obtain ⟨e1, q1, q2⟩ := q
            simp only [q1, Rs.bind_ok]
            exact ⟨e1, rfl, q2⟩
          | rt d =>
            obtain ⟨fr, q1, q2⟩ := q
            simp only [q1, Rs.bind_ok]
            exact ⟨fr, rfl, q2⟩
        | exc c fs s2 =>
          have q : evSs F body e s1 = _ := q
          simp only [q, Rs.bind_exc]
          rfl
        | no =>
          have q : evSs F body e s1 = _ := q
          simp only [q, Rs.bind_no]
          rfl
    | exc c fs s1 => rfl
    | no => rfl
theorem sim_o2 {Q : τ → MEnv → Prop} {r : Rs Out} {q : Rs (O2 σ)} {g : σ → Sto → Rs (O3 τ)} (h : Sim2 b R r q) (hk : ∀ st e s, R st e → Sim b Q (evSs F cs e s) (g st s)) : Sim b Q (seqO r fun e s1 => evSs F cs e s1) (o2K q g) := by
  cases q with
  | ok o s1 =>
    cases o with
    | nx st =>
      obtain ⟨e, rfl, h2⟩ := h
      exact hk st e s1 h2
    | rt d =>
      obtain ⟨fr, rfl, h2⟩ := h
      exact ⟨fr, rfl, h2⟩
  | exc c fs s1 =>
    have h : r = _ := h
    subst h; rfl
  | no =>
    have h : r = _ := h
    subst h; rfl
theorem sim_for {Q : τ → MEnv → Prop} {tg : Tgt} {it : CI} {body : CSs} {IE : Rs (List D)} {st0 : σ} {step : D → σ → Sto → Rs (O3 σ)} {g : σ → Sto → Rs (O3 τ)} (R : σ → MEnv → Prop) (hI : evI F it env s = IE) (h0 : R st0 (frzI env it))
    (hb : ∀ x st e s, R st e → Sim b R (bindK (bindT tg x e) fun e1 => evSs F body e1 s) (step x st s)) (hk : ∀ st e s, R st e → Sim b Q (evSs F cs e s) (g st s)) :
    Sim b Q (evSs F (.cons (.forr tg it body) cs) env s) (IE.bind fun xs s1 => o2K (loopR step xs st0 s1) g) := by
  rw [evSs_cons]
  simp only [evS, hI]
  cases IE with
  | ok xs s1 => exact sim_o2 (sim_loop hb xs st0 _ s1 h0) hk
  | exc c fs s1 => rfl
  | no => rfl
theorem sim_whil {Q : τ → MEnv → Prop} {c : CT} {body : CSs} {n : Nat} {st0 : σ} {cond : σ → Sto → Rs Bool} {step : σ → Sto → Rs (O3 σ)} {g : σ → Sto → Rs (O3 τ)} (R : σ → MEnv → Prop) (h0 : R st0 env) (hc : ∀ st e s, R st e → evT F c e s = cond st s)
    (hb : ∀ st e s, R st e → Sim b R (evSs F body e s) (step st s)) (hk : ∀ st e s, R st e → Sim b Q (evSs F cs e s) (g st s)) :
    Sim b Q (evSs F (.cons (.whil n c body) cs) env s) (o2K (whR cond step n st0 s) g) := by
  rw [evSs_cons]
  exact sim_o2 (sim_wh hc hb n st0 env s h0) hk
end
theorem call_sim {T : Tab} {f k : Nat} {fn : Fn} {xs : List D} {s : Sto} {q : Rs (O3 Unit)} (h : T f = some fn) (hl : xs.length = fn.ps)
    (hs : Sim fn.fresh (fun _ _ => True) (evSs (clOf T k) fn.body (xs.map (fun d => some (false, d)) ++ List.replicate (fn.ns - fn.ps) none) s) q) : callF T (k + 1) f xs s = retK q := by
  rw [callF_eq h hl]
  cases q with
  | ok o s1 =>
    cases o with
    | nx st =>
      obtain ⟨e, h1, _⟩ := hs
      rw [h1]
      rfl
    | bk st =>
      obtain ⟨e, h1, _⟩ := hs
      rw [h1]
      rfl
    | rt d =>
      obtain ⟨fr, h1, h2⟩ := hs
      rw [h1]
      have : (fn.fresh && !fr) = false := by
        cases hf : fn.fresh with
        | false => rfl
        | true => rw [h2 hf]; rfl
      simp only [Rs.bind_ok, this, retK]
      rfl
  | exc c fs s1 =>
    have hs : _ = _ := hs
    rw [hs]; rfl
  | no =>
    have hs : _ = _ := hs
    rw [hs]; rfl
end Mi
/-! H2: the words on numbers, tuples and lists. -/
namespace Mi
open PySem PySem.Spec

/-! ### data -/
def tN (l : List Nat) : D := .tup (l.map nat)
def lN (l : List Nat) : D := .lst (l.map nat)
/-- rows -/
def tR (r : List (List Nat)) : D := .tup (r.map tN)
def lR (r : List (List Nat)) : D := .lst (r.map tN)
def eOp (n : Nat) (tbl : List Nat) : D := .tup [nat n, tN tbl]
def eRel (a : Nat) (r : List (List Nat)) : D := .tup [nat a, tR r]
theorem nat_i (n : Nat) : nat n = .int n := rfl
theorem nat_inj {a b : Nat} : nat a = nat b ↔ a = b := by
  simp only [nat, D.int.injEq]; omega
@[simp] theorem plain_nat (k n : Nat) : D.plain k (nat n) = true := by cases k <;> rfl
@[simp] theorem eqv_nat (a b : Nat) : D.eqv (nat a) (nat b) = decide (a = b) := by
  simp only [nat, D.eqv]
  by_cases h : a = b
  · subst h; simp
  · have : ¬ ((a : Int) = b) := by omega
    simp [h, this]
@[simp] theorem deref_nat (s : Sto) (n : Nat) : deref s (nat n) = nat n := rfl
@[simp] theorem deref_int (s : Sto) (n : Int) : deref s (.int n) = .int n := rfl
@[simp] theorem deref_bl (s : Sto) (b : Bool) : deref s (.bl b) = .bl b := rfl
@[simp] theorem deref_non (s : Sto) : deref s .non = .non := rfl
@[simp] theorem deref_str (s : Sto) (x : Str) : deref s (.str x) = .str x := rfl
@[simp] theorem deref_tup (s : Sto) (l : List D) : deref s (.tup l) = .tup l := rfl
@[simp] theorem deref_lst (s : Sto) (l : List D) : deref s (.lst l) = .lst l := rfl
@[simp] theorem deref_dct (s : Sto) (t : Bool) (k v : List D) : deref s (.dct t k v) = .dct t k v := rfl
@[simp] theorem deref_tN (s : Sto) (l : List Nat) : deref s (tN l) = tN l := rfl
@[simp] theorem deref_tR (s : Sto) (l : List (List Nat)) : deref s (tR l) = tR l := rfl
@[simp] theorem deref_eOp (s : Sto) (n : Nat) (l : List Nat) : deref s (eOp n l) = eOp n l := rfl
@[simp] theorem deref_eRel (s : Sto) (n : Nat) (l : List (List Nat)) : deref s (eRel n l) = eRel n l := rfl
theorem eqvs_nats : ∀ (a b : List Nat), D.eqvs (a.map nat) (b.map nat) = decide (a = b)
  | [], [] => by simp [D.eqvs]
  | [], _ :: _ => by simp [D.eqvs]
  | _ :: _, [] => by simp [D.eqvs]
  | x :: a, y :: b => by
    simp only [List.map_cons, D.eqvs, eqv_nat, eqvs_nats a b, List.cons.injEq]
    by_cases h : x = y <;> simp [h]
@[simp] theorem eqv_tN (a b : List Nat) : D.eqv (tN a) (tN b) = decide (a = b) := eqvs_nats a b
theorem eqvs_rows : ∀ (a b : List (List Nat)), D.eqvs (a.map tN) (b.map tN) = decide (a = b)
  | [], [] => by simp [D.eqvs]
  | [], _ :: _ => by simp [D.eqvs]
  | _ :: _, [] => by simp [D.eqvs]
  | x :: a, y :: b => by
    simp only [List.map_cons, D.eqvs, eqv_tN, eqvs_rows a b, List.cons.injEq]
    by_cases h : x = y <;> simp [h]
@[simp] theorem eqv_tR (a b : List (List Nat)) : D.eqv (tR a) (tR b) = decide (a = b) := eqvs_rows a b
@[simp] theorem plain_tN (k : Nat) (l : List Nat) : D.plain (k + 1) (tN l) = true := by
  simp [tN, D.plain]
@[simp] theorem plain_tR (k : Nat) (l : List (List Nat)) : D.plain (k + 2) (tR l) = true := by
  simp [tR, D.plain]
@[simp] theorem plain_lR (k : Nat) (l : List (List Nat)) : D.plain (k + 2) (lR l) = true := by
  simp [lR, D.plain]

/-! ### how runs go on -/
theorem bind_assoc {α β γ : Type} (r : Rs α) (f : α → Sto → Rs β) (g : β → Sto → Rs γ) : (r.bind f).bind g = r.bind fun a s => (f a s).bind g := by cases r <;> rfl
theorem bind_ite {α β : Type} (c : Prop) [Decidable c] (a b : Rs α) (f : α → Sto → Rs β) : (if c then a else b).bind f = if c then a.bind f else b.bind f := by split <;> rfl
@[simp] theorem retK_rt (d : D) (s : Sto) : retK (.ok (.rt d) s) = .ok d s := rfl
@[simp] theorem retK_nx (u : Unit) (s : Sto) : retK (.ok (.nx u) s) = .ok .non s := rfl
@[simp] theorem retK_exc (c : Nat) (fs : List D) (s : Sto) : retK (.exc c fs s) = .exc c fs s := rfl
theorem retK_bind {α : Type} (r : Rs α) (f : α → Sto → Rs (O3 Unit)) : retK (r.bind f) = r.bind fun a s => retK (f a s) := by cases r <;> rfl
theorem retK_ite (c : Prop) [Decidable c] (a b : Rs (O3 Unit)) : retK (if c then a else b) = if c then retK a else retK b := by split <;> rfl
@[simp] theorem o2K_nx {σ τ : Type} (st : σ) (s : Sto) (g : σ → Sto → Rs (O3 τ)) : o2K (.ok (.nx st) s) g = g st s := rfl
@[simp] theorem o2K_rt {σ τ : Type} (d : D) (s : Sto) (g : σ → Sto → Rs (O3 τ)) : o2K (.ok (.rt d) s) g = .ok (.rt d) s := rfl
@[simp] theorem optK_some {α β : Type} (a : α) (k : α → Rs β) : optK (some a) k = k a := rfl
@[simp] theorem tup2_of {α : Type} (a b : D) (g : D → D → Rs α) : tup2 (.tup [a, b]) g = g a b := rfl
@[simp] theorem tup3_of {α : Type} (a b c : D) (g : D → D → D → Rs α) : tup3 (.tup [a, b, c]) g = g a b c := rfl
@[simp] theorem blR_bl (b : Bool) (s : Sto) : blR (.bl b) s = .ok b s := rfl
@[simp] theorem andK_bl (b : Bool) (s : Sto) (r : Rs Bool) : andK (.bl b) s r = if b then r else .ok false s := rfl
@[simp] theorem orK_bl (b : Bool) (s : Sto) (r : Rs Bool) : orK (.bl b) s r = if b then .ok true s else r := rfl
@[simp] theorem notR_bl (b : Bool) (s : Sto) : notR (.bl b) s = .ok (.bl (!b)) s := rfl
@[simp] theorem truR_bl (b : Bool) (s : Sto) : truR (.bl b) s = .ok b s := rfl
@[simp] theorem optI_nat (n : Nat) (s : Sto) : optI (nat n) s = .ok (some (n : Int)) s := rfl
@[simp] theorem keepR_t (f : Sto → Rs D) (s : Sto) : keepR (.ok true s) f = (f s).bind fun y s1 => .ok (some y) s1 := rfl
@[simp] theorem keepR_f (f : Sto → Rs D) (s : Sto) : keepR (.ok false s) f = .ok none s := rfl

/-! ### numbers -/
@[simp] theorem bin_add (a b : Nat) (s : Sto) : binR .Add (nat a) (nat b) s = .ok (nat (a + b)) s := by
  simp [binR, binD, nat]
@[simp] theorem bin_sub (a b : Nat) (s : Sto) : binR .Sub (nat a) (nat b) s = .ok (.int ((a : Int) - b)) s := rfl
theorem bin_subN {a b : Nat} (h : b ≤ a) (s : Sto) : binR .Sub (nat a) (nat b) s = .ok (nat (a - b)) s := by
  rw [bin_sub, nat, show ((a - b : Nat) : Int) = a - b by omega]
theorem bin_mul {a b : Nat} (h : b ≤ 1000000000) (s : Sto) : binR .Mult (nat a) (nat b) s = .ok (nat (a * b)) s := by
  have : i64 (b : Int) = true := i64_of _ (by omega)
  simp [binR, binD, nat, this]
theorem bin_mod {a b : Nat} (h : 1 ≤ b) (s : Sto) : binR .Mod (nat a) (nat b) s = .ok (nat (a % b)) s := by
  have h0 : b ≠ 0 := by omega
  simp [binR, binD, nat, h0]
  rw [Int.fmod_eq_emod_of_nonneg _ (by omega)]
theorem bin_div {a b : Nat} (h : 1 ≤ b ∧ b ≤ 1000000000) (s : Sto) : binR .FloorDiv (nat a) (nat b) s = .ok (nat (a / b)) s := by
  have h0 : b ≠ 0 := by omega
  have h1 : b < 1073741824 := by omega
  simp [binR, binD, nat, h0, h1]
  rw [Int.fdiv_eq_ediv_of_nonneg _ (by omega)]
@[simp] theorem cmp_lt (a b : Nat) (s : Sto) : cmpR .Lt (nat a) (nat b) s = .ok (.bl (decide (a < b))) s := by simp [cmpR, cmpD, nat]
@[simp] theorem cmp_le (a b : Nat) (s : Sto) : cmpR .LtE (nat a) (nat b) s = .ok (.bl (decide (a ≤ b))) s := by simp [cmpR, cmpD, nat]
@[simp] theorem cmp_gt (a b : Nat) (s : Sto) : cmpR .Gt (nat a) (nat b) s = .ok (.bl (decide (b < a))) s := by simp [cmpR, cmpD, nat]
@[simp] theorem cmp_ge (a b : Nat) (s : Sto) : cmpR .GtE (nat a) (nat b) s = .ok (.bl (decide (b ≤ a))) s := by simp [cmpR, cmpD, nat]
@[simp] theorem cmp_eq (a b : Nat) (s : Sto) : cmpR .Eq (nat a) (nat b) s = .ok (.bl (decide (a = b))) s := by simp [cmpR, cmpD, eqD]
@[simp] theorem cmp_ne (a b : Nat) (s : Sto) : cmpR .NotEq (nat a) (nat b) s = .ok (.bl (!decide (a = b))) s := by simp [cmpR, cmpD, eqD]
@[simp] theorem cmpD_le (a b : Nat) (s : Sto) : cmpD .LtE s (nat a) (nat b) = some (decide (a ≤ b)) := by simp [cmpD, nat]
@[simp] theorem cmpD_lt (a b : Nat) (s : Sto) : cmpD .Lt s (nat a) (nat b) = some (decide (a < b)) := by simp [cmpD, nat]
theorem cmp_le_i (i j : Int) (s : Sto) : cmpR .LtE (.int i) (.int j) s = .ok (.bl (decide (i ≤ j))) s := by simp [cmpR, cmpD]
@[simp] theorem cmp_le_ni (a : Nat) (j : Int) (s : Sto) : cmpR .LtE (nat a) (.int j) s = .ok (.bl (decide ((a : Int) ≤ j))) s := by simp [cmpR, cmpD, nat]
@[simp] theorem cmp_lt_ni (a : Nat) (j : Int) (s : Sto) : cmpR .Lt (nat a) (.int j) s = .ok (.bl (decide ((a : Int) < j))) s := by simp [cmpR, cmpD, nat]
@[simp] theorem cmp_gt_in (a : Nat) (j : Int) (s : Sto) : cmpR .Gt (.int j) (nat a) s = .ok (.bl (decide ((a : Int) < j))) s := by simp [cmpR, cmpD, nat]
@[simp] theorem cmp_ge_in (a : Nat) (j : Int) (s : Sto) : cmpR .GtE (.int j) (nat a) s = .ok (.bl (decide ((a : Int) ≤ j))) s := by simp [cmpR, cmpD, nat]
@[simp] theorem cmp_is_non (s : Sto) : cmpR .Is .non .non s = .ok (.bl true) s := rfl
@[simp] theorem cmp_is_nat (n : Nat) (s : Sto) : cmpR .Is (nat n) .non s = .ok (.bl false) s := rfl
@[simp] theorem cmp_is_tup (l : List D) (s : Sto) : cmpR .Is (.tup l) .non s = .ok (.bl false) s := rfl
@[simp] theorem cmp_is_tR (l : List (List Nat)) (s : Sto) : cmpR .Is (tR l) .non s = .ok (.bl false) s := rfl
@[simp] theorem cmp_is_eRel (n : Nat) (l : List (List Nat)) (s : Sto) : cmpR .Is (eRel n l) .non s = .ok (.bl false) s := rfl
@[simp] theorem cmp_isn_non (s : Sto) : cmpR .IsNot .non .non s = .ok (.bl false) s := rfl
@[simp] theorem cmp_isn_tup (l : List D) (s : Sto) : cmpR .IsNot (.tup l) .non s = .ok (.bl true) s := rfl
@[simp] theorem cmp_isn_tR (l : List (List Nat)) (s : Sto) : cmpR .IsNot (tR l) .non s = .ok (.bl true) s := rfl
@[simp] theorem cmp_isn_eRel (n : Nat) (l : List (List Nat)) (s : Sto) : cmpR .IsNot (eRel n l) .non s = .ok (.bl true) s := rfl
@[simp] theorem cmp_eq_lst0 (l : List D) (h : l.all (D.plain 59) = true) (s : Sto) : cmpR .Eq (.lst l) (.lst []) s = .ok (.bl l.isEmpty) s := by
  simp [cmpR, cmpD, eqD_nil s l h]
theorem cmp_ne_lst0 (l : List D) (h : l.all (D.plain 59) = true) (s : Sto) : cmpR .NotEq (.lst l) (.lst []) s = .ok (.bl (!l.isEmpty)) s := by
  simp [cmpR, cmpD, eqD_nil s l h]
@[simp] theorem cmp_eq_tN (a b : List Nat) (s : Sto) : cmpR .Eq (tN a) (tN b) s = .ok (.bl (decide (a = b))) s := by simp [cmpR, cmpD, eqD]
@[simp] theorem cmp_ne_tN (a b : List Nat) (s : Sto) : cmpR .NotEq (tN a) (tN b) s = .ok (.bl (!decide (a = b))) s := by simp [cmpR, cmpD, eqD]

/-! ### classes -/
@[simp] theorem isi1 (t : Ty) (d : D) (s : Sto) : isiR [t] d s = (Rs.of (isiD s d t) s).bind fun b s1 => .ok (.bl b) s1 := by
  simp only [isiR, isiAny]
  cases isiD s d t with
  | none => rfl
  | some b => cases b <;> rfl
@[simp] theorem isi2 (t u : Ty) (d : D) (s : Sto) : isiR [t, u] d s = (Rs.of ((isiD s d t).bind fun b => if b then some true else isiD s d u) s).bind fun b s1 => .ok (.bl b) s1 := by
  simp only [isiR, isiAny]
  cases isiD s d t with
  | none => rfl
  | some b =>
    cases b
    · simp only [Option.bind_some, Bool.false_eq_true, if_false]
      cases isiD s d u with
      | none => rfl
      | some c => cases c <;> rfl
    · rfl
@[simp] theorem isiD_nat (s : Sto) (n : Nat) (t : Ty) : isiD s (nat n) t = some (decide (t = .int)) := rfl
@[simp] theorem isiD_int (s : Sto) (n : Int) (t : Ty) : isiD s (.int n) t = some (decide (t = .int)) := rfl
@[simp] theorem isiD_bl (s : Sto) (b : Bool) (t : Ty) : isiD s (.bl b) t = some (decide (t = .bool) || decide (t = .int)) := rfl
@[simp] theorem isiD_non (s : Sto) (t : Ty) : isiD s .non t = some false := rfl
@[simp] theorem isiD_str (s : Sto) (x : Str) (t : Ty) : isiD s (.str x) t = some (decide (t = .str)) := rfl
@[simp] theorem isiD_tup (s : Sto) (l : List D) (t : Ty) : isiD s (.tup l) t = some (decide (t = .tuple)) := rfl
@[simp] theorem isiD_lst (s : Sto) (l : List D) (t : Ty) : isiD s (.lst l) t = some (decide (t = .list)) := rfl
@[simp] theorem isiD_tN (s : Sto) (l : List Nat) (t : Ty) : isiD s (tN l) t = some (decide (t = .tuple)) := rfl
@[simp] theorem isiD_tR (s : Sto) (l : List (List Nat)) (t : Ty) : isiD s (tR l) t = some (decide (t = .tuple)) := rfl
@[simp] theorem isiD_eOp (s : Sto) (n : Nat) (l : List Nat) (t : Ty) : isiD s (eOp n l) t = some (decide (t = .tuple)) := rfl
@[simp] theorem isiD_eRel (s : Sto) (n : Nat) (l : List (List Nat)) (t : Ty) : isiD s (eRel n l) t = some (decide (t = .tuple)) := rfl

/-! ### tuples, lists -/
theorem tup_ok {l : List D} (h : l.length ≤ 16777216) (s : Sto) : tupR l s = .ok (.tup l) s := by
  unfold tupR; rw [if_pos (lenOk_of h)]
theorem lst_ok {l : List D} (h : l.length ≤ 16777216) (s : Sto) : lstR l s = .ok (.lst l) s := by
  unfold lstR; rw [if_pos (lenOk_of h)]
@[simp] theorem tup0_ok (s : Sto) : tupR [] s = .ok (.tup []) s := tup_ok (by decide) s
@[simp] theorem tup1_ok (a : D) (s : Sto) : tupR [a] s = .ok (.tup [a]) s := tup_ok (by show 1 ≤ 16777216; decide) s
@[simp] theorem tup2_ok (a b : D) (s : Sto) : tupR [a, b] s = .ok (.tup [a, b]) s := tup_ok (by show 2 ≤ 16777216; decide) s
@[simp] theorem tup3_ok (a b c : D) (s : Sto) : tupR [a, b, c] s = .ok (.tup [a, b, c]) s := tup_ok (by show 3 ≤ 16777216; decide) s
@[simp] theorem lst0_ok (s : Sto) : lstR [] s = .ok (.lst []) s := lst_ok (by decide) s
@[simp] theorem lst1_ok (a : D) (s : Sto) : lstR [a] s = .ok (.lst [a]) s := lst_ok (by show 1 ≤ 16777216; decide) s
@[simp] theorem lst2_ok (a b : D) (s : Sto) : lstR [a, b] s = .ok (.lst [a, b]) s := lst_ok (by show 2 ≤ 16777216; decide) s
@[simp] theorem lst3_ok (a b c : D) (s : Sto) : lstR [a, b, c] s = .ok (.lst [a, b, c]) s := lst_ok (by show 3 ≤ 16777216; decide) s
@[simp] theorem lst4_ok (a b c d : D) (s : Sto) : lstR [a, b, c, d] s = .ok (.lst [a, b, c, d]) s := lst_ok (by show 4 ≤ 16777216; decide) s
theorem tupS_ok {l r : List D} (h : l.length + r.length ≤ 16777216) (s : Sto) : tupSR (.tup l) r s = .ok (.tup (l ++ r)) s := by
  simp only [tupSR, lenOk_of h, if_true]
theorem cat_tup {l r : List D} (h : l.length + r.length ≤ 16777216) (s : Sto) : binR .Add (.tup l) (.tup r) s = .ok (.tup (l ++ r)) s := by
  simp [binR, binD, lenOk_of h]
theorem cat_lst {l r : List D} (h : l.length + r.length ≤ 16777216) (s : Sto) : binR .Add (.lst l) (.lst r) s = .ok (.lst (l ++ r)) s := by
  simp [binR, binD, lenOk_of h]
theorem app_ok {l : List D} (d : D) (h : l.length + 1 ≤ 16777216) : appD (.lst l) d = some (.lst (l ++ [d])) := by
  simp only [appD, lenOk_of h, if_true]
theorem sub_tup {l : List D} {i : Nat} {d : D} (h : l[i]? = some d) (s : Sto) : subR (.tup l) (nat i) s = .ok d s := by
  have : subD s (.tup l) (nat i) = some d := atI_of h
  simp [subR, this]
theorem sub_lst {l : List D} {i : Nat} {d : D} (h : l[i]? = some d) (s : Sto) : subR (.lst l) (nat i) s = .ok d s := by
  have : subD s (.lst l) (nat i) = some d := atI_of h
  simp [subR, this]
@[simp] theorem sub_t0 (a : D) (l : List D) (s : Sto) : subR (.tup (a :: l)) (nat 0) s = .ok a s := sub_tup rfl s
@[simp] theorem sub_t1 (a b : D) (l : List D) (s : Sto) : subR (.tup (a :: b :: l)) (nat 1) s = .ok b s := sub_tup rfl s
@[simp] theorem sub_t2 (a b c : D) (l : List D) (s : Sto) : subR (.tup (a :: b :: c :: l)) (nat 2) s = .ok c s := sub_tup rfl s
@[simp] theorem sub_op0 (n : Nat) (t : List Nat) (s : Sto) : subR (eOp n t) (nat 0) s = .ok (nat n) s := sub_tup rfl s
@[simp] theorem sub_op1 (n : Nat) (t : List Nat) (s : Sto) : subR (eOp n t) (nat 1) s = .ok (tN t) s := sub_tup rfl s
@[simp] theorem sub_rel0 (n : Nat) (t : List (List Nat)) (s : Sto) : subR (eRel n t) (nat 0) s = .ok (nat n) s := sub_tup rfl s
@[simp] theorem sub_rel1 (n : Nat) (t : List (List Nat)) (s : Sto) : subR (eRel n t) (nat 1) s = .ok (tR t) s := sub_tup rfl s
theorem sub_tN {l : List Nat} {i : Nat} (h : i < l.length) (s : Sto) : subR (tN l) (nat i) s = .ok (nat (l.getD i 0)) s := by
  refine sub_tup ?_ s
  rw [List.getElem?_map, List.getD_eq_getElem?_getD, List.getElem?_eq_getElem h]
  rfl
theorem sub_tR {l : List (List Nat)} {i : Nat} (h : i < l.length) (s : Sto) : subR (tR l) (nat i) s = .ok (tN (l.getD i [])) s := by
  refine sub_tup ?_ s
  rw [List.getElem?_map, List.getD_eq_getElem?_getD, List.getElem?_eq_getElem h]
  rfl
theorem sub_lR {l : List (List Nat)} {i : Nat} (h : i < l.length) (s : Sto) : subR (lR l) (nat i) s = .ok (tN (l.getD i [])) s := by
  refine sub_lst ?_ s
  rw [List.getElem?_map, List.getD_eq_getElem?_getD, List.getElem?_eq_getElem h]
  rfl
theorem sub_lm {α : Type} {e : α → D} {l : List α} {i : Nat} {a : α} (h : l[i]? = some a) (s : Sto) : subR (.lst (l.map e)) (nat i) s = .ok (e a) s := by
  refine sub_lst ?_ s
  rw [List.getElem?_map, h]; rfl
theorem sub_tm {α : Type} {e : α → D} {l : List α} {i : Nat} {a : α} (h : l[i]? = some a) (s : Sto) : subR (.tup (l.map e)) (nat i) s = .ok (e a) s := by
  refine sub_tup ?_ s
  rw [List.getElem?_map, h]; rfl

/-! ### built-in functions -/
@[simp] theorem len_tup (l : List D) (s : Sto) : bfnR .len [.tup l] s = .ok (nat l.length) s := rfl
@[simp] theorem len_lst (l : List D) (s : Sto) : bfnR .len [.lst l] s = .ok (nat l.length) s := rfl
@[simp] theorem len_dct (t : Bool) (k v : List D) (s : Sto) : bfnR .len [.dct t k v] s = .ok (nat k.length) s := rfl
@[simp] theorem len_scr (l : List Int) (s : Sto) : bfnR .len [.scr l] s = .ok (nat l.length) s := rfl
@[simp] theorem len_tN (l : List Nat) (s : Sto) : bfnR .len [tN l] s = .ok (nat l.length) s := by simp [tN]
@[simp] theorem len_tR (l : List (List Nat)) (s : Sto) : bfnR .len [tR l] s = .ok (nat l.length) s := by simp [tR]
@[simp] theorem len_lR (l : List (List Nat)) (s : Sto) : bfnR .len [lR l] s = .ok (nat l.length) s := by simp [lR]
@[simp] theorem len_eOp (n : Nat) (t : List Nat) (s : Sto) : bfnR .len [eOp n t] s = .ok (nat 2) s := rfl
@[simp] theorem len_eRel (n : Nat) (t : List (List Nat)) (s : Sto) : bfnR .len [eRel n t] s = .ok (nat 2) s := rfl
@[simp] theorem tuple_lst (l : List D) (s : Sto) : bfnR .tuple [.lst l] s = .ok (.tup l) s := rfl
@[simp] theorem tuple_tup (l : List D) (s : Sto) : bfnR .tuple [.tup l] s = .ok (.tup l) s := rfl
@[simp] theorem tuple_lN (l : List Nat) (s : Sto) : bfnR .tuple [lN l] s = .ok (tN l) s := rfl
@[simp] theorem tuple_lR (l : List (List Nat)) (s : Sto) : bfnR .tuple [lR l] s = .ok (tR l) s := rfl
@[simp] theorem list_tup (l : List D) (s : Sto) : bfnR .list [.tup l] s = .ok (.lst l) s := rfl
@[simp] theorem list_lst (l : List D) (s : Sto) : bfnR .list [.lst l] s = .ok (.lst l) s := rfl
@[simp] theorem list_tR (l : List (List Nat)) (s : Sto) : bfnR .list [tR l] s = .ok (lR l) s := rfl
@[simp] theorem int_nat (n : Nat) (s : Sto) : bfnR .int [nat n] s = .ok (nat n) s := rfl
@[simp] theorem int_int (n : Int) (s : Sto) : bfnR .int [.int n] s = .ok (.int n) s := rfl
@[simp] theorem all_bl (l : List Bool) (s : Sto) : bfnR .all [.lst (l.map .bl)] s = .ok (.bl (l.all id)) s := by
  simp [bfnR, bfnD, blsOf_map]
@[simp] theorem any_bl (l : List Bool) (s : Sto) : bfnR .any [.lst (l.map .bl)] s = .ok (.bl (l.any id)) s := by
  simp [bfnR, bfnD, blsOf_map]

theorem blsOf_mapP {α : Type} (p : α → Bool) (l : List α) : blsOf (l.map fun x => D.bl (p x)) = some (l.map p) := by
  induction l with
  | nil => rfl
  | cons a l ih => simp [blsOf, ih]
@[simp] theorem all_blP {α : Type} (p : α → Bool) (l : List α) (s : Sto) : bfnR .all [.lst (l.map fun x => D.bl (p x))] s = .ok (.bl (l.all p)) s := by
  simp [bfnR, bfnD, blsOf_mapP]
@[simp] theorem any_blP {α : Type} (p : α → Bool) (l : List α) (s : Sto) : bfnR .any [.lst (l.map fun x => D.bl (p x))] s = .ok (.bl (l.any p)) s := by
  simp [bfnR, bfnD, blsOf_mapP]

/-! ### what is walked -/
@[simp] theorem seq_tup (l : List D) (s : Sto) : seqR (.tup l) s = .ok l s := rfl
@[simp] theorem seq_lst (l : List D) (s : Sto) : seqR (.lst l) s = .ok l s := rfl
@[simp] theorem seq_tN (l : List Nat) (s : Sto) : seqR (tN l) s = .ok (l.map nat) s := rfl
@[simp] theorem seq_tR (l : List (List Nat)) (s : Sto) : seqR (tR l) s = .ok (l.map tN) s := rfl
@[simp] theorem seq_lR (l : List (List Nat)) (s : Sto) : seqR (lR l) s = .ok (l.map tN) s := rfl
theorem rngD_nat (n : Nat) : rngD 0 n = (List.range n).map nat := by
  rw [rngD_eq]
  apply List.map_congr_left
  intro a _
  simp [nat]
theorem rng1_nat {n : Nat} (h : n ≤ 1000000000) (s : Sto) : rng1R (nat n) s = .ok ((List.range n).map nat) s := by
  have : i62 (n : Int) = true := i62_small _ (by omega)
  simp [rng1R, nat, this]
  exact rngD_nat n
theorem rngD_from (a : Nat) : ∀ n, rngD (a : Int) n = (List.range' a n).map nat := by
  intro n
  induction n generalizing a with
  | zero => rfl
  | succ n ih =>
    rw [rngD, List.range'_succ, List.map_cons]
    congr 1
    have := ih (a + 1)
    rwa [show ((a + 1 : Nat) : Int) = (a : Int) + 1 by omega] at this
theorem rng2_nat {a b : Nat} (h : a ≤ 1000000000) (h2 : b ≤ 1000000000) (s : Sto) : rng2R (nat a) (nat b) s = .ok ((List.range' a (b - a)).map nat) s := by
  have h3 : i62 (a : Int) = true := i62_small _ (by omega)
  have h4 : i62 (b : Int) = true := i62_small _ (by omega)
  simp only [rng2R, nat, h3, h4, Bool.and_self, if_true]
  rw [show ((b : Int) - a).toNat = b - a by omega, rngD_from]

/-! ### comprehensions -/
theorem mapL_ok {α : Type} {e g : α → D} {f : D → Sto → Rs D} {s : Sto} : ∀ {l : List α}, (∀ a ∈ l, f (e a) s = .ok (g a) s) → mapL f (l.map e) s = .ok (l.map g) s
  | [], _ => rfl
  | a :: l, h => by
    rw [List.map_cons, mapL, h a (by simp), Rs.bind_ok, mapL_ok fun b hb => h b (by simp [hb])]
    rfl
theorem map_ok {α : Type} {e g : α → D} {f : D → Sto → Rs D} {s : Sto} {l : List α} (hl : l.length ≤ 16777216) (h : ∀ a ∈ l, f (e a) s = .ok (g a) s) : mapR f (l.map e) s = .ok (.lst (l.map g)) s := by
  rw [mapR, mapL_ok h, Rs.still_ok, Rs.bind_ok, lst_ok (by rw [List.length_map]; exact hl)]
theorem filL_ok {α : Type} {e g : α → D} {p : α → Bool} {f : D → Sto → Rs (Option D)} {s : Sto} : ∀ {l : List α}, (∀ a ∈ l, f (e a) s = .ok (if p a then some (g a) else none) s) → filL f (l.map e) s = .ok ((l.filter p).map g) s
  | [], _ => rfl
  | a :: l, h => by
    rw [List.map_cons, filL, h a (by simp), Rs.bind_ok]
    have ih := filL_ok (l := l) fun b hb => h b (by simp [hb])
    cases hp : p a with
    | true =>
      simp only [if_true, ih, Rs.bind_ok, List.filter_cons, hp, List.map_cons]
    | false =>
      simp only [Bool.false_eq_true, if_false, ih, List.filter_cons, hp]
theorem fil_ok {α : Type} {e g : α → D} (p : α → Bool) {f : D → Sto → Rs (Option D)} {s : Sto} {l : List α} (hl : l.length ≤ 16777216) (h : ∀ a ∈ l, f (e a) s = .ok (if p a then some (g a) else none) s) : filR f (l.map e) s = .ok (.lst ((l.filter p).map g)) s := by
  rw [filR, filL_ok h, Rs.still_ok, Rs.bind_ok, lst_ok (by rw [List.length_map]; exact Nat.le_trans (List.length_filter_le _ _) hl)]
theorem fmL_ok {α β : Type} {e : α → D} {g : α → List β} {e2 : β → D} {f : D → Sto → Rs (List D)} {s : Sto} : ∀ {l : List α}, (∀ a ∈ l, f (e a) s = .ok ((g a).map e2) s) → fmL f (l.map e) s = .ok ((l.flatMap g).map e2) s
  | [], _ => rfl
  | a :: l, h => by
    rw [List.map_cons, fmL, h a (by simp), Rs.bind_ok, fmL_ok fun b hb => h b (by simp [hb])]
    simp
theorem fm_ok {α β : Type} {e : α → D} {g : α → List β} {e2 : β → D} {f : D → Sto → Rs (List D)} {s : Sto} {l : List α} (hl : (l.flatMap g).length ≤ 16777216) (h : ∀ a ∈ l, f (e a) s = .ok ((g a).map e2) s) : fmR f (l.map e) s = .ok (.lst ((l.flatMap g).map e2)) s := by
  rw [fmR, fmL_ok h, Rs.still_ok, Rs.bind_ok, lst_ok (by rw [List.length_map]; exact hl)]
/-- one that changes the store -/
theorem mapL_st {α β : Type} {e : α → D} {e2 : β → D} {f : D → Sto → Rs D} (P : Sto → Prop) (Q : α → β → Prop) : ∀ {l : List α} {s : Sto}, P s → (∀ a ∈ l, ∀ s, P s → ∃ b s', f (e a) s = .ok (e2 b) s' ∧ P s' ∧ Q a b) →
    ∃ (r : List β) (s' : Sto), mapL f (l.map e) s = .ok (r.map e2) s' ∧ P s' ∧ r.length = l.length ∧ ∀ b ∈ r, ∃ a ∈ l, Q a b
  | [], s, h0, _ => ⟨[], s, rfl, h0, rfl, by simp⟩
  | a :: l, s, h0, h => by
    obtain ⟨b, s1, h1, h2, h3⟩ := h a (by simp) s h0
    obtain ⟨r, s2, h4, h5, h6, h7⟩ := mapL_st P Q (l := l) h2 fun c hc => h c (by simp [hc])
    refine ⟨b :: r, s2, ?_, h5, by simp [h6], fun c hc => ?_⟩
    · rw [List.map_cons, mapL, h1, Rs.bind_ok, h4]
      rfl
    · rcases List.mem_cons.mp hc with rfl | hc
      · exact ⟨a, by simp, h3⟩
      · obtain ⟨x, hx, q⟩ := h7 c hc
        exact ⟨x, by simp [hx], q⟩
theorem map_st {α β : Type} {e : α → D} {e2 : β → D} {f : D → Sto → Rs D} (P : Sto → Prop) (Q : α → β → Prop) {l : List α} {s : Sto} (hl : l.length ≤ 16777216) (h0 : P s) (h : ∀ a ∈ l, ∀ s, P s → ∃ b s', f (e a) s = .ok (e2 b) s' ∧ P s' ∧ Q a b) :
    ∃ (r : List β) (s' : Sto), mapR f (l.map e) s = .ok (.lst (r.map e2)) s' ∧ P s' ∧ r.length = l.length ∧ ∀ b ∈ r, ∃ a ∈ l, Q a b := by
  obtain ⟨r, s', h1, h2, h3, h4⟩ := mapL_st P Q h0 h
  refine ⟨r, s', ?_, h2, h3, h4⟩
  rw [mapR, h1, Rs.still_ok, Rs.bind_ok, lst_ok (by rw [List.length_map, h3]; exact hl)]

/-! ### loops -/
theorem loop_from {σ α : Type} {e : α → D} {step : D → σ → Sto → Rs (O3 σ)} {s : Sto} (F : Nat → σ) : ∀ (l : List α) (j : Nat), (∀ i a, l[i]? = some a → step (e a) (F (j + i)) s = .ok (.nx (F (j + i + 1))) s) → loopR step (l.map e) (F j) s = .ok (.nx (F (j + l.length))) s
  | [], j, _ => rfl
  | a :: l, j, h => by
    have h0 := h 0 a rfl
    have ih := loop_from F l (j + 1) fun i b hb => by
      have := h (i + 1) b hb
      rwa [show j + (i + 1) = j + 1 + i by omega] at this
    rw [List.map_cons, loopR]
    rw [Nat.add_zero] at h0
    rw [h0, Rs.bind_ok]
    show loopR step (l.map e) (F (j + 1)) s = _
    rw [ih, List.length_cons, show j + 1 + l.length = j + (l.length + 1) by omega]
/-- a loop whose state before turn i is F i -/
theorem loop_ok {σ α : Type} {e : α → D} {step : D → σ → Sto → Rs (O3 σ)} {s : Sto} {l : List α} {st : σ} (F : Nat → σ) (h0 : F 0 = st) (h : ∀ i a, l[i]? = some a → step (e a) (F i) s = .ok (.nx (F (i + 1))) s) : loopR step (l.map e) st s = .ok (.nx (F l.length)) s := by
  have := loop_from F l 0 (fun i a hi => by rw [Nat.zero_add]; exact h i a hi)
  rwa [Nat.zero_add, h0] at this
/-- a loop as a fold -/
theorem loop_fold {σ τ α : Type} {e : α → D} {E : τ → σ} {g : τ → α → τ} {step : D → σ → Sto → Rs (O3 σ)} {s : Sto} (P : τ → Prop) : ∀ {l : List α} {t : τ}, P t → (∀ a ∈ l, ∀ t, P t → step (e a) (E t) s = .ok (.nx (E (g t a))) s ∧ P (g t a)) →
    loopR step (l.map e) (E t) s = .ok (.nx (E (l.foldl g t))) s ∧ P (l.foldl g t)
  | [], t, h0, _ => ⟨rfl, h0⟩
  | a :: l, t, h0, h => by
    obtain ⟨h1, h2⟩ := h a (by simp) t h0
    rw [List.map_cons, loopR, h1, Rs.bind_ok]
    exact loop_fold P h2 fun b hb => h b (by simp [hb])
/-- a loop that may change the store, by what holds before each turn -/
theorem loop_inv {σ α : Type} {e : α → D} {step : D → σ → Sto → Rs (O3 σ)} (I : Nat → σ → Sto → Prop) : ∀ (l : List α) (j : Nat) (st : σ) (s : Sto), I j st s → (∀ i a st s, l[i]? = some a → I (j + i) st s → ∃ st' s', step (e a) st s = .ok (.nx st') s' ∧ I (j + i + 1) st' s') →
    ∃ st' s', loopR step (l.map e) st s = .ok (.nx st') s' ∧ I (j + l.length) st' s'
  | [], j, st, s, h0, _ => ⟨st, s, rfl, h0⟩
  | a :: l, j, st, s, h0, h => by
    obtain ⟨st1, s1, h1, h2⟩ := h 0 a st s rfl h0
    obtain ⟨st2, s2, h3, h4⟩ := loop_inv I l (j + 1) st1 s1 h2 fun i b st s hb hi => by
      have := h (i + 1) b st s hb (by rwa [show j + (i + 1) = j + 1 + i by omega])
      rwa [show j + (i + 1) = j + 1 + i by omega] at this
    refine ⟨st2, s2, ?_, by rwa [List.length_cons, show j + (l.length + 1) = j + 1 + l.length by omega]⟩
    rw [List.map_cons, loopR, h1, Rs.bind_ok]
    exact h3
/-- a loop that looks for something -/
theorem loop_find {σ α : Type} {e : α → D} {step : D → σ → Sto → Rs (O3 σ)} {s : Sto} {st : σ} (p : α → Bool) (r : α → D) : ∀ {l : List α}, (∀ a ∈ l, step (e a) st s = .ok (if p a then .rt (r a) else .nx st) s) →
    loopR step (l.map e) st s = .ok (match l.find? p with | some a => .rt (r a) | none => .nx st) s
  | [], _ => rfl
  | a :: l, h => by
    rw [List.map_cons, loopR, h a (by simp), Rs.bind_ok]
    cases hp : p a with
    | true => simp only [if_true, List.find?_cons, hp]
    | false =>
      simp only [Bool.false_eq_true, if_false, List.find?_cons, hp]
      exact loop_find p r fun b hb => h b (by simp [hb])
end Mi
namespace Mi
@[simp] theorem cmp_is_bl (b : Bool) (s : Sto) : cmpR .Is (.bl b) .non s = .ok (.bl false) s := rfl
@[simp] theorem cmp_is_int (b : Int) (s : Sto) : cmpR .Is (.int b) .non s = .ok (.bl false) s := rfl
@[simp] theorem cmp_is_lst (b : List D) (s : Sto) : cmpR .Is (.lst b) .non s = .ok (.bl false) s := rfl
@[simp] theorem cmp_is_tN (b : List Nat) (s : Sto) : cmpR .Is (tN b) .non s = .ok (.bl false) s := rfl
@[simp] theorem cmp_isn_nat (n : Nat) (s : Sto) : cmpR .IsNot (nat n) .non s = .ok (.bl true) s := rfl
@[simp] theorem cmp_isn_lst (n : List D) (s : Sto) : cmpR .IsNot (.lst n) .non s = .ok (.bl true) s := rfl
@[simp] theorem cmp_isn_tN (n : List Nat) (s : Sto) : cmpR .IsNot (tN n) .non s = .ok (.bl true) s := rfl
@[simp] theorem cmp_isn_bl (b : Bool) (s : Sto) : cmpR .IsNot (.bl b) .non s = .ok (.bl true) s := rfl
@[simp] theorem cmp_eq_bl (a b : Bool) (s : Sto) : cmpR .Eq (.bl a) (.bl b) s = .ok (.bl (a == b)) s := by simp [cmpR, cmpD]
@[simp] theorem cmp_ne_bl (a b : Bool) (s : Sto) : cmpR .NotEq (.bl a) (.bl b) s = .ok (.bl (!(a == b))) s := by simp [cmpR, cmpD]
@[simp] theorem cmp_eq_nil (s : Sto) : cmpR .Eq (.lst []) (.lst []) s = .ok (.bl true) s := by rw [cmp_eq_lst0 [] rfl]; rfl
@[simp] theorem cmp_ne_nil (s : Sto) : cmpR .NotEq (.lst []) (.lst []) s = .ok (.bl false) s := by rw [cmp_ne_lst0 [] rfl]; rfl
end Mi
namespace Mi
open PySem PySem.Spec
def b_is_int : CSs :=
  (.cons (.ret (.and (.cons (.isi (.var 0) [.int] true) (.cons (.not (.isi (.var 0) [.bool] true)) .nil))))
    .nil)
def F_is_int : Fn := ⟨1, 1, false, b_is_int⟩
def B_is_int (C : Cl) (value0 : D) (s : Sto) : Rs (O3 Unit) := ((((isiR [.int] value0 s).bind fun x_5 s_6 => (andK x_5 s_6 (((isiR [.bool] value0 s_6).bind fun x_9 s_10 => (notR x_9 s_10)).bind fun x_7 s_8 => (blR x_7 s_8)))).bind fun b_3 s_4 => Rs.ok (D.bl b_3) s_4).bind fun d_1 s_2 => Rs.ok (O3.rt d_1) s_2)
def S_is_int (C : Cl) (value0 : D) (s : Sto) : Rs D := retK (B_is_int C value0 s)
theorem sim_is_int (C : Cl) (value0 : D) (s : Sto) : Sim false (fun _ _ => True) (evSs C b_is_int [some (false, value0)] s) (B_is_int C value0 s) := (sim_ret rfl rfl (fun z => nomatch z))
theorem call_is_int {T : Tab} (h : T 0 = some F_is_int) (k : Nat) (value0 : D) (s : Sto) : callF T (k + 1) 0 [value0] s = S_is_int (clOf T k) value0 s := call_sim h rfl (sim_is_int (clOf T k) value0 s)
structure H_is_int (T : Tab) : Prop where
  f : T 0 = some F_is_int
end Mi
namespace Mi
open PySem PySem.Spec
def b_is_in : CSs :=
  (.cons (.ret (.and (.cons (.call 0 (.cons (.var 0) .nil)) (.cons (.chain .LtE .LtE (.var 1) (.var 0) (.var 2)) .nil))))
    .nil)
def F_is_in : Fn := ⟨3, 3, false, b_is_in⟩
def B_is_in (C : Cl) (value0 least1 most2 : D) (s : Sto) : Rs (O3 Unit) := (((((Rs.ok [value0] s).bind (C.run 0)).bind fun x_5 s_6 => (andK x_5 s_6 (((Rs.of (cmpD .LtE s_6 least1 value0) s_6).bind fun c_9 s_10 => if c_9 then (cmpR .LtE value0 most2 s_10) else Rs.ok (D.bl false) s_10).bind fun x_7 s_8 => (blR x_7 s_8)))).bind fun b_3 s_4 => Rs.ok (D.bl b_3) s_4).bind fun d_1 s_2 => Rs.ok (O3.rt d_1) s_2)
def S_is_in (C : Cl) (value0 least1 most2 : D) (s : Sto) : Rs D := retK (B_is_in C value0 least1 most2 s)
theorem sim_is_in (C : Cl) (value0 least1 most2 : D) (s : Sto) : Sim false (fun _ _ => True) (evSs C b_is_in [some (false, value0), some (false, least1), some (false, most2)] s) (B_is_in C value0 least1 most2 s) := (sim_ret rfl rfl (fun z => nomatch z))
theorem call_is_in {T : Tab} (h : T 1 = some F_is_in) (k : Nat) (value0 least1 most2 : D) (s : Sto) : callF T (k + 1) 1 [value0, least1, most2] s = S_is_in (clOf T k) value0 least1 most2 s := call_sim h rfl (sim_is_in (clOf T k) value0 least1 most2 s)
structure H_is_in (T : Tab) : Prop where
  f : T 1 = some F_is_in
  is_int : H_is_int T
end Mi
namespace Mi
open PySem PySem.Spec
def b_need_size : CSs :=
  (.cons (.ite (.not (.val (.call 1 (.cons (.var 0) (.cons (.cint 1) (.cons (.glob "MOST_SIZE" 4) .nil))))))
    (.cons (.raise 1 .nil)
    .nil)
    .nil)
    .nil)
def F_need_size : Fn := ⟨1, 1, false, b_need_size⟩
def B_need_size (C : Cl) (value0 : D) (s : Sto) : Rs (O3 Unit) := (((((Rs.ok [value0, (nat 1), (nat 4)] s).bind (C.run 1)).bind fun x_3 s_4 => (truR x_3 s_4)).bind fun b_1 s_2 => Rs.ok (!b_1) s_2).bind fun b_13 s_9 => if b_13 then ((Rs.ok [] s_9).bind fun xs_11 s_12 => Rs.exc 1 xs_11 s_12) else (Rs.ok (O3.nx ()) s_9))
def S_need_size (C : Cl) (value0 : D) (s : Sto) : Rs D := retK (B_need_size C value0 s)
theorem sim_need_size (C : Cl) (value0 : D) (s : Sto) : Sim false (fun _ _ => True) (evSs C b_need_size [some (false, value0)] s) (B_need_size C value0 s) := (sim_ite rfl (fun s_9 => (show Sim _ _ (evSs C _ [some (false, value0)] s_9) _ from (sim_raise rfl rfl))) (fun s_9 => (show Sim _ _ (evSs C _ [some (false, value0)] s_9) _ from (sim_nil trivial))))
theorem call_need_size {T : Tab} (h : T 2 = some F_need_size) (k : Nat) (value0 : D) (s : Sto) : callF T (k + 1) 2 [value0] s = S_need_size (clOf T k) value0 s := call_sim h rfl (sim_need_size (clOf T k) value0 s)
structure H_need_size (T : Tab) : Prop where
  f : T 2 = some F_need_size
  is_in : H_is_in T
end Mi
namespace Mi
open PySem PySem.Spec
def c_is_row_1 : CE :=
  (.comp (.nm 3) (.seq (.var 2)) .nil (.call 1 (.cons (.var 3) (.cons (.cint 0) (.cons (.bin .Sub (.var 0) (.cint 1)) .nil)))) [3])
def b_is_row : CSs :=
  (.cons (.ret (.and (.cons (.isi (.var 2) [.tuple] true) (.cons (.cmp .Eq (.bfn .len (.cons (.var 2) .nil)) (.var 1)) (.cons (.bfn .all (.cons c_is_row_1 .nil)) .nil)))))
    .nil)
def F_is_row : Fn := ⟨3, 4, false, b_is_row⟩
def Sc_is_row_1 (C : Cl) (size0 : D) (value2 : D) (s : Sto) : Rs D := ((seqR value2 s).bind (mapR fun x s => (((((binR .Sub size0 (nat 1) s).bind fun x_1 s_2 => Rs.ok [x_1] s_2).bind fun xs_3 s_4 => Rs.ok ((nat 0) :: xs_3) s_4).bind fun xs_5 s_6 => Rs.ok (x :: xs_5) s_6).bind (C.run 1))))
theorem e_c_is_row_1 (C : Cl) (size0 : D) (arity1 : D) (value2 : D) (s : Sto) : evE C c_is_row_1 [some (false, size0), some (false, arity1), some (false, value2), none] s = Sc_is_row_1 C size0 value2 s := comp_sh rfl fun x s => rfl
def B_is_row (C : Cl) (size0 arity1 value2 : D) (s : Sto) : Rs (O3 Unit) := ((((isiR [.tuple] value2 s).bind fun x_5 s_6 => (andK x_5 s_6 ((((Rs.ok [value2] s_6).bind (bfnR .len)).bind fun x_9 s_10 => (cmpR .Eq x_9 arity1 s_10)).bind fun x_7 s_8 => (andK x_7 s_8 ((((Sc_is_row_1 C size0 value2 s_8).bind fun x_13 s_14 => Rs.ok [x_13] s_14).bind (bfnR .all)).bind fun x_11 s_12 => (blR x_11 s_12)))))).bind fun b_3 s_4 => Rs.ok (D.bl b_3) s_4).bind fun d_1 s_2 => Rs.ok (O3.rt d_1) s_2)
def S_is_row (C : Cl) (size0 arity1 value2 : D) (s : Sto) : Rs D := retK (B_is_row C size0 arity1 value2 s)
theorem sim_is_row (C : Cl) (size0 arity1 value2 : D) (s : Sto) : Sim false (fun _ _ => True) (evSs C b_is_row [some (false, size0), some (false, arity1), some (false, value2), none] s) (B_is_row C size0 arity1 value2 s) := (sim_ret (by show (((isiR [.tuple] value2 s).bind fun x_17 s_18 => (andK x_17 s_18 ((((Rs.ok [value2] s_18).bind (bfnR .len)).bind fun x_21 s_22 => (cmpR .Eq x_21 arity1 s_22)).bind fun x_19 s_20 => (andK x_19 s_20 ((((evE C c_is_row_1 [some (false, size0), some (false, arity1), some (false, value2), none] s_20).bind fun x_25 s_26 => Rs.ok [x_25] s_26).bind (bfnR .all)).bind fun x_23 s_24 => (blR x_23 s_24)))))).bind fun b_15 s_16 => Rs.ok (D.bl b_15) s_16) = _; simp only [e_c_is_row_1]) rfl (fun z => nomatch z))
theorem call_is_row {T : Tab} (h : T 3 = some F_is_row) (k : Nat) (size0 arity1 value2 : D) (s : Sto) : callF T (k + 1) 3 [size0, arity1, value2] s = S_is_row (clOf T k) size0 arity1 value2 s := call_sim h rfl (sim_is_row (clOf T k) size0 arity1 value2 s)
structure H_is_row (T : Tab) : Prop where
  f : T 3 = some F_is_row
  is_in : H_is_in T
end Mi
namespace Mi
open PySem PySem.Spec
def bl_power_of_1 : CSs :=
  (.cons (.asg (.nm 2) (.bin .Mult (.var 2) (.var 0)))
    .nil)
def b_power_of : CSs :=
  (.cons (.asg (.nm 2) (.cint 1))
    (.cons (.forr (.nm 3) (.range1 (.var 1)) bl_power_of_1)
    (.cons (.ret (.var 2))
    .nil)))
def F_power_of : Fn := ⟨2, 4, false, b_power_of⟩
def L_power_of_1 (C : Cl) (size0 : D) (x : D) (st : D) (s : Sto) : Rs (O3 (D)) := ((binR .Mult st size0 s).bind fun found_5 s_6 => (Rs.ok (O3.nx found_5) s_6))
theorem sim_L_power_of_1 (C : Cl) (size0 : D) (exponent1 : D) (j3 : Option (Bool × D)) (x : D) (st : D) (s : Sto) : Sim false (fun (q_4st : D) (q_4e : MEnv) => ∃ (q_4j3 : Option (Bool × D)), q_4e = [some (false, size0), some (false, exponent1), some (false, q_4st), q_4j3]) (bindK (bindT (.nm 3) x [some (false, size0), some (false, exponent1), some (false, st), j3]) fun e1 => evSs C bl_power_of_1 e1 s) (L_power_of_1 C size0 x st s) := (show Sim _ _ (evSs C _ [some (false, size0), some (false, exponent1), some (false, st), some (false, x)] s) _ from (sim_asg rfl rfl (show 2 < 4 from by decide) fun found_5 s_6 => (show Sim _ _ (evSs C _ [some (false, size0), some (false, exponent1), some (false, found_5), some (false, x)] s_6) _ from (sim_nil ⟨_, rfl⟩))))
def B_power_of (C : Cl) (size0 exponent1 : D) (s : Sto) : Rs (O3 Unit) := ((Rs.ok (nat 1) s).bind fun found_1 s_2 => ((rng1R exponent1 s_2).bind fun xs_16 s_17 => o2K (loopR (L_power_of_1 C size0) xs_16 found_1 s_17) fun st_7 s_8 => ((Rs.ok st_7 s_8).bind fun d_10 s_11 => Rs.ok (O3.rt d_10) s_11)))
def S_power_of (C : Cl) (size0 exponent1 : D) (s : Sto) : Rs D := retK (B_power_of C size0 exponent1 s)
theorem sim_power_of (C : Cl) (size0 exponent1 : D) (s : Sto) : Sim false (fun _ _ => True) (evSs C b_power_of [some (false, size0), some (false, exponent1), none, none] s) (B_power_of C size0 exponent1 s) := (sim_asg rfl rfl (show 2 < 4 from by decide) fun found_1 s_2 => (show Sim _ _ (evSs C _ [some (false, size0), some (false, exponent1), some (false, found_1), none] s_2) _ from (sim_for (fun (q_3st : D) (q_3e : MEnv) => ∃ (q_3j3 : Option (Bool × D)), q_3e = [some (false, size0), some (false, exponent1), some (false, q_3st), q_3j3]) rfl ⟨_, rfl⟩ (by rintro x_14 st_12 _ s_13 ⟨j_15, rfl⟩; exact sim_L_power_of_1 C size0 exponent1 j_15 x_14 st_12 s_13) (by rintro st_7 _ s_8 ⟨j_9, rfl⟩; exact (show Sim _ _ (evSs C _ [some (false, size0), some (false, exponent1), some (false, st_7), j_9] s_8) _ from (sim_ret rfl rfl (fun z => nomatch z)))))))
theorem call_power_of {T : Tab} (h : T 5 = some F_power_of) (k : Nat) (size0 exponent1 : D) (s : Sto) : callF T (k + 1) 5 [size0, exponent1] s = S_power_of (clOf T k) size0 exponent1 s := call_sim h rfl (sim_power_of (clOf T k) size0 exponent1 s)
structure H_power_of (T : Tab) : Prop where
  f : T 5 = some F_power_of
end Mi
namespace Mi
open PySem PySem.Spec
def b_are_inputs : CSs :=
  (.cons (.ret (.and (.cons (.call 1 (.cons (.var 1) (.cons (.cint 1) (.cons (.glob "MOST_INPUTS" 8) .nil)))) (.cons (.cmp .LtE (.call 5 (.cons (.var 0) (.cons (.var 1) .nil))) (.glob "MOST_TABLE" 256)) .nil))))
    .nil)
def F_are_inputs : Fn := ⟨2, 2, false, b_are_inputs⟩
def B_are_inputs (C : Cl) (size0 value1 : D) (s : Sto) : Rs (O3 Unit) := (((((Rs.ok [value1, (nat 1), (nat 8)] s).bind (C.run 1)).bind fun x_5 s_6 => (andK x_5 s_6 ((((Rs.ok [size0, value1] s_6).bind (C.run 5)).bind fun x_9 s_10 => (cmpR .LtE x_9 (nat 256) s_10)).bind fun x_7 s_8 => (blR x_7 s_8)))).bind fun b_3 s_4 => Rs.ok (D.bl b_3) s_4).bind fun d_1 s_2 => Rs.ok (O3.rt d_1) s_2)
def S_are_inputs (C : Cl) (size0 value1 : D) (s : Sto) : Rs D := retK (B_are_inputs C size0 value1 s)
theorem sim_are_inputs (C : Cl) (size0 value1 : D) (s : Sto) : Sim false (fun _ _ => True) (evSs C b_are_inputs [some (false, size0), some (false, value1)] s) (B_are_inputs C size0 value1 s) := (sim_ret rfl rfl (fun z => nomatch z))
theorem call_are_inputs {T : Tab} (h : T 6 = some F_are_inputs) (k : Nat) (size0 value1 : D) (s : Sto) : callF T (k + 1) 6 [size0, value1] s = S_are_inputs (clOf T k) size0 value1 s := call_sim h rfl (sim_are_inputs (clOf T k) size0 value1 s)
structure H_are_inputs (T : Tab) : Prop where
  f : T 6 = some F_are_inputs
  is_in : H_is_in T
  power_of : H_power_of T
end Mi
namespace Mi
open PySem PySem.Spec
def b_is_operation : CSs :=
  (.cons (.ite (.or (.cons (.not (.val (.isi (.var 1) [.tuple] true))) (.cons (.val (.cmp .NotEq (.bfn .len (.cons (.var 1) .nil)) (.cint 2))) (.cons (.not (.val (.call 6 (.cons (.var 0) (.cons (.sub (.var 1) (.cint 0)) .nil))))) .nil))))
    (.cons (.ret (.cbl false))
    .nil)
    .nil)
    (.cons (.ret (.call 3 (.cons (.var 0) (.cons (.call 5 (.cons (.var 0) (.cons (.sub (.var 1) (.cint 0)) .nil))) (.cons (.sub (.var 1) (.cint 1)) .nil)))))
    .nil))
def F_is_operation : Fn := ⟨2, 2, false, b_is_operation⟩
def B_is_operation (C : Cl) (size0 value1 : D) (s : Sto) : Rs (O3 Unit) := (((((isiR [.tuple] value1 s).bind fun x_5 s_6 => (truR x_5 s_6)).bind fun b_3 s_4 => Rs.ok (!b_3) s_4).bind fun b_1 s_2 => if b_1 then Rs.ok true s_2 else (((((Rs.ok [value1] s_2).bind (bfnR .len)).bind fun x_11 s_12 => (cmpR .NotEq x_11 (nat 2) s_12)).bind fun x_9 s_10 => (truR x_9 s_10)).bind fun b_7 s_8 => if b_7 then Rs.ok true s_8 else (((((((subR value1 (nat 0) s_8).bind fun x_19 s_20 => Rs.ok [x_19] s_20).bind fun xs_21 s_22 => Rs.ok (size0 :: xs_21) s_22).bind (C.run 6)).bind fun x_17 s_18 => (truR x_17 s_18)).bind fun b_15 s_16 => Rs.ok (!b_15) s_16).bind fun b_13 s_14 => if b_13 then Rs.ok true s_14 else (Rs.ok false s_14)))).bind fun b_75 s_45 => if b_75 then ((Rs.ok (D.bl false) s_45).bind fun d_47 s_48 => Rs.ok (O3.rt d_47) s_48) else ((((((((subR value1 (nat 0) s_45).bind fun x_57 s_58 => Rs.ok [x_57] s_58).bind fun xs_59 s_60 => Rs.ok (size0 :: xs_59) s_60).bind (C.run 5)).bind fun x_51 s_52 => (((subR value1 (nat 1) s_52).bind fun x_53 s_54 => Rs.ok [x_53] s_54).bind fun xs_55 s_56 => Rs.ok (x_51 :: xs_55) s_56)).bind fun xs_61 s_62 => Rs.ok (size0 :: xs_61) s_62).bind (C.run 3)).bind fun d_49 s_50 => Rs.ok (O3.rt d_49) s_50))
def S_is_operation (C : Cl) (size0 value1 : D) (s : Sto) : Rs D := retK (B_is_operation C size0 value1 s)
theorem sim_is_operation (C : Cl) (size0 value1 : D) (s : Sto) : Sim false (fun _ _ => True) (evSs C b_is_operation [some (false, size0), some (false, value1)] s) (B_is_operation C size0 value1 s) := (sim_ite rfl (fun s_45 => (show Sim _ _ (evSs C _ [some (false, size0), some (false, value1)] s_45) _ from (sim_ret rfl rfl (fun z => nomatch z)))) (fun s_45 => (show Sim _ _ (evSs C _ [some (false, size0), some (false, value1)] s_45) _ from (sim_ret rfl rfl (fun z => nomatch z)))))
theorem call_is_operation {T : Tab} (h : T 7 = some F_is_operation) (k : Nat) (size0 value1 : D) (s : Sto) : callF T (k + 1) 7 [size0, value1] s = S_is_operation (clOf T k) size0 value1 s := call_sim h rfl (sim_is_operation (clOf T k) size0 value1 s)
structure H_is_operation (T : Tab) : Prop where
  f : T 7 = some F_is_operation
  is_row : H_is_row T
  power_of : H_power_of T
  are_inputs : H_are_inputs T
end Mi
namespace Mi
open PySem PySem.Spec
def b_need_operation : CSs :=
  (.cons (.ite (.not (.val (.call 7 (.cons (.var 0) (.cons (.var 1) .nil)))))
    (.cons (.raise 4 .nil)
    .nil)
    .nil)
    .nil)
def F_need_operation : Fn := ⟨2, 2, false, b_need_operation⟩
def B_need_operation (C : Cl) (size0 value1 : D) (s : Sto) : Rs (O3 Unit) := (((((Rs.ok [size0, value1] s).bind (C.run 7)).bind fun x_3 s_4 => (truR x_3 s_4)).bind fun b_1 s_2 => Rs.ok (!b_1) s_2).bind fun b_13 s_9 => if b_13 then ((Rs.ok [] s_9).bind fun xs_11 s_12 => Rs.exc 4 xs_11 s_12) else (Rs.ok (O3.nx ()) s_9))
def S_need_operation (C : Cl) (size0 value1 : D) (s : Sto) : Rs D := retK (B_need_operation C size0 value1 s)
theorem sim_need_operation (C : Cl) (size0 value1 : D) (s : Sto) : Sim false (fun _ _ => True) (evSs C b_need_operation [some (false, size0), some (false, value1)] s) (B_need_operation C size0 value1 s) := (sim_ite rfl (fun s_9 => (show Sim _ _ (evSs C _ [some (false, size0), some (false, value1)] s_9) _ from (sim_raise rfl rfl))) (fun s_9 => (show Sim _ _ (evSs C _ [some (false, size0), some (false, value1)] s_9) _ from (sim_nil trivial))))
theorem call_need_operation {T : Tab} (h : T 8 = some F_need_operation) (k : Nat) (size0 value1 : D) (s : Sto) : callF T (k + 1) 8 [size0, value1] s = S_need_operation (clOf T k) size0 value1 s := call_sim h rfl (sim_need_operation (clOf T k) size0 value1 s)
structure H_need_operation (T : Tab) : Prop where
  f : T 8 = some F_need_operation
  is_operation : H_is_operation T
end Mi
namespace Mi
open PySem PySem.Spec
def bl_place_of_1 : CSs :=
  (.cons (.asg (.nm 2) (.bin .Add (.bin .Mult (.var 2) (.var 0)) (.var 3)))
    .nil)
def b_place_of : CSs :=
  (.cons (.asg (.nm 2) (.cint 0))
    (.cons (.forr (.nm 3) (.seq (.var 1)) bl_place_of_1)
    (.cons (.ret (.var 2))
    .nil)))
def F_place_of : Fn := ⟨2, 4, false, b_place_of⟩
def L_place_of_1 (C : Cl) (size0 : D) (x : D) (st : D) (s : Sto) : Rs (O3 (D)) := (((binR .Mult st size0 s).bind fun x_7 s_8 => (binR .Add x_7 x s_8)).bind fun found_5 s_6 => (Rs.ok (O3.nx found_5) s_6))
theorem sim_L_place_of_1 (C : Cl) (size0 : D) (arguments1 : D) (j3 : Option (Bool × D)) (x : D) (st : D) (s : Sto) : Sim false (fun (q_4st : D) (q_4e : MEnv) => ∃ (q_4j3 : Option (Bool × D)), q_4e = [some (false, size0), some (false, arguments1), some (false, q_4st), q_4j3]) (bindK (bindT (.nm 3) x [some (false, size0), some (false, arguments1), some (false, st), j3]) fun e1 => evSs C bl_place_of_1 e1 s) (L_place_of_1 C size0 x st s) := (show Sim _ _ (evSs C _ [some (false, size0), some (false, arguments1), some (false, st), some (false, x)] s) _ from (sim_asg rfl rfl (show 2 < 4 from by decide) fun found_5 s_6 => (show Sim _ _ (evSs C _ [some (false, size0), some (false, arguments1), some (false, found_5), some (false, x)] s_6) _ from (sim_nil ⟨_, rfl⟩))))
def B_place_of (C : Cl) (size0 arguments1 : D) (s : Sto) : Rs (O3 Unit) := ((Rs.ok (nat 0) s).bind fun found_1 s_2 => ((seqR arguments1 s_2).bind fun xs_20 s_21 => o2K (loopR (L_place_of_1 C size0) xs_20 found_1 s_21) fun st_11 s_12 => ((Rs.ok st_11 s_12).bind fun d_14 s_15 => Rs.ok (O3.rt d_14) s_15)))
def S_place_of (C : Cl) (size0 arguments1 : D) (s : Sto) : Rs D := retK (B_place_of C size0 arguments1 s)
theorem sim_place_of (C : Cl) (size0 arguments1 : D) (s : Sto) : Sim false (fun _ _ => True) (evSs C b_place_of [some (false, size0), some (false, arguments1), none, none] s) (B_place_of C size0 arguments1 s) := (sim_asg rfl rfl (show 2 < 4 from by decide) fun found_1 s_2 => (show Sim _ _ (evSs C _ [some (false, size0), some (false, arguments1), some (false, found_1), none] s_2) _ from (sim_for (fun (q_3st : D) (q_3e : MEnv) => ∃ (q_3j3 : Option (Bool × D)), q_3e = [some (false, size0), some (false, arguments1), some (false, q_3st), q_3j3]) rfl ⟨_, rfl⟩ (by rintro x_18 st_16 _ s_17 ⟨j_19, rfl⟩; exact sim_L_place_of_1 C size0 arguments1 j_19 x_18 st_16 s_17) (by rintro st_11 _ s_12 ⟨j_13, rfl⟩; exact (show Sim _ _ (evSs C _ [some (false, size0), some (false, arguments1), some (false, st_11), j_13] s_12) _ from (sim_ret rfl rfl (fun z => nomatch z)))))))
theorem call_place_of {T : Tab} (h : T 9 = some F_place_of) (k : Nat) (size0 arguments1 : D) (s : Sto) : callF T (k + 1) 9 [size0, arguments1] s = S_place_of (clOf T k) size0 arguments1 s := call_sim h rfl (sim_place_of (clOf T k) size0 arguments1 s)
structure H_place_of (T : Tab) : Prop where
  f : T 9 = some F_place_of
end Mi
namespace Mi
open PySem PySem.Spec
def b_value_of : CSs :=
  (.cons (.ret (.sub (.sub (.var 1) (.cint 1)) (.call 9 (.cons (.var 0) (.cons (.var 2) .nil)))))
    .nil)
def F_value_of : Fn := ⟨3, 3, false, b_value_of⟩
def B_value_of (C : Cl) (size0 operation1 arguments2 : D) (s : Sto) : Rs (O3 Unit) := (((subR operation1 (nat 1) s).bind fun x_3 s_4 => (((Rs.ok [size0, arguments2] s_4).bind (C.run 9)).bind fun x_5 s_6 => (subR x_3 x_5 s_6))).bind fun d_1 s_2 => Rs.ok (O3.rt d_1) s_2)
def S_value_of (C : Cl) (size0 operation1 arguments2 : D) (s : Sto) : Rs D := retK (B_value_of C size0 operation1 arguments2 s)
theorem sim_value_of (C : Cl) (size0 operation1 arguments2 : D) (s : Sto) : Sim false (fun _ _ => True) (evSs C b_value_of [some (false, size0), some (false, operation1), some (false, arguments2)] s) (B_value_of C size0 operation1 arguments2 s) := (sim_ret rfl rfl (fun z => nomatch z))
theorem call_value_of {T : Tab} (h : T 10 = some F_value_of) (k : Nat) (size0 operation1 arguments2 : D) (s : Sto) : callF T (k + 1) 10 [size0, operation1, arguments2] s = S_value_of (clOf T k) size0 operation1 arguments2 s := call_sim h rfl (sim_value_of (clOf T k) size0 operation1 arguments2 s)
structure H_value_of (T : Tab) : Prop where
  f : T 10 = some F_value_of
  place_of : H_place_of T
end Mi
namespace Mi
open PySem PySem.Spec
def b_apply : CSs :=
  (.cons (.expr (.call 2 (.cons (.var 0) .nil)))
    (.cons (.expr (.call 8 (.cons (.var 0) (.cons (.var 1) .nil))))
    (.cons (.ite (.not (.val (.call 3 (.cons (.var 0) (.cons (.sub (.var 1) (.cint 0)) (.cons (.var 2) .nil))))))
    (.cons (.raise 5 .nil)
    .nil)
    .nil)
    (.cons (.ret (.call 10 (.cons (.var 0) (.cons (.var 1) (.cons (.var 2) .nil)))))
    .nil))))
def F_apply : Fn := ⟨3, 3, false, b_apply⟩
def B_apply (C : Cl) (size0 operation1 arguments2 : D) (s : Sto) : Rs (O3 Unit) := (((Rs.ok [size0] s).bind (C.run 2)).bind fun _ s_1 => (((Rs.ok [size0, operation1] s_1).bind (C.run 8)).bind fun _ s_3 => (((((((subR operation1 (nat 0) s_3).bind fun x_9 s_10 => Rs.ok [x_9, arguments2] s_10).bind fun xs_11 s_12 => Rs.ok (size0 :: xs_11) s_12).bind (C.run 3)).bind fun x_7 s_8 => (truR x_7 s_8)).bind fun b_5 s_6 => Rs.ok (!b_5) s_6).bind fun b_27 s_21 => if b_27 then ((Rs.ok [] s_21).bind fun xs_23 s_24 => Rs.exc 5 xs_23 s_24) else (((Rs.ok [size0, operation1, arguments2] s_21).bind (C.run 10)).bind fun d_25 s_26 => Rs.ok (O3.rt d_25) s_26))))
def S_apply (C : Cl) (size0 operation1 arguments2 : D) (s : Sto) : Rs D := retK (B_apply C size0 operation1 arguments2 s)
theorem sim_apply (C : Cl) (size0 operation1 arguments2 : D) (s : Sto) : Sim false (fun _ _ => True) (evSs C b_apply [some (false, size0), some (false, operation1), some (false, arguments2)] s) (B_apply C size0 operation1 arguments2 s) := (sim_expr rfl fun s_1 => (show Sim _ _ (evSs C _ [some (false, size0), some (false, operation1), some (false, arguments2)] s_1) _ from (sim_expr rfl fun s_3 => (show Sim _ _ (evSs C _ [some (false, size0), some (false, operation1), some (false, arguments2)] s_3) _ from (sim_ite rfl (fun s_21 => (show Sim _ _ (evSs C _ [some (false, size0), some (false, operation1), some (false, arguments2)] s_21) _ from (sim_raise rfl rfl))) (fun s_21 => (show Sim _ _ (evSs C _ [some (false, size0), some (false, operation1), some (false, arguments2)] s_21) _ from (sim_ret rfl rfl (fun z => nomatch z)))))))))
theorem call_apply {T : Tab} (h : T 11 = some F_apply) (k : Nat) (size0 operation1 arguments2 : D) (s : Sto) : callF T (k + 1) 11 [size0, operation1, arguments2] s = S_apply (clOf T k) size0 operation1 arguments2 s := call_sim h rfl (sim_apply (clOf T k) size0 operation1 arguments2 s)
structure H_apply (T : Tab) : Prop where
  f : T 11 = some F_apply
  need_size : H_need_size T
  is_row : H_is_row T
  need_operation : H_need_operation T
  value_of : H_value_of T
end Mi
namespace Mi
open PySem PySem.Spec
def c_all_rows_1 : CE :=
  (.comp2 (.nm 4) (.seq (.var 2)) (.nm 5) (.range1 (.var 0)) .nil (.tupS (.var 4) (.cons (.var 5) .nil)) [4, 5] [5])
def bl_all_rows_2 : CSs :=
  (.cons (.asg (.nm 2) c_all_rows_1)
    .nil)
def b_all_rows : CSs :=
  (.cons (.asg (.nm 2) (.lst (.cons (.tup .nil) .nil)))
    (.cons (.forr (.nm 3) (.range1 (.var 1)) bl_all_rows_2)
    (.cons (.ret (.var 2))
    .nil)))
def F_all_rows : Fn := ⟨2, 6, false, b_all_rows⟩
def Sc_all_rows_1 (C : Cl) (size0 : D) (found2 : D) (s : Sto) : Rs D := ((seqR found2 s).bind (fmR fun x s => ((rng1R size0 s).bind (mapL fun y s => ((Rs.ok [y] s).bind fun ys s2 => tupSR x ys s2)))))
theorem e_c_all_rows_1 (C : Cl) (size0 : D) (arity1 : D) (found2 : D) (turn3 : D) (s : Sto) : evE C c_all_rows_1 [some (false, size0), some (false, arity1), some (false, found2), some (false, turn3), none, none] s = Sc_all_rows_1 C size0 found2 s := comp2_sh rfl fun x s => (inner_sh (env := [some (false, size0), some (false, arity1), some (false, found2), some (false, turn3), some (false, x), none]) rfl fun y s => rfl)
def L_all_rows_1 (C : Cl) (size0 : D) (x : D) (st : D) (s : Sto) : Rs (O3 (D)) := ((Sc_all_rows_1 C size0 st s).bind fun found_9 s_10 => (Rs.ok (O3.nx found_9) s_10))
theorem sim_L_all_rows_1 (C : Cl) (size0 : D) (arity1 : D) (j3 : Option (Bool × D)) (x : D) (st : D) (s : Sto) : Sim false (fun (q_8st : D) (q_8e : MEnv) => ∃ (q_8j3 : Option (Bool × D)), q_8e = [some (false, size0), some (false, arity1), some (false, q_8st), q_8j3, none, none]) (bindK (bindT (.nm 3) x [some (false, size0), some (false, arity1), some (false, st), j3, none, none]) fun e1 => evSs C bl_all_rows_2 e1 s) (L_all_rows_1 C size0 x st s) := (show Sim _ _ (evSs C _ [some (false, size0), some (false, arity1), some (false, st), some (false, x), none, none] s) _ from (sim_asg (by show (evE C c_all_rows_1 [some (false, size0), some (false, arity1), some (false, st), some (false, x), none, none] s) = _; simp only [e_c_all_rows_1]) rfl (show 2 < 6 from by decide) fun found_9 s_10 => (show Sim _ _ (evSs C _ [some (false, size0), some (false, arity1), some (false, found_9), some (false, x), none, none] s_10) _ from (sim_nil ⟨_, rfl⟩))))
def B_all_rows (C : Cl) (size0 arity1 : D) (s : Sto) : Rs (O3 Unit) := (((((Rs.ok [] s).bind tupR).bind fun x_3 s_4 => Rs.ok [x_3] s_4).bind lstR).bind fun found_1 s_2 => ((rng1R arity1 s_2).bind fun xs_20 s_21 => o2K (loopR (L_all_rows_1 C size0) xs_20 found_1 s_21) fun st_11 s_12 => ((Rs.ok st_11 s_12).bind fun d_14 s_15 => Rs.ok (O3.rt d_14) s_15)))
def S_all_rows (C : Cl) (size0 arity1 : D) (s : Sto) : Rs D := retK (B_all_rows C size0 arity1 s)
theorem sim_all_rows (C : Cl) (size0 arity1 : D) (s : Sto) : Sim false (fun _ _ => True) (evSs C b_all_rows [some (false, size0), some (false, arity1), none, none, none, none] s) (B_all_rows C size0 arity1 s) := (sim_asg rfl rfl (show 2 < 6 from by decide) fun found_1 s_2 => (show Sim _ _ (evSs C _ [some (false, size0), some (false, arity1), some (false, found_1), none, none, none] s_2) _ from (sim_for (fun (q_7st : D) (q_7e : MEnv) => ∃ (q_7j3 : Option (Bool × D)), q_7e = [some (false, size0), some (false, arity1), some (false, q_7st), q_7j3, none, none]) rfl ⟨_, rfl⟩ (by rintro x_18 st_16 _ s_17 ⟨j_19, rfl⟩; exact sim_L_all_rows_1 C size0 arity1 j_19 x_18 st_16 s_17) (by rintro st_11 _ s_12 ⟨j_13, rfl⟩; exact (show Sim _ _ (evSs C _ [some (false, size0), some (false, arity1), some (false, st_11), j_13, none, none] s_12) _ from (sim_ret rfl rfl (fun z => nomatch z)))))))
theorem call_all_rows {T : Tab} (h : T 4 = some F_all_rows) (k : Nat) (size0 arity1 : D) (s : Sto) : callF T (k + 1) 4 [size0, arity1] s = S_all_rows (clOf T k) size0 arity1 s := call_sim h rfl (sim_all_rows (clOf T k) size0 arity1 s)
structure H_all_rows (T : Tab) : Prop where
  f : T 4 = some F_all_rows
end Mi
namespace Mi
open PySem PySem.Spec
def c_projection_1 : CE :=
  (.comp (.nm 3) (.seq (.call 4 (.cons (.var 0) (.cons (.var 1) .nil)))) .nil (.sub (.var 3) (.var 2)) [3])
def b_projection : CSs :=
  (.cons (.expr (.call 2 (.cons (.var 0) .nil)))
    (.cons (.ite (.not (.val (.call 6 (.cons (.var 0) (.cons (.var 1) .nil)))))
    (.cons (.raise 2 .nil)
    .nil)
    .nil)
    (.cons (.ite (.not (.val (.call 1 (.cons (.var 2) (.cons (.cint 0) (.cons (.bin .Sub (.var 1) (.cint 1)) .nil))))))
    (.cons (.raise 3 .nil)
    .nil)
    .nil)
    (.cons (.ret (.tup (.cons (.var 1) (.cons (.bfn .tuple (.cons c_projection_1 .nil)) .nil))))
    .nil))))
def F_projection : Fn := ⟨3, 4, false, b_projection⟩
def Sc_projection_1 (C : Cl) (size0 : D) (arity1 : D) (place2 : D) (s : Sto) : Rs D := ((((Rs.ok [size0, arity1] s).bind (C.run 4)).bind fun x_1 s_2 => (seqR x_1 s_2)).bind (mapR fun x s => (subR x place2 s)))
theorem e_c_projection_1 (C : Cl) (size0 : D) (arity1 : D) (place2 : D) (s : Sto) : evE C c_projection_1 [some (false, size0), some (false, arity1), some (false, place2), none] s = Sc_projection_1 C size0 arity1 place2 s := comp_sh rfl fun x s => rfl
def B_projection (C : Cl) (size0 arity1 place2 : D) (s : Sto) : Rs (O3 Unit) := (((Rs.ok [size0] s).bind (C.run 2)).bind fun _ s_1 => (((((Rs.ok [size0, arity1] s_1).bind (C.run 6)).bind fun x_5 s_6 => (truR x_5 s_6)).bind fun b_3 s_4 => Rs.ok (!b_3) s_4).bind fun b_54 s_11 => if b_54 then ((Rs.ok [] s_11).bind fun xs_13 s_14 => Rs.exc 2 xs_13 s_14) else ((((((((binR .Sub arity1 (nat 1) s_11).bind fun x_19 s_20 => Rs.ok [x_19] s_20).bind fun xs_21 s_22 => Rs.ok ((nat 0) :: xs_21) s_22).bind fun xs_23 s_24 => Rs.ok (place2 :: xs_23) s_24).bind (C.run 1)).bind fun x_17 s_18 => (truR x_17 s_18)).bind fun b_15 s_16 => Rs.ok (!b_15) s_16).bind fun b_53 s_35 => if b_53 then ((Rs.ok [] s_35).bind fun xs_37 s_38 => Rs.exc 3 xs_37 s_38) else (((((((Sc_projection_1 C size0 arity1 place2 s_35).bind fun x_43 s_44 => Rs.ok [x_43] s_44).bind (bfnR .tuple)).bind fun x_41 s_42 => Rs.ok [x_41] s_42).bind fun xs_45 s_46 => Rs.ok (arity1 :: xs_45) s_46).bind tupR).bind fun d_39 s_40 => Rs.ok (O3.rt d_39) s_40))))
def S_projection (C : Cl) (size0 arity1 place2 : D) (s : Sto) : Rs D := retK (B_projection C size0 arity1 place2 s)
theorem sim_projection (C : Cl) (size0 arity1 place2 : D) (s : Sto) : Sim false (fun _ _ => True) (evSs C b_projection [some (false, size0), some (false, arity1), some (false, place2), none] s) (B_projection C size0 arity1 place2 s) := (sim_expr rfl fun s_1 => (show Sim _ _ (evSs C _ [some (false, size0), some (false, arity1), some (false, place2), none] s_1) _ from (sim_ite rfl (fun s_11 => (show Sim _ _ (evSs C _ [some (false, size0), some (false, arity1), some (false, place2), none] s_11) _ from (sim_raise rfl rfl))) (fun s_11 => (show Sim _ _ (evSs C _ [some (false, size0), some (false, arity1), some (false, place2), none] s_11) _ from (sim_ite rfl (fun s_35 => (show Sim _ _ (evSs C _ [some (false, size0), some (false, arity1), some (false, place2), none] s_35) _ from (sim_raise rfl rfl))) (fun s_35 => (show Sim _ _ (evSs C _ [some (false, size0), some (false, arity1), some (false, place2), none] s_35) _ from (sim_ret (by show ((((((evE C c_projection_1 [some (false, size0), some (false, arity1), some (false, place2), none] s_35).bind fun x_49 s_50 => Rs.ok [x_49] s_50).bind (bfnR .tuple)).bind fun x_47 s_48 => Rs.ok [x_47] s_48).bind fun xs_51 s_52 => Rs.ok (arity1 :: xs_51) s_52).bind tupR) = _; simp only [e_c_projection_1]) rfl (fun z => nomatch z))))))))))
theorem call_projection {T : Tab} (h : T 12 = some F_projection) (k : Nat) (size0 arity1 place2 : D) (s : Sto) : callF T (k + 1) 12 [size0, arity1, place2] s = S_projection (clOf T k) size0 arity1 place2 s := call_sim h rfl (sim_projection (clOf T k) size0 arity1 place2 s)
structure H_projection (T : Tab) : Prop where
  f : T 12 = some F_projection
  is_in : H_is_in T
  need_size : H_need_size T
  all_rows : H_all_rows T
  are_inputs : H_are_inputs T
end Mi
namespace Mi
open PySem PySem.Spec
def c_composed_1 : CE :=
  (.comp (.nm 4) (.seq (.var 2)) .nil (.sub (.var 4) (.cint 1)) [4])
def c_composed_2 : CE :=
  (.comp (.nm 5) (.zipS (.var 3)) .nil (.call 10 (.cons (.var 0) (.cons (.var 1) (.cons (.var 5) .nil)))) [5])
def b_composed : CSs :=
  (.cons (.asg (.nm 3) c_composed_1)
    (.cons (.ret (.tup (.cons (.sub (.sub (.var 2) (.cint 0)) (.cint 0)) (.cons (.bfn .tuple (.cons c_composed_2 .nil)) .nil))))
    .nil))
def F_composed : Fn := ⟨3, 6, false, b_composed⟩
def Sc_composed_1 (C : Cl) (inner2 : D) (s : Sto) : Rs D := ((seqR inner2 s).bind (mapR fun x s => (subR x (nat 1) s)))
theorem e_c_composed_1 (C : Cl) (size0 : D) (operation1 : D) (inner2 : D) (s : Sto) : evE C c_composed_1 [some (false, size0), some (false, operation1), some (false, inner2), none, none, none] s = Sc_composed_1 C inner2 s := comp_sh rfl fun x s => rfl
def Sc_composed_2 (C : Cl) (size0 : D) (operation1 : D) (tables3 : D) (s : Sto) : Rs D := ((zipSR tables3 s).bind (mapR fun x s => ((Rs.ok [size0, operation1, x] s).bind (C.run 10))))
theorem e_c_composed_2 (C : Cl) (size0 : D) (operation1 : D) (inner2 : D) (tables3 : D) (s : Sto) : evE C c_composed_2 [some (false, size0), some (false, operation1), some (false, inner2), some (false, tables3), none, none] s = Sc_composed_2 C size0 operation1 tables3 s := comp_sh rfl fun x s => rfl
def B_composed (C : Cl) (size0 operation1 inner2 : D) (s : Sto) : Rs (O3 Unit) := ((Sc_composed_1 C inner2 s).bind fun tables_1 s_2 => (((((subR inner2 (nat 0) s_2).bind fun x_13 s_14 => (subR x_13 (nat 0) s_14)).bind fun x_5 s_6 => (((((Sc_composed_2 C size0 operation1 tables_1 s_6).bind fun x_9 s_10 => Rs.ok [x_9] s_10).bind (bfnR .tuple)).bind fun x_7 s_8 => Rs.ok [x_7] s_8).bind fun xs_11 s_12 => Rs.ok (x_5 :: xs_11) s_12)).bind tupR).bind fun d_3 s_4 => Rs.ok (O3.rt d_3) s_4))
def S_composed (C : Cl) (size0 operation1 inner2 : D) (s : Sto) : Rs D := retK (B_composed C size0 operation1 inner2 s)
theorem sim_composed (C : Cl) (size0 operation1 inner2 : D) (s : Sto) : Sim false (fun _ _ => True) (evSs C b_composed [some (false, size0), some (false, operation1), some (false, inner2), none, none, none] s) (B_composed C size0 operation1 inner2 s) := (sim_asg (by show (evE C c_composed_1 [some (false, size0), some (false, operation1), some (false, inner2), none, none, none] s) = _; simp only [e_c_composed_1]) rfl (show 3 < 6 from by decide) fun tables_1 s_2 => (show Sim _ _ (evSs C _ [some (false, size0), some (false, operation1), some (false, inner2), some (false, tables_1), none, none] s_2) _ from (sim_ret (by show ((((subR inner2 (nat 0) s_2).bind fun x_23 s_24 => (subR x_23 (nat 0) s_24)).bind fun x_15 s_16 => (((((evE C c_composed_2 [some (false, size0), some (false, operation1), some (false, inner2), some (false, tables_1), none, none] s_16).bind fun x_19 s_20 => Rs.ok [x_19] s_20).bind (bfnR .tuple)).bind fun x_17 s_18 => Rs.ok [x_17] s_18).bind fun xs_21 s_22 => Rs.ok (x_15 :: xs_21) s_22)).bind tupR) = _; simp only [e_c_composed_2]) rfl (fun z => nomatch z))))
theorem call_composed {T : Tab} (h : T 13 = some F_composed) (k : Nat) (size0 operation1 inner2 : D) (s : Sto) : callF T (k + 1) 13 [size0, operation1, inner2] s = S_composed (clOf T k) size0 operation1 inner2 s := call_sim h rfl (sim_composed (clOf T k) size0 operation1 inner2 s)
structure H_composed (T : Tab) : Prop where
  f : T 13 = some F_composed
  value_of : H_value_of T
end Mi
namespace Mi
open PySem PySem.Spec
def c_compose_1 : CE :=
  (.comp (.nm 3) (.seq (.var 2)) .nil (.and (.cons (.call 7 (.cons (.var 0) (.cons (.var 3) .nil))) (.cons (.cmp .Eq (.sub (.var 3) (.cint 0)) (.sub (.sub (.var 2) (.cint 0)) (.cint 0))) .nil))) [3])
def b_compose : CSs :=
  (.cons (.expr (.call 2 (.cons (.var 0) .nil)))
    (.cons (.expr (.call 8 (.cons (.var 0) (.cons (.var 1) .nil))))
    (.cons (.ite (.or (.cons (.not (.val (.isi (.var 2) [.tuple] true))) (.cons (.val (.cmp .NotEq (.bfn .len (.cons (.var 2) .nil)) (.sub (.var 1) (.cint 0)))) .nil)))
    (.cons (.raise 5 .nil)
    .nil)
    .nil)
    (.cons (.ite (.not (.val (.bfn .all (.cons c_compose_1 .nil))))
    (.cons (.raise 5 .nil)
    .nil)
    .nil)
    (.cons (.ret (.call 13 (.cons (.var 0) (.cons (.var 1) (.cons (.var 2) .nil)))))
    .nil)))))
def F_compose : Fn := ⟨3, 4, false, b_compose⟩
def Sc_compose_1 (C : Cl) (size0 : D) (inner2 : D) (s : Sto) : Rs D := ((seqR inner2 s).bind (mapR fun x s => ((((Rs.ok [size0, x] s).bind (C.run 7)).bind fun x_3 s_4 => (andK x_3 s_4 (((subR x (nat 0) s_4).bind fun x_7 s_8 => (((subR inner2 (nat 0) s_8).bind fun x_11 s_12 => (subR x_11 (nat 0) s_12)).bind fun x_9 s_10 => (cmpR .Eq x_7 x_9 s_10))).bind fun x_5 s_6 => (blR x_5 s_6)))).bind fun b_1 s_2 => Rs.ok (D.bl b_1) s_2)))
theorem e_c_compose_1 (C : Cl) (size0 : D) (operation1 : D) (inner2 : D) (s : Sto) : evE C c_compose_1 [some (false, size0), some (false, operation1), some (false, inner2), none] s = Sc_compose_1 C size0 inner2 s := comp_sh rfl fun x s => rfl
def B_compose (C : Cl) (size0 operation1 inner2 : D) (s : Sto) : Rs (O3 Unit) := (((Rs.ok [size0] s).bind (C.run 2)).bind fun _ s_1 => (((Rs.ok [size0, operation1] s_1).bind (C.run 8)).bind fun _ s_3 => (((((isiR [.tuple] inner2 s_3).bind fun x_9 s_10 => (truR x_9 s_10)).bind fun b_7 s_8 => Rs.ok (!b_7) s_8).bind fun b_5 s_6 => if b_5 then Rs.ok true s_6 else (((((Rs.ok [inner2] s_6).bind (bfnR .len)).bind fun x_15 s_16 => ((subR operation1 (nat 0) s_16).bind fun x_17 s_18 => (cmpR .NotEq x_15 x_17 s_18))).bind fun x_13 s_14 => (truR x_13 s_14)).bind fun b_11 s_12 => if b_11 then Rs.ok true s_12 else (Rs.ok false s_12))).bind fun b_56 s_33 => if b_56 then ((Rs.ok [] s_33).bind fun xs_35 s_36 => Rs.exc 5 xs_35 s_36) else ((((((Sc_compose_1 C size0 inner2 s_33).bind fun x_41 s_42 => Rs.ok [x_41] s_42).bind (bfnR .all)).bind fun x_39 s_40 => (truR x_39 s_40)).bind fun b_37 s_38 => Rs.ok (!b_37) s_38).bind fun b_55 s_49 => if b_55 then ((Rs.ok [] s_49).bind fun xs_51 s_52 => Rs.exc 5 xs_51 s_52) else (((Rs.ok [size0, operation1, inner2] s_49).bind (C.run 13)).bind fun d_53 s_54 => Rs.ok (O3.rt d_53) s_54)))))
def S_compose (C : Cl) (size0 operation1 inner2 : D) (s : Sto) : Rs D := retK (B_compose C size0 operation1 inner2 s)
theorem sim_compose (C : Cl) (size0 operation1 inner2 : D) (s : Sto) : Sim false (fun _ _ => True) (evSs C b_compose [some (false, size0), some (false, operation1), some (false, inner2), none] s) (B_compose C size0 operation1 inner2 s) := (sim_expr rfl fun s_1 => (show Sim _ _ (evSs C _ [some (false, size0), some (false, operation1), some (false, inner2), none] s_1) _ from (sim_expr rfl fun s_3 => (show Sim _ _ (evSs C _ [some (false, size0), some (false, operation1), some (false, inner2), none] s_3) _ from (sim_ite rfl (fun s_33 => (show Sim _ _ (evSs C _ [some (false, size0), some (false, operation1), some (false, inner2), none] s_33) _ from (sim_raise rfl rfl))) (fun s_33 => (show Sim _ _ (evSs C _ [some (false, size0), some (false, operation1), some (false, inner2), none] s_33) _ from (sim_ite (by show (((((evE C c_compose_1 [some (false, size0), some (false, operation1), some (false, inner2), none] s_33).bind fun x_47 s_48 => Rs.ok [x_47] s_48).bind (bfnR .all)).bind fun x_45 s_46 => (truR x_45 s_46)).bind fun b_43 s_44 => Rs.ok (!b_43) s_44) = _; simp only [e_c_compose_1]) (fun s_49 => (show Sim _ _ (evSs C _ [some (false, size0), some (false, operation1), some (false, inner2), none] s_49) _ from (sim_raise rfl rfl))) (fun s_49 => (show Sim _ _ (evSs C _ [some (false, size0), some (false, operation1), some (false, inner2), none] s_49) _ from (sim_ret rfl rfl (fun z => nomatch z))))))))))))
theorem call_compose {T : Tab} (h : T 14 = some F_compose) (k : Nat) (size0 operation1 inner2 : D) (s : Sto) : callF T (k + 1) 14 [size0, operation1, inner2] s = S_compose (clOf T k) size0 operation1 inner2 s := call_sim h rfl (sim_compose (clOf T k) size0 operation1 inner2 s)
structure H_compose (T : Tab) : Prop where
  f : T 14 = some F_compose
  need_size : H_need_size T
  is_operation : H_is_operation T
  need_operation : H_need_operation T
  composed : H_composed T
end Mi
/-! B1: relations and operations: sizes, rows, tables. -/
namespace Mi
open PySem PySem.Spec

theorem lv {k n : Nat} (h : n + 1 ≤ k) : ∃ j, k = j + 1 ∧ n ≤ j := ⟨k - 1, by omega, by omega⟩
/-- all rows -/
def rowsN (z : Nat) : Nat → List (List Nat)
  | 0 => [[]]
  | a + 1 => (rowsN z a).flatMap fun r => (List.range z).map fun v => r ++ [v]
theorem flatMap_len {α β : Type} (f : α → List β) (m : Nat) : ∀ l : List α, (∀ x ∈ l, (f x).length = m) → (l.flatMap f).length = l.length * m
  | [], _ => by simp
  | x :: l, h => by
    rw [List.flatMap_cons, List.length_append, h x (by simp), flatMap_len f m l fun y hy => h y (by simp [hy]), List.length_cons, Nat.succ_mul]
    omega
theorem rowsN_len (z : Nat) : ∀ a, (rowsN z a).length = z ^ a
  | 0 => rfl
  | a + 1 => by rw [rowsN, flatMap_len _ z _ (fun x _ => by simp), rowsN_len z a, Nat.pow_succ]
theorem rowsN_mem {z : Nat} : ∀ {a : Nat} {l : List Nat}, l ∈ rowsN z a ↔ l.length = a ∧ ∀ x ∈ l, x < z
  | 0, l => by
    simp only [rowsN, List.mem_singleton, List.length_eq_zero_iff]
    constructor
    · rintro rfl; simp
    · exact fun h => h.1
  | a + 1, l => by
    simp only [rowsN, List.mem_flatMap, List.mem_map, List.mem_range]
    constructor
    · rintro ⟨r, hr, v, hv, rfl⟩
      obtain ⟨h1, h2⟩ := rowsN_mem.mp hr
      refine ⟨by simp [h1], fun x hx => ?_⟩
      rcases List.mem_append.mp hx with q | q
      · exact h2 x q
      · simp at q; subst q; exact hv
    · rintro ⟨h1, h2⟩
      have hne : l ≠ [] := by intro e; rw [e] at h1; simp at h1
      refine ⟨l.dropLast, rowsN_mem.mpr ⟨by simp [h1], fun x hx => h2 x (List.dropLast_subset l hx)⟩, l.getLast hne, h2 _ (List.getLast_mem hne), List.dropLast_concat_getLast hne⟩
/-- the place of arguments in a table -/
def placeN (z : Nat) (l : List Nat) : Nat := l.foldl (fun a x => a * z + x) 0
/-- an operation's table -/
structure IsOp (z n : Nat) (tbl : List Nat) : Prop where
  z1 : 1 ≤ z
  z4 : z ≤ 4
  n1 : 1 ≤ n
  n8 : n ≤ 8
  most : z ^ n ≤ 256
  len : tbl.length = z ^ n
  vals : ∀ x ∈ tbl, x < z
def valN (z : Nat) (tbl l : List Nat) : Nat := tbl.getD (placeN z l) 0

section
variable {T : Tab} {k : Nat} {s : Sto}
theorem s_is_int (h : H_is_int T) (hk : 1 ≤ k) (n : Nat) : callF T k 0 [nat n] s = .ok (.bl true) s := by
  obtain ⟨k, rfl, hj⟩ := lv hk
  rw [call_is_int h.f]
  simp [S_is_int, B_is_int]
theorem s_is_in (h : H_is_in T) (hk : 2 ≤ k) (n a b : Nat) : callF T k 1 [nat n, nat a, nat b] s = .ok (.bl (decide (a ≤ n ∧ n ≤ b))) s := by
  obtain ⟨k, rfl, hj⟩ := lv hk
  rw [call_is_in h.f]
  simp [S_is_in, B_is_in, s_is_int h.is_int hj]
  by_cases h2 : a ≤ n <;> simp [h2]
theorem s_is_in1 (h : H_is_in T) (hk : 2 ≤ k) {n a z : Nat} (hz : 1 ≤ z) : callF T k 1 [nat n, nat a, .int ((z : Int) - 1)] s = .ok (.bl (decide (a ≤ n ∧ n < z))) s := by
  have := s_is_in h hk n a (z - 1) (s := s)
  rw [nat, nat, nat, show ((z - 1 : Nat) : Int) = (z : Int) - 1 by omega] at this
  rw [nat, nat, this]
  congr 2
  rw [decide_eq_decide]
  omega
theorem s_need_size (h : H_need_size T) (hk : 3 ≤ k) {n : Nat} (h1 : 1 ≤ n) (h4 : n ≤ 4) : callF T k 2 [nat n] s = .ok .non s := by
  obtain ⟨k, rfl, hj⟩ := lv hk
  rw [call_need_size h.f]
  simp [S_need_size, B_need_size, s_is_in h.is_in hj, h1, h4]
theorem s_is_row (h : H_is_row T) (hk : 3 ≤ k) {z a : Nat} {l : List Nat} (hz : 1 ≤ z) (hl : l.length ≤ 100000) : callF T k 3 [nat z, nat a, tN l] s = .ok (.bl (decide (l.length = a ∧ ∀ x ∈ l, x < z))) s := by
  obtain ⟨k, rfl, hj⟩ := lv hk
  rw [call_is_row h.f]
  have hc : Sc_is_row_1 (clOf T k) (nat z) (tN l) s = .ok (.lst (l.map fun x => .bl (decide (x < z)))) s := by
    simp only [Sc_is_row_1, seq_tN, Rs.bind_ok]
    rw [map_ok (g := fun x => .bl (decide (x < z))) (by omega)]
    intro x _
    simp [s_is_in1 h.is_in hj hz]
  simp [S_is_row, B_is_row, hc]
  by_cases h2 : l.length = a
  · simp [h2]
    rw [Bool.eq_iff_iff]
    simp
  · simp [h2]
theorem s_all_rows (h : H_all_rows T) (hk : 1 ≤ k) {z n : Nat} (hz : z ≤ 1000) (hn : n ≤ 1000) (hzn : ∀ i, i ≤ n → z ^ i ≤ 1000000) : callF T k 4 [nat z, nat n] s = .ok (lR (rowsN z n)) s := by
  obtain ⟨k, rfl, hj⟩ := lv hk
  rw [call_all_rows h.f]
  have h1 : loopR (L_all_rows_1 (clOf T k) (nat z)) ((List.range n).map nat) (.lst [.tup []]) s = .ok (.nx (lR (rowsN z n))) s := by
    have := loop_ok (s := s) (e := nat) (step := L_all_rows_1 (clOf T k) (nat z)) (l := List.range n) (fun i => lR (rowsN z i)) rfl fun i a hi => by
      have hin : i < n := by
        have := (List.getElem?_eq_some_iff.mp hi).1
        simpa using this
      have hf : ((rowsN z i).flatMap fun r => (List.range z).map fun v => r ++ [v]).length ≤ 16777216 := by
        show (rowsN z (i+1)).length ≤ _
        rw [rowsN_len]
        exact Nat.le_trans (hzn _ hin) (by decide)
      simp only [L_all_rows_1, Sc_all_rows_1, seq_lR, Rs.bind_ok]
      rw [fm_ok (g := fun r => (List.range z).map fun v => r ++ [v]) (e2 := tN) hf]
      · rfl
      · intro r hr
        have hr1 := (rowsN_mem.mp hr).1
        rw [rng1_nat (by omega), Rs.bind_ok, mapL_ok (g := fun v => tN (r ++ [v])), List.map_map]
        · rfl
        · intro v _
          have := tupS_ok (l := r.map nat) (r := [nat v]) (by simp; omega) s
          simpa [tN] using this
    rwa [List.length_range] at this
  simp [S_all_rows, B_all_rows, rng1_nat (show n ≤ 1000000000 by omega), h1]
theorem s_power_of (h : H_power_of T) (hk : 1 ≤ k) {z n : Nat} (hz : z ≤ 1000) (hn : n ≤ 1000) : callF T k 5 [nat z, nat n] s = .ok (nat (z ^ n)) s := by
  obtain ⟨k, rfl, hj⟩ := lv hk
  rw [call_power_of h.f]
  have h1 : loopR (L_power_of_1 (clOf T k) (nat z)) ((List.range n).map nat) (nat 1) s = .ok (.nx (nat (z ^ n))) s := by
    have := loop_ok (s := s) (e := nat) (step := L_power_of_1 (clOf T k) (nat z)) (l := List.range n) (fun i => nat (z ^ i)) rfl fun i a hi => by
      simp (disch := omega) [L_power_of_1, bin_mul, Nat.pow_succ]
    rwa [List.length_range] at this
  simp [S_power_of, B_power_of, rng1_nat (show n ≤ 1000000000 by omega), h1]
theorem s_are_inputs (h : H_are_inputs T) (hk : 3 ≤ k) {z n : Nat} (hz : z ≤ 4) (hn : n ≤ 1000) : callF T k 6 [nat z, nat n] s = .ok (.bl (decide ((1 ≤ n ∧ n ≤ 8) ∧ z ^ n ≤ 256))) s := by
  obtain ⟨k, rfl, hj⟩ := lv hk
  rw [call_are_inputs h.f]
  simp [S_are_inputs, B_are_inputs, s_is_in h.is_in hj, s_power_of h.power_of (show 1 ≤ k by omega) (show z ≤ 1000 by omega) hn]
  by_cases h1 : 1 ≤ n ∧ n ≤ 8 <;> simp [h1]
theorem s_is_operation (h : H_is_operation T) (hk : 4 ≤ k) {z n : Nat} {tbl : List Nat} (o : IsOp z n tbl) : callF T k 7 [nat z, eOp n tbl] s = .ok (.bl true) s := by
  obtain ⟨k, rfl, hj⟩ := lv hk
  rw [call_is_operation h.f]
  obtain ⟨z1, z4, n1, n8, most, len, vals⟩ := o
  have h6 := s_are_inputs h.are_inputs hj z4 (show n ≤ 1000 by omega) (s := s)
  rw [decide_eq_true (show (1 ≤ n ∧ n ≤ 8) ∧ z ^ n ≤ 256 from ⟨⟨n1, n8⟩, most⟩)] at h6
  have h3 := s_is_row h.is_row (show 3 ≤ k by omega) (a := z ^ n) (l := tbl) z1 (by omega) (s := s)
  rw [decide_eq_true (show tbl.length = z ^ n ∧ ∀ x ∈ tbl, x < z from ⟨len, vals⟩)] at h3
  simp [S_is_operation, B_is_operation, h6, h3, s_power_of h.power_of (show 1 ≤ k by omega) (show z ≤ 1000 by omega) (show n ≤ 1000 by omega)]
theorem s_need_operation (h : H_need_operation T) (hk : 5 ≤ k) {z n : Nat} {tbl : List Nat} (o : IsOp z n tbl) : callF T k 8 [nat z, eOp n tbl] s = .ok .non s := by
  obtain ⟨k, rfl, hj⟩ := lv hk
  rw [call_need_operation h.f]
  simp [S_need_operation, B_need_operation, s_is_operation h.is_operation hj o]
theorem s_place_of (h : H_place_of T) (hk : 1 ≤ k) {z : Nat} {l : List Nat} {d : D} (hd : seqR d s = .ok (l.map nat) s) (hz : z ≤ 1000) : callF T k 9 [nat z, d] s = .ok (nat (placeN z l)) s := by
  obtain ⟨k, rfl, hj⟩ := lv hk
  rw [call_place_of h.f]
  obtain ⟨h1, _⟩ := loop_fold (s := s) (e := nat) (E := nat) (g := fun a x => a * z + x) (step := L_place_of_1 (clOf T k) (nat z)) (fun _ => True) (l := l) (t := 0) trivial fun x _ t _ => ⟨by
    simp (disch := omega) [L_place_of_1, bin_mul], trivial⟩
  simp [S_place_of, B_place_of, hd, h1, placeN]
theorem placeN_snoc (z : Nat) (l : List Nat) (v : Nat) : placeN z (l ++ [v]) = placeN z l * z + v := by simp [placeN]
theorem place_acc {z : Nat} : ∀ (l : List Nat) (a : Nat), (∀ x ∈ l, x < z) → l.foldl (fun a x => a * z + x) a < (a + 1) * z ^ l.length
  | [], a, _ => by simp
  | x :: l, a, h => by
    have h1 := place_acc l (a * z + x) fun y hy => h y (by simp [hy])
    have h2 := h x (by simp)
    rw [List.foldl_cons, List.length_cons, Nat.pow_succ, Nat.mul_comm (z ^ l.length) z, ← Nat.mul_assoc]
    refine Nat.lt_of_lt_of_le h1 (Nat.mul_le_mul_right _ ?_)
    rw [Nat.succ_mul]
    omega
theorem place_lt {z : Nat} {l : List Nat} (h : ∀ x ∈ l, x < z) : placeN z l < z ^ l.length := by
  have := place_acc l 0 h
  rwa [Nat.zero_add, Nat.one_mul] at this
theorem IsOp.place {z n : Nat} {tbl l : List Nat} (o : IsOp z n tbl) (hl : l.length = n) (h : ∀ x ∈ l, x < z) : placeN z l < tbl.length := by
  rw [o.len, ← hl]; exact place_lt h
theorem IsOp.val {z n : Nat} {tbl l : List Nat} (o : IsOp z n tbl) (hl : l.length = n) (h : ∀ x ∈ l, x < z) : valN z tbl l < z := by
  have hp := o.place hl h
  unfold valN
  rw [List.getD_eq_getElem?_getD, List.getElem?_eq_getElem hp]
  exact o.vals _ (List.getElem_mem hp)
theorem s_value_of (h : H_value_of T) (hk : 2 ≤ k) {z n : Nat} {tbl l : List Nat} {d : D} (hd : seqR d s = .ok (l.map nat) s) (o : IsOp z n tbl) (hl : l.length = n) (hv : ∀ x ∈ l, x < z) : callF T k 10 [nat z, eOp n tbl, d] s = .ok (nat (valN z tbl l)) s := by
  obtain ⟨k, rfl, hj⟩ := lv hk
  rw [call_value_of h.f]
  simp [S_value_of, B_value_of, s_place_of h.place_of hj hd (show z ≤ 1000 by have := o.z4; omega), sub_tN (o.place hl hv), valN]
theorem s_apply (h : H_apply T) (hk : 6 ≤ k) {z n : Nat} {tbl l : List Nat} (o : IsOp z n tbl) (hl : l.length = n) (hv : ∀ x ∈ l, x < z) : callF T k 11 [nat z, eOp n tbl, tN l] s = .ok (nat (valN z tbl l)) s := by
  obtain ⟨k, rfl, hj⟩ := lv hk
  rw [call_apply h.f]
  have h3 := s_is_row h.is_row (show 3 ≤ k by omega) (z := z) (a := n) (l := l) o.z1 (by have := o.n8; omega) (s := s)
  rw [decide_eq_true (show l.length = n ∧ ∀ x ∈ l, x < z from ⟨hl, hv⟩)] at h3
  simp [S_apply, B_apply, s_need_size h.need_size (show 3 ≤ k by omega) o.z1 o.z4, s_need_operation h.need_operation hj o, h3, s_value_of h.value_of (show 2 ≤ k by omega) (seq_tN l s) o hl hv]
theorem s_projection (h : H_projection T) (hk : 4 ≤ k) {z n p : Nat} (z1 : 1 ≤ z) (z4 : z ≤ 4) (n1 : 1 ≤ n) (n8 : n ≤ 8) (hm : z ^ n ≤ 256) (hp : p < n) :
    callF T k 12 [nat z, nat n, nat p] s = .ok (eOp n ((rowsN z n).map fun r => r.getD p 0)) s := by
  obtain ⟨k, rfl, hj⟩ := lv hk
  rw [call_projection h.f]
  have h6 := s_are_inputs h.are_inputs hj z4 (show n ≤ 1000 by omega) (s := s)
  rw [decide_eq_true (show (1 ≤ n ∧ n ≤ 8) ∧ z ^ n ≤ 256 from ⟨⟨n1, n8⟩, hm⟩)] at h6
  have h4 := s_all_rows h.all_rows (show 1 ≤ k by omega) (z := z) (n := n) (by omega) (by omega) (fun i hi => Nat.le_trans (Nat.pow_le_pow_right z1 hi) (by omega)) (s := s)
  have hc : Sc_projection_1 (clOf T k) (nat z) (nat n) (nat p) s = .ok (.lst ((rowsN z n).map fun r => nat (r.getD p 0))) s := by
    simp only [Sc_projection_1, Rs.bind_ok, run_clOf, h4, seq_lR]
    rw [map_ok (g := fun r => nat (r.getD p 0)) (by rw [rowsN_len]; omega)]
    intro r hr
    exact sub_tN (by rw [(rowsN_mem.mp hr).1]; exact hp) s
  simp [S_projection, B_projection, s_need_size h.need_size (show 3 ≤ k by omega) z1 z4, h6, s_is_in1 h.is_in (show 2 ≤ k by omega) n1, hp, hc, eOp, tN]
end
end Mi
namespace Mi
open PySem PySem.Spec
def b_law_taken : CSs :=
  (.cons (.ite (.val (.cmp .Gt (.sub (.var 0) (.cint 3)) (.cint 0)))
    (.cons (.asg (.nm 3) (.bin .Mod (.bfn .int (.cons (.sub (.var 0) (.cint 3)) .nil)) (.var 1)))
    (.cons (.setH (.var 0) (.cint 3) (.bin .FloorDiv (.sub (.var 0) (.cint 3)) (.var 1)))
    (.cons (.ret (.var 3))
    .nil)))
    .nil)
    (.cons (.setH (.var 0) (.cint 1) (.bin .Add (.sub (.var 0) (.cint 1)) (.cint 1)))
    (.cons (.ite (.val (.cmp .Gt (.sub (.var 0) (.cint 1)) (.bfn .len (.cons (.sub (.var 0) (.cint 0)) .nil))))
    (.cons (.setH (.var 0) (.cint 2) (.bin .Mod (.bfn .int (.cons (.bin .Add (.bin .Mult (.sub (.var 0) (.cint 2)) (.cint 48271)) (.cint 11)) .nil)) (.cint 2147483647)))
    (.cons (.ret (.bin .Mod (.bfn .int (.cons (.bin .FloorDiv (.sub (.var 0) (.cint 2)) (.cint 7)) .nil)) (.var 1)))
    .nil))
    .nil)
    (.cons (.asg (.nm 2) (.sub (.sub (.var 0) (.cint 0)) (.bin .Sub (.sub (.var 0) (.cint 1)) (.cint 1))))
    (.cons (.setH (.var 0) (.cint 2) (.bin .Mod (.bfn .int (.cons (.bin .Add (.bin .Add (.bin .Mult (.sub (.var 0) (.cint 2)) (.cint 48271)) (.var 2)) (.cint 11)) .nil)) (.cint 2147483647)))
    (.cons (.ite (.val (.cmp .GtE (.var 2) (.bin .Pow (.cint 10) (.cint 18))))
    (.cons (.setH (.var 0) (.cint 3) (.bin .FloorDiv (.var 2) (.var 1)))
    .nil)
    .nil)
    (.cons (.ret (.bin .Mod (.bfn .int (.cons (.var 2) .nil)) (.var 1)))
    .nil)))))))
def F_law_taken : Fn := ⟨2, 4, false, b_law_taken⟩
def J_law_taken_1 (C : Cl) (many1 : D) (cell2 : D) (s : Sto) : Rs (O3 (Unit)) := ((((Rs.ok [cell2] s).bind (bfnR .int)).bind fun x_160 s_161 => (binR .Mod x_160 many1 s_161)).bind fun d_158 s_159 => Rs.ok (O3.rt d_158) s_159)
theorem sim_J_law_taken_1 (C : Cl) (j0 : Option (Bool × D)) (many1 : D) (cell2 : D) (j3 : Option (Bool × D)) (s : Sto) : Sim false (fun _ _ => True) (evSs C ((.cons (.ret (.bin .Mod (.bfn .int (.cons (.var 2) .nil)) (.var 1)))
    .nil)) [j0, some (false, many1), some (false, cell2), j3] s) (J_law_taken_1 C many1 cell2 s) := (show Sim _ _ (evSs C _ [j0, some (false, many1), some (false, cell2), j3] s) _ from (sim_ret rfl rfl (fun z => nomatch z)))
def B_law_taken (C : Cl) (row0 many1 : D) (s : Sto) : Rs (O3 Unit) := ((((subR row0 (nat 3) s).bind fun x_3 s_4 => (cmpR .Gt x_3 (nat 0) s_4)).bind fun x_1 s_2 => (truR x_1 s_2)).bind fun b_166 s_9 => if b_166 then (((((subR row0 (nat 3) s_9).bind fun x_15 s_16 => Rs.ok [x_15] s_16).bind (bfnR .int)).bind fun x_13 s_14 => (binR .Mod x_13 many1 s_14)).bind fun found_11 s_12 => (((subR row0 (nat 3) s_12).bind fun x_28 s_29 => (binR .FloorDiv x_28 many1 s_29)).bind fun d_21 s_24 => ((Rs.ok row0 s_24).bind fun o_22 s_25 => ((Rs.ok (nat 3) s_25).bind fun k_23 s_26 => optK (setHS o_22 k_23 d_21 s_26) fun s_27 => ((Rs.ok found_11 s_27).bind fun d_32 s_33 => Rs.ok (O3.rt d_32) s_33))))) else (((subR row0 (nat 1) s_9).bind fun x_41 s_42 => (binR .Add x_41 (nat 1) s_42)).bind fun d_34 s_37 => ((Rs.ok row0 s_37).bind fun o_35 s_38 => ((Rs.ok (nat 1) s_38).bind fun k_36 s_39 => optK (setHS o_35 k_36 d_34 s_39) fun s_40 => ((((subR row0 (nat 1) s_40).bind fun x_47 s_48 => ((((subR row0 (nat 0) s_48).bind fun x_51 s_52 => Rs.ok [x_51] s_52).bind (bfnR .len)).bind fun x_49 s_50 => (cmpR .Gt x_47 x_49 s_50))).bind fun x_45 s_46 => (truR x_45 s_46)).bind fun b_165 s_61 => if b_165 then (((((((subR row0 (nat 2) s_61).bind fun x_76 s_77 => (binR .Mult x_76 (nat 48271) s_77)).bind fun x_74 s_75 => (binR .Add x_74 (nat 11) s_75)).bind fun x_72 s_73 => Rs.ok [x_72] s_73).bind (bfnR .int)).bind fun x_70 s_71 => (binR .Mod x_70 (nat 2147483647) s_71)).bind fun d_63 s_66 => ((Rs.ok row0 s_66).bind fun o_64 s_67 => ((Rs.ok (nat 2) s_67).bind fun k_65 s_68 => optK (setHS o_64 k_65 d_63 s_68) fun s_69 => ((((((subR row0 (nat 2) s_69).bind fun x_92 s_93 => (binR .FloorDiv x_92 (nat 7) s_93)).bind fun x_90 s_91 => Rs.ok [x_90] s_91).bind (bfnR .int)).bind fun x_88 s_89 => (binR .Mod x_88 many1 s_89)).bind fun d_86 s_87 => Rs.ok (O3.rt d_86) s_87)))) else (((subR row0 (nat 0) s_61).bind fun x_102 s_103 => (((subR row0 (nat 1) s_103).bind fun x_106 s_107 => (binR .Sub x_106 (nat 1) s_107)).bind fun x_104 s_105 => (subR x_102 x_104 s_105))).bind fun cell_100 s_101 => ((((((((subR row0 (nat 2) s_101).bind fun x_129 s_130 => (binR .Mult x_129 (nat 48271) s_130)).bind fun x_127 s_128 => (binR .Add x_127 cell_100 s_128)).bind fun x_125 s_126 => (binR .Add x_125 (nat 11) s_126)).bind fun x_123 s_124 => Rs.ok [x_123] s_124).bind (bfnR .int)).bind fun x_121 s_122 => (binR .Mod x_121 (nat 2147483647) s_122)).bind fun d_114 s_117 => ((Rs.ok row0 s_117).bind fun o_115 s_118 => ((Rs.ok (nat 2) s_118).bind fun k_116 s_119 => optK (setHS o_115 k_116 d_114 s_119) fun s_120 => ((((binR .Pow (nat 10) (nat 18) s_120).bind fun x_143 s_144 => (cmpR .GtE cell_100 x_143 s_144)).bind fun x_141 s_142 => (truR x_141 s_142)).bind fun b_164 s_149 => if b_164 then ((binR .FloorDiv cell_100 many1 s_149).bind fun d_151 s_154 => ((Rs.ok row0 s_154).bind fun o_152 s_155 => ((Rs.ok (nat 3) s_155).bind fun k_153 s_156 => optK (setHS o_152 k_153 d_151 s_156) fun s_157 => (J_law_taken_1 C many1 cell_100 s_157)))) else (J_law_taken_1 C many1 cell_100 s_149)))))))))))
def S_law_taken (C : Cl) (row0 many1 : D) (s : Sto) : Rs D := retK (B_law_taken C row0 many1 s)
theorem sim_law_taken (C : Cl) (row0 many1 : D) (s : Sto) : Sim false (fun _ _ => True) (evSs C b_law_taken [some (false, row0), some (false, many1), none, none] s) (B_law_taken C row0 many1 s) := (sim_ite rfl (fun s_9 => (show Sim _ _ (evSs C _ [some (false, row0), some (false, many1), none, none] s_9) _ from (sim_asg rfl rfl (show 3 < 4 from by decide) fun found_11 s_12 => (show Sim _ _ (evSs C _ [some (false, row0), some (false, many1), none, some (false, found_11)] s_12) _ from (sim_setH rfl (fun s_24 => rfl) (fun s_25 => rfl) rfl fun s_27 => (show Sim _ _ (evSs C _ [some (false, row0), some (false, many1), none, some (false, found_11)] s_27) _ from (sim_ret rfl rfl (fun z => nomatch z)))))))) (fun s_9 => (show Sim _ _ (evSs C _ [some (false, row0), some (false, many1), none, none] s_9) _ from (sim_setH rfl (fun s_37 => rfl) (fun s_38 => rfl) rfl fun s_40 => (show Sim _ _ (evSs C _ [some (false, row0), some (false, many1), none, none] s_40) _ from (sim_ite rfl (fun s_61 => (show Sim _ _ (evSs C _ [some (false, row0), some (false, many1), none, none] s_61) _ from (sim_setH rfl (fun s_66 => rfl) (fun s_67 => rfl) rfl fun s_69 => (show Sim _ _ (evSs C _ [some (false, row0), some (false, many1), none, none] s_69) _ from (sim_ret rfl rfl (fun z => nomatch z)))))) (fun s_61 => (show Sim _ _ (evSs C _ [some (false, row0), some (false, many1), none, none] s_61) _ from (sim_asg rfl rfl (show 2 < 4 from by decide) fun cell_100 s_101 => (show Sim _ _ (evSs C _ [some (false, row0), some (false, many1), some (false, cell_100), none] s_101) _ from (sim_setH rfl (fun s_117 => rfl) (fun s_118 => rfl) rfl fun s_120 => (show Sim _ _ (evSs C _ [some (false, row0), some (false, many1), some (false, cell_100), none] s_120) _ from (sim_ite rfl (fun s_149 => (show Sim _ _ (evSs C _ [some (false, row0), some (false, many1), some (false, cell_100), none] s_149) _ from (sim_setH rfl (fun s_154 => rfl) (fun s_155 => rfl) rfl fun s_157 => (show Sim _ _ (evSs C _ [some (false, row0), some (false, many1), some (false, cell_100), none] s_157) _ from (sim_J_law_taken_1 C (some (false, row0)) many1 cell_100 none s_157))))) (fun s_149 => (show Sim _ _ (evSs C _ [some (false, row0), some (false, many1), some (false, cell_100), none] s_149) _ from (sim_J_law_taken_1 C (some (false, row0)) many1 cell_100 none s_149))))))))))))))))
theorem call_law_taken {T : Tab} (h : T 15 = some F_law_taken) (k : Nat) (row0 many1 : D) (s : Sto) : callF T (k + 1) 15 [row0, many1] s = S_law_taken (clOf T k) row0 many1 s := call_sim h rfl (sim_law_taken (clOf T k) row0 many1 s)
structure H_law_taken (T : Tab) : Prop where
  f : T 15 = some F_law_taken
end Mi
namespace Mi
open PySem PySem.Spec
def c_law_alike_1 : CE :=
  (.comp (.nm 2) (.range1 (.bfn .len (.cons (.var 1) .nil))) (.cons (.not (.val (.call 16 (.cons (.sub (.var 0) (.var 2)) (.cons (.sub (.var 1) (.var 2)) .nil))))) .nil) (.var 2) [2])
def b_law_alike : CSs :=
  (.cons (.ite (.val (.isi (.var 1) [.tuple, .list] false))
    (.cons (.ite (.or (.cons (.not (.val (.isi (.var 0) [.tuple, .list] false))) (.cons (.val (.cmp .NotEq (.isi (.var 0) [.list] true) (.isi (.var 1) [.list] true))) .nil)))
    (.cons (.ret (.cbl false))
    .nil)
    .nil)
    (.cons (.ite (.val (.cmp .NotEq (.bfn .len (.cons (.var 0) .nil)) (.bfn .len (.cons (.var 1) .nil))))
    (.cons (.ret (.cbl false))
    .nil)
    .nil)
    (.cons (.ret (.cmp .Eq c_law_alike_1 (.lst .nil)))
    .nil)))
    .nil)
    (.cons (.ite (.or (.cons (.val (.cmp .Is (.var 1) .cnon)) (.cons (.val (.isi (.var 1) [.str] true)) .nil)))
    (.cons (.ret (.and (.cons (.cmp .Eq (.var 0) (.var 1)) (.cons (.cmp .Eq (.isi (.var 0) [.str] true) (.isi (.var 1) [.str] true)) .nil))))
    .nil)
    .nil)
    (.cons (.ret (.and (.cons (.isi (.var 0) [.int] true) (.cons (.cmp .Eq (.isi (.var 0) [.bool] true) (.isi (.var 1) [.bool] true)) (.cons (.cmp .Eq (.var 0) (.var 1)) .nil)))))
    .nil)))
def F_law_alike : Fn := ⟨2, 3, false, b_law_alike⟩
def Sc_law_alike_1 (C : Cl) (found0 : D) (due1 : D) (s : Sto) : Rs D := ((((Rs.ok [due1] s).bind (bfnR .len)).bind fun x_1 s_2 => (rng1R x_1 s_2)).bind (filR fun x s => (keepR (((((subR found0 x s).bind fun x_9 s_10 => (((subR due1 x s_10).bind fun x_11 s_12 => Rs.ok [x_11] s_12).bind fun xs_13 s_14 => Rs.ok (x_9 :: xs_13) s_14)).bind (C.run 16)).bind fun x_7 s_8 => (truR x_7 s_8)).bind fun b_5 s_6 => Rs.ok (!b_5) s_6) fun s => (Rs.ok x s))))
theorem e_c_law_alike_1 (C : Cl) (found0 : D) (due1 : D) (s : Sto) : evE C c_law_alike_1 [some (false, found0), some (false, due1), none] s = Sc_law_alike_1 C found0 due1 s := compf_sh rfl fun x s => rfl
def B_law_alike (C : Cl) (found0 due1 : D) (s : Sto) : Rs (O3 Unit) := (((isiR [.tuple, .list] due1 s).bind fun x_1 s_2 => (truR x_1 s_2)).bind fun b_134 s_5 => if b_134 then (((((isiR [.tuple, .list] found0 s_5).bind fun x_11 s_12 => (truR x_11 s_12)).bind fun b_9 s_10 => Rs.ok (!b_9) s_10).bind fun b_7 s_8 => if b_7 then Rs.ok true s_8 else ((((isiR [.list] found0 s_8).bind fun x_17 s_18 => ((isiR [.list] due1 s_18).bind fun x_19 s_20 => (cmpR .NotEq x_17 x_19 s_20))).bind fun x_15 s_16 => (truR x_15 s_16)).bind fun b_13 s_14 => if b_13 then Rs.ok true s_14 else (Rs.ok false s_14))).bind fun b_66 s_35 => if b_66 then ((Rs.ok (D.bl false) s_35).bind fun d_37 s_38 => Rs.ok (O3.rt d_37) s_38) else (((((Rs.ok [found0] s_35).bind (bfnR .len)).bind fun x_41 s_42 => (((Rs.ok [due1] s_42).bind (bfnR .len)).bind fun x_43 s_44 => (cmpR .NotEq x_41 x_43 s_44))).bind fun x_39 s_40 => (truR x_39 s_40)).bind fun b_65 s_51 => if b_65 then ((Rs.ok (D.bl false) s_51).bind fun d_53 s_54 => Rs.ok (O3.rt d_53) s_54) else (((Sc_law_alike_1 C found0 due1 s_51).bind fun x_57 s_58 => (((Rs.ok [] s_58).bind lstR).bind fun x_59 s_60 => (cmpR .Eq x_57 x_59 s_60))).bind fun d_55 s_56 => Rs.ok (O3.rt d_55) s_56))) else ((((cmpR .Is due1 D.non s_5).bind fun x_69 s_70 => (truR x_69 s_70)).bind fun b_67 s_68 => if b_67 then Rs.ok true s_68 else (((isiR [.str] due1 s_68).bind fun x_73 s_74 => (truR x_73 s_74)).bind fun b_71 s_72 => if b_71 then Rs.ok true s_72 else (Rs.ok false s_72))).bind fun b_133 s_83 => if b_133 then ((((cmpR .Eq found0 due1 s_83).bind fun x_89 s_90 => (andK x_89 s_90 (((isiR [.str] found0 s_90).bind fun x_93 s_94 => ((isiR [.str] due1 s_94).bind fun x_95 s_96 => (cmpR .Eq x_93 x_95 s_96))).bind fun x_91 s_92 => (blR x_91 s_92)))).bind fun b_87 s_88 => Rs.ok (D.bl b_87) s_88).bind fun d_85 s_86 => Rs.ok (O3.rt d_85) s_86) else ((((isiR [.int] found0 s_83).bind fun x_111 s_112 => (andK x_111 s_112 (((isiR [.bool] found0 s_112).bind fun x_115 s_116 => ((isiR [.bool] due1 s_116).bind fun x_117 s_118 => (cmpR .Eq x_115 x_117 s_118))).bind fun x_113 s_114 => (andK x_113 s_114 ((cmpR .Eq found0 due1 s_114).bind fun x_119 s_120 => (blR x_119 s_120)))))).bind fun b_109 s_110 => Rs.ok (D.bl b_109) s_110).bind fun d_107 s_108 => Rs.ok (O3.rt d_107) s_108)))
def S_law_alike (C : Cl) (found0 due1 : D) (s : Sto) : Rs D := retK (B_law_alike C found0 due1 s)
theorem sim_law_alike (C : Cl) (found0 due1 : D) (s : Sto) : Sim false (fun _ _ => True) (evSs C b_law_alike [some (false, found0), some (false, due1), none] s) (B_law_alike C found0 due1 s) := (sim_ite rfl (fun s_5 => (show Sim _ _ (evSs C _ [some (false, found0), some (false, due1), none] s_5) _ from (sim_ite rfl (fun s_35 => (show Sim _ _ (evSs C _ [some (false, found0), some (false, due1), none] s_35) _ from (sim_ret rfl rfl (fun z => nomatch z)))) (fun s_35 => (show Sim _ _ (evSs C _ [some (false, found0), some (false, due1), none] s_35) _ from (sim_ite rfl (fun s_51 => (show Sim _ _ (evSs C _ [some (false, found0), some (false, due1), none] s_51) _ from (sim_ret rfl rfl (fun z => nomatch z)))) (fun s_51 => (show Sim _ _ (evSs C _ [some (false, found0), some (false, due1), none] s_51) _ from (sim_ret (by show ((evE C c_law_alike_1 [some (false, found0), some (false, due1), none] s_51).bind fun x_61 s_62 => (((Rs.ok [] s_62).bind lstR).bind fun x_63 s_64 => (cmpR .Eq x_61 x_63 s_64))) = _; simp only [e_c_law_alike_1]) rfl (fun z => nomatch z)))))))))) (fun s_5 => (show Sim _ _ (evSs C _ [some (false, found0), some (false, due1), none] s_5) _ from (sim_ite rfl (fun s_83 => (show Sim _ _ (evSs C _ [some (false, found0), some (false, due1), none] s_83) _ from (sim_ret rfl rfl (fun z => nomatch z)))) (fun s_83 => (show Sim _ _ (evSs C _ [some (false, found0), some (false, due1), none] s_83) _ from (sim_ret rfl rfl (fun z => nomatch z))))))))
theorem call_law_alike {T : Tab} (h : T 16 = some F_law_alike) (k : Nat) (found0 due1 : D) (s : Sto) : callF T (k + 1) 16 [found0, due1] s = S_law_alike (clOf T k) found0 due1 s := call_sim h rfl (sim_law_alike (clOf T k) found0 due1 s)
structure H_law_alike (T : Tab) : Prop where
  f : T 16 = some F_law_alike
end Mi
namespace Mi
open PySem PySem.Spec
def c_law_rows_1 : CE :=
  (.comp (.nm 6) (.range1 (.var 0)) .nil (.bin .Add (.var 5) (.tup (.cons (.var 6) .nil))) [6])
def bl_law_rows_2 : CSs :=
  (.cons (.asg (.nm 4) (.bin .Add (.var 4) c_law_rows_1))
    .nil)
def bl_law_rows_3 : CSs :=
  (.cons (.asg (.nm 4) (.lst .nil))
    (.cons (.forr (.nm 5) (.seq (.var 2)) bl_law_rows_2)
    (.cons (.asg (.nm 2) (.var 4))
    .nil)))
def b_law_rows : CSs :=
  (.cons (.asg (.nm 2) (.lst (.cons (.tup .nil) .nil)))
    (.cons (.forr (.nm 3) (.range1 (.var 1)) bl_law_rows_3)
    (.cons (.ret (.var 2))
    .nil)))
def F_law_rows : Fn := ⟨2, 7, false, b_law_rows⟩
def Sc_law_rows_1 (C : Cl) (size0 : D) (told5 : D) (s : Sto) : Rs D := ((rng1R size0 s).bind (mapR fun x s => (((Rs.ok [x] s).bind tupR).bind fun x_1 s_2 => (binR .Add told5 x_1 s_2))))
theorem e_c_law_rows_1 (C : Cl) (size0 : D) (arity1 : D) (found2 : D) (turn3 : D) (more4 : D) (told5 : D) (s : Sto) : evE C c_law_rows_1 [some (false, size0), some (false, arity1), some (false, found2), some (false, turn3), some (false, more4), some (false, told5), none] s = Sc_law_rows_1 C size0 told5 s := comp_sh rfl fun x s => rfl
def L_law_rows_2 (C : Cl) (size0 : D) (x : D) (st : D) (s : Sto) : Rs (O3 (D)) := (((Sc_law_rows_1 C size0 x s).bind fun x_15 s_16 => (binR .Add st x_15 s_16)).bind fun more_13 s_14 => (Rs.ok (O3.nx more_13) s_14))
theorem sim_L_law_rows_2 (C : Cl) (size0 : D) (arity1 : D) (found2 : D) (turn3 : D) (j5 : Option (Bool × D)) (x : D) (st : D) (s : Sto) : Sim false (fun (q_12st : D) (q_12e : MEnv) => ∃ (q_12j5 : Option (Bool × D)), q_12e = [some (false, size0), some (false, arity1), some (false, found2), some (false, turn3), some (false, q_12st), q_12j5, none]) (bindK (bindT (.nm 5) x [some (false, size0), some (false, arity1), some (false, found2), some (false, turn3), some (false, st), j5, none]) fun e1 => evSs C bl_law_rows_2 e1 s) (L_law_rows_2 C size0 x st s) := (show Sim _ _ (evSs C _ [some (false, size0), some (false, arity1), some (false, found2), some (false, turn3), some (false, st), some (false, x), none] s) _ from (sim_asg (by show ((evE C c_law_rows_1 [some (false, size0), some (false, arity1), some (false, found2), some (false, turn3), some (false, st), some (false, x), none] s).bind fun x_17 s_18 => (binR .Add st x_17 s_18)) = _; simp only [e_c_law_rows_1]) rfl (show 4 < 7 from by decide) fun more_13 s_14 => (show Sim _ _ (evSs C _ [some (false, size0), some (false, arity1), some (false, found2), some (false, turn3), some (false, more_13), some (false, x), none] s_14) _ from (sim_nil ⟨_, rfl⟩))))
def L_law_rows_1 (C : Cl) (size0 : D) (x : D) (st : D) (s : Sto) : Rs (O3 (D)) := (((Rs.ok [] s).bind lstR).bind fun more_9 s_10 => ((seqR st s_10).bind fun xs_28 s_29 => o2K (loopR (L_law_rows_2 C size0) xs_28 more_9 s_29) fun st_19 s_20 => ((Rs.ok st_19 s_20).bind fun found_22 s_23 => (Rs.ok (O3.nx found_22) s_23))))
theorem sim_L_law_rows_1 (C : Cl) (size0 : D) (arity1 : D) (j3 : Option (Bool × D)) (j4 : Option (Bool × D)) (j5 : Option (Bool × D)) (x : D) (st : D) (s : Sto) : Sim false (fun (q_8st : D) (q_8e : MEnv) => ∃ (q_8j3 : Option (Bool × D)) (q_8j4 : Option (Bool × D)) (q_8j5 : Option (Bool × D)), q_8e = [some (false, size0), some (false, arity1), some (false, q_8st), q_8j3, q_8j4, q_8j5, none]) (bindK (bindT (.nm 3) x [some (false, size0), some (false, arity1), some (false, st), j3, j4, j5, none]) fun e1 => evSs C bl_law_rows_3 e1 s) (L_law_rows_1 C size0 x st s) := (show Sim _ _ (evSs C _ [some (false, size0), some (false, arity1), some (false, st), some (false, x), j4, j5, none] s) _ from (sim_asg rfl rfl (show 4 < 7 from by decide) fun more_9 s_10 => (show Sim _ _ (evSs C _ [some (false, size0), some (false, arity1), some (false, st), some (false, x), some (false, more_9), j5, none] s_10) _ from (sim_for (fun (q_11st : D) (q_11e : MEnv) => ∃ (q_11j5 : Option (Bool × D)), q_11e = [some (false, size0), some (false, arity1), some (false, st), some (false, x), some (false, q_11st), q_11j5, none]) rfl ⟨_, rfl⟩ (by rintro x_26 st_24 _ s_25 ⟨j_27, rfl⟩; exact sim_L_law_rows_2 C size0 arity1 st x j_27 x_26 st_24 s_25) (by rintro st_19 _ s_20 ⟨j_21, rfl⟩; exact (show Sim _ _ (evSs C _ [some (false, size0), some (false, arity1), some (false, st), some (false, x), some (false, st_19), j_21, none] s_20) _ from (sim_asg rfl rfl (show 2 < 7 from by decide) fun found_22 s_23 => (show Sim _ _ (evSs C _ [some (false, size0), some (false, arity1), some (false, found_22), some (false, x), some (false, st_19), j_21, none] s_23) _ from (sim_nil ⟨_, _, _, rfl⟩)))))))))
def B_law_rows (C : Cl) (size0 arity1 : D) (s : Sto) : Rs (O3 Unit) := (((((Rs.ok [] s).bind tupR).bind fun x_3 s_4 => Rs.ok [x_3] s_4).bind lstR).bind fun found_1 s_2 => ((rng1R arity1 s_2).bind fun xs_43 s_44 => o2K (loopR (L_law_rows_1 C size0) xs_43 found_1 s_44) fun st_30 s_31 => ((Rs.ok st_30 s_31).bind fun d_35 s_36 => Rs.ok (O3.rt d_35) s_36)))
def S_law_rows (C : Cl) (size0 arity1 : D) (s : Sto) : Rs D := retK (B_law_rows C size0 arity1 s)
theorem sim_law_rows (C : Cl) (size0 arity1 : D) (s : Sto) : Sim false (fun _ _ => True) (evSs C b_law_rows [some (false, size0), some (false, arity1), none, none, none, none, none] s) (B_law_rows C size0 arity1 s) := (sim_asg rfl rfl (show 2 < 7 from by decide) fun found_1 s_2 => (show Sim _ _ (evSs C _ [some (false, size0), some (false, arity1), some (false, found_1), none, none, none, none] s_2) _ from (sim_for (fun (q_7st : D) (q_7e : MEnv) => ∃ (q_7j3 : Option (Bool × D)) (q_7j4 : Option (Bool × D)) (q_7j5 : Option (Bool × D)), q_7e = [some (false, size0), some (false, arity1), some (false, q_7st), q_7j3, q_7j4, q_7j5, none]) rfl ⟨_, _, _, rfl⟩ (by rintro x_39 st_37 _ s_38 ⟨j_40, j_41, j_42, rfl⟩; exact sim_L_law_rows_1 C size0 arity1 j_40 j_41 j_42 x_39 st_37 s_38) (by rintro st_30 _ s_31 ⟨j_32, j_33, j_34, rfl⟩; exact (show Sim _ _ (evSs C _ [some (false, size0), some (false, arity1), some (false, st_30), j_32, j_33, j_34, none] s_31) _ from (sim_ret rfl rfl (fun z => nomatch z)))))))
theorem call_law_rows {T : Tab} (h : T 17 = some F_law_rows) (k : Nat) (size0 arity1 : D) (s : Sto) : callF T (k + 1) 17 [size0, arity1] s = S_law_rows (clOf T k) size0 arity1 s := call_sim h rfl (sim_law_rows (clOf T k) size0 arity1 s)
structure H_law_rows (T : Tab) : Prop where
  f : T 17 = some F_law_rows
end Mi
namespace Mi
open PySem PySem.Spec
def bl_law_value_1 : CSs :=
  (.cons (.asg (.nm 3) (.bin .Add (.bin .Mult (.var 3) (.var 0)) (.var 4)))
    .nil)
def b_law_value : CSs :=
  (.cons (.asg (.nm 3) (.cint 0))
    (.cons (.forr (.nm 4) (.seq (.var 2)) bl_law_value_1)
    (.cons (.ret (.sub (.sub (.var 1) (.cint 1)) (.var 3)))
    .nil)))
def F_law_value : Fn := ⟨3, 5, false, b_law_value⟩
def L_law_value_1 (C : Cl) (size0 : D) (operation1 : D) (x : D) (st : D) (s : Sto) : Rs (O3 (D)) := (((binR .Mult st size0 s).bind fun x_7 s_8 => (binR .Add x_7 x s_8)).bind fun at_5 s_6 => (Rs.ok (O3.nx at_5) s_6))
theorem sim_L_law_value_1 (C : Cl) (size0 : D) (operation1 : D) (arguments2 : D) (j4 : Option (Bool × D)) (x : D) (st : D) (s : Sto) : Sim false (fun (q_4st : D) (q_4e : MEnv) => ∃ (q_4j4 : Option (Bool × D)), q_4e = [some (false, size0), some (false, operation1), some (false, arguments2), some (false, q_4st), q_4j4]) (bindK (bindT (.nm 4) x [some (false, size0), some (false, operation1), some (false, arguments2), some (false, st), j4]) fun e1 => evSs C bl_law_value_1 e1 s) (L_law_value_1 C size0 operation1 x st s) := (show Sim _ _ (evSs C _ [some (false, size0), some (false, operation1), some (false, arguments2), some (false, st), some (false, x)] s) _ from (sim_asg rfl rfl (show 3 < 5 from by decide) fun at_5 s_6 => (show Sim _ _ (evSs C _ [some (false, size0), some (false, operation1), some (false, arguments2), some (false, at_5), some (false, x)] s_6) _ from (sim_nil ⟨_, rfl⟩))))
def B_law_value (C : Cl) (size0 operation1 arguments2 : D) (s : Sto) : Rs (O3 Unit) := ((Rs.ok (nat 0) s).bind fun at_1 s_2 => ((seqR arguments2 s_2).bind fun xs_24 s_25 => o2K (loopR (L_law_value_1 C size0 operation1) xs_24 at_1 s_25) fun st_11 s_12 => (((subR operation1 (nat 1) s_12).bind fun x_16 s_17 => (subR x_16 st_11 s_17)).bind fun d_14 s_15 => Rs.ok (O3.rt d_14) s_15)))
def S_law_value (C : Cl) (size0 operation1 arguments2 : D) (s : Sto) : Rs D := retK (B_law_value C size0 operation1 arguments2 s)
theorem sim_law_value (C : Cl) (size0 operation1 arguments2 : D) (s : Sto) : Sim false (fun _ _ => True) (evSs C b_law_value [some (false, size0), some (false, operation1), some (false, arguments2), none, none] s) (B_law_value C size0 operation1 arguments2 s) := (sim_asg rfl rfl (show 3 < 5 from by decide) fun at_1 s_2 => (show Sim _ _ (evSs C _ [some (false, size0), some (false, operation1), some (false, arguments2), some (false, at_1), none] s_2) _ from (sim_for (fun (q_3st : D) (q_3e : MEnv) => ∃ (q_3j4 : Option (Bool × D)), q_3e = [some (false, size0), some (false, operation1), some (false, arguments2), some (false, q_3st), q_3j4]) rfl ⟨_, rfl⟩ (by rintro x_22 st_20 _ s_21 ⟨j_23, rfl⟩; exact sim_L_law_value_1 C size0 operation1 arguments2 j_23 x_22 st_20 s_21) (by rintro st_11 _ s_12 ⟨j_13, rfl⟩; exact (show Sim _ _ (evSs C _ [some (false, size0), some (false, operation1), some (false, arguments2), some (false, st_11), j_13] s_12) _ from (sim_ret rfl rfl (fun z => nomatch z)))))))
theorem call_law_value {T : Tab} (h : T 18 = some F_law_value) (k : Nat) (size0 operation1 arguments2 : D) (s : Sto) : callF T (k + 1) 18 [size0, operation1, arguments2] s = S_law_value (clOf T k) size0 operation1 arguments2 s := call_sim h rfl (sim_law_value (clOf T k) size0 operation1 arguments2 s)
structure H_law_value (T : Tab) : Prop where
  f : T 18 = some F_law_value
end Mi
namespace Mi
open PySem PySem.Spec
def c_law_operation_1 : CE :=
  (.comp (.nm 3) (.seq (.call 17 (.cons (.var 1) (.cons (.var 2) .nil)))) .nil (.call 15 (.cons (.var 0) (.cons (.var 1) .nil))) [3])
def b_law_operation : CSs :=
  (.cons (.ret (.tup (.cons (.var 2) (.cons (.bfn .tuple (.cons c_law_operation_1 .nil)) .nil))))
    .nil)
def F_law_operation : Fn := ⟨3, 4, false, b_law_operation⟩
def Sc_law_operation_1 (C : Cl) (row0 : D) (size1 : D) (arity2 : D) (s : Sto) : Rs D := ((((Rs.ok [size1, arity2] s).bind (C.run 17)).bind fun x_1 s_2 => (seqR x_1 s_2)).bind (mapR fun x s => ((Rs.ok [row0, size1] s).bind (C.run 15))))
theorem e_c_law_operation_1 (C : Cl) (row0 : D) (size1 : D) (arity2 : D) (s : Sto) : evE C c_law_operation_1 [some (false, row0), some (false, size1), some (false, arity2), none] s = Sc_law_operation_1 C row0 size1 arity2 s := comp_sh rfl fun x s => rfl
def B_law_operation (C : Cl) (row0 size1 arity2 : D) (s : Sto) : Rs (O3 Unit) := (((((((Sc_law_operation_1 C row0 size1 arity2 s).bind fun x_5 s_6 => Rs.ok [x_5] s_6).bind (bfnR .tuple)).bind fun x_3 s_4 => Rs.ok [x_3] s_4).bind fun xs_7 s_8 => Rs.ok (arity2 :: xs_7) s_8).bind tupR).bind fun d_1 s_2 => Rs.ok (O3.rt d_1) s_2)
def S_law_operation (C : Cl) (row0 size1 arity2 : D) (s : Sto) : Rs D := retK (B_law_operation C row0 size1 arity2 s)
theorem sim_law_operation (C : Cl) (row0 size1 arity2 : D) (s : Sto) : Sim false (fun _ _ => True) (evSs C b_law_operation [some (false, row0), some (false, size1), some (false, arity2), none] s) (B_law_operation C row0 size1 arity2 s) := (sim_ret (by show ((((((evE C c_law_operation_1 [some (false, row0), some (false, size1), some (false, arity2), none] s).bind fun x_11 s_12 => Rs.ok [x_11] s_12).bind (bfnR .tuple)).bind fun x_9 s_10 => Rs.ok [x_9] s_10).bind fun xs_13 s_14 => Rs.ok (arity2 :: xs_13) s_14).bind tupR) = _; simp only [e_c_law_operation_1]) rfl (fun z => nomatch z))
theorem call_law_operation {T : Tab} (h : T 19 = some F_law_operation) (k : Nat) (row0 size1 arity2 : D) (s : Sto) : callF T (k + 1) 19 [row0, size1, arity2] s = S_law_operation (clOf T k) row0 size1 arity2 s := call_sim h rfl (sim_law_operation (clOf T k) row0 size1 arity2 s)
structure H_law_operation (T : Tab) : Prop where
  f : T 19 = some F_law_operation
  law_taken : H_law_taken T
  law_rows : H_law_rows T
end Mi
namespace Mi
open PySem PySem.Spec
def c_law_1 : CE :=
  (.comp (.nm 11) (.range1 (.var 9)) .nil (.call 19 (.cons (.var 1) (.cons (.var 2) (.cons (.var 10) .nil)))) [11])
def c_law_2 : CE :=
  (.comp (.nm 11) (.range1 (.var 9)) .nil (.call 15 (.cons (.var 1) (.cons (.var 2) .nil))) [11])
def c_law_3 : CE :=
  (.comp (.nm 8) (.seq (.call 17 (.cons (.var 2) (.cons (.var 10) .nil)))) .nil (.sub (.var 8) (.var 6)) [8])
def c_law_4 : CE :=
  (.comp (.nm 12) (.seq (.var 4)) .nil (.call 18 (.cons (.var 2) (.cons (.var 12) (.cons (.var 8) .nil)))) [12])
def bl_law_5 : CSs :=
  (.cons (.app 7 (.call 18 (.cons (.var 2) (.cons (.var 3) (.cons c_law_4 .nil)))))
    .nil)
def b_law : CSs :=
  (.cons (.asg (.nm 1) (.heap (.lst (.cons (.var 0) (.cons (.cint 0) (.cons (.cint 3202) (.cons (.cint 0) .nil)))))))
    (.cons (.asg (.nm 2) (.bin .Add (.cint 1) (.call 15 (.cons (.var 1) (.cons (.cint 4) .nil)))))
    (.cons (.par false 9 false 10 (.bin .Add (.cint 1) (.call 15 (.cons (.var 1) (.cons (.cint 3) .nil)))) (.bin .Add (.cint 1) (.call 15 (.cons (.var 1) (.cons (.cint 3) .nil)))))
    (.cons (.ite (.and (.cons (.val (.cmp .Lt (.var 2) (.cint 4))) (.cons (.val (.cmp .Eq (.call 15 (.cons (.var 1) (.cons (.cint 4) .nil))) (.cint 0))) .nil)))
    (.cons (.asg (.nm 9) (.cint 4))
    .nil)
    .nil)
    (.cons (.asg (.nm 3) (.call 19 (.cons (.var 1) (.cons (.var 2) (.cons (.var 9) .nil)))))
    (.cons (.asg (.nm 4) (.bfn .tuple (.cons c_law_1 .nil)))
    (.cons (.asg (.nm 5) (.bfn .tuple (.cons c_law_2 .nil)))
    (.cons (.ite (.not (.val (.call 16 (.cons (.call 11 (.cons (.var 2) (.cons (.var 3) (.cons (.var 5) .nil)))) (.cons (.call 18 (.cons (.var 2) (.cons (.var 3) (.cons (.var 5) .nil)))) .nil)))))
    (.cons (.ret (.cbl false))
    .nil)
    .nil)
    (.cons (.asg (.nm 6) (.call 15 (.cons (.var 1) (.cons (.var 10) .nil))))
    (.cons (.asg (.nm 7) (.bfn .tuple (.cons c_law_3 .nil)))
    (.frz 7 (.cons (.ite (.not (.val (.call 16 (.cons (.call 12 (.cons (.var 2) (.cons (.var 10) (.cons (.var 6) .nil)))) (.cons (.tup (.cons (.var 10) (.cons (.var 7) .nil))) .nil)))))
    (.cons (.ret (.cbl false))
    .nil)
    .nil)
    (.cons (.asgO 7 (.lst .nil))
    (.cons (.forr (.nm 8) (.seq (.call 17 (.cons (.var 2) (.cons (.var 10) .nil)))) bl_law_5)
    (.cons (.ret (.call 16 (.cons (.call 14 (.cons (.var 2) (.cons (.var 3) (.cons (.var 4) .nil)))) (.cons (.tup (.cons (.var 10) (.cons (.bfn .tuple (.cons (.var 7) .nil)) .nil))) .nil))))
    .nil)))))))))))))))
def F_law : Fn := ⟨1, 13, false, b_law⟩
def Sc_law_1 (C : Cl) (row1 : D) (size2 : D) (arity9 : D) (many10 : D) (s : Sto) : Rs D := ((rng1R arity9 s).bind (mapR fun x s => ((Rs.ok [row1, size2, many10] s).bind (C.run 19))))
theorem e_c_law_1 (C : Cl) (j0 : Option (Bool × D)) (row1 : D) (size2 : D) (outer3 : D) (j4 : Option (Bool × D)) (j5 : Option (Bool × D)) (j6 : Option (Bool × D)) (j7 : Option (Bool × D)) (j8 : Option (Bool × D)) (arity9 : D) (many10 : D) (j11 : Option (Bool × D)) (j12 : Option (Bool × D)) (s : Sto) : evE C c_law_1 [j0, some (false, row1), some (false, size2), some (false, outer3), j4, j5, j6, j7, j8, some (false, arity9), some (false, many10), j11, j12] s = Sc_law_1 C row1 size2 arity9 many10 s := comp_sh rfl fun x s => rfl
def Sc_law_2 (C : Cl) (row1 : D) (size2 : D) (arity9 : D) (s : Sto) : Rs D := ((rng1R arity9 s).bind (mapR fun x s => ((Rs.ok [row1, size2] s).bind (C.run 15))))
theorem e_c_law_2 (C : Cl) (j0 : Option (Bool × D)) (row1 : D) (size2 : D) (outer3 : D) (inner4 : D) (j5 : Option (Bool × D)) (j6 : Option (Bool × D)) (j7 : Option (Bool × D)) (j8 : Option (Bool × D)) (arity9 : D) (many10 : D) (j11 : Option (Bool × D)) (j12 : Option (Bool × D)) (s : Sto) : evE C c_law_2 [j0, some (false, row1), some (false, size2), some (false, outer3), some (false, inner4), j5, j6, j7, j8, some (false, arity9), some (false, many10), j11, j12] s = Sc_law_2 C row1 size2 arity9 s := comp_sh rfl fun x s => rfl
def Sc_law_3 (C : Cl) (size2 : D) (place6 : D) (many10 : D) (s : Sto) : Rs D := ((((Rs.ok [size2, many10] s).bind (C.run 17)).bind fun x_1 s_2 => (seqR x_1 s_2)).bind (mapR fun x s => (subR x place6 s)))
theorem e_c_law_3 (C : Cl) (j0 : Option (Bool × D)) (row1 : D) (size2 : D) (outer3 : D) (inner4 : D) (told5 : D) (place6 : D) (j7 : Option (Bool × D)) (j8 : Option (Bool × D)) (arity9 : D) (many10 : D) (j11 : Option (Bool × D)) (j12 : Option (Bool × D)) (s : Sto) : evE C c_law_3 [j0, some (false, row1), some (false, size2), some (false, outer3), some (false, inner4), some (false, told5), some (false, place6), j7, j8, some (false, arity9), some (false, many10), j11, j12] s = Sc_law_3 C size2 place6 many10 s := comp_sh rfl fun x s => rfl
def Sc_law_4 (C : Cl) (size2 : D) (inner4 : D) (some8 : D) (s : Sto) : Rs D := ((seqR inner4 s).bind (mapR fun x s => ((Rs.ok [size2, x, some8] s).bind (C.run 18))))
theorem e_c_law_4 (C : Cl) (j0 : Option (Bool × D)) (row1 : D) (size2 : D) (outer3 : D) (inner4 : D) (told5 : D) (place6 : D) (due7 : D) (some8 : D) (arity9 : D) (many10 : D) (j11 : Option (Bool × D)) (j12 : Option (Bool × D)) (s : Sto) : evE C c_law_4 [j0, some (false, row1), some (false, size2), some (false, outer3), some (false, inner4), some (false, told5), some (false, place6), some (true, due7), some (false, some8), some (false, arity9), some (false, many10), j11, j12] s = Sc_law_4 C size2 inner4 some8 s := comp_sh rfl fun x s => rfl
def L_law_1 (C : Cl) (size2 : D) (outer3 : D) (inner4 : D) (many10 : D) (x : D) (st : D) (s : Sto) : Rs (O3 (D)) := ((((((Sc_law_4 C size2 inner4 x s).bind fun x_126 s_127 => Rs.ok [x_126] s_127).bind fun xs_128 s_129 => Rs.ok (outer3 :: xs_128) s_129).bind fun xs_130 s_131 => Rs.ok (size2 :: xs_130) s_131).bind (C.run 18)).bind fun d_123 s_125 => optK (appD st d_123) fun due_124 => (Rs.ok (O3.nx due_124) s_125))
theorem sim_L_law_1 (C : Cl) (j0 : Option (Bool × D)) (row1 : D) (size2 : D) (outer3 : D) (inner4 : D) (told5 : D) (place6 : D) (arity9 : D) (many10 : D) (j11 : Option (Bool × D)) (j12 : Option (Bool × D)) (j8 : Option (Bool × D)) (x : D) (st : D) (s : Sto) : Sim false (fun (q_122st : D) (q_122e : MEnv) => ∃ (q_122j8 : Option (Bool × D)), q_122e = [j0, some (false, row1), some (false, size2), some (false, outer3), some (false, inner4), some (false, told5), some (false, place6), some (true, q_122st), q_122j8, some (false, arity9), some (false, many10), j11, j12]) (bindK (bindT (.nm 8) x [j0, some (false, row1), some (false, size2), some (false, outer3), some (false, inner4), some (false, told5), some (false, place6), some (true, st), j8, some (false, arity9), some (false, many10), j11, j12]) fun e1 => evSs C bl_law_5 e1 s) (L_law_1 C size2 outer3 inner4 many10 x st s) := (show Sim _ _ (evSs C _ [j0, some (false, row1), some (false, size2), some (false, outer3), some (false, inner4), some (false, told5), some (false, place6), some (true, st), some (false, x), some (false, arity9), some (false, many10), j11, j12] s) _ from (sim_app (by show (((((evE C c_law_4 [j0, some (false, row1), some (false, size2), some (false, outer3), some (false, inner4), some (false, told5), some (false, place6), some (true, st), some (false, x), some (false, arity9), some (false, many10), j11, j12] s).bind fun x_132 s_133 => Rs.ok [x_132] s_133).bind fun xs_134 s_135 => Rs.ok (outer3 :: xs_134) s_135).bind fun xs_136 s_137 => Rs.ok (size2 :: xs_136) s_137).bind (C.run 18)) = _; simp only [e_c_law_4]) rfl rfl fun due_124 s_125 => (show Sim _ _ (evSs C _ [j0, some (false, row1), some (false, size2), some (false, outer3), some (false, inner4), some (false, told5), some (false, place6), some (true, due_124), some (false, x), some (false, arity9), some (false, many10), j11, j12] s_125) _ from (sim_nil ⟨_, rfl⟩))))
def J_law_1 (C : Cl) (row1 : D) (size2 : D) (arity9 : D) (many10 : D) (s : Sto) : Rs (O3 (Unit)) := (((Rs.ok [row1, size2, arity9] s).bind (C.run 19)).bind fun outer_49 s_50 => ((((Sc_law_1 C row1 size2 arity9 many10 s_50).bind fun x_53 s_54 => Rs.ok [x_53] s_54).bind (bfnR .tuple)).bind fun inner_51 s_52 => ((((Sc_law_2 C row1 size2 arity9 s_52).bind fun x_59 s_60 => Rs.ok [x_59] s_60).bind (bfnR .tuple)).bind fun told_57 s_58 => (((((((Rs.ok [size2, outer_49, told_57] s_58).bind (C.run 11)).bind fun x_67 s_68 => ((((Rs.ok [size2, outer_49, told_57] s_68).bind (C.run 18)).bind fun x_69 s_70 => Rs.ok [x_69] s_70).bind fun xs_71 s_72 => Rs.ok (x_67 :: xs_71) s_72)).bind (C.run 16)).bind fun x_65 s_66 => (truR x_65 s_66)).bind fun b_63 s_64 => Rs.ok (!b_63) s_64).bind fun b_174 s_83 => if b_174 then ((Rs.ok (D.bl false) s_83).bind fun d_85 s_86 => Rs.ok (O3.rt d_85) s_86) else (((Rs.ok [row1, many10] s_83).bind (C.run 15)).bind fun place_87 s_88 => ((((Sc_law_3 C size2 place_87 many10 s_88).bind fun x_91 s_92 => Rs.ok [x_91] s_92).bind (bfnR .tuple)).bind fun due_89 s_90 => (((((((Rs.ok [size2, many10, place_87] s_90).bind (C.run 12)).bind fun x_99 s_100 => ((((Rs.ok [many10, due_89] s_100).bind tupR).bind fun x_101 s_102 => Rs.ok [x_101] s_102).bind fun xs_103 s_104 => Rs.ok (x_99 :: xs_103) s_104)).bind (C.run 16)).bind fun x_97 s_98 => (truR x_97 s_98)).bind fun b_95 s_96 => Rs.ok (!b_95) s_96).bind fun b_173 s_115 => if b_173 then ((Rs.ok (D.bl false) s_115).bind fun d_117 s_118 => Rs.ok (O3.rt d_117) s_118) else (((Rs.ok [] s_115).bind lstR).bind fun due_119 s_120 => ((((Rs.ok [size2, many10] s_120).bind (C.run 17)).bind fun x_167 s_168 => (seqR x_167 s_168)).bind fun xs_171 s_172 => o2K (loopR (L_law_1 C size2 outer_49 inner_51 many10) xs_171 due_119 s_172) fun st_138 s_139 => (((((Rs.ok [size2, outer_49, inner_51] s_139).bind (C.run 14)).bind fun x_143 s_144 => (((((((Rs.ok [st_138] s_144).bind (bfnR .tuple)).bind fun x_147 s_148 => Rs.ok [x_147] s_148).bind fun xs_149 s_150 => Rs.ok (many10 :: xs_149) s_150).bind tupR).bind fun x_145 s_146 => Rs.ok [x_145] s_146).bind fun xs_151 s_152 => Rs.ok (x_143 :: xs_151) s_152)).bind (C.run 16)).bind fun d_141 s_142 => Rs.ok (O3.rt d_141) s_142))))))))))
theorem sim_J_law_1 (C : Cl) (j0 : Option (Bool × D)) (row1 : D) (size2 : D) (j3 : Option (Bool × D)) (j4 : Option (Bool × D)) (j5 : Option (Bool × D)) (j6 : Option (Bool × D)) (j7 : Option (Bool × D)) (j8 : Option (Bool × D)) (arity9 : D) (many10 : D) (j11 : Option (Bool × D)) (j12 : Option (Bool × D)) (s : Sto) : Sim false (fun _ _ => True) (evSs C ((.cons (.asg (.nm 3) (.call 19 (.cons (.var 1) (.cons (.var 2) (.cons (.var 9) .nil)))))
    (.cons (.asg (.nm 4) (.bfn .tuple (.cons c_law_1 .nil)))
    (.cons (.asg (.nm 5) (.bfn .tuple (.cons c_law_2 .nil)))
    (.cons (.ite (.not (.val (.call 16 (.cons (.call 11 (.cons (.var 2) (.cons (.var 3) (.cons (.var 5) .nil)))) (.cons (.call 18 (.cons (.var 2) (.cons (.var 3) (.cons (.var 5) .nil)))) .nil)))))
    (.cons (.ret (.cbl false))
    .nil)
    .nil)
    (.cons (.asg (.nm 6) (.call 15 (.cons (.var 1) (.cons (.var 10) .nil))))
    (.cons (.asg (.nm 7) (.bfn .tuple (.cons c_law_3 .nil)))
    (.frz 7 (.cons (.ite (.not (.val (.call 16 (.cons (.call 12 (.cons (.var 2) (.cons (.var 10) (.cons (.var 6) .nil)))) (.cons (.tup (.cons (.var 10) (.cons (.var 7) .nil))) .nil)))))
    (.cons (.ret (.cbl false))
    .nil)
    .nil)
    (.cons (.asgO 7 (.lst .nil))
    (.cons (.forr (.nm 8) (.seq (.call 17 (.cons (.var 2) (.cons (.var 10) .nil)))) bl_law_5)
    (.cons (.ret (.call 16 (.cons (.call 14 (.cons (.var 2) (.cons (.var 3) (.cons (.var 4) .nil)))) (.cons (.tup (.cons (.var 10) (.cons (.bfn .tuple (.cons (.var 7) .nil)) .nil))) .nil))))
    .nil)))))))))))) [j0, some (false, row1), some (false, size2), j3, j4, j5, j6, j7, j8, some (false, arity9), some (false, many10), j11, j12] s) (J_law_1 C row1 size2 arity9 many10 s) := (show Sim _ _ (evSs C _ [j0, some (false, row1), some (false, size2), j3, j4, j5, j6, j7, j8, some (false, arity9), some (false, many10), j11, j12] s) _ from (sim_asg rfl rfl (show 3 < 13 from by decide) fun outer_49 s_50 => (show Sim _ _ (evSs C _ [j0, some (false, row1), some (false, size2), some (false, outer_49), j4, j5, j6, j7, j8, some (false, arity9), some (false, many10), j11, j12] s_50) _ from (sim_asg (by show (((evE C c_law_1 [j0, some (false, row1), some (false, size2), some (false, outer_49), j4, j5, j6, j7, j8, some (false, arity9), some (false, many10), j11, j12] s_50).bind fun x_55 s_56 => Rs.ok [x_55] s_56).bind (bfnR .tuple)) = _; simp only [e_c_law_1]) rfl (show 4 < 13 from by decide) fun inner_51 s_52 => (show Sim _ _ (evSs C _ [j0, some (false, row1), some (false, size2), some (false, outer_49), some (false, inner_51), j5, j6, j7, j8, some (false, arity9), some (false, many10), j11, j12] s_52) _ from (sim_asg (by show (((evE C c_law_2 [j0, some (false, row1), some (false, size2), some (false, outer_49), some (false, inner_51), j5, j6, j7, j8, some (false, arity9), some (false, many10), j11, j12] s_52).bind fun x_61 s_62 => Rs.ok [x_61] s_62).bind (bfnR .tuple)) = _; simp only [e_c_law_2]) rfl (show 5 < 13 from by decide) fun told_57 s_58 => (show Sim _ _ (evSs C _ [j0, some (false, row1), some (false, size2), some (false, outer_49), some (false, inner_51), some (false, told_57), j6, j7, j8, some (false, arity9), some (false, many10), j11, j12] s_58) _ from (sim_ite rfl (fun s_83 => (show Sim _ _ (evSs C _ [j0, some (false, row1), some (false, size2), some (false, outer_49), some (false, inner_51), some (false, told_57), j6, j7, j8, some (false, arity9), some (false, many10), j11, j12] s_83) _ from (sim_ret rfl rfl (fun z => nomatch z)))) (fun s_83 => (show Sim _ _ (evSs C _ [j0, some (false, row1), some (false, size2), some (false, outer_49), some (false, inner_51), some (false, told_57), j6, j7, j8, some (false, arity9), some (false, many10), j11, j12] s_83) _ from (sim_asg rfl rfl (show 6 < 13 from by decide) fun place_87 s_88 => (show Sim _ _ (evSs C _ [j0, some (false, row1), some (false, size2), some (false, outer_49), some (false, inner_51), some (false, told_57), some (false, place_87), j7, j8, some (false, arity9), some (false, many10), j11, j12] s_88) _ from (sim_asg (by show (((evE C c_law_3 [j0, some (false, row1), some (false, size2), some (false, outer_49), some (false, inner_51), some (false, told_57), some (false, place_87), j7, j8, some (false, arity9), some (false, many10), j11, j12] s_88).bind fun x_93 s_94 => Rs.ok [x_93] s_94).bind (bfnR .tuple)) = _; simp only [e_c_law_3]) rfl (show 7 < 13 from by decide) fun due_89 s_90 => (show Sim _ _ (evSs C _ [j0, some (false, row1), some (false, size2), some (false, outer_49), some (false, inner_51), some (false, told_57), some (false, place_87), some (false, due_89), j8, some (false, arity9), some (false, many10), j11, j12] s_90) _ from (sim_frz (show Sim _ _ (evSs C _ [j0, some (false, row1), some (false, size2), some (false, outer_49), some (false, inner_51), some (false, told_57), some (false, place_87), some (false, due_89), j8, some (false, arity9), some (false, many10), j11, j12] s_90) _ from (sim_ite rfl (fun s_115 => (show Sim _ _ (evSs C _ [j0, some (false, row1), some (false, size2), some (false, outer_49), some (false, inner_51), some (false, told_57), some (false, place_87), some (false, due_89), j8, some (false, arity9), some (false, many10), j11, j12] s_115) _ from (sim_ret rfl rfl (fun z => nomatch z)))) (fun s_115 => (show Sim _ _ (evSs C _ [j0, some (false, row1), some (false, size2), some (false, outer_49), some (false, inner_51), some (false, told_57), some (false, place_87), some (false, due_89), j8, some (false, arity9), some (false, many10), j11, j12] s_115) _ from (sim_asgO rfl rfl (show 7 < 13 from by decide) fun due_119 s_120 => (show Sim _ _ (evSs C _ [j0, some (false, row1), some (false, size2), some (false, outer_49), some (false, inner_51), some (false, told_57), some (false, place_87), some (true, due_119), j8, some (false, arity9), some (false, many10), j11, j12] s_120) _ from (sim_for (fun (q_121st : D) (q_121e : MEnv) => ∃ (q_121j8 : Option (Bool × D)), q_121e = [j0, some (false, row1), some (false, size2), some (false, outer_49), some (false, inner_51), some (false, told_57), some (false, place_87), some (true, q_121st), q_121j8, some (false, arity9), some (false, many10), j11, j12]) rfl ⟨_, rfl⟩ (by rintro x_165 st_163 _ s_164 ⟨j_166, rfl⟩; exact sim_L_law_1 C j0 row1 size2 outer_49 inner_51 told_57 place_87 arity9 many10 j11 j12 j_166 x_165 st_163 s_164) (by rintro st_138 _ s_139 ⟨j_140, rfl⟩; exact (show Sim _ _ (evSs C _ [j0, some (false, row1), some (false, size2), some (false, outer_49), some (false, inner_51), some (false, told_57), some (false, place_87), some (true, st_138), j_140, some (false, arity9), some (false, many10), j11, j12] s_139) _ from (sim_ret rfl rfl (fun z => nomatch z))))))))))))))))))))))))))
def B_law (C : Cl) (script0 : D) (s : Sto) : Rs (O3 Unit) := ((((Rs.ok [script0, (nat 0), (nat 3202), (nat 0)] s).bind lstR).bind fun x_3 s_4 => (heapR x_3 s_4)).bind fun row_1 s_2 => ((((Rs.ok [row_1, (nat 4)] s_2).bind (C.run 15)).bind fun x_9 s_10 => (binR .Add (nat 1) x_9 s_10)).bind fun size_7 s_8 => ((((Rs.ok [row_1, (nat 3)] s_8).bind (C.run 15)).bind fun x_17 s_18 => (binR .Add (nat 1) x_17 s_18)).bind fun arity_13 s_15 => ((((Rs.ok [row_1, (nat 3)] s_15).bind (C.run 15)).bind fun x_21 s_22 => (binR .Add (nat 1) x_21 s_22)).bind fun many_14 s_16 => ((((cmpR .Lt size_7 (nat 4) s_16).bind fun x_27 s_28 => (truR x_27 s_28)).bind fun b_25 s_26 => if b_25 then (((((Rs.ok [row_1, (nat 4)] s_26).bind (C.run 15)).bind fun x_33 s_34 => (cmpR .Eq x_33 (nat 0) s_34)).bind fun x_31 s_32 => (truR x_31 s_32)).bind fun b_29 s_30 => if b_29 then (Rs.ok true s_30) else Rs.ok false s_30) else Rs.ok false s_26).bind fun b_175 s_45 => if b_175 then ((Rs.ok (nat 4) s_45).bind fun arity_47 s_48 => (J_law_1 C row_1 size_7 arity_47 many_14 s_48)) else (J_law_1 C row_1 size_7 arity_13 many_14 s_45))))))
def S_law (C : Cl) (script0 : D) (s : Sto) : Rs D := retK (B_law C script0 s)
theorem sim_law (C : Cl) (script0 : D) (s : Sto) : Sim false (fun _ _ => True) (evSs C b_law [some (false, script0), none, none, none, none, none, none, none, none, none, none, none, none] s) (B_law C script0 s) := (sim_asg rfl rfl (show 1 < 13 from by decide) fun row_1 s_2 => (show Sim _ _ (evSs C _ [some (false, script0), some (false, row_1), none, none, none, none, none, none, none, none, none, none, none] s_2) _ from (sim_asg rfl rfl (show 2 < 13 from by decide) fun size_7 s_8 => (show Sim _ _ (evSs C _ [some (false, script0), some (false, row_1), some (false, size_7), none, none, none, none, none, none, none, none, none, none] s_8) _ from (sim_par rfl (fun s_15 => rfl) rfl fun arity_13 many_14 s_16 => (show Sim _ _ (evSs C _ [some (false, script0), some (false, row_1), some (false, size_7), none, none, none, none, none, none, some (false, arity_13), some (false, many_14), none, none] s_16) _ from (sim_ite rfl (fun s_45 => (show Sim _ _ (evSs C _ [some (false, script0), some (false, row_1), some (false, size_7), none, none, none, none, none, none, some (false, arity_13), some (false, many_14), none, none] s_45) _ from (sim_asg rfl rfl (show 9 < 13 from by decide) fun arity_47 s_48 => (show Sim _ _ (evSs C _ [some (false, script0), some (false, row_1), some (false, size_7), none, none, none, none, none, none, some (false, arity_47), some (false, many_14), none, none] s_48) _ from (sim_J_law_1 C (some (false, script0)) row_1 size_7 none none none none none none arity_47 many_14 none none s_48))))) (fun s_45 => (show Sim _ _ (evSs C _ [some (false, script0), some (false, row_1), some (false, size_7), none, none, none, none, none, none, some (false, arity_13), some (false, many_14), none, none] s_45) _ from (sim_J_law_1 C (some (false, script0)) row_1 size_7 none none none none none none arity_13 many_14 none none s_45))))))))))
theorem call_law {T : Tab} (h : T 20 = some F_law) (k : Nat) (script0 : D) (s : Sto) : callF T (k + 1) 20 [script0] s = S_law (clOf T k) script0 s := call_sim h rfl (sim_law (clOf T k) script0 s)
structure H_law (T : Tab) : Prop where
  f : T 20 = some F_law
  apply : H_apply T
  projection : H_projection T
  compose : H_compose T
  law_taken : H_law_taken T
  law_alike : H_law_alike T
  law_rows : H_law_rows T
  law_value : H_law_value T
  law_operation : H_law_operation T
end Mi
/-! B2: drawing from the script, comparing, rows and values by the law's own defs. -/
namespace Mi
open PySem PySem.Spec

def Row (ns : List Int) (c h r : Int) : MO := .lst [.scr ns, .int c, .int h, .int r]
/-- the store while a law draws -/
def Dr (s : Sto) : Prop := ∃ (ns : List Int) (c h r : Int), 0 ≤ c ∧ s = [Row ns c h r]
theorem atI_ex {α : Type} {xs : List α} {i : Int} (h0 : 0 ≤ i) (h1 : i < xs.length) : ∃ x, L2.atI xs i = some x := by
  have hi : i.toNat < xs.length := by omega
  refine ⟨xs[i.toNat], ?_⟩
  have := atI_of (List.getElem?_eq_getElem hi)
  rwa [show ((i.toNat : Nat) : Int) = i by omega] at this
theorem fmod_nat (a : Int) {m : Nat} (h : 1 ≤ m) : ∃ v : Nat, a.fmod m = v ∧ v < m := by
  rw [Int.fmod_eq_emod_of_nonneg _ (by omega)]
  have h1 := Int.emod_nonneg a (show (m : Int) ≠ 0 by omega)
  have h2 := Int.emod_lt_of_pos a (show (0 : Int) < m by omega)
  exact ⟨(a % m).toNat, by omega, by omega⟩
section
variable {T : Tab} {k : Nat} {s : Sto}
theorem s_taken (h : H_law_taken T) (hk : 1 ≤ k) {m : Nat} (hm : 1 ≤ m ∧ m ≤ 1000000) (hs : Dr s) : ∃ v s', callF T k 15 [.ref 0, nat m] s = .ok (nat v) s' ∧ v < m ∧ Dr s' := by
  obtain ⟨k, rfl, hj⟩ := lv hk
  obtain ⟨ns, c, hh, r, hc, rfl⟩ := hs
  rw [call_law_taken h.f]
  have q0 : ∀ a b d : D, L2.atI [a, b, d, .int r] 3 = some (.int r) := fun _ _ _ => rfl
  have q1 : ∀ (a d e : D) (i : Int), L2.atI [a, .int i, d, e] 1 = some (.int i) := fun _ _ _ _ => rfl
  have q2 : ∀ (a b e : D) (i : Int), L2.atI [a, b, .int i, e] 2 = some (.int i) := fun _ _ _ _ => rfl
  have q3 : ∀ a b d e : D, L2.atI [a, b, d, e] 0 = some a := fun _ _ _ _ => rfl
  have x1 : L2.ixN 4 1 = some 1 := rfl
  have x2 : L2.ixN 4 2 = some 2 := rfl
  have x3 : L2.ixN 4 3 = some 3 := rfl
  have hm0 : m ≠ 0 := by omega
  have hm1 : m < 1073741824 := by omega
  have h48 : i64 48271 = true := i64_of _ (by omega)
  have hp : powOk 10 18 = true := by decide +kernel
  by_cases hr : 0 < r
  · obtain ⟨v, hv, hl⟩ := fmod_nat r hm.1
    refine ⟨v, [Row ns c hh (r.fdiv m)], ?_, hl, _, _, _, _, hc, rfl⟩
    simp [S_law_taken, B_law_taken, J_law_taken_1, subR, subD, deref, Row, nat, q0, q1, q2, q3, x1, x2, x3, cmpR, cmpD, truR, truD, hr, bfnR, bfnD, binR, binD, hm0, hm1, setHS, putD, hv]
  · by_cases hl : (ns.length : Int) < c + 1
    · obtain ⟨v, hv, hl2⟩ := fmod_nat (((hh * 48271 + 11).fmod 2147483647).fdiv 7) hm.1
      refine ⟨v, [Row ns (c + 1) ((hh * 48271 + 11).fmod 2147483647) r], ?_, hl2, _, _, _, _, by omega, rfl⟩
      simp [S_law_taken, B_law_taken, J_law_taken_1, subR, subD, deref, Row, nat, q0, q1, q2, q3, x1, x2, x3, cmpR, cmpD, truR, truD, hr, hl, bfnR, bfnD, binR, binD, hm0, hm1, h48, setHS, putD, hv]
    · obtain ⟨z, hz⟩ := atI_ex (xs := ns) (i := c) hc (by omega)
      obtain ⟨v, hv, hl2⟩ := fmod_nat z hm.1
      by_cases hb : (1000000000000000000 : Int) ≤ z
      · refine ⟨v, [Row ns (c + 1) ((hh * 48271 + z + 11).fmod 2147483647) (z.fdiv m)], ?_, hl2, _, _, _, _, by omega, rfl⟩
        simp [S_law_taken, B_law_taken, J_law_taken_1, subR, subD, deref, Row, nat, q0, q1, q2, q3, x1, x2, x3, cmpR, cmpD, truR, truD, hr, hl, bfnR, bfnD, binR, binD, hm0, hm1, h48, setHS, putD, hv, hz, hp, hb]
      · refine ⟨v, [Row ns (c + 1) ((hh * 48271 + z + 11).fmod 2147483647) r], ?_, hl2, _, _, _, _, by omega, rfl⟩
        simp [S_law_taken, B_law_taken, J_law_taken_1, subR, subD, deref, Row, nat, q0, q1, q2, q3, x1, x2, x3, cmpR, cmpD, truR, truD, hr, hl, bfnR, bfnD, binR, binD, hm0, hm1, h48, setHS, putD, hv, hz, hp, hb]
/-- data that is compared with itself -/
def sameOk : Nat → D → Bool
  | _, .int _ => true
  | _, .bl _ => true
  | _, .non => true
  | n + 1, .tup xs => xs.all (sameOk n) && decide (xs.length ≤ 1000000)
  | n + 1, .lst xs => xs.all (sameOk n) && decide (xs.length ≤ 1000000)
  | _, _ => false
@[simp] theorem sameOk_nat (k n : Nat) : sameOk k (nat n) = true := by cases k <;> rfl
@[simp] theorem sameOk_tN {l : List Nat} (k : Nat) (h : l.length ≤ 1000000) : sameOk (k + 1) (tN l) = true := by
  simp [tN, sameOk, h]
theorem sameOk_eOp {n : Nat} {l : List Nat} (k : Nat) (h : l.length ≤ 1000000) : sameOk (k + 2) (eOp n l) = true := by
  simp [eOp, sameOk, h]
theorem s_alike (h : H_law_alike T) : ∀ (n : Nat) {d : D} {k : Nat}, n + 1 ≤ k → sameOk n d = true → callF T k 16 [d, d] s = .ok (.bl true) s := by
  intro n
  induction n with
  | zero =>
    intro d k hk hd
    obtain ⟨k, rfl, hj⟩ := lv hk
    rw [call_law_alike h.f]
    cases d <;> simp [sameOk] at hd
    · simp [S_law_alike, B_law_alike, cmpR, cmpD, eqD, D.plain, D.eqv, isNon]
    · simp [S_law_alike, B_law_alike, cmpR, cmpD, eqD, D.plain, D.eqv, isNon]
    · simp [S_law_alike, B_law_alike, cmpR, cmpD, eqD, D.plain, D.eqv, isNon]
  | succ n ih =>
    intro d k hk hd
    obtain ⟨k, rfl, hj⟩ := lv hk
    rw [call_law_alike h.f]
    have key : ∀ xs : List D, (d = .tup xs ∨ d = .lst xs) → (∀ x ∈ xs, sameOk n x = true) → xs.length ≤ 1000000 → Sc_law_alike_1 (clOf T k) d d s = .ok (.lst []) s := by
      intro xs hx h1 h2
      have hl : bfnR .len [d] s = .ok (nat xs.length) s := by rcases hx with rfl | rfl <;> simp
      have hs : ∀ i (hi : i < xs.length), subR d (nat i) s = .ok xs[i] s := fun i hi => by
        rcases hx with rfl | rfl
        · exact sub_tup (List.getElem?_eq_getElem hi) s
        · exact sub_lst (List.getElem?_eq_getElem hi) s
      simp only [Sc_law_alike_1, Rs.bind_ok, hl, rng1_nat (show xs.length ≤ 1000000000 by omega)]
      rw [fil_ok (g := nat) (fun _ => false) (by rw [List.length_range]; omega)]
      · simp
      · intro i hi
        have hi := List.mem_range.mp hi
        simp [hs i hi, ih hj (h1 _ (List.getElem_mem hi))]
    cases d <;> simp only [sameOk, Bool.and_eq_true, decide_eq_true_eq, List.all_eq_true] at hd <;> try contradiction
    · simp [S_law_alike, B_law_alike, cmpR, cmpD, eqD, D.plain, D.eqv, isNon]
    · simp [S_law_alike, B_law_alike, cmpR, cmpD, eqD, D.plain, D.eqv, isNon]
    · simp [S_law_alike, B_law_alike, cmpR, cmpD, eqD, D.plain, D.eqv, isNon]
    · rename_i xs
      simp [S_law_alike, B_law_alike, key xs (.inl rfl) hd.1 hd.2]
    · rename_i xs
      simp [S_law_alike, B_law_alike, key xs (.inr rfl) hd.1 hd.2]

theorem s_law_rows (h : H_law_rows T) (hk : 1 ≤ k) {z n : Nat} (hz : z ≤ 1000) (hn : n ≤ 1000) (hzn : ∀ i, i ≤ n → z ^ i ≤ 1000000) : callF T k 17 [nat z, nat n] s = .ok (lR (rowsN z n)) s := by
  obtain ⟨k, rfl, hj⟩ := lv hk
  rw [call_law_rows h.f]
  have h1 : loopR (L_law_rows_1 (clOf T k) (nat z)) ((List.range n).map nat) (.lst [.tup []]) s = .ok (.nx (lR (rowsN z n))) s := by
    have := loop_ok (s := s) (e := nat) (step := L_law_rows_1 (clOf T k) (nat z)) (l := List.range n) (fun i => lR (rowsN z i)) rfl fun i a hi => by
      have hin : i < n := by
        have := (List.getElem?_eq_some_iff.mp hi).1
        simpa using this
      have h2 := loop_ok (s := s) (e := tN) (step := L_law_rows_2 (clOf T k) (nat z)) (l := rowsN z i) (st := lR []) (fun j => lR (((rowsN z i).take j).flatMap fun r => (List.range z).map fun v => r ++ [v])) (by simp) fun j r hr => by
        have hr1 := (rowsN_mem.mp (List.mem_of_getElem? hr)).1
        have hc : Sc_law_rows_1 (clOf T k) (nat z) (tN r) s = .ok (lR ((List.range z).map fun v => r ++ [v])) s := by
          simp only [Sc_law_rows_1, rng1_nat (show z ≤ 1000000000 by omega), Rs.bind_ok]
          rw [map_ok (g := fun v => tN (r ++ [v])) (by rw [List.length_range]; omega), lR, List.map_map]
          · rfl
          · intro v _
            have := cat_tup (l := r.map nat) (r := [nat v]) (by simp; omega) s
            simp [tN, this]
        have hle : ((((rowsN z i).take (j+1)).flatMap fun r => (List.range z).map fun v => r ++ [v])).length ≤ 16777216 := by
          rw [flatMap_len _ z _ (fun x _ => by simp), List.length_take, rowsN_len]
          have a1 : min (j+1) (z^i) * z ≤ z ^ (i+1) := by rw [Nat.pow_succ]; exact Nat.mul_le_mul_right _ (Nat.min_le_right _ _)
          have a2 := hzn (i+1) hin
          omega
        have e2 : (((rowsN z i).take (j+1)).flatMap fun r => (List.range z).map fun v => r ++ [v]) = (((rowsN z i).take j).flatMap fun r => (List.range z).map fun v => r ++ [v]) ++ (List.range z).map fun v => r ++ [v] := by
          rw [List.take_add_one, hr, List.flatMap_append]
          simp
        rw [e2] at hle ⊢
        have := cat_lst (l := (((rowsN z i).take j).flatMap fun r => (List.range z).map fun v => r ++ [v]).map tN) (r := ((List.range z).map fun v => r ++ [v]).map tN) (by rw [List.length_map, List.length_map, ← List.length_append]; exact hle) s
        simp only [L_law_rows_2, hc, Rs.bind_ok]
        simp only [lR] at this ⊢
        rw [this]
        simp
      rw [List.take_length] at h2
      have e0 : lR [] = .lst [] := rfl
      rw [e0] at h2
      simp only [L_law_rows_1, Rs.bind_ok, lst0_ok, seq_lR, h2, o2K_nx]
      rfl
    rwa [List.length_range] at this
  simp [S_law_rows, B_law_rows, rng1_nat (show n ≤ 1000000000 by omega), h1]
theorem s_law_value (h : H_law_value T) (hk : 1 ≤ k) {z n : Nat} {tbl l : List Nat} {d : D} (hd : seqR d s = .ok (l.map nat) s) (o : IsOp z n tbl) (hl : l.length = n) (hv : ∀ x ∈ l, x < z) : callF T k 18 [nat z, eOp n tbl, d] s = .ok (nat (valN z tbl l)) s := by
  obtain ⟨k, rfl, hj⟩ := lv hk
  rw [call_law_value h.f]
  have hz := o.z4
  obtain ⟨h1, _⟩ := loop_fold (s := s) (e := nat) (E := nat) (g := fun a x => a * z + x) (step := L_law_value_1 (clOf T k) (nat z) (eOp n tbl)) (fun _ => True) (l := l) (t := 0) trivial fun x _ t _ => ⟨by
    simp (disch := omega) [L_law_value_1, bin_mul], trivial⟩
  have h2 := sub_tN (o.place hl hv) s
  simp [S_law_value, B_law_value, hd, h1]
  simp only [placeN] at h2
  simp [h2, valN, placeN]
theorem s_law_operation (h : H_law_operation T) (hk : 2 ≤ k) {z n : Nat} (hz : 1 ≤ z ∧ z ≤ 4) (hn : 1 ≤ n ∧ n ≤ 8) (hm : z ^ n ≤ 256) (hs : Dr s) : ∃ tbl s', callF T k 19 [.ref 0, nat z, nat n] s = .ok (eOp n tbl) s' ∧ Dr s' ∧ IsOp z n tbl := by
  obtain ⟨k, rfl, hj⟩ := lv hk
  rw [call_law_operation h.f]
  have hr := s_law_rows h.law_rows hj (z := z) (n := n) (by omega) (by omega) (fun i hi => Nat.le_trans (Nat.pow_le_pow_right hz.1 hi) (by omega)) (s := s)
  obtain ⟨tbl, s', h1, h2, h3, h4⟩ := map_st (e := tN) (e2 := nat) (f := fun x s => (Rs.ok [.ref 0, nat z] s).bind ((clOf T k).run 15)) Dr (fun _ v => v < z) (l := rowsN z n) (by rw [rowsN_len]; omega) hs fun r _ s hs => by
    obtain ⟨v, s', e1, e2, e3⟩ := s_taken h.law_taken hj (m := z) (by omega) hs
    exact ⟨v, s', e1, e3, e2⟩
  refine ⟨tbl, s', ?_, h2, hz.1, hz.2, hn.1, hn.2, hm, by rw [h3, rowsN_len], fun x hx => let ⟨_, _, q⟩ := h4 x hx; q⟩
  have hc : Sc_law_operation_1 (clOf T k) (.ref 0) (nat z) (nat n) s = .ok (.lst (tbl.map nat)) s' := by
    simp only [Sc_law_operation_1, Rs.bind_ok, run_clOf, hr, seq_lR]
    exact h1
  simp [S_law_operation, B_law_operation, hc, eOp, tN]
end
end Mi
namespace Mi
@[simp] theorem heap0 (xs : List D) : heapR (.lst xs) [] = .ok (.ref 0) [.lst xs] := rfl
theorem dr_start (ns : List Int) (c : Nat) : Dr [.lst [.scr ns, nat 0, nat c, nat 0]] := ⟨ns, 0, c, 0, by omega, rfl⟩
theorem Dr.len {s : Sto} (h : Dr s) : s.length = 1 := by
  obtain ⟨_, _, _, _, _, rfl⟩ := h
  rfl
end Mi
/-! B3: zip, compositions. -/
namespace Mi
open PySem PySem.Spec

def colsN (L : List (List Nat)) (n : Nat) : List (List Nat) := (List.range n).map fun i => L.map fun r => r.getD i 0
theorem colsN_len (L : List (List Nat)) (n : Nat) : (colsN L n).length = n := by simp [colsN]
theorem mapM_at : ∀ (L : List (List Nat)) (i : Nat), (∀ r ∈ L, i < r.length) → (L.map (·.map nat)).mapM (fun xs => xs[i]?) = some (L.map fun r => nat (r.getD i 0))
  | [], i, _ => rfl
  | r :: L, i, h => by
    have h1 := h r (by simp)
    rw [List.map_cons, List.mapM_cons, List.getElem?_map, List.getElem?_eq_getElem h1, mapM_at L i fun q hq => h q (by simp [hq])]
    simp [List.getD_eq_getElem?_getD, List.getElem?_eq_getElem h1]
theorem zipN_rows (L : List (List Nat)) : ∀ (m i : Nat), (∀ r ∈ L, i + m ≤ r.length) → zipN (L.map (·.map nat)) i m = (List.range' i m).map fun j => tN (L.map fun r => r.getD j 0)
  | 0, i, _ => rfl
  | m + 1, i, h => by
    rw [zipN, mapM_at L i fun r hr => by have := h r hr; omega, List.range'_succ, List.map_cons, zipN_rows L m (i + 1) fun r hr => by have := h r hr; omega]
    simp only [tN, List.map_map]
    rfl
theorem tupsOf_rows : ∀ L : List (List Nat), tupsOf (L.map tN) = some (L.map (·.map nat))
  | [] => rfl
  | r :: L => by
    rw [List.map_cons, tN, tupsOf, tupsOf_rows L]
    rfl
theorem zipSD_rows {L : List (List Nat)} {n : Nat} (h0 : L ≠ []) (h2 : ∀ r ∈ L, r.length = n) : zipSD (L.map (·.map nat)) = (colsN L n).map tN := by
  cases L with
  | nil => exact absurd rfl h0
  | cons r L =>
    show zipN ((r :: L).map (·.map nat)) 0 (r.map nat).length = _
    rw [List.length_map, h2 r (by simp), zipN_rows _ n 0 fun q hq => by rw [h2 q hq]; omega, colsN, List.map_map, List.range_eq_range']
    rfl
theorem zipS_rows {L : List (List Nat)} {n : Nat} {s : Sto} (h0 : L ≠ []) (h1 : L.length ≤ 1000) (h2 : ∀ r ∈ L, r.length = n) : zipSR (lR L) s = .ok ((colsN L n).map tN) s := by
  simp only [zipSR, lR, tupsOf_rows]
  rw [← zipSD_rows h0 h2]
  cases L with
  | nil => exact absurd rfl h0
  | cons r L =>
    simp only [List.map_cons]
    rw [if_pos]
    simp only [Bool.and_eq_true, decide_eq_true_eq, List.all_eq_true, List.length_map, beq_iff_eq]
    refine ⟨by simp at h1; omega, fun x hx => ?_⟩
    obtain ⟨q, hq, rfl⟩ := List.mem_map.mp hx
    rw [List.length_map, h2 q (by simp [hq]), h2 r (by simp)]
theorem range_mul (z : Nat) : ∀ n, (List.range n).flatMap (fun q => (List.range z).map fun v => q * z + v) = List.range (n * z)
  | 0 => by simp
  | n + 1 => by
    rw [List.range_succ, List.flatMap_append, range_mul z n, Nat.succ_mul, List.range_add]
    simp
theorem place_rows (z : Nat) : ∀ a, (rowsN z a).map (placeN z) = List.range (z ^ a)
  | 0 => by simp [rowsN, placeN]
  | a + 1 => by
    have ih := place_rows z a
    have e : (rowsN z (a+1)).map (placeN z) = ((rowsN z a).map (placeN z)).flatMap fun q => (List.range z).map fun v => q * z + v := by
      rw [rowsN, List.map_flatMap, List.flatMap_map]
      congr 1
      funext r
      rw [List.map_map]
      apply List.map_congr_left
      intro v _
      exact placeN_snoc _ _ _
    rw [e, ih, Nat.pow_succ, ← range_mul]
theorem vals_cols (z m : Nat) (tbl : List Nat) (tbls : List (List Nat)) : ((rowsN z m).map fun r => valN z tbl (tbls.map fun t => valN z t r)) = (colsN tbls (z ^ m)).map (valN z tbl) := by
  rw [colsN, List.map_map, ← place_rows, List.map_map]
  rfl
section
variable {T : Tab} {k : Nat} {s : Sto}
theorem eOps_sub {m : Nat} {tbls : List (List Nat)} {t : List Nat} (h : tbls.head? = some t) : subR (.tup (tbls.map (eOp m))) (nat 0) s = .ok (eOp m t) s := by
  cases tbls with
  | nil => cases h
  | cons a r => cases h; simp
theorem s_composed (h : H_composed T) (hk : 3 ≤ k) {z A m : Nat} {tbl : List Nat} {tbls : List (List Nat)} (o : IsOp z A tbl) (hl : tbls.length = A) (hi : ∀ t ∈ tbls, IsOp z m t) :
    callF T k 13 [nat z, eOp A tbl, .tup (tbls.map (eOp m))] s = .ok (eOp m ((colsN tbls (z ^ m)).map (valN z tbl))) s := by
  obtain ⟨k, rfl, hj⟩ := lv hk
  rw [call_composed h.f]
  have n1 := o.n1
  have n8 := o.n8
  obtain ⟨t, r, rfl⟩ : ∃ t r, tbls = t :: r := by
    cases tbls with
    | nil => simp at hl; omega
    | cons t r => exact ⟨t, r, rfl⟩
  have h1 : Sc_composed_1 (clOf T k) (.tup ((t :: r).map (eOp m))) s = .ok (lR (t :: r)) s := by
    simp only [Sc_composed_1, seq_tup, Rs.bind_ok]
    rw [map_ok (g := tN) (by omega)]
    · rfl
    · intro x _
      simp
  have hmost := (hi t (by simp)).most
  have h2 : Sc_composed_2 (clOf T k) (nat z) (eOp A tbl) (lR (t :: r)) s = .ok (lN ((colsN (t :: r) (z ^ m)).map (valN z tbl))) s := by
    simp only [Sc_composed_2]
    rw [zipS_rows (by simp) (by omega) fun q hq => (hi q hq).len, Rs.bind_ok, map_ok (g := fun c => nat (valN z tbl c)) (by rw [colsN_len]; omega), lN, List.map_map]
    · rfl
    · intro c hc
      simp only [Rs.bind_ok, run_clOf]
      obtain ⟨i, hi2, rfl⟩ := List.mem_map.mp hc
      refine s_value_of h.value_of hj (seq_tN _ s) o (by rw [List.length_map]; exact hl) fun x hx => ?_
      obtain ⟨q, hq, rfl⟩ := List.mem_map.mp hx
      have := (hi q hq).len
      have hi3 := List.mem_range.mp hi2
      rw [List.getD_eq_getElem?_getD, List.getElem?_eq_getElem (by omega)]
      exact (hi q hq).vals _ (List.getElem_mem (by omega))
  have h3 : ∀ s : Sto, subR (.tup ((t :: r).map (eOp m))) (nat 0) s = .ok (eOp m t) s := fun s => eOps_sub rfl
  simp only [S_composed, B_composed, h1, h2, h3, Rs.bind_ok, sub_op0, tuple_lN, tup2_ok, retK_rt]
  rfl
theorem s_compose (h : H_compose T) (hk : 6 ≤ k) {z A m : Nat} {tbl : List Nat} {tbls : List (List Nat)} (o : IsOp z A tbl) (hl : tbls.length = A) (hi : ∀ t ∈ tbls, IsOp z m t) :
    callF T k 14 [nat z, eOp A tbl, .tup (tbls.map (eOp m))] s = .ok (eOp m ((rowsN z m).map fun r => valN z tbl (tbls.map fun t => valN z t r))) s := by
  obtain ⟨k, rfl, hj⟩ := lv hk
  rw [call_compose h.f, vals_cols]
  have n1 := o.n1
  have n8 := o.n8
  obtain ⟨t, ht⟩ : ∃ t, tbls.head? = some t := by
    cases tbls with
    | nil => simp at hl; omega
    | cons t r => exact ⟨t, rfl⟩
  have hc : Sc_compose_1 (clOf T k) (nat z) (.tup (tbls.map (eOp m))) s = .ok (.lst (tbls.map fun _ => .bl true)) s := by
    simp only [Sc_compose_1, seq_tup, Rs.bind_ok]
    rw [map_ok (g := fun _ => .bl true) (by omega)]
    intro x hx
    simp [s_is_operation h.is_operation (show 4 ≤ k by omega) (hi x hx), eOps_sub ht]
  simp [S_compose, B_compose, s_need_size h.need_size (show 3 ≤ k by omega) o.z1 o.z4, s_need_operation h.need_operation hj o, hl, hc, s_composed h.composed (show 3 ≤ k by omega) o hl hi]
end
end Mi
namespace Mi
open PySem PySem.Spec
def c_image_of_1 : CE :=
  (.comp (.nm 3) (.zipS (.var 2)) .nil (.call 10 (.cons (.var 0) (.cons (.var 1) (.cons (.var 3) .nil)))) [3])
def b_image_of : CSs :=
  (.cons (.ret (.bfn .tuple (.cons c_image_of_1 .nil)))
    .nil)
def F_image_of : Fn := ⟨3, 4, false, b_image_of⟩
def Sc_image_of_1 (C : Cl) (size0 : D) (operation1 : D) (rows2 : D) (s : Sto) : Rs D := ((zipSR rows2 s).bind (mapR fun x s => ((Rs.ok [size0, operation1, x] s).bind (C.run 10))))
theorem e_c_image_of_1 (C : Cl) (size0 : D) (operation1 : D) (rows2 : D) (s : Sto) : evE C c_image_of_1 [some (false, size0), some (false, operation1), some (false, rows2), none] s = Sc_image_of_1 C size0 operation1 rows2 s := comp_sh rfl fun x s => rfl
def B_image_of (C : Cl) (size0 operation1 rows2 : D) (s : Sto) : Rs (O3 Unit) := ((((Sc_image_of_1 C size0 operation1 rows2 s).bind fun x_3 s_4 => Rs.ok [x_3] s_4).bind (bfnR .tuple)).bind fun d_1 s_2 => Rs.ok (O3.rt d_1) s_2)
def S_image_of (C : Cl) (size0 operation1 rows2 : D) (s : Sto) : Rs D := retK (B_image_of C size0 operation1 rows2 s)
theorem sim_image_of (C : Cl) (size0 operation1 rows2 : D) (s : Sto) : Sim false (fun _ _ => True) (evSs C b_image_of [some (false, size0), some (false, operation1), some (false, rows2), none] s) (B_image_of C size0 operation1 rows2 s) := (sim_ret (by show (((evE C c_image_of_1 [some (false, size0), some (false, operation1), some (false, rows2), none] s).bind fun x_5 s_6 => Rs.ok [x_5] s_6).bind (bfnR .tuple)) = _; simp only [e_c_image_of_1]) rfl (fun z => nomatch z))
theorem call_image_of {T : Tab} (h : T 23 = some F_image_of) (k : Nat) (size0 operation1 rows2 : D) (s : Sto) : callF T (k + 1) 23 [size0, operation1, rows2] s = S_image_of (clOf T k) size0 operation1 rows2 s := call_sim h rfl (sim_image_of (clOf T k) size0 operation1 rows2 s)
structure H_image_of (T : Tab) : Prop where
  f : T 23 = some F_image_of
  value_of : H_value_of T
end Mi
namespace Mi
open PySem PySem.Spec
def c_tuples_of_1 : CE :=
  (.comp2 (.nm 4) (.seq (.var 2)) (.nm 5) (.seq (.var 0)) .nil (.tupS (.var 4) (.cons (.var 5) .nil)) [4, 5] [5])
def bl_tuples_of_2 : CSs :=
  (.cons (.asg (.nm 2) c_tuples_of_1)
    .nil)
def b_tuples_of : CSs :=
  (.cons (.asg (.nm 2) (.lst (.cons (.tup .nil) .nil)))
    (.cons (.forr (.nm 3) (.range1 (.var 1)) bl_tuples_of_2)
    (.cons (.ret (.var 2))
    .nil)))
def F_tuples_of : Fn := ⟨2, 6, false, b_tuples_of⟩
def Sc_tuples_of_1 (C : Cl) (things0 : D) (found2 : D) (s : Sto) : Rs D := ((seqR found2 s).bind (fmR fun x s => ((seqR things0 s).bind (mapL fun y s => ((Rs.ok [y] s).bind fun ys s2 => tupSR x ys s2)))))
theorem e_c_tuples_of_1 (C : Cl) (things0 : D) (many1 : D) (found2 : D) (turn3 : D) (s : Sto) : evE C c_tuples_of_1 [some (false, things0), some (false, many1), some (false, found2), some (false, turn3), none, none] s = Sc_tuples_of_1 C things0 found2 s := comp2_sh rfl fun x s => (inner_sh (env := [some (false, things0), some (false, many1), some (false, found2), some (false, turn3), some (false, x), none]) rfl fun y s => rfl)
def L_tuples_of_1 (C : Cl) (things0 : D) (x : D) (st : D) (s : Sto) : Rs (O3 (D)) := ((Sc_tuples_of_1 C things0 st s).bind fun found_9 s_10 => (Rs.ok (O3.nx found_9) s_10))
theorem sim_L_tuples_of_1 (C : Cl) (things0 : D) (many1 : D) (j3 : Option (Bool × D)) (x : D) (st : D) (s : Sto) : Sim false (fun (q_8st : D) (q_8e : MEnv) => ∃ (q_8j3 : Option (Bool × D)), q_8e = [some (false, things0), some (false, many1), some (false, q_8st), q_8j3, none, none]) (bindK (bindT (.nm 3) x [some (false, things0), some (false, many1), some (false, st), j3, none, none]) fun e1 => evSs C bl_tuples_of_2 e1 s) (L_tuples_of_1 C things0 x st s) := (show Sim _ _ (evSs C _ [some (false, things0), some (false, many1), some (false, st), some (false, x), none, none] s) _ from (sim_asg (by show (evE C c_tuples_of_1 [some (false, things0), some (false, many1), some (false, st), some (false, x), none, none] s) = _; simp only [e_c_tuples_of_1]) rfl (show 2 < 6 from by decide) fun found_9 s_10 => (show Sim _ _ (evSs C _ [some (false, things0), some (false, many1), some (false, found_9), some (false, x), none, none] s_10) _ from (sim_nil ⟨_, rfl⟩))))
def B_tuples_of (C : Cl) (things0 many1 : D) (s : Sto) : Rs (O3 Unit) := (((((Rs.ok [] s).bind tupR).bind fun x_3 s_4 => Rs.ok [x_3] s_4).bind lstR).bind fun found_1 s_2 => ((rng1R many1 s_2).bind fun xs_20 s_21 => o2K (loopR (L_tuples_of_1 C things0) xs_20 found_1 s_21) fun st_11 s_12 => ((Rs.ok st_11 s_12).bind fun d_14 s_15 => Rs.ok (O3.rt d_14) s_15)))
def S_tuples_of (C : Cl) (things0 many1 : D) (s : Sto) : Rs D := retK (B_tuples_of C things0 many1 s)
theorem sim_tuples_of (C : Cl) (things0 many1 : D) (s : Sto) : Sim false (fun _ _ => True) (evSs C b_tuples_of [some (false, things0), some (false, many1), none, none, none, none] s) (B_tuples_of C things0 many1 s) := (sim_asg rfl rfl (show 2 < 6 from by decide) fun found_1 s_2 => (show Sim _ _ (evSs C _ [some (false, things0), some (false, many1), some (false, found_1), none, none, none] s_2) _ from (sim_for (fun (q_7st : D) (q_7e : MEnv) => ∃ (q_7j3 : Option (Bool × D)), q_7e = [some (false, things0), some (false, many1), some (false, q_7st), q_7j3, none, none]) rfl ⟨_, rfl⟩ (by rintro x_18 st_16 _ s_17 ⟨j_19, rfl⟩; exact sim_L_tuples_of_1 C things0 many1 j_19 x_18 st_16 s_17) (by rintro st_11 _ s_12 ⟨j_13, rfl⟩; exact (show Sim _ _ (evSs C _ [some (false, things0), some (false, many1), some (false, st_11), j_13, none, none] s_12) _ from (sim_ret rfl rfl (fun z => nomatch z)))))))
theorem call_tuples_of {T : Tab} (h : T 24 = some F_tuples_of) (k : Nat) (things0 many1 : D) (s : Sto) : callF T (k + 1) 24 [things0, many1] s = S_tuples_of (clOf T k) things0 many1 s := call_sim h rfl (sim_tuples_of (clOf T k) things0 many1 s)
structure H_tuples_of (T : Tab) : Prop where
  f : T 24 = some F_tuples_of
end Mi
namespace Mi
open PySem PySem.Spec
def c_first_broken_1 : CE :=
  (.dcomp true (.nm 5) (.seq (.sub (.var 2) (.cint 1))) (.var 5) (.cbl true) [5])
def bl_first_broken_2 : CSs :=
  (.cons (.ite (.val (.cmp .NotIn (.call 23 (.cons (.var 0) (.cons (.var 1) (.cons (.var 4) .nil)))) (.var 3)))
    (.cons (.ret (.var 4))
    .nil)
    .nil)
    .nil)
def b_first_broken : CSs :=
  (.cons (.asg (.nm 3) c_first_broken_1)
    (.cons (.forr (.nm 4) (.seq (.call 24 (.cons (.sub (.var 2) (.cint 1)) (.cons (.sub (.var 1) (.cint 0)) .nil)))) bl_first_broken_2)
    (.cons (.ret .cnon)
    .nil)))
def F_first_broken : Fn := ⟨3, 6, false, b_first_broken⟩
def Sc_first_broken_1 (C : Cl) (relation2 : D) (s : Sto) : Rs D := (((subR relation2 (nat 1) s).bind fun x_1 s_2 => (seqR x_1 s_2)).bind (dctR true fun x s => (Rs.ok (x, (D.bl true)) s)))
theorem e_c_first_broken_1 (C : Cl) (size0 : D) (operation1 : D) (relation2 : D) (s : Sto) : evE C c_first_broken_1 [some (false, size0), some (false, operation1), some (false, relation2), none, none, none] s = Sc_first_broken_1 C relation2 s := dcomp_sh rfl fun x s => rfl
def L_first_broken_1 (C : Cl) (size0 : D) (operation1 : D) (known3 : D) (x : D) (st : Unit) (s : Sto) : Rs (O3 (Unit)) := (((((Rs.ok [size0, operation1, x] s).bind (C.run 23)).bind fun x_7 s_8 => (cmpR .NotIn x_7 known3 s_8)).bind fun x_5 s_6 => (truR x_5 s_6)).bind fun b_17 s_13 => if b_17 then ((Rs.ok x s_13).bind fun d_15 s_16 => Rs.ok (O3.rt d_15) s_16) else (Rs.ok (O3.nx ()) s_13))
theorem sim_L_first_broken_1 (C : Cl) (size0 : D) (operation1 : D) (relation2 : D) (known3 : D) (j4 : Option (Bool × D)) (x : D) (st : Unit) (s : Sto) : Sim false (fun (q_4st : Unit) (q_4e : MEnv) => ∃ (q_4j4 : Option (Bool × D)), q_4e = [some (false, size0), some (false, operation1), some (false, relation2), some (false, known3), q_4j4, none]) (bindK (bindT (.nm 4) x [some (false, size0), some (false, operation1), some (false, relation2), some (false, known3), j4, none]) fun e1 => evSs C bl_first_broken_2 e1 s) (L_first_broken_1 C size0 operation1 known3 x st s) := (show Sim _ _ (evSs C _ [some (false, size0), some (false, operation1), some (false, relation2), some (false, known3), some (false, x), none] s) _ from (sim_ite rfl (fun s_13 => (show Sim _ _ (evSs C _ [some (false, size0), some (false, operation1), some (false, relation2), some (false, known3), some (false, x), none] s_13) _ from (sim_ret rfl rfl (fun z => nomatch z)))) (fun s_13 => (show Sim _ _ (evSs C _ [some (false, size0), some (false, operation1), some (false, relation2), some (false, known3), some (false, x), none] s_13) _ from (sim_nil ⟨_, rfl⟩)))))
def B_first_broken (C : Cl) (size0 operation1 relation2 : D) (s : Sto) : Rs (O3 Unit) := ((Sc_first_broken_1 C relation2 s).bind fun known_1 s_2 => (((((subR relation2 (nat 1) s_2).bind fun x_29 s_30 => (((subR operation1 (nat 0) s_30).bind fun x_31 s_32 => Rs.ok [x_31] s_32).bind fun xs_33 s_34 => Rs.ok (x_29 :: xs_33) s_34)).bind (C.run 24)).bind fun x_27 s_28 => (seqR x_27 s_28)).bind fun xs_43 s_44 => o2K (loopR (L_first_broken_1 C size0 operation1 known_1) xs_43 () s_44) fun st_18 s_19 => ((Rs.ok D.non s_19).bind fun d_21 s_22 => Rs.ok (O3.rt d_21) s_22)))
def S_first_broken (C : Cl) (size0 operation1 relation2 : D) (s : Sto) : Rs D := retK (B_first_broken C size0 operation1 relation2 s)
theorem sim_first_broken (C : Cl) (size0 operation1 relation2 : D) (s : Sto) : Sim false (fun _ _ => True) (evSs C b_first_broken [some (false, size0), some (false, operation1), some (false, relation2), none, none, none] s) (B_first_broken C size0 operation1 relation2 s) := (sim_asg (by show (evE C c_first_broken_1 [some (false, size0), some (false, operation1), some (false, relation2), none, none, none] s) = _; simp only [e_c_first_broken_1]) rfl (show 3 < 6 from by decide) fun known_1 s_2 => (show Sim _ _ (evSs C _ [some (false, size0), some (false, operation1), some (false, relation2), some (false, known_1), none, none] s_2) _ from (sim_for (fun (q_3st : Unit) (q_3e : MEnv) => ∃ (q_3j4 : Option (Bool × D)), q_3e = [some (false, size0), some (false, operation1), some (false, relation2), some (false, known_1), q_3j4, none]) rfl ⟨_, rfl⟩ (by rintro x_25 st_23 _ s_24 ⟨j_26, rfl⟩; exact sim_L_first_broken_1 C size0 operation1 relation2 known_1 j_26 x_25 st_23 s_24) (by rintro st_18 _ s_19 ⟨j_20, rfl⟩; exact (show Sim _ _ (evSs C _ [some (false, size0), some (false, operation1), some (false, relation2), some (false, known_1), j_20, none] s_19) _ from (sim_ret rfl rfl (fun z => nomatch z)))))))
theorem call_first_broken {T : Tab} (h : T 25 = some F_first_broken) (k : Nat) (size0 operation1 relation2 : D) (s : Sto) : callF T (k + 1) 25 [size0, operation1, relation2] s = S_first_broken (clOf T k) size0 operation1 relation2 s := call_sim h rfl (sim_first_broken (clOf T k) size0 operation1 relation2 s)
structure H_first_broken (T : Tab) : Prop where
  f : T 25 = some F_first_broken
  image_of : H_image_of T
  tuples_of : H_tuples_of T
end Mi
namespace Mi
open PySem PySem.Spec
def c_is_relation_1 : CE :=
  (.comp (.nm 3) (.seq (.sub (.var 1) (.cint 1))) .nil (.call 3 (.cons (.var 0) (.cons (.sub (.var 1) (.cint 0)) (.cons (.var 3) .nil)))) [3])
def c_is_relation_2 : CE :=
  (.comp (.nm 2) (.range2 (.cint 1) (.bfn .len (.cons (.sub (.var 1) (.cint 1)) .nil))) .nil (.cmp .Lt (.sub (.sub (.var 1) (.cint 1)) (.bin .Sub (.var 2) (.cint 1))) (.sub (.sub (.var 1) (.cint 1)) (.var 2))) [2])
def b_is_relation : CSs :=
  (.cons (.ite (.or (.cons (.not (.val (.isi (.var 1) [.tuple] true))) (.cons (.val (.cmp .NotEq (.bfn .len (.cons (.var 1) .nil)) (.cint 2))) (.cons (.not (.val (.call 1 (.cons (.sub (.var 1) (.cint 0)) (.cons (.cint 1) (.cons (.glob "MOST_ARITY" 4) .nil)))))) .nil))))
    (.cons (.ret (.cbl false))
    .nil)
    .nil)
    (.cons (.ite (.or (.cons (.not (.val (.isi (.sub (.var 1) (.cint 1)) [.tuple] true))) (.cons (.not (.val (.bfn .all (.cons c_is_relation_1 .nil)))) .nil)))
    (.cons (.ret (.cbl false))
    .nil)
    .nil)
    (.cons (.ret (.bfn .all (.cons c_is_relation_2 .nil)))
    .nil)))
def F_is_relation : Fn := ⟨2, 4, false, b_is_relation⟩
def Sc_is_relation_1 (C : Cl) (size0 : D) (value1 : D) (s : Sto) : Rs D := (((subR value1 (nat 1) s).bind fun x_1 s_2 => (seqR x_1 s_2)).bind (mapR fun x s => ((((subR value1 (nat 0) s).bind fun x_5 s_6 => Rs.ok [x_5, x] s_6).bind fun xs_7 s_8 => Rs.ok (size0 :: xs_7) s_8).bind (C.run 3))))
theorem e_c_is_relation_1 (C : Cl) (size0 : D) (value1 : D) (s : Sto) : evE C c_is_relation_1 [some (false, size0), some (false, value1), none, none] s = Sc_is_relation_1 C size0 value1 s := comp_sh rfl fun x s => rfl
def Sc_is_relation_2 (C : Cl) (value1 : D) (s : Sto) : Rs D := (((((subR value1 (nat 1) s).bind fun x_3 s_4 => Rs.ok [x_3] s_4).bind (bfnR .len)).bind fun x_1 s_2 => (rng2R (nat 1) x_1 s_2)).bind (mapR fun x s => (((subR value1 (nat 1) s).bind fun x_11 s_12 => ((binR .Sub x (nat 1) s_12).bind fun x_13 s_14 => (subR x_11 x_13 s_14))).bind fun x_9 s_10 => (((subR value1 (nat 1) s_10).bind fun x_17 s_18 => (subR x_17 x s_18)).bind fun x_15 s_16 => (cmpR .Lt x_9 x_15 s_16)))))
theorem e_c_is_relation_2 (C : Cl) (size0 : D) (value1 : D) (s : Sto) : evE C c_is_relation_2 [some (false, size0), some (false, value1), none, none] s = Sc_is_relation_2 C value1 s := comp_sh rfl fun x s => rfl
def B_is_relation (C : Cl) (size0 value1 : D) (s : Sto) : Rs (O3 Unit) := (((((isiR [.tuple] value1 s).bind fun x_5 s_6 => (truR x_5 s_6)).bind fun b_3 s_4 => Rs.ok (!b_3) s_4).bind fun b_1 s_2 => if b_1 then Rs.ok true s_2 else (((((Rs.ok [value1] s_2).bind (bfnR .len)).bind fun x_11 s_12 => (cmpR .NotEq x_11 (nat 2) s_12)).bind fun x_9 s_10 => (truR x_9 s_10)).bind fun b_7 s_8 => if b_7 then Rs.ok true s_8 else ((((((subR value1 (nat 0) s_8).bind fun x_19 s_20 => Rs.ok [x_19, (nat 1), (nat 4)] s_20).bind (C.run 1)).bind fun x_17 s_18 => (truR x_17 s_18)).bind fun b_15 s_16 => Rs.ok (!b_15) s_16).bind fun b_13 s_14 => if b_13 then Rs.ok true s_14 else (Rs.ok false s_14)))).bind fun b_88 s_41 => if b_88 then ((Rs.ok (D.bl false) s_41).bind fun d_43 s_44 => Rs.ok (O3.rt d_43) s_44) else ((((((subR value1 (nat 1) s_41).bind fun x_51 s_52 => (isiR [.tuple] x_51 s_52)).bind fun x_49 s_50 => (truR x_49 s_50)).bind fun b_47 s_48 => Rs.ok (!b_47) s_48).bind fun b_45 s_46 => if b_45 then Rs.ok true s_46 else ((((((Sc_is_relation_1 C size0 value1 s_46).bind fun x_59 s_60 => Rs.ok [x_59] s_60).bind (bfnR .all)).bind fun x_57 s_58 => (truR x_57 s_58)).bind fun b_55 s_56 => Rs.ok (!b_55) s_56).bind fun b_53 s_54 => if b_53 then Rs.ok true s_54 else (Rs.ok false s_54))).bind fun b_87 s_77 => if b_87 then ((Rs.ok (D.bl false) s_77).bind fun d_79 s_80 => Rs.ok (O3.rt d_79) s_80) else ((((Sc_is_relation_2 C value1 s_77).bind fun x_83 s_84 => Rs.ok [x_83] s_84).bind (bfnR .all)).bind fun d_81 s_82 => Rs.ok (O3.rt d_81) s_82)))
def S_is_relation (C : Cl) (size0 value1 : D) (s : Sto) : Rs D := retK (B_is_relation C size0 value1 s)
theorem sim_is_relation (C : Cl) (size0 value1 : D) (s : Sto) : Sim false (fun _ _ => True) (evSs C b_is_relation [some (false, size0), some (false, value1), none, none] s) (B_is_relation C size0 value1 s) := (sim_ite rfl (fun s_41 => (show Sim _ _ (evSs C _ [some (false, size0), some (false, value1), none, none] s_41) _ from (sim_ret rfl rfl (fun z => nomatch z)))) (fun s_41 => (show Sim _ _ (evSs C _ [some (false, size0), some (false, value1), none, none] s_41) _ from (sim_ite (by show (((((subR value1 (nat 1) s_41).bind fun x_67 s_68 => (isiR [.tuple] x_67 s_68)).bind fun x_65 s_66 => (truR x_65 s_66)).bind fun b_63 s_64 => Rs.ok (!b_63) s_64).bind fun b_61 s_62 => if b_61 then Rs.ok true s_62 else ((((((evE C c_is_relation_1 [some (false, size0), some (false, value1), none, none] s_62).bind fun x_75 s_76 => Rs.ok [x_75] s_76).bind (bfnR .all)).bind fun x_73 s_74 => (truR x_73 s_74)).bind fun b_71 s_72 => Rs.ok (!b_71) s_72).bind fun b_69 s_70 => if b_69 then Rs.ok true s_70 else (Rs.ok false s_70))) = _; simp only [e_c_is_relation_1]) (fun s_77 => (show Sim _ _ (evSs C _ [some (false, size0), some (false, value1), none, none] s_77) _ from (sim_ret rfl rfl (fun z => nomatch z)))) (fun s_77 => (show Sim _ _ (evSs C _ [some (false, size0), some (false, value1), none, none] s_77) _ from (sim_ret (by show (((evE C c_is_relation_2 [some (false, size0), some (false, value1), none, none] s_77).bind fun x_85 s_86 => Rs.ok [x_85] s_86).bind (bfnR .all)) = _; simp only [e_c_is_relation_2]) rfl (fun z => nomatch z))))))))
theorem call_is_relation {T : Tab} (h : T 21 = some F_is_relation) (k : Nat) (size0 value1 : D) (s : Sto) : callF T (k + 1) 21 [size0, value1] s = S_is_relation (clOf T k) size0 value1 s := call_sim h rfl (sim_is_relation (clOf T k) size0 value1 s)
structure H_is_relation (T : Tab) : Prop where
  f : T 21 = some F_is_relation
  is_in : H_is_in T
  is_row : H_is_row T
end Mi
namespace Mi
open PySem PySem.Spec
def b_need_relation : CSs :=
  (.cons (.ite (.not (.val (.call 21 (.cons (.var 0) (.cons (.var 1) .nil)))))
    (.cons (.raise 7 .nil)
    .nil)
    .nil)
    .nil)
def F_need_relation : Fn := ⟨2, 2, false, b_need_relation⟩
def B_need_relation (C : Cl) (size0 value1 : D) (s : Sto) : Rs (O3 Unit) := (((((Rs.ok [size0, value1] s).bind (C.run 21)).bind fun x_3 s_4 => (truR x_3 s_4)).bind fun b_1 s_2 => Rs.ok (!b_1) s_2).bind fun b_13 s_9 => if b_13 then ((Rs.ok [] s_9).bind fun xs_11 s_12 => Rs.exc 7 xs_11 s_12) else (Rs.ok (O3.nx ()) s_9))
def S_need_relation (C : Cl) (size0 value1 : D) (s : Sto) : Rs D := retK (B_need_relation C size0 value1 s)
theorem sim_need_relation (C : Cl) (size0 value1 : D) (s : Sto) : Sim false (fun _ _ => True) (evSs C b_need_relation [some (false, size0), some (false, value1)] s) (B_need_relation C size0 value1 s) := (sim_ite rfl (fun s_9 => (show Sim _ _ (evSs C _ [some (false, size0), some (false, value1)] s_9) _ from (sim_raise rfl rfl))) (fun s_9 => (show Sim _ _ (evSs C _ [some (false, size0), some (false, value1)] s_9) _ from (sim_nil trivial))))
theorem call_need_relation {T : Tab} (h : T 22 = some F_need_relation) (k : Nat) (size0 value1 : D) (s : Sto) : callF T (k + 1) 22 [size0, value1] s = S_need_relation (clOf T k) size0 value1 s := call_sim h rfl (sim_need_relation (clOf T k) size0 value1 s)
structure H_need_relation (T : Tab) : Prop where
  f : T 22 = some F_need_relation
  is_relation : H_is_relation T
end Mi
namespace Mi
open PySem PySem.Spec
def b_need_pair : CSs :=
  (.cons (.expr (.call 2 (.cons (.var 0) .nil)))
    (.cons (.expr (.call 8 (.cons (.var 0) (.cons (.var 1) .nil))))
    (.cons (.expr (.call 22 (.cons (.var 0) (.cons (.var 2) .nil))))
    .nil)))
def F_need_pair : Fn := ⟨3, 3, false, b_need_pair⟩
def B_need_pair (C : Cl) (size0 operation1 relation2 : D) (s : Sto) : Rs (O3 Unit) := (((Rs.ok [size0] s).bind (C.run 2)).bind fun _ s_1 => (((Rs.ok [size0, operation1] s_1).bind (C.run 8)).bind fun _ s_3 => (((Rs.ok [size0, relation2] s_3).bind (C.run 22)).bind fun _ s_5 => (Rs.ok (O3.nx ()) s_5))))
def S_need_pair (C : Cl) (size0 operation1 relation2 : D) (s : Sto) : Rs D := retK (B_need_pair C size0 operation1 relation2 s)
theorem sim_need_pair (C : Cl) (size0 operation1 relation2 : D) (s : Sto) : Sim false (fun _ _ => True) (evSs C b_need_pair [some (false, size0), some (false, operation1), some (false, relation2)] s) (B_need_pair C size0 operation1 relation2 s) := (sim_expr rfl fun s_1 => (show Sim _ _ (evSs C _ [some (false, size0), some (false, operation1), some (false, relation2)] s_1) _ from (sim_expr rfl fun s_3 => (show Sim _ _ (evSs C _ [some (false, size0), some (false, operation1), some (false, relation2)] s_3) _ from (sim_expr rfl fun s_5 => (show Sim _ _ (evSs C _ [some (false, size0), some (false, operation1), some (false, relation2)] s_5) _ from (sim_nil trivial)))))))
theorem call_need_pair {T : Tab} (h : T 26 = some F_need_pair) (k : Nat) (size0 operation1 relation2 : D) (s : Sto) : callF T (k + 1) 26 [size0, operation1, relation2] s = S_need_pair (clOf T k) size0 operation1 relation2 s := call_sim h rfl (sim_need_pair (clOf T k) size0 operation1 relation2 s)
structure H_need_pair (T : Tab) : Prop where
  f : T 26 = some F_need_pair
  need_size : H_need_size T
  need_operation : H_need_operation T
  need_relation : H_need_relation T
end Mi
namespace Mi
open PySem PySem.Spec
def b_breaks : CSs :=
  (.cons (.expr (.call 26 (.cons (.var 0) (.cons (.var 1) (.cons (.var 2) .nil)))))
    (.cons (.ret (.call 25 (.cons (.var 0) (.cons (.var 1) (.cons (.var 2) .nil)))))
    .nil))
def F_breaks : Fn := ⟨3, 3, false, b_breaks⟩
def B_breaks (C : Cl) (size0 operation1 relation2 : D) (s : Sto) : Rs (O3 Unit) := (((Rs.ok [size0, operation1, relation2] s).bind (C.run 26)).bind fun _ s_1 => (((Rs.ok [size0, operation1, relation2] s_1).bind (C.run 25)).bind fun d_3 s_4 => Rs.ok (O3.rt d_3) s_4))
def S_breaks (C : Cl) (size0 operation1 relation2 : D) (s : Sto) : Rs D := retK (B_breaks C size0 operation1 relation2 s)
theorem sim_breaks (C : Cl) (size0 operation1 relation2 : D) (s : Sto) : Sim false (fun _ _ => True) (evSs C b_breaks [some (false, size0), some (false, operation1), some (false, relation2)] s) (B_breaks C size0 operation1 relation2 s) := (sim_expr rfl fun s_1 => (show Sim _ _ (evSs C _ [some (false, size0), some (false, operation1), some (false, relation2)] s_1) _ from (sim_ret rfl rfl (fun z => nomatch z))))
theorem call_breaks {T : Tab} (h : T 28 = some F_breaks) (k : Nat) (size0 operation1 relation2 : D) (s : Sto) : callF T (k + 1) 28 [size0, operation1, relation2] s = S_breaks (clOf T k) size0 operation1 relation2 s := call_sim h rfl (sim_breaks (clOf T k) size0 operation1 relation2 s)
structure H_breaks (T : Tab) : Prop where
  f : T 28 = some F_breaks
  first_broken : H_first_broken T
  need_pair : H_need_pair T
end Mi
namespace Mi
open PySem PySem.Spec
def c_law_tuples_1 : CE :=
  (.comp (.nm 6) (.seq (.var 0)) .nil (.bin .Add (.var 5) (.tup (.cons (.var 6) .nil))) [6])
def bl_law_tuples_2 : CSs :=
  (.cons (.asg (.nm 4) (.bin .Add (.var 4) c_law_tuples_1))
    .nil)
def bl_law_tuples_3 : CSs :=
  (.cons (.asg (.nm 4) (.lst .nil))
    (.cons (.forr (.nm 5) (.seq (.var 2)) bl_law_tuples_2)
    (.cons (.asg (.nm 2) (.var 4))
    .nil)))
def b_law_tuples : CSs :=
  (.cons (.asg (.nm 2) (.lst (.cons (.tup .nil) .nil)))
    (.cons (.forr (.nm 3) (.range1 (.var 1)) bl_law_tuples_3)
    (.cons (.ret (.var 2))
    .nil)))
def F_law_tuples : Fn := ⟨2, 7, false, b_law_tuples⟩
def Sc_law_tuples_1 (C : Cl) (things0 : D) (told5 : D) (s : Sto) : Rs D := ((seqR things0 s).bind (mapR fun x s => (((Rs.ok [x] s).bind tupR).bind fun x_1 s_2 => (binR .Add told5 x_1 s_2))))
theorem e_c_law_tuples_1 (C : Cl) (things0 : D) (many1 : D) (found2 : D) (turn3 : D) (more4 : D) (told5 : D) (s : Sto) : evE C c_law_tuples_1 [some (false, things0), some (false, many1), some (false, found2), some (false, turn3), some (false, more4), some (false, told5), none] s = Sc_law_tuples_1 C things0 told5 s := comp_sh rfl fun x s => rfl
def L_law_tuples_2 (C : Cl) (things0 : D) (x : D) (st : D) (s : Sto) : Rs (O3 (D)) := (((Sc_law_tuples_1 C things0 x s).bind fun x_15 s_16 => (binR .Add st x_15 s_16)).bind fun more_13 s_14 => (Rs.ok (O3.nx more_13) s_14))
theorem sim_L_law_tuples_2 (C : Cl) (things0 : D) (many1 : D) (found2 : D) (turn3 : D) (j5 : Option (Bool × D)) (x : D) (st : D) (s : Sto) : Sim false (fun (q_12st : D) (q_12e : MEnv) => ∃ (q_12j5 : Option (Bool × D)), q_12e = [some (false, things0), some (false, many1), some (false, found2), some (false, turn3), some (false, q_12st), q_12j5, none]) (bindK (bindT (.nm 5) x [some (false, things0), some (false, many1), some (false, found2), some (false, turn3), some (false, st), j5, none]) fun e1 => evSs C bl_law_tuples_2 e1 s) (L_law_tuples_2 C things0 x st s) := (show Sim _ _ (evSs C _ [some (false, things0), some (false, many1), some (false, found2), some (false, turn3), some (false, st), some (false, x), none] s) _ from (sim_asg (by show ((evE C c_law_tuples_1 [some (false, things0), some (false, many1), some (false, found2), some (false, turn3), some (false, st), some (false, x), none] s).bind fun x_17 s_18 => (binR .Add st x_17 s_18)) = _; simp only [e_c_law_tuples_1]) rfl (show 4 < 7 from by decide) fun more_13 s_14 => (show Sim _ _ (evSs C _ [some (false, things0), some (false, many1), some (false, found2), some (false, turn3), some (false, more_13), some (false, x), none] s_14) _ from (sim_nil ⟨_, rfl⟩))))
def L_law_tuples_1 (C : Cl) (things0 : D) (x : D) (st : D) (s : Sto) : Rs (O3 (D)) := (((Rs.ok [] s).bind lstR).bind fun more_9 s_10 => ((seqR st s_10).bind fun xs_28 s_29 => o2K (loopR (L_law_tuples_2 C things0) xs_28 more_9 s_29) fun st_19 s_20 => ((Rs.ok st_19 s_20).bind fun found_22 s_23 => (Rs.ok (O3.nx found_22) s_23))))
theorem sim_L_law_tuples_1 (C : Cl) (things0 : D) (many1 : D) (j3 : Option (Bool × D)) (j4 : Option (Bool × D)) (j5 : Option (Bool × D)) (x : D) (st : D) (s : Sto) : Sim false (fun (q_8st : D) (q_8e : MEnv) => ∃ (q_8j3 : Option (Bool × D)) (q_8j4 : Option (Bool × D)) (q_8j5 : Option (Bool × D)), q_8e = [some (false, things0), some (false, many1), some (false, q_8st), q_8j3, q_8j4, q_8j5, none]) (bindK (bindT (.nm 3) x [some (false, things0), some (false, many1), some (false, st), j3, j4, j5, none]) fun e1 => evSs C bl_law_tuples_3 e1 s) (L_law_tuples_1 C things0 x st s) := (show Sim _ _ (evSs C _ [some (false, things0), some (false, many1), some (false, st), some (false, x), j4, j5, none] s) _ from (sim_asg rfl rfl (show 4 < 7 from by decide) fun more_9 s_10 => (show Sim _ _ (evSs C _ [some (false, things0), some (false, many1), some (false, st), some (false, x), some (false, more_9), j5, none] s_10) _ from (sim_for (fun (q_11st : D) (q_11e : MEnv) => ∃ (q_11j5 : Option (Bool × D)), q_11e = [some (false, things0), some (false, many1), some (false, st), some (false, x), some (false, q_11st), q_11j5, none]) rfl ⟨_, rfl⟩ (by rintro x_26 st_24 _ s_25 ⟨j_27, rfl⟩; exact sim_L_law_tuples_2 C things0 many1 st x j_27 x_26 st_24 s_25) (by rintro st_19 _ s_20 ⟨j_21, rfl⟩; exact (show Sim _ _ (evSs C _ [some (false, things0), some (false, many1), some (false, st), some (false, x), some (false, st_19), j_21, none] s_20) _ from (sim_asg rfl rfl (show 2 < 7 from by decide) fun found_22 s_23 => (show Sim _ _ (evSs C _ [some (false, things0), some (false, many1), some (false, found_22), some (false, x), some (false, st_19), j_21, none] s_23) _ from (sim_nil ⟨_, _, _, rfl⟩)))))))))
def B_law_tuples (C : Cl) (things0 many1 : D) (s : Sto) : Rs (O3 Unit) := (((((Rs.ok [] s).bind tupR).bind fun x_3 s_4 => Rs.ok [x_3] s_4).bind lstR).bind fun found_1 s_2 => ((rng1R many1 s_2).bind fun xs_43 s_44 => o2K (loopR (L_law_tuples_1 C things0) xs_43 found_1 s_44) fun st_30 s_31 => ((Rs.ok st_30 s_31).bind fun d_35 s_36 => Rs.ok (O3.rt d_35) s_36)))
def S_law_tuples (C : Cl) (things0 many1 : D) (s : Sto) : Rs D := retK (B_law_tuples C things0 many1 s)
theorem sim_law_tuples (C : Cl) (things0 many1 : D) (s : Sto) : Sim false (fun _ _ => True) (evSs C b_law_tuples [some (false, things0), some (false, many1), none, none, none, none, none] s) (B_law_tuples C things0 many1 s) := (sim_asg rfl rfl (show 2 < 7 from by decide) fun found_1 s_2 => (show Sim _ _ (evSs C _ [some (false, things0), some (false, many1), some (false, found_1), none, none, none, none] s_2) _ from (sim_for (fun (q_7st : D) (q_7e : MEnv) => ∃ (q_7j3 : Option (Bool × D)) (q_7j4 : Option (Bool × D)) (q_7j5 : Option (Bool × D)), q_7e = [some (false, things0), some (false, many1), some (false, q_7st), q_7j3, q_7j4, q_7j5, none]) rfl ⟨_, _, _, rfl⟩ (by rintro x_39 st_37 _ s_38 ⟨j_40, j_41, j_42, rfl⟩; exact sim_L_law_tuples_1 C things0 many1 j_40 j_41 j_42 x_39 st_37 s_38) (by rintro st_30 _ s_31 ⟨j_32, j_33, j_34, rfl⟩; exact (show Sim _ _ (evSs C _ [some (false, things0), some (false, many1), some (false, st_30), j_32, j_33, j_34, none] s_31) _ from (sim_ret rfl rfl (fun z => nomatch z)))))))
theorem call_law_tuples {T : Tab} (h : T 30 = some F_law_tuples) (k : Nat) (things0 many1 : D) (s : Sto) : callF T (k + 1) 30 [things0, many1] s = S_law_tuples (clOf T k) things0 many1 s := call_sim h rfl (sim_law_tuples (clOf T k) things0 many1 s)
structure H_law_tuples (T : Tab) : Prop where
  f : T 30 = some F_law_tuples
end Mi
namespace Mi
open PySem PySem.Spec
def c_law_carried_1 : CE :=
  (.comp (.nm 4) (.seq (.var 2)) .nil (.sub (.var 4) (.var 3)) [4])
def c_law_carried_2 : CE :=
  (.comp (.nm 3) (.range1 (.bfn .len (.cons (.sub (.var 2) (.cint 0)) .nil))) .nil (.call 18 (.cons (.var 0) (.cons (.var 1) (.cons c_law_carried_1 .nil)))) [3])
def b_law_carried : CSs :=
  (.cons (.ret (.bfn .tuple (.cons c_law_carried_2 .nil)))
    .nil)
def F_law_carried : Fn := ⟨3, 5, false, b_law_carried⟩
def Sc_law_carried_1 (C : Cl) (rows_here2 : D) (at3 : D) (s : Sto) : Rs D := ((seqR rows_here2 s).bind (mapR fun x s => (subR x at3 s)))
theorem e_c_law_carried_1 (C : Cl) (size0 : D) (operation1 : D) (rows_here2 : D) (at3 : D) (s : Sto) : evE C c_law_carried_1 [some (false, size0), some (false, operation1), some (false, rows_here2), some (false, at3), none] s = Sc_law_carried_1 C rows_here2 at3 s := comp_sh rfl fun x s => rfl
def Sc_law_carried_2 (C : Cl) (size0 : D) (operation1 : D) (rows_here2 : D) (s : Sto) : Rs D := (((((subR rows_here2 (nat 0) s).bind fun x_3 s_4 => Rs.ok [x_3] s_4).bind (bfnR .len)).bind fun x_1 s_2 => (rng1R x_1 s_2)).bind (mapR fun x s => (((((Sc_law_carried_1 C rows_here2 x s).bind fun x_9 s_10 => Rs.ok [x_9] s_10).bind fun xs_11 s_12 => Rs.ok (operation1 :: xs_11) s_12).bind fun xs_13 s_14 => Rs.ok (size0 :: xs_13) s_14).bind (C.run 18))))
theorem e_c_law_carried_2 (C : Cl) (size0 : D) (operation1 : D) (rows_here2 : D) (s : Sto) : evE C c_law_carried_2 [some (false, size0), some (false, operation1), some (false, rows_here2), none, none] s = Sc_law_carried_2 C size0 operation1 rows_here2 s := comp_sh rfl fun x s => (by show (((((evE C c_law_carried_1 [some (false, size0), some (false, operation1), some (false, rows_here2), some (false, x), none] s).bind fun x_15 s_16 => Rs.ok [x_15] s_16).bind fun xs_17 s_18 => Rs.ok (operation1 :: xs_17) s_18).bind fun xs_19 s_20 => Rs.ok (size0 :: xs_19) s_20).bind (C.run 18)) = _; simp only [e_c_law_carried_1])
def B_law_carried (C : Cl) (size0 operation1 rows_here2 : D) (s : Sto) : Rs (O3 Unit) := ((((Sc_law_carried_2 C size0 operation1 rows_here2 s).bind fun x_3 s_4 => Rs.ok [x_3] s_4).bind (bfnR .tuple)).bind fun d_1 s_2 => Rs.ok (O3.rt d_1) s_2)
def S_law_carried (C : Cl) (size0 operation1 rows_here2 : D) (s : Sto) : Rs D := retK (B_law_carried C size0 operation1 rows_here2 s)
theorem sim_law_carried (C : Cl) (size0 operation1 rows_here2 : D) (s : Sto) : Sim false (fun _ _ => True) (evSs C b_law_carried [some (false, size0), some (false, operation1), some (false, rows_here2), none, none] s) (B_law_carried C size0 operation1 rows_here2 s) := (sim_ret (by show (((evE C c_law_carried_2 [some (false, size0), some (false, operation1), some (false, rows_here2), none, none] s).bind fun x_5 s_6 => Rs.ok [x_5] s_6).bind (bfnR .tuple)) = _; simp only [e_c_law_carried_2]) rfl (fun z => nomatch z))
theorem call_law_carried {T : Tab} (h : T 31 = some F_law_carried) (k : Nat) (size0 operation1 rows_here2 : D) (s : Sto) : callF T (k + 1) 31 [size0, operation1, rows_here2] s = S_law_carried (clOf T k) size0 operation1 rows_here2 s := call_sim h rfl (sim_law_carried (clOf T k) size0 operation1 rows_here2 s)
structure H_law_carried (T : Tab) : Prop where
  f : T 31 = some F_law_carried
  law_value : H_law_value T
end Mi
namespace Mi
open PySem PySem.Spec
def bl_law_breaks_1 : CSs :=
  (.cons (.seti 3 (.var 4) (.cbl true))
    .nil)
def bl_law_breaks_2 : CSs :=
  (.cons (.ite (.val (.cmp .NotIn (.call 31 (.cons (.var 0) (.cons (.var 1) (.cons (.var 5) .nil)))) (.var 3)))
    (.cons (.ret (.var 5))
    .nil)
    .nil)
    .nil)
def b_law_breaks : CSs :=
  (.cons (.asgO 3 (.dict0 true))
    (.cons (.forr (.nm 4) (.seq (.sub (.var 2) (.cint 1))) bl_law_breaks_1)
    (.cons (.forr (.nm 5) (.seq (.call 30 (.cons (.bfn .list (.cons (.sub (.var 2) (.cint 1)) .nil)) (.cons (.sub (.var 1) (.cint 0)) .nil)))) bl_law_breaks_2)
    (.cons (.ret .cnon)
    .nil))))
def F_law_breaks : Fn := ⟨3, 6, false, b_law_breaks⟩
def L_law_breaks_1 (C : Cl) (size0 : D) (operation1 : D) (relation2 : D) (x : D) (st : D) (s : Sto) : Rs (O3 (D)) := ((Rs.ok (D.bl true) s).bind fun d_5 s_8 => ((Rs.ok x s_8).bind fun k_6 s_9 => optK (putD st k_6 d_5) fun known_7 => (Rs.ok (O3.nx known_7) s_9)))
theorem sim_L_law_breaks_1 (C : Cl) (size0 : D) (operation1 : D) (relation2 : D) (j4 : Option (Bool × D)) (x : D) (st : D) (s : Sto) : Sim false (fun (q_4st : D) (q_4e : MEnv) => ∃ (q_4j4 : Option (Bool × D)), q_4e = [some (false, size0), some (false, operation1), some (false, relation2), some (true, q_4st), q_4j4, none]) (bindK (bindT (.nm 4) x [some (false, size0), some (false, operation1), some (false, relation2), some (true, st), j4, none]) fun e1 => evSs C bl_law_breaks_1 e1 s) (L_law_breaks_1 C size0 operation1 relation2 x st s) := (show Sim _ _ (evSs C _ [some (false, size0), some (false, operation1), some (false, relation2), some (true, st), some (false, x), none] s) _ from (sim_seti rfl (fun s_8 => rfl) rfl rfl rfl fun known_7 s_9 => (show Sim _ _ (evSs C _ [some (false, size0), some (false, operation1), some (false, relation2), some (true, known_7), some (false, x), none] s_9) _ from (sim_nil ⟨_, rfl⟩))))
def L_law_breaks_2 (C : Cl) (size0 : D) (operation1 : D) (known3 : D) (x : D) (st : Unit) (s : Sto) : Rs (O3 (Unit)) := (((((Rs.ok [size0, operation1, x] s).bind (C.run 31)).bind fun x_17 s_18 => (cmpR .NotIn x_17 known3 s_18)).bind fun x_15 s_16 => (truR x_15 s_16)).bind fun b_27 s_23 => if b_27 then ((Rs.ok x s_23).bind fun d_25 s_26 => Rs.ok (O3.rt d_25) s_26) else (Rs.ok (O3.nx ()) s_23))
theorem sim_L_law_breaks_2 (C : Cl) (size0 : D) (operation1 : D) (relation2 : D) (known3 : D) (j4 : Option (Bool × D)) (j5 : Option (Bool × D)) (x : D) (st : Unit) (s : Sto) : Sim false (fun (q_14st : Unit) (q_14e : MEnv) => ∃ (q_14j5 : Option (Bool × D)), q_14e = [some (false, size0), some (false, operation1), some (false, relation2), some (true, known3), j4, q_14j5]) (bindK (bindT (.nm 5) x [some (false, size0), some (false, operation1), some (false, relation2), some (true, known3), j4, j5]) fun e1 => evSs C bl_law_breaks_2 e1 s) (L_law_breaks_2 C size0 operation1 known3 x st s) := (show Sim _ _ (evSs C _ [some (false, size0), some (false, operation1), some (false, relation2), some (true, known3), j4, some (false, x)] s) _ from (sim_ite rfl (fun s_23 => (show Sim _ _ (evSs C _ [some (false, size0), some (false, operation1), some (false, relation2), some (true, known3), j4, some (false, x)] s_23) _ from (sim_ret rfl rfl (fun z => nomatch z)))) (fun s_23 => (show Sim _ _ (evSs C _ [some (false, size0), some (false, operation1), some (false, relation2), some (true, known3), j4, some (false, x)] s_23) _ from (sim_nil ⟨_, rfl⟩)))))
def B_law_breaks (C : Cl) (size0 operation1 relation2 : D) (s : Sto) : Rs (O3 Unit) := ((Rs.ok (D.dct true [] []) s).bind fun known_1 s_2 => (((subR relation2 (nat 1) s_2).bind fun x_63 s_64 => (seqR x_63 s_64)).bind fun xs_67 s_68 => o2K (loopR (L_law_breaks_1 C size0 operation1 relation2) xs_67 known_1 s_68) fun st_10 s_11 => (((((((subR relation2 (nat 1) s_11).bind fun x_45 s_46 => Rs.ok [x_45] s_46).bind (bfnR .list)).bind fun x_39 s_40 => (((subR operation1 (nat 0) s_40).bind fun x_41 s_42 => Rs.ok [x_41] s_42).bind fun xs_43 s_44 => Rs.ok (x_39 :: xs_43) s_44)).bind (C.run 30)).bind fun x_37 s_38 => (seqR x_37 s_38)).bind fun xs_57 s_58 => o2K (loopR (L_law_breaks_2 C size0 operation1 st_10) xs_57 () s_58) fun st_28 s_29 => ((Rs.ok D.non s_29).bind fun d_31 s_32 => Rs.ok (O3.rt d_31) s_32))))
def S_law_breaks (C : Cl) (size0 operation1 relation2 : D) (s : Sto) : Rs D := retK (B_law_breaks C size0 operation1 relation2 s)
theorem sim_law_breaks (C : Cl) (size0 operation1 relation2 : D) (s : Sto) : Sim false (fun _ _ => True) (evSs C b_law_breaks [some (false, size0), some (false, operation1), some (false, relation2), none, none, none] s) (B_law_breaks C size0 operation1 relation2 s) := (sim_asgO rfl rfl (show 3 < 6 from by decide) fun known_1 s_2 => (show Sim _ _ (evSs C _ [some (false, size0), some (false, operation1), some (false, relation2), some (true, known_1), none, none] s_2) _ from (sim_for (fun (q_3st : D) (q_3e : MEnv) => ∃ (q_3j4 : Option (Bool × D)), q_3e = [some (false, size0), some (false, operation1), some (false, relation2), some (true, q_3st), q_3j4, none]) rfl ⟨_, rfl⟩ (by rintro x_61 st_59 _ s_60 ⟨j_62, rfl⟩; exact sim_L_law_breaks_1 C size0 operation1 relation2 j_62 x_61 st_59 s_60) (by rintro st_10 _ s_11 ⟨j_12, rfl⟩; exact (show Sim _ _ (evSs C _ [some (false, size0), some (false, operation1), some (false, relation2), some (true, st_10), j_12, none] s_11) _ from (sim_for (fun (q_13st : Unit) (q_13e : MEnv) => ∃ (q_13j5 : Option (Bool × D)), q_13e = [some (false, size0), some (false, operation1), some (false, relation2), some (true, st_10), j_12, q_13j5]) rfl ⟨_, rfl⟩ (by rintro x_35 st_33 _ s_34 ⟨j_36, rfl⟩; exact sim_L_law_breaks_2 C size0 operation1 relation2 st_10 j_12 j_36 x_35 st_33 s_34) (by rintro st_28 _ s_29 ⟨j_30, rfl⟩; exact (show Sim _ _ (evSs C _ [some (false, size0), some (false, operation1), some (false, relation2), some (true, st_10), j_12, j_30] s_29) _ from (sim_ret rfl rfl (fun z => nomatch z))))))))))
theorem call_law_breaks {T : Tab} (h : T 32 = some F_law_breaks) (k : Nat) (size0 operation1 relation2 : D) (s : Sto) : callF T (k + 1) 32 [size0, operation1, relation2] s = S_law_breaks (clOf T k) size0 operation1 relation2 s := call_sim h rfl (sim_law_breaks (clOf T k) size0 operation1 relation2 s)
structure H_law_breaks (T : Tab) : Prop where
  f : T 32 = some F_law_breaks
  law_tuples : H_law_tuples T
  law_carried : H_law_carried T
end Mi
namespace Mi
open PySem PySem.Spec
def b_law_pick : CSs :=
  (.cons (.ret (.sub (.var 1) (.call 15 (.cons (.var 0) (.cons (.bfn .len (.cons (.var 1) .nil)) .nil)))))
    .nil)
def F_law_pick : Fn := ⟨2, 2, false, b_law_pick⟩
def B_law_pick (C : Cl) (row0 things1 : D) (s : Sto) : Rs (O3 Unit) := (((((((Rs.ok [things1] s).bind (bfnR .len)).bind fun x_5 s_6 => Rs.ok [x_5] s_6).bind fun xs_7 s_8 => Rs.ok (row0 :: xs_7) s_8).bind (C.run 15)).bind fun x_3 s_4 => (subR things1 x_3 s_4)).bind fun d_1 s_2 => Rs.ok (O3.rt d_1) s_2)
def S_law_pick (C : Cl) (row0 things1 : D) (s : Sto) : Rs D := retK (B_law_pick C row0 things1 s)
theorem sim_law_pick (C : Cl) (row0 things1 : D) (s : Sto) : Sim false (fun _ _ => True) (evSs C b_law_pick [some (false, row0), some (false, things1)] s) (B_law_pick C row0 things1 s) := (sim_ret rfl rfl (fun z => nomatch z))
theorem call_law_pick {T : Tab} (h : T 29 = some F_law_pick) (k : Nat) (row0 things1 : D) (s : Sto) : callF T (k + 1) 29 [row0, things1] s = S_law_pick (clOf T k) row0 things1 s := call_sim h rfl (sim_law_pick (clOf T k) row0 things1 s)
structure H_law_pick (T : Tab) : Prop where
  f : T 29 = some F_law_pick
  law_taken : H_law_taken T
end Mi
namespace Mi
open PySem PySem.Spec
def b_keeps : CSs :=
  (.cons (.expr (.call 26 (.cons (.var 0) (.cons (.var 1) (.cons (.var 2) .nil)))))
    (.cons (.ret (.cmp .Is (.call 25 (.cons (.var 0) (.cons (.var 1) (.cons (.var 2) .nil)))) .cnon))
    .nil))
def F_keeps : Fn := ⟨3, 3, false, b_keeps⟩
def B_keeps (C : Cl) (size0 operation1 relation2 : D) (s : Sto) : Rs (O3 Unit) := (((Rs.ok [size0, operation1, relation2] s).bind (C.run 26)).bind fun _ s_1 => ((((Rs.ok [size0, operation1, relation2] s_1).bind (C.run 25)).bind fun x_5 s_6 => (cmpR .Is x_5 D.non s_6)).bind fun d_3 s_4 => Rs.ok (O3.rt d_3) s_4))
def S_keeps (C : Cl) (size0 operation1 relation2 : D) (s : Sto) : Rs D := retK (B_keeps C size0 operation1 relation2 s)
theorem sim_keeps (C : Cl) (size0 operation1 relation2 : D) (s : Sto) : Sim false (fun _ _ => True) (evSs C b_keeps [some (false, size0), some (false, operation1), some (false, relation2)] s) (B_keeps C size0 operation1 relation2 s) := (sim_expr rfl fun s_1 => (show Sim _ _ (evSs C _ [some (false, size0), some (false, operation1), some (false, relation2)] s_1) _ from (sim_ret rfl rfl (fun z => nomatch z))))
theorem call_keeps {T : Tab} (h : T 27 = some F_keeps) (k : Nat) (size0 operation1 relation2 : D) (s : Sto) : callF T (k + 1) 27 [size0, operation1, relation2] s = S_keeps (clOf T k) size0 operation1 relation2 s := call_sim h rfl (sim_keeps (clOf T k) size0 operation1 relation2 s)
structure H_keeps (T : Tab) : Prop where
  f : T 27 = some F_keeps
  first_broken : H_first_broken T
  need_pair : H_need_pair T
end Mi
/-! B4: rows in order, dicts of rows, relations, tuples of rows, images, broken rows. -/
namespace Mi
open PySem PySem.Spec

/-! ### order -/
theorem ltvs_nat : ∀ a b : List Nat, D.ltvs (a.map nat) (b.map nat) = decide (a < b)
  | [], [] => by simp [D.ltvs]
  | [], _ :: _ => by simp [D.ltvs]
  | _ :: _, [] => by simp [D.ltvs]
  | x :: a, y :: b => by
    have un : D.ltvs ((x :: a).map nat) ((y :: b).map nat) = if x = y then D.ltvs (a.map nat) (b.map nat) else decide (x < y) := by
      simp only [List.map_cons, D.ltvs, eqv_nat]
      by_cases e : x = y
      · simp [e]
      · simp only [e, decide_false, Bool.false_eq_true, if_false]
        simp [nat, D.ltv]
    rw [un, ltvs_nat a b]
    by_cases e : x = y
    · subst e
      simp
    · rw [if_neg e]
      simp [List.cons_lt_cons_iff, e]
theorem lex_nat : ∀ a b : List Nat, HT.lexLt (a.map fun (x : Nat) => (x : Int)) (b.map fun (x : Nat) => (x : Int)) = decide (a < b)
  | [], [] => by simp [HT.lexLt]
  | [], _ :: _ => by simp [HT.lexLt]
  | _ :: _, [] => by simp [HT.lexLt]
  | x :: a, y :: b => by
    rw [List.map_cons, List.map_cons, HT.lexLt_cons, lex_nat a b]
    by_cases e : x = y
    · subst e
      simp
    · rw [if_neg (by omega)]
      simp [List.cons_lt_cons_iff, e]
theorem intsOf_nat : ∀ a : List Nat, intsOf (a.map nat) = some (a.map fun (x : Nat) => (x : Int))
  | [] => rfl
  | x :: a => by rw [List.map_cons, nat, intsOf, intsOf_nat a]; rfl
@[simp] theorem cmp_lt_tN (a b : List Nat) (s : Sto) : cmpR .Lt (tN a) (tN b) s = .ok (.bl (decide (a < b))) s := by
  simp only [cmpR, cmpD, tN, intsOf_nat, lexI, lex_nat]
  rfl
theorem leD_tN (a b : List Nat) : leD (tN a) (tN b) = decide (a ≤ b) := by
  have : leD (tN a) (tN b) = !(D.ltvs (b.map nat) (a.map nat)) := rfl
  rw [this, ltvs_nat]
  have h : (a ≤ b) ↔ ¬ b < a := List.not_lt.symm
  by_cases z : b < a <;> simp [z, h]
theorem alks_nat : ∀ a b : List Nat, D.alks (a.map nat) (b.map nat) = true
  | [], b => by cases b <;> rfl
  | _ :: _, [] => rfl
  | x :: a, y :: b => by simp [D.alks, D.alk, nat, alks_nat a b]
/-- rows in order -/
def leN (a b : List Nat) : Bool := decide (a ≤ b)
def srtN (K : List (List Nat)) : List (List Nat) := K.mergeSort leN
theorem srtN_perm (K : List (List Nat)) : (srtN K).Perm K := List.mergeSort_perm K leN
theorem srtN_mem {K : List (List Nat)} {r : List Nat} : r ∈ srtN K ↔ r ∈ K := (srtN_perm K).mem_iff
theorem srtN_len (K : List (List Nat)) : (srtN K).length = K.length := (srtN_perm K).length_eq
theorem srtN_le (K : List (List Nat)) : (srtN K).Pairwise (· ≤ ·) := by
  refine (List.pairwise_mergeSort (le := leN) (fun a b c h1 h2 => ?_) (fun a b => ?_) K).imp fun h => of_decide_eq_true h
  · exact decide_eq_true (List.le_trans (of_decide_eq_true h1) (of_decide_eq_true h2))
  · simp only [leN, Bool.or_eq_true, decide_eq_true_eq]
    exact List.le_total a b
theorem srtN_lt {K : List (List Nat)} (h : K.Nodup) : (srtN K).Pairwise (· < ·) := by
  have n : (srtN K).Nodup := (srtN_perm K).nodup_iff.mpr h
  refine (srtN_le K).imp₂ (S := fun a b => a ≠ b) (fun {a b} h1 h2 => ?_) n
  exact Decidable.byContradiction fun z => h2 (List.le_antisymm h1 (List.not_lt.mp z))
theorem lt_nodup {K : List (List Nat)} (h : K.Pairwise (· < ·)) : K.Nodup := List.Pairwise.imp (S := fun a b => a ≠ b) (fun {a b} h1 (e : a = b) => List.lt_irrefl b (by rw [e] at h1; exact h1)) h
theorem asc_uniq {K L : List (List Nat)} (h : K.Pairwise (· < ·)) (h2 : L.Pairwise (· < ·)) (m : ∀ r, r ∈ K ↔ r ∈ L) : K = L := by
  have p : K.Perm L := by
    rw [List.perm_iff_count]
    intro a
    rw [(lt_nodup h).count, (lt_nodup h2).count]
    simp only [m]
  exact List.Perm.eq_of_pairwise (le := (· < ·)) (fun a b _ _ h1 h2 => absurd (List.lt_trans h1 h2) (List.lt_irrefl a)) h h2 p
theorem srt_asc {K : List (List Nat)} (h : K.Pairwise (· < ·)) : srtN K = K := asc_uniq (srtN_lt (lt_nodup h)) h fun _ => srtN_mem
theorem sortD_rows {K : List (List Nat)} (h : ∀ r ∈ K, r ≠ []) : sortD (K.map tN) = some (lR (srtN K)) := by
  have h1 : srtOk (K.map tN) = true := by
    simp only [srtOk, alikeOk, Bool.and_eq_true, Bool.or_eq_true, List.all_map, List.all_eq_true, Function.comp_def]
    refine ⟨⟨fun r _ => by simp, fun r _ q _ => alks_nat r q⟩, .inl fun r hr => ?_⟩
    cases r with
    | nil => exact absurd rfl (h _ hr)
    | cons x r => rfl
  rw [sortD, if_pos h1, lR, srtN, List.map_mergeSort (r := leN) (s := leD) (f := tN) fun a _ b _ => (leD_tN a b).symm]
@[simp] theorem sorted_lR {K : List (List Nat)} (h : ∀ r ∈ K, r ≠ []) (s : Sto) : bfnR .sorted [lR K] s = .ok (lR (srtN K)) s := by
  simp [bfnR, bfnD, lR, sortD_rows h]
theorem sorted_dct {K : List (List Nat)} {vs : List D} (h : ∀ r ∈ K, r ≠ []) (s : Sto) : bfnR .sorted [.dct true (K.map tN) vs] s = .ok (lR (srtN K)) s := by
  simp [bfnR, bfnD, sortD_rows h]

/-! ### dicts of rows -/
/-- a dict whose keys are rows, each True -/
def dR (K : List (List Nat)) : D := .dct true (K.map tN) (K.map fun _ => .bl true)
def addN (K : List (List Nat)) (r : List Nat) : List (List Nat) := if r ∈ K then K else K ++ [r]
theorem any_row (K : List (List Nat)) (r : List Nat) : ((K.map tN).any fun z => D.eqv z (tN r)) = decide (r ∈ K) := by
  rw [List.any_map, Bool.eq_iff_iff]
  simp [Function.comp_def]
theorem key_row (r : List Nat) : keyOk true (tN r) = true := by
  simp [keyOk, tN, isK, nat]
theorem set_row (r : List Nat) : ∀ K : List (List Nat), setK (K.map tN) (K.map fun _ => D.bl true) (tN r) (.bl true) = K.map fun _ => D.bl true
  | [] => rfl
  | q :: K => by
    simp only [List.map_cons, setK, set_row r K, ite_self]
theorem put_row (K : List (List Nat)) (r : List Nat) : putKs (K.map tN) (K.map fun _ => D.bl true) (tN r) (.bl true) = ((addN K r).map tN, (addN K r).map fun _ => D.bl true) := by
  unfold putKs addN
  rw [any_row]
  by_cases h : r ∈ K <;> simp [h, set_row]
theorem addN_mem {K : List (List Nat)} {r q : List Nat} : q ∈ addN K r ↔ q ∈ K ∨ q = r := by
  unfold addN
  by_cases h : r ∈ K
  · rw [if_pos h]
    exact ⟨.inl, fun z => z.elim id fun e => e ▸ h⟩
  · rw [if_neg h]; simp
theorem addN_nodup {K : List (List Nat)} (h : K.Nodup) (r : List Nat) : (addN K r).Nodup := by
  unfold addN
  by_cases hk : r ∈ K
  · rw [if_pos hk]; exact h
  · rw [if_neg hk, List.nodup_append]
    exact ⟨h, by simp, fun a ha b hb e => hk (by simp at hb; rw [← hb, ← e]; exact ha)⟩
theorem addN_len (K : List (List Nat)) (r : List Nat) : (addN K r).length ≤ K.length + 1 := by
  unfold addN
  split <;> simp
theorem fold_add : ∀ (R K : List (List Nat)), K.Nodup → (R.foldl addN K).Nodup ∧ (∀ q, q ∈ R.foldl addN K ↔ q ∈ K ∨ q ∈ R) ∧ (R.foldl addN K).length ≤ K.length + R.length
  | [], K, h => ⟨h, by simp, by simp⟩
  | r :: R, K, h => by
    obtain ⟨h1, h2, h3⟩ := fold_add R _ (addN_nodup h r)
    refine ⟨h1, fun q => ?_, ?_⟩
    · rw [List.foldl_cons, h2, addN_mem]
      simp [or_assoc]
    · have := addN_len K r
      simp only [List.foldl_cons, List.length_cons]
      omega
theorem fold_app : ∀ (R K : List (List Nat)), (K ++ R).Nodup → R.foldl addN K = K ++ R
  | [], K, _ => by simp
  | r :: R, K, h => by
    have h1 : r ∉ K := by
      rw [List.nodup_append] at h
      exact fun z => h.2.2 r z r (by simp) rfl
    rw [List.foldl_cons, addN, if_neg h1, fold_app R _ (by simpa using h)]
    simp
theorem dctL_rows {f : D → Sto → Rs (D × D)} {s : Sto} : ∀ {R K : List (List Nat)}, K.length + R.length ≤ 16777216 → (∀ r ∈ R, f (tN r) s = .ok (tN r, .bl true) s) →
    dctL true f (R.map tN) (K.map tN) (K.map fun _ => .bl true) s = .ok ((R.foldl addN K).map tN, (R.foldl addN K).map fun _ => .bl true) s
  | [], K, _, _ => rfl
  | r :: R, K, hz, h => by
    have l1 : lenOk (K.length + 1) = true := lenOk_of (by simp at hz; omega)
    rw [List.map_cons, dctL, h r (by simp), Rs.bind_ok]
    simp only [key_row, List.length_map, l1, Bool.and_self, if_true, put_row]
    exact dctL_rows (K := addN K r) (by have := addN_len K r; simp at hz; omega) fun q hq => h q (by simp [hq])
theorem dct_rows {f : D → Sto → Rs (D × D)} {s : Sto} {R : List (List Nat)} (hz : R.length ≤ 16777216) (h : ∀ r ∈ R, f (tN r) s = .ok (tN r, .bl true) s) : dctR true f (R.map tN) s = .ok (dR (R.foldl addN [])) s := by
  have := dctL_rows (K := []) (R := R) (by simpa using hz) h
  rw [dctR]
  simp only [List.map_nil] at this
  rw [this]
  rfl
theorem put_dR {K : List (List Nat)} {r : List Nat} (h : K.length + 1 ≤ 16777216) : putD (dR K) (tN r) (.bl true) = some (dR (addN K r)) := by
  simp only [putD, dR, key_row, List.length_map, lenOk_of h, Bool.and_self, if_true, put_row]
@[simp] theorem in_dR (K : List (List Nat)) (r : List Nat) (s : Sto) : cmpR .In (tN r) (dR K) s = .ok (.bl (decide (r ∈ K))) s := by
  simp only [cmpR, cmpD, inD, dR, deref_dct, key_row, if_true, any_row]
  rfl
@[simp] theorem nin_dR (K : List (List Nat)) (r : List Nat) (s : Sto) : cmpR .NotIn (tN r) (dR K) s = .ok (.bl (!decide (r ∈ K))) s := by
  simp only [cmpR, cmpD, inD, dR, deref_dct, key_row, if_true, any_row]
  rfl
@[simp] theorem in_lR (K : List (List Nat)) (r : List Nat) (s : Sto) : cmpR .In (tN r) (lR K) s = .ok (.bl (decide (r ∈ K))) s := by
  simp only [cmpR, cmpD, inD, lR, deref_lst, deref_tN, plain_tN, List.all_map, Function.comp_def, any_row]
  simp
@[simp] theorem nin_lR (K : List (List Nat)) (r : List Nat) (s : Sto) : cmpR .NotIn (tN r) (lR K) s = .ok (.bl (!decide (r ∈ K))) s := by
  simp only [cmpR, cmpD, inD, lR, deref_lst, deref_tN, plain_tN, List.all_map, Function.comp_def, any_row]
  simp
@[simp] theorem in_tR (K : List (List Nat)) (r : List Nat) (s : Sto) : cmpR .In (tN r) (tR K) s = .ok (.bl (decide (r ∈ K))) s := by
  simp only [cmpR, cmpD, inD, tR, deref_tup, deref_tN, plain_tN, List.all_map, Function.comp_def, any_row]
  simp
@[simp] theorem len_dR (K : List (List Nat)) (s : Sto) : bfnR .len [dR K] s = .ok (nat K.length) s := by simp [dR]
@[simp] theorem sorted_dR {K : List (List Nat)} (h : ∀ r ∈ K, r ≠ []) (s : Sto) : bfnR .sorted [dR K] s = .ok (lR (srtN K)) s := sorted_dct h s

/-! ### relations -/
structure IsRel (z a : Nat) (R : List (List Nat)) : Prop where
  a1 : 1 ≤ a
  a4 : a ≤ 4
  rows : ∀ r ∈ R, r.length = a ∧ ∀ x ∈ r, x < z
  asc : R.Pairwise (· < ·)
theorem rows_few {z a : Nat} {K : List (List Nat)} (n : K.Nodup) (h : ∀ r ∈ K, r.length = a ∧ ∀ x ∈ r, x < z) : K.length ≤ z ^ a := by
  rw [← rowsN_len z a]
  exact n.length_le_of_subset fun r hr => rowsN_mem.mpr (h r hr)
theorem IsRel.few {z a : Nat} {R : List (List Nat)} (h : IsRel z a R) (hz : z ≤ 4) : R.length ≤ 256 := by
  refine Nat.le_trans (rows_few (lt_nodup h.asc) h.rows) (Nat.le_trans (Nat.pow_le_pow_left hz a) (Nat.le_trans (Nat.pow_le_pow_right (by omega) h.a4) (by decide)))
theorem IsRel.ne {z a : Nat} {R : List (List Nat)} (h : IsRel z a R) : ∀ r ∈ R, r ≠ [] := fun r hr e => by
  have := (h.rows r hr).1
  rw [e] at this
  have := h.a1
  simp at *
  omega
theorem isRel_of {z a : Nat} {K : List (List Nat)} (a1 : 1 ≤ a) (a4 : a ≤ 4) (n : K.Nodup) (h : ∀ r ∈ K, r.length = a ∧ ∀ x ∈ r, x < z) : IsRel z a (srtN K) := ⟨a1, a4, fun r hr => h r (srtN_mem.mp hr), srtN_lt n⟩
/-- tuples of rows, in order -/
def tuplesN (R : List (List Nat)) : Nat → List (List (List Nat))
  | 0 => [[]]
  | k + 1 => (tuplesN R k).flatMap fun t => R.map fun r => t ++ [r]
theorem tuplesN_len (R : List (List Nat)) : ∀ k, (tuplesN R k).length = R.length ^ k
  | 0 => rfl
  | k + 1 => by rw [tuplesN, flatMap_len _ R.length _ (fun x _ => by simp), tuplesN_len R k, Nat.pow_succ]
theorem tuplesN_mem {R : List (List Nat)} : ∀ {k : Nat} {t : List (List Nat)}, t ∈ tuplesN R k ↔ t.length = k ∧ ∀ r ∈ t, r ∈ R
  | 0, t => by
    simp only [tuplesN, List.mem_singleton, List.length_eq_zero_iff]
    constructor
    · rintro rfl; simp
    · exact fun h => h.1
  | k + 1, t => by
    simp only [tuplesN, List.mem_flatMap, List.mem_map]
    constructor
    · rintro ⟨u, hu, v, hv, rfl⟩
      obtain ⟨h1, h2⟩ := tuplesN_mem.mp hu
      refine ⟨by simp [h1], fun x hx => ?_⟩
      rcases List.mem_append.mp hx with q | q
      · exact h2 x q
      · simp at q; subst q; exact hv
    · rintro ⟨h1, h2⟩
      have hne : t ≠ [] := by intro e; rw [e] at h1; simp at h1
      exact ⟨t.dropLast, tuplesN_mem.mpr ⟨by simp [h1], fun x hx => h2 x (List.dropLast_subset t hx)⟩, t.getLast hne, h2 _ (List.getLast_mem hne), List.dropLast_concat_getLast hne⟩
def lT (L : List (List (List Nat))) : D := .lst (L.map tR)
@[simp] theorem seq_lT (L : List (List (List Nat))) (s : Sto) : seqR (lT L) s = .ok (L.map tR) s := rfl
/-- the image of rows -/
def imgN (z a : Nat) (tbl : List Nat) (t : List (List Nat)) : List Nat := (colsN t a).map (valN z tbl)
theorem img_rows {z n a : Nat} {tbl : List Nat} (o : IsOp z n tbl) {t : List (List Nat)} (ht : t.length = n) (hr : ∀ r ∈ t, r.length = a ∧ ∀ x ∈ r, x < z) : (imgN z a tbl t).length = a ∧ ∀ x ∈ imgN z a tbl t, x < z := by
  refine ⟨by simp [imgN, colsN_len], fun x hx => ?_⟩
  obtain ⟨c, hc, rfl⟩ := List.mem_map.mp hx
  obtain ⟨i, hi, rfl⟩ := List.mem_map.mp hc
  have hi := List.mem_range.mp hi
  refine o.val (by simpa using ht) fun y hy => ?_
  obtain ⟨r, hr', rfl⟩ := List.mem_map.mp hy
  obtain ⟨q1, q2⟩ := hr r hr'
  rw [List.getD_eq_getElem?_getD, List.getElem?_eq_getElem (by omega)]
  exact q2 _ (List.getElem_mem _)
theorem zipS_rowsT {L : List (List Nat)} {n : Nat} {s : Sto} (h0 : L ≠ []) (h1 : L.length ≤ 1000) (h2 : ∀ r ∈ L, r.length = n) : zipSR (tR L) s = .ok ((colsN L n).map tN) s := by
  have := zipS_rows (s := s) h0 h1 h2
  exact this
/-- the first broken tuple -/
def fbN (z n a : Nat) (tbl : List Nat) (R : List (List Nat)) : Option (List (List Nat)) := (tuplesN R n).find? fun t => !decide (imgN z a tbl t ∈ R)
def fbD : Option (List (List Nat)) → D
  | none => .non
  | some t => tR t
@[simp] theorem cmp_is_fbD (o : Option (List (List Nat))) (s : Sto) : cmpR .Is (fbD o) .non s = .ok (.bl o.isNone) s := by cases o <;> rfl
@[simp] theorem cmp_isn_fbD (o : Option (List (List Nat))) (s : Sto) : cmpR .IsNot (fbD o) .non s = .ok (.bl o.isSome) s := by cases o <;> rfl

section
variable {T : Tab} {k : Nat} {s : Sto}
theorem s_is_relation (h : H_is_relation T) (hk : 5 ≤ k) {z a : Nat} {R : List (List Nat)} (hz : 1 ≤ z ∧ z ≤ 4) (r : IsRel z a R) : callF T k 21 [nat z, eRel a R] s = .ok (.bl true) s := by
  obtain ⟨k, rfl, hj⟩ := lv hk
  rw [call_is_relation h.f]
  have hf := r.few hz.2
  have h1 : Sc_is_relation_1 (clOf T k) (nat z) (eRel a R) s = .ok (.lst (R.map fun _ => .bl true)) s := by
    simp only [Sc_is_relation_1, sub_rel1, sub_rel0, Rs.bind_ok, seq_tR, run_clOf]
    rw [map_ok (g := fun _ => .bl true) (by omega)]
    intro q hq
    have := s_is_row h.is_row (show 3 ≤ k by omega) (z := z) (a := a) (l := q) hz.1 (by have := (r.rows q hq).1; have := r.a4; omega) (s := s)
    rw [this]
    congr 2
    simpa using r.rows q hq
  have h2 : Sc_is_relation_2 (clOf T k) (eRel a R) s = .ok (.lst ((List.range' 1 (R.length - 1)).map fun _ => .bl true)) s := by
    simp only [Sc_is_relation_2, sub_rel1, Rs.bind_ok, len_tR, rng2_nat (show 1 ≤ 1000000000 by decide) (show R.length ≤ 1000000000 by omega)]
    rw [map_ok (g := fun _ => .bl true) (by rw [List.length_range']; omega)]
    intro i hi
    have hi := List.mem_range'_1.mp hi
    have hi1 : i - 1 < R.length := by omega
    have hi2 : i < R.length := by omega
    rw [bin_subN hi.1]
    simp only [Rs.bind_ok, sub_tR hi1, sub_tR hi2, cmp_lt_tN]
    congr 2
    simp only [List.getD_eq_getElem?_getD, List.getElem?_eq_getElem hi1, List.getElem?_eq_getElem hi2, Option.getD_some, decide_eq_true_eq]
    exact List.pairwise_iff_getElem.mp r.asc (i - 1) i hi1 hi2 (by omega)
  have h3 := s_is_in h.is_in (show 2 ≤ k by omega) a 1 4 (s := s)
  rw [decide_eq_true ⟨r.a1, r.a4⟩] at h3
  simp [S_is_relation, B_is_relation, h1, h2, h3]
theorem s_need_relation (h : H_need_relation T) (hk : 6 ≤ k) {z a : Nat} {R : List (List Nat)} (hz : 1 ≤ z ∧ z ≤ 4) (r : IsRel z a R) : callF T k 22 [nat z, eRel a R] s = .ok .non s := by
  obtain ⟨k, rfl, hj⟩ := lv hk
  rw [call_need_relation h.f]
  simp [S_need_relation, B_need_relation, s_is_relation h.is_relation hj hz r]
theorem s_image_of (h : H_image_of T) (hk : 3 ≤ k) {z n a : Nat} {tbl : List Nat} (o : IsOp z n tbl) {t : List (List Nat)} (ht : t.length = n) (hr : ∀ r ∈ t, r.length = a ∧ ∀ x ∈ r, x < z) (ha : a ≤ 1000) :
    callF T k 23 [nat z, eOp n tbl, tR t] s = .ok (tN (imgN z a tbl t)) s := by
  obtain ⟨k, rfl, hj⟩ := lv hk
  rw [call_image_of h.f]
  have n1 := o.n1
  have n8 := o.n8
  have h0 : t ≠ [] := by rintro rfl; simp at ht; omega
  have h1 : Sc_image_of_1 (clOf T k) (nat z) (eOp n tbl) (tR t) s = .ok (lN (imgN z a tbl t)) s := by
    simp only [Sc_image_of_1, zipS_rowsT h0 (show t.length ≤ 1000 by omega) (fun r hr' => (hr r hr').1), Rs.bind_ok, run_clOf]
    rw [map_ok (g := fun c => nat (valN z tbl c)) (by rw [colsN_len]; omega), lN, imgN, List.map_map]
    · rfl
    · intro c hc
      obtain ⟨i, hi, rfl⟩ := List.mem_map.mp hc
      have hi := List.mem_range.mp hi
      refine s_value_of h.value_of hj (seq_tN _ s) o (by simpa using ht) fun y hy => ?_
      obtain ⟨r, hr', rfl⟩ := List.mem_map.mp hy
      obtain ⟨q1, q2⟩ := hr r hr'
      rw [List.getD_eq_getElem?_getD, List.getElem?_eq_getElem (by omega)]
      exact q2 _ (List.getElem_mem _)
  simp [S_image_of, B_image_of, h1]
theorem s_tuples_of (h : H_tuples_of T) (hk : 1 ≤ k) {R : List (List Nat)} {n : Nat} {d : D} (hd : ∀ s, seqR d s = .ok (R.map tN) s) (hn : n ≤ 1000) (hR : ∀ i, i ≤ n → R.length ^ i ≤ 1000000) : callF T k 24 [d, nat n] s = .ok (lT (tuplesN R n)) s := by
  obtain ⟨k, rfl, hj⟩ := lv hk
  rw [call_tuples_of h.f]
  have h1 : loopR (L_tuples_of_1 (clOf T k) d) ((List.range n).map nat) (.lst [.tup []]) s = .ok (.nx (lT (tuplesN R n))) s := by
    have := loop_ok (s := s) (e := nat) (step := L_tuples_of_1 (clOf T k) d) (l := List.range n) (fun i => lT (tuplesN R i)) rfl fun i a hi => by
      have hin : i < n := by
        have := (List.getElem?_eq_some_iff.mp hi).1
        simpa using this
      have hf : ((tuplesN R i).flatMap fun t => R.map fun r => t ++ [r]).length ≤ 16777216 := by
        show (tuplesN R (i+1)).length ≤ _
        rw [tuplesN_len]
        exact Nat.le_trans (hR _ hin) (by decide)
      simp only [L_tuples_of_1, Sc_tuples_of_1, seq_lT, Rs.bind_ok]
      rw [fm_ok (g := fun t => R.map fun r => t ++ [r]) (e2 := tR) hf]
      · rfl
      · intro t ht
        have ht1 := (tuplesN_mem.mp ht).1
        rw [hd, Rs.bind_ok, mapL_ok (g := fun r => tR (t ++ [r])), List.map_map]
        · rfl
        · intro r _
          have := tupS_ok (l := t.map tN) (r := [tN r]) (by simp; omega) s
          simpa [tR] using this
    rwa [List.length_range] at this
  simp [S_tuples_of, B_tuples_of, rng1_nat (show n ≤ 1000000000 by omega), h1]
theorem s_first_broken (h : H_first_broken T) (hk : 4 ≤ k) {z n a : Nat} {tbl : List Nat} {R : List (List Nat)} (o : IsOp z n tbl) (r : IsRel z a R) (hR : ∀ i, i ≤ n → R.length ^ i ≤ 1000000) :
    callF T k 25 [nat z, eOp n tbl, eRel a R] s = .ok (fbD (fbN z n a tbl R)) s := by
  obtain ⟨k, rfl, hj⟩ := lv hk
  rw [call_first_broken h.f]
  have n1 := o.n1
  have n8 := o.n8
  have a4 := r.a4
  have hf := r.few o.z4
  have h1 : Sc_first_broken_1 (clOf T k) (eRel a R) s = .ok (dR R) s := by
    simp only [Sc_first_broken_1, sub_rel1, Rs.bind_ok, seq_tR]
    rw [dct_rows (by omega) fun q _ => rfl, fold_app R [] (by simpa using lt_nodup r.asc)]
    rfl
  have h2 := s_tuples_of h.tuples_of (show 1 ≤ k by omega) (d := tR R) (n := n) (fun s => seq_tR R s) (by omega) hR (s := s)
  have h3 := loop_find (s := s) (e := tR) (st := ()) (step := L_first_broken_1 (clOf T k) (nat z) (eOp n tbl) (dR R)) (fun t => !decide (imgN z a tbl t ∈ R)) tR (l := tuplesN R n) fun t ht => by
    obtain ⟨t1, t2⟩ := tuplesN_mem.mp ht
    have im := s_image_of h.image_of hj o t1 (fun q hq => r.rows q (t2 q hq)) (show a ≤ 1000 by omega) (s := s)
    simp only [L_first_broken_1, Rs.bind_ok, run_clOf, im, nin_dR, truR_bl]
    cases decide (imgN z a tbl t ∈ R) <;> rfl
  simp only [S_first_broken, B_first_broken, h1, Rs.bind_ok, sub_rel1, sub_op0, run_clOf, h2, seq_lT, h3]
  show retK _ = Rs.ok (fbD ((tuplesN R n).find? fun t => !decide (imgN z a tbl t ∈ R))) s
  cases (tuplesN R n).find? fun t => !decide (imgN z a tbl t ∈ R) <;> rfl
theorem s_need_pair (h : H_need_pair T) (hk : 7 ≤ k) {z n a : Nat} {tbl : List Nat} {R : List (List Nat)} (o : IsOp z n tbl) (r : IsRel z a R) : callF T k 26 [nat z, eOp n tbl, eRel a R] s = .ok .non s := by
  obtain ⟨k, rfl, hj⟩ := lv hk
  rw [call_need_pair h.f]
  simp [S_need_pair, B_need_pair, s_need_size h.need_size (show 3 ≤ k by omega) o.z1 o.z4, s_need_operation h.need_operation (show 5 ≤ k by omega) o, s_need_relation h.need_relation hj ⟨o.z1, o.z4⟩ r]
theorem s_keeps (h : H_keeps T) (hk : 8 ≤ k) {z n a : Nat} {tbl : List Nat} {R : List (List Nat)} (o : IsOp z n tbl) (r : IsRel z a R) (hR : ∀ i, i ≤ n → R.length ^ i ≤ 1000000) :
    callF T k 27 [nat z, eOp n tbl, eRel a R] s = .ok (.bl (fbN z n a tbl R).isNone) s := by
  obtain ⟨k, rfl, hj⟩ := lv hk
  rw [call_keeps h.f]
  simp [S_keeps, B_keeps, s_need_pair h.need_pair hj o r, s_first_broken h.first_broken (show 4 ≤ k by omega) o r hR]
theorem s_breaks (h : H_breaks T) (hk : 8 ≤ k) {z n a : Nat} {tbl : List Nat} {R : List (List Nat)} (o : IsOp z n tbl) (r : IsRel z a R) (hR : ∀ i, i ≤ n → R.length ^ i ≤ 1000000) :
    callF T k 28 [nat z, eOp n tbl, eRel a R] s = .ok (fbD (fbN z n a tbl R)) s := by
  obtain ⟨k, rfl, hj⟩ := lv hk
  rw [call_breaks h.f]
  simp [S_breaks, B_breaks, s_need_pair h.need_pair hj o r, s_first_broken h.first_broken (show 4 ≤ k by omega) o r hR]
/-! ### the laws' own -/
theorem s_law_pick (h : H_law_pick T) (hk : 2 ≤ k) {d : D} {xs : List D} (hd : d = .lst xs ∨ d = .tup xs) (h1 : 1 ≤ xs.length ∧ xs.length ≤ 1000000) (hs : Dr s) : ∃ x s', callF T k 29 [.ref 0, d] s = .ok x s' ∧ x ∈ xs ∧ Dr s' := by
  obtain ⟨k, rfl, hj⟩ := lv hk
  rw [call_law_pick h.f]
  obtain ⟨v, s', e, b, dr⟩ := s_taken h.law_taken hj (m := xs.length) h1 hs
  have hl : bfnR .len [d] s = .ok (nat xs.length) s := by rcases hd with rfl | rfl <;> simp
  have hx : xs[v]? = some xs[v] := List.getElem?_eq_getElem b
  have hsub : subR d (nat v) s' = .ok xs[v] s' := by
    rcases hd with rfl | rfl
    · exact sub_lst hx s'
    · exact sub_tup hx s'
  exact ⟨xs[v], s', by simp [S_law_pick, B_law_pick, hl, e, hsub], List.getElem_mem b, dr⟩
theorem s_law_tuples (h : H_law_tuples T) (hk : 1 ≤ k) {R : List (List Nat)} {n : Nat} {d : D} (hd : ∀ s, seqR d s = .ok (R.map tN) s) (hn : n ≤ 1000) (hR : ∀ i, i ≤ n → R.length ^ i ≤ 1000000) (hR1 : R.length ≤ 1000000) : callF T k 30 [d, nat n] s = .ok (lT (tuplesN R n)) s := by
  obtain ⟨k, rfl, hj⟩ := lv hk
  rw [call_law_tuples h.f]
  have h1 : loopR (L_law_tuples_1 (clOf T k) d) ((List.range n).map nat) (.lst [.tup []]) s = .ok (.nx (lT (tuplesN R n))) s := by
    have := loop_ok (s := s) (e := nat) (step := L_law_tuples_1 (clOf T k) d) (l := List.range n) (fun i => lT (tuplesN R i)) rfl fun i a hi => by
      have hin : i < n := by
        have := (List.getElem?_eq_some_iff.mp hi).1
        simpa using this
      have h2 := loop_ok (s := s) (e := tR) (step := L_law_tuples_2 (clOf T k) d) (l := tuplesN R i) (st := lT []) (fun j => lT (((tuplesN R i).take j).flatMap fun t => R.map fun r => t ++ [r])) (by simp) fun j t ht => by
        have ht1 := (tuplesN_mem.mp (List.mem_of_getElem? ht)).1
        have hc : Sc_law_tuples_1 (clOf T k) d (tR t) s = .ok (lT (R.map fun r => t ++ [r])) s := by
          simp only [Sc_law_tuples_1, hd, Rs.bind_ok]
          rw [map_ok (g := fun r => tR (t ++ [r])) (by omega), lT, List.map_map]
          · rfl
          · intro r _
            have := cat_tup (l := t.map tN) (r := [tN r]) (by simp; omega) s
            simp [tR, this]
        have hle : ((((tuplesN R i).take (j+1)).flatMap fun t => R.map fun r => t ++ [r])).length ≤ 16777216 := by
          rw [flatMap_len _ R.length _ (fun x _ => by simp), List.length_take, tuplesN_len]
          have a1 : min (j+1) (R.length^i) * R.length ≤ R.length ^ (i+1) := by rw [Nat.pow_succ]; exact Nat.mul_le_mul_right _ (Nat.min_le_right _ _)
          have a2 := hR (i+1) hin
          omega
        have e2 : (((tuplesN R i).take (j+1)).flatMap fun t => R.map fun r => t ++ [r]) = (((tuplesN R i).take j).flatMap fun t => R.map fun r => t ++ [r]) ++ R.map fun r => t ++ [r] := by
          rw [List.take_add_one, ht, List.flatMap_append]
          simp
        rw [e2] at hle ⊢
        have := cat_lst (l := (((tuplesN R i).take j).flatMap fun t => R.map fun r => t ++ [r]).map tR) (r := (R.map fun r => t ++ [r]).map tR) (by rw [List.length_map, List.length_map, ← List.length_append]; exact hle) s
        simp only [L_law_tuples_2, hc, Rs.bind_ok]
        simp only [lT] at this ⊢
        rw [this]
        simp
      rw [List.take_length] at h2
      have e0 : lT [] = .lst [] := rfl
      rw [e0] at h2
      simp only [L_law_tuples_1, Rs.bind_ok, lst0_ok, seq_lT, h2, o2K_nx]
      rfl
    rwa [List.length_range] at this
  simp [S_law_tuples, B_law_tuples, rng1_nat (show n ≤ 1000000000 by omega), h1]
theorem s_law_carried (h : H_law_carried T) (hk : 2 ≤ k) {z n a : Nat} {tbl : List Nat} (o : IsOp z n tbl) {t : List (List Nat)} (ht : t.length = n) (hr : ∀ r ∈ t, r.length = a ∧ ∀ x ∈ r, x < z) (ha : a ≤ 1000) :
    callF T k 31 [nat z, eOp n tbl, tR t] s = .ok (tN (imgN z a tbl t)) s := by
  obtain ⟨k, rfl, hj⟩ := lv hk
  rw [call_law_carried h.f]
  have n1 := o.n1
  have n8 := o.n8
  have h0 : 0 < t.length := by omega
  have h00 : (t.getD 0 []).length = a := by
    rw [List.getD_eq_getElem?_getD, List.getElem?_eq_getElem h0]
    exact (hr _ (List.getElem_mem _)).1
  have h1 : Sc_law_carried_2 (clOf T k) (nat z) (eOp n tbl) (tR t) s = .ok (lN (imgN z a tbl t)) s := by
    simp only [Sc_law_carried_2, sub_tR h0, Rs.bind_ok, len_tN, h00, rng1_nat (show a ≤ 1000000000 by omega)]
    rw [map_ok (g := fun i => nat (valN z tbl (t.map fun r => r.getD i 0))) (by rw [List.length_range]; omega), lN, imgN, colsN, List.map_map, List.map_map]
    · rfl
    · intro i hi
      have hi := List.mem_range.mp hi
      have hc : Sc_law_carried_1 (clOf T k) (tR t) (nat i) s = .ok (lN (t.map fun r => r.getD i 0)) s := by
        simp only [Sc_law_carried_1, seq_tR, Rs.bind_ok]
        rw [map_ok (g := fun r => nat (r.getD i 0)) (by omega), lN, List.map_map]
        · rfl
        · intro r hr'
          exact sub_tN (by rw [(hr r hr').1]; exact hi) s
      simp only [hc, Rs.bind_ok, run_clOf]
      refine s_law_value h.law_value hj (l := t.map fun r => r.getD i 0) (d := lN (t.map fun r => r.getD i 0)) (s := s) rfl o (by simpa using ht) fun y hy => ?_
      obtain ⟨r, hr', rfl⟩ := List.mem_map.mp hy
      obtain ⟨q1, q2⟩ := hr r hr'
      rw [List.getD_eq_getElem?_getD, List.getElem?_eq_getElem (by omega)]
      exact q2 _ (List.getElem_mem _)
  simp [S_law_carried, B_law_carried, h1]
theorem s_law_breaks (h : H_law_breaks T) (hk : 3 ≤ k) {z n a : Nat} {tbl : List Nat} {R : List (List Nat)} (o : IsOp z n tbl) (r : IsRel z a R) (hR : ∀ i, i ≤ n → R.length ^ i ≤ 1000000) :
    callF T k 32 [nat z, eOp n tbl, eRel a R] s = .ok (fbD (fbN z n a tbl R)) s := by
  obtain ⟨k, rfl, hj⟩ := lv hk
  rw [call_law_breaks h.f]
  have n1 := o.n1
  have n8 := o.n8
  have a4 := r.a4
  have hf := r.few o.z4
  obtain ⟨h1, _⟩ := loop_fold (s := s) (e := tN) (E := dR) (g := addN) (step := L_law_breaks_1 (clOf T k) (nat z) (eOp n tbl) (eRel a R)) (fun K => K.Nodup ∧ ∀ q ∈ K, q ∈ R) (l := R) (t := []) ⟨by simp, by simp⟩ fun q hq K hK => ⟨by
    have hl : K.length ≤ R.length := hK.1.length_le_of_subset hK.2
    simp only [L_law_breaks_1, Rs.bind_ok, put_dR (show K.length + 1 ≤ 16777216 by omega), optK_some], addN_nodup hK.1 q, fun p hp => (addN_mem.mp hp).elim (hK.2 p) fun e => e ▸ hq⟩
  rw [fold_app R [] (by simpa using lt_nodup r.asc), List.nil_append] at h1
  have h2 := s_law_tuples h.law_tuples (show 1 ≤ k by omega) (d := lR R) (n := n) (fun s => seq_lR R s) (by omega) hR (by omega) (s := s)
  have h3 := loop_find (s := s) (e := tR) (st := ()) (step := L_law_breaks_2 (clOf T k) (nat z) (eOp n tbl) (dR R)) (fun t => !decide (imgN z a tbl t ∈ R)) tR (l := tuplesN R n) fun t ht => by
    obtain ⟨t1, t2⟩ := tuplesN_mem.mp ht
    have im := s_law_carried h.law_carried hj o t1 (fun q hq => r.rows q (t2 q hq)) (show a ≤ 1000 by omega) (s := s)
    simp only [L_law_breaks_2, Rs.bind_ok, run_clOf, im, nin_dR, truR_bl]
    cases decide (imgN z a tbl t ∈ R) <;> rfl
  have e0 : D.dct true [] [] = dR [] := rfl
  simp only [S_law_breaks, B_law_breaks, e0, h1, Rs.bind_ok, sub_rel1, sub_op0, run_clOf, seq_tR, o2K_nx, list_tR, h2, seq_lT, h3]
  show retK _ = Rs.ok (fbD ((tuplesN R n).find? fun t => !decide (imgN z a tbl t ∈ R))) s
  cases (tuplesN R n).find? fun t => !decide (imgN z a tbl t ∈ R) <;> rfl
end
end Mi
namespace Mi
open PySem PySem.Spec
def bl_law_closed_1 : CSs :=
  (.cons (.seti 6 (.var 4) (.cbl true))
    .nil)
def bl_law_closed_2 : CSs :=
  (.cons (.asg (.nm 10) (.call 31 (.cons (.var 0) (.cons (.var 1) (.cons (.var 9) .nil)))))
    (.cons (.ite (.and (.cons (.val (.cmp .NotIn (.var 10) (.var 6))) (.cons (.val (.cmp .NotIn (.var 10) (.var 8))) .nil)))
    (.cons (.app 8 (.var 10))
    .nil)
    .nil)
    .nil))
def bl_law_closed_3 : CSs :=
  (.cons (.seti 6 (.var 4) (.cbl true))
    .nil)
def bl_law_closed_4 : CSs :=
  (.cons (.ite (.val (.cmp .Eq (.var 7) (.lst .nil)))
    (.cons .brk
    .nil)
    .nil)
    (.cons (.asgO 8 (.lst .nil))
    (.cons (.forr (.nm 9) (.seq (.call 30 (.cons (.bfn .sorted (.cons (.var 6) .nil)) (.cons (.sub (.var 1) (.cint 0)) .nil)))) bl_law_closed_2)
    (.cons (.forr (.nm 4) (.seq (.var 8)) bl_law_closed_3)
    (.cons (.ite (.val (.cmp .Gt (.bfn .len (.cons (.var 6) .nil)) (.cint 8)))
    (.cons (.ret .cnon)
    .nil)
    .nil)
    (.frz 8 (.cons (.asg (.nm 7) (.var 8))
    .nil)))))))
def b_law_closed : CSs :=
  (.cons (.par true 6 false 7 (.dict0 true) (.bfn .list (.cons (.var 3) .nil)))
    (.cons (.forr (.nm 4) (.seq (.var 3)) bl_law_closed_1)
    (.cons (.forr (.nm 5) (.range1 (.cint 10)) bl_law_closed_4)
    (.cons (.ret (.tup (.cons (.var 2) (.cons (.bfn .tuple (.cons (.bfn .sorted (.cons (.var 6) .nil)) .nil)) .nil))))
    .nil))))
def F_law_closed : Fn := ⟨4, 11, false, b_law_closed⟩
def L_law_closed_1 (C : Cl) (size0 : D) (operation1 : D) (arity2 : D) (fresh7 : D) (x : D) (st : D) (s : Sto) : Rs (O3 (D)) := ((Rs.ok (D.bl true) s).bind fun d_7 s_10 => ((Rs.ok x s_10).bind fun k_8 s_11 => optK (putD st k_8 d_7) fun known_9 => (Rs.ok (O3.nx known_9) s_11)))
theorem sim_L_law_closed_1 (C : Cl) (size0 : D) (operation1 : D) (arity2 : D) (rows_here3 : D) (fresh7 : D) (j4 : Option (Bool × D)) (x : D) (st : D) (s : Sto) : Sim false (fun (q_6st : D) (q_6e : MEnv) => ∃ (q_6j4 : Option (Bool × D)), q_6e = [some (false, size0), some (false, operation1), some (false, arity2), some (false, rows_here3), q_6j4, none, some (true, q_6st), some (false, fresh7), none, none, none]) (bindK (bindT (.nm 4) x [some (false, size0), some (false, operation1), some (false, arity2), some (false, rows_here3), j4, none, some (true, st), some (false, fresh7), none, none, none]) fun e1 => evSs C bl_law_closed_1 e1 s) (L_law_closed_1 C size0 operation1 arity2 fresh7 x st s) := (show Sim _ _ (evSs C _ [some (false, size0), some (false, operation1), some (false, arity2), some (false, rows_here3), some (false, x), none, some (true, st), some (false, fresh7), none, none, none] s) _ from (sim_seti rfl (fun s_10 => rfl) rfl rfl rfl fun known_9 s_11 => (show Sim _ _ (evSs C _ [some (false, size0), some (false, operation1), some (false, arity2), some (false, rows_here3), some (false, x), none, some (true, known_9), some (false, fresh7), none, none, none] s_11) _ from (sim_nil ⟨_, rfl⟩))))
def L_law_closed_3 (C : Cl) (size0 : D) (operation1 : D) (arity2 : D) (known6 : D) (x : D) (st : D) (s : Sto) : Rs (O3 (D)) := (((Rs.ok [size0, operation1, x] s).bind (C.run 31)).bind fun made_31 s_32 => ((((cmpR .NotIn made_31 known6 s_32).bind fun x_35 s_36 => (truR x_35 s_36)).bind fun b_33 s_34 => if b_33 then (((cmpR .NotIn made_31 st s_34).bind fun x_39 s_40 => (truR x_39 s_40)).bind fun b_37 s_38 => if b_37 then (Rs.ok true s_38) else Rs.ok false s_38) else Rs.ok false s_34).bind fun b_54 s_49 => if b_54 then ((Rs.ok made_31 s_49).bind fun d_51 s_53 => optK (appD st d_51) fun later_52 => (Rs.ok (O3.nx later_52) s_53)) else (Rs.ok (O3.nx st) s_49)))
theorem sim_L_law_closed_3 (C : Cl) (size0 : D) (operation1 : D) (arity2 : D) (rows_here3 : D) (j4 : Option (Bool × D)) (turn5 : D) (known6 : D) (fresh7 : D) (j9 : Option (Bool × D)) (j10 : Option (Bool × D)) (x : D) (st : D) (s : Sto) : Sim false (fun (q_30st : D) (q_30e : MEnv) => ∃ (q_30j9 : Option (Bool × D)) (q_30j10 : Option (Bool × D)), q_30e = [some (false, size0), some (false, operation1), some (false, arity2), some (false, rows_here3), j4, some (false, turn5), some (true, known6), some (false, fresh7), some (true, q_30st), q_30j9, q_30j10]) (bindK (bindT (.nm 9) x [some (false, size0), some (false, operation1), some (false, arity2), some (false, rows_here3), j4, some (false, turn5), some (true, known6), some (false, fresh7), some (true, st), j9, j10]) fun e1 => evSs C bl_law_closed_2 e1 s) (L_law_closed_3 C size0 operation1 arity2 known6 x st s) := (show Sim _ _ (evSs C _ [some (false, size0), some (false, operation1), some (false, arity2), some (false, rows_here3), j4, some (false, turn5), some (true, known6), some (false, fresh7), some (true, st), some (false, x), j10] s) _ from (sim_asg rfl rfl (show 10 < 11 from by decide) fun made_31 s_32 => (show Sim _ _ (evSs C _ [some (false, size0), some (false, operation1), some (false, arity2), some (false, rows_here3), j4, some (false, turn5), some (true, known6), some (false, fresh7), some (true, st), some (false, x), some (false, made_31)] s_32) _ from (sim_ite rfl (fun s_49 => (show Sim _ _ (evSs C _ [some (false, size0), some (false, operation1), some (false, arity2), some (false, rows_here3), j4, some (false, turn5), some (true, known6), some (false, fresh7), some (true, st), some (false, x), some (false, made_31)] s_49) _ from (sim_app rfl rfl rfl fun later_52 s_53 => (show Sim _ _ (evSs C _ [some (false, size0), some (false, operation1), some (false, arity2), some (false, rows_here3), j4, some (false, turn5), some (true, known6), some (false, fresh7), some (true, later_52), some (false, x), some (false, made_31)] s_53) _ from (sim_nil ⟨_, _, rfl⟩))))) (fun s_49 => (show Sim _ _ (evSs C _ [some (false, size0), some (false, operation1), some (false, arity2), some (false, rows_here3), j4, some (false, turn5), some (true, known6), some (false, fresh7), some (true, st), some (false, x), some (false, made_31)] s_49) _ from (sim_nil ⟨_, _, rfl⟩)))))))
def L_law_closed_4 (C : Cl) (size0 : D) (operation1 : D) (arity2 : D) (later8 : D) (x : D) (st : D) (s : Sto) : Rs (O3 (D)) := ((Rs.ok (D.bl true) s).bind fun d_61 s_64 => ((Rs.ok x s_64).bind fun k_62 s_65 => optK (putD st k_62 d_61) fun known_63 => (Rs.ok (O3.nx known_63) s_65)))
theorem sim_L_law_closed_4 (C : Cl) (size0 : D) (operation1 : D) (arity2 : D) (rows_here3 : D) (turn5 : D) (fresh7 : D) (later8 : D) (j9 : Option (Bool × D)) (j10 : Option (Bool × D)) (j4 : Option (Bool × D)) (x : D) (st : D) (s : Sto) : Sim false (fun (q_60st : D) (q_60e : MEnv) => ∃ (q_60j4 : Option (Bool × D)), q_60e = [some (false, size0), some (false, operation1), some (false, arity2), some (false, rows_here3), q_60j4, some (false, turn5), some (true, q_60st), some (false, fresh7), some (false, later8), j9, j10]) (bindK (bindT (.nm 4) x [some (false, size0), some (false, operation1), some (false, arity2), some (false, rows_here3), j4, some (false, turn5), some (true, st), some (false, fresh7), some (false, later8), j9, j10]) fun e1 => evSs C bl_law_closed_3 e1 s) (L_law_closed_4 C size0 operation1 arity2 later8 x st s) := (show Sim _ _ (evSs C _ [some (false, size0), some (false, operation1), some (false, arity2), some (false, rows_here3), some (false, x), some (false, turn5), some (true, st), some (false, fresh7), some (false, later8), j9, j10] s) _ from (sim_seti rfl (fun s_64 => rfl) rfl rfl rfl fun known_63 s_65 => (show Sim _ _ (evSs C _ [some (false, size0), some (false, operation1), some (false, arity2), some (false, rows_here3), some (false, x), some (false, turn5), some (true, known_63), some (false, fresh7), some (false, later8), j9, j10] s_65) _ from (sim_nil ⟨_, rfl⟩))))
def L_law_closed_2 (C : Cl) (size0 : D) (operation1 : D) (arity2 : D) (x : D) (st : D × D) (s : Sto) : Rs (O3 (D × D)) := (((((Rs.ok [] s).bind lstR).bind fun x_19 s_20 => (cmpR .Eq st.2 x_19 s_20)).bind fun x_17 s_18 => (truR x_17 s_18)).bind fun b_113 s_25 => if b_113 then (Rs.ok (O3.bk (st.1, st.2)) s_25) else (((Rs.ok [] s_25).bind lstR).bind fun later_27 s_28 => ((((((Rs.ok [st.1] s_28).bind (bfnR .sorted)).bind fun x_97 s_98 => (((subR operation1 (nat 0) s_98).bind fun x_99 s_100 => Rs.ok [x_99] s_100).bind fun xs_101 s_102 => Rs.ok (x_97 :: xs_101) s_102)).bind (C.run 30)).bind fun x_95 s_96 => (seqR x_95 s_96)).bind fun xs_111 s_112 => o2K (loopR (L_law_closed_3 C size0 operation1 arity2 st.1) xs_111 later_27 s_112) fun st_55 s_56 => ((seqR st_55 s_56).bind fun xs_88 s_89 => o2K (loopR (L_law_closed_4 C size0 operation1 arity2 st_55) xs_88 st.1 s_89) fun st_66 s_67 => (((((Rs.ok [st_66] s_67).bind (bfnR .len)).bind fun x_71 s_72 => (cmpR .Gt x_71 (nat 8) s_72)).bind fun x_69 s_70 => (truR x_69 s_70)).bind fun b_83 s_77 => if b_83 then ((Rs.ok D.non s_77).bind fun d_79 s_80 => Rs.ok (O3.rt d_79) s_80) else ((Rs.ok st_55 s_77).bind fun fresh_81 s_82 => (Rs.ok (O3.nx (st_66, fresh_81)) s_82)))))))
theorem sim_L_law_closed_2 (C : Cl) (size0 : D) (operation1 : D) (arity2 : D) (rows_here3 : D) (j4 : Option (Bool × D)) (j5 : Option (Bool × D)) (j8 : Option (Bool × D)) (j9 : Option (Bool × D)) (j10 : Option (Bool × D)) (x : D) (st : D × D) (s : Sto) : Sim false (fun (q_16st : D × D) (q_16e : MEnv) => ∃ (q_16j4 : Option (Bool × D)) (q_16j5 : Option (Bool × D)) (q_16j8 : Option (Bool × D)) (q_16j9 : Option (Bool × D)) (q_16j10 : Option (Bool × D)), q_16e = [some (false, size0), some (false, operation1), some (false, arity2), some (false, rows_here3), q_16j4, q_16j5, some (true, q_16st.1), some (false, q_16st.2), q_16j8, q_16j9, q_16j10]) (bindK (bindT (.nm 5) x [some (false, size0), some (false, operation1), some (false, arity2), some (false, rows_here3), j4, j5, some (true, st.1), some (false, st.2), j8, j9, j10]) fun e1 => evSs C bl_law_closed_4 e1 s) (L_law_closed_2 C size0 operation1 arity2 x st s) := (show Sim _ _ (evSs C _ [some (false, size0), some (false, operation1), some (false, arity2), some (false, rows_here3), j4, some (false, x), some (true, st.1), some (false, st.2), j8, j9, j10] s) _ from (sim_ite rfl (fun s_25 => (show Sim _ _ (evSs C _ [some (false, size0), some (false, operation1), some (false, arity2), some (false, rows_here3), j4, some (false, x), some (true, st.1), some (false, st.2), j8, j9, j10] s_25) _ from (sim_brk ⟨_, _, _, _, _, rfl⟩))) (fun s_25 => (show Sim _ _ (evSs C _ [some (false, size0), some (false, operation1), some (false, arity2), some (false, rows_here3), j4, some (false, x), some (true, st.1), some (false, st.2), j8, j9, j10] s_25) _ from (sim_asgO rfl rfl (show 8 < 11 from by decide) fun later_27 s_28 => (show Sim _ _ (evSs C _ [some (false, size0), some (false, operation1), some (false, arity2), some (false, rows_here3), j4, some (false, x), some (true, st.1), some (false, st.2), some (true, later_27), j9, j10] s_28) _ from (sim_for (fun (q_29st : D) (q_29e : MEnv) => ∃ (q_29j9 : Option (Bool × D)) (q_29j10 : Option (Bool × D)), q_29e = [some (false, size0), some (false, operation1), some (false, arity2), some (false, rows_here3), j4, some (false, x), some (true, st.1), some (false, st.2), some (true, q_29st), q_29j9, q_29j10]) rfl ⟨_, _, rfl⟩ (by rintro x_92 st_90 _ s_91 ⟨j_93, j_94, rfl⟩; exact sim_L_law_closed_3 C size0 operation1 arity2 rows_here3 j4 x st.1 st.2 j_93 j_94 x_92 st_90 s_91) (by rintro st_55 _ s_56 ⟨j_57, j_58, rfl⟩; exact (show Sim _ _ (evSs C _ [some (false, size0), some (false, operation1), some (false, arity2), some (false, rows_here3), j4, some (false, x), some (true, st.1), some (false, st.2), some (true, st_55), j_57, j_58] s_56) _ from (sim_for (fun (q_59st : D) (q_59e : MEnv) => ∃ (q_59j4 : Option (Bool × D)), q_59e = [some (false, size0), some (false, operation1), some (false, arity2), some (false, rows_here3), q_59j4, some (false, x), some (true, q_59st), some (false, st.2), some (false, st_55), j_57, j_58]) rfl ⟨_, rfl⟩ (by rintro x_86 st_84 _ s_85 ⟨j_87, rfl⟩; exact sim_L_law_closed_4 C size0 operation1 arity2 rows_here3 x st.2 st_55 j_57 j_58 j_87 x_86 st_84 s_85) (by rintro st_66 _ s_67 ⟨j_68, rfl⟩; exact (show Sim _ _ (evSs C _ [some (false, size0), some (false, operation1), some (false, arity2), some (false, rows_here3), j_68, some (false, x), some (true, st_66), some (false, st.2), some (false, st_55), j_57, j_58] s_67) _ from (sim_ite rfl (fun s_77 => (show Sim _ _ (evSs C _ [some (false, size0), some (false, operation1), some (false, arity2), some (false, rows_here3), j_68, some (false, x), some (true, st_66), some (false, st.2), some (false, st_55), j_57, j_58] s_77) _ from (sim_ret rfl rfl (fun z => nomatch z)))) (fun s_77 => (show Sim _ _ (evSs C _ [some (false, size0), some (false, operation1), some (false, arity2), some (false, rows_here3), j_68, some (false, x), some (true, st_66), some (false, st.2), some (false, st_55), j_57, j_58] s_77) _ from (sim_frz (show Sim _ _ (evSs C _ [some (false, size0), some (false, operation1), some (false, arity2), some (false, rows_here3), j_68, some (false, x), some (true, st_66), some (false, st.2), some (false, st_55), j_57, j_58] s_77) _ from (sim_asg rfl rfl (show 7 < 11 from by decide) fun fresh_81 s_82 => (show Sim _ _ (evSs C _ [some (false, size0), some (false, operation1), some (false, arity2), some (false, rows_here3), j_68, some (false, x), some (true, st_66), some (false, fresh_81), some (false, st_55), j_57, j_58] s_82) _ from (sim_nil ⟨_, _, _, _, _, rfl⟩))))))))))))))))))))
def B_law_closed (C : Cl) (size0 operation1 arity2 rows_here3 : D) (s : Sto) : Rs (O3 Unit) := ((Rs.ok (D.dct true [] []) s).bind fun known_1 s_3 => (((Rs.ok [rows_here3] s_3).bind (bfnR .list)).bind fun fresh_2 s_4 => ((seqR rows_here3 s_4).bind fun xs_149 s_150 => o2K (loopR (L_law_closed_1 C size0 operation1 arity2 fresh_2) xs_149 known_1 s_150) fun st_12 s_13 => ((rng1R (nat 10) s_13).bind fun xs_143 s_144 => o2K (loopR (L_law_closed_2 C size0 operation1 arity2) xs_143 (st_12, fresh_2) s_144) fun st_114 s_115 => ((((((((Rs.ok [st_114.1] s_115).bind (bfnR .sorted)).bind fun x_125 s_126 => Rs.ok [x_125] s_126).bind (bfnR .tuple)).bind fun x_123 s_124 => Rs.ok [x_123] s_124).bind fun xs_127 s_128 => Rs.ok (arity2 :: xs_127) s_128).bind tupR).bind fun d_121 s_122 => Rs.ok (O3.rt d_121) s_122)))))
def S_law_closed (C : Cl) (size0 operation1 arity2 rows_here3 : D) (s : Sto) : Rs D := retK (B_law_closed C size0 operation1 arity2 rows_here3 s)
theorem sim_law_closed (C : Cl) (size0 operation1 arity2 rows_here3 : D) (s : Sto) : Sim false (fun _ _ => True) (evSs C b_law_closed [some (false, size0), some (false, operation1), some (false, arity2), some (false, rows_here3), none, none, none, none, none, none, none] s) (B_law_closed C size0 operation1 arity2 rows_here3 s) := (sim_par rfl (fun s_3 => rfl) rfl fun known_1 fresh_2 s_4 => (show Sim _ _ (evSs C _ [some (false, size0), some (false, operation1), some (false, arity2), some (false, rows_here3), none, none, some (true, known_1), some (false, fresh_2), none, none, none] s_4) _ from (sim_for (fun (q_5st : D) (q_5e : MEnv) => ∃ (q_5j4 : Option (Bool × D)), q_5e = [some (false, size0), some (false, operation1), some (false, arity2), some (false, rows_here3), q_5j4, none, some (true, q_5st), some (false, fresh_2), none, none, none]) rfl ⟨_, rfl⟩ (by rintro x_147 st_145 _ s_146 ⟨j_148, rfl⟩; exact sim_L_law_closed_1 C size0 operation1 arity2 rows_here3 fresh_2 j_148 x_147 st_145 s_146) (by rintro st_12 _ s_13 ⟨j_14, rfl⟩; exact (show Sim _ _ (evSs C _ [some (false, size0), some (false, operation1), some (false, arity2), some (false, rows_here3), j_14, none, some (true, st_12), some (false, fresh_2), none, none, none] s_13) _ from (sim_for (fun (q_15st : D × D) (q_15e : MEnv) => ∃ (q_15j4 : Option (Bool × D)) (q_15j5 : Option (Bool × D)) (q_15j8 : Option (Bool × D)) (q_15j9 : Option (Bool × D)) (q_15j10 : Option (Bool × D)), q_15e = [some (false, size0), some (false, operation1), some (false, arity2), some (false, rows_here3), q_15j4, q_15j5, some (true, q_15st.1), some (false, q_15st.2), q_15j8, q_15j9, q_15j10]) rfl ⟨_, _, _, _, _, rfl⟩ (by rintro x_137 st_135 _ s_136 ⟨j_138, j_139, j_140, j_141, j_142, rfl⟩; exact sim_L_law_closed_2 C size0 operation1 arity2 rows_here3 j_138 j_139 j_140 j_141 j_142 x_137 st_135 s_136) (by rintro st_114 _ s_115 ⟨j_116, j_117, j_118, j_119, j_120, rfl⟩; exact (show Sim _ _ (evSs C _ [some (false, size0), some (false, operation1), some (false, arity2), some (false, rows_here3), j_116, j_117, some (true, st_114.1), some (false, st_114.2), j_118, j_119, j_120] s_115) _ from (sim_ret rfl rfl (fun z => nomatch z))))))))))
theorem call_law_closed {T : Tab} (h : T 33 = some F_law_closed) (k : Nat) (size0 operation1 arity2 rows_here3 : D) (s : Sto) : callF T (k + 1) 33 [size0, operation1, arity2, rows_here3] s = S_law_closed (clOf T k) size0 operation1 arity2 rows_here3 s := call_sim h rfl (sim_law_closed (clOf T k) size0 operation1 arity2 rows_here3 s)
structure H_law_closed (T : Tab) : Prop where
  f : T 33 = some F_law_closed
  law_tuples : H_law_tuples T
  law_carried : H_law_carried T
end Mi
namespace Mi
open PySem PySem.Spec
def c_law_named_1 : CE :=
  (.comp (.nm 3) (.seq (.call 17 (.cons (.var 0) (.cons (.cint 2) .nil)))) .nil (.bfn .min (.cons (.var 3) .nil)) [3])
def c_law_named_2 : CE :=
  (.comp (.nm 3) (.seq (.call 17 (.cons (.var 0) (.cons (.cint 2) .nil)))) .nil (.bfn .max (.cons (.var 3) .nil)) [3])
def c_law_named_3 : CE :=
  (.comp (.nm 3) (.seq (.var 2)) .nil (.sub (.bfn .sorted (.cons (.var 3) .nil)) (.cint 1)) [3])
def c_law_named_4 : CE :=
  (.comp (.nm 3) (.seq (.var 2)) .nil (.bin .Mod (.bfn .int (.cons (.bin .Add (.bin .Sub (.sub (.var 3) (.cint 0)) (.sub (.var 3) (.cint 1))) (.sub (.var 3) (.cint 2))) .nil)) (.var 0)) [3])
def c_law_named_5 : CE :=
  (.comp (.nm 3) (.seq (.var 2)) .nil (.ife (.val (.cmp .Eq (.sub (.var 3) (.cint 1)) (.sub (.var 3) (.cint 2)))) (.sub (.var 3) (.cint 1)) (.sub (.var 3) (.cint 0))) [3])
def b_law_named : CSs :=
  (.cons (.asgO 1 (.lst (.cons (.tup (.cons (.cint 2) (.cons (.bfn .tuple (.cons c_law_named_1 .nil)) .nil))) .nil)))
    (.cons (.app 1 (.tup (.cons (.cint 2) (.cons (.bfn .tuple (.cons c_law_named_2 .nil)) .nil))))
    (.cons (.asg (.nm 2) (.call 17 (.cons (.var 0) (.cons (.cint 3) .nil))))
    (.cons (.app 1 (.tup (.cons (.cint 3) (.cons (.bfn .tuple (.cons c_law_named_3 .nil)) .nil))))
    (.cons (.app 1 (.tup (.cons (.cint 3) (.cons (.bfn .tuple (.cons c_law_named_4 .nil)) .nil))))
    (.cons (.app 1 (.tup (.cons (.cint 1) (.cons (.bin .Mult (.tup (.cons (.cint 0) .nil)) (.var 0)) .nil))))
    (.cons (.ret (.bin .Add (.var 1) (.lst (.cons (.tup (.cons (.cint 3) (.cons (.bfn .tuple (.cons c_law_named_5 .nil)) .nil))) .nil))))
    .nil)))))))
def F_law_named : Fn := ⟨1, 4, false, b_law_named⟩
def Sc_law_named_1 (C : Cl) (size0 : D) (s : Sto) : Rs D := ((((Rs.ok [size0, (nat 2)] s).bind (C.run 17)).bind fun x_1 s_2 => (seqR x_1 s_2)).bind (mapR fun x s => ((Rs.ok [x] s).bind (bfnR .min))))
theorem e_c_law_named_1 (C : Cl) (size0 : D) (s : Sto) : evE C c_law_named_1 [some (false, size0), none, none, none] s = Sc_law_named_1 C size0 s := comp_sh rfl fun x s => rfl
def Sc_law_named_2 (C : Cl) (size0 : D) (s : Sto) : Rs D := ((((Rs.ok [size0, (nat 2)] s).bind (C.run 17)).bind fun x_1 s_2 => (seqR x_1 s_2)).bind (mapR fun x s => ((Rs.ok [x] s).bind (bfnR .max))))
theorem e_c_law_named_2 (C : Cl) (size0 : D) (found1 : D) (s : Sto) : evE C c_law_named_2 [some (false, size0), some (true, found1), none, none] s = Sc_law_named_2 C size0 s := comp_sh rfl fun x s => rfl
def Sc_law_named_3 (C : Cl) (three2 : D) (s : Sto) : Rs D := ((seqR three2 s).bind (mapR fun x s => (((Rs.ok [x] s).bind (bfnR .sorted)).bind fun x_1 s_2 => (subR x_1 (nat 1) s_2))))
theorem e_c_law_named_3 (C : Cl) (size0 : D) (found1 : D) (three2 : D) (s : Sto) : evE C c_law_named_3 [some (false, size0), some (true, found1), some (false, three2), none] s = Sc_law_named_3 C three2 s := comp_sh rfl fun x s => rfl
def Sc_law_named_4 (C : Cl) (size0 : D) (three2 : D) (s : Sto) : Rs D := ((seqR three2 s).bind (mapR fun x s => ((((((subR x (nat 0) s).bind fun x_7 s_8 => ((subR x (nat 1) s_8).bind fun x_9 s_10 => (binR .Sub x_7 x_9 s_10))).bind fun x_5 s_6 => ((subR x (nat 2) s_6).bind fun x_11 s_12 => (binR .Add x_5 x_11 s_12))).bind fun x_3 s_4 => Rs.ok [x_3] s_4).bind (bfnR .int)).bind fun x_1 s_2 => (binR .Mod x_1 size0 s_2))))
theorem e_c_law_named_4 (C : Cl) (size0 : D) (found1 : D) (three2 : D) (s : Sto) : evE C c_law_named_4 [some (false, size0), some (true, found1), some (false, three2), none] s = Sc_law_named_4 C size0 three2 s := comp_sh rfl fun x s => rfl
def Sc_law_named_5 (C : Cl) (three2 : D) (s : Sto) : Rs D := ((seqR three2 s).bind (mapR fun x s => ((((subR x (nat 1) s).bind fun x_5 s_6 => ((subR x (nat 2) s_6).bind fun x_7 s_8 => (cmpR .Eq x_5 x_7 s_8))).bind fun x_3 s_4 => (truR x_3 s_4)).bind fun b_1 s_2 => if b_1 then (subR x (nat 1) s_2) else (subR x (nat 0) s_2))))
theorem e_c_law_named_5 (C : Cl) (size0 : D) (found1 : D) (three2 : D) (s : Sto) : evE C c_law_named_5 [some (false, size0), some (true, found1), some (false, three2), none] s = Sc_law_named_5 C three2 s := comp_sh rfl fun x s => rfl
def B_law_named (C : Cl) (size0 : D) (s : Sto) : Rs (O3 Unit) := (((((((((Sc_law_named_1 C size0 s).bind fun x_7 s_8 => Rs.ok [x_7] s_8).bind (bfnR .tuple)).bind fun x_5 s_6 => Rs.ok [x_5] s_6).bind fun xs_9 s_10 => Rs.ok ((nat 2) :: xs_9) s_10).bind tupR).bind fun x_3 s_4 => Rs.ok [x_3] s_4).bind lstR).bind fun found_1 s_2 => (((((((Sc_law_named_2 C size0 s_2).bind fun x_24 s_25 => Rs.ok [x_24] s_25).bind (bfnR .tuple)).bind fun x_22 s_23 => Rs.ok [x_22] s_23).bind fun xs_26 s_27 => Rs.ok ((nat 2) :: xs_26) s_27).bind tupR).bind fun d_19 s_21 => optK (appD found_1 d_19) fun found_20 => (((Rs.ok [size0, (nat 3)] s_21).bind (C.run 17)).bind fun three_34 s_35 => (((((((Sc_law_named_3 C three_34 s_35).bind fun x_41 s_42 => Rs.ok [x_41] s_42).bind (bfnR .tuple)).bind fun x_39 s_40 => Rs.ok [x_39] s_40).bind fun xs_43 s_44 => Rs.ok ((nat 3) :: xs_43) s_44).bind tupR).bind fun d_36 s_38 => optK (appD found_20 d_36) fun found_37 => (((((((Sc_law_named_4 C size0 three_34 s_38).bind fun x_56 s_57 => Rs.ok [x_56] s_57).bind (bfnR .tuple)).bind fun x_54 s_55 => Rs.ok [x_54] s_55).bind fun xs_58 s_59 => Rs.ok ((nat 3) :: xs_58) s_59).bind tupR).bind fun d_51 s_53 => optK (appD found_37 d_51) fun found_52 => (((((((Rs.ok [(nat 0)] s_53).bind tupR).bind fun x_71 s_72 => (binR .Mult x_71 size0 s_72)).bind fun x_69 s_70 => Rs.ok [x_69] s_70).bind fun xs_73 s_74 => Rs.ok ((nat 1) :: xs_73) s_74).bind tupR).bind fun d_66 s_68 => optK (appD found_52 d_66) fun found_67 => ((((((((((Sc_law_named_5 C three_34 s_68).bind fun x_89 s_90 => Rs.ok [x_89] s_90).bind (bfnR .tuple)).bind fun x_87 s_88 => Rs.ok [x_87] s_88).bind fun xs_91 s_92 => Rs.ok ((nat 3) :: xs_91) s_92).bind tupR).bind fun x_85 s_86 => Rs.ok [x_85] s_86).bind lstR).bind fun x_83 s_84 => (binR .Add found_67 x_83 s_84)).bind fun d_81 s_82 => Rs.ok (O3.rt d_81) s_82)))))))
def S_law_named (C : Cl) (size0 : D) (s : Sto) : Rs D := retK (B_law_named C size0 s)
theorem sim_law_named (C : Cl) (size0 : D) (s : Sto) : Sim false (fun _ _ => True) (evSs C b_law_named [some (false, size0), none, none, none] s) (B_law_named C size0 s) := (sim_asgO (by show ((((((((evE C c_law_named_1 [some (false, size0), none, none, none] s).bind fun x_15 s_16 => Rs.ok [x_15] s_16).bind (bfnR .tuple)).bind fun x_13 s_14 => Rs.ok [x_13] s_14).bind fun xs_17 s_18 => Rs.ok ((nat 2) :: xs_17) s_18).bind tupR).bind fun x_11 s_12 => Rs.ok [x_11] s_12).bind lstR) = _; simp only [e_c_law_named_1]) rfl (show 1 < 4 from by decide) fun found_1 s_2 => (show Sim _ _ (evSs C _ [some (false, size0), some (true, found_1), none, none] s_2) _ from (sim_app (by show ((((((evE C c_law_named_2 [some (false, size0), some (true, found_1), none, none] s_2).bind fun x_30 s_31 => Rs.ok [x_30] s_31).bind (bfnR .tuple)).bind fun x_28 s_29 => Rs.ok [x_28] s_29).bind fun xs_32 s_33 => Rs.ok ((nat 2) :: xs_32) s_33).bind tupR) = _; simp only [e_c_law_named_2]) rfl rfl fun found_20 s_21 => (show Sim _ _ (evSs C _ [some (false, size0), some (true, found_20), none, none] s_21) _ from (sim_asg rfl rfl (show 2 < 4 from by decide) fun three_34 s_35 => (show Sim _ _ (evSs C _ [some (false, size0), some (true, found_20), some (false, three_34), none] s_35) _ from (sim_app (by show ((((((evE C c_law_named_3 [some (false, size0), some (true, found_20), some (false, three_34), none] s_35).bind fun x_47 s_48 => Rs.ok [x_47] s_48).bind (bfnR .tuple)).bind fun x_45 s_46 => Rs.ok [x_45] s_46).bind fun xs_49 s_50 => Rs.ok ((nat 3) :: xs_49) s_50).bind tupR) = _; simp only [e_c_law_named_3]) rfl rfl fun found_37 s_38 => (show Sim _ _ (evSs C _ [some (false, size0), some (true, found_37), some (false, three_34), none] s_38) _ from (sim_app (by show ((((((evE C c_law_named_4 [some (false, size0), some (true, found_37), some (false, three_34), none] s_38).bind fun x_62 s_63 => Rs.ok [x_62] s_63).bind (bfnR .tuple)).bind fun x_60 s_61 => Rs.ok [x_60] s_61).bind fun xs_64 s_65 => Rs.ok ((nat 3) :: xs_64) s_65).bind tupR) = _; simp only [e_c_law_named_4]) rfl rfl fun found_52 s_53 => (show Sim _ _ (evSs C _ [some (false, size0), some (true, found_52), some (false, three_34), none] s_53) _ from (sim_app rfl rfl rfl fun found_67 s_68 => (show Sim _ _ (evSs C _ [some (false, size0), some (true, found_67), some (false, three_34), none] s_68) _ from (sim_ret (by show (((((((((evE C c_law_named_5 [some (false, size0), some (true, found_67), some (false, three_34), none] s_68).bind fun x_99 s_100 => Rs.ok [x_99] s_100).bind (bfnR .tuple)).bind fun x_97 s_98 => Rs.ok [x_97] s_98).bind fun xs_101 s_102 => Rs.ok ((nat 3) :: xs_101) s_102).bind tupR).bind fun x_95 s_96 => Rs.ok [x_95] s_96).bind lstR).bind fun x_93 s_94 => (binR .Add found_67 x_93 s_94)) = _; simp only [e_c_law_named_5]) rfl (fun z => nomatch z))))))))))))))
theorem call_law_named {T : Tab} (h : T 34 = some F_law_named) (k : Nat) (size0 : D) (s : Sto) : callF T (k + 1) 34 [size0] s = S_law_named (clOf T k) size0 s := call_sim h rfl (sim_law_named (clOf T k) size0 s)
structure H_law_named (T : Tab) : Prop where
  f : T 34 = some F_law_named
  law_rows : H_law_rows T
end Mi
namespace Mi
open PySem PySem.Spec
def bl_law_some_rows_1 : CSs :=
  (.cons (.asg (.nm 7) (.call 29 (.cons (.var 0) (.cons (.var 5) .nil))))
    (.cons (.ite (.val (.cmp .NotIn (.var 7) (.var 6)))
    (.cons (.app 6 (.var 7))
    .nil)
    .nil)
    .nil))
def b_law_some_rows : CSs :=
  (.cons (.par false 5 true 6 (.call 17 (.cons (.var 1) (.cons (.var 2) .nil))) (.lst .nil))
    (.cons (.forr (.nm 4) (.range1 (.bin .Add (.cint 1) (.call 15 (.cons (.var 0) (.cons (.var 3) .nil))))) bl_law_some_rows_1)
    (.cons (.ret (.bfn .tuple (.cons (.bfn .sorted (.cons (.var 6) .nil)) .nil)))
    .nil)))
def F_law_some_rows : Fn := ⟨4, 8, false, b_law_some_rows⟩
def L_law_some_rows_1 (C : Cl) (row0 : D) (every5 : D) (x : D) (st : D) (s : Sto) : Rs (O3 (D)) := (((Rs.ok [row0, every5] s).bind (C.run 29)).bind fun told_7 s_8 => (((cmpR .NotIn told_7 st s_8).bind fun x_9 s_10 => (truR x_9 s_10)).bind fun b_18 s_13 => if b_18 then ((Rs.ok told_7 s_13).bind fun d_15 s_17 => optK (appD st d_15) fun found_16 => (Rs.ok (O3.nx found_16) s_17)) else (Rs.ok (O3.nx st) s_13)))
theorem sim_L_law_some_rows_1 (C : Cl) (row0 : D) (size1 : D) (arity2 : D) (most3 : D) (every5 : D) (j4 : Option (Bool × D)) (j7 : Option (Bool × D)) (x : D) (st : D) (s : Sto) : Sim false (fun (q_6st : D) (q_6e : MEnv) => ∃ (q_6j4 : Option (Bool × D)) (q_6j7 : Option (Bool × D)), q_6e = [some (false, row0), some (false, size1), some (false, arity2), some (false, most3), q_6j4, some (false, every5), some (true, q_6st), q_6j7]) (bindK (bindT (.nm 4) x [some (false, row0), some (false, size1), some (false, arity2), some (false, most3), j4, some (false, every5), some (true, st), j7]) fun e1 => evSs C bl_law_some_rows_1 e1 s) (L_law_some_rows_1 C row0 every5 x st s) := (show Sim _ _ (evSs C _ [some (false, row0), some (false, size1), some (false, arity2), some (false, most3), some (false, x), some (false, every5), some (true, st), j7] s) _ from (sim_asg rfl rfl (show 7 < 8 from by decide) fun told_7 s_8 => (show Sim _ _ (evSs C _ [some (false, row0), some (false, size1), some (false, arity2), some (false, most3), some (false, x), some (false, every5), some (true, st), some (false, told_7)] s_8) _ from (sim_ite rfl (fun s_13 => (show Sim _ _ (evSs C _ [some (false, row0), some (false, size1), some (false, arity2), some (false, most3), some (false, x), some (false, every5), some (true, st), some (false, told_7)] s_13) _ from (sim_app rfl rfl rfl fun found_16 s_17 => (show Sim _ _ (evSs C _ [some (false, row0), some (false, size1), some (false, arity2), some (false, most3), some (false, x), some (false, every5), some (true, found_16), some (false, told_7)] s_17) _ from (sim_nil ⟨_, _, rfl⟩))))) (fun s_13 => (show Sim _ _ (evSs C _ [some (false, row0), some (false, size1), some (false, arity2), some (false, most3), some (false, x), some (false, every5), some (true, st), some (false, told_7)] s_13) _ from (sim_nil ⟨_, _, rfl⟩)))))))
def B_law_some_rows (C : Cl) (row0 size1 arity2 most3 : D) (s : Sto) : Rs (O3 Unit) := (((Rs.ok [size1, arity2] s).bind (C.run 17)).bind fun every_1 s_3 => (((Rs.ok [] s_3).bind lstR).bind fun found_2 s_4 => (((((Rs.ok [row0, most3] s_4).bind (C.run 15)).bind fun x_36 s_37 => (binR .Add (nat 1) x_36 s_37)).bind fun x_34 s_35 => (rng1R x_34 s_35)).bind fun xs_42 s_43 => o2K (loopR (L_law_some_rows_1 C row0 every_1) xs_42 found_2 s_43) fun st_19 s_20 => (((((Rs.ok [st_19] s_20).bind (bfnR .sorted)).bind fun x_25 s_26 => Rs.ok [x_25] s_26).bind (bfnR .tuple)).bind fun d_23 s_24 => Rs.ok (O3.rt d_23) s_24))))
def S_law_some_rows (C : Cl) (row0 size1 arity2 most3 : D) (s : Sto) : Rs D := retK (B_law_some_rows C row0 size1 arity2 most3 s)
theorem sim_law_some_rows (C : Cl) (row0 size1 arity2 most3 : D) (s : Sto) : Sim false (fun _ _ => True) (evSs C b_law_some_rows [some (false, row0), some (false, size1), some (false, arity2), some (false, most3), none, none, none, none] s) (B_law_some_rows C row0 size1 arity2 most3 s) := (sim_par rfl (fun s_3 => rfl) rfl fun every_1 found_2 s_4 => (show Sim _ _ (evSs C _ [some (false, row0), some (false, size1), some (false, arity2), some (false, most3), none, some (false, every_1), some (true, found_2), none] s_4) _ from (sim_for (fun (q_5st : D) (q_5e : MEnv) => ∃ (q_5j4 : Option (Bool × D)) (q_5j7 : Option (Bool × D)), q_5e = [some (false, row0), some (false, size1), some (false, arity2), some (false, most3), q_5j4, some (false, every_1), some (true, q_5st), q_5j7]) rfl ⟨_, _, rfl⟩ (by rintro x_31 st_29 _ s_30 ⟨j_32, j_33, rfl⟩; exact sim_L_law_some_rows_1 C row0 size1 arity2 most3 every_1 j_32 j_33 x_31 st_29 s_30) (by rintro st_19 _ s_20 ⟨j_21, j_22, rfl⟩; exact (show Sim _ _ (evSs C _ [some (false, row0), some (false, size1), some (false, arity2), some (false, most3), j_21, some (false, every_1), some (true, st_19), j_22] s_20) _ from (sim_ret rfl rfl (fun z => nomatch z)))))))
theorem call_law_some_rows {T : Tab} (h : T 35 = some F_law_some_rows) (k : Nat) (row0 size1 arity2 most3 : D) (s : Sto) : callF T (k + 1) 35 [row0, size1, arity2, most3] s = S_law_some_rows (clOf T k) row0 size1 arity2 most3 s := call_sim h rfl (sim_law_some_rows (clOf T k) row0 size1 arity2 most3 s)
structure H_law_some_rows (T : Tab) : Prop where
  f : T 35 = some F_law_some_rows
  law_taken : H_law_taken T
  law_rows : H_law_rows T
  law_pick : H_law_pick T
end Mi
/-! B5: closures by the law's own steps, known operations, rows drawn. -/
namespace Mi
open PySem PySem.Spec

/-- a loop that may end by break or return, the store as it is -/
theorem loop_end {σ α : Type} {e : α → D} {step : D → σ → Sto → Rs (O3 σ)} {s : Sto} (I : Nat → σ → Prop) (E : σ → Prop) (P : D → Prop) : ∀ (l : List α) (j : Nat) (st : σ), I j st →
    (∀ i a st, l[i]? = some a → I (j + i) st → (∃ st', step (e a) st s = .ok (.nx st') s ∧ I (j + i + 1) st') ∨ (∃ st', step (e a) st s = .ok (.bk st') s ∧ E st') ∨ ∃ d, step (e a) st s = .ok (.rt d) s ∧ P d) →
    (∃ st', loopR step (l.map e) st s = .ok (.nx st') s ∧ (I (j + l.length) st' ∨ E st')) ∨ ∃ d, loopR step (l.map e) st s = .ok (.rt d) s ∧ P d
  | [], j, st, h0, _ => .inl ⟨st, rfl, .inl h0⟩
  | a :: l, j, st, h0, h => by
    rcases h 0 a st rfl h0 with ⟨st1, h1, h2⟩ | ⟨st1, h1, h2⟩ | ⟨d, h1, h2⟩
    · have := loop_end I E P l (j + 1) st1 h2 fun i b st hb hi => by
        have := h (i + 1) b st hb (by rwa [show j + (i + 1) = j + 1 + i by omega])
        rwa [show j + (i + 1) = j + 1 + i by omega] at this
      rw [List.map_cons, loopR, h1, Rs.bind_ok, List.length_cons, show j + (l.length + 1) = j + 1 + l.length by omega]
      exact this
    · exact .inl ⟨st1, by rw [List.map_cons, loopR, h1, Rs.bind_ok], .inr h2⟩
    · exact .inr ⟨d, by rw [List.map_cons, loopR, h1, Rs.bind_ok], h2⟩

/-! ### closures -/
def Valid (z a : Nat) (K : List (List Nat)) : Prop := ∀ r ∈ K, r.length = a ∧ ∀ x ∈ r, x < z
def Clo (z n a : Nat) (tbl : List Nat) (S : List (List Nat)) : Prop := ∀ t : List (List Nat), t.length = n → (∀ r ∈ t, r ∈ S) → imgN z a tbl t ∈ S
/-- K lies in every closed set over R -/
def Least (z n a : Nat) (tbl : List Nat) (R K : List (List Nat)) : Prop := ∀ S : List (List Nat), (∀ r ∈ R, r ∈ S) → Clo z n a tbl S → ∀ r ∈ K, r ∈ S
def laterN (z a : Nat) (tbl : List Nat) (K L : List (List Nat)) (t : List (List Nat)) : List (List Nat) := if imgN z a tbl t ∉ K ∧ imgN z a tbl t ∉ L then L ++ [imgN z a tbl t] else L
theorem later_spec {z a : Nat} {tbl : List Nat} {K : List (List Nat)} : ∀ (l : List (List (List Nat))) (L : List (List Nat)), L.Nodup → (∀ q ∈ L, q ∉ K) →
    (l.foldl (laterN z a tbl K) L).Nodup ∧ (∀ q ∈ l.foldl (laterN z a tbl K) L, q ∉ K) ∧ (∀ q ∈ L, q ∈ l.foldl (laterN z a tbl K) L) ∧ (∀ q ∈ l.foldl (laterN z a tbl K) L, q ∈ L ∨ ∃ t ∈ l, q = imgN z a tbl t) ∧ ∀ t ∈ l, imgN z a tbl t ∈ K ∨ imgN z a tbl t ∈ l.foldl (laterN z a tbl K) L
  | [], L, h1, h2 => ⟨h1, h2, fun _ h => h, fun _ h => .inl h, by simp⟩
  | t :: l, L, h1, h2 => by
    have n1 : (laterN z a tbl K L t).Nodup := by
      unfold laterN
      split
      · rename_i c
        rw [List.nodup_append]
        exact ⟨h1, by simp, fun p hp q hq e => c.2 (by simp at hq; rw [← hq, ← e]; exact hp)⟩
      · exact h1
    have n2 : ∀ q ∈ laterN z a tbl K L t, q ∉ K := by
      unfold laterN
      split
      · rename_i c
        intro q hq
        rcases List.mem_append.mp hq with z | z
        · exact h2 q z
        · simp at z; subst z; exact c.1
      · exact h2
    obtain ⟨i1, i2, i3, i4, i5⟩ := later_spec l _ n1 n2
    have up : ∀ q ∈ L, q ∈ laterN z a tbl K L t := fun q hq => by
      unfold laterN
      split
      · exact List.mem_append_left _ hq
      · exact hq
    refine ⟨i1, i2, fun q hq => i3 q (up q hq), fun q hq => ?_, fun u hu => ?_⟩
    · rcases i4 q hq with w | ⟨u, hu, e⟩
      · unfold laterN at w
        split at w
        · rcases List.mem_append.mp w with w | w
          · exact .inl w
          · simp at w; exact .inr ⟨t, by simp, w⟩
        · exact .inl w
      · exact .inr ⟨u, by simp [hu], e⟩
    · rcases List.mem_cons.mp hu with rfl | hu
      · by_cases c1 : imgN z a tbl u ∈ K
        · exact .inl c1
        · refine .inr (i3 _ ?_)
          unfold laterN
          by_cases c2 : imgN z a tbl u ∈ L
          · rw [if_neg (fun c => c.2 c2)]; exact c2
          · rw [if_pos ⟨c1, c2⟩]; simp
      · exact i5 u hu
theorem pow8 {m i n : Nat} (h : m ≤ 8) (hi : i ≤ n) (hn : n ≤ 6) : m ^ i ≤ 1000000 :=
  Nat.le_trans (Nat.pow_le_pow_left h i) (Nat.le_trans (Nat.pow_le_pow_right (by decide) (Nat.le_trans hi hn)) (by decide))
section
variable {T : Tab} {k : Nat} {s : Sto}
theorem s_law_closed (h : H_law_closed T) (hk : 4 ≤ k) {z n a : Nat} {tbl : List Nat} {R : List (List Nat)} (o : IsOp z n tbl) (hn : n ≤ 6) (a1 : 1 ≤ a) (a4 : a ≤ 4) (hv : Valid z a R) (hd : R.Nodup) (h8 : R.length ≤ 8) :
    (∃ K, callF T k 33 [nat z, eOp n tbl, nat a, tR R] s = .ok (eRel a (srtN K)) s ∧ K.Nodup ∧ Valid z a K ∧ K.length ≤ 8 ∧ (∀ r ∈ R, r ∈ K) ∧ Least z n a tbl R K ∧ Clo z n a tbl K) ∨
    (callF T k 33 [nat z, eOp n tbl, nat a, tR R] s = .ok .non s ∧ ∃ K, K.Nodup ∧ Valid z a K ∧ 8 < K.length ∧ Least z n a tbl R K) := by
  obtain ⟨k, rfl, hj⟩ := lv hk
  rw [call_law_closed h.f]
  have n1 := o.n1
  have ne : ∀ K, Valid z a K → ∀ r ∈ K, r ≠ [] := fun K hK r hr e => by
    have := (hK r hr).1
    rw [e] at this
    simp at this
    omega
  have few : ∀ K, K.Nodup → Valid z a K → K.length ≤ 256 := fun K hK hv => Nat.le_trans (rows_few hK hv) (Nat.le_trans (Nat.pow_le_pow_left o.z4 a) (Nat.le_trans (Nat.pow_le_pow_right (by omega) a4) (by decide)))
  -- the first rows known
  obtain ⟨k1, _⟩ := loop_fold (s := s) (e := tN) (E := dR) (g := addN) (step := L_law_closed_1 (clOf T k) (nat z) (eOp n tbl) (nat a) (lR R)) (fun K => K.Nodup ∧ ∀ q ∈ K, q ∈ R) (l := R) (t := []) ⟨by simp, by simp⟩ fun q hq K hK => ⟨by
    have hl : K.length ≤ R.length := hK.1.length_le_of_subset hK.2
    simp only [L_law_closed_1, Rs.bind_ok, put_dR (show K.length + 1 ≤ 16777216 by omega), optK_some], addN_nodup hK.1 q, fun p hp => (addN_mem.mp hp).elim (hK.2 p) fun e => e ▸ hq⟩
  rw [fold_app R [] (by simpa using hd), List.nil_append] at k1
  -- the turns
  let I : Nat → D × D → Prop := fun j st => ∃ K F, st = (dR K, lR F) ∧ K.Nodup ∧ Valid z a K ∧ K.length ≤ 8 ∧ (∀ r ∈ R, r ∈ K) ∧ Least z n a tbl R K ∧ (F = [] → Clo z n a tbl K) ∧ (F ≠ [] → j + 1 ≤ K.length)
  let E : D × D → Prop := fun st => ∃ K F, st = (dR K, lR F) ∧ K.Nodup ∧ Valid z a K ∧ K.length ≤ 8 ∧ (∀ r ∈ R, r ∈ K) ∧ Least z n a tbl R K ∧ Clo z n a tbl K
  have turns := loop_end (s := s) (e := nat) (step := L_law_closed_2 (clOf T k) (nat z) (eOp n tbl) (nat a)) I E (fun d => d = .non ∧ ∃ K, K.Nodup ∧ Valid z a K ∧ 8 < K.length ∧ Least z n a tbl R K) (List.range 10) 0 (dR R, lR R)
    ⟨R, R, rfl, hd, hv, h8, fun _ h => h, fun S hS _ r hr => hS r hr, fun e => by
      subst e
      intro t ht hr
      cases t with
      | nil => simp at ht; omega
      | cons x t => exact absurd (hr x (by simp)) (by simp), fun hne => by
      cases R with
      | nil => exact absurd rfl hne
      | cons x R => simp⟩
    (by
      rintro i x st _ ⟨K, F, rfl, q1, q2, q3, q4, q5, q6, q7⟩
      have eqF : cmpR .Eq (lR F) (.lst []) s = .ok (.bl (F.map tN).isEmpty) s := cmp_eq_lst0 _ (by simp) s
      by_cases hF : F = []
      · refine .inr (.inl ⟨(dR K, lR F), ?_, K, F, rfl, q1, q2, q3, q4, q5, q6 hF⟩)
        simp only [L_law_closed_2, Rs.bind_ok, lst0_ok, eqF, truR_bl]
        simp [hF]
      · have sl : (srtN K).length ≤ 8 := by rw [srtN_len]; exact q3
        have tu := s_law_tuples h.law_tuples (show 1 ≤ k by omega) (d := lR (srtN K)) (n := n) (fun s => seq_lR _ s) (by omega) (fun i hi => pow8 sl hi hn) (by omega) (s := s)
        have tm : ∀ t ∈ tuplesN (srtN K) n, t.length = n ∧ ∀ r ∈ t, r ∈ K := fun t ht => by
          obtain ⟨t1, t2⟩ := tuplesN_mem.mp ht
          exact ⟨t1, fun r hr => srtN_mem.mp (t2 r hr)⟩
        obtain ⟨k3, l1, l2⟩ := loop_fold (s := s) (e := tR) (E := lR) (g := laterN z a tbl K) (step := L_law_closed_3 (clOf T k) (nat z) (eOp n tbl) (nat a) (dR K)) (fun L => L.Nodup ∧ Valid z a L) (l := tuplesN (srtN K) n) (t := []) ⟨by simp, by simp [Valid]⟩ fun t ht L hL => by
          obtain ⟨t1, t2⟩ := tm t ht
          have im := s_law_carried h.law_carried (show 2 ≤ k by omega) o t1 (fun r hr => q2 r (t2 r hr)) (show a ≤ 1000 by omega) (s := s)
          have iv := img_rows o t1 (fun r hr => q2 r (t2 r hr))
          have hl := few L hL.1 hL.2
          refine ⟨?_, ?_⟩
          · simp only [L_law_closed_3, Rs.bind_ok, run_clOf, im, nin_dR, truR_bl, nin_lR]
            unfold laterN
            by_cases c1 : imgN z a tbl t ∈ K
            · simp [c1]
            · by_cases c2 : imgN z a tbl t ∈ L
              · simp [c1, c2]
              · have := app_ok (l := L.map tN) (tN (imgN z a tbl t)) (by rw [List.length_map]; omega)
                simp only [lR] at this ⊢
                simp [c1, c2, this]
          · unfold laterN
            split
            · rename_i c
              refine ⟨by
                rw [List.nodup_append]
                exact ⟨hL.1, by simp, fun p hp q hq e => c.2 (by simp at hq; rw [← hq, ← e]; exact hp)⟩, fun r hr => ?_⟩
              rcases List.mem_append.mp hr with w | w
              · exact hL.2 r w
              · simp at w; subst w; exact iv
            · exact hL
        obtain ⟨f1, f2, _, f4, f5⟩ := later_spec (z := z) (a := a) (tbl := tbl) (K := K) (tuplesN (srtN K) n) [] (by simp) (by simp)
        generalize hLr : (tuplesN (srtN K) n).foldl (laterN z a tbl K) [] = Lr at k3 l1 l2 f1 f2 f4 f5
        have nd2 : (K ++ Lr).Nodup := by
          rw [List.nodup_append]
          exact ⟨q1, f1, fun p hp q hq e => f2 q hq (e ▸ hp)⟩
        have val2 : Valid z a (K ++ Lr) := fun r hr => (List.mem_append.mp hr).elim (q2 r) (l2 r)
        obtain ⟨k4, _⟩ := loop_fold (s := s) (e := tN) (E := dR) (g := addN) (step := L_law_closed_4 (clOf T k) (nat z) (eOp n tbl) (nat a) (lR Lr)) (fun M => M.Nodup ∧ Valid z a M) (l := Lr) (t := K) ⟨q1, q2⟩ fun q hq M hM => ⟨by
          have hl := few M hM.1 hM.2
          simp only [L_law_closed_4, Rs.bind_ok, put_dR (show M.length + 1 ≤ 16777216 by omega), optK_some], addN_nodup hM.1 q, fun p hp => (addN_mem.mp hp).elim (hM.2 p) fun e => e ▸ l2 q hq⟩
        rw [fold_app Lr K nd2] at k4
        have least2 : Least z n a tbl R (K ++ Lr) := fun S hS hC r hr => by
          rcases List.mem_append.mp hr with w | w
          · exact q5 S hS hC r w
          · rcases f4 r w with w | ⟨t, ht, rfl⟩
            · simp at w
            · obtain ⟨t1, t2⟩ := tm t ht
              exact hC t t1 fun r hr => q5 S hS hC r (t2 r hr)
        have eK : ∀ r ∈ K, r ≠ [] := ne K q2
        have e0 : (D.lst []) = lR [] := rfl
        have run : L_law_closed_2 (clOf T k) (nat z) (eOp n tbl) (nat a) (nat x) (dR K, lR F) s = if 8 < (K ++ Lr).length then .ok (.rt .non) s else .ok (.nx (dR (K ++ Lr), lR Lr)) s := by
          simp only [L_law_closed_2, Rs.bind_ok, lst0_ok, eqF, truR_bl]
          simp only [List.isEmpty_map, List.isEmpty_iff, hF, decide_false, Bool.false_eq_true, if_false, sorted_dR eK, Rs.bind_ok, sub_op0, run_clOf, tu, seq_lT, e0, k3, o2K_nx, seq_lR, k4, len_dR, cmp_gt, truR_bl]
          by_cases c : 8 < (K ++ Lr).length
          · simp only [c, decide_true, if_true]
          · simp only [c, decide_false, Bool.false_eq_true, if_false]
        by_cases c : 8 < (K ++ Lr).length
        · exact .inr (.inr ⟨.non, by rw [run, if_pos c], rfl, K ++ Lr, nd2, val2, c, least2⟩)
        · refine .inl ⟨(dR (K ++ Lr), lR Lr), by rw [run, if_neg c], K ++ Lr, Lr, rfl, nd2, val2, by omega, fun r hr => List.mem_append_left _ (q4 r hr), least2, fun e => ?_, fun hne => ?_⟩
          · subst e
            rw [List.append_nil]
            intro t t1 t2
            rcases f5 t (tuplesN_mem.mpr ⟨t1, fun r hr => srtN_mem.mpr (t2 r hr)⟩) with w | w
            · exact w
            · simp at w
          · have := q7 hF
            have : 1 ≤ Lr.length := by
              cases Lr with
              | nil => exact absurd rfl hne
              | cons _ _ => simp
            rw [List.length_append]
            omega)
  have last : (∃ K F, loopR (L_law_closed_2 (clOf T k) (nat z) (eOp n tbl) (nat a)) ((List.range 10).map nat) (dR R, lR R) s = .ok (.nx (dR K, lR F)) s ∧ K.Nodup ∧ Valid z a K ∧ K.length ≤ 8 ∧ (∀ r ∈ R, r ∈ K) ∧ Least z n a tbl R K ∧ Clo z n a tbl K) ∨
      (loopR (L_law_closed_2 (clOf T k) (nat z) (eOp n tbl) (nat a)) ((List.range 10).map nat) (dR R, lR R) s = .ok (.rt .non) s ∧ ∃ K, K.Nodup ∧ Valid z a K ∧ 8 < K.length ∧ Least z n a tbl R K) := by
    rcases turns with ⟨st, e, ⟨K, F, rfl, q1, q2, q3, q4, q5, q6, q7⟩ | ⟨K, F, rfl, q⟩⟩ | ⟨d, e, rfl, q⟩
    · refine .inl ⟨K, F, e, q1, q2, q3, q4, q5, q6 (Decidable.byContradiction fun hne => ?_)⟩
      have := q7 hne
      simp at this
      omega
    · exact .inl ⟨K, F, e, q⟩
    · exact .inr ⟨e, q⟩
  have e0 : D.dct true [] [] = dR [] := rfl
  have r10 : rng1R (nat 10) s = .ok ((List.range 10).map nat) s := rng1_nat (by decide) s
  rcases last with ⟨K, F, e, q1, q2, q⟩ | ⟨e, q⟩
  · refine .inl ⟨K, ?_, q1, q2, q⟩
    simp only [S_law_closed, B_law_closed, e0, Rs.bind_ok, list_tR, seq_tR, k1, o2K_nx, r10, e, sorted_dR (ne K q2), tuple_lR, tup2_ok, retK_rt]
    rfl
  · refine .inr ⟨?_, q⟩
    simp only [S_law_closed, B_law_closed, e0, Rs.bind_ok, list_tR, seq_tR, k1, o2K_nx, r10, e, o2K_rt, retK_rt]

/-! ### known operations -/
def minN : List Nat → Nat
  | [] => 0
  | x :: xs => xs.foldl (fun a y => if y < a then y else a) x
def maxN : List Nat → Nat
  | [] => 0
  | x :: xs => xs.foldl (fun a y => if a < y then y else a) x
theorem alikeOk_nats (r : List Nat) : alikeOk (r.map nat) = true := by
  simp only [alikeOk, Bool.and_eq_true, List.all_map, List.all_eq_true, Function.comp_def]
  exact ⟨fun x _ => by simp, fun x _ y _ => rfl⟩
theorem fold_min : ∀ (xs : List Nat) (x : Nat), (xs.map nat).foldl (fun a y => if D.ltv y a then y else a) (nat x) = nat (xs.foldl (fun a y => if y < a then y else a) x)
  | [], x => rfl
  | y :: xs, x => by
    have : D.ltv (nat y) (nat x) = decide (y < x) := by simp [nat, D.ltv]
    simp only [List.map_cons, List.foldl_cons, this]
    by_cases c : y < x
    · simp only [c, decide_true, if_true]; exact fold_min xs y
    · simp only [c, decide_false, Bool.false_eq_true, if_false]; exact fold_min xs x
theorem fold_max : ∀ (xs : List Nat) (x : Nat), (xs.map nat).foldl (fun a y => if D.ltv a y then y else a) (nat x) = nat (xs.foldl (fun a y => if a < y then y else a) x)
  | [], x => rfl
  | y :: xs, x => by
    have : D.ltv (nat x) (nat y) = decide (x < y) := by simp [nat, D.ltv]
    simp only [List.map_cons, List.foldl_cons, this]
    by_cases c : x < y
    · simp only [c, decide_true, if_true]; exact fold_max xs y
    · simp only [c, decide_false, Bool.false_eq_true, if_false]; exact fold_max xs x
theorem notNon_nats (r : List Nat) : (r.map nat).all notNon = true := by simp [notNon, nat]
theorem min_tN {r : List Nat} (h : r ≠ []) (s : Sto) : bfnR .min [tN r] s = .ok (nat (minN r)) s := by
  cases r with
  | nil => exact absurd rfl h
  | cons x xs =>
    have a := alikeOk_nats (x :: xs)
    have b := notNon_nats (x :: xs)
    rw [List.map_cons] at a b
    simp [bfnR, bfnD, tN, minD, a, b, minN, fold_min]
theorem max_tN {r : List Nat} (h : r ≠ []) (s : Sto) : bfnR .max [tN r] s = .ok (nat (maxN r)) s := by
  cases r with
  | nil => exact absurd rfl h
  | cons x xs =>
    have a := alikeOk_nats (x :: xs)
    have b := notNon_nats (x :: xs)
    rw [List.map_cons] at a b
    simp [bfnR, bfnD, tN, maxD, a, b, maxN, fold_max]
theorem minN_mem : ∀ (xs : List Nat) (x : Nat), xs.foldl (fun a y => if y < a then y else a) x ∈ x :: xs
  | [], x => by simp
  | y :: xs, x => by
    rw [List.foldl_cons]
    split
    · exact List.mem_cons_of_mem _ (minN_mem xs y)
    · rcases List.mem_cons.mp (minN_mem xs x) with e | e
      · rw [e]; simp
      · exact List.mem_cons_of_mem _ (List.mem_cons_of_mem _ e)
theorem maxN_mem : ∀ (xs : List Nat) (x : Nat), xs.foldl (fun a y => if a < y then y else a) x ∈ x :: xs
  | [], x => by simp
  | y :: xs, x => by
    rw [List.foldl_cons]
    split
    · exact List.mem_cons_of_mem _ (maxN_mem xs y)
    · rcases List.mem_cons.mp (maxN_mem xs x) with e | e
      · rw [e]; simp
      · exact List.mem_cons_of_mem _ (List.mem_cons_of_mem _ e)
def leNat (a b : Nat) : Bool := leD (nat a) (nat b)
theorem sorted_tN (r : List Nat) (s : Sto) : bfnR .sorted [tN r] s = .ok (lN (r.mergeSort leNat)) s := by
  have h : srtOk (r.map nat) = true := by
    simp only [srtOk, alikeOk_nats, Bool.true_and, Bool.or_eq_true]
    exact .inr (by simp [isFlatK, nat])
  simp only [bfnR, bfnD, tN, deref_tup, sortD, h, if_true, Rs.of_some]
  rw [lN, List.map_mergeSort (r := leNat) (s := leD) (f := nat) fun a _ b _ => rfl]
def ops6 (z : Nat) : List (Nat × List Nat) :=
  [(2, (rowsN z 2).map minN), (2, (rowsN z 2).map maxN), (3, (rowsN z 3).map fun r => (r.mergeSort leNat).getD 1 0),
   (3, (rowsN z 3).map fun r => (((r.getD 0 0 : Nat) - (r.getD 1 0 : Nat) + (r.getD 2 0 : Nat) : Int).fmod z).toNat), (1, List.replicate z 0), (3, (rowsN z 3).map fun r => if r.getD 1 0 = r.getD 2 0 then r.getD 1 0 else r.getD 0 0)]
def opD (o : Nat × List Nat) : D := eOp o.1 o.2
theorem getD_lt {r : List Nat} {z i : Nat} (h : ∀ x ∈ r, x < z) (hi : i < r.length) : r.getD i 0 < z := by
  rw [List.getD_eq_getElem?_getD, List.getElem?_eq_getElem hi]
  exact h _ (List.getElem_mem _)
theorem ops6_ok {z : Nat} (hz : 1 ≤ z ∧ z ≤ 4) : ∀ o ∈ ops6 z, IsOp z o.1 o.2 ∧ o.1 ≤ 3 := by
  have mk : ∀ (n : Nat) (f : List Nat → Nat), 1 ≤ n → n ≤ 3 → (∀ r, r.length = n → (∀ x ∈ r, x < z) → f r < z) → IsOp z n ((rowsN z n).map f) := fun n f h1 h3 hf =>
    ⟨hz.1, hz.2, h1, by omega, Nat.le_trans (Nat.pow_le_pow_left hz.2 n) (Nat.le_trans (Nat.pow_le_pow_right (by omega) h3) (by decide)), by rw [List.length_map, rowsN_len], fun x hx => by
      obtain ⟨r, hr, rfl⟩ := List.mem_map.mp hx
      obtain ⟨r1, r2⟩ := rowsN_mem.mp hr
      exact hf r r1 r2⟩
  intro o ho
  simp only [ops6, List.mem_cons, List.not_mem_nil, or_false] at ho
  rcases ho with rfl | rfl | rfl | rfl | rfl | rfl
  · refine ⟨mk 2 _ (by decide) (by decide) fun r h1 h2 => ?_, by show (_ : Nat) ≤ 3; simp⟩
    cases r with
    | nil => simp at h1
    | cons x xs => exact h2 _ (minN_mem xs x)
  · refine ⟨mk 2 _ (by decide) (by decide) fun r h1 h2 => ?_, by show (_ : Nat) ≤ 3; simp⟩
    cases r with
    | nil => simp at h1
    | cons x xs => exact h2 _ (maxN_mem xs x)
  · exact ⟨mk 3 _ (by decide) (by decide) fun r h1 h2 => getD_lt (fun x hx => h2 x ((List.mergeSort_perm r leNat).mem_iff.mp hx)) (by rw [List.length_mergeSort]; omega), by show (3 : Nat) ≤ 3; decide⟩
  · refine ⟨mk 3 _ (by decide) (by decide) fun r h1 h2 => ?_, by show (_ : Nat) ≤ 3; simp⟩
    obtain ⟨v, e, lt⟩ := fmod_nat ((r.getD 0 0 : Nat) - (r.getD 1 0 : Nat) + (r.getD 2 0 : Nat) : Int) hz.1
    rw [e]; exact lt
  · refine ⟨⟨hz.1, hz.2, by show (1 : Nat) ≤ 1; decide, by show (1 : Nat) ≤ 8; decide, by show z ^ 1 ≤ 256; rw [Nat.pow_one]; omega, by simp, fun x hx => ?_⟩, by show (1 : Nat) ≤ 3; decide⟩
    rw [List.eq_of_mem_replicate hx]; omega
  · refine ⟨mk 3 _ (by decide) (by decide) fun r h1 h2 => ?_, by show (_ : Nat) ≤ 3; simp⟩
    show (if _ then _ else _) < z
    split
    · exact getD_lt h2 (by omega)
    · exact getD_lt h2 (by omega)
theorem rep_tup1 (z : Nat) : (List.replicate z [nat 0]).flatten = (List.replicate z 0).map nat := by
  induction z with
  | zero => rfl
  | succ z ih => rw [List.replicate_succ, List.flatten_cons, ih]; rfl
theorem s_law_named (h : H_law_named T) (hk : 2 ≤ k) {z : Nat} (hz : 1 ≤ z ∧ z ≤ 4) : callF T k 34 [nat z] s = .ok (.lst ((ops6 z).map opD)) s := by
  obtain ⟨k, rfl, hj⟩ := lv hk
  rw [call_law_named h.f]
  have p2 : ∀ i, i ≤ 3 → z ^ i ≤ 1000000 := fun i hi => Nat.le_trans (Nat.pow_le_pow_left hz.2 i) (Nat.le_trans (Nat.pow_le_pow_right (by omega) hi) (by decide))
  have r2 := s_law_rows h.law_rows hj (z := z) (n := 2) (by omega) (by omega) (fun i hi => p2 i (by omega)) (s := s)
  have r3 := s_law_rows h.law_rows hj (z := z) (n := 3) (by omega) (by omega) p2 (s := s)
  have l2 : (rowsN z 2).length ≤ 16777216 := by rw [rowsN_len]; have := p2 2 (by omega); omega
  have l3 : (rowsN z 3).length ≤ 16777216 := by rw [rowsN_len]; have := p2 3 (by omega); omega
  have c1 : Sc_law_named_1 (clOf T k) (nat z) s = .ok (lN ((rowsN z 2).map minN)) s := by
    simp only [Sc_law_named_1, Rs.bind_ok, run_clOf, r2, seq_lR]
    rw [map_ok (g := fun r => nat (minN r)) l2, lN, List.map_map]
    · rfl
    · intro r hr
      exact min_tN (fun e => by have := (rowsN_mem.mp hr).1; rw [e] at this; simp at this) s
  have c2 : Sc_law_named_2 (clOf T k) (nat z) s = .ok (lN ((rowsN z 2).map maxN)) s := by
    simp only [Sc_law_named_2, Rs.bind_ok, run_clOf, r2, seq_lR]
    rw [map_ok (g := fun r => nat (maxN r)) l2, lN, List.map_map]
    · rfl
    · intro r hr
      exact max_tN (fun e => by have := (rowsN_mem.mp hr).1; rw [e] at this; simp at this) s
  have c3 : Sc_law_named_3 (clOf T k) (lR (rowsN z 3)) s = .ok (lN ((rowsN z 3).map fun r => (r.mergeSort leNat).getD 1 0)) s := by
    simp only [Sc_law_named_3, Rs.bind_ok, seq_lR]
    rw [map_ok (g := fun r => nat ((r.mergeSort leNat).getD 1 0)) l3, lN, List.map_map]
    · rfl
    · intro r hr
      have hl : 1 < (r.mergeSort leNat).length := by rw [List.length_mergeSort, (rowsN_mem.mp hr).1]; decide
      simp only [Rs.bind_ok, sorted_tN]
      refine sub_lm (e := nat) ?_ s
      rw [List.getD_eq_getElem?_getD, List.getElem?_eq_getElem hl]; rfl
  have c4 : Sc_law_named_4 (clOf T k) (nat z) (lR (rowsN z 3)) s = .ok (lN ((rowsN z 3).map fun r => (((r.getD 0 0 : Nat) - (r.getD 1 0 : Nat) + (r.getD 2 0 : Nat) : Int).fmod z).toNat)) s := by
    simp only [Sc_law_named_4, Rs.bind_ok, seq_lR]
    rw [map_ok (g := fun r => nat (((r.getD 0 0 : Nat) - (r.getD 1 0 : Nat) + (r.getD 2 0 : Nat) : Int).fmod z).toNat) l3, lN, List.map_map]
    · rfl
    · intro r hr
      have hl := (rowsN_mem.mp hr).1
      obtain ⟨v, e, lt⟩ := fmod_nat ((r.getD 0 0 : Nat) - (r.getD 1 0 : Nat) + (r.getD 2 0 : Nat) : Int) hz.1
      have a1 : ∀ (i : Int) (c : Nat), binR .Add (.int i) (nat c) s = .ok (.int (i + c)) s := fun _ _ => rfl
      have a2 : ∀ i : Int, binR .Mod (.int i) (nat z) s = .ok (.int (i.fmod z)) s := fun i => by
        have h0 : ((z : Nat) : Int) ≠ 0 := by omega
        show Rs.of (if ((z : Nat) : Int) ≠ 0 then some (D.int (i.fmod z)) else none) s = _
        rw [if_pos h0]; rfl
      simp only [sub_tN (show 0 < r.length by omega), sub_tN (show 1 < r.length by omega), sub_tN (show 2 < r.length by omega), Rs.bind_ok, bin_sub, a1, int_int, a2, e]
      rfl
  have c5 : Sc_law_named_5 (clOf T k) (lR (rowsN z 3)) s = .ok (lN ((rowsN z 3).map fun r => if r.getD 1 0 = r.getD 2 0 then r.getD 1 0 else r.getD 0 0)) s := by
    simp only [Sc_law_named_5, Rs.bind_ok, seq_lR]
    rw [map_ok (g := fun r => nat (if r.getD 1 0 = r.getD 2 0 then r.getD 1 0 else r.getD 0 0)) l3, lN, List.map_map]
    · rfl
    · intro r hr
      have hl := (rowsN_mem.mp hr).1
      simp only [sub_tN (show 0 < r.length by omega), sub_tN (show 1 < r.length by omega), sub_tN (show 2 < r.length by omega), Rs.bind_ok, cmp_eq, truR_bl]
      by_cases c : r.getD 1 0 = r.getD 2 0
      · simp only [c, decide_true, if_true]
      · simp only [c, decide_false, Bool.false_eq_true, if_false]
  have m1 : binR .Mult (.tup [nat 0]) (nat z) s = .ok (tN (List.replicate z 0)) s := by
    have q : binD .Mult s (.tup [nat 0]) (.int z) = some (.tup (List.replicate (z : Int).toNat [nat 0]).flatten) := by
      have h1 : (1 : Int) ≤ z := by omega
      have h2 : (z : Int) ≤ 1000 := by omega
      simp [binD, h1, h2]
    show Rs.of (binD .Mult s (.tup [nat 0]) (.int z)) s = _
    rw [q, Int.toNat_natCast, rep_tup1]
    rfl
  have ap : ∀ (l : List D) (d : D), l.length ≤ 100 → appD (.lst l) d = some (.lst (l ++ [d])) := fun l d hl => app_ok d (by omega)
  simp only [S_law_named, B_law_named, c1, c2, c3, c4, c5, r3, m1, Rs.bind_ok, run_clOf, tuple_lN, tup1_ok, tup2_ok, lst1_ok]
  rw [ap _ _ (by simp), optK_some, ap _ _ (by simp), optK_some, ap _ _ (by simp), optK_some, ap _ _ (by simp), optK_some, cat_lst (by simp)]
  rfl
/-! ### rows drawn -/
theorem s_law_some_rows (h : H_law_some_rows T) (hk : 3 ≤ k) {z a m : Nat} (hz : 1 ≤ z ∧ z ≤ 4) (a1 : 1 ≤ a) (a4 : a ≤ 4) (hm : 1 ≤ m ∧ m ≤ 1000) (hs : Dr s) :
    ∃ K s', callF T k 35 [.ref 0, nat z, nat a, nat m] s = .ok (tR (srtN K)) s' ∧ Dr s' ∧ K.Nodup ∧ Valid z a K ∧ K ≠ [] ∧ K.length ≤ m := by
  obtain ⟨k, rfl, hj⟩ := lv hk
  rw [call_law_some_rows h.f]
  have pw : ∀ i, i ≤ a → z ^ i ≤ 1000000 := fun i hi => Nat.le_trans (Nat.pow_le_pow_left hz.2 i) (Nat.le_trans (Nat.pow_le_pow_right (by omega) (Nat.le_trans hi a4)) (by decide))
  have rr := s_law_rows h.law_rows (show 1 ≤ k by omega) (z := z) (n := a) (by omega) (by omega) pw (s := s)
  obtain ⟨v, s1, e1, b1, d1⟩ := s_taken h.law_taken (show 1 ≤ k by omega) (m := m) (by omega) hs
  have rl : 1 ≤ (rowsN z a).length ∧ (rowsN z a).length ≤ 1000000 := by rw [rowsN_len]; exact ⟨Nat.pow_pos hz.1, pw a (Nat.le_refl _)⟩
  obtain ⟨st, s2, e2, K, rfl, q1, q2, q3, q4, q5⟩ := loop_inv (e := nat) (step := L_law_some_rows_1 (clOf T k) (.ref 0) (lR (rowsN z a))) (fun j st s => ∃ K, st = lR K ∧ K.Nodup ∧ Valid z a K ∧ K.length ≤ j ∧ (1 ≤ j → K ≠ []) ∧ Dr s) (List.range (1 + v)) 0 (lR []) s1 ⟨[], rfl, by simp, by simp [Valid], by simp, by simp, d1⟩ (by
    rintro i x st s hx ⟨K, rfl, q1, q2, q3, q4, q5⟩
    have hi : i < 1 + v := by have := (List.getElem?_eq_some_iff.mp hx).1; simpa using this
    obtain ⟨d, s', e, hm', d'⟩ := s_law_pick h.law_pick (show 2 ≤ k by omega) (d := lR (rowsN z a)) (xs := (rowsN z a).map tN) (.inl rfl) (by rw [List.length_map]; exact rl) q5
    obtain ⟨r, hr, rfl⟩ := List.mem_map.mp hm'
    have rv := rowsN_mem.mp hr
    by_cases c : r ∈ K
    · refine ⟨lR K, s', ?_, K, rfl, q1, q2, by omega, fun _ e => by rw [e] at c; simp at c, d'⟩
      simp only [L_law_some_rows_1, Rs.bind_ok, run_clOf, e, nin_lR, truR_bl]
      simp [c]
    · refine ⟨lR (K ++ [r]), s', ?_, K ++ [r], rfl, ?_, fun q hq => ?_, by simp; omega, by simp, d'⟩
      · have := app_ok (l := K.map tN) (tN r) (by rw [List.length_map]; omega)
        simp only [L_law_some_rows_1, Rs.bind_ok, run_clOf, e, nin_lR, truR_bl]
        simp only [lR] at this ⊢
        simp [c, this]
      · rw [List.nodup_append]
        exact ⟨q1, by simp, fun p hp q hq e => c (by simp at hq; rw [← hq, ← e]; exact hp)⟩
      · rcases List.mem_append.mp hq with w | w
        · exact q2 q w
        · simp at w; subst w; exact rv)
  rw [List.length_range] at q3 q4
  have ne : ∀ r ∈ K, r ≠ [] := fun r hr e => by
    have := (q2 r hr).1
    rw [e] at this
    simp at this
    omega
  refine ⟨K, s2, ?_, q5, q1, q2, q4 (by omega), by omega⟩
  have e0 : D.lst [] = lR [] := rfl
  simp only [S_law_some_rows, B_law_some_rows, Rs.bind_ok, run_clOf, rr, lst0_ok, e1, bin_add, rng1_nat (show 1 + v ≤ 1000000000 by omega), e0, e2, o2K_nx, sorted_lR ne, tuple_lR, retK_rt]
end
end Mi
namespace Mi
open PySem PySem.Spec
def c_made_1 : CE :=
  (.ssort (.nm 2) (.seq (.var 1)) (.var 2) [2])
def b_made : CSs :=
  (.cons (.ret (.tup (.cons (.var 0) (.cons (.bfn .tuple (.cons c_made_1 .nil)) .nil))))
    .nil)
def F_made : Fn := ⟨2, 3, false, b_made⟩
def Sc_made_1 (C : Cl) (rows1 : D) (s : Sto) : Rs D := ((seqR rows1 s).bind (ssortR fun x s => (Rs.ok x s)))
theorem e_c_made_1 (C : Cl) (arity0 : D) (rows1 : D) (s : Sto) : evE C c_made_1 [some (false, arity0), some (false, rows1), none] s = Sc_made_1 C rows1 s := ssort_sh rfl fun x s => rfl
def B_made (C : Cl) (arity0 rows1 : D) (s : Sto) : Rs (O3 Unit) := (((((((Sc_made_1 C rows1 s).bind fun x_5 s_6 => Rs.ok [x_5] s_6).bind (bfnR .tuple)).bind fun x_3 s_4 => Rs.ok [x_3] s_4).bind fun xs_7 s_8 => Rs.ok (arity0 :: xs_7) s_8).bind tupR).bind fun d_1 s_2 => Rs.ok (O3.rt d_1) s_2)
def S_made (C : Cl) (arity0 rows1 : D) (s : Sto) : Rs D := retK (B_made C arity0 rows1 s)
theorem sim_made (C : Cl) (arity0 rows1 : D) (s : Sto) : Sim false (fun _ _ => True) (evSs C b_made [some (false, arity0), some (false, rows1), none] s) (B_made C arity0 rows1 s) := (sim_ret (by show ((((((evE C c_made_1 [some (false, arity0), some (false, rows1), none] s).bind fun x_11 s_12 => Rs.ok [x_11] s_12).bind (bfnR .tuple)).bind fun x_9 s_10 => Rs.ok [x_9] s_10).bind fun xs_13 s_14 => Rs.ok (arity0 :: xs_13) s_14).bind tupR) = _; simp only [e_c_made_1]) rfl (fun z => nomatch z))
theorem call_made {T : Tab} (h : T 45 = some F_made) (k : Nat) (arity0 rows1 : D) (s : Sto) : callF T (k + 1) 45 [arity0, rows1] s = S_made (clOf T k) arity0 rows1 s := call_sim h rfl (sim_made (clOf T k) arity0 rows1 s)
structure H_made (T : Tab) : Prop where
  f : T 45 = some F_made
end Mi
namespace Mi
open PySem PySem.Spec
def c_closed_1 : CE :=
  (.dcomp true (.nm 7) (.seq (.sub (.var 2) (.cint 1))) (.var 7) (.cbl true) [7])
def c_closed_2 : CE :=
  (.comp (.nm 7) (.seq (.var 6)) .nil (.cmp .In (.var 7) (.var 4)) [7])
def bl_closed_3 : CSs :=
  (.cons (.ite (.val (.bfn .any (.cons c_closed_2 .nil)))
    (.cons (.asg (.nm 7) (.call 23 (.cons (.var 0) (.cons (.var 1) (.cons (.var 6) .nil)))))
    (.cons (.ite (.and (.cons (.val (.cmp .NotIn (.var 7) (.var 3))) (.cons (.val (.cmp .NotIn (.var 7) (.var 5))) .nil)))
    (.cons (.app 5 (.var 7))
    .nil)
    .nil)
    .nil))
    .nil)
    .nil)
def bl_closed_4 : CSs :=
  (.cons (.seti 3 (.var 7) (.cbl true))
    .nil)
def bl_closed_5 : CSs :=
  (.cons (.asgO 5 (.lst .nil))
    (.cons (.forr (.nm 6) (.seq (.call 24 (.cons (.bfn .list (.cons (.var 3) .nil)) (.cons (.sub (.var 1) (.cint 0)) .nil)))) bl_closed_3)
    (.cons (.forr (.nm 7) (.seq (.var 5)) bl_closed_4)
    (.frz 5 (.cons (.asg (.nm 4) (.var 5))
    .nil)))))
def b_closed : CSs :=
  (.cons (.asgO 3 c_closed_1)
    (.cons (.asg (.nm 4) (.bfn .list (.cons (.sub (.var 2) (.cint 1)) .nil)))
    (.cons (.whil FUEL (.val (.cmp .NotEq (.var 4) (.lst .nil))) bl_closed_5)
    (.cons (.ret (.call 45 (.cons (.sub (.var 2) (.cint 0)) (.cons (.bfn .list (.cons (.var 3) .nil)) .nil))))
    .nil))))
def F_closed : Fn := ⟨3, 8, false, b_closed⟩
def Sc_closed_1 (C : Cl) (relation2 : D) (s : Sto) : Rs D := (((subR relation2 (nat 1) s).bind fun x_1 s_2 => (seqR x_1 s_2)).bind (dctR true fun x s => (Rs.ok (x, (D.bl true)) s)))
theorem e_c_closed_1 (C : Cl) (size0 : D) (operation1 : D) (relation2 : D) (s : Sto) : evE C c_closed_1 [some (false, size0), some (false, operation1), some (false, relation2), none, none, none, none, none] s = Sc_closed_1 C relation2 s := dcomp_sh rfl fun x s => rfl
def Sc_closed_2 (C : Cl) (fresh4 : D) (rows6 : D) (s : Sto) : Rs D := ((seqR rows6 s).bind (mapR fun x s => (cmpR .In x fresh4 s)))
theorem e_c_closed_2 (C : Cl) (size0 : D) (operation1 : D) (relation2 : D) (known3 : D) (fresh4 : D) (later5 : D) (rows6 : D) (j7 : Option (Bool × D)) (s : Sto) : evE C c_closed_2 [some (false, size0), some (false, operation1), some (false, relation2), some (true, known3), some (false, fresh4), some (true, later5), some (false, rows6), j7] s = Sc_closed_2 C fresh4 rows6 s := comp_sh rfl fun x s => rfl
def L_closed_2 (C : Cl) (size0 : D) (operation1 : D) (relation2 : D) (known3 : D) (fresh4 : D) (x : D) (st : D) (s : Sto) : Rs (O3 (D)) := (((((Sc_closed_2 C fresh4 x s).bind fun x_25 s_26 => Rs.ok [x_25] s_26).bind (bfnR .any)).bind fun x_23 s_24 => (truR x_23 s_24)).bind fun b_57 s_31 => if b_57 then (((Rs.ok [size0, operation1, x] s_31).bind (C.run 23)).bind fun row_33 s_34 => ((((cmpR .NotIn row_33 known3 s_34).bind fun x_37 s_38 => (truR x_37 s_38)).bind fun b_35 s_36 => if b_35 then (((cmpR .NotIn row_33 st s_36).bind fun x_41 s_42 => (truR x_41 s_42)).bind fun b_39 s_40 => if b_39 then (Rs.ok true s_40) else Rs.ok false s_40) else Rs.ok false s_36).bind fun b_56 s_51 => if b_56 then ((Rs.ok row_33 s_51).bind fun d_53 s_55 => optK (appD st d_53) fun later_54 => (Rs.ok (O3.nx later_54) s_55)) else (Rs.ok (O3.nx st) s_51))) else (Rs.ok (O3.nx st) s_31))
theorem sim_L_closed_2 (C : Cl) (size0 : D) (operation1 : D) (relation2 : D) (known3 : D) (fresh4 : D) (j6 : Option (Bool × D)) (j7 : Option (Bool × D)) (x : D) (st : D) (s : Sto) : Sim false (fun (q_22st : D) (q_22e : MEnv) => ∃ (q_22j6 : Option (Bool × D)) (q_22j7 : Option (Bool × D)), q_22e = [some (false, size0), some (false, operation1), some (false, relation2), some (true, known3), some (false, fresh4), some (true, q_22st), q_22j6, q_22j7]) (bindK (bindT (.nm 6) x [some (false, size0), some (false, operation1), some (false, relation2), some (true, known3), some (false, fresh4), some (true, st), j6, j7]) fun e1 => evSs C bl_closed_3 e1 s) (L_closed_2 C size0 operation1 relation2 known3 fresh4 x st s) := (show Sim _ _ (evSs C _ [some (false, size0), some (false, operation1), some (false, relation2), some (true, known3), some (false, fresh4), some (true, st), some (false, x), j7] s) _ from (sim_ite (by show ((((evE C c_closed_2 [some (false, size0), some (false, operation1), some (false, relation2), some (true, known3), some (false, fresh4), some (true, st), some (false, x), j7] s).bind fun x_29 s_30 => Rs.ok [x_29] s_30).bind (bfnR .any)).bind fun x_27 s_28 => (truR x_27 s_28)) = _; simp only [e_c_closed_2]) (fun s_31 => (show Sim _ _ (evSs C _ [some (false, size0), some (false, operation1), some (false, relation2), some (true, known3), some (false, fresh4), some (true, st), some (false, x), j7] s_31) _ from (sim_asg rfl rfl (show 7 < 8 from by decide) fun row_33 s_34 => (show Sim _ _ (evSs C _ [some (false, size0), some (false, operation1), some (false, relation2), some (true, known3), some (false, fresh4), some (true, st), some (false, x), some (false, row_33)] s_34) _ from (sim_ite rfl (fun s_51 => (show Sim _ _ (evSs C _ [some (false, size0), some (false, operation1), some (false, relation2), some (true, known3), some (false, fresh4), some (true, st), some (false, x), some (false, row_33)] s_51) _ from (sim_app rfl rfl rfl fun later_54 s_55 => (show Sim _ _ (evSs C _ [some (false, size0), some (false, operation1), some (false, relation2), some (true, known3), some (false, fresh4), some (true, later_54), some (false, x), some (false, row_33)] s_55) _ from (sim_nil ⟨_, _, rfl⟩))))) (fun s_51 => (show Sim _ _ (evSs C _ [some (false, size0), some (false, operation1), some (false, relation2), some (true, known3), some (false, fresh4), some (true, st), some (false, x), some (false, row_33)] s_51) _ from (sim_nil ⟨_, _, rfl⟩)))))))) (fun s_31 => (show Sim _ _ (evSs C _ [some (false, size0), some (false, operation1), some (false, relation2), some (true, known3), some (false, fresh4), some (true, st), some (false, x), j7] s_31) _ from (sim_nil ⟨_, _, rfl⟩)))))
def L_closed_3 (C : Cl) (size0 : D) (operation1 : D) (relation2 : D) (later5 : D) (x : D) (st : D) (s : Sto) : Rs (O3 (D)) := ((Rs.ok (D.bl true) s).bind fun d_64 s_67 => ((Rs.ok x s_67).bind fun k_65 s_68 => optK (putD st k_65 d_64) fun known_66 => (Rs.ok (O3.nx known_66) s_68)))
theorem sim_L_closed_3 (C : Cl) (size0 : D) (operation1 : D) (relation2 : D) (fresh4 : D) (later5 : D) (j6 : Option (Bool × D)) (j7 : Option (Bool × D)) (x : D) (st : D) (s : Sto) : Sim false (fun (q_63st : D) (q_63e : MEnv) => ∃ (q_63j7 : Option (Bool × D)), q_63e = [some (false, size0), some (false, operation1), some (false, relation2), some (true, q_63st), some (false, fresh4), some (false, later5), j6, q_63j7]) (bindK (bindT (.nm 7) x [some (false, size0), some (false, operation1), some (false, relation2), some (true, st), some (false, fresh4), some (false, later5), j6, j7]) fun e1 => evSs C bl_closed_4 e1 s) (L_closed_3 C size0 operation1 relation2 later5 x st s) := (show Sim _ _ (evSs C _ [some (false, size0), some (false, operation1), some (false, relation2), some (true, st), some (false, fresh4), some (false, later5), j6, some (false, x)] s) _ from (sim_seti rfl (fun s_67 => rfl) rfl rfl rfl fun known_66 s_68 => (show Sim _ _ (evSs C _ [some (false, size0), some (false, operation1), some (false, relation2), some (true, known_66), some (false, fresh4), some (false, later5), j6, some (false, x)] s_68) _ from (sim_nil ⟨_, rfl⟩))))
def L_closed_1_t (C : Cl) (size0 : D) (operation1 : D) (relation2 : D) (st : D × D) (s : Sto) : Rs Bool := ((((Rs.ok [] s).bind lstR).bind fun x_13 s_14 => (cmpR .NotEq st.2 x_13 s_14)).bind fun x_11 s_12 => (truR x_11 s_12))
theorem e_L_closed_1_t (C : Cl) (size0 : D) (operation1 : D) (relation2 : D) (j5 : Option (Bool × D)) (j6 : Option (Bool × D)) (j7 : Option (Bool × D)) (st : D × D) (s : Sto) : evT C (.val (.cmp .NotEq (.var 4) (.lst .nil))) [some (false, size0), some (false, operation1), some (false, relation2), some (true, st.1), some (false, st.2), j5, j6, j7] s = L_closed_1_t C size0 operation1 relation2 st s := rfl
def L_closed_1 (C : Cl) (size0 : D) (operation1 : D) (relation2 : D) (st : D × D) (s : Sto) : Rs (O3 (D × D)) := (((Rs.ok [] s).bind lstR).bind fun later_19 s_20 => ((((((Rs.ok [st.1] s_20).bind (bfnR .list)).bind fun x_87 s_88 => (((subR operation1 (nat 0) s_88).bind fun x_89 s_90 => Rs.ok [x_89] s_90).bind fun xs_91 s_92 => Rs.ok (x_87 :: xs_91) s_92)).bind (C.run 24)).bind fun x_85 s_86 => (seqR x_85 s_86)).bind fun xs_101 s_102 => o2K (loopR (L_closed_2 C size0 operation1 relation2 st.1 st.2) xs_101 later_19 s_102) fun st_58 s_59 => ((seqR st_58 s_59).bind fun xs_78 s_79 => o2K (loopR (L_closed_3 C size0 operation1 relation2 st_58) xs_78 st.1 s_79) fun st_69 s_70 => ((Rs.ok st_58 s_70).bind fun fresh_72 s_73 => (Rs.ok (O3.nx (st_69, fresh_72)) s_73)))))
theorem sim_L_closed_1 (C : Cl) (size0 : D) (operation1 : D) (relation2 : D) (j5 : Option (Bool × D)) (j6 : Option (Bool × D)) (j7 : Option (Bool × D)) (st : D × D) (s : Sto) : Sim false (fun (q_10st : D × D) (q_10e : MEnv) => ∃ (q_10j5 : Option (Bool × D)) (q_10j6 : Option (Bool × D)) (q_10j7 : Option (Bool × D)), q_10e = [some (false, size0), some (false, operation1), some (false, relation2), some (true, q_10st.1), some (false, q_10st.2), q_10j5, q_10j6, q_10j7]) (evSs C bl_closed_5 [some (false, size0), some (false, operation1), some (false, relation2), some (true, st.1), some (false, st.2), j5, j6, j7] s) (L_closed_1 C size0 operation1 relation2 st s) := (show Sim _ _ (evSs C _ [some (false, size0), some (false, operation1), some (false, relation2), some (true, st.1), some (false, st.2), j5, j6, j7] s) _ from (sim_asgO rfl rfl (show 5 < 8 from by decide) fun later_19 s_20 => (show Sim _ _ (evSs C _ [some (false, size0), some (false, operation1), some (false, relation2), some (true, st.1), some (false, st.2), some (true, later_19), j6, j7] s_20) _ from (sim_for (fun (q_21st : D) (q_21e : MEnv) => ∃ (q_21j6 : Option (Bool × D)) (q_21j7 : Option (Bool × D)), q_21e = [some (false, size0), some (false, operation1), some (false, relation2), some (true, st.1), some (false, st.2), some (true, q_21st), q_21j6, q_21j7]) rfl ⟨_, _, rfl⟩ (by rintro x_82 st_80 _ s_81 ⟨j_83, j_84, rfl⟩; exact sim_L_closed_2 C size0 operation1 relation2 st.1 st.2 j_83 j_84 x_82 st_80 s_81) (by rintro st_58 _ s_59 ⟨j_60, j_61, rfl⟩; exact (show Sim _ _ (evSs C _ [some (false, size0), some (false, operation1), some (false, relation2), some (true, st.1), some (false, st.2), some (true, st_58), j_60, j_61] s_59) _ from (sim_for (fun (q_62st : D) (q_62e : MEnv) => ∃ (q_62j7 : Option (Bool × D)), q_62e = [some (false, size0), some (false, operation1), some (false, relation2), some (true, q_62st), some (false, st.2), some (false, st_58), j_60, q_62j7]) rfl ⟨_, rfl⟩ (by rintro x_76 st_74 _ s_75 ⟨j_77, rfl⟩; exact sim_L_closed_3 C size0 operation1 relation2 st.2 st_58 j_60 j_77 x_76 st_74 s_75) (by rintro st_69 _ s_70 ⟨j_71, rfl⟩; exact (show Sim _ _ (evSs C _ [some (false, size0), some (false, operation1), some (false, relation2), some (true, st_69), some (false, st.2), some (false, st_58), j_60, j_71] s_70) _ from (sim_frz (show Sim _ _ (evSs C _ [some (false, size0), some (false, operation1), some (false, relation2), some (true, st_69), some (false, st.2), some (false, st_58), j_60, j_71] s_70) _ from (sim_asg rfl rfl (show 4 < 8 from by decide) fun fresh_72 s_73 => (show Sim _ _ (evSs C _ [some (false, size0), some (false, operation1), some (false, relation2), some (true, st_69), some (false, fresh_72), some (false, st_58), j_60, j_71] s_73) _ from (sim_nil ⟨_, _, _, rfl⟩))))))))))))))
def B_closed (C : Cl) (size0 operation1 relation2 : D) (s : Sto) : Rs (O3 Unit) := ((Sc_closed_1 C relation2 s).bind fun known_1 s_2 => ((((subR relation2 (nat 1) s_2).bind fun x_5 s_6 => Rs.ok [x_5] s_6).bind (bfnR .list)).bind fun fresh_3 s_4 => (o2K (whR (L_closed_1_t C size0 operation1 relation2) (L_closed_1 C size0 operation1 relation2) FUEL (known_1, fresh_3) s_4) fun st_103 s_104 => ((((subR relation2 (nat 0) s_104).bind fun x_110 s_111 => ((((Rs.ok [st_103.1] s_111).bind (bfnR .list)).bind fun x_112 s_113 => Rs.ok [x_112] s_113).bind fun xs_114 s_115 => Rs.ok (x_110 :: xs_114) s_115)).bind (C.run 45)).bind fun d_108 s_109 => Rs.ok (O3.rt d_108) s_109))))
def S_closed (C : Cl) (size0 operation1 relation2 : D) (s : Sto) : Rs D := retK (B_closed C size0 operation1 relation2 s)
theorem sim_closed (C : Cl) (size0 operation1 relation2 : D) (s : Sto) : Sim false (fun _ _ => True) (evSs C b_closed [some (false, size0), some (false, operation1), some (false, relation2), none, none, none, none, none] s) (B_closed C size0 operation1 relation2 s) := (sim_asgO (by show (evE C c_closed_1 [some (false, size0), some (false, operation1), some (false, relation2), none, none, none, none, none] s) = _; simp only [e_c_closed_1]) rfl (show 3 < 8 from by decide) fun known_1 s_2 => (show Sim _ _ (evSs C _ [some (false, size0), some (false, operation1), some (false, relation2), some (true, known_1), none, none, none, none] s_2) _ from (sim_asg rfl rfl (show 4 < 8 from by decide) fun fresh_3 s_4 => (show Sim _ _ (evSs C _ [some (false, size0), some (false, operation1), some (false, relation2), some (true, known_1), some (false, fresh_3), none, none, none] s_4) _ from (sim_whil (fun (q_9st : D × D) (q_9e : MEnv) => ∃ (q_9j5 : Option (Bool × D)) (q_9j6 : Option (Bool × D)) (q_9j7 : Option (Bool × D)), q_9e = [some (false, size0), some (false, operation1), some (false, relation2), some (true, q_9st.1), some (false, q_9st.2), q_9j5, q_9j6, q_9j7]) ⟨_, _, _, rfl⟩ (by rintro st_122 _ s_123 ⟨j_125, j_126, j_127, rfl⟩; exact e_L_closed_1_t C size0 operation1 relation2 j_125 j_126 j_127 st_122 s_123) (by rintro st_122 _ s_123 ⟨j_125, j_126, j_127, rfl⟩; exact sim_L_closed_1 C size0 operation1 relation2 j_125 j_126 j_127 st_122 s_123) (by rintro st_103 _ s_104 ⟨j_105, j_106, j_107, rfl⟩; exact (show Sim _ _ (evSs C _ [some (false, size0), some (false, operation1), some (false, relation2), some (true, st_103.1), some (false, st_103.2), j_105, j_106, j_107] s_104) _ from (sim_ret rfl rfl (fun z => nomatch z)))))))))
theorem call_closed {T : Tab} (h : T 46 = some F_closed) (k : Nat) (size0 operation1 relation2 : D) (s : Sto) : callF T (k + 1) 46 [size0, operation1, relation2] s = S_closed (clOf T k) size0 operation1 relation2 s := call_sim h rfl (sim_closed (clOf T k) size0 operation1 relation2 s)
structure H_closed (T : Tab) : Prop where
  f : T 46 = some F_closed
  image_of : H_image_of T
  tuples_of : H_tuples_of T
  made : H_made T
end Mi
namespace Mi
open PySem PySem.Spec
def b_closure : CSs :=
  (.cons (.expr (.call 2 (.cons (.var 0) .nil)))
    (.cons (.expr (.call 8 (.cons (.var 0) (.cons (.var 1) .nil))))
    (.cons (.expr (.call 22 (.cons (.var 0) (.cons (.var 2) .nil))))
    (.cons (.ret (.call 46 (.cons (.var 0) (.cons (.var 1) (.cons (.var 2) .nil)))))
    .nil))))
def F_closure : Fn := ⟨3, 3, false, b_closure⟩
def B_closure (C : Cl) (size0 operation1 relation2 : D) (s : Sto) : Rs (O3 Unit) := (((Rs.ok [size0] s).bind (C.run 2)).bind fun _ s_1 => (((Rs.ok [size0, operation1] s_1).bind (C.run 8)).bind fun _ s_3 => (((Rs.ok [size0, relation2] s_3).bind (C.run 22)).bind fun _ s_5 => (((Rs.ok [size0, operation1, relation2] s_5).bind (C.run 46)).bind fun d_7 s_8 => Rs.ok (O3.rt d_7) s_8))))
def S_closure (C : Cl) (size0 operation1 relation2 : D) (s : Sto) : Rs D := retK (B_closure C size0 operation1 relation2 s)
theorem sim_closure (C : Cl) (size0 operation1 relation2 : D) (s : Sto) : Sim false (fun _ _ => True) (evSs C b_closure [some (false, size0), some (false, operation1), some (false, relation2)] s) (B_closure C size0 operation1 relation2 s) := (sim_expr rfl fun s_1 => (show Sim _ _ (evSs C _ [some (false, size0), some (false, operation1), some (false, relation2)] s_1) _ from (sim_expr rfl fun s_3 => (show Sim _ _ (evSs C _ [some (false, size0), some (false, operation1), some (false, relation2)] s_3) _ from (sim_expr rfl fun s_5 => (show Sim _ _ (evSs C _ [some (false, size0), some (false, operation1), some (false, relation2)] s_5) _ from (sim_ret rfl rfl (fun z => nomatch z))))))))
theorem call_closure {T : Tab} (h : T 47 = some F_closure) (k : Nat) (size0 operation1 relation2 : D) (s : Sto) : callF T (k + 1) 47 [size0, operation1, relation2] s = S_closure (clOf T k) size0 operation1 relation2 s := call_sim h rfl (sim_closure (clOf T k) size0 operation1 relation2 s)
structure H_closure (T : Tab) : Prop where
  f : T 47 = some F_closure
  need_size : H_need_size T
  need_operation : H_need_operation T
  need_relation : H_need_relation T
  closed : H_closed T
end Mi
/-! B6: relations made of rows, closures. -/
namespace Mi
open PySem PySem.Spec
theorem addD_rows (K : List (List Nat)) (r : List Nat) : addD (K.map tN) (tN r) = (addN K r).map tN := by
  unfold addD addN
  rw [any_row]
  by_cases h : r ∈ K <;> simp [h]
theorem foldD_rows : ∀ (R K : List (List Nat)), (R.map tN).foldl addD (K.map tN) = (R.foldl addN K).map tN
  | [], K => rfl
  | r :: R, K => by
    simp only [List.map_cons, List.foldl_cons, addD_rows]
    exact foldD_rows R _
theorem intRow_tN (r : List Nat) : intRow (tN r) = some (r.map fun (x : Nat) => (x : Int)) := intsOf_nat r
theorem ssort_rows_ok {z a : Nat} {R : List (List Nat)} (hz : z ≤ 1000000) (a1 : 1 ≤ a) (hv : Valid z a R) (h64 : R.length < 64) : ssortD (R.map tN) = some (lR (srtN (R.foldl addN []))) := by
  cases R with
  | nil => simp [ssortD, lR, srtN]
  | cons x R =>
    have h1 := (hv x (by simp)).1
    have hall : ((x :: R).map tN).all (rowLen (x.map fun (x : Nat) => (x : Int)).length) = true := by
      simp only [List.all_map, List.all_eq_true, Function.comp_def]
      intro r hr
      obtain ⟨q1, q2⟩ := hv r hr
      simp only [rowLen, intRow_tN, List.length_map, Bool.and_eq_true, beq_iff_eq, List.all_map, List.all_eq_true, Function.comp_def, decide_eq_true_eq]
      refine ⟨by rw [q1, h1], fun y hy => ?_⟩
      have := q2 y hy
      omega
    have h2 : decide (1 ≤ (x.map fun (x : Nat) => (x : Int)).length) = true := by simp; omega
    have h3 : decide ((tN x :: R.map tN).length < 64) = true := by simp at h64 ⊢; exact h64
    have e := foldD_rows (x :: R) []
    have no : (tN x :: R.map tN).all isInt = false := rfl
    rw [List.map_cons] at hall e
    simp only [List.map_nil] at e
    simp only [List.map_cons, ssortD, no, Bool.false_and, Bool.false_eq_true, if_false, intRow_tN, h2, hall, h3, Bool.and_self, if_true, e]
    rw [lR, srtN, List.map_mergeSort (r := leN) (s := leD) (f := tN) fun a _ b _ => (leD_tN a b).symm]
theorem ssortR_rows {z a : Nat} {R : List (List Nat)} {f : D → Sto → Rs D} {s : Sto} (hz : z ≤ 1000000) (a1 : 1 ≤ a) (hv : Valid z a R) (h64 : R.length < 64) (hf : ∀ r ∈ R, f (tN r) s = .ok (tN r) s) : ssortR f (R.map tN) s = .ok (lR (srtN (R.foldl addN []))) s := by
  rw [ssortR, mapL_ok hf, Rs.still_ok, Rs.bind_ok, ssort_rows_ok hz a1 hv h64]
  rfl
@[simp] theorem list_dR (K : List (List Nat)) (s : Sto) : bfnR .list [dR K] s = .ok (lR K) s := rfl
@[simp] theorem list_lR (K : List (List Nat)) (s : Sto) : bfnR .list [lR K] s = .ok (lR K) s := rfl
/-- a while loop that ends -/
theorem wh_inv {σ : Type} {cond : σ → Sto → Rs Bool} {step : σ → Sto → Rs (O3 σ)} {s : Sto} (I : σ → Prop) (m : σ → Nat) (c : σ → Bool) : ∀ (n : Nat) (st : σ), I st → m st < n → (∀ st, I st → cond st s = .ok (c st) s ∧ (c st = true → ∃ st', step st s = .ok (.nx st') s ∧ I st' ∧ m st' < m st)) →
    ∃ st', whR cond step n st s = .ok (.nx st') s ∧ I st' ∧ c st' = false
  | 0, st, _, h, _ => absurd h (Nat.not_lt_zero _)
  | n + 1, st, hI, hm, h => by
    obtain ⟨h1, h2⟩ := h st hI
    rw [whR, h1, Rs.bind_ok]
    cases e : c st with
    | false => exact ⟨st, rfl, hI, e⟩
    | true =>
      obtain ⟨st1, e1, i1, m1⟩ := h2 e
      obtain ⟨st2, e2, q⟩ := wh_inv I m c n st1 i1 (by omega) h
      exact ⟨st2, by simp only [if_true, e1, Rs.bind_ok]; exact e2, q⟩
section
variable {T : Tab} {k : Nat} {s : Sto}
theorem s_made (h : H_made T) (hk : 1 ≤ k) {z a : Nat} {R : List (List Nat)} {d : D} (hd : ∀ s, seqR d s = .ok (R.map tN) s) (hz : z ≤ 1000000) (a1 : 1 ≤ a) (hv : Valid z a R) (h64 : R.length < 64) : callF T k 45 [nat a, d] s = .ok (eRel a (srtN (R.foldl addN []))) s := by
  obtain ⟨k, rfl, hj⟩ := lv hk
  rw [call_made h.f]
  have h1 : Sc_made_1 (clOf T k) d s = .ok (lR (srtN (R.foldl addN []))) s := by
    simp only [Sc_made_1, hd, Rs.bind_ok]
    exact ssortR_rows hz a1 hv h64 fun r _ => rfl
  simp only [S_made, B_made, h1, Rs.bind_ok, tuple_lR, tup2_ok, retK_rt]
  rfl
theorem s_closed (h : H_closed T) (hk : 4 ≤ k) {z n a : Nat} {tbl : List Nat} {R S : List (List Nat)} (o : IsOp z n tbl) (hn : n ≤ 6) (r : IsRel z a R) (hS : ∀ q ∈ R, q ∈ S) (hC : Clo z n a tbl S) (h8 : S.length ≤ 8) (hL : Least z n a tbl R S) (hN : S.Nodup) :
    callF T k 46 [nat z, eOp n tbl, eRel a R] s = .ok (eRel a (srtN S)) s := by
  obtain ⟨k, rfl, hj⟩ := lv hk
  rw [call_closed h.f]
  have n1 := o.n1
  have n8 := o.n8
  have a4 := r.a4
  have r8 : R.length ≤ 8 := Nat.le_trans ((lt_nodup r.asc).length_le_of_subset hS) h8
  have h1 : Sc_closed_1 (clOf T k) (eRel a R) s = .ok (dR R) s := by
    simp only [Sc_closed_1, sub_rel1, Rs.bind_ok, seq_tR]
    rw [dct_rows (by omega) fun q _ => rfl, fold_app R [] (by simpa using lt_nodup r.asc)]
    rfl
  let I : D × D → Prop := fun st => ∃ K F, st = (dR K, lR F) ∧ K.Nodup ∧ Valid z a K ∧ (∀ q ∈ R, q ∈ K) ∧ (∀ q ∈ K, q ∈ S) ∧ (∀ t : List (List Nat), t.length = n → (∀ q ∈ t, q ∈ K) → (∀ q ∈ t, q ∉ F) → imgN z a tbl t ∈ K)
  let lenK : D → Nat := fun d => match d with
    | .dct _ ks _ => ks.length
    | _ => 0
  let empF : D → Bool := fun d => match d with
    | .lst xs => xs.isEmpty
    | _ => true
  have wl := wh_inv (s := s) (cond := L_closed_1_t (clOf T k) (nat z) (eOp n tbl) (eRel a R)) (step := L_closed_1 (clOf T k) (nat z) (eOp n tbl) (eRel a R)) I (fun st => 2 * (8 - lenK st.1) + (if empF st.2 then 0 else 1)) (fun st => !empF st.2) FUEL (dR R, lR R)
    ⟨R, R, rfl, lt_nodup r.asc, fun q hq => r.rows q hq, fun _ h => h, hS, fun t ht h1 h2 => by
      cases t with
      | nil => simp at ht; omega
      | cons x t => exact absurd (h1 x (by simp)) (h2 x (by simp))⟩
    (by
      have : (2 * (8 - lenK (dR R)) + (if empF (lR R) then 0 else 1)) ≤ 17 := by split <;> omega
      have f : 100 ≤ FUEL := by decide
      show 2 * (8 - lenK (dR R)) + (if empF (lR R) then 0 else 1) < FUEL
      omega)
    (by
      rintro st ⟨K, F, rfl, q1, q2, q3, q4, q5⟩
      have eF : empF (lR F) = F.isEmpty := by simp [empF, lR]
      refine ⟨?_, fun hne => ?_⟩
      · simp only [L_closed_1_t, Rs.bind_ok, lst0_ok]
        have := cmp_ne_lst0 (F.map tN) (by simp) s
        simp only [lR] at this ⊢
        rw [this]
        simp [empF]
      · have k8 : K.length ≤ 8 := Nat.le_trans (q1.length_le_of_subset q4) h8
        have tu := s_tuples_of h.tuples_of (show 1 ≤ k by omega) (d := lR K) (n := n) (fun s => seq_lR _ s) (by omega) (fun i hi => pow8 k8 hi hn) (s := s)
        have tm : ∀ t ∈ tuplesN K n, t.length = n ∧ ∀ r ∈ t, r ∈ K := fun t ht => tuplesN_mem.mp ht
        -- the rows found in this turn
        let g : List (List Nat) → List (List Nat) → List (List Nat) := fun L t => if t.any (fun q => decide (q ∈ F)) then laterN z a tbl K L t else L
        have gspec : ∀ (l : List (List (List Nat))) (L : List (List Nat)), (∀ t ∈ l, t.length = n ∧ ∀ r ∈ t, r ∈ K) → L.Nodup → Valid z a L → (∀ q ∈ L, q ∉ K) → (∀ q ∈ L, q ∈ S) →
            loopR (L_closed_2 (clOf T k) (nat z) (eOp n tbl) (eRel a R) (dR K) (lR F)) (l.map tR) (lR L) s = .ok (.nx (lR (l.foldl g L))) s ∧ (l.foldl g L).Nodup ∧ Valid z a (l.foldl g L) ∧ (∀ q ∈ l.foldl g L, q ∉ K) ∧ (∀ q ∈ l.foldl g L, q ∈ S) ∧ (∀ q ∈ L, q ∈ l.foldl g L) ∧
              (∀ t ∈ l, (∃ q ∈ t, q ∈ F) → imgN z a tbl t ∈ K ∨ imgN z a tbl t ∈ l.foldl g L) := by
          intro l
          induction l with
          | nil => exact fun L _ a1 a2 a3 a4 => ⟨rfl, a1, a2, a3, a4, fun _ h => h, by simp⟩
          | cons t l ih =>
            intro L hl a1 a2 a3 a5
            obtain ⟨t1, t2⟩ := hl t (by simp)
            have im := s_image_of h.image_of (show 3 ≤ k by omega) o t1 (fun r hr => q2 r (t2 r hr)) (show a ≤ 1000 by omega) (s := s)
            have iv := img_rows o t1 (fun r hr => q2 r (t2 r hr))
            have iS : imgN z a tbl t ∈ S := hC t t1 fun r hr => q4 r (t2 r hr)
            have hlen : L.length ≤ 8 := Nat.le_trans (a1.length_le_of_subset a5) h8
            have sc : Sc_closed_2 (clOf T k) (lR F) (tR t) s = .ok (.lst (t.map fun q => .bl (decide (q ∈ F)))) s := by
              simp only [Sc_closed_2, seq_tR, Rs.bind_ok]
              rw [map_ok (g := fun q => .bl (decide (q ∈ F))) (by omega)]
              intro q _
              simp
            have stepE : L_closed_2 (clOf T k) (nat z) (eOp n tbl) (eRel a R) (dR K) (lR F) (tR t) (lR L) s = .ok (.nx (lR (g L t))) s := by
              simp only [L_closed_2, sc, Rs.bind_ok, any_blP, truR_bl, run_clOf, im, nin_dR, nin_lR]
              simp only [g]
              by_cases c0 : t.any (fun q => decide (q ∈ F)) = true
              · simp only [c0, if_true]
                unfold laterN
                by_cases c1 : imgN z a tbl t ∈ K
                · simp [c1]
                · by_cases c2 : imgN z a tbl t ∈ L
                  · simp [c1, c2]
                  · have := app_ok (l := L.map tN) (tN (imgN z a tbl t)) (by rw [List.length_map]; omega)
                    simp only [lR] at this ⊢
                    simp [c1, c2, this]
              · simp only [c0, if_false]
                rfl
            have gm : (g L t).Nodup ∧ Valid z a (g L t) ∧ (∀ q ∈ g L t, q ∉ K) ∧ (∀ q ∈ g L t, q ∈ S) ∧ (∀ q ∈ L, q ∈ g L t) ∧ ((∃ q ∈ t, q ∈ F) → imgN z a tbl t ∈ K ∨ imgN z a tbl t ∈ g L t) := by
              simp only [g]
              by_cases c0 : t.any (fun q => decide (q ∈ F)) = true
              · simp only [c0, if_true]
                unfold laterN
                by_cases c : imgN z a tbl t ∉ K ∧ imgN z a tbl t ∉ L
                · simp only [if_pos c]
                  refine ⟨by
                    rw [List.nodup_append]
                    exact ⟨a1, by simp, fun p hp q hq e => c.2 (by simp at hq; rw [← hq, ← e]; exact hp)⟩, fun q hq => ?_, fun q hq => ?_, fun q hq => ?_, fun q hq => List.mem_append_left _ hq, fun _ => .inr (by simp)⟩
                  · rcases List.mem_append.mp hq with w | w
                    · exact a2 q w
                    · simp at w; subst w; exact iv
                  · rcases List.mem_append.mp hq with w | w
                    · exact a3 q w
                    · simp at w; subst w; exact c.1
                  · rcases List.mem_append.mp hq with w | w
                    · exact a5 q w
                    · simp at w; subst w; exact iS
                · simp only [if_neg c]
                  refine ⟨a1, a2, a3, a5, fun _ h => h, fun _ => ?_⟩
                  by_cases c1 : imgN z a tbl t ∈ K
                  · exact .inl c1
                  · exact .inr (Decidable.byContradiction fun c2 => c ⟨c1, c2⟩)
              · simp only [c0, if_false]
                refine ⟨a1, a2, a3, a5, fun _ h => h, fun ⟨q, hq, hF⟩ => ?_⟩
                exact absurd (List.any_eq_true.mpr ⟨q, hq, by simpa using hF⟩) c0
            obtain ⟨g1, g2, g3, g4, g5, g6⟩ := gm
            obtain ⟨i1, i2, i3, i4, i5, i6, i7⟩ := ih (g L t) (fun u hu => hl u (by simp [hu])) g1 g2 g3 g4
            refine ⟨by rw [List.map_cons, loopR, stepE, Rs.bind_ok]; exact i1, i2, i3, i4, i5, fun q hq => i6 q (g5 q hq), fun u hu hF => ?_⟩
            rcases List.mem_cons.mp hu with e | hu
            · subst e
              exact (g6 hF).imp id (i6 _)
            · exact i7 u hu hF
        obtain ⟨k3, f1, l2, f2, f3, _, f5⟩ := gspec (tuplesN K n) [] tm (by simp) (by simp [Valid]) (by simp) (by simp)
        generalize hLr : (tuplesN K n).foldl g [] = Lr at k3 f1 l2 f2 f3 f5
        have nd2 : (K ++ Lr).Nodup := by
          rw [List.nodup_append]
          exact ⟨q1, f1, fun p hp q hq e => f2 q hq (e ▸ hp)⟩
        have val2 : Valid z a (K ++ Lr) := fun r hr => (List.mem_append.mp hr).elim (q2 r) (l2 r)
        have sub2 : ∀ q ∈ K ++ Lr, q ∈ S := fun q hq => (List.mem_append.mp hq).elim (q4 q) (f3 q)
        have len2 : (K ++ Lr).length ≤ 8 := Nat.le_trans (nd2.length_le_of_subset sub2) h8
        obtain ⟨k4, _⟩ := loop_fold (s := s) (e := tN) (E := dR) (g := addN) (step := L_closed_3 (clOf T k) (nat z) (eOp n tbl) (eRel a R) (lR Lr)) (fun M => M.Nodup ∧ ∀ q ∈ M, q ∈ S) (l := Lr) (t := K) ⟨q1, q4⟩ fun q hq M hM => ⟨by
          have hl : M.length ≤ 8 := Nat.le_trans (hM.1.length_le_of_subset hM.2) h8
          simp only [L_closed_3, Rs.bind_ok, put_dR (show M.length + 1 ≤ 16777216 by omega), optK_some], addN_nodup hM.1 q, fun p hp => (addN_mem.mp hp).elim (hM.2 p) fun e => e ▸ f3 q hq⟩
        rw [fold_app Lr K nd2] at k4
        have e0 : (D.lst []) = lR [] := rfl
        refine ⟨(dR (K ++ Lr), lR Lr), ?_, ⟨K ++ Lr, Lr, rfl, nd2, val2, fun q hq => List.mem_append_left _ (q3 q hq), sub2, fun t t1 t2 t3 => ?_⟩, ?_⟩
        · simp only [L_closed_1, Rs.bind_ok, lst0_ok, list_dR, sub_op0, run_clOf, tu, seq_lT, e0, k3, o2K_nx, seq_lR, k4]
        · have tK : ∀ q ∈ t, q ∈ K := fun q hq => (List.mem_append.mp (t2 q hq)).elim id fun w => absurd w (t3 q hq)
          by_cases cF : ∃ q ∈ t, q ∈ F
          · rcases f5 t (tuplesN_mem.mpr ⟨t1, tK⟩) cF with w | w
            · exact List.mem_append_left _ w
            · exact List.mem_append_right _ w
          · exact List.mem_append_left _ (q5 t t1 tK fun q hq hF => cF ⟨q, hq, hF⟩)
        · have e1 : lenK (dR (K ++ Lr)) = K.length + Lr.length := by simp [lenK, dR]
          have e2 : lenK (dR K) = K.length := by simp [lenK, dR]
          have e3 : empF (lR Lr) = Lr.isEmpty := by simp [empF, lR]
          have hF : F.isEmpty = false := by rw [← eF]; simpa using hne
          rw [List.length_append] at len2
          simp only [e1, e2, e3, eF, hF]
          cases Lr with
          | nil => simp
          | cons x Lr => simp at len2 ⊢; omega)
  obtain ⟨st, e, ⟨K, F, rfl, q1, q2, q3, q4, q5⟩, hF⟩ := wl
  have hF : F = [] := by simpa [empF, lR] using hF
  subst hF
  have cK : Clo z n a tbl K := fun t t1 t2 => q5 t t1 t2 (by simp)
  have k8 : K.length ≤ 8 := Nat.le_trans (q1.length_le_of_subset q4) h8
  have md := s_made h.made (show 1 ≤ k by omega) (z := z) (a := a) (R := K) (d := lR K) (fun s => seq_lR _ s) (by have := o.z4; omega) r.a1 q2 (by omega) (s := s)
  rw [fold_app K [] (by simpa using q1), List.nil_append] at md
  have same : srtN K = srtN S := asc_uniq (srtN_lt q1) (srtN_lt hN) fun q => by
    rw [srtN_mem, srtN_mem]
    exact ⟨q4 q, hL K q3 cK q⟩
  rw [same] at md
  simp only [S_closed, B_closed, h1, Rs.bind_ok, sub_rel1, sub_rel0, list_tR, e, o2K_nx, list_dR, run_clOf, md, retK_rt]
theorem s_closure (h : H_closure T) (hk : 7 ≤ k) {z n a : Nat} {tbl : List Nat} {R S : List (List Nat)} (o : IsOp z n tbl) (hn : n ≤ 6) (r : IsRel z a R) (hS : ∀ q ∈ R, q ∈ S) (hC : Clo z n a tbl S) (h8 : S.length ≤ 8) (hL : Least z n a tbl R S) (hN : S.Nodup) :
    callF T k 47 [nat z, eOp n tbl, eRel a R] s = .ok (eRel a (srtN S)) s := by
  obtain ⟨k, rfl, hj⟩ := lv hk
  rw [call_closure h.f]
  simp [S_closure, B_closure, s_need_size h.need_size (show 3 ≤ k by omega) o.z1 o.z4, s_need_operation h.need_operation (show 5 ≤ k by omega) o, s_need_relation h.need_relation hj ⟨o.z1, o.z4⟩ r, s_closed h.closed (show 4 ≤ k by omega) o hn r hS hC h8 hL hN]
end
end Mi
namespace Mi
open PySem PySem.Spec
def b_is_edge : CSs :=
  (.cons (.ite (.or (.cons (.not (.val (.isi (.var 1) [.tuple] true))) (.cons (.val (.cmp .NotEq (.bfn .len (.cons (.var 1) .nil)) (.cint 2))) (.cons (.not (.val (.call 1 (.cons (.sub (.var 1) (.cint 0)) (.cons (.cint 0) (.cons (.bin .Sub (.var 0) (.cint 1)) .nil)))))) .nil))))
    (.cons (.ret (.cbl false))
    .nil)
    .nil)
    (.cons (.ret (.call 1 (.cons (.sub (.var 1) (.cint 1)) (.cons (.sub (.var 1) (.cint 0)) (.cons (.bin .Sub (.var 0) (.cint 1)) .nil)))))
    .nil))
def F_is_edge : Fn := ⟨2, 2, false, b_is_edge⟩
def B_is_edge (C : Cl) (size0 value1 : D) (s : Sto) : Rs (O3 Unit) := (((((isiR [.tuple] value1 s).bind fun x_5 s_6 => (truR x_5 s_6)).bind fun b_3 s_4 => Rs.ok (!b_3) s_4).bind fun b_1 s_2 => if b_1 then Rs.ok true s_2 else (((((Rs.ok [value1] s_2).bind (bfnR .len)).bind fun x_11 s_12 => (cmpR .NotEq x_11 (nat 2) s_12)).bind fun x_9 s_10 => (truR x_9 s_10)).bind fun b_7 s_8 => if b_7 then Rs.ok true s_8 else ((((((subR value1 (nat 0) s_8).bind fun x_19 s_20 => ((((binR .Sub size0 (nat 1) s_20).bind fun x_21 s_22 => Rs.ok [x_21] s_22).bind fun xs_23 s_24 => Rs.ok ((nat 0) :: xs_23) s_24).bind fun xs_25 s_26 => Rs.ok (x_19 :: xs_25) s_26)).bind (C.run 1)).bind fun x_17 s_18 => (truR x_17 s_18)).bind fun b_15 s_16 => Rs.ok (!b_15) s_16).bind fun b_13 s_14 => if b_13 then Rs.ok true s_14 else (Rs.ok false s_14)))).bind fun b_79 s_53 => if b_79 then ((Rs.ok (D.bl false) s_53).bind fun d_55 s_56 => Rs.ok (O3.rt d_55) s_56) else ((((subR value1 (nat 1) s_53).bind fun x_59 s_60 => (((subR value1 (nat 0) s_60).bind fun x_61 s_62 => (((binR .Sub size0 (nat 1) s_62).bind fun x_63 s_64 => Rs.ok [x_63] s_64).bind fun xs_65 s_66 => Rs.ok (x_61 :: xs_65) s_66)).bind fun xs_67 s_68 => Rs.ok (x_59 :: xs_67) s_68)).bind (C.run 1)).bind fun d_57 s_58 => Rs.ok (O3.rt d_57) s_58))
def S_is_edge (C : Cl) (size0 value1 : D) (s : Sto) : Rs D := retK (B_is_edge C size0 value1 s)
theorem sim_is_edge (C : Cl) (size0 value1 : D) (s : Sto) : Sim false (fun _ _ => True) (evSs C b_is_edge [some (false, size0), some (false, value1)] s) (B_is_edge C size0 value1 s) := (sim_ite rfl (fun s_53 => (show Sim _ _ (evSs C _ [some (false, size0), some (false, value1)] s_53) _ from (sim_ret rfl rfl (fun z => nomatch z)))) (fun s_53 => (show Sim _ _ (evSs C _ [some (false, size0), some (false, value1)] s_53) _ from (sim_ret rfl rfl (fun z => nomatch z)))))
theorem call_is_edge {T : Tab} (h : T 58 = some F_is_edge) (k : Nat) (size0 value1 : D) (s : Sto) : callF T (k + 1) 58 [size0, value1] s = S_is_edge (clOf T k) size0 value1 s := call_sim h rfl (sim_is_edge (clOf T k) size0 value1 s)
structure H_is_edge (T : Tab) : Prop where
  f : T 58 = some F_is_edge
  is_in : H_is_in T
end Mi
namespace Mi
open PySem PySem.Spec
def c_need_graph_1 : CE :=
  (.comp (.nm 3) (.seq (.var 1)) .nil (.call 58 (.cons (.var 0) (.cons (.var 3) .nil))) [3])
def c_need_graph_2 : CE :=
  (.comp (.nm 2) (.range2 (.cint 1) (.bfn .len (.cons (.var 1) .nil))) .nil (.cmp .Lt (.sub (.var 1) (.bin .Sub (.var 2) (.cint 1))) (.sub (.var 1) (.var 2))) [2])
def b_need_graph : CSs :=
  (.cons (.expr (.call 2 (.cons (.var 0) .nil)))
    (.cons (.ite (.or (.cons (.not (.val (.isi (.var 1) [.tuple] true))) (.cons (.not (.val (.bfn .all (.cons c_need_graph_1 .nil)))) .nil)))
    (.cons (.raise 9 .nil)
    .nil)
    .nil)
    (.cons (.ite (.not (.val (.bfn .all (.cons c_need_graph_2 .nil))))
    (.cons (.raise 9 .nil)
    .nil)
    .nil)
    .nil)))
def F_need_graph : Fn := ⟨2, 4, false, b_need_graph⟩
def Sc_need_graph_1 (C : Cl) (size0 : D) (value1 : D) (s : Sto) : Rs D := ((seqR value1 s).bind (mapR fun x s => ((Rs.ok [size0, x] s).bind (C.run 58))))
theorem e_c_need_graph_1 (C : Cl) (size0 : D) (value1 : D) (s : Sto) : evE C c_need_graph_1 [some (false, size0), some (false, value1), none, none] s = Sc_need_graph_1 C size0 value1 s := comp_sh rfl fun x s => rfl
def Sc_need_graph_2 (C : Cl) (value1 : D) (s : Sto) : Rs D := ((((Rs.ok [value1] s).bind (bfnR .len)).bind fun x_1 s_2 => (rng2R (nat 1) x_1 s_2)).bind (mapR fun x s => (((binR .Sub x (nat 1) s).bind fun x_7 s_8 => (subR value1 x_7 s_8)).bind fun x_5 s_6 => ((subR value1 x s_6).bind fun x_9 s_10 => (cmpR .Lt x_5 x_9 s_10)))))
theorem e_c_need_graph_2 (C : Cl) (size0 : D) (value1 : D) (s : Sto) : evE C c_need_graph_2 [some (false, size0), some (false, value1), none, none] s = Sc_need_graph_2 C value1 s := comp_sh rfl fun x s => rfl
def B_need_graph (C : Cl) (size0 value1 : D) (s : Sto) : Rs (O3 Unit) := (((Rs.ok [size0] s).bind (C.run 2)).bind fun _ s_1 => (((((isiR [.tuple] value1 s_1).bind fun x_7 s_8 => (truR x_7 s_8)).bind fun b_5 s_6 => Rs.ok (!b_5) s_6).bind fun b_3 s_4 => if b_3 then Rs.ok true s_4 else ((((((Sc_need_graph_1 C size0 value1 s_4).bind fun x_15 s_16 => Rs.ok [x_15] s_16).bind (bfnR .all)).bind fun x_13 s_14 => (truR x_13 s_14)).bind fun b_11 s_12 => Rs.ok (!b_11) s_12).bind fun b_9 s_10 => if b_9 then Rs.ok true s_10 else (Rs.ok false s_10))).bind fun b_52 s_31 => if b_52 then ((Rs.ok [] s_31).bind fun xs_33 s_34 => Rs.exc 9 xs_33 s_34) else ((((((Sc_need_graph_2 C value1 s_31).bind fun x_39 s_40 => Rs.ok [x_39] s_40).bind (bfnR .all)).bind fun x_37 s_38 => (truR x_37 s_38)).bind fun b_35 s_36 => Rs.ok (!b_35) s_36).bind fun b_51 s_47 => if b_51 then ((Rs.ok [] s_47).bind fun xs_49 s_50 => Rs.exc 9 xs_49 s_50) else (Rs.ok (O3.nx ()) s_47))))
def S_need_graph (C : Cl) (size0 value1 : D) (s : Sto) : Rs D := retK (B_need_graph C size0 value1 s)
theorem sim_need_graph (C : Cl) (size0 value1 : D) (s : Sto) : Sim false (fun _ _ => True) (evSs C b_need_graph [some (false, size0), some (false, value1), none, none] s) (B_need_graph C size0 value1 s) := (sim_expr rfl fun s_1 => (show Sim _ _ (evSs C _ [some (false, size0), some (false, value1), none, none] s_1) _ from (sim_ite (by show ((((isiR [.tuple] value1 s_1).bind fun x_21 s_22 => (truR x_21 s_22)).bind fun b_19 s_20 => Rs.ok (!b_19) s_20).bind fun b_17 s_18 => if b_17 then Rs.ok true s_18 else ((((((evE C c_need_graph_1 [some (false, size0), some (false, value1), none, none] s_18).bind fun x_29 s_30 => Rs.ok [x_29] s_30).bind (bfnR .all)).bind fun x_27 s_28 => (truR x_27 s_28)).bind fun b_25 s_26 => Rs.ok (!b_25) s_26).bind fun b_23 s_24 => if b_23 then Rs.ok true s_24 else (Rs.ok false s_24))) = _; simp only [e_c_need_graph_1]) (fun s_31 => (show Sim _ _ (evSs C _ [some (false, size0), some (false, value1), none, none] s_31) _ from (sim_raise rfl rfl))) (fun s_31 => (show Sim _ _ (evSs C _ [some (false, size0), some (false, value1), none, none] s_31) _ from (sim_ite (by show (((((evE C c_need_graph_2 [some (false, size0), some (false, value1), none, none] s_31).bind fun x_45 s_46 => Rs.ok [x_45] s_46).bind (bfnR .all)).bind fun x_43 s_44 => (truR x_43 s_44)).bind fun b_41 s_42 => Rs.ok (!b_41) s_42) = _; simp only [e_c_need_graph_2]) (fun s_47 => (show Sim _ _ (evSs C _ [some (false, size0), some (false, value1), none, none] s_47) _ from (sim_raise rfl rfl))) (fun s_47 => (show Sim _ _ (evSs C _ [some (false, size0), some (false, value1), none, none] s_47) _ from (sim_nil trivial)))))))))
theorem call_need_graph {T : Tab} (h : T 59 = some F_need_graph) (k : Nat) (size0 value1 : D) (s : Sto) : callF T (k + 1) 59 [size0, value1] s = S_need_graph (clOf T k) size0 value1 s := call_sim h rfl (sim_need_graph (clOf T k) size0 value1 s)
structure H_need_graph (T : Tab) : Prop where
  f : T 59 = some F_need_graph
  need_size : H_need_size T
  is_edge : H_is_edge T
end Mi
namespace Mi
open PySem PySem.Spec
def c_neighbours_1 : CE :=
  (.comp (.tp (.cons (.nm 4) (.cons (.nm 5) .nil))) (.seq (.var 0)) (.cons (.val (.cmp .Eq (.var 4) (.var 1))) .nil) (.var 5) [4, 5])
def c_neighbours_2 : CE :=
  (.comp (.tp (.cons (.nm 4) (.cons (.nm 5) .nil))) (.seq (.var 0)) (.cons (.val (.cmp .Eq (.var 5) (.var 1))) .nil) (.var 4) [4, 5])
def c_neighbours_3 : CE :=
  (.ssort (.nm 3) (.seq (.var 2)) (.var 3) [3])
def b_neighbours : CSs :=
  (.cons (.asg (.nm 2) (.bin .Add c_neighbours_1 c_neighbours_2))
    (.cons (.ret c_neighbours_3)
    .nil))
def F_neighbours : Fn := ⟨2, 6, true, b_neighbours⟩
def Sc_neighbours_1 (C : Cl) (edges0 : D) (node1 : D) (s : Sto) : Rs D := ((seqR edges0 s).bind (filR fun x s => (tup2 x fun a_1 b_2 => (keepR ((cmpR .Eq a_1 node1 s).bind fun x_3 s_4 => (truR x_3 s_4)) fun s => (Rs.ok b_2 s)))))
theorem e_c_neighbours_1 (C : Cl) (edges0 : D) (node1 : D) (s : Sto) : evE C c_neighbours_1 [some (false, edges0), some (false, node1), none, none, none, none] s = Sc_neighbours_1 C edges0 node1 s := compf_sh rfl fun x s => (bt_2 fun a_5 b_6 => rfl)
def Sc_neighbours_2 (C : Cl) (edges0 : D) (node1 : D) (s : Sto) : Rs D := ((seqR edges0 s).bind (filR fun x s => (tup2 x fun a_1 b_2 => (keepR ((cmpR .Eq b_2 node1 s).bind fun x_3 s_4 => (truR x_3 s_4)) fun s => (Rs.ok a_1 s)))))
theorem e_c_neighbours_2 (C : Cl) (edges0 : D) (node1 : D) (s : Sto) : evE C c_neighbours_2 [some (false, edges0), some (false, node1), none, none, none, none] s = Sc_neighbours_2 C edges0 node1 s := compf_sh rfl fun x s => (bt_2 fun a_5 b_6 => rfl)
def Sc_neighbours_3 (C : Cl) (found2 : D) (s : Sto) : Rs D := ((seqR found2 s).bind (ssortR fun x s => (Rs.ok x s)))
theorem e_c_neighbours_3 (C : Cl) (edges0 : D) (node1 : D) (found2 : D) (s : Sto) : evE C c_neighbours_3 [some (false, edges0), some (false, node1), some (false, found2), none, none, none] s = Sc_neighbours_3 C found2 s := ssort_sh rfl fun x s => rfl
def B_neighbours (C : Cl) (edges0 node1 : D) (s : Sto) : Rs (O3 Unit) := (((Sc_neighbours_1 C edges0 node1 s).bind fun x_3 s_4 => ((Sc_neighbours_2 C edges0 node1 s_4).bind fun x_5 s_6 => (binR .Add x_3 x_5 s_6))).bind fun found_1 s_2 => ((Sc_neighbours_3 C found_1 s_2).bind fun d_11 s_12 => Rs.ok (O3.rt d_11) s_12))
def S_neighbours (C : Cl) (edges0 node1 : D) (s : Sto) : Rs D := retK (B_neighbours C edges0 node1 s)
theorem sim_neighbours (C : Cl) (edges0 node1 : D) (s : Sto) : Sim true (fun _ _ => True) (evSs C b_neighbours [some (false, edges0), some (false, node1), none, none, none, none] s) (B_neighbours C edges0 node1 s) := (sim_asg (by show ((evE C c_neighbours_1 [some (false, edges0), some (false, node1), none, none, none, none] s).bind fun x_7 s_8 => ((evE C c_neighbours_2 [some (false, edges0), some (false, node1), none, none, none, none] s_8).bind fun x_9 s_10 => (binR .Add x_7 x_9 s_10))) = _; simp only [e_c_neighbours_1, e_c_neighbours_2]) rfl (show 2 < 6 from by decide) fun found_1 s_2 => (show Sim _ _ (evSs C _ [some (false, edges0), some (false, node1), some (false, found_1), none, none, none] s_2) _ from (sim_ret (by show (evE C c_neighbours_3 [some (false, edges0), some (false, node1), some (false, found_1), none, none, none] s_2) = _; simp only [e_c_neighbours_3]) rfl (fun _ => rfl))))
theorem call_neighbours {T : Tab} (h : T 60 = some F_neighbours) (k : Nat) (edges0 node1 : D) (s : Sto) : callF T (k + 1) 60 [edges0, node1] s = S_neighbours (clOf T k) edges0 node1 s := call_sim h rfl (sim_neighbours (clOf T k) edges0 node1 s)
structure H_neighbours (T : Tab) : Prop where
  f : T 60 = some F_neighbours
end Mi
namespace Mi
open PySem PySem.Spec
def c_shows_odd_walk_1 : CE :=
  (.comp (.nm 4) (.seq (.var 2)) .nil (.call 1 (.cons (.var 4) (.cons (.cint 0) (.cons (.bin .Sub (.var 0) (.cint 1)) .nil)))) [4])
def c_shows_odd_walk_2 : CE :=
  (.comp (.nm 3) (.range2 (.cint 1) (.bfn .len (.cons (.var 2) .nil))) .nil (.cmp .In (.sub (.var 2) (.var 3)) (.call 60 (.cons (.var 1) (.cons (.sub (.var 2) (.bin .Sub (.var 3) (.cint 1))) .nil)))) [3])
def b_shows_odd_walk : CSs :=
  (.cons (.expr (.call 59 (.cons (.var 0) (.cons (.var 1) .nil))))
    (.cons (.ite (.or (.cons (.not (.val (.isi (.var 2) [.tuple] true))) (.cons (.val (.cmp .Lt (.bfn .len (.cons (.var 2) .nil)) (.cint 2))) (.cons (.val (.cmp .Eq (.bin .Mod (.bfn .len (.cons (.var 2) .nil)) (.cint 2)) (.cint 1))) (.cons (.val (.cmp .NotEq (.sub (.var 2) (.cint 0)) (.sub (.var 2) (.neg (.cint 1))))) .nil)))))
    (.cons (.ret (.cbl false))
    .nil)
    .nil)
    (.cons (.ite (.not (.val (.bfn .all (.cons c_shows_odd_walk_1 .nil))))
    (.cons (.ret (.cbl false))
    .nil)
    .nil)
    (.cons (.ret (.bfn .all (.cons c_shows_odd_walk_2 .nil)))
    .nil))))
def F_shows_odd_walk : Fn := ⟨3, 5, false, b_shows_odd_walk⟩
def Sc_shows_odd_walk_1 (C : Cl) (size0 : D) (value2 : D) (s : Sto) : Rs D := ((seqR value2 s).bind (mapR fun x s => (((((binR .Sub size0 (nat 1) s).bind fun x_1 s_2 => Rs.ok [x_1] s_2).bind fun xs_3 s_4 => Rs.ok ((nat 0) :: xs_3) s_4).bind fun xs_5 s_6 => Rs.ok (x :: xs_5) s_6).bind (C.run 1))))
theorem e_c_shows_odd_walk_1 (C : Cl) (size0 : D) (edges1 : D) (value2 : D) (s : Sto) : evE C c_shows_odd_walk_1 [some (false, size0), some (false, edges1), some (false, value2), none, none] s = Sc_shows_odd_walk_1 C size0 value2 s := comp_sh rfl fun x s => rfl
def Sc_shows_odd_walk_2 (C : Cl) (edges1 : D) (value2 : D) (s : Sto) : Rs D := ((((Rs.ok [value2] s).bind (bfnR .len)).bind fun x_1 s_2 => (rng2R (nat 1) x_1 s_2)).bind (mapR fun x s => ((subR value2 x s).bind fun x_5 s_6 => ((((((binR .Sub x (nat 1) s_6).bind fun x_11 s_12 => (subR value2 x_11 s_12)).bind fun x_9 s_10 => Rs.ok [x_9] s_10).bind fun xs_13 s_14 => Rs.ok (edges1 :: xs_13) s_14).bind (C.run 60)).bind fun x_7 s_8 => (cmpR .In x_5 x_7 s_8)))))
theorem e_c_shows_odd_walk_2 (C : Cl) (size0 : D) (edges1 : D) (value2 : D) (s : Sto) : evE C c_shows_odd_walk_2 [some (false, size0), some (false, edges1), some (false, value2), none, none] s = Sc_shows_odd_walk_2 C edges1 value2 s := comp_sh rfl fun x s => rfl
def B_shows_odd_walk (C : Cl) (size0 edges1 value2 : D) (s : Sto) : Rs (O3 Unit) := (((Rs.ok [size0, edges1] s).bind (C.run 59)).bind fun _ s_1 => (((((isiR [.tuple] value2 s_1).bind fun x_7 s_8 => (truR x_7 s_8)).bind fun b_5 s_6 => Rs.ok (!b_5) s_6).bind fun b_3 s_4 => if b_3 then Rs.ok true s_4 else (((((Rs.ok [value2] s_4).bind (bfnR .len)).bind fun x_13 s_14 => (cmpR .Lt x_13 (nat 2) s_14)).bind fun x_11 s_12 => (truR x_11 s_12)).bind fun b_9 s_10 => if b_9 then Rs.ok true s_10 else ((((((Rs.ok [value2] s_10).bind (bfnR .len)).bind fun x_21 s_22 => (binR .Mod x_21 (nat 2) s_22)).bind fun x_19 s_20 => (cmpR .Eq x_19 (nat 1) s_20)).bind fun x_17 s_18 => (truR x_17 s_18)).bind fun b_15 s_16 => if b_15 then Rs.ok true s_16 else ((((subR value2 (nat 0) s_16).bind fun x_27 s_28 => (((negR (nat 1) s_28).bind fun x_31 s_32 => (subR value2 x_31 s_32)).bind fun x_29 s_30 => (cmpR .NotEq x_27 x_29 s_30))).bind fun x_25 s_26 => (truR x_25 s_26)).bind fun b_23 s_24 => if b_23 then Rs.ok true s_24 else (Rs.ok false s_24))))).bind fun b_90 s_63 => if b_90 then ((Rs.ok (D.bl false) s_63).bind fun d_65 s_66 => Rs.ok (O3.rt d_65) s_66) else ((((((Sc_shows_odd_walk_1 C size0 value2 s_63).bind fun x_71 s_72 => Rs.ok [x_71] s_72).bind (bfnR .all)).bind fun x_69 s_70 => (truR x_69 s_70)).bind fun b_67 s_68 => Rs.ok (!b_67) s_68).bind fun b_89 s_79 => if b_89 then ((Rs.ok (D.bl false) s_79).bind fun d_81 s_82 => Rs.ok (O3.rt d_81) s_82) else ((((Sc_shows_odd_walk_2 C edges1 value2 s_79).bind fun x_85 s_86 => Rs.ok [x_85] s_86).bind (bfnR .all)).bind fun d_83 s_84 => Rs.ok (O3.rt d_83) s_84))))
def S_shows_odd_walk (C : Cl) (size0 edges1 value2 : D) (s : Sto) : Rs D := retK (B_shows_odd_walk C size0 edges1 value2 s)
theorem sim_shows_odd_walk (C : Cl) (size0 edges1 value2 : D) (s : Sto) : Sim false (fun _ _ => True) (evSs C b_shows_odd_walk [some (false, size0), some (false, edges1), some (false, value2), none, none] s) (B_shows_odd_walk C size0 edges1 value2 s) := (sim_expr rfl fun s_1 => (show Sim _ _ (evSs C _ [some (false, size0), some (false, edges1), some (false, value2), none, none] s_1) _ from (sim_ite rfl (fun s_63 => (show Sim _ _ (evSs C _ [some (false, size0), some (false, edges1), some (false, value2), none, none] s_63) _ from (sim_ret rfl rfl (fun z => nomatch z)))) (fun s_63 => (show Sim _ _ (evSs C _ [some (false, size0), some (false, edges1), some (false, value2), none, none] s_63) _ from (sim_ite (by show (((((evE C c_shows_odd_walk_1 [some (false, size0), some (false, edges1), some (false, value2), none, none] s_63).bind fun x_77 s_78 => Rs.ok [x_77] s_78).bind (bfnR .all)).bind fun x_75 s_76 => (truR x_75 s_76)).bind fun b_73 s_74 => Rs.ok (!b_73) s_74) = _; simp only [e_c_shows_odd_walk_1]) (fun s_79 => (show Sim _ _ (evSs C _ [some (false, size0), some (false, edges1), some (false, value2), none, none] s_79) _ from (sim_ret rfl rfl (fun z => nomatch z)))) (fun s_79 => (show Sim _ _ (evSs C _ [some (false, size0), some (false, edges1), some (false, value2), none, none] s_79) _ from (sim_ret (by show (((evE C c_shows_odd_walk_2 [some (false, size0), some (false, edges1), some (false, value2), none, none] s_79).bind fun x_87 s_88 => Rs.ok [x_87] s_88).bind (bfnR .all)) = _; simp only [e_c_shows_odd_walk_2]) rfl (fun z => nomatch z))))))))))
theorem call_shows_odd_walk {T : Tab} (h : T 61 = some F_shows_odd_walk) (k : Nat) (size0 edges1 value2 : D) (s : Sto) : callF T (k + 1) 61 [size0, edges1, value2] s = S_shows_odd_walk (clOf T k) size0 edges1 value2 s := call_sim h rfl (sim_shows_odd_walk (clOf T k) size0 edges1 value2 s)
structure H_shows_odd_walk (T : Tab) : Prop where
  f : T 61 = some F_shows_odd_walk
  is_in : H_is_in T
  need_graph : H_need_graph T
  neighbours : H_neighbours T
end Mi
/-! B9: graphs: edges, neighbours, odd walks. -/
namespace Mi
open PySem PySem.Spec
def eD (e : Nat × Nat) : D := .tup [nat e.1, nat e.2]
def tE (E : List (Nat × Nat)) : D := .tup (E.map eD)
@[simp] theorem seq_tE (E : List (Nat × Nat)) (s : Sto) : seqR (tE E) s = .ok (E.map eD) s := rfl
@[simp] theorem sub_e0 (e : Nat × Nat) (s : Sto) : subR (eD e) (nat 0) s = .ok (nat e.1) s := sub_tup rfl s
@[simp] theorem sub_e1 (e : Nat × Nat) (s : Sto) : subR (eD e) (nat 1) s = .ok (nat e.2) s := sub_tup rfl s
def rowE (e : Nat × Nat) : List Nat := [e.1, e.2]
theorem eD_row (e : Nat × Nat) : eD e = tN (rowE e) := rfl
/-- a graph -/
structure IsG (z : Nat) (E : List (Nat × Nat)) : Prop where
  few : E.length ≤ 16
  ok : ∀ e ∈ E, e.1 ≤ e.2 ∧ e.2 < z
  asc : E.Pairwise fun a b => rowE a < rowE b
/-- joined -/
def joinN (E : List (Nat × Nat)) (u v : Nat) : Bool := decide ((u, v) ∈ E ∨ (v, u) ∈ E)
section
variable {T : Tab} {k : Nat} {s : Sto}
theorem s_is_edge (h : H_is_edge T) (hk : 3 ≤ k) {z : Nat} {e : Nat × Nat} (h1 : e.1 ≤ e.2) (h2 : e.2 < z) : callF T k 58 [nat z, eD e] s = .ok (.bl true) s := by
  obtain ⟨k, rfl, hj⟩ := lv hk
  rw [call_is_edge h.f]
  have z1 : 1 ≤ z := by omega
  have i1 := s_is_in1 h.is_in hj (n := e.1) (a := 0) z1 (s := s)
  have i2 := s_is_in1 h.is_in hj (n := e.2) (a := e.1) z1 (s := s)
  rw [decide_eq_true ⟨Nat.zero_le _, by omega⟩] at i1
  rw [decide_eq_true ⟨h1, h2⟩] at i2
  have it : isiR [.tuple] (eD e) s = .ok (.bl true) s := by simp [eD]
  have ln : bfnR .len [eD e] s = .ok (nat 2) s := rfl
  simp only [S_is_edge, B_is_edge, it, ln, Rs.bind_ok, truR_bl, Bool.not_true, Bool.false_eq_true, if_false, cmp_ne, decide_true, sub_e0, sub_e1, bin_sub, run_clOf]
  have c1 : ((1 : Nat) : Int) = 1 := rfl
  rw [c1, i1]
  simp only [Rs.bind_ok, truR_bl, Bool.not_true, Bool.false_eq_true, if_false, i2, retK_rt]
theorem s_need_graph (h : H_need_graph T) (hk : 4 ≤ k) {z : Nat} {E : List (Nat × Nat)} (hz : 1 ≤ z ∧ z ≤ 4) (g : IsG z E) : callF T k 59 [nat z, tE E] s = .ok .non s := by
  obtain ⟨k, rfl, hj⟩ := lv hk
  rw [call_need_graph h.f]
  have few := g.few
  have h1 : Sc_need_graph_1 (clOf T k) (nat z) (tE E) s = .ok (.lst (E.map fun _ => .bl true)) s := by
    simp only [Sc_need_graph_1, seq_tE, Rs.bind_ok, run_clOf]
    rw [map_ok (g := fun _ => .bl true) (by omega)]
    intro e he
    exact s_is_edge h.is_edge hj (g.ok e he).1 (g.ok e he).2
  have ln : bfnR .len [tE E] s = .ok (nat E.length) s := by simp [tE]
  have sE : ∀ i (hi : i < E.length), subR (tE E) (nat i) s = .ok (eD E[i]) s := fun i hi => sub_tm (List.getElem?_eq_getElem hi) s
  have h2 : Sc_need_graph_2 (clOf T k) (tE E) s = .ok (.lst ((List.range' 1 (E.length - 1)).map fun _ => .bl true)) s := by
    simp only [Sc_need_graph_2, Rs.bind_ok, ln, rng2_nat (show 1 ≤ 1000000000 by decide) (show E.length ≤ 1000000000 by omega)]
    rw [map_ok (g := fun _ => .bl true) (by rw [List.length_range']; omega)]
    intro i hi
    have hi := List.mem_range'_1.mp hi
    have hi1 : i - 1 < E.length := by omega
    have hi2 : i < E.length := by omega
    rw [bin_subN hi.1]
    simp only [Rs.bind_ok, sE _ hi1, sE _ hi2, eD_row, cmp_lt_tN]
    congr 2
    exact decide_eq_true (List.pairwise_iff_getElem.mp g.asc (i - 1) i hi1 hi2 (by omega))
  have it : isiR [.tuple] (tE E) s = .ok (.bl true) s := by simp [tE]
  have al1 : E.all (fun _ => true) = true := by simp
  have al2 : (List.range' 1 (E.length - 1)).all (fun _ => true) = true := by simp
  simp only [S_need_graph, B_need_graph, Rs.bind_ok, run_clOf, s_need_size h.need_size (show 3 ≤ k by omega) hz.1 hz.2, it, truR_bl, Bool.not_true, Bool.false_eq_true, if_false, h1, h2, all_blP, al1, al2, retK_nx]
/-- the neighbours, in order -/
def nbN (E : List (Nat × Nat)) (u : Nat) : List Nat := (E.filter fun e => decide (e.1 = u)).map (·.2) ++ (E.filter fun e => decide (e.2 = u)).map (·.1)
theorem nbN_mem {E : List (Nat × Nat)} {u v : Nat} : v ∈ nbN E u ↔ joinN E u v = true := by
  simp only [nbN, joinN, List.mem_append, List.mem_map, List.mem_filter, decide_eq_true_eq]
  constructor
  · rintro (⟨⟨a, b⟩, ⟨h, e⟩, rfl⟩ | ⟨⟨a, b⟩, ⟨h, e⟩, rfl⟩)
    · simp only at e; subst e; exact .inl h
    · simp only at e; subst e; exact .inr h
  · rintro (h | h)
    · exact .inl ⟨(u, v), ⟨h, rfl⟩, rfl⟩
    · exact .inr ⟨(v, u), ⟨h, rfl⟩, rfl⟩
theorem fold_mem_nat : ∀ (ks : List Nat) (ns : List D), (∀ d ∈ ns, ∃ n : Nat, d = nat n) → (∀ d ∈ (ks.map nat).foldl addD ns, ∃ n : Nat, d = nat n) ∧ ∀ v : Nat, nat v ∈ (ks.map nat).foldl addD ns ↔ nat v ∈ ns ∨ v ∈ ks
  | [], ns, h => ⟨h, by simp⟩
  | k :: ks, ns, h => by
    have step : (∀ d ∈ addD ns (nat k), ∃ n : Nat, d = nat n) ∧ ∀ v : Nat, nat v ∈ addD ns (nat k) ↔ nat v ∈ ns ∨ v = k := by
      unfold addD
      by_cases c : (ns.any fun z => D.eqv z (nat k)) = true
      · rw [if_pos c]
        refine ⟨h, fun v => ⟨.inl, fun q => q.elim id fun e => ?_⟩⟩
        obtain ⟨z, hz, e2⟩ := List.any_eq_true.mp c
        obtain ⟨n, rfl⟩ := h z hz
        rw [eqv_nat] at e2
        rw [e, ← of_decide_eq_true e2]; exact hz
      · rw [if_neg c]
        refine ⟨fun d hd => (List.mem_append.mp hd).elim (h d) fun e => ⟨k, by simpa using e⟩, fun v => ?_⟩
        rw [List.mem_append, List.mem_singleton, nat_inj]
    obtain ⟨i1, i2⟩ := fold_mem_nat ks _ step.1
    refine ⟨i1, fun v => ?_⟩
    rw [List.map_cons, List.foldl_cons, i2, step.2]
    simp [or_assoc]
theorem in_sorted {ks : List Nat} {v : Nat} (s : Sto) (h : ks.length < 64) : ∃ L : List D, ssortD (ks.map nat) = some (.lst L) ∧ cmpR .In (nat v) (.lst L) s = .ok (.bl (decide (v ∈ ks))) s := by
  have hi : (ks.map nat).all isInt = true := by simp [isInt, nat]
  refine ⟨((ks.map nat).foldl addD []).mergeSort leD, by unfold ssortD; rw [hi, List.length_map, decide_eq_true h]; rfl, ?_⟩
  obtain ⟨m1, m2⟩ := fold_mem_nat ks [] (by simp)
  generalize (ks.map nat).foldl addD [] = U at m1 m2
  have pm := List.mergeSort_perm U leD
  have pl : (U.mergeSort leD).all (D.plain 60) = true := by
    rw [List.all_eq_true]
    intro d hd
    obtain ⟨n, rfl⟩ := m1 d (pm.mem_iff.mp hd)
    simp
  have an : ((U.mergeSort leD).any fun z => D.eqv z (nat v)) = decide (v ∈ ks) := by
    rw [Bool.eq_iff_iff, List.any_eq_true, decide_eq_true_eq]
    constructor
    · rintro ⟨z, hz, e⟩
      have hz := pm.mem_iff.mp hz
      obtain ⟨n, rfl⟩ := m1 z hz
      rw [eqv_nat] at e
      have e := of_decide_eq_true e
      subst e
      simpa using (m2 n).mp hz
    · intro hv
      exact ⟨nat v, pm.mem_iff.mpr ((m2 v).mpr (.inr hv)), by simp⟩
  simp only [cmpR, cmpD, inD, deref_lst, deref_nat, plain_nat, pl, Bool.and_self, if_true, an]
  rfl
theorem s_neighbours (h : H_neighbours T) (hk : 1 ≤ k) {E : List (Nat × Nat)} (few : E.length ≤ 16) (u v : Nat) : ∃ L : List D, callF T k 60 [tE E, nat u] s = .ok (.lst L) s ∧ cmpR .In (nat v) (.lst L) s = .ok (.bl (joinN E u v)) s := by
  obtain ⟨k, rfl, hj⟩ := lv hk
  rw [call_neighbours h.f]
  have l1 := List.length_filter_le (fun e : Nat × Nat => decide (e.1 = u)) E
  have l2 := List.length_filter_le (fun e : Nat × Nat => decide (e.2 = u)) E
  have h1 : Sc_neighbours_1 (clOf T k) (tE E) (nat u) s = .ok (.lst (((E.filter fun e => decide (e.1 = u)).map (·.2)).map nat)) s := by
    simp only [Sc_neighbours_1, seq_tE, Rs.bind_ok, List.map_map]
    refine fil_ok (g := fun e : Nat × Nat => nat e.2) (fun e => decide (e.1 = u)) (by omega) fun e _ => ?_
    simp only [eD, tup2_of, cmp_eq, Rs.bind_ok, truR_bl]
    by_cases c : e.1 = u <;> simp [c]
  have h2 : Sc_neighbours_2 (clOf T k) (tE E) (nat u) s = .ok (.lst (((E.filter fun e => decide (e.2 = u)).map (·.1)).map nat)) s := by
    simp only [Sc_neighbours_2, seq_tE, Rs.bind_ok, List.map_map]
    refine fil_ok (g := fun e : Nat × Nat => nat e.1) (fun e => decide (e.2 = u)) (by omega) fun e _ => ?_
    simp only [eD, tup2_of, cmp_eq, Rs.bind_ok, truR_bl]
    by_cases c : e.2 = u <;> simp [c]
  have lt : (nbN E u).length < 64 := by simp only [nbN, List.length_append, List.length_map]; omega
  obtain ⟨L, e1, e2⟩ := in_sorted (ks := nbN E u) (v := v) s lt
  have hj' : decide (v ∈ nbN E u) = joinN E u v := by
    rw [Bool.eq_iff_iff, decide_eq_true_eq]; exact nbN_mem
  rw [hj'] at e2
  refine ⟨L, ?_, e2⟩
  have ca : binR .Add (.lst (((E.filter fun e => decide (e.1 = u)).map (·.2)).map nat)) (.lst (((E.filter fun e => decide (e.2 = u)).map (·.1)).map nat)) s = .ok (.lst ((nbN E u).map nat)) s := by
    rw [cat_lst (by simp only [List.length_map]; omega), nbN, List.map_append]
  have h3 : Sc_neighbours_3 (clOf T k) (.lst ((nbN E u).map nat)) s = .ok (.lst L) s := by
    simp only [Sc_neighbours_3, seq_lst, Rs.bind_ok, ssortR]
    rw [mapL_ok (g := nat) fun _ _ => rfl]
    simp only [Rs.still_ok, Rs.bind_ok, e1, Rs.of_some]
  simp only [S_neighbours, B_neighbours, h1, h2, Rs.bind_ok, ca, h3, retK_rt]
theorem atI_neg1 {α : Type} {xs : List α} (h : 1 ≤ xs.length) : L2.atI xs (-1) = xs[xs.length - 1]? := by
  unfold L2.atI L2.ixN
  rw [if_neg (by omega), if_pos (by omega)]
  simp only [Option.bind_some]
  congr 1
  omega
/-- whether a row of nodes is an odd walk -/
def oddN (E : List (Nat × Nat)) (l : List Nat) : Bool := decide (1 < l.length ∧ l.length % 2 = 0 ∧ l.getD 0 0 = l.getD (l.length - 1) 0) && (List.range' 1 (l.length - 1)).all fun i => joinN E (l.getD (i - 1) 0) (l.getD i 0)
theorem sub_last {l : List Nat} (h : 1 ≤ l.length) (s : Sto) : subR (tN l) (.int (-1)) s = .ok (nat (l.getD (l.length - 1) 0)) s := by
  have hi : l.length - 1 < l.length := by omega
  have : L2.atI (l.map nat) (-1) = some (nat (l.getD (l.length - 1) 0)) := by
    have q := atI_neg1 (xs := l.map nat) (by simpa using h)
    rw [q, List.length_map, List.getElem?_map, List.getElem?_eq_getElem hi, List.getD_eq_getElem?_getD, List.getElem?_eq_getElem hi]
    rfl
  simp only [subR, subD, tN, deref_tup, this, Rs.of_some]
theorem s_odd_no (h : H_shows_odd_walk T) (hk : 5 ≤ k) {z : Nat} {E : List (Nat × Nat)} (hz : 1 ≤ z ∧ z ≤ 4) (g : IsG z E) {d : D} (hd : isiR [.tuple] d s = .ok (.bl false) s) : callF T k 61 [nat z, tE E, d] s = .ok (.bl false) s := by
  obtain ⟨k, rfl, hj⟩ := lv hk
  rw [call_shows_odd_walk h.f]
  simp only [S_shows_odd_walk, B_shows_odd_walk, Rs.bind_ok, run_clOf, s_need_graph h.need_graph hj hz g, hd, truR_bl, Bool.not_false, if_true, retK_rt]
theorem s_odd_len (h : H_shows_odd_walk T) (hk : 5 ≤ k) {z : Nat} {E : List (Nat × Nat)} (hz : 1 ≤ z ∧ z ≤ 4) (g : IsG z E) {xs : List D} (hl : xs.length < 2 ∨ xs.length % 2 = 1) : callF T k 61 [nat z, tE E, .tup xs] s = .ok (.bl false) s := by
  obtain ⟨k, rfl, hj⟩ := lv hk
  rw [call_shows_odd_walk h.f]
  have it : isiR [.tuple] (.tup xs) s = .ok (.bl true) s := by simp
  simp only [S_shows_odd_walk, B_shows_odd_walk, Rs.bind_ok, run_clOf, s_need_graph h.need_graph hj hz g, it, truR_bl, Bool.not_true, Bool.false_eq_true, if_false, len_tup, cmp_lt]
  by_cases c : xs.length < 2
  · simp only [c, decide_true, if_true, Rs.bind_ok, retK_rt]
  · have o := hl.resolve_left c
    simp only [c, decide_false, Bool.false_eq_true, if_false, bin_mod (show 1 ≤ 2 by decide), Rs.bind_ok, cmp_eq, o, decide_true, truR_bl, if_true, retK_rt]
theorem s_odd_bad (h : H_shows_odd_walk T) (hk : 5 ≤ k) {z : Nat} {E : List (Nat × Nat)} (hz : 1 ≤ z ∧ z ≤ 4) (g : IsG z E) {x : D} (hx : cmpR .NotEq x x s = .ok (.bl false) s) (hb : callF T (k - 1) 1 [x, nat 0, .int ((z : Int) - 1)] s = .ok (.bl false) s) :
    callF T k 61 [nat z, tE E, .tup [x, x]] s = .ok (.bl false) s := by
  obtain ⟨k, rfl, hj⟩ := lv hk
  rw [call_shows_odd_walk h.f]
  have it : isiR [.tuple] (.tup [x, x]) s = .ok (.bl true) s := by simp
  have ln : bfnR .len [.tup [x, x]] s = .ok (nat 2) s := rfl
  have ng : negR (nat 1) s = .ok (.int (-1)) s := rfl
  have la : subR (.tup [x, x]) (.int (-1)) s = .ok x s := rfl
  have m2 : binR .Mod (nat 2) (nat 2) s = .ok (nat 0) s := bin_mod (by decide) s
  have lt : cmpR .Lt (nat 2) (nat 2) s = .ok (.bl false) s := by simp
  have e1 : cmpR .Eq (nat 0) (nat 1) s = .ok (.bl false) s := by simp
  simp only [Nat.add_sub_cancel] at hb
  have hc : Sc_shows_odd_walk_1 (clOf T k) (nat z) (.tup [x, x]) s = .ok (.lst ([false, false].map .bl)) s := by
    have q := map_ok (e := id) (g := fun _ => D.bl false) (f := fun x s => (((((binR .Sub (nat z) (nat 1) s).bind fun x_1 s_2 => Rs.ok [x_1] s_2).bind fun xs_3 s_4 => Rs.ok ((nat 0) :: xs_3) s_4).bind fun xs_5 s_6 => Rs.ok (x :: xs_5) s_6).bind ((clOf T k).run 1))) (s := s) (l := [x, x]) (by simp) fun a ha => by
      have : a = x := by simpa using ha
      subst this
      simp only [bin_sub, Rs.bind_ok, run_clOf, id]
      exact hb
    simp only [Sc_shows_odd_walk_1, seq_tup, Rs.bind_ok]
    rw [List.map_id] at q
    exact q
  simp only [S_shows_odd_walk, B_shows_odd_walk, Rs.bind_ok, run_clOf, s_need_graph h.need_graph hj hz g, it, truR_bl, Bool.not_true, Bool.false_eq_true, if_false, ln, lt, m2, e1, sub_t0, ng, la, hx, hc, all_bl, List.all_cons, id, Bool.false_and, Bool.not_false, if_true, retK_rt]
theorem s_odd (h : H_shows_odd_walk T) (hk : 5 ≤ k) {z : Nat} {E : List (Nat × Nat)} (hz : 1 ≤ z ∧ z ≤ 4) (g : IsG z E) {l : List Nat} (hl : ∀ x ∈ l, x < z) (few : l.length ≤ 1000) : callF T k 61 [nat z, tE E, tN l] s = .ok (.bl (oddN E l)) s := by
  obtain ⟨k, rfl, hj⟩ := lv hk
  rw [call_shows_odd_walk h.f]
  have it : isiR [.tuple] (tN l) s = .ok (.bl true) s := by simp
  have ng : negR (nat 1) s = .ok (.int (-1)) s := rfl
  simp only [S_shows_odd_walk, B_shows_odd_walk, Rs.bind_ok, run_clOf, s_need_graph h.need_graph hj hz g, it, truR_bl, Bool.not_true, Bool.false_eq_true, if_false, len_tN, cmp_lt]
  by_cases c1 : l.length < 2
  · have : oddN E l = false := by
      have no : decide (1 < l.length ∧ l.length % 2 = 0 ∧ l.getD 0 0 = l.getD (l.length - 1) 0) = false := by rw [decide_eq_false_iff_not]; omega
      rw [oddN, no, Bool.false_and]
    simp only [c1, decide_true, if_true, Rs.bind_ok, retK_rt, this]
  · simp only [c1, decide_false, Bool.false_eq_true, if_false, bin_mod (show 1 ≤ 2 by decide), Rs.bind_ok, cmp_eq, truR_bl]
    by_cases c2 : l.length % 2 = 1
    · have : oddN E l = false := by
        have no : decide (1 < l.length ∧ l.length % 2 = 0 ∧ l.getD 0 0 = l.getD (l.length - 1) 0) = false := by rw [decide_eq_false_iff_not]; omega
        rw [oddN, no, Bool.false_and]
      simp only [c2, decide_true, if_true, Rs.bind_ok, retK_rt, this]
    · have h0 : 0 < l.length := by omega
      simp only [c2, decide_false, Bool.false_eq_true, if_false, sub_tN h0, ng, sub_last (show 1 ≤ l.length by omega), Rs.bind_ok, cmp_ne, truR_bl]
      by_cases c3 : l.getD 0 0 = l.getD (l.length - 1) 0
      · have hc : Sc_shows_odd_walk_1 (clOf T k) (nat z) (tN l) s = .ok (.lst (l.map fun _ => .bl true)) s := by
          simp only [Sc_shows_odd_walk_1, seq_tN, Rs.bind_ok, bin_sub, run_clOf]
          rw [map_ok (g := fun _ => .bl true) (by omega)]
          intro x hx
          have := s_is_in1 h.is_in (show 2 ≤ k by omega) (n := x) (a := 0) hz.1 (s := s)
          rw [decide_eq_true ⟨Nat.zero_le _, hl x hx⟩] at this
          exact this
        have hc2 : Sc_shows_odd_walk_2 (clOf T k) (tE E) (tN l) s = .ok (.lst ((List.range' 1 (l.length - 1)).map fun i => .bl (joinN E (l.getD (i - 1) 0) (l.getD i 0)))) s := by
          simp only [Sc_shows_odd_walk_2, Rs.bind_ok, len_tN, rng2_nat (show 1 ≤ 1000000000 by decide) (show l.length ≤ 1000000000 by omega)]
          rw [map_ok (g := fun i => .bl (joinN E (l.getD (i - 1) 0) (l.getD i 0))) (by rw [List.length_range']; omega)]
          intro i hi
          have hi := List.mem_range'_1.mp hi
          have hi1 : i - 1 < l.length := by omega
          have hi2 : i < l.length := by omega
          obtain ⟨L, e1, e2⟩ := s_neighbours h.neighbours (show 1 ≤ k by omega) g.few (l.getD (i - 1) 0) (l.getD i 0) (s := s)
          rw [sub_tN hi2]
          simp only [Rs.bind_ok, bin_subN hi.1, sub_tN hi1, run_clOf, e1, e2]
        have fin : (List.range' 1 (l.length - 1)).all (fun i => joinN E (l.getD (i - 1) 0) (l.getD i 0)) = oddN E l := by
          have yes : decide (1 < l.length ∧ l.length % 2 = 0 ∧ l.getD 0 0 = l.getD (l.length - 1) 0) = true := by rw [decide_eq_true_eq]; exact ⟨by omega, by omega, c3⟩
          rw [oddN, yes, Bool.true_and]
        have al : l.all (fun _ => true) = true := by simp
        simp only [c3, decide_true, Bool.not_true, Bool.false_eq_true, if_false, Rs.bind_ok, hc, all_blP, al, truR_bl, hc2, fin, retK_rt]
      · have : oddN E l = false := by
          have no : decide (1 < l.length ∧ l.length % 2 = 0 ∧ l.getD 0 0 = l.getD (l.length - 1) 0) = false := by rw [decide_eq_false_iff_not]; exact fun q => c3 q.2.2
          rw [oddN, no, Bool.false_and]
        simp only [c3, decide_false, Bool.not_false, if_true, Rs.bind_ok, retK_rt, this]
end
end Mi
namespace Mi
open PySem PySem.Spec
def c_law_v5_1 : CE :=
  (.comp (.nm 13) (.range2 (.var 2) (.var 7)) (.cons (.and (.cons (.val (.cmp .Gt (.call 15 (.cons (.var 1) (.cons (.cint 3) .nil))) (.cint 0))) (.cons (.or (.cons (.val (.cmp .NotEq (.var 2) (.var 13))) (.cons (.val (.cmp .Eq (.call 15 (.cons (.var 1) (.cons (.cint 4) .nil))) (.cint 0))) .nil))) .nil))) .nil) (.tup (.cons (.var 2) (.cons (.var 13) .nil))) [13])
def bl_law_v5_2 : CSs :=
  (.cons (.asg (.nm 3) (.bin .Add (.var 3) c_law_v5_1))
    .nil)
def c_law_v5_3 : CE :=
  (.comp (.nm 12) (.seq (.var 3)) .nil (.tup (.cons (.sub (.var 12) (.cint 1)) (.cons (.sub (.var 12) (.cint 0)) .nil))) [12])
def c_law_v5_4 : CE :=
  (.comp (.nm 12) (.seq (.var 4)) (.cons (.val (.cmp .Eq (.sub (.var 12) (.cint 0)) (.sub (.var 8) (.neg (.cint 1))))) .nil) (.sub (.var 12) (.cint 1)) [12])
def bl_law_v5_5 : CSs :=
  (.cons (.asg (.nm 11) c_law_v5_4)
    (.cons (.app 8 (.ife (.and (.cons (.val (.cmp .NotEq (.var 11) (.lst .nil))) (.cons (.val (.cmp .Gt (.call 15 (.cons (.var 1) (.cons (.cint 8) .nil))) (.cint 0))) .nil))) (.call 29 (.cons (.var 1) (.cons (.var 11) .nil))) (.call 15 (.cons (.var 1) (.cons (.var 7) .nil)))))
    .nil))
def c_law_v5_6 : CE :=
  (.comp (.nm 14) (.range2 (.cint 1) (.bfn .len (.cons (.var 8) .nil))) (.cons (.val (.cmp .NotIn (.tup (.cons (.sub (.var 8) (.bin .Sub (.var 14) (.cint 1))) (.cons (.sub (.var 8) (.var 14)) .nil))) (.var 4))) .nil) (.var 14) [14])
def bl_law_v5_7 : CSs :=
  (.cons (.asgO 8 (.lst (.cons (.call 15 (.cons (.var 1) (.cons (.var 7) .nil))) .nil)))
    (.cons (.forr (.nm 9) (.range1 (.call 15 (.cons (.var 1) (.cons (.cint 9) .nil)))) bl_law_v5_5)
    (.cons (.ite (.val (.cmp .Eq (.call 15 (.cons (.var 1) (.cons (.cint 2) .nil))) (.cint 0)))
    (.cons (.app 8 (.sub (.var 8) (.cint 0)))
    .nil)
    .nil)
    (.cons (.asg (.nm 10) (.and (.cons (.cmp .Gt (.bfn .len (.cons (.var 8) .nil)) (.cint 1)) (.cons (.cmp .Eq (.bin .Mod (.bfn .len (.cons (.var 8) .nil)) (.cint 2)) (.cint 0)) (.cons (.cmp .Eq (.sub (.var 8) (.cint 0)) (.sub (.var 8) (.neg (.cint 1)))) .nil)))))
    (.cons (.asg (.nm 10) (.and (.cons (.var 10) (.cons (.cmp .Eq c_law_v5_6 (.lst .nil)) .nil))))
    (.cons (.ite (.not (.val (.call 16 (.cons (.call 61 (.cons (.var 7) (.cons (.var 3) (.cons (.bfn .tuple (.cons (.var 8) .nil)) .nil)))) (.cons (.var 10) .nil)))))
    (.cons (.ret (.cbl false))
    .nil)
    .nil)
    (.frz 8 (.cons (.ite (.val (.cmp .IsNot (.call 61 (.cons (.var 7) (.cons (.var 3) (.cons (.var 8) .nil)))) (.cbl false)))
    (.cons (.ret (.cbl false))
    .nil)
    .nil)
    .nil))))))))
def bl_law_v5_8 : CSs :=
  (.cons (.ite (.and (.cons (.val (.cmp .IsNot (.call 61 (.cons (.var 7) (.cons (.var 3) (.cons (.var 6) .nil)))) (.cbl false))) (.cons (.val (.cmp .NotEq (.var 6) (.tup (.cons (.cint 0) (.cons (.cint 0) (.cons (.cint 0) .nil)))))) .nil)))
    (.cons (.ret (.cbl false))
    .nil)
    .nil)
    .nil)
def b_law_v5 : CSs :=
  (.cons (.asg (.nm 1) (.heap (.lst (.cons (.var 0) (.cons (.cint 0) (.cons (.cint 3267) (.cons (.cint 0) .nil)))))))
    (.cons (.par false 7 false 3 (.bin .Add (.cint 1) (.call 15 (.cons (.var 1) (.cons (.cint 4) .nil)))) (.lst .nil))
    (.cons (.forr (.nm 2) (.range1 (.var 7)) bl_law_v5_2)
    (.cons (.asg (.nm 3) (.bfn .tuple (.cons (.var 3) .nil)))
    (.cons (.asg (.nm 4) (.bin .Add (.bfn .list (.cons (.var 3) .nil)) c_law_v5_3))
    (.cons (.forr (.nm 5) (.range1 (.cint 6)) bl_law_v5_7)
    (.cons (.forr (.nm 6) (.seq (.lst (.cons .cnon (.cons (.tup .nil) (.cons (.tup (.cons (.cint 0) .nil)) (.cons (.cint 3) (.cons (.dict0 false) (.cons (.cstr "00") (.cons (.tup (.cons (.var 7) (.cons (.var 7) .nil))) (.cons (.tup (.cons (.neg (.cint 1)) (.cons (.neg (.cint 1)) .nil))) (.cons (.tup (.cons .cnon (.cons .cnon .nil))) (.cons (.tup (.cons (.cbl true) (.cons (.cbl true) .nil))) (.cons (.tup (.cons (.lst .nil) (.cons (.lst .nil) .nil))) (.cons (.tup (.cons (.cint 0) (.cons (.cint 0) (.cons (.cint 0) .nil)))) .nil)))))))))))))) bl_law_v5_8)
    (.cons (.ret (.and (.cons (.cmp .Is (.call 61 (.cons (.cint 1) (.cons (.tup (.cons (.tup (.cons (.cint 0) (.cons (.cint 0) .nil))) .nil)) (.cons (.tup (.cons (.cint 0) (.cons (.cint 0) .nil))) .nil)))) (.cbl true)) (.cons (.cmp .Is (.call 61 (.cons (.cint 1) (.cons (.tup .nil) (.cons (.tup (.cons (.cint 0) (.cons (.cint 0) .nil))) .nil)))) (.cbl false)) .nil))))
    .nil))))))))
def F_law_v5 : Fn := ⟨1, 15, false, b_law_v5⟩
def Sc_law_v5_1 (C : Cl) (row1 : D) (a2 : D) (size7 : D) (s : Sto) : Rs D := ((rng2R a2 size7 s).bind (filR fun x s => (keepR (((((Rs.ok [row1, (nat 3)] s).bind (C.run 15)).bind fun x_5 s_6 => (cmpR .Gt x_5 (nat 0) s_6)).bind fun x_3 s_4 => (truR x_3 s_4)).bind fun b_1 s_2 => if b_1 then ((((cmpR .NotEq a2 x s_2).bind fun x_11 s_12 => (truR x_11 s_12)).bind fun b_9 s_10 => if b_9 then Rs.ok true s_10 else (((((Rs.ok [row1, (nat 4)] s_10).bind (C.run 15)).bind fun x_17 s_18 => (cmpR .Eq x_17 (nat 0) s_18)).bind fun x_15 s_16 => (truR x_15 s_16)).bind fun b_13 s_14 => if b_13 then Rs.ok true s_14 else (Rs.ok false s_14))).bind fun b_7 s_8 => if b_7 then (Rs.ok true s_8) else Rs.ok false s_8) else Rs.ok false s_2) fun s => ((Rs.ok [a2, x] s).bind tupR))))
theorem e_c_law_v5_1 (C : Cl) (script0 : D) (row1 : D) (a2 : D) (edges3 : D) (size7 : D) (s : Sto) : evE C c_law_v5_1 [some (false, script0), some (false, row1), some (false, a2), some (false, edges3), none, none, none, some (false, size7), none, none, none, none, none, none, none] s = Sc_law_v5_1 C row1 a2 size7 s := compf_sh rfl fun x s => rfl
def L_law_v5_1 (C : Cl) (row1 : D) (size7 : D) (x : D) (st : D) (s : Sto) : Rs (O3 (D)) := (((Sc_law_v5_1 C row1 x size7 s).bind fun x_19 s_20 => (binR .Add st x_19 s_20)).bind fun edges_17 s_18 => (Rs.ok (O3.nx edges_17) s_18))
theorem sim_L_law_v5_1 (C : Cl) (script0 : D) (row1 : D) (size7 : D) (j2 : Option (Bool × D)) (x : D) (st : D) (s : Sto) : Sim false (fun (q_16st : D) (q_16e : MEnv) => ∃ (q_16j2 : Option (Bool × D)), q_16e = [some (false, script0), some (false, row1), q_16j2, some (false, q_16st), none, none, none, some (false, size7), none, none, none, none, none, none, none]) (bindK (bindT (.nm 2) x [some (false, script0), some (false, row1), j2, some (false, st), none, none, none, some (false, size7), none, none, none, none, none, none, none]) fun e1 => evSs C bl_law_v5_2 e1 s) (L_law_v5_1 C row1 size7 x st s) := (show Sim _ _ (evSs C _ [some (false, script0), some (false, row1), some (false, x), some (false, st), none, none, none, some (false, size7), none, none, none, none, none, none, none] s) _ from (sim_asg (by show ((evE C c_law_v5_1 [some (false, script0), some (false, row1), some (false, x), some (false, st), none, none, none, some (false, size7), none, none, none, none, none, none, none] s).bind fun x_21 s_22 => (binR .Add st x_21 s_22)) = _; simp only [e_c_law_v5_1]) rfl (show 3 < 15 from by decide) fun edges_17 s_18 => (show Sim _ _ (evSs C _ [some (false, script0), some (false, row1), some (false, x), some (false, edges_17), none, none, none, some (false, size7), none, none, none, none, none, none, none] s_18) _ from (sim_nil ⟨_, rfl⟩))))
def Sc_law_v5_3 (C : Cl) (edges3 : D) (s : Sto) : Rs D := ((seqR edges3 s).bind (mapR fun x s => (((subR x (nat 1) s).bind fun x_1 s_2 => (((subR x (nat 0) s_2).bind fun x_3 s_4 => Rs.ok [x_3] s_4).bind fun xs_5 s_6 => Rs.ok (x_1 :: xs_5) s_6)).bind tupR)))
theorem e_c_law_v5_3 (C : Cl) (script0 : D) (row1 : D) (j2 : Option (Bool × D)) (edges3 : D) (size7 : D) (s : Sto) : evE C c_law_v5_3 [some (false, script0), some (false, row1), j2, some (false, edges3), none, none, none, some (false, size7), none, none, none, none, none, none, none] s = Sc_law_v5_3 C edges3 s := comp_sh rfl fun x s => rfl
def Sc_law_v5_4 (C : Cl) (both4 : D) (walk8 : D) (s : Sto) : Rs D := ((seqR both4 s).bind (filR fun x s => (keepR (((subR x (nat 0) s).bind fun x_3 s_4 => (((negR (nat 1) s_4).bind fun x_7 s_8 => (subR walk8 x_7 s_8)).bind fun x_5 s_6 => (cmpR .Eq x_3 x_5 s_6))).bind fun x_1 s_2 => (truR x_1 s_2)) fun s => (subR x (nat 1) s))))
theorem e_c_law_v5_4 (C : Cl) (script0 : D) (row1 : D) (j2 : Option (Bool × D)) (edges3 : D) (both4 : D) (turn5 : D) (size7 : D) (walk8 : D) (step9 : D) (j10 : Option (Bool × D)) (j11 : Option (Bool × D)) (s : Sto) : evE C c_law_v5_4 [some (false, script0), some (false, row1), j2, some (false, edges3), some (false, both4), some (false, turn5), none, some (false, size7), some (true, walk8), some (false, step9), j10, j11, none, none, none] s = Sc_law_v5_4 C both4 walk8 s := compf_sh rfl fun x s => rfl
def L_law_v5_3 (C : Cl) (row1 : D) (edges3 : D) (both4 : D) (size7 : D) (x : D) (st : D) (s : Sto) : Rs (O3 (D)) := ((Sc_law_v5_4 C both4 st s).bind fun some_48 s_49 => (((((((Rs.ok [] s_49).bind lstR).bind fun x_59 s_60 => (cmpR .NotEq some_48 x_59 s_60)).bind fun x_57 s_58 => (truR x_57 s_58)).bind fun b_55 s_56 => if b_55 then (((((Rs.ok [row1, (nat 8)] s_56).bind (C.run 15)).bind fun x_65 s_66 => (cmpR .Gt x_65 (nat 0) s_66)).bind fun x_63 s_64 => (truR x_63 s_64)).bind fun b_61 s_62 => if b_61 then (Rs.ok true s_62) else Rs.ok false s_62) else Rs.ok false s_56).bind fun b_53 s_54 => if b_53 then ((Rs.ok [row1, some_48] s_54).bind (C.run 29)) else ((Rs.ok [row1, size7] s_54).bind (C.run 15))).bind fun d_50 s_52 => optK (appD st d_50) fun walk_51 => (Rs.ok (O3.nx walk_51) s_52)))
theorem sim_L_law_v5_3 (C : Cl) (script0 : D) (row1 : D) (j2 : Option (Bool × D)) (edges3 : D) (both4 : D) (turn5 : D) (size7 : D) (j10 : Option (Bool × D)) (j9 : Option (Bool × D)) (j11 : Option (Bool × D)) (x : D) (st : D) (s : Sto) : Sim false (fun (q_47st : D) (q_47e : MEnv) => ∃ (q_47j9 : Option (Bool × D)) (q_47j11 : Option (Bool × D)), q_47e = [some (false, script0), some (false, row1), j2, some (false, edges3), some (false, both4), some (false, turn5), none, some (false, size7), some (true, q_47st), q_47j9, j10, q_47j11, none, none, none]) (bindK (bindT (.nm 9) x [some (false, script0), some (false, row1), j2, some (false, edges3), some (false, both4), some (false, turn5), none, some (false, size7), some (true, st), j9, j10, j11, none, none, none]) fun e1 => evSs C bl_law_v5_5 e1 s) (L_law_v5_3 C row1 edges3 both4 size7 x st s) := (show Sim _ _ (evSs C _ [some (false, script0), some (false, row1), j2, some (false, edges3), some (false, both4), some (false, turn5), none, some (false, size7), some (true, st), some (false, x), j10, j11, none, none, none] s) _ from (sim_asg (by show (evE C c_law_v5_4 [some (false, script0), some (false, row1), j2, some (false, edges3), some (false, both4), some (false, turn5), none, some (false, size7), some (true, st), some (false, x), j10, j11, none, none, none] s) = _; simp only [e_c_law_v5_4]) rfl (show 11 < 15 from by decide) fun some_48 s_49 => (show Sim _ _ (evSs C _ [some (false, script0), some (false, row1), j2, some (false, edges3), some (false, both4), some (false, turn5), none, some (false, size7), some (true, st), some (false, x), j10, some (false, some_48), none, none, none] s_49) _ from (sim_app rfl rfl rfl fun walk_51 s_52 => (show Sim _ _ (evSs C _ [some (false, script0), some (false, row1), j2, some (false, edges3), some (false, both4), some (false, turn5), none, some (false, size7), some (true, walk_51), some (false, x), j10, some (false, some_48), none, none, none] s_52) _ from (sim_nil ⟨_, _, rfl⟩))))))
def Sc_law_v5_6 (C : Cl) (both4 : D) (walk8 : D) (s : Sto) : Rs D := ((((Rs.ok [walk8] s).bind (bfnR .len)).bind fun x_1 s_2 => (rng2R (nat 1) x_1 s_2)).bind (filR fun x s => (keepR ((((((binR .Sub x (nat 1) s).bind fun x_15 s_16 => (subR walk8 x_15 s_16)).bind fun x_9 s_10 => (((subR walk8 x s_10).bind fun x_11 s_12 => Rs.ok [x_11] s_12).bind fun xs_13 s_14 => Rs.ok (x_9 :: xs_13) s_14)).bind tupR).bind fun x_7 s_8 => (cmpR .NotIn x_7 both4 s_8)).bind fun x_5 s_6 => (truR x_5 s_6)) fun s => (Rs.ok x s))))
theorem e_c_law_v5_6 (C : Cl) (script0 : D) (row1 : D) (j2 : Option (Bool × D)) (edges3 : D) (both4 : D) (j5 : Option (Bool × D)) (size7 : D) (walk8 : D) (j9 : Option (Bool × D)) (due10 : D) (j11 : Option (Bool × D)) (s : Sto) : evE C c_law_v5_6 [some (false, script0), some (false, row1), j2, some (false, edges3), some (false, both4), j5, none, some (false, size7), some (true, walk8), j9, some (false, due10), j11, none, none, none] s = Sc_law_v5_6 C both4 walk8 s := compf_sh rfl fun x s => rfl
def J_law_v5_1 (C : Cl) (row1 : D) (edges3 : D) (both4 : D) (size7 : D) (walk8 : D) (s : Sto) : Rs (O3 (Unit)) := ((((((Rs.ok [walk8] s).bind (bfnR .len)).bind fun x_104 s_105 => (cmpR .Gt x_104 (nat 1) s_105)).bind fun x_102 s_103 => (andK x_102 s_103 (((((Rs.ok [walk8] s_103).bind (bfnR .len)).bind fun x_110 s_111 => (binR .Mod x_110 (nat 2) s_111)).bind fun x_108 s_109 => (cmpR .Eq x_108 (nat 0) s_109)).bind fun x_106 s_107 => (andK x_106 s_107 (((subR walk8 (nat 0) s_107).bind fun x_114 s_115 => (((negR (nat 1) s_115).bind fun x_118 s_119 => (subR walk8 x_118 s_119)).bind fun x_116 s_117 => (cmpR .Eq x_114 x_116 s_117))).bind fun x_112 s_113 => (blR x_112 s_113)))))).bind fun b_100 s_101 => Rs.ok (D.bl b_100) s_101).bind fun due_98 s_99 => (((andK due_98 s_99 (((Sc_law_v5_6 C both4 walk8 s_99).bind fun x_146 s_147 => (((Rs.ok [] s_147).bind lstR).bind fun x_148 s_149 => (cmpR .Eq x_146 x_148 s_149))).bind fun x_144 s_145 => (blR x_144 s_145))).bind fun b_142 s_143 => Rs.ok (D.bl b_142) s_143).bind fun due_140 s_141 => (((((((((((Rs.ok [walk8] s_141).bind (bfnR .tuple)).bind fun x_164 s_165 => Rs.ok [x_164] s_165).bind fun xs_166 s_167 => Rs.ok (edges3 :: xs_166) s_167).bind fun xs_168 s_169 => Rs.ok (size7 :: xs_168) s_169).bind (C.run 61)).bind fun x_162 s_163 => Rs.ok [x_162, due_140] s_163).bind (C.run 16)).bind fun x_160 s_161 => (truR x_160 s_161)).bind fun b_158 s_159 => Rs.ok (!b_158) s_159).bind fun b_199 s_182 => if b_199 then ((Rs.ok (D.bl false) s_182).bind fun d_184 s_185 => Rs.ok (O3.rt d_184) s_185) else (((((Rs.ok [size7, edges3, walk8] s_182).bind (C.run 61)).bind fun x_188 s_189 => (cmpR .IsNot x_188 (D.bl false) s_189)).bind fun x_186 s_187 => (truR x_186 s_187)).bind fun b_198 s_194 => if b_198 then ((Rs.ok (D.bl false) s_194).bind fun d_196 s_197 => Rs.ok (O3.rt d_196) s_197) else (Rs.ok (O3.nx ()) s_194)))))
theorem sim_J_law_v5_1 (C : Cl) (script0 : D) (row1 : D) (j2 : Option (Bool × D)) (edges3 : D) (both4 : D) (j5 : Option (Bool × D)) (size7 : D) (walk8 : D) (j9 : Option (Bool × D)) (j10 : Option (Bool × D)) (j11 : Option (Bool × D)) (s : Sto) : Sim false (fun (q_39st : Unit) (q_39e : MEnv) => ∃ (q_39j5 : Option (Bool × D)) (q_39j8 : Option (Bool × D)) (q_39j9 : Option (Bool × D)) (q_39j10 : Option (Bool × D)) (q_39j11 : Option (Bool × D)), q_39e = [some (false, script0), some (false, row1), j2, some (false, edges3), some (false, both4), q_39j5, none, some (false, size7), q_39j8, q_39j9, q_39j10, q_39j11, none, none, none]) (evSs C ((.cons (.asg (.nm 10) (.and (.cons (.cmp .Gt (.bfn .len (.cons (.var 8) .nil)) (.cint 1)) (.cons (.cmp .Eq (.bin .Mod (.bfn .len (.cons (.var 8) .nil)) (.cint 2)) (.cint 0)) (.cons (.cmp .Eq (.sub (.var 8) (.cint 0)) (.sub (.var 8) (.neg (.cint 1)))) .nil)))))
    (.cons (.asg (.nm 10) (.and (.cons (.var 10) (.cons (.cmp .Eq c_law_v5_6 (.lst .nil)) .nil))))
    (.cons (.ite (.not (.val (.call 16 (.cons (.call 61 (.cons (.var 7) (.cons (.var 3) (.cons (.bfn .tuple (.cons (.var 8) .nil)) .nil)))) (.cons (.var 10) .nil)))))
    (.cons (.ret (.cbl false))
    .nil)
    .nil)
    (.frz 8 (.cons (.ite (.val (.cmp .IsNot (.call 61 (.cons (.var 7) (.cons (.var 3) (.cons (.var 8) .nil)))) (.cbl false)))
    (.cons (.ret (.cbl false))
    .nil)
    .nil)
    .nil)))))) [some (false, script0), some (false, row1), j2, some (false, edges3), some (false, both4), j5, none, some (false, size7), some (true, walk8), j9, j10, j11, none, none, none] s) (J_law_v5_1 C row1 edges3 both4 size7 walk8 s) := (show Sim _ _ (evSs C _ [some (false, script0), some (false, row1), j2, some (false, edges3), some (false, both4), j5, none, some (false, size7), some (true, walk8), j9, j10, j11, none, none, none] s) _ from (sim_asg rfl rfl (show 10 < 15 from by decide) fun due_98 s_99 => (show Sim _ _ (evSs C _ [some (false, script0), some (false, row1), j2, some (false, edges3), some (false, both4), j5, none, some (false, size7), some (true, walk8), j9, some (false, due_98), j11, none, none, none] s_99) _ from (sim_asg (by show ((andK due_98 s_99 (((evE C c_law_v5_6 [some (false, script0), some (false, row1), j2, some (false, edges3), some (false, both4), j5, none, some (false, size7), some (true, walk8), j9, some (false, due_98), j11, none, none, none] s_99).bind fun x_154 s_155 => (((Rs.ok [] s_155).bind lstR).bind fun x_156 s_157 => (cmpR .Eq x_154 x_156 s_157))).bind fun x_152 s_153 => (blR x_152 s_153))).bind fun b_150 s_151 => Rs.ok (D.bl b_150) s_151) = _; simp only [e_c_law_v5_6]) rfl (show 10 < 15 from by decide) fun due_140 s_141 => (show Sim _ _ (evSs C _ [some (false, script0), some (false, row1), j2, some (false, edges3), some (false, both4), j5, none, some (false, size7), some (true, walk8), j9, some (false, due_140), j11, none, none, none] s_141) _ from (sim_ite rfl (fun s_182 => (show Sim _ _ (evSs C _ [some (false, script0), some (false, row1), j2, some (false, edges3), some (false, both4), j5, none, some (false, size7), some (true, walk8), j9, some (false, due_140), j11, none, none, none] s_182) _ from (sim_ret rfl rfl (fun z => nomatch z)))) (fun s_182 => (show Sim _ _ (evSs C _ [some (false, script0), some (false, row1), j2, some (false, edges3), some (false, both4), j5, none, some (false, size7), some (true, walk8), j9, some (false, due_140), j11, none, none, none] s_182) _ from (sim_frz (show Sim _ _ (evSs C _ [some (false, script0), some (false, row1), j2, some (false, edges3), some (false, both4), j5, none, some (false, size7), some (false, walk8), j9, some (false, due_140), j11, none, none, none] s_182) _ from (sim_ite rfl (fun s_194 => (show Sim _ _ (evSs C _ [some (false, script0), some (false, row1), j2, some (false, edges3), some (false, both4), j5, none, some (false, size7), some (false, walk8), j9, some (false, due_140), j11, none, none, none] s_194) _ from (sim_ret rfl rfl (fun z => nomatch z)))) (fun s_194 => (show Sim _ _ (evSs C _ [some (false, script0), some (false, row1), j2, some (false, edges3), some (false, both4), j5, none, some (false, size7), some (false, walk8), j9, some (false, due_140), j11, none, none, none] s_194) _ from (sim_nil ⟨_, _, _, _, _, rfl⟩))))))))))))))
def L_law_v5_2 (C : Cl) (row1 : D) (edges3 : D) (both4 : D) (size7 : D) (x : D) (st : Unit) (s : Sto) : Rs (O3 (Unit)) := (((((Rs.ok [row1, size7] s).bind (C.run 15)).bind fun x_42 s_43 => Rs.ok [x_42] s_43).bind lstR).bind fun walk_40 s_41 => ((((Rs.ok [row1, (nat 9)] s_41).bind (C.run 15)).bind fun x_206 s_207 => (rng1R x_206 s_207)).bind fun xs_210 s_211 => o2K (loopR (L_law_v5_3 C row1 edges3 both4 size7) xs_210 walk_40 s_211) fun st_81 s_82 => (((((Rs.ok [row1, (nat 2)] s_82).bind (C.run 15)).bind fun x_87 s_88 => (cmpR .Eq x_87 (nat 0) s_88)).bind fun x_85 s_86 => (truR x_85 s_86)).bind fun b_200 s_93 => if b_200 then ((subR st_81 (nat 0) s_93).bind fun d_95 s_97 => optK (appD st_81 d_95) fun walk_96 => (J_law_v5_1 C row1 edges3 both4 size7 walk_96 s_97)) else (J_law_v5_1 C row1 edges3 both4 size7 st_81 s_93))))
theorem sim_L_law_v5_2 (C : Cl) (script0 : D) (row1 : D) (j2 : Option (Bool × D)) (edges3 : D) (both4 : D) (size7 : D) (j5 : Option (Bool × D)) (j8 : Option (Bool × D)) (j9 : Option (Bool × D)) (j10 : Option (Bool × D)) (j11 : Option (Bool × D)) (x : D) (st : Unit) (s : Sto) : Sim false (fun (q_39st : Unit) (q_39e : MEnv) => ∃ (q_39j5 : Option (Bool × D)) (q_39j8 : Option (Bool × D)) (q_39j9 : Option (Bool × D)) (q_39j10 : Option (Bool × D)) (q_39j11 : Option (Bool × D)), q_39e = [some (false, script0), some (false, row1), j2, some (false, edges3), some (false, both4), q_39j5, none, some (false, size7), q_39j8, q_39j9, q_39j10, q_39j11, none, none, none]) (bindK (bindT (.nm 5) x [some (false, script0), some (false, row1), j2, some (false, edges3), some (false, both4), j5, none, some (false, size7), j8, j9, j10, j11, none, none, none]) fun e1 => evSs C bl_law_v5_7 e1 s) (L_law_v5_2 C row1 edges3 both4 size7 x st s) := (show Sim _ _ (evSs C _ [some (false, script0), some (false, row1), j2, some (false, edges3), some (false, both4), some (false, x), none, some (false, size7), j8, j9, j10, j11, none, none, none] s) _ from (sim_asgO rfl rfl (show 8 < 15 from by decide) fun walk_40 s_41 => (show Sim _ _ (evSs C _ [some (false, script0), some (false, row1), j2, some (false, edges3), some (false, both4), some (false, x), none, some (false, size7), some (true, walk_40), j9, j10, j11, none, none, none] s_41) _ from (sim_for (fun (q_46st : D) (q_46e : MEnv) => ∃ (q_46j9 : Option (Bool × D)) (q_46j11 : Option (Bool × D)), q_46e = [some (false, script0), some (false, row1), j2, some (false, edges3), some (false, both4), some (false, x), none, some (false, size7), some (true, q_46st), q_46j9, j10, q_46j11, none, none, none]) rfl ⟨_, _, rfl⟩ (by rintro x_203 st_201 _ s_202 ⟨j_204, j_205, rfl⟩; exact sim_L_law_v5_3 C script0 row1 j2 edges3 both4 x size7 j10 j_204 j_205 x_203 st_201 s_202) (by rintro st_81 _ s_82 ⟨j_83, j_84, rfl⟩; exact (show Sim _ _ (evSs C _ [some (false, script0), some (false, row1), j2, some (false, edges3), some (false, both4), some (false, x), none, some (false, size7), some (true, st_81), j_83, j10, j_84, none, none, none] s_82) _ from (sim_ite rfl (fun s_93 => (show Sim _ _ (evSs C _ [some (false, script0), some (false, row1), j2, some (false, edges3), some (false, both4), some (false, x), none, some (false, size7), some (true, st_81), j_83, j10, j_84, none, none, none] s_93) _ from (sim_app rfl rfl rfl fun walk_96 s_97 => (show Sim _ _ (evSs C _ [some (false, script0), some (false, row1), j2, some (false, edges3), some (false, both4), some (false, x), none, some (false, size7), some (true, walk_96), j_83, j10, j_84, none, none, none] s_97) _ from (sim_J_law_v5_1 C script0 row1 j2 edges3 both4 (some (false, x)) size7 walk_96 j_83 j10 j_84 s_97))))) (fun s_93 => (show Sim _ _ (evSs C _ [some (false, script0), some (false, row1), j2, some (false, edges3), some (false, both4), some (false, x), none, some (false, size7), some (true, st_81), j_83, j10, j_84, none, none, none] s_93) _ from (sim_J_law_v5_1 C script0 row1 j2 edges3 both4 (some (false, x)) size7 st_81 j_83 j10 j_84 s_93))))))))))
def L_law_v5_4 (C : Cl) (edges3 : D) (size7 : D) (x : D) (st : Unit) (s : Sto) : Rs (O3 (Unit)) := ((((((Rs.ok [size7, edges3, x] s).bind (C.run 61)).bind fun x_225 s_226 => (cmpR .IsNot x_225 (D.bl false) s_226)).bind fun x_223 s_224 => (truR x_223 s_224)).bind fun b_221 s_222 => if b_221 then (((((Rs.ok [(nat 0), (nat 0), (nat 0)] s_222).bind tupR).bind fun x_231 s_232 => (cmpR .NotEq x x_231 s_232)).bind fun x_229 s_230 => (truR x_229 s_230)).bind fun b_227 s_228 => if b_227 then (Rs.ok true s_228) else Rs.ok false s_228) else Rs.ok false s_222).bind fun b_249 s_245 => if b_249 then ((Rs.ok (D.bl false) s_245).bind fun d_247 s_248 => Rs.ok (O3.rt d_247) s_248) else (Rs.ok (O3.nx ()) s_245))
theorem sim_L_law_v5_4 (C : Cl) (script0 : D) (row1 : D) (j2 : Option (Bool × D)) (edges3 : D) (both4 : D) (j5 : Option (Bool × D)) (size7 : D) (j8 : Option (Bool × D)) (j9 : Option (Bool × D)) (j10 : Option (Bool × D)) (j11 : Option (Bool × D)) (j6 : Option (Bool × D)) (x : D) (st : Unit) (s : Sto) : Sim false (fun (q_220st : Unit) (q_220e : MEnv) => ∃ (q_220j6 : Option (Bool × D)), q_220e = [some (false, script0), some (false, row1), j2, some (false, edges3), some (false, both4), j5, q_220j6, some (false, size7), j8, j9, j10, j11, none, none, none]) (bindK (bindT (.nm 6) x [some (false, script0), some (false, row1), j2, some (false, edges3), some (false, both4), j5, j6, some (false, size7), j8, j9, j10, j11, none, none, none]) fun e1 => evSs C bl_law_v5_8 e1 s) (L_law_v5_4 C edges3 size7 x st s) := (show Sim _ _ (evSs C _ [some (false, script0), some (false, row1), j2, some (false, edges3), some (false, both4), j5, some (false, x), some (false, size7), j8, j9, j10, j11, none, none, none] s) _ from (sim_ite rfl (fun s_245 => (show Sim _ _ (evSs C _ [some (false, script0), some (false, row1), j2, some (false, edges3), some (false, both4), j5, some (false, x), some (false, size7), j8, j9, j10, j11, none, none, none] s_245) _ from (sim_ret rfl rfl (fun z => nomatch z)))) (fun s_245 => (show Sim _ _ (evSs C _ [some (false, script0), some (false, row1), j2, some (false, edges3), some (false, both4), j5, some (false, x), some (false, size7), j8, j9, j10, j11, none, none, none] s_245) _ from (sim_nil ⟨_, rfl⟩)))))
def B_law_v5 (C : Cl) (script0 : D) (s : Sto) : Rs (O3 Unit) := ((((Rs.ok [script0, (nat 0), (nat 3267), (nat 0)] s).bind lstR).bind fun x_3 s_4 => (heapR x_3 s_4)).bind fun row_1 s_2 => ((((Rs.ok [row_1, (nat 4)] s_2).bind (C.run 15)).bind fun x_11 s_12 => (binR .Add (nat 1) x_11 s_12)).bind fun size_7 s_9 => (((Rs.ok [] s_9).bind lstR).bind fun edges_8 s_10 => ((rng1R size_7 s_10).bind fun xs_435 s_436 => o2K (loopR (L_law_v5_1 C row_1 size_7) xs_435 edges_8 s_436) fun st_23 s_24 => (((Rs.ok [st_23] s_24).bind (bfnR .tuple)).bind fun edges_26 s_27 => ((((Rs.ok [edges_26] s_27).bind (bfnR .list)).bind fun x_30 s_31 => ((Sc_law_v5_3 C edges_26 s_31).bind fun x_32 s_33 => (binR .Add x_30 x_32 s_33))).bind fun both_28 s_29 => ((rng1R (nat 6) s_29).bind fun xs_429 s_430 => o2K (loopR (L_law_v5_2 C row_1 edges_26 both_28 size_7) xs_429 () s_430) fun st_212 s_213 => (((((((Rs.ok [] s_213).bind tupR).bind fun x_317 s_318 => ((((Rs.ok [(nat 0)] s_318).bind tupR).bind fun x_319 s_320 => (((((((Rs.ok [size_7, size_7] s_320).bind tupR).bind fun x_321 s_322 => (((((negR (nat 1) s_322).bind fun x_347 s_348 => (((negR (nat 1) s_348).bind fun x_349 s_350 => Rs.ok [x_349] s_350).bind fun xs_351 s_352 => Rs.ok (x_347 :: xs_351) s_352)).bind tupR).bind fun x_323 s_324 => ((((Rs.ok [D.non, D.non] s_324).bind tupR).bind fun x_325 s_326 => ((((Rs.ok [(D.bl true), (D.bl true)] s_326).bind tupR).bind fun x_327 s_328 => ((((((Rs.ok [] s_328).bind lstR).bind fun x_335 s_336 => ((((Rs.ok [] s_336).bind lstR).bind fun x_337 s_338 => Rs.ok [x_337] s_338).bind fun xs_339 s_340 => Rs.ok (x_335 :: xs_339) s_340)).bind tupR).bind fun x_329 s_330 => ((((Rs.ok [(nat 0), (nat 0), (nat 0)] s_330).bind tupR).bind fun x_331 s_332 => Rs.ok [x_331] s_332).bind fun xs_333 s_334 => Rs.ok (x_329 :: xs_333) s_334)).bind fun xs_341 s_342 => Rs.ok (x_327 :: xs_341) s_342)).bind fun xs_343 s_344 => Rs.ok (x_325 :: xs_343) s_344)).bind fun xs_345 s_346 => Rs.ok (x_323 :: xs_345) s_346)).bind fun xs_353 s_354 => Rs.ok (x_321 :: xs_353) s_354)).bind fun xs_355 s_356 => Rs.ok ((D.str "00") :: xs_355) s_356).bind fun xs_357 s_358 => Rs.ok ((D.dct false [] []) :: xs_357) s_358).bind fun xs_359 s_360 => Rs.ok ((nat 3) :: xs_359) s_360).bind fun xs_361 s_362 => Rs.ok (x_319 :: xs_361) s_362)).bind fun xs_363 s_364 => Rs.ok (x_317 :: xs_363) s_364)).bind fun xs_365 s_366 => Rs.ok (D.non :: xs_365) s_366).bind lstR).bind fun x_315 s_316 => (seqR x_315 s_316)).bind fun xs_419 s_420 => o2K (loopR (L_law_v5_4 C edges_26 size_7) xs_419 () s_420) fun st_250 s_251 => (((((((((((Rs.ok [(nat 0), (nat 0)] s_251).bind tupR).bind fun x_267 s_268 => Rs.ok [x_267] s_268).bind tupR).bind fun x_261 s_262 => ((((Rs.ok [(nat 0), (nat 0)] s_262).bind tupR).bind fun x_263 s_264 => Rs.ok [x_263] s_264).bind fun xs_265 s_266 => Rs.ok (x_261 :: xs_265) s_266)).bind fun xs_269 s_270 => Rs.ok ((nat 1) :: xs_269) s_270).bind (C.run 61)).bind fun x_259 s_260 => (cmpR .Is x_259 (D.bl true) s_260)).bind fun x_257 s_258 => (andK x_257 s_258 (((((((Rs.ok [] s_258).bind tupR).bind fun x_275 s_276 => ((((Rs.ok [(nat 0), (nat 0)] s_276).bind tupR).bind fun x_277 s_278 => Rs.ok [x_277] s_278).bind fun xs_279 s_280 => Rs.ok (x_275 :: xs_279) s_280)).bind fun xs_281 s_282 => Rs.ok ((nat 1) :: xs_281) s_282).bind (C.run 61)).bind fun x_273 s_274 => (cmpR .Is x_273 (D.bl false) s_274)).bind fun x_271 s_272 => (blR x_271 s_272)))).bind fun b_255 s_256 => Rs.ok (D.bl b_255) s_256).bind fun d_253 s_254 => Rs.ok (O3.rt d_253) s_254)))))))))
def S_law_v5 (C : Cl) (script0 : D) (s : Sto) : Rs D := retK (B_law_v5 C script0 s)
theorem sim_law_v5 (C : Cl) (script0 : D) (s : Sto) : Sim false (fun _ _ => True) (evSs C b_law_v5 [some (false, script0), none, none, none, none, none, none, none, none, none, none, none, none, none, none] s) (B_law_v5 C script0 s) := (sim_asg rfl rfl (show 1 < 15 from by decide) fun row_1 s_2 => (show Sim _ _ (evSs C _ [some (false, script0), some (false, row_1), none, none, none, none, none, none, none, none, none, none, none, none, none] s_2) _ from (sim_par rfl (fun s_9 => rfl) rfl fun size_7 edges_8 s_10 => (show Sim _ _ (evSs C _ [some (false, script0), some (false, row_1), none, some (false, edges_8), none, none, none, some (false, size_7), none, none, none, none, none, none, none] s_10) _ from (sim_for (fun (q_15st : D) (q_15e : MEnv) => ∃ (q_15j2 : Option (Bool × D)), q_15e = [some (false, script0), some (false, row_1), q_15j2, some (false, q_15st), none, none, none, some (false, size_7), none, none, none, none, none, none, none]) rfl ⟨_, rfl⟩ (by rintro x_433 st_431 _ s_432 ⟨j_434, rfl⟩; exact sim_L_law_v5_1 C script0 row_1 size_7 j_434 x_433 st_431 s_432) (by rintro st_23 _ s_24 ⟨j_25, rfl⟩; exact (show Sim _ _ (evSs C _ [some (false, script0), some (false, row_1), j_25, some (false, st_23), none, none, none, some (false, size_7), none, none, none, none, none, none, none] s_24) _ from (sim_asg rfl rfl (show 3 < 15 from by decide) fun edges_26 s_27 => (show Sim _ _ (evSs C _ [some (false, script0), some (false, row_1), j_25, some (false, edges_26), none, none, none, some (false, size_7), none, none, none, none, none, none, none] s_27) _ from (sim_asg (by show (((Rs.ok [edges_26] s_27).bind (bfnR .list)).bind fun x_34 s_35 => ((evE C c_law_v5_3 [some (false, script0), some (false, row_1), j_25, some (false, edges_26), none, none, none, some (false, size_7), none, none, none, none, none, none, none] s_35).bind fun x_36 s_37 => (binR .Add x_34 x_36 s_37))) = _; simp only [e_c_law_v5_3]) rfl (show 4 < 15 from by decide) fun both_28 s_29 => (show Sim _ _ (evSs C _ [some (false, script0), some (false, row_1), j_25, some (false, edges_26), some (false, both_28), none, none, some (false, size_7), none, none, none, none, none, none, none] s_29) _ from (sim_for (fun (q_38st : Unit) (q_38e : MEnv) => ∃ (q_38j5 : Option (Bool × D)) (q_38j8 : Option (Bool × D)) (q_38j9 : Option (Bool × D)) (q_38j10 : Option (Bool × D)) (q_38j11 : Option (Bool × D)), q_38e = [some (false, script0), some (false, row_1), j_25, some (false, edges_26), some (false, both_28), q_38j5, none, some (false, size_7), q_38j8, q_38j9, q_38j10, q_38j11, none, none, none]) rfl ⟨_, _, _, _, _, rfl⟩ (by rintro x_423 st_421 _ s_422 ⟨j_424, j_425, j_426, j_427, j_428, rfl⟩; exact sim_L_law_v5_2 C script0 row_1 j_25 edges_26 both_28 size_7 j_424 j_425 j_426 j_427 j_428 x_423 st_421 s_422) (by rintro st_212 _ s_213 ⟨j_214, j_215, j_216, j_217, j_218, rfl⟩; exact (show Sim _ _ (evSs C _ [some (false, script0), some (false, row_1), j_25, some (false, edges_26), some (false, both_28), j_214, none, some (false, size_7), j_215, j_216, j_217, j_218, none, none, none] s_213) _ from (sim_for (fun (q_219st : Unit) (q_219e : MEnv) => ∃ (q_219j6 : Option (Bool × D)), q_219e = [some (false, script0), some (false, row_1), j_25, some (false, edges_26), some (false, both_28), j_214, q_219j6, some (false, size_7), j_215, j_216, j_217, j_218, none, none, none]) rfl ⟨_, rfl⟩ (by rintro x_313 st_311 _ s_312 ⟨j_314, rfl⟩; exact sim_L_law_v5_4 C script0 row_1 j_25 edges_26 both_28 j_214 size_7 j_215 j_216 j_217 j_218 j_314 x_313 st_311 s_312) (by rintro st_250 _ s_251 ⟨j_252, rfl⟩; exact (show Sim _ _ (evSs C _ [some (false, script0), some (false, row_1), j_25, some (false, edges_26), some (false, both_28), j_214, j_252, some (false, size_7), j_215, j_216, j_217, j_218, none, none, none] s_251) _ from (sim_ret rfl rfl (fun z => nomatch z)))))))))))))))))))
theorem call_law_v5 {T : Tab} (h : T 62 = some F_law_v5) (k : Nat) (script0 : D) (s : Sto) : callF T (k + 1) 62 [script0] s = S_law_v5 (clOf T k) script0 s := call_sim h rfl (sim_law_v5 (clOf T k) script0 s)
structure H_law_v5 (T : Tab) : Prop where
  f : T 62 = some F_law_v5
  law_taken : H_law_taken T
  law_alike : H_law_alike T
  law_pick : H_law_pick T
  shows_odd_walk : H_shows_odd_walk T
end Mi
/-! P_k67: the law of odd walks judged gives True. -/
namespace Mi
open PySem PySem.Spec
/-- a filter with draws -/
theorem filL_st {α β : Type} {e : α → D} {e2 : β → D} {m : α → β} {f : D → Sto → Rs (Option D)} (P : Sto → Prop) : ∀ {l : List α} {s : Sto}, P s → (∀ a ∈ l, ∀ s, P s → ∃ (b : Bool) (s' : Sto), f (e a) s = .ok (if b then some (e2 (m a)) else none) s' ∧ P s') →
    ∃ (r : List α) (s' : Sto), filL f (l.map e) s = .ok ((r.map m).map e2) s' ∧ P s' ∧ r.Sublist l
  | [], s, h0, _ => ⟨[], s, rfl, h0, .slnil⟩
  | a :: l, s, h0, h => by
    obtain ⟨b, s1, h1, h2⟩ := h a (by simp) s h0
    obtain ⟨r, s2, h4, h5, h6⟩ := filL_st P (l := l) h2 fun c hc => h c (by simp [hc])
    cases b with
    | true => exact ⟨a :: r, s2, by rw [List.map_cons, filL, h1, Rs.bind_ok]; simp only [if_true, h4, Rs.bind_ok]; rfl, h5, h6.cons_cons a⟩
    | false => exact ⟨r, s2, by rw [List.map_cons, filL, h1, Rs.bind_ok]; simp only [Bool.false_eq_true, if_false, h4], h5, h6.cons a⟩
theorem fil_st {α β : Type} {e : α → D} {e2 : β → D} {m : α → β} {f : D → Sto → Rs (Option D)} (P : Sto → Prop) {l : List α} {s : Sto} (hl : l.length ≤ 16777216) (h0 : P s) (h : ∀ a ∈ l, ∀ s, P s → ∃ (b : Bool) (s' : Sto), f (e a) s = .ok (if b then some (e2 (m a)) else none) s' ∧ P s') :
    ∃ (r : List α) (s' : Sto), filR f (l.map e) s = .ok (.lst ((r.map m).map e2)) s' ∧ P s' ∧ r.Sublist l := by
  obtain ⟨r, s', h1, h2, h3⟩ := filL_st (e2 := e2) (m := m) P h0 h
  refine ⟨r, s', ?_, h2, h3⟩
  rw [filR, h1, Rs.still_ok, Rs.bind_ok, lst_ok (by rw [List.length_map, List.length_map]; exact Nat.le_trans h3.length_le hl)]
theorem sub_lastL {l : List Nat} (h : 1 ≤ l.length) (s : Sto) : subR (lN l) (.int (-1)) s = .ok (nat (l.getD (l.length - 1) 0)) s := by
  have := sub_last h s
  exact this
theorem sub_lN {l : List Nat} {i : Nat} (h : i < l.length) (s : Sto) : subR (lN l) (nat i) s = .ok (nat (l.getD i 0)) s := by
  have := sub_tN h s
  exact this
/-- both ways -/
def bothN (E : List (Nat × Nat)) : List (Nat × Nat) := E ++ E.map fun e => (e.2, e.1)
theorem both_mem {E : List (Nat × Nat)} {u v : Nat} : (u, v) ∈ bothN E ↔ joinN E u v = true := by
  simp only [bothN, joinN, List.mem_append, List.mem_map, decide_eq_true_eq, Prod.mk.injEq]
  constructor
  · rintro (h | ⟨⟨a, b⟩, h, rfl, rfl⟩)
    · exact .inl h
    · exact .inr h
  · rintro (h | h)
    · exact .inl h
    · exact .inr ⟨(v, u), h, rfl, rfl⟩
def lE (E : List (Nat × Nat)) : D := .lst (E.map eD)
@[simp] theorem seq_lE (E : List (Nat × Nat)) (s : Sto) : seqR (lE E) s = .ok (E.map eD) s := rfl
theorem nin_lE (E : List (Nat × Nat)) (u v : Nat) (s : Sto) : cmpR .NotIn (.tup [nat u, nat v]) (lE E) s = .ok (.bl (!decide ((u, v) ∈ E))) s := by
  have e1 : lE E = lR (E.map rowE) := by simp only [lE, lR, List.map_map]; rfl
  have e2 : D.tup [nat u, nat v] = tN [u, v] := rfl
  have e3 : decide ([u, v] ∈ E.map rowE) = decide ((u, v) ∈ E) := by
    rw [decide_eq_decide, List.mem_map]
    constructor
    · rintro ⟨⟨a, b⟩, h, q⟩
      simp only [rowE, List.cons.injEq, and_true] at q
      obtain ⟨rfl, rfl⟩ := q
      exact h
    · exact fun h => ⟨(u, v), h, rfl⟩
  rw [e1, e2, nin_lR, e3]
section
variable {T : Tab} {k : Nat} {s : Sto}
theorem v5_J (h : H_law_v5 T) (hk : 5 ≤ k) {z : Nat} {E : List (Nat × Nat)} (hz : 1 ≤ z ∧ z ≤ 4) (g : IsG z E) {l : List Nat} (hl : ∀ x ∈ l, x < z) (few : l.length ≤ 1000) : J_law_v5_1 (clOf T k) (.ref 0) (tE E) (lE (bothN E)) (nat z) (lN l) s = .ok (.nx ()) s := by
  have ng : negR (nat 1) s = .ok (.int (-1)) s := rfl
  have ln : bfnR .len [lN l] s = .ok (nat l.length) s := by simp [lN]
  have od := s_odd h.shows_odd_walk hk hz g hl few (s := s)
  have no := s_odd_no h.shows_odd_walk hk hz g (d := lN l) (s := s) (by simp [lN])
  have al := s_alike h.law_alike 0 (show 0 + 1 ≤ k by omega) (d := .bl (oddN E l)) rfl (s := s)
  have isn : cmpR .IsNot (.bl false) (.bl false) s = .ok (.bl false) s := rfl
  -- what is due
  have due : (((((Rs.ok [lN l] s).bind (bfnR .len)).bind fun x_104 s_105 => (cmpR .Gt x_104 (nat 1) s_105)).bind fun x_102 s_103 => (andK x_102 s_103 (((((Rs.ok [lN l] s_103).bind (bfnR .len)).bind fun x_110 s_111 => (binR .Mod x_110 (nat 2) s_111)).bind fun x_108 s_109 => (cmpR .Eq x_108 (nat 0) s_109)).bind fun x_106 s_107 => (andK x_106 s_107 (((subR (lN l) (nat 0) s_107).bind fun x_114 s_115 => (((negR (nat 1) s_115).bind fun x_118 s_119 => (subR (lN l) x_118 s_119)).bind fun x_116 s_117 => (cmpR .Eq x_114 x_116 s_117))).bind fun x_112 s_113 => (blR x_112 s_113)))))).bind fun b_100 s_101 => Rs.ok (D.bl b_100) s_101) =
      .ok (.bl (decide (1 < l.length ∧ l.length % 2 = 0 ∧ l.getD 0 0 = l.getD (l.length - 1) 0))) s := by
    simp only [Rs.bind_ok, ln, cmp_gt, andK_bl, bin_mod (show 1 ≤ 2 by decide), cmp_eq]
    by_cases c1 : 1 < l.length
    · simp only [c1, decide_true, if_true, sub_lN (show 0 < l.length by omega), ng, sub_lastL (show 1 ≤ l.length by omega), Rs.bind_ok, cmp_eq, blR_bl, true_and]
      by_cases c2 : l.length % 2 = 0
      · simp only [c2, decide_true, if_true, Rs.bind_ok, true_and]
      · simp only [c2, decide_false, Bool.false_eq_true, if_false, Rs.bind_ok, false_and]
    · simp only [c1, decide_false, Bool.false_eq_true, if_false, Rs.bind_ok, false_and]
  have hc : 1 ≤ l.length → Sc_law_v5_6 (clOf T k) (lE (bothN E)) (lN l) s = .ok (.lst (((List.range' 1 (l.length - 1)).filter fun i => !joinN E (l.getD (i - 1) 0) (l.getD i 0)).map nat)) s := fun _ => by
    simp only [Sc_law_v5_6, Rs.bind_ok, ln, rng2_nat (show 1 ≤ 1000000000 by decide) (show l.length ≤ 1000000000 by omega)]
    refine fil_ok (g := nat) (fun i => !joinN E (l.getD (i - 1) 0) (l.getD i 0)) (by rw [List.length_range']; omega) fun i hi => ?_
    have hi := List.mem_range'_1.mp hi
    have hi1 : i - 1 < l.length := by omega
    have hi2 : i < l.length := by omega
    have jn : decide ((l.getD (i - 1) 0, l.getD i 0) ∈ bothN E) = joinN E (l.getD (i - 1) 0) (l.getD i 0) := by
      rw [Bool.eq_iff_iff, decide_eq_true_eq]; exact both_mem
    simp only [bin_subN hi.1, Rs.bind_ok, sub_lN hi1, sub_lN hi2, tup2_ok, nin_lE, jn, truR_bl]
    cases joinN E (l.getD (i - 1) 0) (l.getD i 0) <;> rfl
  have due2 : ((andK (.bl (decide (1 < l.length ∧ l.length % 2 = 0 ∧ l.getD 0 0 = l.getD (l.length - 1) 0))) s (((Sc_law_v5_6 (clOf T k) (lE (bothN E)) (lN l) s).bind fun x_146 s_147 => (((Rs.ok [] s_147).bind lstR).bind fun x_148 s_149 => (cmpR .Eq x_146 x_148 s_149))).bind fun x_144 s_145 => (blR x_144 s_145))).bind fun b_142 s_143 => Rs.ok (D.bl b_142) s_143) = .ok (.bl (oddN E l)) s := by
    by_cases c : 1 < l.length ∧ l.length % 2 = 0 ∧ l.getD 0 0 = l.getD (l.length - 1) 0
    · have pl : ((((List.range' 1 (l.length - 1)).filter fun i => !joinN E (l.getD (i - 1) 0) (l.getD i 0)).map nat).all (D.plain 59)) = true := by simp
      have em : (((List.range' 1 (l.length - 1)).filter fun i => !joinN E (l.getD (i - 1) 0) (l.getD i 0)).map nat).isEmpty = (List.range' 1 (l.length - 1)).all fun i => joinN E (l.getD (i - 1) 0) (l.getD i 0) := by
        rw [List.isEmpty_map, Bool.eq_iff_iff, List.isEmpty_iff, List.filter_eq_nil_iff, List.all_eq_true]
        simp
      simp only [decide_eq_true c, andK_bl, if_true, hc (by omega), Rs.bind_ok, lst0_ok, cmp_eq_lst0 _ pl, blR_bl, em, oddN, Bool.true_and]
    · simp only [decide_eq_false c, andK_bl, Bool.false_eq_true, if_false, Rs.bind_ok, oddN, Bool.false_and]
  have tu : bfnR .tuple [lN l] s = .ok (tN l) s := rfl
  unfold J_law_v5_1
  rw [due, Rs.bind_ok, due2, Rs.bind_ok]
  simp only [Rs.bind_ok, tu, run_clOf, od, al, truR_bl, Bool.not_true, Bool.false_eq_true, if_false, no, isn]
theorem v5_step (h : H_law_v5 T) (hk : 5 ≤ k) {z : Nat} {E : List (Nat × Nat)} (hz : 1 ≤ z ∧ z ≤ 4) (g : IsG z E) {l : List Nat} (h1 : 1 ≤ l.length) (few : l.length ≤ 1000) (x : D) (hs : Dr s) :
    ∃ v s', L_law_v5_3 (clOf T k) (.ref 0) (tE E) (lE (bothN E)) (nat z) x (lN l) s = .ok (.nx (lN (l ++ [v]))) s' ∧ v < z ∧ Dr s' := by
  have ng : negR (nat 1) s = .ok (.int (-1)) s := rfl
  have bl : (bothN E).length ≤ 32 := by have := g.few; simp only [bothN, List.length_append, List.length_map]; omega
  have bv : ∀ e ∈ bothN E, e.1 < z ∧ e.2 < z := fun e he => by
    rcases List.mem_append.mp he with w | w
    · have := g.ok e w; omega
    · obtain ⟨q, hq, rfl⟩ := List.mem_map.mp w
      have := g.ok q hq; simp only; omega
  have hc : Sc_law_v5_4 (clOf T k) (lE (bothN E)) (lN l) s = .ok (lN (((bothN E).filter fun e => decide (e.1 = l.getD (l.length - 1) 0)).map (·.2))) s := by
    simp only [Sc_law_v5_4, seq_lE, Rs.bind_ok, lN, List.map_map]
    refine fil_ok (g := fun e : Nat × Nat => nat e.2) (fun e => decide (e.1 = l.getD (l.length - 1) 0)) (by omega) fun e _ => ?_
    have la := sub_lastL h1 s
    simp only [lN] at la
    simp only [sub_e0, sub_e1, ng, la, Rs.bind_ok, cmp_eq, truR_bl]
    generalize l.getD (l.length - 1) 0 = y
    by_cases c : e.1 = y <;> simp [c]
  generalize hS : ((bothN E).filter fun e => decide (e.1 = l.getD (l.length - 1) 0)).map (·.2) = S at hc
  have Sv : ∀ x ∈ S, x < z := fun x hx => by
    rw [← hS] at hx
    obtain ⟨e, he, rfl⟩ := List.mem_map.mp hx
    exact (bv e (List.mem_filter.mp he).1).2
  have Sl : S.length ≤ 32 := by
    rw [← hS, List.length_map]
    exact Nat.le_trans (List.length_filter_le _ _) bl
  have ne : cmpR .NotEq (lN S) (.lst []) s = .ok (.bl (!(S.map nat).isEmpty)) s := cmp_ne_lst0 (S.map nat) (by simp) s
  have ap : ∀ v, appD (lN l) (nat v) = some (lN (l ++ [v])) := fun v => by
    rw [lN, app_ok _ (by rw [List.length_map]; omega), lN, List.map_append]; rfl
  cases S with
  | nil =>
    obtain ⟨v, s1, e1, b1, d1⟩ := s_taken h.law_taken (show 1 ≤ k by omega) (m := z) (by omega) hs
    refine ⟨v, s1, ?_, b1, d1⟩
    simp only [L_law_v5_3, hc, Rs.bind_ok, lst0_ok, ne, List.map_nil, List.isEmpty_nil, Bool.not_true, truR_bl, Bool.false_eq_true, if_false, run_clOf, e1, ap, optK_some]
  | cons y S =>
    obtain ⟨w, s1, e1, b1, d1⟩ := s_taken h.law_taken (show 1 ≤ k by omega) (m := 8) (by omega) hs
    by_cases c : 0 < w
    · obtain ⟨d, s2, e2, m2, d2⟩ := s_law_pick h.law_pick (show 2 ≤ k by omega) (d := lN (y :: S)) (xs := (y :: S).map nat) (.inl rfl) ⟨by simp, by rw [List.length_map]; omega⟩ d1
      obtain ⟨v, hv, rfl⟩ := List.mem_map.mp m2
      refine ⟨v, s2, ?_, Sv v hv, d2⟩
      simp only [L_law_v5_3, hc, Rs.bind_ok, lst0_ok, ne, List.map_cons, List.isEmpty_cons, Bool.not_false, truR_bl, if_true, run_clOf, e1, cmp_gt, c, decide_true, e2, ap, optK_some]
    · obtain ⟨v, s2, e2, b2, d2⟩ := s_taken h.law_taken (show 1 ≤ k by omega) (m := z) (by omega) d1
      refine ⟨v, s2, ?_, b2, d2⟩
      simp only [L_law_v5_3, hc, Rs.bind_ok, lst0_ok, ne, List.map_cons, List.isEmpty_cons, Bool.not_false, truR_bl, if_true, run_clOf, e1, cmp_gt, c, decide_false, Bool.false_eq_true, if_false, e2, ap, optK_some]
theorem v5_turn (h : H_law_v5 T) (hk : 5 ≤ k) {z : Nat} {E : List (Nat × Nat)} (hz : 1 ≤ z ∧ z ≤ 4) (g : IsG z E) (x : D) (hs : Dr s) : ∃ s', L_law_v5_2 (clOf T k) (.ref 0) (tE E) (lE (bothN E)) (nat z) x () s = .ok (.nx ()) s' ∧ Dr s' := by
  obtain ⟨v, s1, e1, b1, d1⟩ := s_taken h.law_taken (show 1 ≤ k by omega) (m := z) (by omega) hs
  obtain ⟨w, s2, e2, b2, d2⟩ := s_taken h.law_taken (show 1 ≤ k by omega) (m := 9) (by omega) d1
  obtain ⟨st, s3, e3, l, rfl, l1, l2, d3⟩ := loop_inv (e := nat) (step := L_law_v5_3 (clOf T k) (.ref 0) (tE E) (lE (bothN E)) (nat z)) (fun j st s => ∃ l : List Nat, st = lN l ∧ l.length = j + 1 ∧ (∀ x ∈ l, x < z) ∧ Dr s) (List.range w) 0 (lN [v]) s2 ⟨[v], rfl, rfl, by simpa using b1, d2⟩ (by
    rintro i y st s hy ⟨l, rfl, l1, l2, dr⟩
    have hi : i < w := by have := (List.getElem?_eq_some_iff.mp hy).1; simpa using this
    obtain ⟨u, s', e, b, d⟩ := v5_step h hk hz g (l := l) (by omega) (by omega) (nat y) dr
    exact ⟨_, s', e, l ++ [u], rfl, by simp; omega, fun x hx => (List.mem_append.mp hx).elim (l2 x) fun q => by simp at q; subst q; exact b, d⟩)
  rw [List.length_range] at l1
  obtain ⟨q, s4, e4, b4, d4⟩ := s_taken h.law_taken (show 1 ≤ k by omega) (m := 2) (by omega) d3
  have l0 : D.lst [nat v] = lN [v] := rfl
  by_cases c : q = 0
  · have ap : appD (lN l) (nat (l.getD 0 0)) = some (lN (l ++ [l.getD 0 0])) := by
      rw [lN, app_ok _ (by rw [List.length_map]; omega), lN, List.map_append]; rfl
    have fin := v5_J h hk hz g (l := l ++ [l.getD 0 0]) (fun x hx => (List.mem_append.mp hx).elim (l2 x) fun q => by
      simp at q; subst q
      have := getD_lt l2 (show 0 < l.length by omega)
      simpa [List.getD_eq_getElem?_getD] using this) (by simp; omega) (s := s4)
    refine ⟨s4, ?_, d4⟩
    simp only [L_law_v5_2, Rs.bind_ok, run_clOf, e1, lst1_ok, l0, e2, rng1_nat (show w ≤ 1000000000 by omega), e3, o2K_nx, e4, cmp_eq, c, decide_true, truR_bl, if_true, sub_lN (show 0 < l.length by omega), ap, optK_some, fin]
  · have fin := v5_J h hk hz g l2 (by omega) (s := s4)
    refine ⟨s4, ?_, d4⟩
    simp only [L_law_v5_2, Rs.bind_ok, run_clOf, e1, lst1_ok, l0, e2, rng1_nat (show w ≤ 1000000000 by omega), e3, o2K_nx, e4, cmp_eq, c, decide_false, truR_bl, Bool.false_eq_true, if_false, fin]
theorem v5_edges (h : H_law_v5 T) (hk : 1 ≤ k) {z : Nat} (hz : 1 ≤ z ∧ z ≤ 4) (hs : Dr s) : ∃ E s', loopR (L_law_v5_1 (clOf T k) (.ref 0) (nat z)) ((List.range z).map nat) (.lst []) s = .ok (.nx (lE E)) s' ∧ Dr s' ∧ IsG z E := by
  obtain ⟨st, s1, e1, E, rfl, d1, l1, o1, a1⟩ := loop_inv (e := nat) (step := L_law_v5_1 (clOf T k) (.ref 0) (nat z)) (fun j st s => ∃ E, st = lE E ∧ Dr s ∧ E.length ≤ 4 * j ∧ (∀ e ∈ E, e.1 ≤ e.2 ∧ e.2 < z ∧ e.1 < j) ∧ E.Pairwise fun a b => rowE a < rowE b) (List.range z) 0 (lE []) s ⟨[], rfl, hs, by simp, by simp, by simp⟩ (by
    rintro i a st s ha ⟨E, rfl, dr, l1, o1, a1⟩
    obtain ⟨hi, rfl⟩ : i < z ∧ i = a := by
      obtain ⟨q1, q2⟩ := List.getElem?_eq_some_iff.mp ha
      simp at q1 q2
      exact ⟨q1, q2⟩
    obtain ⟨r, s1, f1, d1, sb⟩ := fil_st (e := nat) (e2 := eD) (m := fun b => (i, b)) (f := fun x s => (keepR (((((Rs.ok [D.ref 0, (nat 3)] s).bind ((clOf T k).run 15)).bind fun x_5 s_6 => (cmpR .Gt x_5 (nat 0) s_6)).bind fun x_3 s_4 => (truR x_3 s_4)).bind fun b_1 s_2 => if b_1 then ((((cmpR .NotEq (nat i) x s_2).bind fun x_11 s_12 => (truR x_11 s_12)).bind fun b_9 s_10 => if b_9 then Rs.ok true s_10 else (((((Rs.ok [D.ref 0, (nat 4)] s_10).bind ((clOf T k).run 15)).bind fun x_17 s_18 => (cmpR .Eq x_17 (nat 0) s_18)).bind fun x_15 s_16 => (truR x_15 s_16)).bind fun b_13 s_14 => if b_13 then Rs.ok true s_14 else (Rs.ok false s_14))).bind fun b_7 s_8 => if b_7 then (Rs.ok true s_8) else Rs.ok false s_8) else Rs.ok false s_2) fun s => ((Rs.ok [nat i, x] s).bind tupR))) Dr (l := List.range' i (z - i)) (s := s) (by rw [List.length_range']; omega) dr (by
      intro b hb s dr
      obtain ⟨v, s1, e1, b1, d1⟩ := s_taken h.law_taken hk (m := 3) (by omega) dr
      by_cases c : 0 < v
      · by_cases c2 : i = b
        · obtain ⟨w, s2, e2, b2, d2⟩ := s_taken h.law_taken hk (m := 4) (by omega) d1
          refine ⟨decide (w = 0), s2, ?_, d2⟩
          simp only [Rs.bind_ok, run_clOf, e1, cmp_gt, c, decide_true, truR_bl, if_true, cmp_ne, c2, Bool.not_true, Bool.false_eq_true, if_false, e2, cmp_eq]
          by_cases c3 : w = 0
          · simp only [c3, decide_true, if_true, Rs.bind_ok, keepR_t, tup2_ok]; rfl
          · simp only [c3, decide_false, Bool.false_eq_true, if_false, Rs.bind_ok, keepR_f]
        · refine ⟨true, s1, ?_, d1⟩
          simp only [Rs.bind_ok, run_clOf, e1, cmp_gt, c, decide_true, truR_bl, if_true, cmp_ne, c2, decide_false, Bool.not_false, keepR_t, tup2_ok]
          rfl
      · refine ⟨false, s1, ?_, d1⟩
        simp only [Rs.bind_ok, run_clOf, e1, cmp_gt, c, decide_false, truR_bl, Bool.false_eq_true, if_false, keepR_f])
    have rl := sb.length_le
    rw [List.length_range'] at rl
    have rm : ∀ b ∈ r, i ≤ b ∧ b < z := fun b hb => by
      have := List.mem_range'_1.mp (sb.subset hb)
      omega
    have hc : Sc_law_v5_1 (clOf T k) (.ref 0) (nat i) (nat z) s = .ok (lE (r.map fun b => (i, b))) s1 := by
      simp only [Sc_law_v5_1, rng2_nat (show i ≤ 1000000000 by omega) (show z ≤ 1000000000 by omega), Rs.bind_ok]
      exact f1
    refine ⟨lE (E ++ r.map fun b => (i, b)), s1, ?_, _, rfl, d1, by rw [List.length_append, List.length_map]; omega, fun e he => ?_, ?_⟩
    · simp only [L_law_v5_1, hc, Rs.bind_ok]
      rw [lE, lE, cat_lst (by simp only [List.length_map]; omega), lE, List.map_append]
      rfl
    · rcases List.mem_append.mp he with w | w
      · obtain ⟨q1, q2, q3⟩ := o1 e w
        exact ⟨q1, q2, by omega⟩
      · obtain ⟨b, hb, rfl⟩ := List.mem_map.mp w
        have := rm b hb
        simp only
        omega
    · rw [List.pairwise_append]
      refine ⟨a1, ?_, fun e he q hq => ?_⟩
      · refine List.pairwise_map.mpr ((List.Pairwise.sublist sb List.pairwise_lt_range').imp fun {a b} hab => ?_)
        simp only [rowE, List.cons_lt_cons_iff]
        exact .inr ⟨trivial, .inl hab⟩
      · obtain ⟨b, hb, rfl⟩ := List.mem_map.mp hq
        have := o1 e he
        simp only [rowE, List.cons_lt_cons_iff]
        exact .inl (by omega))
  rw [List.length_range] at l1 o1
  exact ⟨E, s1, e1, d1, by omega, fun e he => ⟨(o1 e he).1, (o1 e he).2.1⟩, a1⟩
theorem in_no (h : H_is_in T) (hk : 2 ≤ k) {x : D} {m : Int} (hx : x = .int (-1) ∨ x = .non ∨ x = .bl true ∨ x = .lst []) : callF T k 1 [x, nat 0, .int m] s = .ok (.bl false) s := by
  obtain ⟨k, rfl, hj⟩ := lv hk
  obtain ⟨k, rfl, hj2⟩ := lv hj
  rw [call_is_in h.f]
  have i0 : ∀ d, callF T (k + 1) 0 [d] s = S_is_int (clOf T k) d s := fun d => call_is_int h.is_int.f k d s
  have le : cmpD .LtE s (nat 0) (.int (-1)) = some false := rfl
  rcases hx with rfl | rfl | rfl | rfl
  · simp [S_is_in, B_is_in, i0, S_is_int, B_is_int, le]
  · simp [S_is_in, B_is_in, i0, S_is_int, B_is_int]
  · simp [S_is_in, B_is_in, i0, S_is_int, B_is_int]
  · simp [S_is_in, B_is_in, i0, S_is_int, B_is_int]
theorem v5_odd (h : H_law_v5 T) (hk : 5 ≤ k) {z : Nat} {E : List (Nat × Nat)} (hz : 1 ≤ z ∧ z ≤ 4) (g : IsG z E) : ∀ d ∈ [D.non, .tup [], .tup [nat 0], nat 3, .dct false [] [], .str "00", .tup [nat z, nat z], .tup [.int (-1), .int (-1)], .tup [.non, .non], .tup [.bl true, .bl true], .tup [.lst [], .lst []], .tup [nat 0, nat 0, nat 0]],
    callF T k 61 [nat z, tE E, d] s = .ok (.bl false) s := by
  intro d hd
  have ho := h.shows_odd_walk
  simp only [List.mem_cons, List.not_mem_nil, or_false] at hd
  rcases hd with rfl | rfl | rfl | rfl | rfl | rfl | rfl | rfl | rfl | rfl | rfl | rfl
  · exact s_odd_no ho hk hz g (by simp)
  · exact s_odd_len ho hk hz g (by simp)
  · exact s_odd_len ho hk hz g (by simp)
  · exact s_odd_no ho hk hz g (by simp)
  · exact s_odd_no ho hk hz g rfl
  · exact s_odd_no ho hk hz g (by simp)
  · refine s_odd_bad ho hk hz g (by simp) ?_
    have := s_is_in1 ho.is_in (show 2 ≤ k - 1 by omega) (n := z) (a := 0) hz.1 (s := s)
    rw [this]; simp
  · exact s_odd_bad ho hk hz g rfl (in_no ho.is_in (by omega) (.inl rfl))
  · exact s_odd_bad ho hk hz g rfl (in_no ho.is_in (by omega) (.inr (.inl rfl)))
  · exact s_odd_bad ho hk hz g rfl (in_no ho.is_in (by omega) (.inr (.inr (.inl rfl))))
  · exact s_odd_bad ho hk hz g rfl (in_no ho.is_in (by omega) (.inr (.inr (.inr rfl))))
  · exact s_odd_len ho hk hz g (by simp)
theorem law_true_k67 (h : H_law_v5 T) (hk : 20 ≤ k) (ns : List Int) : ∃ s', callF T k 62 [.scr ns] [] = .ok (.bl true) s' := by
  obtain ⟨k, rfl, hj⟩ := lv hk
  rw [call_law_v5 h.f]
  obtain ⟨v1, s1, e1, b1, d1⟩ := s_taken h.law_taken (show 1 ≤ k by omega) (m := 4) (by omega) (dr_start ns 3267)
  have hz : 1 ≤ 1 + v1 ∧ 1 + v1 ≤ 4 := by omega
  generalize hzz : 1 + v1 = z at hz
  obtain ⟨E, s2, e2, d2, g⟩ := v5_edges h (show 1 ≤ k by omega) hz d1
  have tu : bfnR .tuple [lE E] s2 = .ok (tE E) s2 := rfl
  have li : bfnR .list [tE E] s2 = .ok (lE E) s2 := rfl
  have few := g.few
  have hc : Sc_law_v5_3 (clOf T k) (tE E) s2 = .ok (lE (E.map fun e => (e.2, e.1))) s2 := by
    simp only [Sc_law_v5_3, seq_tE, Rs.bind_ok]
    rw [map_ok (g := fun e : Nat × Nat => eD (e.2, e.1)) (by omega), lE, List.map_map]
    · rfl
    · intro e _
      simp only [sub_e0, sub_e1, Rs.bind_ok, tup2_ok]
      rfl
  have ca : binR .Add (lE E) (lE (E.map fun e => (e.2, e.1))) s2 = .ok (lE (bothN E)) s2 := by
    rw [lE, lE, cat_lst (by simp only [List.length_map]; omega), lE, bothN, List.map_append]
  obtain ⟨st, s3, e3, d3⟩ := loop_inv (e := nat) (step := L_law_v5_2 (clOf T k) (.ref 0) (tE E) (lE (bothN E)) (nat z)) (fun _ _ s => Dr s) (List.range 6) 0 () s2 d2 (by
    rintro i x st s _ dr
    obtain ⟨s', e, d⟩ := v5_turn h (show 5 ≤ k by omega) hz g (nat x) dr
    exact ⟨(), s', e, d⟩)
  obtain ⟨lo, _⟩ := loop_fold (s := s3) (e := id) (E := fun _ : Unit => ()) (g := fun _ _ => ()) (step := L_law_v5_4 (clOf T k) (tE E) (nat z)) (fun _ => True) (l := [D.non, .tup [], .tup [nat 0], nat 3, .dct false [] [], .str "00", .tup [nat z, nat z], .tup [.int (-1), .int (-1)], .tup [.non, .non], .tup [.bl true, .bl true], .tup [.lst [], .lst []], .tup [nat 0, nat 0, nat 0]]) (t := ()) trivial fun d hd _ _ => ⟨by
    have o := v5_odd h (show 5 ≤ k by omega) hz g d hd (s := s3)
    have isn : cmpR .IsNot (.bl false) (.bl false) s3 = .ok (.bl false) s3 := rfl
    simp only [L_law_v5_4, id, Rs.bind_ok, run_clOf, o, isn, truR_bl, Bool.false_eq_true, if_false], trivial⟩
  rw [List.map_id] at lo
  have g1 : IsG 1 [(0, 0)] := ⟨by simp, by simp, by simp⟩
  have g0 : IsG 1 [] := ⟨by simp, by simp, by simp⟩
  have y1 := s_odd h.shows_odd_walk (show 5 ≤ k by omega) (z := 1) (by decide) g1 (l := [0, 0]) (by simp) (by simp) (s := s3)
  have y0 := s_odd h.shows_odd_walk (show 5 ≤ k by omega) (z := 1) (by decide) g0 (l := [0, 0]) (by simp) (by simp) (s := s3)
  have o1 : oddN [(0, 0)] [0, 0] = true := by decide
  have o0 : oddN [] [0, 0] = false := by decide
  rw [o1] at y1
  rw [o0] at y0
  have r6 : rng1R (nat 6) s2 = .ok ((List.range 6).map nat) s2 := rng1_nat (by decide) s2
  have ng : negR (nat 1) s3 = .ok (.int (-1)) s3 := rfl
  have t12 : lstR [D.non, .tup [], .tup [nat 0], nat 3, .dct false [] [], .str "00", .tup [nat z, nat z], .tup [.int (-1), .int (-1)], .tup [.non, .non], .tup [.bl true, .bl true], .tup [.lst [], .lst []], .tup [nat 0, nat 0, nat 0]] s3 = .ok (.lst [D.non, .tup [], .tup [nat 0], nat 3, .dct false [] [], .str "00", .tup [nat z, nat z], .tup [.int (-1), .int (-1)], .tup [.non, .non], .tup [.bl true, .bl true], .tup [.lst [], .lst []], .tup [nat 0, nat 0, nat 0]]) s3 := lst_ok (by show 12 ≤ 16777216; decide) s3
  have isT : cmpR .Is (.bl true) (.bl true) s3 = .ok (.bl true) s3 := rfl
  have isF : cmpR .Is (.bl false) (.bl false) s3 = .ok (.bl true) s3 := rfl
  have w1 : D.tup [D.tup [nat 0, nat 0]] = tE [(0, 0)] := rfl
  have w0 : D.tup [] = tE [] := rfl
  have w2 : D.tup [nat 0, nat 0] = tN [0, 0] := rfl
  have e2' : loopR (L_law_v5_1 (clOf T k) (.ref 0) (nat z)) ((List.range z).map nat) (.lst []) s1 = .ok (.nx (lE E)) s2 := e2
  refine ⟨s3, ?_⟩
  simp only [S_law_v5, B_law_v5, Rs.bind_ok, lst4_ok, heap0, run_clOf, e1, bin_add, hzz, lst0_ok, rng1_nat (show z ≤ 1000000000 by omega), e2', o2K_nx, tu, li, hc, ca, r6, e3, tup0_ok, tup1_ok, tup2_ok, tup3_ok, ng, t12, seq_lst, lo]
  have z1 : (nat 1) = nat 1 := rfl
  rw [w1, w2, w0]
  simp only [y1, y0, Rs.bind_ok, isT, isF, andK_bl, if_true, blR_bl, retK_rt]
end
end Mi
/-! M2: how the values of M1 lie in the heap, and what is kept from step to step. -/
namespace Mi
open PySem PySem.Spec PyProof.Rows L2

def isMut : D → Bool
  | .lst _ => true
  | .dct _ _ _ => true
  | _ => false
def kD : Key → D
  | .inl i => .int i
  | .inr x => .str x
/-- a list or tuple of the module's own text -/
def KL (T : String) (K : PySem.W.Frag) (a : Addr) (xs : List V) : Prop :=
  ∃ (o : Obj) (its : Array Value) (n : Nat), K.lookup a = some o ∧ o.cls = .type T ∧ (T = "list" → o.dict = none) ∧ o.data = .seq its n ∧ its.size ≤ sizeLine ∧ Vals xs its.toList

section
variable (K : PySem.W.Frag) (G : Addr → Prop) (μ : List Addr) (H : Hp)
mutual
/-- a value that stays as it is: its lists are in G -/
inductive Val : D → V → Prop
  | non : Val .non .non
  | bl (b : Bool) : Val (.bl b) (.bl b)
  | int (i : Int) : Val (.int i) (.int i)
  | str (s : Str) : Val (.str s) (.str s)
  | tup {a : Addr} {ds : List D} {vs : List V} : H a = some (.tup vs) → Vls ds vs → Val (.tup ds) (.ref a)
  | lst {a : Addr} {ds : List D} {vs : List V} : G a → H a = some (.lst vs) → Vls ds vs → Val (.lst ds) (.ref a)
  | scr {a : Addr} {ns : List Int} : G a ∧ Rd H a (.lst (ns.map V.int)) ∨ KL "list" K a (ns.map V.int) → Val (.scr ns) (.ref a)
  | dK {a : Addr} {kvs : List (Key × V)} {ds : List D} : G a → H a = some (.dK kvs) → Vls ds (kvs.map (·.2)) → Val (.dct false (kvs.map fun p => kD p.1) ds) (.ref a)
  | dT {a : Addr} {kvs : List (List Key × V)} {ds : List D} : G a → H a = some (.dT kvs) → Vls ds (kvs.map (·.2)) → Val (.dct true (kvs.map fun p => .tup (p.1.map kD)) ds) (.ref a)
  | ref {n : Nat} {a : Addr} : μ[n]? = some a → Val (.ref n) (.ref a)
inductive Vls : List D → List V → Prop
  | nil : Vls [] []
  | cons {d : D} {v : V} {ds : List D} {vs : List V} : Val d v → Vls ds vs → Vls (d :: ds) (v :: vs)
end
/-- what lies at a, whoever owns it -/
inductive At : Addr → D → Prop
  | lst {a : Addr} {ds : List D} {vs : List V} : H a = some (.lst vs) → Vls K G μ H ds vs → At a (.lst ds)
  | dK {a : Addr} {kvs : List (Key × V)} {ds : List D} : H a = some (.dK kvs) → Vls K G μ H ds (kvs.map (·.2)) → At a (.dct false (kvs.map fun p => kD p.1) ds)
  | dT {a : Addr} {kvs : List (List Key × V)} {ds : List D} : H a = some (.dT kvs) → Vls K G μ H ds (kvs.map (·.2)) → At a (.dct true (kvs.map fun p => .tup (p.1.map kD)) ds)
/-- a value that can be read: it stays, or it is owned by a name, or it is new -/
def Top (d : D) (v : V) : Prop := Val K G μ H d v ∨ ∃ a, v = .ref a ∧ a ∉ μ ∧ ¬ G a ∧ At K G μ H a d
/-- .. a new one, or one without a list at the top -/
def New (H₀ : Hp) (d : D) (v : V) : Prop := (isMut d = false ∧ Val K G μ H d v) ∨ ∃ a, v = .ref a ∧ a ∉ μ ∧ ¬ G a ∧ H₀ a = none ∧ At K G μ H a d
/-- the store -/
inductive Ob : MO → Addr → Prop
  | lst {a : Addr} {ds : List D} {vs : List V} : H a = some (.lst vs) → Vls K G μ H ds vs → Ob (.lst ds) a
structure Sk (s : Sto) : Prop where
  len : μ.length = s.length
  nd : μ.Nodup
  g : ∀ a ∈ μ, ¬ G a
  ob : ∀ (n : Nat) (o : MO), s[n]? = some o → ∃ a, μ[n]? = some a ∧ Ob K G μ H o a
  dom : ∀ a, G a → H a ≠ none
end

/-- from one state to a later one, where nothing but the store was changed -/
structure Ext (G : Addr → Prop) (μ : List Addr) (H : Hp) (G' : Addr → Prop) (μ' : List Addr) (H' : Hp) : Prop where
  keep : ∀ a o, a ∉ μ → H a = some o → H' a = some o
  dom : ∀ a, H' a = none → H a = none
  g : ∀ a, G a → G' a
  gn : ∀ a, G' a → G a ∨ H a = none
  m : ∃ ν, μ' = μ ++ ν ∧ ∀ a ∈ ν, H a = none
/-- .. where what stays has stayed -/
structure Stay (G : Addr → Prop) (μ : List Addr) (H : Hp) (G' : Addr → Prop) (μ' : List Addr) (H' : Hp) : Prop where
  keep : ∀ a o, G a → H a = some o → H' a = some o
  tup : ∀ a xs, H a = some (.tup xs) → H' a = some (.tup xs)
  dom : ∀ a, H' a = none → H a = none
  g : ∀ a, G a → G' a
  m : ∃ ν, μ' = μ ++ ν

section
variable {K : PySem.W.Frag} {G G' G'' : Addr → Prop} {μ μ' μ'' : List Addr} {H H' H'' : Hp} {s s' : Sto} {d : D} {v : V} {ds : List D} {vs : List V}
theorem Ext.refl : Ext G μ H G μ H := ⟨fun _ _ _ e => e, fun _ e => e, fun _ h => h, fun _ h => .inl h, [], by simp, by simp⟩
theorem Ext.trans (a : Ext G μ H G' μ' H') (b : Ext G' μ' H' G'' μ'' H'') : Ext G μ H G'' μ'' H'' := by
  obtain ⟨ν, e, f⟩ := a.m
  obtain ⟨ν', e', f'⟩ := b.m
  refine ⟨fun x o hx hh => b.keep x o (fun hm => ?_) (a.keep x o hx hh), fun x h => a.dom x (b.dom x h), fun x h => b.g x (a.g x h), fun x h => ?_, ν ++ ν', by rw [e', e, List.append_assoc], fun x hx => ?_⟩
  · rw [e] at hm
    rcases List.mem_append.mp hm with z | z
    · exact hx z
    · rw [f x z] at hh; cases hh
  · rcases b.gn x h with z | z
    · exact a.gn x z
    · exact .inr (a.dom x z)
  · rcases List.mem_append.mp hx with z | z
    · exact f x z
    · exact a.dom x (f' x z)
theorem Stay.refl : Stay G μ H G μ H := ⟨fun _ _ _ e => e, fun _ _ e => e, fun _ e => e, fun _ h => h, [], by simp⟩
theorem Stay.trans (a : Stay G μ H G' μ' H') (b : Stay G' μ' H' G'' μ'' H'') : Stay G μ H G'' μ'' H'' := by
  obtain ⟨ν, e⟩ := a.m
  obtain ⟨ν', e'⟩ := b.m
  exact ⟨fun x o hx hh => b.keep x o (a.g x hx) (a.keep x o hx hh), fun x xs h => b.tup x xs (a.tup x xs h), fun x h => a.dom x (b.dom x h), fun x h => b.g x (a.g x h), ν ++ ν', by rw [e', e, List.append_assoc]⟩
theorem Rd.mono {a : Addr} {u : HO} (h : ∀ o, H a = some o → H' a = some o) (r : Rd H a u) : Rd H' a u := by
  rcases r with r | ⟨o, r⟩
  · exact .inl (h _ r)
  · exact .inr ⟨o, h _ r⟩
/-- no tuple stands on the store -/
theorem Sk.noTup (S : Sk K G μ H s) {a : Addr} {xs : List V} (r : H a = some (.tup xs)) : a ∉ μ := fun hm => by
  obtain ⟨n, hn, e⟩ := List.mem_iff_getElem.mp hm
  have hs : n < s.length := by rw [← S.len]; exact hn
  obtain ⟨o, ho⟩ : ∃ o, s[n]? = some o := ⟨_, List.getElem?_eq_getElem hs⟩
  obtain ⟨b, hb, ob⟩ := S.ob n o ho
  have eb : b = a := by
    rw [List.getElem?_eq_getElem hn, e] at hb
    exact (Option.some.inj hb).symm
  subst eb
  cases ob with
  | lst h _ => rw [h] at r; cases r
theorem Ext.stay (S : Sk K G μ H s) (e : Ext G μ H G' μ' H') : Stay G μ H G' μ' H' :=
  ⟨fun a o g h => e.keep a o (fun hm => S.g a hm g) h, fun a xs r => e.keep a _ (S.noTup r) r, e.dom, e.g, let ⟨ν, h, _⟩ := e.m; ⟨ν, h⟩⟩
mutual
theorem Val.mono (S : Stay G μ H G' μ' H') : ∀ {d : D} {v : V}, Val K G μ H d v → Val K G' μ' H' d v
  | _, _, .non => .non
  | _, _, .bl b => .bl b
  | _, _, .int i => .int i
  | _, _, .str x => .str x
  | _, _, .tup h r => .tup (S.tup _ _ h) (Vls.mono S r)
  | _, _, .lst g h r => .lst (S.g _ g) (S.keep _ _ g h) (Vls.mono S r)
  | _, _, .scr h => .scr (h.imp (fun ⟨g, q⟩ => ⟨S.g _ g, Rd.mono (fun o z => S.keep _ o g z) q⟩) id)
  | _, _, .dK g h r => .dK (S.g _ g) (S.keep _ _ g h) (Vls.mono S r)
  | _, _, .dT g h r => .dT (S.g _ g) (S.keep _ _ g h) (Vls.mono S r)
  | _, _, .ref h => .ref (by
      obtain ⟨ν, e⟩ := S.m
      rw [e]
      exact (List.getElem?_append_left (List.getElem?_eq_some_iff.mp h).1).trans h)
theorem Vls.mono (S : Stay G μ H G' μ' H') : ∀ {ds : List D} {vs : List V}, Vls K G μ H ds vs → Vls K G' μ' H' ds vs
  | _, _, .nil => .nil
  | _, _, .cons h r => .cons (Val.mono S h) (Vls.mono S r)
end
theorem At.mono (S : Stay G μ H G' μ' H') {a : Addr} (k : ∀ o, H a = some o → H' a = some o) (h : At K G μ H a d) : At K G' μ' H' a d := by
  cases h with
  | lst e r => exact .lst (k _ e) (r.mono S)
  | dK e r => exact .dK (k _ e) (r.mono S)
  | dT e r => exact .dT (k _ e) (r.mono S)
theorem At.there {a : Addr} (h : At K G μ H a d) : H a ≠ none := by
  cases h with
  | lst e r => rw [e]; exact fun z => nomatch z
  | dK e r => rw [e]; exact fun z => nomatch z
  | dT e r => rw [e]; exact fun z => nomatch z
theorem At.mut {a : Addr} (h : At K G μ H a d) : isMut d = true := by cases h <;> rfl
theorem Vls.length : ∀ {ds : List D} {vs : List V}, Vls K G μ H ds vs → ds.length = vs.length
  | _, _, .nil => rfl
  | _, _, .cons _ r => congrArg (· + 1) r.length
theorem Vls.get : ∀ {ds : List D} {vs : List V}, Vls K G μ H ds vs → ∀ {i : Nat} {d : D}, ds[i]? = some d → ∃ v, vs[i]? = some v ∧ Val K G μ H d v
  | _, _, .nil, _, _, h => by simp at h
  | _, _, .cons (v := v) h r, 0, d, e => by
    simp at e; subst e; exact ⟨v, rfl, h⟩
  | _, _, .cons h r, i + 1, d, e => by
    obtain ⟨v, e1, e2⟩ := r.get (i := i) (d := d) (by simpa using e)
    exact ⟨v, by simpa using e1, e2⟩
theorem Vls.append : ∀ {ds : List D} {vs : List V}, Vls K G μ H ds vs → ∀ {es : List D} {us : List V}, Vls K G μ H es us → Vls K G μ H (ds ++ es) (vs ++ us)
  | _, _, .nil, _, _, r => r
  | _, _, .cons h q, _, _, r => .cons h (q.append r)
theorem Vls.set {d : D} {v : V} (h : Val K G μ H d v) : ∀ {ds : List D} {vs : List V}, Vls K G μ H ds vs → ∀ i, Vls K G μ H (ds.set i d) (vs.set i v)
  | _, _, .nil, _ => .nil
  | _, _, .cons _ r, 0 => .cons h r
  | _, _, .cons q r, i + 1 => .cons q (r.set h i)
theorem Vls.take : ∀ {ds : List D} {vs : List V}, Vls K G μ H ds vs → ∀ n, Vls K G μ H (ds.take n) (vs.take n)
  | _, _, _, 0 => .nil
  | _, _, .nil, _ + 1 => .nil
  | _, _, .cons h r, n + 1 => .cons h (r.take n)
theorem Vls.drop : ∀ {ds : List D} {vs : List V}, Vls K G μ H ds vs → ∀ n, Vls K G μ H (ds.drop n) (vs.drop n)
  | _, _, r, 0 => r
  | _, _, .nil, _ + 1 => .nil
  | _, _, .cons h r, n + 1 => r.drop n

/-- what was owned or new is put among what stays -/
def addG (G : Addr → Prop) (a : Addr) : Addr → Prop := fun b => G b ∨ b = a
theorem Stay.addG {a : Addr} : Stay G μ H (addG G a) μ H := ⟨fun _ _ _ e => e, fun _ _ e => e, fun _ e => e, fun _ h => .inl h, [], by simp⟩
theorem At.val {a : Addr} (h : At K G μ H a d) : Val K (addG G a) μ H d (.ref a) := by
  cases h with
  | lst e r => exact .lst (.inr rfl) e (r.mono Stay.addG)
  | dK e r => exact .dK (.inr rfl) e (r.mono Stay.addG)
  | dT e r => exact .dT (.inr rfl) e (r.mono Stay.addG)
theorem Ob.mono (S : Stay G μ H G' μ' H') {o : MO} {a : Addr} (k : ∀ u, H a = some u → H' a = some u) (h : Ob K G μ H o a) : Ob K G' μ' H' o a := by
  cases h with
  | lst e r => exact .lst (k _ e) (r.mono S)
theorem Sk.addG (S : Sk K G μ H s) {a : Addr} (ha : a ∉ μ) (he : H a ≠ none) : Sk K (addG G a) μ H s :=
  ⟨S.len, S.nd, fun b hb z => z.elim (S.g b hb) fun e => ha (e ▸ hb), fun n o h => let ⟨b, h1, h2⟩ := S.ob n o h; ⟨b, h1, h2.mono Stay.addG fun _ q => q⟩, fun b z => z.elim (S.dom b) fun e => e ▸ he⟩
theorem Ext.addG {a : Addr} (ha : H a = none) (e : Ext G μ H G' μ' H') : Ext G μ H (Mi.addG G' a) μ' H' :=
  ⟨e.keep, e.dom, fun b h => .inl (e.g b h), fun b h => h.elim (e.gn b) fun z => .inr (z ▸ ha), e.m⟩
theorem Top.mono (S : Sk K G μ H s) (e : Ext G μ H G' μ' H') (h : Top K G μ H d v) : Top K G' μ' H' d v := by
  rcases h with h | ⟨a, rfl, h1, h2, h3⟩
  · exact .inl (h.mono (e.stay S))
  · refine .inr ⟨a, rfl, fun hm => ?_, fun hg => ?_, h3.mono (e.stay S) fun o q => e.keep a o h1 q⟩
    · obtain ⟨ν, e1, e2⟩ := e.m
      rw [e1] at hm
      rcases List.mem_append.mp hm with z | z
      · exact h1 z
      · exact h3.there (e2 a z)
    · rcases e.gn a hg with z | z
      · exact h2 z
      · exact h3.there z
theorem Val.top (h : Val K G μ H d v) : Top K G μ H d v := .inl h
theorem New.top {H₀ : Hp} (h : New K G μ H H₀ d v) : Top K G μ H d v := by
  rcases h with ⟨_, h⟩ | ⟨a, h0, h1, h2, _, h4⟩
  · exact .inl h
  · exact .inr ⟨a, h0, h1, h2, h4⟩
theorem New.back {H₀ H₁ : Hp} (h : New K G μ H H₁ d v) (e : ∀ a, H₁ a = none → H₀ a = none) : New K G μ H H₀ d v := by
  rcases h with h | ⟨a, h0, h1, h2, h3, h4⟩
  · exact .inl h
  · exact .inr ⟨a, h0, h1, h2, e a h3, h4⟩
end
end Mi
/-! W0: a tuple times 1 is itself. -/
namespace Mi
open PySem PySem.Spec PyProof.Rows L2
theorem tup_mul1 (l : Addr) (items : Array Value) (n : Nat) (dd : Option Addr) (sl : Array (Option Value)) (u : Tok) :
    Meets (Builtin.«tuple.__mul__» ⟨[.ref l, .int 1 u], []⟩) (fun _ R s => s.heap.get? l = some { cls := .type "tuple", dict := dd, data := .seq items n, slots := sl } ∧ R (.ok (.ret (Value.ref l))) s) :=
  .of_wp fun prog w A R s h => by
    obtain ⟨hp, g, d, tk, os⟩ := s
    obtain ⟨hl, h⟩ := h
    have f1 := AutoSeq1.idx_int
    wp_walk using wpAny_loadPart' hl
    exact ⟨_, rfl, h⟩
def rRep1 (K : PySem.W.Frag) : R2 := fun x y H Q => ∃ l xs, x = .ref l ∧ y = .int 1 ∧ SqT K H l xs ∧ Q (.ref l) H
theorem op_rep1 {X : Cx} : OpR X (binaryOp .Mult) (rRep1 X.K) := by
  intro pins s σ H x y v u Q I rx ry h
  obtain ⟨l, xs, rfl, rfl, hT, q⟩ := h
  cases rx
  obtain ⟨t, rfl⟩ := ry
  obtain ⟨its, r, ⟨⟨cls, dd, data, sl⟩, ho, hc, n, hd⟩, hs⟩ := I.tuple hT
  simp only at hc hd
  subst hc hd
  exact wpAny_binaryOp_repeat_ref (T := "tuple") (U := "int") (by decide) ⟨_, ho, rfl⟩ (fun s' => typeIs_int s' 1 t) noFill_tuple_mul F.fills_int_mul F.slot_int_rmul repeat_tuple F.slot_int_index.lookup
    (call_meets F.slot_int_rmul (typeIs_int s 1 t) F.entry_int_rmul (F.args_int_rmul_2 _ _) (int_rmul_tuple 1 t l its.toArray n dd sl)
      ⟨ho, rfl, ⟨_, ho, rfl⟩, call_meets F.slot_tuple_mul ⟨_, ho, rfl⟩ F.entry_tuple_mul (F.args_tuple_mul_2 _ _) (tup_mul1 l its.toArray n dd sl t) ⟨ho, ⟨.ref l, H, I, rfl, q⟩⟩⟩)
end Mi
/-! M3: the operators. -/
namespace Mi
open PySem PySem.Spec PyProof.Rows L2

section
variable {K : PySem.W.Frag} {G G' : Addr → Prop} {μ μ' : List Addr} {H H' : Hp} {s s' : Sto} {d : D} {v : V} {ds : List D} {vs : List V}
theorem Sk.there (S : Sk K G μ H s) {a : Addr} (h : a ∈ μ) : H a ≠ none := by
  obtain ⟨n, hn, e⟩ := List.mem_iff_getElem.mp h
  have hs : n < s.length := by rw [← S.len]; exact hn
  obtain ⟨o, ho⟩ : ∃ o, s[n]? = some o := ⟨_, List.getElem?_eq_getElem hs⟩
  obtain ⟨b, hb, ob⟩ := S.ob n o ho
  have eb : b = a := by
    rw [List.getElem?_eq_getElem hn, e] at hb
    exact (Option.some.inj hb).symm
  subst eb
  cases ob with
  | lst h _ => rw [h]; exact fun z => nomatch z
theorem Sk.free (S : Sk K G μ H s) {p : Addr} (hp : H p = none) : p ∉ μ ∧ ¬ G p := ⟨fun h => S.there h hp, fun h => S.dom p h hp⟩
theorem Ext.laid {p : Addr} {o : HO} (hp : H p = none) : Ext G μ H G μ (upd H p o) :=
  ⟨fun a u _ h => by rw [upd_ne (ne_of_none h hp)]; exact h, fun a h => by
    by_cases e : a = p
    · rw [e]; exact hp
    · rw [upd_ne e] at h; exact h, fun _ h => h, fun _ h => .inl h, [], by simp, by simp⟩
theorem Sk.ext (S : Sk K G μ H s) (e : Ext G μ H G μ H') (k : ∀ a ∈ μ, ∀ u, H a = some u → H' a = some u) : Sk K G μ H' s :=
  ⟨S.len, S.nd, S.g, fun n o h => let ⟨a, h1, h2⟩ := S.ob n o h; ⟨a, h1, h2.mono (e.stay S) (k a (List.mem_of_getElem? h1))⟩, fun a g z => S.dom a g (e.dom a z)⟩
theorem Sk.laid (S : Sk K G μ H s) {p : Addr} {o : HO} (hp : H p = none) : Sk K G μ (upd H p o) s :=
  S.ext (Ext.laid hp) fun a _ u h => by rw [upd_ne (ne_of_none h hp)]; exact h
theorem new_lst (S : Sk K G μ H s) {p : Addr} (hp : H p = none) (r : Vls K G μ H ds vs) : New K G μ (upd H p (.lst vs)) H (.lst ds) (.ref p) :=
  .inr ⟨p, rfl, (S.free hp).1, (S.free hp).2, hp, .lst upd_same (r.mono ((Ext.laid hp).stay S))⟩
theorem val_tup (S : Sk K G μ H s) {p : Addr} (hp : H p = none) (r : Vls K G μ H ds vs) : Val K G μ (upd H p (.tup vs)) (.tup ds) (.ref p) :=
  .tup upd_same (r.mono ((Ext.laid hp).stay S))

/-- what a deref'd value tells -/
theorem Top.int {i : Int} (h : Top K G μ H d v) (e : deref s d = .int i) : v = .int i ∧ d = .int i := by
  rcases h with h | ⟨a, rfl, _, _, h⟩
  · cases h <;> simp [deref] at e
    · subst e; exact ⟨rfl, rfl⟩
    · split at e <;> cases e
  · cases h <;> simp [deref] at e
theorem Top.str {x : Str} (h : Top K G μ H d v) (e : deref s d = .str x) : v = .str x := by
  rcases h with h | ⟨a, rfl, _, _, h⟩
  · cases h <;> simp [deref] at e
    · subst e; rfl
    · split at e <;> cases e
  · cases h <;> simp [deref] at e
theorem Top.bl {b : Bool} (h : Top K G μ H d v) (e : deref s d = .bl b) : v = .bl b := by
  rcases h with h | ⟨a, rfl, _, _, h⟩
  · cases h <;> simp [deref] at e
    · subst e; rfl
    · split at e <;> cases e
  · cases h <;> simp [deref] at e
theorem Top.non (h : Top K G μ H d v) (e : deref s d = .non) : v = .non := by
  rcases h with h | ⟨a, rfl, _, _, h⟩
  · cases h <;> simp [deref] at e
    · rfl
    · split at e <;> cases e
  · cases h <;> simp [deref] at e
theorem Top.tup {xs : List D} (h : Top K G μ H d v) (e : deref s d = .tup xs) : ∃ a vs, v = .ref a ∧ H a = some (.tup vs) ∧ Vls K G μ H xs vs := by
  rcases h with h | ⟨a, rfl, _, _, h⟩
  · cases h <;> simp [deref] at e
    · subst e
      exact ⟨_, _, rfl, by assumption, by assumption⟩
    · split at e <;> cases e
  · cases h <;> simp [deref] at e
theorem Top.lst (S : Sk K G μ H s) {xs : List D} (h : Top K G μ H d v) (e : deref s d = .lst xs) : ∃ a vs, v = .ref a ∧ H a = some (.lst vs) ∧ Vls K G μ H xs vs := by
  rcases h with h | ⟨a, rfl, _, _, h⟩
  · cases h <;> simp [deref] at e
    · subst e
      exact ⟨_, _, rfl, by assumption, by assumption⟩
    · rename_i n a hn
      split at e
      · rename_i ys hy
        cases e
        obtain ⟨b, h1, h2⟩ := S.ob n _ hy
        rw [hn] at h1
        cases h1
        cases h2 with
        | lst h3 h4 => exact ⟨_, _, rfl, h3, h4⟩
      · cases e
  · cases h <;> simp [deref] at e
    subst e
    exact ⟨_, _, rfl, by assumption, by assumption⟩
theorem Top.scr {ns : List Int} (h : Top K G μ H d v) (e : deref s d = .scr ns) : ∃ a, v = .ref a ∧ SqL K H a (ns.map V.int) := by
  rcases h with h | ⟨a, rfl, _, _, h⟩
  · cases h <;> simp [deref] at e
    · subst e
      rename_i q
      refine ⟨_, rfl, ?_⟩
      rcases q with ⟨_, q⟩ | ⟨o, its, n, h1, h2, h3, h4, h5, h6⟩
      · exact .inl q
      · exact .inr ⟨o, its, n, h1, h2, h3 rfl, h4, h5, h6⟩
    · split at e <;> cases e
  · cases h <;> simp [deref] at e
theorem Vls.ints : ∀ {ds : List D} {vs : List V}, Vls K G μ H ds vs → ∀ {ns : List Int}, intsOf ds = some ns → vs = ns.map V.int
  | _, _, .nil, ns, e => by
    simp [intsOf] at e; subst e; rfl
  | _, _, .cons h r, ns, e => by
    rename_i d v ds vs
    cases h <;> simp [intsOf] at e
    obtain ⟨ms, e1, e2⟩ := e
    subst e2
    rw [r.ints e1]; rfl
theorem Vls.bls : ∀ {ds : List D} {vs : List V}, Vls K G μ H ds vs → ∀ {bs : List Bool}, blsOf ds = some bs → vs = bs.map V.bl
  | _, _, .nil, ns, e => by
    simp [blsOf] at e; subst e; rfl
  | _, _, .cons h r, ns, e => by
    rename_i d v ds vs
    cases h <;> simp [blsOf] at e
    obtain ⟨ms, e1, e2⟩ := e
    subst e2
    rw [r.bls e1]; rfl
end

/-- what an operation on values of the language is -/
def rBin (K : PySem.W.Frag) (f : Sto → D → D → Option D) : R2 := fun x y H Q => ∃ G μ s dx dy d, Sk K G μ H s ∧ Top K G μ H dx x ∧ Top K G μ H dy y ∧ f s dx dy = some d ∧
  ∀ v H', Ext G μ H G μ H' → Sk K G μ H' s → New K G μ H' H d v → Q v H'
theorem lenOk_le {n : Nat} (h : lenOk n = true) : n ≤ sizeLine := of_decide_eq_true h
theorem Vls.inj_nil {K : PySem.W.Frag} {G : Addr → Prop} {μ : List Addr} {H : Hp} {ds : List D} (r : Vls K G μ H ds []) : ds = [] := by cases r; rfl
theorem vls_flat {K : PySem.W.Frag} {G : Addr → Prop} {μ : List Addr} {H : Hp} {ds : List D} {vs : List V} (r : Vls K G μ H ds vs) : ∀ n : Nat, Vls K G μ H (List.replicate n ds).flatten (List.replicate n vs).flatten
  | 0 => .nil
  | n + 1 => by
    rw [List.replicate_succ, List.replicate_succ, List.flatten_cons, List.flatten_cons]
    exact r.append (vls_flat r n)

section
variable {X : Cx}
theorem op_bin (op : Operator) : OpR X (binaryOp op) (rBin X.K (binD op)) := by
  intro pins s σ H x y v u Q I rx ry h
  obtain ⟨G, μ, st, dx, dy, d, S, tx, ty, e, q⟩ := h
  have flat : ∀ z : D, ∀ w : V, isMut z = false → Val X.K G μ H z w → z = d → Q w H := fun z w hz hv hd => by
    subst hd; exact q w H .refl S (.inl ⟨hz, hv⟩)
  unfold binD at e
  split at e
  · -- int + int
    rename_i i j h1 h2
    obtain ⟨rfl, _⟩ := tx.int h1
    obtain ⟨rfl, _⟩ := ty.int h2
    cases e
    exact op_add pins s σ H _ _ v u Q I rx ry ⟨i, j, rfl, rfl, flat _ _ rfl (.int _) rfl⟩
  · rename_i i j h1 h2
    obtain rfl := tx.str h1
    obtain rfl := ty.str h2
    split at e
    · rename_i hz
      cases e
      exact op_add_str pins s σ H _ _ v u Q I rx ry ⟨i, j, rfl, rfl, lenOk_le hz, flat _ _ rfl (.str _) rfl⟩
    · cases e
  · rename_i i j h1 h2
    obtain ⟨a, us, rfl, ha, ra⟩ := tx.tup h1
    obtain ⟨b, ws, rfl, hb, rb⟩ := ty.tup h2
    split at e
    · rename_i hz
      cases e
      refine op_catA pins s σ H _ _ v u Q I rx ry ⟨a, b, us, ws, rfl, rfl, .of ha, .of hb, by rw [← ra.length, ← rb.length]; exact lenOk_le hz, fun e0 => ?_, fun _ e0 => ?_, fun _ _ p hp => ?_⟩
      · subst e0
        obtain rfl := ra.inj_nil
        exact flat _ _ rfl (.tup hb rb) rfl
      · subst e0
        obtain rfl := rb.inj_nil
        exact flat _ _ rfl (.tup ha ra) (by rw [List.append_nil])
      · exact q _ _ (.laid hp) (S.laid hp) (.inl ⟨rfl, val_tup S hp (ra.append rb)⟩)
    · cases e
  · rename_i i j h1 h2
    obtain ⟨a, us, rfl, ha, ra⟩ := tx.lst S h1
    obtain ⟨b, ws, rfl, hb, rb⟩ := ty.lst S h2
    split at e
    · rename_i hz
      cases e
      exact op_cat pins s σ H _ _ v u Q I rx ry ⟨a, b, us, ws, rfl, rfl, ha, hb, by rw [← ra.length, ← rb.length]; exact lenOk_le hz, fun p hp => q _ _ (.laid hp) (S.laid hp) (new_lst S hp (ra.append rb))⟩
    · cases e
  · rename_i i j h1 h2
    obtain ⟨rfl, _⟩ := tx.int h1
    obtain ⟨rfl, _⟩ := ty.int h2
    cases e
    exact op_sub pins s σ H _ _ v u Q I rx ry ⟨i, j, rfl, rfl, flat _ _ rfl (.int _) rfl⟩
  · rename_i i j h1 h2
    obtain ⟨rfl, _⟩ := tx.int h1
    obtain ⟨rfl, _⟩ := ty.int h2
    split at e
    · rename_i hz
      cases e
      refine op_mul pins s σ H _ _ v u Q I rx ry ⟨i, j, rfl, rfl, ?_, flat _ _ rfl (.int _) rfl⟩
      have hz : i64 i = true ∨ i64 j = true := by simpa using hz
      exact hz.elim (fun z => .inl (i64_iff z)) fun z => .inr (i64_iff z)
    · cases e
  · rename_i i j h1 h2
    obtain ⟨a, us, rfl, ha, ra⟩ := tx.lst S h1
    obtain ⟨rfl, _⟩ := ty.int h2
    split at e
    · rename_i hz
      cases e
      simp only [Bool.and_eq_true, decide_eq_true_eq] at hz
      obtain ⟨⟨z1, z2⟩, z3⟩ := hz
      exact op_rep pins s σ H _ _ v u Q I rx ry ⟨a, j, us, rfl, rfl, ha, z1, z2, by rw [← ra.length]; exact lenOk_le z3, fun p hp => q _ _ (.laid hp) (S.laid hp) (new_lst S hp (vls_flat ra _))⟩
    · cases e
  · rename_i i j h1 h2
    obtain ⟨a, us, rfl, ha, ra⟩ := tx.tup h1
    obtain ⟨rfl, _⟩ := ty.int h2
    split at e
    · rename_i hz
      cases e
      simp only [Bool.and_eq_true, decide_eq_true_eq, Bool.not_eq_true', List.isEmpty_eq_false_iff] at hz
      obtain ⟨⟨⟨z0, z1⟩, z2⟩, z3⟩ := hz
      by_cases h11 : j = 1
      · subst h11
        refine op_rep1 pins s σ H _ _ v u Q I rx ry ⟨a, us, rfl, rfl, .of ha, q _ _ .refl S (.inl ⟨rfl, ?_⟩)⟩
        have e9 : (List.replicate (1 : Int).toNat i).flatten = i := by
          rw [show (1 : Int).toNat = 1 from rfl]; simp
        rw [e9]
        exact .tup ha ra
      refine op_repT pins s σ H _ _ v u Q I rx ry ⟨a, j, us, rfl, rfl, .of ha, fun e0 => ?_, by omega, z2, by rw [← ra.length]; exact z3, fun p hp => q _ _ (.laid hp) (S.laid hp) (.inl ⟨rfl, val_tup S hp (vls_flat ra _)⟩)⟩
      subst e0
      exact z0 ra.inj_nil
    · cases e
  · rename_i i j h1 h2
    obtain ⟨rfl, _⟩ := tx.int h1
    obtain ⟨rfl, _⟩ := ty.int h2
    split at e
    · rename_i hz
      cases e
      exact op_fdivN pins s σ H _ _ v u Q I rx ry ⟨i, j, rfl, rfl, hz, flat _ _ rfl (.int _) rfl⟩
    · cases e
  · rename_i i j h1 h2
    obtain ⟨rfl, _⟩ := tx.int h1
    obtain ⟨rfl, _⟩ := ty.int h2
    split at e
    · rename_i hz
      cases e
      exact op_modN pins s σ H _ _ v u Q I rx ry ⟨i, j, rfl, rfl, hz, flat _ _ rfl (.int _) rfl⟩
    · cases e
  · rename_i i j h1 h2
    obtain ⟨rfl, _⟩ := tx.int h1
    obtain ⟨rfl, _⟩ := ty.int h2
    split at e
    · rename_i hz
      cases e
      refine op_pow pins s σ H _ _ v u Q I rx ry ⟨i, j, rfl, rfl, ?_, flat _ _ rfl (.int _) rfl⟩
      exact powOk_iff hz
    · cases e
  · rename_i i j h1 h2
    obtain ⟨rfl, _⟩ := tx.int h1
    obtain ⟨rfl, _⟩ := ty.int h2
    split at e
    · rename_i hz
      cases e
      refine op_shl pins s σ H _ _ v u Q I rx ry ⟨i, j, rfl, rfl, ?_, flat _ _ rfl (.int _) rfl⟩
      exact powOk_iff hz
    · cases e
  · rename_i i j h1 h2
    obtain ⟨rfl, _⟩ := tx.int h1
    obtain ⟨rfl, _⟩ := ty.int h2
    split at e
    · rename_i hz
      cases e
      exact op_shr pins s σ H _ _ v u Q I rx ry ⟨i, j, rfl, rfl, hz, flat _ _ rfl (.int _) rfl⟩
    · cases e
  · rename_i i j h1 h2
    obtain ⟨rfl, _⟩ := tx.int h1
    obtain ⟨rfl, _⟩ := ty.int h2
    cases e
    exact op_and pins s σ H _ _ v u Q I rx ry ⟨i, j, rfl, rfl, flat _ _ rfl (.int _) rfl⟩
  · rename_i i j h1 h2
    obtain ⟨rfl, _⟩ := tx.int h1
    obtain ⟨rfl, _⟩ := ty.int h2
    cases e
    exact op_or pins s σ H _ _ v u Q I rx ry ⟨i, j, rfl, rfl, flat _ _ rfl (.int _) rfl⟩
  · cases e
end
end Mi
/-! M4: comparisons, truth, items, slices. -/
namespace Mi
open PySem PySem.Spec PyProof.Rows L2

/-! ### data -/
mutual
theorem eqv_toP : ∀ (a b : D) (n m : Nat), D.plain n a = true → D.plain m b = true → PyData.eqv a.toP b.toP = D.eqv a b
  | .non, b, n, m, _, hb => by cases b <;> first | rfl | simp [D.plain] at hb
  | .bl x, b, n, m, _, hb => by cases b <;> first | rfl | simp [D.plain] at hb
  | .int x, b, n, m, _, hb => by cases b <;> first | rfl | simp [D.plain] at hb
  | .str x, b, n, m, _, hb => by cases b <;> first | rfl | simp [D.plain] at hb
  | .tup xs, b, n, m, ha, hb => by
    cases b with
    | tup ys =>
      cases n with
      | zero => simp [D.plain] at ha
      | succ n =>
        cases m with
        | zero => simp [D.plain] at hb
        | succ m =>
          simp only [D.toP, PyData.eqv, D.eqv]
          exact eqvs_toPs xs ys n m (by simpa [D.plain] using ha) (by simpa [D.plain] using hb)
    | dct _ _ _ => simp [D.plain] at hb
    | ref _ => simp [D.plain] at hb
    | scr _ => simp [D.plain] at hb
    | _ => rfl
  | .lst xs, b, n, m, ha, hb => by
    cases b with
    | lst ys =>
      cases n with
      | zero => simp [D.plain] at ha
      | succ n =>
        cases m with
        | zero => simp [D.plain] at hb
        | succ m =>
          simp only [D.toP, PyData.eqv, D.eqv]
          exact eqvs_toPs xs ys n m (by simpa [D.plain] using ha) (by simpa [D.plain] using hb)
    | dct _ _ _ => simp [D.plain] at hb
    | ref _ => simp [D.plain] at hb
    | scr _ => simp [D.plain] at hb
    | _ => rfl
  | .dct _ _ _, _, n, _, ha, _ => by simp [D.plain] at ha
  | .ref _, _, n, _, ha, _ => by simp [D.plain] at ha
  | .scr _, _, n, _, ha, _ => by simp [D.plain] at ha
theorem eqvs_toPs : ∀ (as bs : List D) (n m : Nat), (∀ x ∈ as, D.plain n x = true) → (∀ x ∈ bs, D.plain m x = true) → PyData.eqvAll (D.toPs as) (D.toPs bs) = D.eqvs as bs
  | [], [], _, _, _, _ => rfl
  | [], _ :: _, _, _, _, _ => rfl
  | _ :: _, [], _, _, _, _ => rfl
  | a :: as, b :: bs, n, m, ha, hb => by
    simp only [D.toPs, PyData.eqvAll, D.eqvs]
    rw [eqv_toP a b n m (ha _ (by simp)) (hb _ (by simp)), eqvs_toPs as bs n m (fun x hx => ha x (by simp [hx])) (fun x hx => hb x (by simp [hx]))]
end
mutual
theorem lay_toP : ∀ (a : D) (n : Nat), D.plain n a = true → a.toP.canLay0 = true ∧ a.toP.depth ≤ n
  | .non, n, _ => ⟨rfl, by simp [D.toP, PyData.depth]⟩
  | .bl x, n, _ => ⟨rfl, by simp [D.toP, PyData.depth]⟩
  | .int x, n, _ => ⟨rfl, by simp [D.toP, PyData.depth]⟩
  | .str x, n, h => ⟨by simpa [D.plain, D.toP, PyData.canLay0] using h, by simp [D.toP, PyData.depth]⟩
  | .tup xs, 0, h => by simp [D.plain] at h
  | .tup xs, n + 1, h => by
    obtain ⟨h1, h2⟩ := lays_toPs xs n (by simpa [D.plain] using h)
    exact ⟨by simpa [D.toP, PyData.canLay0] using h1, by simp only [D.toP, PyData.depth]; omega⟩
  | .lst xs, 0, h => by simp [D.plain] at h
  | .lst xs, n + 1, h => by
    obtain ⟨h1, h2⟩ := lays_toPs xs n (by simpa [D.plain] using h)
    exact ⟨by simpa [D.toP, PyData.canLay0] using h1, by simp only [D.toP, PyData.depth]; omega⟩
  | .dct _ _ _, n, h => by simp [D.plain] at h
  | .ref _, n, h => by simp [D.plain] at h
  | .scr _, n, h => by simp [D.plain] at h
theorem lays_toPs : ∀ (as : List D) (n : Nat), (∀ x ∈ as, D.plain n x = true) → PyData.canLayAll0 (D.toPs as) = true ∧ PyData.depthAll (D.toPs as) ≤ n
  | [], n, _ => ⟨rfl, by simp [D.toPs, PyData.depthAll]⟩
  | a :: as, n, h => by
    obtain ⟨h1, h2⟩ := lay_toP a n (h _ (by simp))
    obtain ⟨h3, h4⟩ := lays_toPs as n fun x hx => h x (by simp [hx])
    refine ⟨by simp [D.toPs, PyData.canLayAll0, h1, h3], ?_⟩
    simp only [D.toPs, PyData.depthAll]
    omega
end
theorem shaped_toP {a : D} (h : D.plain 60 a = true) : SeqAt.shaped a.toP = true := by
  obtain ⟨h1, h2⟩ := lay_toP a 60 h
  simp [SeqAt.shaped, h1]
  omega

section
variable {K : PySem.W.Frag} {G G' : Addr → Prop} {μ μ' : List Addr} {H H' : Hp} {s s' : Sto} {d : D} {v : V} {ds : List D} {vs : List V}
mutual
theorem Val.dp : ∀ {d : D} {v : V}, Val K G μ H d v → ∀ {n : Nat}, D.plain n d = true → Dp K H v d.toP
  | _, _, .non, _, _ => .non
  | _, _, .bl b, _, _ => .bl b
  | _, _, .int i, _, _ => .int i
  | _, _, .str x, _, _ => .str x
  | _, _, .tup h r, 0, p => by simp [D.plain] at p
  | _, _, .tup h r, n + 1, p => .tup (.of h) (Vls.dp r (n := n) (by simpa [D.plain] using p))
  | _, _, .lst _ h r, 0, p => by simp [D.plain] at p
  | _, _, .lst _ h r, n + 1, p => .lst (.of h) (Vls.dp r (n := n) (by simpa [D.plain] using p))
  | _, _, .dK _ _ _, _, p => by simp [D.plain] at p
  | _, _, .dT _ _ _, _, p => by simp [D.plain] at p
  | _, _, .ref _, _, p => by simp [D.plain] at p
  | _, _, .scr _, _, p => by simp [D.plain] at p
theorem Vls.dp : ∀ {ds : List D} {vs : List V}, Vls K G μ H ds vs → ∀ {n : Nat}, (∀ x ∈ ds, D.plain n x = true) → DpAll K H vs (D.toPs ds)
  | _, _, .nil, _, _ => .nil
  | _, _, .cons h r, n, p => .cons (h.dp (p _ (by simp))) (r.dp fun x hx => p x (by simp [hx]))
end
theorem Top.dp (S : Sk K G μ H s) (h : Top K G μ H d v) {n : Nat} (p : D.plain n (deref s d) = true) : Dp K H v (deref s d).toP := by
  generalize e : deref s d = z at *
  cases z with
  | non => rw [h.non e]; exact .non
  | bl b => rw [h.bl e]; exact .bl b
  | int i => rw [(h.int e).1]; exact .int i
  | str x => rw [h.str e]; exact .str x
  | tup xs =>
    obtain ⟨a, vs, rfl, h1, h2⟩ := h.tup e
    cases n with
    | zero => simp [D.plain] at p
    | succ n => exact .tup (.of h1) (h2.dp (n := n) (by simpa [D.plain] using p))
  | lst xs =>
    obtain ⟨a, vs, rfl, h1, h2⟩ := h.lst S e
    cases n with
    | zero => simp [D.plain] at p
    | succ n => exact .lst (.of h1) (h2.dp (n := n) (by simpa [D.plain] using p))
  | dct _ _ _ => simp [D.plain] at p
  | ref _ => simp [D.plain] at p
  | scr _ => simp [D.plain] at p
end

/-! ### dicts -/
theorem kD_eqv (a b : Key) : D.eqv (kD a) (kD b) = decide (a = b) := by
  cases a with
  | inl i => cases b with
    | inl j => simp [kD, D.eqv, Bool.beq_eq_decide_eq]
    | inr y => simp [kD, D.eqv]
  | inr x => cases b with
    | inl j => simp [kD, D.eqv]
    | inr y => simp [kD, D.eqv, Bool.beq_eq_decide_eq]
theorem kDs_eqv : ∀ (as bs : List Key), D.eqvs (as.map kD) (bs.map kD) = decide (as = bs)
  | [], [] => by simp [D.eqvs]
  | [], _ :: _ => by simp [D.eqvs]
  | _ :: _, [] => by simp [D.eqvs]
  | a :: as, b :: bs => by simp [D.eqvs, kD_eqv, kDs_eqv as bs]
theorem kT_eqv (a b : List Key) : D.eqv (.tup (a.map kD)) (.tup (b.map kD)) = decide (a = b) := by
  simp only [D.eqv]; exact kDs_eqv a b
theorem isK_kD {d : D} (h : isK d = true) : ∃ k, d = kD k := by
  cases d <;> simp [isK] at h
  · exact ⟨.inl _, rfl⟩
  · exact ⟨.inr _, rfl⟩
theorem isKs_kD : ∀ {ds : List D}, ds.all isK = true → ∃ ks : List Key, ds = ks.map kD
  | [], _ => ⟨[], rfl⟩
  | d :: ds, h => by
    simp only [List.all_cons, Bool.and_eq_true] at h
    obtain ⟨k, rfl⟩ := isK_kD h.1
    obtain ⟨ks, rfl⟩ := isKs_kD h.2
    exact ⟨k :: ks, rfl⟩
section
variable {K : PySem.W.Frag} {G G' : Addr → Prop} {μ μ' : List Addr} {H H' : Hp} {s s' : Sto} {d : D} {v : V} {ds : List D} {vs : List V}
theorem val_kD {k : Key} {v : V} (h : Val K G μ H (kD k) v) : v = kV k := by
  cases k with
  | inl i => cases h; rfl
  | inr x => cases h; rfl
theorem vls_kD : ∀ {ks : List Key} {vs : List V}, Vls K G μ H (ks.map kD) vs → vs = ks.map kV
  | [], _, h => by cases h; rfl
  | k :: ks, _, h => by
    cases h with
    | cons h1 h2 => rw [val_kD h1, vls_kD h2]; rfl
variable {κ : Type} [DecidableEq κ] {enc : κ → D}
theorem getK_rel (he : ∀ a b, D.eqv (enc a) (enc b) = decide (a = b)) (k : κ) : ∀ {kvs : List (κ × V)} {ds : List D}, Vls K G μ H ds (kvs.map (·.2)) →
    (∀ d, getK (kvs.map fun p => enc p.1) ds (enc k) = some d → ∃ v, valV kvs k = some v ∧ Val K G μ H d v) ∧ (getK (kvs.map fun p => enc p.1) ds (enc k) = none → valV kvs k = none)
  | [], ds, r => ⟨fun d h => by simp [getK] at h, fun _ => rfl⟩
  | p :: kvs, ds, r => by
    cases r with
    | cons h1 h2 =>
      simp only [List.map_cons, getK, he]
      obtain ⟨g1, g2⟩ := getK_rel he k h2
      by_cases e : p.1 = k
      · simp only [e, decide_true, if_true, valV_pos e]
        exact ⟨fun d q => by cases q; exact ⟨_, rfl, h1⟩, fun q => by cases q⟩
      · simp only [e, decide_false, if_false, valV_neg e, Bool.false_eq_true]
        exact ⟨g1, g2⟩
theorem any_rel (he : ∀ a b, D.eqv (enc a) (enc b) = decide (a = b)) (k : κ) (kvs : List (κ × V)) : ((kvs.map fun p => enc p.1).any fun z => D.eqv z (enc k)) = (valV kvs k).isSome := by
  rw [← valV_any, List.any_map]
  congr 1
  funext p
  simp [he]
theorem putK_rel (he : ∀ a b, D.eqv (enc a) (enc b) = decide (a = b)) (k : κ) {w : D} {y : V} (hw : Val K G μ H w y) {kvs : List (κ × V)} {ds : List D} (r : Vls K G μ H ds (kvs.map (·.2))) :
    (putKs (kvs.map fun p => enc p.1) ds (enc k) w).1 = (putK kvs k y).map (fun p => enc p.1) ∧ Vls K G μ H (putKs (kvs.map fun p => enc p.1) ds (enc k) w).2 ((putK kvs k y).map (·.2)) := by
  have set : ∀ {kvs : List (κ × V)} {ds : List D}, Vls K G μ H ds (kvs.map (·.2)) → Vls K G μ H (setK (kvs.map fun p => enc p.1) ds (enc k) w) ((kvs.map fun kv => if kv.1 = k then (kv.1, y) else kv).map (·.2)) := by
    intro kvs
    induction kvs with
    | nil => intro ds r; cases r; exact .nil
    | cons p kvs ih =>
      intro ds r
      cases r with
      | cons h1 h2 =>
        simp only [List.map_cons, setK, he]
        by_cases e : p.1 = k
        · simp only [e, decide_true, if_true]
          exact .cons hw (ih h2)
        · simp only [e, decide_false, if_false, Bool.false_eq_true]
          exact .cons h1 (ih h2)
  unfold putKs putK
  have e1 : (kvs.any fun kv => decide (kv.1 = k)) = ((kvs.map fun p => enc p.1).any fun z => D.eqv z (enc k)) := by rw [any_rel he, valV_any]
  rw [← e1]
  cases hb : kvs.any fun kv => decide (kv.1 = k) with
  | true =>
    simp only [if_true]
    refine ⟨?_, set r⟩
    rw [List.map_map]
    congr 1
    funext p
    simp only [Function.comp]
    split <;> rfl
  | false =>
    simp only [if_false, Bool.false_eq_true]
    exact ⟨by simp, by rw [List.map_append]; exact r.append (.cons hw .nil)⟩

/-- what a dict's value tells -/
theorem Top.dct {tk : Bool} {ks xs : List D} (h : Top K G μ H d v) (e : deref s d = .dct tk ks xs) : ∃ a, v = .ref a ∧
    ((tk = false ∧ ∃ kvs : List (Key × V), H a = some (.dK kvs) ∧ ks = kvs.map (fun p => kD p.1) ∧ Vls K G μ H xs (kvs.map (·.2))) ∨
     (tk = true ∧ ∃ kvs : List (List Key × V), H a = some (.dT kvs) ∧ ks = kvs.map (fun p => .tup (p.1.map kD)) ∧ Vls K G μ H xs (kvs.map (·.2)))) := by
  rcases h with h | ⟨a, rfl, _, _, h⟩
  · cases h <;> simp [deref] at e
    · obtain ⟨rfl, rfl, rfl⟩ := e
      exact ⟨_, rfl, .inl ⟨rfl, _, by assumption, rfl, by assumption⟩⟩
    · obtain ⟨rfl, rfl, rfl⟩ := e
      exact ⟨_, rfl, .inr ⟨rfl, _, by assumption, rfl, by assumption⟩⟩
    · split at e <;> cases e
  · cases h <;> simp [deref] at e
    · obtain ⟨rfl, rfl, rfl⟩ := e
      exact ⟨_, rfl, .inl ⟨rfl, _, by assumption, rfl, by assumption⟩⟩
    · obtain ⟨rfl, rfl, rfl⟩ := e
      exact ⟨_, rfl, .inr ⟨rfl, _, by assumption, rfl, by assumption⟩⟩
/-- a key's value -/
theorem Top.keyF {k : D} {y : V} (h : Top K G μ H k y) (e : keyOk false k = true) : ∃ c : Key, k = kD c ∧ y = kV c := by
  obtain ⟨c, rfl⟩ := isK_kD (show isK k = true from e)
  rcases h with h | ⟨a, rfl, _, _, h⟩
  · exact ⟨c, rfl, val_kD h⟩
  · cases c <;> cases h
theorem Top.keyT {k : D} {y : V} (h : Top K G μ H k y) (e : keyOk true k = true) : ∃ (c : List Key) (b : Addr), k = .tup (c.map kD) ∧ y = .ref b ∧ H b = some (.tup (c.map kV)) := by
  cases k <;> simp [keyOk] at e
  rename_i xs
  obtain ⟨c, rfl⟩ := isKs_kD (List.all_eq_true.mpr e)
  obtain ⟨b, vs, rfl, h1, h2⟩ := h.tup (s := []) rfl
  rw [vls_kD h2] at h1
  exact ⟨c, b, rfl, rfl, h1⟩
/-- reading a dict -/
theorem dct_get {tk : Bool} {ks xs : List D} {k : D} {y : V} (h : Top K G μ H d v) (e : deref s d = .dct tk ks xs) (hk : Top K G μ H k y) (ok : keyOk tk k = true) : ∃ a o, v = .ref a ∧ DGet H a y o ∧
    (∀ z, getK ks xs k = some z → ∃ w, o = some w ∧ Val K G μ H z w) ∧ (ks.any fun z => D.eqv z k) = o.isSome := by
  obtain ⟨a, rfl, ⟨rfl, kvs, h1, rfl, h3⟩ | ⟨rfl, kvs, h1, rfl, h3⟩⟩ := h.dct e
  · obtain ⟨c, rfl, rfl⟩ := hk.keyF ok
    exact ⟨a, _, rfl, .k h1, (getK_rel kD_eqv c h3).1, any_rel kD_eqv c kvs⟩
  · obtain ⟨c, b, rfl, rfl, hb⟩ := hk.keyT ok
    exact ⟨a, _, rfl, .t h1 hb, (getK_rel (enc := fun (k : List Key) => D.tup (k.map kD)) kT_eqv c h3).1, any_rel (enc := fun (k : List Key) => D.tup (k.map kD)) kT_eqv c kvs⟩
end

def rCmp (K : PySem.W.Frag) (op : CmpOp) : R2 := fun x y H Q => ∃ G μ s dx dy b, Sk K G μ H s ∧ Top K G μ H dx x ∧ Top K G μ H dy y ∧ cmpD op s dx dy = some b ∧ Q (.bl b) H

section
variable {X : Cx}
theorem room1 {A : Around} {ds : List D} {z : D} (hu : A.units + 64 < cLine) (h1 : ∀ x ∈ ds, D.plain 60 x = true) (h2 : D.plain 60 z = true) : A.units + 1 + min (PyData.depthAll (D.toPs ds)) z.toP.depth < cLine := by
  have q := (lay_toP z 60 h2).2
  have : min (PyData.depthAll (D.toPs ds)) z.toP.depth ≤ z.toP.depth := Nat.min_le_right _ _
  omega
theorem any_toPs {z : D} (hz : D.plain 60 z = true) : ∀ {ds : List D}, (∀ x ∈ ds, D.plain 60 x = true) → ((D.toPs ds).any fun y => PyData.eqv y z.toP) = ds.any fun y => D.eqv y z
  | [], _ => rfl
  | a :: as, h => by
    simp only [D.toPs, List.any_cons]
    rw [eqv_toP a z 60 60 (h _ (by simp)) hz, any_toPs hz fun x hx => h x (by simp [hx])]

theorem eqD_some {s : Sto} {a b : D} {r : Bool} (h : eqD s a b = some r) : D.plain 60 (deref s a) = true ∧ D.plain 60 (deref s b) = true ∧ r = D.eqv (deref s a) (deref s b) := by
  unfold eqD at h
  simp only at h
  split at h
  · rename_i hz
    simp only [Bool.and_eq_true] at hz
    cases h
    exact ⟨hz.1, hz.2, rfl⟩
  · cases h

theorem isNon_of {K : PySem.W.Frag} {G : Addr → Prop} {μ : List Addr} {H : Hp} {d : D} {v : V} (h : Top K G μ H d v) : decide (v = .non) = isNon d := by
  rcases h with h | ⟨a, rfl, _, _, h⟩
  · cases h <;> simp [isNon]
  · cases h <;> simp [isNon]

theorem isBl_some {a b : D} {r : Bool} (h : isBl a b = some r) : ∃ x y, a = .bl x ∧ b = .bl y ∧ r = (x == y) := by
  cases a <;> cases b <;> simp [isBl] at h
  exact ⟨_, _, rfl, rfl, by simp [h]⟩
/-- one truth value is another just if it is equal to it -/
theorem op_isB (neg : Bool) : OpR X (compareOp (if neg then .IsNot else .Is)) (fun x y H Q => ∃ p q, x = .bl p ∧ y = .bl q ∧ Q (.bl (if neg then !(p == q) else p == q)) H) := by
  intro pins s σ H x y v u Q I rx ry h
  obtain ⟨p, q, rfl, rfl, h⟩ := h
  cases rx
  cases ry
  have e : isSame (.bool p) (.bool q) = pure (p == q) := by cases p <;> cases q <;> rfl
  cases neg
  · show wpAny _ _ (isSame (.bool p) (.bool q) >>= fun z => pure (Value.bool z)) _ _ s
    rw [e]
    exact wpAny_bind (wpAny_pure (wpAny_pure ⟨.bl (p == q), H, I, rfl, h⟩))
  · show wpAny _ _ (isSame (.bool p) (.bool q) >>= fun z => pure (Value.bool (!z))) _ _ s
    rw [e]
    exact wpAny_bind (wpAny_pure (wpAny_pure ⟨.bl (!(p == q)), H, I, rfl, h⟩))
theorem op_cmp (hu : X.A.units + 64 < cLine) (op : CmpOp) : OpR X (compareOp op) (rCmp X.K op) := by
  intro pins s σ H x y v u Q I rx ry h
  obtain ⟨G, μ, st, dx, dy, b, S, tx, ty, e, q⟩ := h
  cases op with
  | Eq =>
    obtain ⟨p1, p2, rfl⟩ := eqD_some e
    refine op_eqD hu pins s σ H _ _ v u Q I rx ry ⟨_, _, tx.dp S p1, ty.dp S p2, shaped_toP p1, shaped_toP p2, ?_⟩
    rw [eqv_toP _ _ 60 60 p1 p2]
    exact q
  | NotEq =>
    simp only [cmpD, Option.map_eq_some_iff] at e
    obtain ⟨r, e, rfl⟩ := e
    obtain ⟨p1, p2, rfl⟩ := eqD_some e
    refine op_neD hu pins s σ H _ _ v u Q I rx ry ⟨_, _, tx.dp S p1, ty.dp S p2, shaped_toP p1, shaped_toP p2, ?_⟩
    rw [eqv_toP _ _ 60 60 p1 p2]
    exact q
  | Is =>
    simp only [cmpD] at e
    split at e
    · rename_i hz
      cases e
      have hy : y = .non := by
        have := isNon_of ty
        rw [hz] at this
        exact of_decide_eq_true this
      refine op_isN pins s σ H _ _ v u Q I rx ry ⟨hy, ?_⟩
      rw [isNon_of tx]
      exact q
    · obtain ⟨x, y, rfl, rfl, rfl⟩ := isBl_some e
      obtain rfl := tx.bl (s := st) rfl
      obtain rfl := ty.bl (s := st) rfl
      exact op_isB false pins s σ H _ _ v u Q I rx ry ⟨x, y, rfl, rfl, q⟩
  | IsNot =>
    simp only [cmpD] at e
    split at e
    · rename_i hz
      cases e
      have hy : y = .non := by
        have := isNon_of ty
        rw [hz] at this
        exact of_decide_eq_true this
      refine op_notN pins s σ H _ _ v u Q I rx ry ⟨hy, ?_⟩
      rw [isNon_of tx]
      exact q
    · simp only [Option.map_eq_some_iff] at e
      obtain ⟨r, e, rfl⟩ := e
      obtain ⟨x, y, rfl, rfl, rfl⟩ := isBl_some e
      obtain rfl := tx.bl (s := st) rfl
      obtain rfl := ty.bl (s := st) rfl
      exact op_isB true pins s σ H _ _ v u Q I rx ry ⟨x, y, rfl, rfl, q⟩
  | Lt =>
    simp only [cmpD] at e
    split at e
    · obtain ⟨rfl, _⟩ := tx.int (s := st) rfl
      obtain ⟨rfl, _⟩ := ty.int (s := st) rfl
      cases e
      exact op_lt pins s σ H _ _ v u Q I rx ry ⟨_, _, rfl, rfl, q⟩
    · obtain ⟨a, us, rfl, ha, ra⟩ := tx.tup (s := st) rfl
      obtain ⟨b, ws, rfl, hb, rb⟩ := ty.tup (s := st) rfl
      split at e
      · rename_i n m h1 h2
        cases e
        obtain rfl := ra.ints h1
        obtain rfl := rb.ints h2
        exact op_ltT (Nat.lt_of_le_of_lt (Nat.le_add_right _ _) hu) pins s σ H _ _ v u Q I rx ry ⟨a, b, n, m, rfl, rfl, .of ha, .of hb, q⟩
      · cases e
    · cases e
  | LtE =>
    simp only [cmpD] at e
    split at e
    · obtain ⟨rfl, _⟩ := tx.int (s := st) rfl
      obtain ⟨rfl, _⟩ := ty.int (s := st) rfl
      cases e
      exact op_le pins s σ H _ _ v u Q I rx ry ⟨_, _, rfl, rfl, q⟩
    · cases e
  | Gt =>
    simp only [cmpD] at e
    split at e
    · obtain ⟨rfl, _⟩ := tx.int (s := st) rfl
      obtain ⟨rfl, _⟩ := ty.int (s := st) rfl
      cases e
      exact op_gt pins s σ H _ _ v u Q I rx ry ⟨_, _, rfl, rfl, q⟩
    · cases e
  | GtE =>
    simp only [cmpD] at e
    split at e
    · obtain ⟨rfl, _⟩ := tx.int (s := st) rfl
      obtain ⟨rfl, _⟩ := ty.int (s := st) rfl
      cases e
      exact op_ge pins s σ H _ _ v u Q I rx ry ⟨_, _, rfl, rfl, q⟩
    · cases e
  | In =>
    simp only [cmpD, inD] at e
    split at e
    · rename_i ys hy
      split at e
      · rename_i hz
        simp only [Bool.and_eq_true, List.all_eq_true] at hz
        cases e
        obtain ⟨p1, p2⟩ := hz
        obtain ⟨a, us, rfl, ha, ra⟩ := ty.lst S hy
        obtain ⟨as, r1⟩ := Dp.reads I _ x v (tx.dp S p1) rx
        obtain ⟨bs, r2⟩ := Dp.reads I _ _ u (Dp.lst (.of ha) (ra.dp p2)) ry
        refine SeqAt.in_list_reads r2 r1 (lays_toPs ys 60 p2).1 (lay_toP _ 60 p1).1 (room1 hu p2 p1) ⟨.bl _, H, I, rfl, ?_⟩
        rw [any_toPs p1 p2]
        exact q
      · cases e
    · rename_i ys hy
      split at e
      · rename_i hz
        simp only [Bool.and_eq_true, List.all_eq_true] at hz
        cases e
        obtain ⟨p1, p2⟩ := hz
        obtain ⟨a, us, rfl, ha, ra⟩ := ty.tup hy
        obtain ⟨as, r1⟩ := Dp.reads I _ x v (tx.dp S p1) rx
        obtain ⟨bs, r2⟩ := Dp.reads I _ _ u (Dp.tup (.of ha) (ra.dp p2)) ry
        refine SeqAt.in_tuple_reads r2 r1 (lays_toPs ys 60 p2).1 (lay_toP _ 60 p1).1 (room1 hu p2 p1) ⟨.bl _, H, I, rfl, ?_⟩
        rw [any_toPs p1 p2]
        exact q
      · cases e
    · rename_i tk ks vs hy
      split at e
      · rename_i hz
        cases e
        obtain ⟨a, o, rfl, g, _, g2⟩ := dct_get ty hy tx hz
        cases ry
        refine d_in (by omega) I g rx fun s' I' => ⟨.bl o.isSome, H, I', rfl, ?_⟩
        rw [← g2]; exact q
      · cases e
    · cases e
  | NotIn =>
    simp only [cmpD, inD, Option.map_eq_some_iff] at e
    obtain ⟨r, e, rfl⟩ := e
    split at e
    · rename_i ys hy
      split at e
      · rename_i hz
        simp only [Bool.and_eq_true, List.all_eq_true] at hz
        cases e
        obtain ⟨p1, p2⟩ := hz
        obtain ⟨a, us, rfl, ha, ra⟩ := ty.lst S hy
        obtain ⟨as, r1⟩ := Dp.reads I _ x v (tx.dp S p1) rx
        obtain ⟨bs, r2⟩ := Dp.reads I _ _ u (Dp.lst (.of ha) (ra.dp p2)) ry
        refine SeqAt.notIn_list_reads r2 r1 (lays_toPs ys 60 p2).1 (lay_toP _ 60 p1).1 (room1 hu p2 p1) ⟨.bl _, H, I, rfl, ?_⟩
        rw [any_toPs p1 p2]
        exact q
      · cases e
    · rename_i ys hy
      split at e
      · rename_i hz
        simp only [Bool.and_eq_true, List.all_eq_true] at hz
        cases e
        obtain ⟨p1, p2⟩ := hz
        obtain ⟨a, us, rfl, ha, ra⟩ := ty.tup hy
        obtain ⟨as, r1⟩ := Dp.reads I _ x v (tx.dp S p1) rx
        obtain ⟨bs, r2⟩ := Dp.reads I _ _ u (Dp.tup (.of ha) (ra.dp p2)) ry
        refine SeqAt.notIn_tuple_reads r2 r1 (lays_toPs ys 60 p2).1 (lay_toP _ 60 p1).1 (room1 hu p2 p1) ⟨.bl _, H, I, rfl, ?_⟩
        rw [any_toPs p1 p2]
        exact q
      · cases e
    · rename_i tk ks vs hy
      split at e
      · rename_i hz
        cases e
        obtain ⟨a, o, rfl, g, _, g2⟩ := dct_get ty hy tx hz
        cases ry
        refine d_notIn (by omega) I g rx fun s' I' => ⟨.bl (!o.isSome), H, I', rfl, ?_⟩
        rw [← g2]; exact q
      · cases e
    · cases e

/-! ### truth -/
theorem tru_d {K : PySem.W.Frag} {G : Addr → Prop} {μ : List Addr} {H : Hp} {s : Sto} {d : D} {v : V} {b : Bool} (S : Sk K G μ H s) (h : Top K G μ H d v) (e : truD s d = some b) : TruV K v H b := by
  unfold truD at e
  split at e
  · rename_i hd
    cases e
    rw [h.non hd]; exact rfl
  · rename_i b hd
    cases e
    rw [h.bl hd]; exact rfl
  · rename_i b hd
    cases e
    rw [(h.int hd).1]; exact rfl
  · rename_i xs hd
    cases e
    obtain ⟨a, vs, rfl, h1, h2⟩ := h.tup hd
    refine .inr (.inl ⟨vs, .of h1, ?_⟩)
    cases h2 <;> rfl
  · rename_i xs hd
    cases e
    obtain ⟨a, vs, rfl, h1, h2⟩ := h.lst S hd
    refine .inl ⟨vs, .of h1, ?_⟩
    cases h2 <;> rfl
  · cases e

/-! ### items -/
def rSub (K : PySem.W.Frag) : R2 := fun x y H Q => ∃ G μ s dx dy d, Sk K G μ H s ∧ Top K G μ H dx x ∧ Top K G μ H dy y ∧ subD s dx dy = some d ∧ (∀ tk ks vs, deref s dx ≠ .dct tk ks vs) ∧ ∀ v, Val K G μ H d v → Q v H
theorem atI_vls {K : PySem.W.Frag} {G : Addr → Prop} {μ : List Addr} {H : Hp} {ds : List D} {vs : List V} (r : Vls K G μ H ds vs) {i : Int} {d : D} (h : L2.atI ds i = some d) : ∃ v, L2.atI vs i = some v ∧ Val K G μ H d v := by
  unfold L2.atI at h ⊢
  rw [r.length] at h
  cases e : L2.ixN vs.length i with
  | none => rw [e] at h; cases h
  | some j =>
    rw [e] at h
    exact r.get (show ds[j]? = some d from h)
theorem ix_sub (hu : X.A.units + 64 < cLine) : IxR X (rSub X.K) := by
  intro value slice pins s σ H x y v u Q I rx ry h hs
  obtain ⟨G, μ, st, dx, dy, d, S, tx, ty, e, nd, q⟩ := h
  unfold subD at e
  split at e
  · rename_i xs k hx
    obtain ⟨a, us, rfl, ha, ra⟩ := tx.tup hx
    obtain ⟨rfl, _⟩ := ty.int (s := st) rfl
    obtain ⟨w, h1, h2⟩ := atI_vls ra e
    exact ix_tup value slice pins s σ H _ _ v u Q I rx ry ⟨a, us, k, w, rfl, rfl, .of ha, h1, q w h2⟩ hs
  · rename_i xs k hx
    obtain ⟨a, us, rfl, ha, ra⟩ := tx.lst S hx
    obtain ⟨rfl, _⟩ := ty.int (s := st) rfl
    obtain ⟨w, h1, h2⟩ := atI_vls ra e
    exact ix_list value slice pins s σ H _ _ v u Q I rx ry ⟨a, us, k, w, rfl, rfl, .of ha, h1, q w h2⟩ hs
  · rename_i xs k hx
    obtain ⟨a, rfl, ha⟩ := tx.scr hx
    obtain ⟨rfl, _⟩ := ty.int (s := st) rfl
    simp only [Option.map_eq_some_iff] at e
    obtain ⟨i, e1, rfl⟩ := e
    refine ix_list value slice pins s σ H _ _ v u Q I rx ry ⟨a, _, k, .int i, rfl, rfl, ha, ?_, q _ (.int i)⟩ hs
    unfold L2.atI at e1 ⊢
    rw [List.length_map]
    cases e2 : L2.ixN xs.length k with
    | none => rw [e2] at e1; cases e1
    | some j =>
      rw [e2] at e1
      have e3 : xs[j]? = some i := e1
      show (xs.map V.int)[j]? = some (.int i)
      rw [List.getElem?_map, e3]; rfl
  · rename_i tk ks vs k hx
    exact absurd hx (nd _ _ _)
  · cases e
end
end Mi
/-! M5: built-in functions, isinstance, slices. -/
namespace Mi
open PySem PySem.Spec PyProof.Rows L2

def Tops (K : PySem.W.Frag) (G : Addr → Prop) (μ : List Addr) (H : Hp) : List D → List V → Prop := Paired (Top K G μ H)
def rB (K : PySem.W.Frag) (f : BF) : List V → Hp → VK → Prop := fun xs H Q => ∃ G μ s ds d, Sk K G μ H s ∧ Tops K G μ H ds xs ∧ bfnD f s ds = some d ∧ ∀ v H', Ext G μ H G μ H' → Sk K G μ H' s → New K G μ H' H d v → Q v H'
theorem tops1 {K : PySem.W.Frag} {G : Addr → Prop} {μ : List Addr} {H : Hp} {a : D} {xs : List V} (h : Tops K G μ H [a] xs) : ∃ x, xs = [x] ∧ Top K G μ H a x := by
  cases h with
  | cons h r => cases r; exact ⟨_, rfl, h⟩

section
variable {X : Cx}
theorem bf_len : CallR X (.builtin "len") (rB X.K .len) := by
  intro pins s σ H xs us Q I r h
  obtain ⟨G, μ, st, ds, d, S, ts, e, q⟩ := h
  have flat : ∀ (n : Nat), D.int n = d → Q (.int n) H := fun n hd => q _ _ .refl S (.inl ⟨by rw [← hd]; rfl, by rw [← hd]; exact .int _⟩)
  unfold bfnD at e
  split at e <;> try contradiction
  rename_i _ a _
  obtain ⟨x, rfl, tx⟩ := tops1 ts
  split at e
  · rename_i ys hy
    obtain ⟨p, vs, rfl, h1, h2⟩ := tx.tup hy
    cases e
    exact call_len_seq pins s σ H _ us Q I r ⟨p, vs, rfl, .inr (.of h1), by rw [← h2.length]; exact flat _ rfl⟩
  · rename_i ys hy
    obtain ⟨p, vs, rfl, h1, h2⟩ := tx.lst S hy
    cases e
    exact call_len_seq pins s σ H _ us Q I r ⟨p, vs, rfl, .inl (.of h1), by rw [← h2.length]; exact flat _ rfl⟩
  · rename_i tk ks vs hy
    cases e
    obtain ⟨p, rfl, ⟨_, kvs, h1, rfl, h3⟩ | ⟨_, kvs, h1, rfl, h3⟩⟩ := tx.dct hy
    · exact call_lenD pins s σ H _ us Q I r ⟨p, kvs, rfl, h1, by
        have := flat kvs.length (by rw [List.length_map])
        exact this⟩
    · exact L2.call_len_dT pins s σ H _ us Q I r ⟨p, kvs, rfl, h1, by
        have := flat kvs.length (by rw [List.length_map])
        exact this⟩
  · rename_i ys hy
    obtain ⟨p, rfl, h1⟩ := tx.scr hy
    cases e
    exact call_len_seq pins s σ H _ us Q I r ⟨p, _, rfl, .inl h1, by rw [List.length_map]; exact flat _ rfl⟩
  · rename_i y hy
    split at e
    · rename_i hz
      cases e
      rw [tx.str hy] at r
      exact call_len_str pins s σ H _ us Q I r ⟨y, rfl, lenOk_le hz, flat _ rfl⟩
    · cases e
  · cases e
theorem seqOf_some {K : PySem.W.Frag} {G : Addr → Prop} {μ : List Addr} {H : Hp} {s : Sto} {a : D} {x : V} {ys : List D} (S : Sk K G μ H s) (tx : Top K G μ H a x) (e : seqOf s a = some ys) :
    ∃ p vs, x = .ref p ∧ Vls K G μ H ys vs ∧ (H p = some (.lst vs) ∨ H p = some (.tup vs)) := by
  unfold seqOf at e
  split at e
  · rename_i hy
    cases e
    obtain ⟨p, vs, rfl, h1, h2⟩ := tx.tup hy
    exact ⟨p, vs, rfl, h2, .inr h1⟩
  · rename_i hy
    cases e
    obtain ⟨p, vs, rfl, h1, h2⟩ := tx.lst S hy
    exact ⟨p, vs, rfl, h2, .inl h1⟩
  · cases e
theorem deref_deref (s : Sto) (a : D) : deref s (deref s a) = deref s a := by
  cases a <;> try rfl
  rename_i n
  show deref s (match s[n]? with | some (.lst xs) => .lst xs | _ => .ref n) = _
  cases h : s[n]? with
  | none => simp [deref, h]
  | some o => cases o <;> simp [deref, h]
theorem bf_tuple : CallR X (.type "tuple") (rB X.K .tuple) := by
  intro pins s σ H xs us Q I r h
  obtain ⟨G, μ, st, ds, d, S, ts, e, q⟩ := h
  unfold bfnD at e
  split at e <;> try contradiction
  rename_i _ a _
  obtain ⟨x, rfl, tx⟩ := tops1 ts
  simp only [Option.map_eq_some_iff] at e
  obtain ⟨ys, e, rfl⟩ := e
  obtain ⟨p, vs, rfl, h1, h2 | h2⟩ := seqOf_some S tx e
  · exact call_tuple_of pins s σ H _ us Q I r ⟨p, vs, rfl, .inl ⟨.of h2, fun l hl => q _ _ (.laid hl) (S.laid hl) (.inl ⟨rfl, val_tup S hl h1⟩)⟩⟩
  · exact call_tuple_of pins s σ H _ us Q I r ⟨p, vs, rfl, .inr ⟨.of h2, q _ _ .refl S (.inl ⟨rfl, .tup h2 h1⟩)⟩⟩
theorem kvs_keys {K : PySem.W.Frag} {G : Addr → Prop} {μ : List Addr} {H : Hp} : ∀ ks : List Key, Vls K G μ H (ks.map kD) (ks.map kV)
  | [] => .nil
  | .inl i :: r => .cons (.int i) (kvs_keys r)
  | .inr x :: r => .cons (.str x) (kvs_keys r)
theorem vls_keys {K : PySem.W.Frag} {G : Addr → Prop} {μ : List Addr} {H : Hp} {kvs : List (List Key × V)} {bs : List Addr} (r : IsKeys H kvs bs) : Vls K G μ H (kvs.map fun p => .tup (p.1.map kD)) (bs.map V.ref) := by
  unfold IsKeys at r
  induction r with
  | nil => exact .nil
  | cons h t ih => exact .cons (.tup h (kvs_keys _)) ih
theorem bf_list (hc : X.calm = true) : CallR X (.type "list") (rB X.K .list) := by
  intro pins s σ H xs us Q I r h
  obtain ⟨G, μ, st, ds, d, S, ts, e, q⟩ := h
  unfold bfnD at e
  split at e <;> try contradiction
  rename_i _ a _
  obtain ⟨x, rfl, tx⟩ := tops1 ts
  split at e
  · rename_i ks vs hy
    cases e
    obtain ⟨p, rfl, ⟨z, kvs, h1, rfl, h3⟩ | ⟨_, kvs, h1, rfl, h3⟩⟩ := tx.dct hy
    · cases z
    · exact L2.call_list_dT hc pins s σ H _ us Q I r ⟨p, kvs, rfl, .of h1, fun l bs hl hb => q _ _ (.laid hl) (S.laid hl) (new_lst S hl (vls_keys hb))⟩
  · simp only [Option.map_eq_some_iff] at e
    obtain ⟨ys, e, rfl⟩ := e
    have e' : seqOf st a = some ys := by
      unfold seqOf at e ⊢
      rw [deref_deref] at e
      exact e
    obtain ⟨p, vs, rfl, h1, h2⟩ := seqOf_some S tx e'
    exact call_list_of pins s σ H _ us Q I r ⟨p, vs, rfl, h2.imp .of .of, fun l hl => q _ _ (.laid hl) (S.laid hl) (new_lst S hl h1)⟩
theorem bf_int : CallR X (.type "int") (rB X.K .int) := by
  intro pins s σ H xs us Q I r h
  obtain ⟨G, μ, st, ds, d, S, ts, e, q⟩ := h
  unfold bfnD at e
  split at e <;> try contradiction
  rename_i _ a _
  obtain ⟨x, rfl, tx⟩ := tops1 ts
  split at e
  · obtain ⟨rfl, _⟩ := tx.int (s := st) rfl
    cases e
    exact call_int1 pins s σ H _ us Q I r (.inl ⟨_, rfl, q _ _ .refl S (.inl ⟨rfl, .int _⟩)⟩)
  · obtain rfl := tx.bl (s := st) rfl
    cases e
    exact call_int1 pins s σ H _ us Q I r (.inr ⟨_, rfl, q _ _ .refl S (.inl ⟨rfl, .int _⟩)⟩)
  · cases e
theorem bf_all (hc : X.calm = true) : CallR X (.builtin "all") (rB X.K .all) := by
  intro pins s σ H xs us Q I r h
  obtain ⟨G, μ, st, ds, d, S, ts, e, q⟩ := h
  unfold bfnD at e
  split at e <;> try contradiction
  rename_i _ a _
  obtain ⟨x, rfl, tx⟩ := tops1 ts
  split at e
  · rename_i ys hy
    simp only [Option.map_eq_some_iff] at e
    obtain ⟨bs, e, rfl⟩ := e
    obtain ⟨p, vs, rfl, h1, h2⟩ := tx.lst S hy
    obtain rfl := h2.bls e
    exact cr_all hc pins s σ H _ us Q I r ⟨p, bs, rfl, .of h1, q _ _ .refl S (.inl ⟨rfl, .bl _⟩)⟩
  · cases e
theorem bf_any (hc : X.calm = true) : CallR X (.builtin "any") (rB X.K .any) := by
  intro pins s σ H xs us Q I r h
  obtain ⟨G, μ, st, ds, d, S, ts, e, q⟩ := h
  unfold bfnD at e
  split at e <;> try contradiction
  rename_i _ a _
  obtain ⟨x, rfl, tx⟩ := tops1 ts
  split at e
  · rename_i ys hy
    simp only [Option.map_eq_some_iff] at e
    obtain ⟨bs, e, rfl⟩ := e
    obtain ⟨p, vs, rfl, h1, h2⟩ := tx.lst S hy
    obtain rfl := h2.bls e
    exact cr_any hc pins s σ H _ us Q I r ⟨p, bs, rfl, .of h1, q _ _ .refl S (.inl ⟨rfl, .bl _⟩)⟩
  · cases e
theorem bf_sum (hc : X.calm = true) : CallR X (.builtin "sum") (rB X.K .sum) := by
  intro pins s σ H xs us Q I r h
  obtain ⟨G, μ, st, ds, d, S, ts, e, q⟩ := h
  unfold bfnD at e
  split at e <;> try contradiction
  rename_i _ a _
  obtain ⟨x, rfl, tx⟩ := tops1 ts
  split at e
  · rename_i ys hy
    simp only [Option.map_eq_some_iff] at e
    obtain ⟨bs, e, rfl⟩ := e
    obtain ⟨p, vs, rfl, h1, h2⟩ := tx.lst S hy
    obtain rfl := h2.ints e
    exact cr_sum hc pins s σ H _ us Q I r ⟨p, bs, rfl, .of h1, q _ _ .refl S (.inl ⟨rfl, .int _⟩)⟩
  · cases e

/-! ### classes -/
def tyN : Ty → String
  | .int => "int" | .bool => "bool" | .str => "str" | .tuple => "tuple" | .list => "list" | .dict => "dict"
/-- the name of a value's own class -/
def clsN (s : Sto) : D → Option String
  | .non => some "NoneType" | .bl _ => some "bool" | .int _ => some "int" | .str _ => some "str" | .tup _ => some "tuple" | .lst _ => some "list" | .dct _ _ _ => some "dict"
  | .scr _ => none
  | .ref n => match s[n]? with
    | some (.lst _) => some "list"
    | _ => none
theorem kit_table (t : Ty) : kitB "NoneType" (tyN t) = some false ∧ kitB "bool" (tyN t) = some (decide (t = .bool) || decide (t = .int)) ∧ kitB "int" (tyN t) = some (decide (t = .int)) ∧
    kitB "str" (tyN t) = some (decide (t = .str)) ∧ kitB "tuple" (tyN t) = some (decide (t = .tuple)) ∧ kitB "list" (tyN t) = some (decide (t = .list)) ∧ kitB "dict" (tyN t) = some (decide (t = .dict)) := by
  cases t <;> decide +kernel
theorem isi_clsN (s : Sto) (d : D) (t : Ty) (b : Bool) (h : isiD s d t = some b) : ∃ c, clsN s d = some c ∧ kitB c (tyN t) = some b := by
  obtain ⟨k1, k2, k3, k4, k5, k6, k7⟩ := kit_table t
  unfold isiD at h
  split at h
  · cases h; exact ⟨_, rfl, k1⟩
  · cases h; exact ⟨_, rfl, k2⟩
  · cases h; exact ⟨_, rfl, k3⟩
  · cases h; exact ⟨_, rfl, k4⟩
  · cases h; exact ⟨_, rfl, k5⟩
  · cases h; exact ⟨_, rfl, k6⟩
  · cases h; exact ⟨_, rfl, k7⟩
  · cases h
  · rename_i n
    split at h
    · rename_i xs hn
      cases h
      exact ⟨"list", by simp [clsN, hn], k6⟩
    · cases h
theorem tyX_of {K : PySem.W.Frag} {G : Addr → Prop} {μ : List Addr} {H : Hp} {s : Sto} {d : D} {x : V} {c : String} (S : Sk K G μ H s) (h : Top K G μ H d x) (e : clsN s d = some c) : TyX K H x (.type c) := by
  refine .base ?_
  rcases h with h | ⟨a, rfl, _, _, h⟩
  · cases h <;> simp [clsN] at e
    · subst e; exact .non
    · subst e; exact .bl _
    · subst e; exact .int _
    · subst e; exact .str _
    · subst e; exact .tup (by assumption)
    · subst e; exact .lst (by assumption)
    · subst e; exact .dK (by assumption)
    · subst e; exact .dT (by assumption)
    · rename_i n a hn
      split at e
      · rename_i ys hy
        cases e
        obtain ⟨b, h1, h2⟩ := S.ob n _ hy
        rw [hn] at h1
        cases h1
        cases h2 with
        | lst h3 h4 => exact .lst h3
      · cases e
  · cases h <;> simp [clsN] at e <;> subst e
    · exact .lst (by assumption)
    · exact .dK (by assumption)
    · exact .dT (by assumption)
theorem isiAny_kit {K : PySem.W.Frag} {s : Sto} {d : D} {c : String} (hc : clsN s d = some c) : ∀ {ts : List Ty} {b : Bool}, isiAny s d ts = some b → PySem.W.kitAny K (.type c) (ts.map fun t => .type (tyN t)) = some b
  | [], b, h => by cases h; rfl
  | t :: ts, b, h => by
    unfold isiAny at h
    split at h
    · rename_i h1
      cases h
      obtain ⟨c', e1, e2⟩ := isi_clsN s d t _ h1
      rw [hc] at e1; cases e1
      exact kitAny_cons (kit_ty e2) (fun z => nomatch z) fun _ => rfl
    · rename_i h1
      obtain ⟨c', e1, e2⟩ := isi_clsN s d t _ h1
      rw [hc] at e1; cases e1
      exact kitAny_cons (kit_ty e2) (fun _ => isiAny_kit hc h) fun z => nomatch z
    · cases h
theorem isiAny_cls {s : Sto} {d : D} {t : Ty} {ts : List Ty} {b : Bool} (h : isiAny s d (t :: ts) = some b) : ∃ c, clsN s d = some c := by
  unfold isiAny at h
  split at h
  · rename_i h1
    obtain ⟨c, e, _⟩ := isi_clsN s d t _ h1
    exact ⟨c, e⟩
  · rename_i h1
    obtain ⟨c, e, _⟩ := isi_clsN s d t _ h1
    exact ⟨c, e⟩
  · cases h
end
end Mi
/-! M6: a frame of the language and a frame of the machine; names, targets. -/
namespace Mi
open PySem PySem.Spec PyProof.Rows L2

/-- what a slot holds -/
def Ow (K : PySem.W.Frag) (G : Addr → Prop) (μ : List Addr) (H : Hp) (o : Bool) (d : D) (v : V) : Prop :=
  (Val K G μ H d v ∧ (o = true → isMut d = false)) ∨ (o = true ∧ ∃ a, v = .ref a ∧ a ∉ μ ∧ ¬ G a ∧ At K G μ H a d)
structure Rel (K : PySem.W.Frag) (n : Nat) (G : Addr → Prop) (μ : List Addr) (σ : L2.St) (H : Hp) (env : MEnv) (s : Sto) : Prop where
  len : env.length = n
  lenσ : σ.length = n
  sk : Sk K G μ H s
  slot : ∀ (i : Nat) o d, env[i]? = some (some (o, d)) → ∃ v, σ[i]? = some (some v) ∧ Ow K G μ H o d v
  sep : ∀ (i j : Nat) d e a, i ≠ j → env[i]? = some (some (true, d)) → env[j]? = some (some (true, e)) → isMut d = true → isMut e = true → σ[i]? = some (some (.ref a)) → σ[j]? = some (some (.ref a)) → False

section
variable {K : PySem.W.Frag} {n : Nat} {G G' G'' : Addr → Prop} {μ μ' μ'' : List Addr} {σ : L2.St} {H H' H'' H₀ : Hp} {env : MEnv} {s s' : Sto} {d : D} {v : V} {ds : List D} {vs : List V} {F : Cl}
theorem At.ext (S : Sk K G μ H s) (e : Ext G μ H G' μ' H') {a : Addr} (h1 : a ∉ μ) (h2 : ¬ G a) (h : At K G μ H a d) : a ∉ μ' ∧ ¬ G' a ∧ At K G' μ' H' a d := by
  refine ⟨fun hm => ?_, fun hg => ?_, h.mono (e.stay S) fun o q => e.keep a o h1 q⟩
  · obtain ⟨ν, e1, e2⟩ := e.m
    rw [e1] at hm
    rcases List.mem_append.mp hm with z | z
    · exact h1 z
    · exact h.there (e2 a z)
  · rcases e.gn a hg with z | z
    · exact h2 z
    · exact h.there z
theorem New.ext (S : Sk K G μ H s) (e : Ext G μ H G' μ' H') (h : New K G μ H H₀ d v) : New K G' μ' H' H₀ d v := by
  rcases h with ⟨h1, h2⟩ | ⟨a, rfl, h1, h2, h3, h4⟩
  · exact .inl ⟨h1, h2.mono (e.stay S)⟩
  · obtain ⟨q1, q2, q3⟩ := h4.ext S e h1 h2
    exact .inr ⟨a, rfl, q1, q2, h3, q3⟩
theorem Ow.ext (S : Sk K G μ H s) (e : Ext G μ H G' μ' H') {o : Bool} (h : Ow K G μ H o d v) : Ow K G' μ' H' o d v := by
  rcases h with ⟨h1, h2⟩ | ⟨h0, a, rfl, h1, h2, h3⟩
  · exact .inl ⟨h1.mono (e.stay S), h2⟩
  · obtain ⟨q1, q2, q3⟩ := h3.ext S e h1 h2
    exact .inr ⟨h0, a, rfl, q1, q2, q3⟩
theorem Rel.ext (R : Rel K n G μ σ H env s) (e : Ext G μ H G' μ' H') (S' : Sk K G' μ' H' s') : Rel K n G' μ' σ H' env s' :=
  ⟨R.len, R.lenσ, S', fun i o d h => let ⟨v, h1, h2⟩ := R.slot i o d h; ⟨v, h1, h2.ext R.sk e⟩, R.sep⟩
/-- more may be known to stay: what is not owned by a name -/
theorem Ow.top {o : Bool} (h : Ow K G μ H o d v) : Top K G μ H d v := by
  rcases h with ⟨h1, _⟩ | ⟨_, a, rfl, h1, h2, h3⟩
  · exact .inl h1
  · exact .inr ⟨a, rfl, h1, h2, h3⟩
theorem Ow.val (h : Ow K G μ H false d v) : Val K G μ H d v := by
  rcases h with ⟨h1, _⟩ | ⟨h0, _⟩
  · exact h1
  · cases h0

/-- the value of an expression -/
def Post (F : Cl) (env : MEnv) (c : CE) (K : PySem.W.Frag) (G : Addr → Prop) (μ : List Addr) (H H₀ : Hp) (d : D) (v : V) : Prop :=
  if fresh F c = true then New K G μ H H₀ d v else if bor env c = true then Top K G μ H d v else Val K G μ H d v
theorem Post.of_val {c : CE} (h : Val K G μ H d v) (hm : fresh F c = true → isMut d = false) : Post F env c K G μ H H₀ d v := by
  unfold Post
  split
  · rename_i hf; exact .inl ⟨hm hf, h⟩
  · split
    · exact h.top
    · exact h
theorem Post.of_new {c : CE} (hf : fresh F c = true) (h : New K G μ H H₀ d v) : Post F env c K G μ H H₀ d v := by
  unfold Post; rw [if_pos hf]; exact h
theorem Post.top {c : CE} (h : Post F env c K G μ H H₀ d v) : Top K G μ H d v := by
  unfold Post at h
  split at h
  · exact h.top
  · split at h
    · exact h
    · exact h.top
theorem Post.new {c : CE} (hf : fresh F c = true) (h : Post F env c K G μ H H₀ d v) : New K G μ H H₀ d v := by
  unfold Post at h; rwa [if_pos hf] at h
theorem Post.ext (S : Sk K G μ H s) (e : Ext G μ H G' μ' H') {c : CE} (h : Post F env c K G μ H H₀ d v) : Post F env c K G' μ' H' H₀ d v := by
  unfold Post at h ⊢
  split at h
  · rename_i hf; rw [if_pos hf]; exact h.ext S e
  · rename_i hf; rw [if_neg hf]
    split at h
    · rename_i hb; rw [if_pos hb]; exact h.mono S e
    · rename_i hb; rw [if_neg hb]; exact h.mono (e.stay S)
theorem Post.back {H₁ : Hp} {c : CE} (h : Post F env c K G μ H H₁ d v) (e : ∀ a, H₁ a = none → H₀ a = none) : Post F env c K G μ H H₀ d v := by
  unfold Post at h ⊢
  split at h
  · rename_i hf; rw [if_pos hf]; exact h.back e
  · rename_i hf; rw [if_neg hf]; exact h
/-- a value that no name owns is put among what stays -/
theorem Post.absorb {c : CE} (S : Sk K G μ H s) (hb : bor env c = false) (h : Post F env c K G μ H H₀ d v) :
    ∃ G', (∀ a, G a → G' a) ∧ (∀ a, G' a → G a ∨ H₀ a = none) ∧ Sk K G' μ H s ∧ Val K G' μ H d v ∧ Stay G μ H G' μ H := by
  unfold Post at h
  split at h
  · rcases h with ⟨_, h⟩ | ⟨a, rfl, h1, h2, h3, h4⟩
    · exact ⟨G, fun _ g => g, fun _ g => .inl g, S, h, .refl⟩
    · exact ⟨addG G a, fun _ g => .inl g, fun b g => (show G b ∨ b = a from g).elim .inl fun (e : b = a) => .inr (by rw [e]; exact h3), S.addG h1 h4.there, h4.val, .addG⟩
  · rw [if_neg (by rw [hb]; exact Bool.false_ne_true)] at h
    exact ⟨G, fun _ g => g, fun _ g => .inl g, S, h, .refl⟩
/-- growing what stays is a step -/
theorem Ext.grow (e : Ext G μ H G' μ' H') (h1 : ∀ a, G' a → G'' a) (h2 : ∀ a, G'' a → G' a ∨ H a = none) : Ext G μ H G'' μ' H' :=
  ⟨e.keep, e.dom, fun a g => h1 a (e.g a g), fun a g => (h2 a g).elim (e.gn a) .inr, e.m⟩

inductive Posts (F : Cl) (env : MEnv) (K : PySem.W.Frag) (G : Addr → Prop) (μ : List Addr) (H H₀ : Hp) : CEs → List D → List V → Prop
  | nil : Posts F env K G μ H H₀ .nil [] []
  | cons {c : CE} {cs : CEs} {d : D} {v : V} {ds : List D} {vs : List V} : Post F env c K G μ H H₀ d v → Posts F env K G μ H H₀ cs ds vs → Posts F env K G μ H H₀ (.cons c cs) (d :: ds) (v :: vs)
theorem Posts.ext (S : Sk K G μ H s) (e : Ext G μ H G' μ' H') : ∀ {cs : CEs} {ds : List D} {vs : List V}, Posts F env K G μ H H₀ cs ds vs → Posts F env K G' μ' H' H₀ cs ds vs
  | _, _, _, .nil => .nil
  | _, _, _, .cons h r => .cons (h.ext S e) (r.ext S e)
theorem Posts.back {H₁ : Hp} (e : ∀ a, H₁ a = none → H₀ a = none) : ∀ {cs : CEs} {ds : List D} {vs : List V}, Posts F env K G μ H H₁ cs ds vs → Posts F env K G μ H H₀ cs ds vs
  | _, _, _, .nil => .nil
  | _, _, _, .cons h r => .cons (h.back e) (r.back e)
theorem Posts.tops : ∀ {cs : CEs} {ds : List D} {vs : List V}, Posts F env K G μ H H₀ cs ds vs → Tops K G μ H ds vs
  | _, _, _, .nil => .nil
  | _, _, _, .cons h r => .cons h.top r.tops
theorem Post.grow (h1 : ∀ a, G a → G' a) (st : Stay G μ H G' μ H) {c : CE} (hn : fresh F c = true → isMut d = true → ∀ a, v = .ref a → ¬ G' a) (ht : ∀ a, v = .ref a → ¬ G a → G' a → bor env c = true → isMut d = true → False)
    (h : Post F env c K G μ H H₀ d v) : Post F env c K G' μ H H₀ d v := by
  unfold Post at h ⊢
  split at h
  · rename_i hf; rw [if_pos hf]
    rcases h with ⟨q1, q2⟩ | ⟨a, rfl, q1, q2, q3, q4⟩
    · exact .inl ⟨q1, q2.mono st⟩
    · exact .inr ⟨a, rfl, q1, hn hf q4.mut a rfl, q3, q4.mono st fun _ z => z⟩
  · rename_i hf; rw [if_neg hf]
    split at h
    · rename_i hb; rw [if_pos hb]
      rcases h with h | ⟨a, rfl, q1, q2, q4⟩
      · exact .inl (h.mono st)
      · exact .inr ⟨a, rfl, q1, fun hg => ht a rfl q2 hg hb q4.mut, q4.mono st fun _ z => z⟩
    · rename_i hb; rw [if_neg hb]; exact h.mono st
/-- all of them are put among what stays -/
theorem Posts.absorb : ∀ {cs : CEs} {ds : List D} {vs : List V} {G : Addr → Prop}, Sk K G μ H s → bors env cs = false → Posts F env K G μ H H₀ cs ds vs →
    ∃ G', (∀ a, G a → G' a) ∧ (∀ a, G' a → G a ∨ H₀ a = none) ∧ Sk K G' μ H s ∧ Vls K G' μ H ds vs ∧ Stay G μ H G' μ H
  | _, _, _, G, S, _, .nil => ⟨G, fun _ g => g, fun _ g => .inl g, S, .nil, .refl⟩
  | .cons c cs, _, _, G, S, hb, .cons h r => by
    simp only [bors, Bool.or_eq_false_iff] at hb
    obtain ⟨G1, a1, a2, a3, a4, a5⟩ := r.absorb S hb.2
    -- the head among what stays now: its own address may be there already
    unfold Post at h
    split at h
    · rcases h with ⟨_, h⟩ | ⟨a, rfl, h1, h2, h3, h4⟩
      · exact ⟨G1, a1, a2, a3, .cons (h.mono a5) a4, a5⟩
      · refine ⟨addG G1 a, fun b g => .inl (a1 b g), fun b g => (show G1 b ∨ b = a from g).elim (a2 b) fun e => .inr (e ▸ h3), a3.addG h1 h4.there, .cons ?_ (a4.mono .addG), a5.trans .addG⟩
        exact (h4.mono a5 fun _ z => z).val
    · rw [if_neg (by rw [hb.1]; exact Bool.false_ne_true)] at h
      exact ⟨G1, a1, a2, a3, .cons (h.mono a5) a4, a5⟩

/-! ### slots are stored -/
theorem getE_set {env : MEnv} {i j : Nat} {x : Option (Bool × D)} (hi : i < env.length) : (env.set i x)[j]? = if i = j then some x else env[j]? := by
  by_cases e : i = j
  · subst e; rw [if_pos rfl, List.getElem?_set_self hi]
  · rw [if_neg e, List.getElem?_set_ne e]
theorem getS_set {σ : L2.St} {i j : Nat} {x : Option V} (hi : i < σ.length) : (σ.set i x)[j]? = if i = j then some x else σ[j]? := by
  by_cases e : i = j
  · subst e; rw [if_pos rfl, List.getElem?_set_self hi]
  · rw [if_neg e, List.getElem?_set_ne e]
/-- a value that stays goes into a slot -/
theorem Rel.setV (R : Rel K n G μ σ H env s) {i : Nat} (hi : i < env.length) (h : Val K G μ H d v) : Rel K n G μ (σ.set i (some v)) H (env.set i (some (false, d))) s := by
  have hi' : i < σ.length := by rw [R.lenσ, ← R.len]; exact hi
  refine ⟨by rw [List.length_set]; exact R.len, by rw [List.length_set]; exact R.lenσ, R.sk, fun j o e h1 => ?_, fun j k d1 d2 a hjk h1 h2 m1 m2 v1 v2 => ?_⟩
  · rw [getE_set hi] at h1
    rw [getS_set hi']
    by_cases q : i = j
    · rw [if_pos q] at h1 ⊢
      cases h1
      exact ⟨v, rfl, .inl ⟨h, fun z => nomatch z⟩⟩
    · rw [if_neg q] at h1 ⊢
      exact R.slot j o e h1
  · rw [getE_set hi] at h1 h2
    rw [getS_set hi'] at v1 v2
    by_cases q1 : i = j
    · rw [if_pos q1] at h1; cases h1
    · by_cases q2 : i = k
      · rw [if_pos q2] at h2; cases h2
      · rw [if_neg q1] at h1 v1; rw [if_neg q2] at h2 v2
        exact R.sep j k d1 d2 a hjk h1 h2 m1 m2 v1 v2
/-- a slot is forgotten -/
theorem Rel.drop (R : Rel K n G μ σ H env s) (i : Nat) : Rel K n G μ (σ.set i none) H (env.set i none) s := by
  refine ⟨by rw [List.length_set]; exact R.len, by rw [List.length_set]; exact R.lenσ, R.sk, fun j o e h1 => ?_, fun j k d1 d2 a hjk h1 h2 m1 m2 v1 v2 => ?_⟩
  · by_cases hi : i < env.length
    · have hi' : i < σ.length := by rw [R.lenσ, ← R.len]; exact hi
      rw [getE_set hi] at h1
      rw [getS_set hi']
      by_cases q : i = j
      · rw [if_pos q] at h1; cases h1
      · rw [if_neg q] at h1 ⊢; exact R.slot j o e h1
    · have hi' : ¬ i < σ.length := by rw [R.lenσ, ← R.len]; exact hi
      rw [List.set_eq_of_length_le (by omega)] at h1 ⊢
      exact R.slot j o e h1
  · by_cases hi : i < env.length
    · have hi' : i < σ.length := by rw [R.lenσ, ← R.len]; exact hi
      rw [getE_set hi] at h1 h2
      rw [getS_set hi'] at v1 v2
      by_cases q1 : i = j
      · rw [if_pos q1] at h1; cases h1
      · by_cases q2 : i = k
        · rw [if_pos q2] at h2; cases h2
        · rw [if_neg q1] at h1 v1; rw [if_neg q2] at h2 v2
          exact R.sep j k d1 d2 a hjk h1 h2 m1 m2 v1 v2
    · have hi' : ¬ i < σ.length := by rw [R.lenσ, ← R.len]; exact hi
      rw [List.set_eq_of_length_le (by omega)] at h1 h2
      rw [List.set_eq_of_length_le (by omega)] at v1 v2
      exact R.sep j k d1 d2 a hjk h1 h2 m1 m2 v1 v2
theorem Rel.wipe (R : Rel K n G μ σ H env s) : ∀ vs : List Nat, Rel K n G μ (L2.wipe σ vs) H (wipeE env vs) s
  | [] => R
  | v :: vs => (R.wipe vs).drop v
/-- the store aside -/
theorem Rel.sto (R : Rel K n G μ σ H env s) (S : Sk K G μ H s') : Rel K n G μ σ H env s' := ⟨R.len, R.lenσ, S, R.slot, R.sep⟩

/-! ### targets -/
def lenTs : Tgts → Nat
  | .nil => 0
  | .cons _ ts => lenTs ts + 1
mutual
def gT (K : PySem.W.Frag) : Tgt → TG
  | .nm i => gName i
  | .tp ts => gTup K (lenTs ts) (gTs K ts)
def gTs (K : PySem.W.Frag) : Tgts → TGs
  | .nil => gNil
  | .cons t ts => gCons (gT K t) (gTs K ts)
end
mutual
def tgIn : Tgt → List Nat → Bool
  | .nm i, own => own.contains i
  | .tp ts, own => tgsIn ts own
def tgsIn : Tgts → List Nat → Bool
  | .nil, _ => true
  | .cons t ts, own => tgIn t own && tgsIn ts own
end
theorem bindTs_len {ts : Tgts} {xs : List D} {env env' : MEnv} (h : bindTs ts xs env = some env') : xs.length = lenTs ts := by
  induction xs generalizing ts env with
  | nil => cases ts with
    | nil => rfl
    | cons t ts => simp [bindTs] at h
  | cons x xs ih => cases ts with
    | nil => simp [bindTs] at h
    | cons t ts =>
      simp only [bindTs, Option.bind_eq_some_iff] at h
      obtain ⟨e1, _, h2⟩ := h
      show xs.length + 1 = lenTs ts + 1
      rw [ih h2]
mutual
theorem gT_ok : ∀ (tg : Tgt) (d : D) (v : V) (σ : L2.St) (env env' : MEnv) (Q : L2.St → Hp → Prop), Rel K n G μ σ H env s → Val K G μ H d v → bindT tg d env = some env' →
    (∀ σ', Rel K n G μ σ' H env' s → (∀ own, tgIn tg own = true → L2.wipe σ' own = L2.wipe σ own) → (∀ i, ownd env' i = true → env'[i]? = env[i]? ∧ σ'[i]? = σ[i]?) → Q σ' H) → gT K tg v σ H Q
  | .nm i, d, v, σ, env, env', Q, R, hv, e, q => by
    simp only [bindT] at e
    split at e
    · rename_i hi
      cases e
      refine q _ (R.setV hi hv) (fun own ho => ?_) fun j hj => ?_
      rotate_left
      · have hij : i ≠ j := fun z => by
          subst z
          simp [ownd, getE_set hi] at hj
        exact ⟨List.getElem?_set_ne hij, List.getElem?_set_ne hij⟩
      have hm0 : i ∈ own := by simpa [tgIn] using ho
      clear q R hv ho
      induction own with
      | nil => cases hm0
      | cons a own ih =>
        show (L2.wipe (σ.set i (some v)) own).set a none = (L2.wipe σ own).set a none
        by_cases hm : i ∈ own
        · rw [ih hm]
        · have ha : i = a := by
            rcases List.mem_cons.mp hm0 with z | z
            · exact z
            · exact absurd z hm
          subst ha
          have : ∀ (l : List Nat), i ∉ l → L2.wipe (σ.set i (some v)) l = (L2.wipe σ l).set i (some v) := by
            intro l hl
            induction l with
            | nil => rfl
            | cons b l ih2 =>
              simp only [List.mem_cons, not_or] at hl
              show (L2.wipe (σ.set i (some v)) l).set b none = ((L2.wipe σ l).set b none).set i (some v)
              rw [ih2 hl.2, List.set_comm _ _ hl.1]
          rw [this own hm, List.set_set]
    · cases e
  | .tp ts, d, v, σ, env, env', Q, R, hv, e, q => by
    cases d <;> simp only [bindT] at e <;> try contradiction
    rename_i xs
    cases hv with
    | tup h r => exact ⟨_, _, rfl, .of h, by rw [← r.length]; exact bindTs_len e, gTs_ok ts xs _ σ env env' Q R r e fun σ' R' hw ho' => q σ' R' (fun own ho => hw own (by simpa [tgIn] using ho)) ho'⟩
theorem gTs_ok : ∀ (ts : Tgts) (ds : List D) (vs : List V) (σ : L2.St) (env env' : MEnv) (Q : L2.St → Hp → Prop), Rel K n G μ σ H env s → Vls K G μ H ds vs → bindTs ts ds env = some env' →
    (∀ σ', Rel K n G μ σ' H env' s → (∀ own, tgsIn ts own = true → L2.wipe σ' own = L2.wipe σ own) → (∀ i, ownd env' i = true → env'[i]? = env[i]? ∧ σ'[i]? = σ[i]?) → Q σ' H) → gTs K ts vs σ H Q
  | .nil, ds, vs, σ, env, env', Q, R, hv, e, q => by
    cases ds <;> simp [bindTs] at e
    subst e
    cases hv
    exact ⟨rfl, q σ R (fun _ _ => rfl) fun _ _ => ⟨rfl, rfl⟩⟩
  | .cons t ts, ds, vs, σ, env, env', Q, R, hv, e, q => by
    cases ds with
    | nil => simp [bindTs] at e
    | cons d ds =>
      simp only [bindTs, Option.bind_eq_some_iff] at e
      obtain ⟨e1, h1, h2⟩ := e
      cases hv with
      | cons hv1 hv2 =>
        refine ⟨_, _, rfl, gT_ok t d _ σ env e1 _ R hv1 h1 fun σ1 R1 w1 o1 => gTs_ok ts ds _ σ1 e1 env' Q R1 hv2 h2 fun σ2 R2 w2 o2 => q σ2 R2 (fun own ho => ?_) fun i hi => ?_⟩
        · simp only [tgsIn, Bool.and_eq_true] at ho
          rw [w2 own ho.2, w1 own ho.1]
        · obtain ⟨p1, p2⟩ := o2 i hi
          have hi1 : ownd e1 i = true := by
            unfold ownd at hi ⊢
            rwa [p1] at hi
          obtain ⟨p3, p4⟩ := o1 i hi1
          exact ⟨p1.trans p3, p2.trans p4⟩
end
theorem wipe_own {env : MEnv} {σ : L2.St} {i : Nat} : ∀ {l : List Nat}, ownd (wipeE env l) i = true → (wipeE env l)[i]? = env[i]? ∧ (L2.wipe σ l)[i]? = σ[i]?
  | [], _ => ⟨rfl, rfl⟩
  | b :: l, h => by
    have hb : b ≠ i := fun z => by
      subst z
      unfold ownd at h
      have : (wipeE env (b :: l))[b]? = none ∨ (wipeE env (b :: l))[b]? = some none := by
        show ((wipeE env l).set b none)[b]? = none ∨ ((wipeE env l).set b none)[b]? = some none
        by_cases hl : b < (wipeE env l).length
        · right; rw [List.getElem?_set_self hl]
        · left; rw [List.getElem?_eq_none]; simpa using hl
      rcases this with z | z <;> rw [z] at h <;> simp at h
    have e1 : (wipeE env (b :: l))[i]? = (wipeE env l)[i]? := List.getElem?_set_ne hb
    have e2 : (L2.wipe σ (b :: l))[i]? = (L2.wipe σ l)[i]? := List.getElem?_set_ne hb
    have h' : ownd (wipeE env l) i = true := by
      unfold ownd at h ⊢
      rwa [e1] at h
    obtain ⟨q1, q2⟩ := wipe_own (σ := σ) h'
    exact ⟨e1.trans q1, e2.trans q2⟩
end
end Mi
/-! M7: when a text of Python is the language's. -/
namespace Mi
open PySem PySem.Spec PyProof.Rows L2

structure Nms where
  fn : Nat → Str
  cst : Str → Option Int
def vis (sc : Scope) (x : Str) : Bool := match sc.names.lookup x with
  | some .local => true
  | some .cell => true
  | some .free => true
  | _ => false
/-- a name that may be stored: local, or (in a def's own body) a cell -/
def loc (sc : Scope) (top : Str → Bool) (x : Str) : Bool := match sc.names.lookup x with
  | some .local => true
  | some .cell => top x
  | _ => false
def gl (sc : Scope) (x : Str) : Bool := match sc.names.lookup x with
  | some .globalImplicit => true
  | _ => false
def okN (x : Str) : Bool := !(x == ("__debug__" : Str)) && !(x == ("__classdict__" : Str))
def bfN : BF → Str
  | .len => "len" | .tuple => "tuple" | .list => "list" | .int => "int" | .all => "all" | .any => "any" | .sum => "sum" | .sorted => "sorted" | .min => "min" | .max => "max" | .str => "str" | .abs => "abs"
def tyS : Ty → Str
  | .int => "int" | .bool => "bool" | .str => "str" | .tuple => "tuple" | .list => "list" | .dict => "dict"
def bnames : List Str := ["len", "tuple", "list", "int", "all", "any", "sum", "sorted", "min", "max", "str", "abs", "bool", "dict", "isinstance", "range", "enumerate", "zip", "set"]

/-- the cells of a def's own body, of a block -/
def allC : Str → Bool := fun _ => true
def ownC (scope : Scope) (x : Str) : Bool := scope.names.lookup x == some .cell
mutual
def matT (N : List Str) (sc : Scope) (top : Str → Bool) : Tgt → Expr → Bool
  | .nm i, .Name x _ => decide (N[i]? = some x) && loc sc top x
  | .tp ts, .Tuple es _ _ => matTs N sc top ts es
  | _, _ => false
def matTs (N : List Str) (sc : Scope) (top : Str → Bool) : Tgts → List Expr → Bool
  | .nil, [] => true
  | .cons t ts, e :: es => matT N sc top t e && matTs N sc top ts es
  | _, _ => false
end
def matTy (sc : Scope) : List Ty → List Expr → Bool
  | [], [] => true
  | t :: ts, .Name x _ :: es => decide (x = tyS t) && gl sc x && matTy sc ts es
  | _, _ => false
def ownN (N : List Str) (own : List Nat) : List (Str × Nat) := own.map fun i => (N.getD i "", i)
def isNm : Expr → Bool
  | .Name _ _ => true
  | _ => false
def isTup : Expr → Bool
  | .Tuple _ _ _ => true
  | _ => false
def isNilCEs : CEs → Bool
  | .nil => true
  | _ => false

mutual
def matE (M : Nms) (N : List Str) (sc : Scope) : CE → Expr → Bool
  | .var i, e => match e with
    | .Name x _ => decide (N[i]? = some x) && vis sc x && okN x
    | _ => false
  | .cint n, e => match e with
    | .Constant (.int m) _ _ => decide (n = m)
    | _ => false
  | .cbl b, e => match e with
    | .Constant (.bool c) _ _ => decide (b = c)
    | _ => false
  | .cnon, e => match e with
    | .Constant .none _ _ => true
    | _ => false
  | .cstr s, e => match e with
    | .Constant (.str t) _ _ => decide (s = t)
    | _ => false
  | .glob x n, e => match e with
    | .Name y _ => decide (x = y) && gl sc x && okN x && decide (M.cst x = some n)
    | _ => false
  | .tup es, e => match e with
    | .Tuple xs _ _ => matEs M N sc es xs
    | _ => false
  | .tupS a es, e => match e with
    | .Tuple (.Starred x _ :: xs) _ _ => matE M N sc a x && matEs M N sc es xs
    | _ => false
  | .lst es, e => match e with
    | .List xs _ => matEs M N sc es xs
    | _ => false
  | .bin op a b, e => match e with
    | .BinOp x op' y _ => decide (op = op') && matE M N sc a x && matE M N sc b y
    | _ => false
  | .neg a, e => match e with
    | .UnaryOp .USub x _ => matE M N sc a x
    | _ => false
  | .cmp op a b, e => match e with
    | .Compare x [op'] [y] _ => decide (op = op') && matE M N sc a x && matE M N sc b y
    | _ => false
  | .chain o1 o2 a b c, e => match e with
    | .Compare x [p1, p2] [y, z] _ => decide (o1 = p1) && decide (o2 = p2) && matE M N sc a x && matE M N sc b y && matE M N sc c z
    | _ => false
  | .and es, e => match e with
    | .BoolOp .And xs _ => !isNilCEs es && matEs M N sc es xs
    | _ => false
  | .or es, e => match e with
    | .BoolOp .Or xs _ => !isNilCEs es && matEs M N sc es xs
    | _ => false
  | .not a, e => match e with
    | .UnaryOp .Not x _ => matE M N sc a x
    | _ => false
  | .ife c a b, e => match e with
    | .IfExp x y z _ => matC M N sc c x && matE M N sc a y && matE M N sc b z
    | _ => false
  | .sub a i, e => match e with
    | .Subscript x y _ => matE M N sc a x && matE M N sc i y
    | _ => false
  | .slc a lo hi, e => match e with
    | .Subscript x (.Slice l h none _) _ => matE M N sc a x && matO M N sc lo l && matO M N sc hi h
    | _ => false
  | .comp tg it ifs elt own, e => match e with
    | .ListComp x [⟨t, i, fs, z⟩] scope _ => decide (z = 0) && matI M N sc it t i && matT N (relS scope sc) (ownC scope) tg t && matIfs M N (relS scope sc) ifs fs && matE M N (relS scope sc) elt x && blkC N sc scope (ownN N own) && tgIn tg own
    | _ => false
  | .comp2 tg it tg2 it2 ifs elt own own2, e => match e with
    | .ListComp x [⟨t, i, [], z⟩, ⟨t2, i2, fs, z2⟩] scope _ => decide (z = 0) && decide (z2 = 0) && matI M N sc it t i && matT N (relS scope sc) (ownC scope) tg t && matI M N (relS scope sc) it2 t2 i2 && matT N (relS scope sc) (ownC scope) tg2 t2 &&
        matIfs M N (relS scope sc) ifs fs && matE M N (relS scope sc) elt x && blkC N sc scope (ownN N own) && tgIn tg own && tgIn tg2 own2 && own2.all (own.contains ·)
    | _ => false
  | .call f args, e => match e with
    | .Call (.Name x _) xs [] _ => decide (x = M.fn f) && gl sc x && okN x && matEs M N sc args xs
    | _ => false
  | .bfn f args, e => match e with
    | .Call (.Name x _) xs [] _ => decide (x = bfN f) && gl sc x && !isNilCEs args && matEs M N sc args xs
    | _ => false
  | .isi a ts one, e => match e with
    | .Call (.Name x _) [y, z] [] _ => decide (x = "isinstance") && gl sc x && matE M N sc a y && (!ts.isEmpty && decide (ts.length ≤ 8)) && (if one then matTy sc ts [z] else match z with | .Tuple zs _ _ => matTy sc ts zs | _ => false)
    | _ => false
  | .heap a, e => matE M N sc a e
  | .dict0 _, e => match e with
    | .Dict [] [] _ => true
    | _ => false
  | .dcomp _ tg it kx vx own, e => match e with
    | .DictComp k v [⟨t, i, [], z⟩] scope _ => decide (z = 0) && matI M N sc it t i && matT N (relS scope sc) (ownC scope) tg t && matE M N (relS scope sc) kx k && matE M N (relS scope sc) vx v && blkC N sc scope (ownN N own) && tgIn tg own
    | _ => false
  | .ssort tg it elt own, e => match e with
    | .Call (.Name x _) [.SetComp y [⟨t, i, [], z⟩] scope _] [] _ => decide (x = "sorted") && gl sc x && decide (z = 0) && matI M N sc it t i && matT N (relS scope sc) (ownC scope) tg t && matE M N (relS scope sc) elt y && blkC N sc scope (ownN N own) && tgIn tg own
    | _ => false
def matEs (M : Nms) (N : List Str) (sc : Scope) : CEs → List Expr → Bool
  | .nil, [] => true
  | .cons c cs, e :: es => matE M N sc c e && matEs M N sc cs es
  | _, _ => false
def matC (M : Nms) (N : List Str) (sc : Scope) : CT → Expr → Bool
  | .and ts, e => match e with
    | .BoolOp .And xs _ => matCs M N sc ts xs
    | _ => false
  | .or ts, e => match e with
    | .BoolOp .Or xs _ => matCs M N sc ts xs
    | _ => false
  | .not t, e => match e with
    | .UnaryOp .Not x _ => matC M N sc t x
    | _ => false
  | .val c, e => matE M N sc c e && (match c with | .heap _ => false | _ => true) && (match e with | .IfExp _ _ _ _ => false | .BoolOp _ _ _ => false | .UnaryOp .Not _ _ => false | _ => true)
def matCs (M : Nms) (N : List Str) (sc : Scope) : CTs → List Expr → Bool
  | .nil, _ => false
  | .cons t .nil, [e] => matC M N sc t e
  | .cons t ts, e :: es => matC M N sc t e && matCs M N sc ts es
  | _, _ => false
def matIfs (M : Nms) (N : List Str) (sc : Scope) : CTs → List Expr → Bool
  | .nil, [] => true
  | .cons t .nil, [e] => matC M N sc t e
  | _, _ => false
def matO (M : Nms) (N : List Str) (sc : Scope) : CEs → Option Expr → Bool
  | .nil, none => true
  | .cons c .nil, some e => matE M N sc c e
  | _, _ => false
def matI (M : Nms) (N : List Str) (sc : Scope) : CI → Expr → Expr → Bool
  | .seq c, _, e => matE M N sc c e
  | .range1 a, _, e => match e with
    | .Call (.Name x _) [y] [] _ => decide (x = "range") && gl sc x && matE M N sc a y
    | _ => false
  | .range2 a b, _, e => match e with
    | .Call (.Name x _) [y, z] [] _ => decide (x = "range") && gl sc x && matE M N sc a y && matE M N sc b z
    | _ => false
  | .enum c, t, e => match e with
    | .Call (.Name x _) [y] [] _ => decide (x = "enumerate") && gl sc x && matE M N sc c y && isTup t
    | _ => false
  | .zip2 a b, t, e => match e with
    | .Call (.Name x _) [y, z] [] _ => decide (x = "zip") && gl sc x && matE M N sc a y && matE M N sc b z && isTup t
    | _ => false
  | .zipS c, t, e => match e with
    | .Call (.Name x _) [.Starred y _] [] _ => decide (x = "zip") && gl sc x && matE M N sc c y && isNm t
    | _ => false
end

/-- no set, no star, no slice -/
def okShape : Expr → Bool
  | .Set _ _ _ => false
  | .Starred _ _ => false
  | .Slice _ _ _ _ => false
  | _ => true
section
variable {M : Nms} {N : List Str} {sc : Scope}
theorem matE_shape : ∀ {c : CE} {e : Expr}, matE M N sc c e = true → okShape e = true := by
  intro c
  induction c using CE.rec (motive_2 := fun _ => True) (motive_3 := fun _ => True) (motive_4 := fun _ => True) (motive_5 := fun _ => True) with
  | heap a ih => intro e h; exact ih (by simpa [matE] using h)
  | nil => trivial
  | cons => trivial
  | «seq» => trivial
  | range1 => trivial
  | range2 => trivial
  | enum => trivial
  | zip2 => trivial
  | zipS => trivial
  | val => trivial
  | _ => first
    | trivial
    | (intro e h
       cases e <;> first | rfl | simp [matE] at h)
theorem starEach_shape {e : Expr} (h : okShape e = true) (es : List Expr) (env : PySem.Env) : starEach (e :: es) env = (false, eval e env) :: starEach es env := by
  cases e <;> first | rfl | simp [okShape] at h
theorem plainIx_shape {e : Expr} (h : okShape e = true) : PlainIx e := by
  cases e <;> first | exact fun _ _ => rfl | simp [okShape] at h
theorem nomark_shape {e : Expr} (h : okShape e = true) (op : CmpOp) : behindInMarks op e = false := by
  cases e <;> first | rfl | simp [okShape] at h
theorem folded_shape {e : Expr} (h : okShape e = true) (env : PySem.Env) (x : Value) : foldedSetIterable e env x = pure x := by
  cases e <;> first | rfl | simp [okShape] at h
theorem folded_mat {ci : CI} {t e : Expr} (h : matI M N sc ci t e = true) (env : PySem.Env) (x : Value) : foldedSetIterable e env x = pure x := by
  cases ci with
  | «seq» c => exact folded_shape (matE_shape (by simpa [matI] using h)) env x
  | _ => cases e <;> first | rfl | simp [matI] at h
theorem starEach_all : ∀ {cs : CEs} {es : List Expr} {env : PySem.Env}, matEs M N sc cs es = true → (starEach es env).any (·.1) = false
  | .nil, [], _, _ => rfl
  | .nil, _ :: _, _, h => by simp [matEs] at h
  | .cons _ _, [], _, h => by simp [matEs] at h
  | .cons c cs, e :: es, env, h => by
    simp only [matEs, Bool.and_eq_true] at h
    rw [starEach_shape (matE_shape h.1)]
    simpa using starEach_all h.2
end
end Mi
/-! M8: the readings of expressions, each construct by itself. -/
namespace Mi
open PySem PySem.Spec PyProof.Rows L2

def freshT (T : Tab) (f : Nat) : Bool := match T f with | some gn => gn.fresh | none => false
theorem clOf_eq (T : Tab) (k : Nat) : clOf T k = ⟨callF T k, freshT T⟩ := rfl
/-- what a def promises: what the language's run of it gives -/
def spF (K : PySem.W.Frag) (T : Tab) (k f : Nat) : Sp := fun vs H Q _ => ∃ G μ s ds d s', Sk K G μ H s ∧ Vls K G μ H ds vs ∧ callF T k f ds s = .ok d s' ∧
  ∀ v G' μ' H', Ext G μ H G' μ' H' → Sk K G' μ' H' s' → (if freshT T f = true then New K G' μ' H' H d v else Val K G' μ' H' d v) → Q v H'
structure FnFact (M : Nms) (T : Tab) (k f : Nat) (X : Cx) : Prop where
  ex : ∃ a fd ps, X.mg (M.fn f) = some (.ref a) ∧ PySem.W.keepIn X.K (.ref a) = true ∧ Binds X.K fd ps [] ∧ FnOk X.prog X.w X.K X.mg X.base CX0 k a fd ps (spF X.K T k f)
/-- the place where an expression stands -/
structure Cxt (M : Nms) (T : Tab) (k : Nat) (N : List Str) (sc : Scope) (top : Str → Bool) (X : Cx) : Prop where
  nN : X.N = N
  sc : X.env.scope = sc
  calm : X.calm = true
  nd : N.Nodup
  room : Room k X.A
  blt : ∀ b ∈ bnames, X.mg b = none
  cst : ∀ x n, M.cst x = some n → ∃ t, X.mg x = some (.int n t)
  fns : ∀ f fn, T f = some fn → FnFact M T k f X
  fn : ∀ x, top x = true → X.fn x = true

/-- an expression's reading -/
def tEv (F : Cl) (K : PySem.W.Frag) (n : Nat) (c : CE) : TE := fun σ H Q => ∃ G μ env s d s', Rel K n G μ σ H env s ∧ evE F c env s = .ok d s' ∧
  ∀ v G' μ' H', Ext G μ H G' μ' H' → Sk K G' μ' H' s' → Post F env c K G' μ' H' H d v → Q v H'
def tEvs (F : Cl) (K : PySem.W.Frag) (n : Nat) (cs : CEs) : TA := fun σ H Q => ∃ G μ env s ds s', Rel K n G μ σ H env s ∧ evEs F cs env s = .ok ds s' ∧
  ∀ vs G' μ' H', Ext G μ H G' μ' H' → Sk K G' μ' H' s' → Posts F env K G' μ' H' H cs ds vs → Q vs H'
def tEvT (F : Cl) (K : PySem.W.Frag) (n : Nat) (c : CT) : TT := fun σ H Q => ∃ G μ env s b s', Rel K n G μ σ H env s ∧ evT F c env s = .ok b s' ∧
  ∀ G' μ' H', Ext G μ H G' μ' H' → Sk K G' μ' H' s' → Q b H'
/-- a reading of a run with a bool -/
def tRb (K : PySem.W.Frag) (n : Nat) (run : MEnv → Sto → Rs Bool) : TT := fun σ H Q => ∃ G μ env s b s', Rel K n G μ σ H env s ∧ run env s = .ok b s' ∧
  ∀ G' μ' H', Ext G μ H G' μ' H' → Sk K G' μ' H' s' → Q b H'

section
variable {X : Cx} {e : Expr} {t t' : TE}
theorem _root_.L2.PE.weak (h : PE X e t) (w : ∀ σ H Q, t' σ H Q → t σ H Q) : PE X e t' := ⟨fun pins s σ H Q I q => h.run pins s σ H Q I (w _ _ _ q)⟩
theorem _root_.L2.PE.either {t1 t2 : TE} (h1 : PE X e t1) (h2 : PE X e t2) : PE X e (fun σ H Q => t1 σ H Q ∨ t2 σ H Q) := ⟨fun pins s σ H Q I q => q.elim (fun z => h1.run pins s σ H Q I z) fun z => h2.run pins s σ H Q I z⟩
theorem _root_.L2.PT.weak {t t' : TT} (h : PT X e t) (w : ∀ σ H Q, t' σ H Q → t σ H Q) : PT X e t' := ⟨fun pins s σ H Q I q => h.run pins s σ H Q I (w _ _ _ q)⟩
theorem _root_.L2.PW.weak {t t' : TT} (h : PW X e t) (w : ∀ σ H Q, t' σ H Q → t σ H Q) : PW X e t' := ⟨fun wh pins s σ H Q I q => h.run wh pins s σ H Q I (w _ _ _ q)⟩
theorem _root_.L2.PA.weak {es : List Expr} {t t' : TA} (h : PA X es t) (w : ∀ σ H Q, t' σ H Q → t σ H Q) : PA X es t' := ⟨fun pos pins s σ H Q I q => h.run pos pins s σ H Q I (w _ _ _ q)⟩
end

section
variable {M : Nms} {T : Tab} {k : Nat} {N : List Str} {sc : Scope} {top : Str → Bool} {X : Cx} {F : Cl} {K : PySem.W.Frag} {n : Nat}
theorem vis_of {x : Str} (h : vis sc x = true) : Vis sc x := by
  unfold vis at h
  split at h
  · rename_i q; exact .inl q
  · rename_i q; exact .inr (.inl q)
  · rename_i q; exact .inr (.inr q)
  · cases h
theorem gl_of {x : Str} (C : Cxt M T k N sc top X) (h : gl sc x = true) : Gl X x := by
  unfold gl at h
  split at h
  · rename_i q
    show X.env.scope.names.lookup x = some .globalImplicit
    rw [C.sc]; exact q
  · cases h
theorem okN_of {x : Str} (h : okN x = true) : (x == ("__debug__" : Str)) = false ∧ (x == ("__classdict__" : Str)) = false := by
  unfold okN at h
  simp only [Bool.and_eq_true, Bool.not_eq_true'] at h
  exact h
theorem Cxt.hu (C : Cxt M T k N sc top X) : X.A.units + 64 < cLine := C.room.units

/-! ### names and constants -/
theorem r_var (C : Cxt M T k N sc top X) {i : Nat} {x : Str} {pos : Pos} (h : matE M N sc (.var i) (.Name x pos) = true) : PE X (.Name x pos) (tEv F X.K X.N.length (.var i)) := by
  simp only [matE, Bool.and_eq_true, decide_eq_true_eq] at h
  obtain ⟨⟨h1, h2⟩, h3⟩ := h
  obtain ⟨d1, d2⟩ := okN_of h3
  refine (pe_var (by rw [C.nN]; exact h1) (by rw [C.sc]; exact vis_of h2) d1 d2).weak fun σ H Q ⟨G, μ, env, s, d, s', R, e, q⟩ => ?_
  simp only [evE] at e
  obtain ⟨e, rfl⟩ := Rs.of_eq_ok e
  unfold getV at e
  split at e
  · rename_i o d' hd
    cases e
    obtain ⟨v, h1, h2⟩ := R.slot i o _ hd
    refine ⟨v, h1, q v G μ H .refl R.sk ?_⟩
    unfold Post
    rw [if_neg (by simp [fresh])]
    split
    · exact h2.top
    · rename_i hb
      have ho : o = false := by
        cases o
        · rfl
        · exact absurd (by simp [bor, ownd, hd]) hb
      subst ho
      exact h2.val
  · cases e
theorem r_const {c : CE} {d : D} {v : V} {e : Expr} (hp : PE X e (tC v)) (he : ∀ env s, evE F c env s = .ok d s) (hf : fresh F c = false) (hv : ∀ K G μ H, Val K G μ H d v) : PE X e (tEv F X.K X.N.length c) :=
  hp.weak fun σ H Q ⟨G, μ, env, s, d', s', R, e, q⟩ => by
    rw [he] at e
    cases e
    exact q v G μ H .refl R.sk (.of_val (hv _ _ _ _) fun z => by rw [hf] at z; cases z)
theorem r_glob (C : Cxt M T k N sc top X) {x : Str} {m : Int} {y : Str} {pos : Pos} (h : matE M N sc (.glob x m) (.Name y pos) = true) : PE X (.Name y pos) (tEv F X.K X.N.length (.glob x m)) := by
  simp only [matE, Bool.and_eq_true, decide_eq_true_eq] at h
  obtain ⟨⟨⟨rfl, h2⟩, h3⟩, h4⟩ := h
  obtain ⟨t, ht⟩ := C.cst x m h4
  exact r_const (pe_glob (v := .int m) (gl_of C h2) ht ⟨t, rfl⟩ (okN_of h3).1) (fun _ _ => rfl) rfl fun _ _ _ _ => .int m

/-! ### arguments -/
theorem r_args : ∀ {cs : CEs} {es : List Expr}, matEs M N sc cs es = true → (∀ c e, matE M N sc c e = true → sizeOf c < sizeOf cs → PE X e (tEv F X.K X.N.length c)) → PA X es (tEvs F X.K X.N.length cs)
  | .nil, [], _, _ => pa_nil.weak fun σ H Q ⟨G, μ, env, s, d, s', R, e, q⟩ => by
    cases e
    exact q [] G μ H .refl R.sk .nil
  | .nil, _ :: _, h, _ => by simp [matEs] at h
  | .cons _ _, [], h, _ => by simp [matEs] at h
  | .cons c cs, e :: es, h, ih => by
    simp only [matEs, Bool.and_eq_true] at h
    have h1 := ih c e h.1 (by simp; omega)
    have h2 : PA X es (tEvs F X.K X.N.length cs) := r_args h.2 fun c' e' hm hs => ih c' e' hm (by simp; omega)
    refine (pa_cons h1 h2 (starEach_shape (matE_shape h.1) es X.env)).weak fun σ H Q ⟨G, μ, env, s, ds, s', R, ev, q⟩ => ?_
    simp only [evEs] at ev
    obtain ⟨d, s1, ev1, ev⟩ := Rs.bind_eq_ok ev
    obtain ⟨ds1, s2, ev2, ev⟩ := Rs.bind_eq_ok ev
    cases ev
    refine ⟨G, μ, env, s, d, s1, R, ev1, fun v G1 μ1 H1 x1 S1 p1 => ⟨G1, μ1, env, s1, ds1, _, R.ext x1 S1, ev2, fun vs G2 μ2 H2 x2 S2 p2 => ?_⟩⟩
    exact q (v :: vs) G2 μ2 H2 (x1.trans x2) S2 (.cons (p1.ext S1 x2) (p2.back x1.dom))

/-! ### displays -/
theorem r_tup {cs : CEs} {es : List Expr} {z : Nat} {pos : Pos} (ha : PA X es (tEvs F X.K X.N.length cs)) : PE X (.Tuple es z pos) (tEv F X.K X.N.length (.tup cs)) := by
  refine (pe_tup ha).weak fun σ H Q ⟨G, μ, env, s, d, s', R, ev, q⟩ => ?_
  simp only [evE] at ev
  split at ev
  · cases ev
  · rename_i hb
    have hb : bors env cs = false := by simpa using hb
    obtain ⟨xs, s1, ev1, ev⟩ := Rs.bind_eq_ok ev
    split at ev
    · rename_i hz
      cases ev
      refine ⟨G, μ, env, s, xs, s', R, ev1, fun vs G1 μ1 H1 x1 S1 p1 => ?_⟩
      obtain ⟨G2, a1, a2, S2, r2, st⟩ := p1.absorb S1 hb
      refine ⟨by rw [← r2.length]; exact lenOk_le hz, fun p hp => q _ G2 μ1 _ ((x1.grow a1 a2).trans (.laid hp)) (S2.laid hp) (.of_val (val_tup S2 hp r2) fun _ => rfl)⟩
    · cases ev
theorem r_lst {cs : CEs} {es : List Expr} {pos : Pos} (ha : PA X es (tEvs F X.K X.N.length cs)) : PE X (.List es pos) (tEv F X.K X.N.length (.lst cs)) := by
  refine (pe_lst ha).weak fun σ H Q ⟨G, μ, env, s, d, s', R, ev, q⟩ => ?_
  simp only [evE] at ev
  split at ev
  · cases ev
  · rename_i hb
    have hb : bors env cs = false := by simpa using hb
    obtain ⟨xs, s1, ev1, ev⟩ := Rs.bind_eq_ok ev
    split at ev
    · rename_i hz
      cases ev
      refine ⟨G, μ, env, s, xs, s', R, ev1, fun vs G1 μ1 H1 x1 S1 p1 => ?_⟩
      obtain ⟨G2, a1, a2, S2, r2, st⟩ := p1.absorb S1 hb
      refine ⟨by rw [← r2.length]; exact lenOk_le hz, fun p hp => q _ G2 μ1 _ ((x1.grow a1 a2).trans (.laid hp)) (S2.laid hp) (.of_new rfl ((new_lst S2 hp r2).back x1.dom))⟩
    · cases ev

/-! ### operators -/
theorem r_bin {op : Operator} {a b : CE} {x y : Expr} {pos : Pos} (ha : PE X x (tEv F X.K X.N.length a)) (hb : PE X y (tEv F X.K X.N.length b)) : PE X (.BinOp x op y pos) (tEv F X.K X.N.length (.bin op a b)) := by
  refine (pe_op (op_bin op) ha hb).weak fun σ H Q ⟨G, μ, env, s, d, s', R, ev, q⟩ => ?_
  simp only [evE] at ev
  obtain ⟨da, s1, ev1, ev⟩ := Rs.bind_eq_ok ev
  obtain ⟨db, s2, ev2, ev⟩ := Rs.bind_eq_ok ev
  obtain ⟨ev, rfl⟩ := Rs.of_eq_ok ev
  refine ⟨G, μ, env, s, da, s1, R, ev1, fun v G1 μ1 H1 x1 S1 p1 => ⟨G1, μ1, env, s1, db, s', R.ext x1 S1, ev2, fun u G2 μ2 H2 x2 S2 p2 => ?_⟩⟩
  exact ⟨G2, μ2, s', da, db, d, S2, (p1.ext S1 x2).top, p2.top, ev, fun w H3 x3 S3 p3 => q w G2 μ2 H3 ((x1.trans x2).trans x3) S3 (.of_new rfl (p3.back fun a h => x1.dom a (x2.dom a h)))⟩
theorem r_neg {a : CE} {x : Expr} {pos : Pos} (ha : PE X x (tEv F X.K X.N.length a)) : PE X (.UnaryOp .USub x pos) (tEv F X.K X.N.length (.neg a)) := by
  refine (pe_un un_neg ha).weak fun σ H Q ⟨G, μ, env, s, d, s', R, ev, q⟩ => ?_
  simp only [evE] at ev
  obtain ⟨da, s1, ev1, ev⟩ := Rs.bind_eq_ok ev
  split at ev
  · cases ev
    refine ⟨G, μ, env, s, _, _, R, ev1, fun v G1 μ1 H1 x1 S1 p1 => ?_⟩
    obtain ⟨rfl, _⟩ := p1.top.int (s := []) rfl
    exact ⟨_, rfl, q _ G1 μ1 H1 x1 S1 (.of_val (.int _) fun z => by simp [fresh] at z)⟩
  · cases ev
theorem r_not {a : CE} {x : Expr} {pos : Pos} (ha : PE X x (tEv F X.K X.N.length a)) : PE X (.UnaryOp .Not x pos) (tEv F X.K X.N.length (.not a)) := by
  refine (pe_not ha).weak fun σ H Q ⟨G, μ, env, s, d, s', R, ev, q⟩ => ?_
  simp only [evE] at ev
  obtain ⟨da, s1, ev1, ev⟩ := Rs.bind_eq_ok ev
  split at ev
  · cases ev
    refine ⟨G, μ, env, s, _, _, R, ev1, fun v G1 μ1 H1 x1 S1 p1 => ?_⟩
    obtain rfl := p1.top.bl (s := []) rfl
    exact ⟨_, rfl, q _ G1 μ1 H1 x1 S1 (.of_val (.bl _) fun z => by simp [fresh] at z)⟩
  · cases ev
theorem r_cmp (C : Cxt M T k N sc top X) {op : CmpOp} {a b : CE} {x y : Expr} {pos : Pos} (hs : okShape y = true) (ha : PE X x (tEv F X.K X.N.length a)) (hb : PE X y (tEv F X.K X.N.length b)) : PE X (.Compare x [op] [y] pos) (tEv F X.K X.N.length (.cmp op a b)) := by
  refine (pe_cmpR (op_cmp C.hu op) ha hb (nomark_shape hs op)).weak fun σ H Q ⟨G, μ, env, s, d, s', R, ev, q⟩ => ?_
  simp only [evE] at ev
  obtain ⟨da, s1, ev1, ev⟩ := Rs.bind_eq_ok ev
  obtain ⟨db, s2, ev2, ev⟩ := Rs.bind_eq_ok ev
  obtain ⟨bb, s3, ev3', ev4⟩ := Rs.bind_eq_ok ev
  obtain ⟨ev3, rfl⟩ := Rs.of_eq_ok ev3'
  cases ev4
  refine ⟨G, μ, env, s, da, s1, R, ev1, fun v G1 μ1 H1 x1 S1 p1 => ⟨G1, μ1, env, s1, db, _, R.ext x1 S1, ev2, fun u G2 μ2 H2 x2 S2 p2 => ?_⟩⟩
  exact ⟨G2, μ2, _, da, db, bb, S2, (p1.ext S1 x2).top, p2.top, ev3, q _ G2 μ2 H2 (x1.trans x2) S2 (.of_val (.bl _) fun z => by simp [fresh] at z)⟩
theorem lastM {o1 o2 : CmpOp} {y z : Expr} (hz : okShape z = true) : lastMarks [o1, o2] [y, z] = false := by
  show lastMarks [o2] [z] = false
  exact nomark_shape hz o2
/-- a chain of two, as its reading asks -/
theorem chain_read {o1 o2 : CmpOp} {a b c : CE} {σ : L2.St} {H : Hp} {G : Addr → Prop} {μ : List Addr} {env : MEnv} {s s' : Sto} {d : D} {Q : VK} (R : Rel X.K X.N.length G μ σ H env s)
    (ev : evE F (.chain o1 o2 a b c) env s = .ok d s') (q : ∀ kk, d = .bl kk → ∀ G' μ' H', Ext G μ H G' μ' H' → Sk X.K G' μ' H' s' → Q (.bl kk) H') :
    tChain (rCmp X.K o1) (rCmp X.K o2) (tEv F X.K X.N.length a) (tEv F X.K X.N.length b) (tEv F X.K X.N.length c) σ H Q := by
  simp only [evE] at ev
  obtain ⟨da, s1, ev1, ev⟩ := Rs.bind_eq_ok ev
  obtain ⟨db, s2, ev2, ev⟩ := Rs.bind_eq_ok ev
  obtain ⟨bb, s3, ev3', ev⟩ := Rs.bind_eq_ok ev
  obtain ⟨ev3, rfl⟩ := Rs.of_eq_ok ev3'
  refine ⟨G, μ, env, s, da, s1, R, ev1, fun v G1 μ1 H1 x1 S1 p1 => ⟨G1, μ1, env, s1, db, s3, R.ext x1 S1, ev2, fun u G2 μ2 H2 x2 S2 p2 => ?_⟩⟩
  refine ⟨G2, μ2, s3, da, db, bb, S2, (p1.ext S1 x2).top, p2.top, ev3, bb, rfl, ?_⟩
  cases bb with
  | false =>
    simp only [Bool.false_eq_true, if_false] at ev ⊢
    cases ev
    exact q false rfl G2 μ2 H2 (x1.trans x2) S2
  | true =>
    simp only [if_true] at ev ⊢
    obtain ⟨dc, s4, ev4, ev⟩ := Rs.bind_eq_ok ev
    obtain ⟨b2, s5, ev5', ev6⟩ := Rs.bind_eq_ok ev
    obtain ⟨ev5, rfl⟩ := Rs.of_eq_ok ev5'
    cases ev6
    refine ⟨G2, μ2, env, s3, dc, s', R.ext (x1.trans x2) S2, ev4, fun w G3 μ3 H3 x3 S3 p3 => ?_⟩
    exact ⟨G3, μ3, s', db, dc, b2, S3, (p2.ext S2 x3).top, p3.top, ev5, q b2 rfl G3 μ3 H3 ((x1.trans x2).trans x3) S3⟩
theorem r_chain (C : Cxt M T k N sc top X) {o1 o2 : CmpOp} {a b c : CE} {x y z : Expr} {pos : Pos} (hs : okShape z = true) (ha : PE X x (tEv F X.K X.N.length a)) (hb : PE X y (tEv F X.K X.N.length b)) (hc : PE X z (tEv F X.K X.N.length c)) :
    PE X (.Compare x [o1, o2] [y, z] pos) (tEv F X.K X.N.length (.chain o1 o2 a b c)) := by
  refine (pe_chain (op_cmp C.hu o1) (op_cmp C.hu o2) ha hb hc (lastM hs)).weak fun σ H Q ⟨G, μ, env, s, d, s', R, ev, q⟩ => ?_
  exact chain_read R ev fun kk hd G' μ' H' x' S' => q _ G' μ' H' x' S' (by subst hd; exact .of_val (.bl _) fun z => by simp [fresh] at z)

/-! ### and, or -/
def tRbE (K : PySem.W.Frag) (n : Nat) (run : MEnv → Sto → Rs Bool) : TE := fun σ H Q => tRb K n run σ H fun b H' => Q (.bl b) H'
theorem r_andL : ∀ {cs : CEs} {es : List Expr} {pos : Pos}, isNilCEs cs = false → matEs M N sc cs es = true → (∀ c e, matE M N sc c e = true → sizeOf c < sizeOf cs → PE X e (tEv F X.K X.N.length c)) →
    PE X (.BoolOp .And es pos) (tRbE X.K X.N.length (evAnd F cs))
  | .nil, _, _, h, _, _ => by simp [isNilCEs] at h
  | .cons _ _, [], _, _, h, _ => by simp [matEs] at h
  | .cons c .nil, e :: es, pos, _, h, ih => by
    cases es with
    | cons _ _ => simp [matEs] at h
    | nil =>
      simp only [matEs, Bool.and_eq_true] at h
      refine (pe_one (ih c e h.1 (by simp; omega))).weak fun σ H Q ⟨G, μ, env, s, b, s', R, ev, q⟩ => ?_
      simp only [evAnd] at ev
      obtain ⟨d, s1, ev1, ev⟩ := Rs.bind_eq_ok ev
      simp only [andLast] at ev
      split at ev
      · cases ev
        refine ⟨G, μ, env, s, _, _, R, ev1, fun v G1 μ1 H1 x1 S1 p1 => ?_⟩
        obtain rfl := p1.top.bl (s := []) rfl
        exact q G1 μ1 H1 x1 S1
      · cases ev
  | .cons c (.cons c2 cs), [e], pos, _, h, ih => by simp [matEs] at h
  | .cons c (.cons c2 cs), e :: e2 :: es, pos, _, h, ih => by
    rw [matEs, Bool.and_eq_true] at h
    have h1 := ih c e h.1 (by simp; omega)
    have h2 : PE X (.BoolOp .And (e2 :: es) pos) (tRbE X.K X.N.length (evAnd F (.cons c2 cs))) := r_andL rfl h.2 fun c' e' hm hs => ih c' e' hm (by simp at hs ⊢; omega)
    refine (pe_and h1 h2).weak fun σ H Q ⟨G, μ, env, s, b, s', R, ev, q⟩ => ?_
    rw [evAnd] at ev
    obtain ⟨d, s1, ev1, ev⟩ := Rs.bind_eq_ok ev
    simp only [andLast] at ev
    split at ev
    · refine ⟨G, μ, env, s, _, _, R, ev1, fun v G1 μ1 H1 x1 S1 p1 => ?_⟩
      obtain rfl := p1.top.bl (s := []) rfl
      rename_i b1
      refine ⟨b1, rfl, ?_⟩
      cases b1 with
      | false =>
        simp only [Bool.false_eq_true, if_false] at ev ⊢
        cases ev
        exact q G1 μ1 H1 x1 S1
      | true =>
        simp only [if_true] at ev ⊢
        exact ⟨G1, μ1, env, s1, b, s', R.ext x1 S1, ev, fun G2 μ2 H2 x2 S2 => q G2 μ2 H2 (x1.trans x2) S2⟩
    · cases ev
theorem r_orL : ∀ {cs : CEs} {es : List Expr} {pos : Pos}, isNilCEs cs = false → matEs M N sc cs es = true → (∀ c e, matE M N sc c e = true → sizeOf c < sizeOf cs → PE X e (tEv F X.K X.N.length c)) →
    PE X (.BoolOp .Or es pos) (tRbE X.K X.N.length (evOr F cs))
  | .nil, _, _, h, _, _ => by simp [isNilCEs] at h
  | .cons _ _, [], _, _, h, _ => by simp [matEs] at h
  | .cons c .nil, e :: es, pos, _, h, ih => by
    cases es with
    | cons _ _ => simp [matEs] at h
    | nil =>
      simp only [matEs, Bool.and_eq_true] at h
      refine (pe_one (ih c e h.1 (by simp; omega))).weak fun σ H Q ⟨G, μ, env, s, b, s', R, ev, q⟩ => ?_
      simp only [evOr] at ev
      obtain ⟨d, s1, ev1, ev⟩ := Rs.bind_eq_ok ev
      simp only [orLast] at ev
      split at ev
      · cases ev
        refine ⟨G, μ, env, s, _, _, R, ev1, fun v G1 μ1 H1 x1 S1 p1 => ?_⟩
        obtain rfl := p1.top.bl (s := []) rfl
        exact q G1 μ1 H1 x1 S1
      · cases ev
  | .cons c (.cons c2 cs), [e], pos, _, h, ih => by simp [matEs] at h
  | .cons c (.cons c2 cs), e :: e2 :: es, pos, _, h, ih => by
    rw [matEs, Bool.and_eq_true] at h
    have h1 := ih c e h.1 (by simp; omega)
    have h2 : PE X (.BoolOp .Or (e2 :: es) pos) (tRbE X.K X.N.length (evOr F (.cons c2 cs))) := r_orL rfl h.2 fun c' e' hm hs => ih c' e' hm (by simp at hs ⊢; omega)
    refine (pe_or h1 h2).weak fun σ H Q ⟨G, μ, env, s, b, s', R, ev, q⟩ => ?_
    rw [evOr] at ev
    obtain ⟨d, s1, ev1, ev⟩ := Rs.bind_eq_ok ev
    simp only [orLast] at ev
    split at ev
    · refine ⟨G, μ, env, s, _, _, R, ev1, fun v G1 μ1 H1 x1 S1 p1 => ?_⟩
      obtain rfl := p1.top.bl (s := []) rfl
      rename_i b1
      refine ⟨b1, rfl, ?_⟩
      cases b1 with
      | true =>
        simp only [if_true] at ev ⊢
        cases ev
        exact q G1 μ1 H1 x1 S1
      | false =>
        simp only [Bool.false_eq_true, if_false] at ev ⊢
        exact ⟨G1, μ1, env, s1, b, s', R.ext x1 S1, ev, fun G2 μ2 H2 x2 S2 => q G2 μ2 H2 (x1.trans x2) S2⟩
    · cases ev
theorem r_and {cs : CEs} {es : List Expr} {pos : Pos} (h : PE X (.BoolOp .And es pos) (tRbE X.K X.N.length (evAnd F cs))) : PE X (.BoolOp .And es pos) (tEv F X.K X.N.length (.and cs)) :=
  h.weak fun σ H Q ⟨G, μ, env, s, d, s', R, ev, q⟩ => by
    simp only [evE] at ev
    obtain ⟨b, s1, ev1, ev⟩ := Rs.bind_eq_ok ev
    cases ev
    exact ⟨G, μ, env, s, b, _, R, ev1, fun G1 μ1 H1 x1 S1 => q _ G1 μ1 H1 x1 S1 (.of_val (.bl _) fun z => by simp [fresh] at z)⟩
theorem r_or {cs : CEs} {es : List Expr} {pos : Pos} (h : PE X (.BoolOp .Or es pos) (tRbE X.K X.N.length (evOr F cs))) : PE X (.BoolOp .Or es pos) (tEv F X.K X.N.length (.or cs)) :=
  h.weak fun σ H Q ⟨G, μ, env, s, d, s', R, ev, q⟩ => by
    simp only [evE] at ev
    obtain ⟨b, s1, ev1, ev⟩ := Rs.bind_eq_ok ev
    cases ev
    exact ⟨G, μ, env, s, b, _, R, ev1, fun G1 μ1 H1 x1 S1 => q _ G1 μ1 H1 x1 S1 (.of_val (.bl _) fun z => by simp [fresh] at z)⟩

/-! ### conditions, items -/
theorem r_ife {c : CT} {a b : CE} {x y z : Expr} {pos : Pos} (hc : PT X x (tEvT F X.K X.N.length c)) (ha : PE X y (tEv F X.K X.N.length a)) (hb : PE X z (tEv F X.K X.N.length b)) : PE X (.IfExp x y z pos) (tEv F X.K X.N.length (.ife c a b)) := by
  refine (pe_ifExp hc ha hb).weak fun σ H Q ⟨G, μ, env, s, d, s', R, ev, q⟩ => ?_
  simp only [evE] at ev
  obtain ⟨kk, s1, ev1, ev⟩ := Rs.bind_eq_ok ev
  refine ⟨G, μ, env, s, kk, s1, R, ev1, fun G1 μ1 H1 x1 S1 => ?_⟩
  have fin : ∀ (e : CE), (e = a ∨ e = b) → ∀ (v : V) G2 μ2 H2, Ext G1 μ1 H1 G2 μ2 H2 → Sk X.K G2 μ2 H2 s' → Post F env e X.K G2 μ2 H2 H1 d v → Q v H2 := by
    intro e he v G2 μ2 H2 x2 S2 p2
    by_cases hf : fresh F (.ife c a b) = true
    · refine q v G2 μ2 H2 (x1.trans x2) S2 (.of_new hf ?_)
      simp only [fresh, Bool.and_eq_true] at hf
      exact (p2.new (he.elim (fun z => z ▸ hf.1) fun z => z ▸ hf.2)).back x1.dom
    · by_cases hb' : bor env (.ife c a b) = true
      · refine q v G2 μ2 H2 (x1.trans x2) S2 ?_
        unfold Post
        rw [if_neg hf, if_pos hb']
        exact p2.top
      · have hb2 : bor env e = false := by
          simp only [bor, Bool.or_eq_true, not_or, Bool.not_eq_true] at hb'
          exact he.elim (fun z => z ▸ hb'.1) fun z => z ▸ hb'.2
        obtain ⟨G3, a1, a2, S3, r3, st⟩ := p2.absorb S2 hb2
        refine q v G3 μ2 H2 (x1.trans (x2.grow a1 a2)) S3 ?_
        unfold Post
        rw [if_neg hf, if_neg hb']
        exact r3
  cases kk with
  | true =>
    simp only [if_true] at ev ⊢
    exact ⟨G1, μ1, env, s1, d, s', R.ext x1 S1, ev, fin a (.inl rfl)⟩
  | false =>
    simp only [Bool.false_eq_true, if_false] at ev ⊢
    exact ⟨G1, μ1, env, s1, d, s', R.ext x1 S1, ev, fin b (.inr rfl)⟩
theorem subD_dct {s : Sto} {d k z : D} {tk : Bool} {ks vs : List D} (h : subD s d k = some z) (e : deref s d = .dct tk ks vs) : keyOk tk k = true ∧ getK ks vs k = some z := by
  unfold subD at h
  rw [e] at h
  by_cases hz : keyOk tk k = true
  · refine ⟨hz, ?_⟩
    cases k <;> simpa [hz] using h
  · exfalso
    cases k <;> simp [hz] at h
theorem r_sub (C : Cxt M T k N sc top X) {a b : CE} {x y : Expr} {pos : Pos} (hs : okShape y = true) (ha : PE X x (tEv F X.K X.N.length a)) (hb : PE X y (tEv F X.K X.N.length b)) : PE X (.Subscript x y pos) (tEv F X.K X.N.length (.sub a b)) := by
  have hu := C.hu
  have nosl : NoSl y := by
    cases y <;> first | exact fun _ _ => rfl | simp [okShape] at hs
  refine (PE.either (pe_ix (ix_sub hu) ha hb (plainIx_shape hs)) (pe_dget (by omega) ha hb nosl)).weak fun σ H Q ⟨G, μ, env, s, d, s', R, ev, q⟩ => ?_
  simp only [evE] at ev
  obtain ⟨da, s1, ev1, ev⟩ := Rs.bind_eq_ok ev
  obtain ⟨db, s2, ev2, ev⟩ := Rs.bind_eq_ok ev
  obtain ⟨ev, rfl⟩ := Rs.of_eq_ok ev
  by_cases hd : ∃ tk ks vs, deref s' da = .dct tk ks vs
  · obtain ⟨tk, ks, vs, hd⟩ := hd
    refine .inr ⟨G, μ, env, s, da, s1, R, ev1, fun v G1 μ1 H1 x1 S1 p1 => ⟨G1, μ1, env, s1, db, s', R.ext x1 S1, ev2, fun u G2 μ2 H2 x2 S2 p2 => ?_⟩⟩
    have tx := (p1.ext S1 x2).top
    obtain ⟨hz, hg⟩ := subD_dct ev hd
    obtain ⟨a, o, rfl, g, g1, _⟩ := dct_get tx hd p2.top hz
    obtain ⟨w, rfl, hw⟩ := g1 d hg
    exact ⟨a, w, rfl, g, q w G2 μ2 H2 (x1.trans x2) S2 (.of_val hw fun z => by simp [fresh] at z)⟩
  · refine .inl ⟨G, μ, env, s, da, s1, R, ev1, fun v G1 μ1 H1 x1 S1 p1 => ⟨G1, μ1, env, s1, db, s', R.ext x1 S1, ev2, fun u G2 μ2 H2 x2 S2 p2 => ?_⟩⟩
    exact ⟨G2, μ2, s', da, db, d, S2, (p1.ext S1 x2).top, p2.top, ev, fun tk ks vs z => hd ⟨tk, ks, vs, z⟩, fun w hw => q w G2 μ2 H2 (x1.trans x2) S2 (.of_val hw fun z => by simp [fresh] at z)⟩
end
end Mi
/-! W1: sorted of lists, tuples, dicts with tuple keys; min and max of lists and tuples. -/
namespace Mi
open PySem PySem.Spec PySem.W PyProof.Rows L2

section
variable {prog : Program} {w : World} {A : Around} {E : Value → Shared → Prop} {s : Shared}
theorem collect_tup {l : Addr} {vs : List Value} {Q : List Value → Shared → Prop} (hl : s.heap.IsTuple l vs.toArray) (hsz : vs.length ≤ sizeLine)
    (h : Q vs { s with heap := (s.heap.push (seqObj "list" #[] 0)).update s.heap.objs.size (Obj.mapSeq (· ++ vs.toArray)) }) : wpAny (model prog w) A (collect (.ref l)) Q E s := by
  obtain ⟨o, ho, hc, n, hd⟩ := id hl
  unfold collect
  refine wpAny_bind (wpAny_runValue (codeAny_builtin entry_proto_collect' ?_))
  show wpAny _ _ (do again (.builtin "list.__iadd__" ⟨[← newList [], .ref l], []⟩)) _ _ s
  refine wpAny_bind (wpAny_newList (wpAny_pure ⟨Code.quiet_builtin _ (by decide +kernel), codeAny_builtin entry_list_iadd' ?_⟩))
  show wpAny _ _ (Builtin.List.listExtendWith (.ref s.heap.objs.size) (.ref l) (.ref s.heap.objs.size)) _ _ { s with heap := s.heap.push (seqObj "list" #[] 0) }
  unfold Builtin.List.listExtendWith
  have ho' : (s.heap.push (seqObj "list" #[] 0)).get? l = some o := Heap.get?_push_of_some _ ho
  refine wpAny_bind (wpAny_typeOf (T := "tuple") ⟨o, ho', hc⟩ ?_)
  have ht : (Value.type "tuple" == Value.type "tuple") = true := by rfl
  rw [if_pos (by rw [ht]; simp)]
  refine wpAny_bind (listItems_at ho' hd ?_)
  refine wpAny_bind (listItems_at (xs := #[]) (n := 0) (Heap.get?_push_size _ rfl) rfl ?_)
  rw [if_neg (by simp)]
  refine wpAny_bind (listUpdate_at (xs := #[]) (n := 0) (Heap.get?_push_size _ rfl) rfl ?_ (Nat.zero_le _) (by show (#[] ++ vs.toArray).size ≤ sizeLine + 1; simp only [Array.size_append, List.size_toArray, List.length_nil]; omega))
  refine wpAny_pure ?_
  show wpAny (model prog w) A (do
      let o ← load s.heap.objs.size
      match o.data with
      | .seq xs _ => pure xs.toList
      | _ => unsupported "internal:collect") Q E { s with heap := (s.heap.push (seqObj "list" #[] 0)).update s.heap.objs.size (Obj.mapSeq (· ++ vs.toArray)) }
  refine wpAny_bind (wpAny_load (get?_update_seq (Heap.get?_push_size _ rfl) _) ?_)
  show wpAny _ _ (pure ((#[] : Array Value) ++ vs.toArray).toList) Q E _
  rw [show ((#[] : Array Value) ++ vs.toArray).toList = vs by simp]
  exact wpAny_pure h
theorem push_upd_old {h : Heap} {b : Addr} {o p : Obj} {f : Obj → Obj} (e : h.get? b = some o) : ((h.push p).update h.objs.size f).get? b = some o := by
  rw [Heap.get?_update_ne _ _ _ _ (Nat.ne_of_lt (Heap.lt_size e))]
  exact Heap.get?_push_of_some _ e
mutual
theorem reads_in {h : Heap} : ∀ {v : Value} {d : PyData} {as : List Addr}, Reads h v d as → ∀ a ∈ as, a < h.objs.size
  | _, _, _, .none, a, ha => by cases ha
  | _, _, _, .bool _, a, ha => by cases ha
  | _, _, _, .int _ _, a, ha => by cases ha
  | _, _, _, .str _ _, a, ha => by cases ha
  | _, _, _, .list e _ _ r, a, ha => by
    rcases List.mem_cons.mp ha with z | z
    · rw [z]; exact Heap.lt_size e
    · exact readsAll_in r a z
  | _, _, _, .tuple e _ _ r, a, ha => readsAll_in r a ha
  | _, _, _, .dict e _ _ r1 r2, a, ha => by
    rcases List.mem_append.mp ha with z | z
    · rcases List.mem_cons.mp z with y | y
      · rw [y]; exact Heap.lt_size e
      · exact readsAll_in r1 a y
    · exact readsAll_in r2 a z
theorem readsAll_in {h : Heap} : ∀ {vs : List Value} {ds : List PyData} {as : List Addr}, ReadsAll h vs ds as → ∀ a ∈ as, a < h.objs.size
  | _, _, _, .nil, a, ha => by cases ha
  | _, _, _, .cons r q, a, ha => (List.mem_append.mp ha).elim (reads_in r a) (readsAll_in q a)
end
/-- sorted(x), whatever x is, once its items are collected -/
theorem sorted_from {β : Type} {r : Addr} {vs : List Value} {bs : List β} {enc : β → PyData} {R : Value → β → Prop} {Q : Value → Shared → Prop}
    (hcol : ∀ (E' : Value → Shared → Prop) (P : List Value → Shared → Prop), (∀ h' tk, s.heap.objs.size ≤ h'.objs.size → (∀ b o, s.heap.get? b = some o → h'.get? b = some o) → P vs { s with heap := h', toks := tk }) → wpAny (model prog w) A.in1 (collect (.ref r)) P E' s)
    (e : EachIs R vs bs) (er : EachIs (fun v b => ∃ as, Reads s.heap v (enc b) as) vs bs) (hal : AllAlike (bs.map enc)) (hk : Sortable (bs.map enc)) (hL : bs.length ≤ sizeLine) (hu : ∀ b, b ∈ bs → A.units + 2 + (enc b).depth < cLine)
    (h : ∀ D h' tk out c, s.heap.objs.size ≤ D → (∀ b o, s.heap.get? b = some o → h'.get? b = some o) → h'.get? D = some (seqObj "list" (List.toArray out) c) → EachIs R out (bs.mergeSort (dataLe false enc)) → Q (.ref D) { s with heap := h', toks := tk }) :
    wpAny (model prog w) A (call (.builtin "sorted") [.ref r]) Q E s := by
  refine Calls.call_function_entry kind_sorted plain_sorted entry_sorted (args_sorted1 _) ?_
  unfold Builtin.«sorted»
  refine wpAny_bind (m := checkCount "sorted" 1 1 _) (wpAny_pure ?_)
  refine wpAny_bind (hcol _ _ fun h' tk hsz hk' => ?_)
  have hL' : vs.length ≤ sizeLine := by rw [e.length]; exact hL
  refine wpAny_bind (wpAny_newList ?_ hL')
  have ho : (h'.push (seqObj "list" vs.toArray 0)).get? h'.objs.size = some (seqObj "list" vs.toArray 0) := Heap.get?_push_size _ rfl
  have hle : ∀ b o, s.heap.get? b = some o → b < h'.objs.size := fun b o q => Heap.lt_size (hk' b o q)
  have hkk : ∀ b o, s.heap.get? b = some o → (h'.push (seqObj "list" vs.toArray 0)).get? b = some o := fun b o q => Heap.get?_push_of_some _ (hk' b o q)
  have er2 : EachIs (fun v b => ∃ as, Reads (h'.push (seqObj "list" vs.toArray 0)) v (enc b) as ∧ h'.objs.size ∉ as) vs bs := er.mono fun _ _ ⟨as, q⟩ =>
    ⟨as, PyProof.Rows.Reads.keeps hk' q |> PyProof.Rows.Reads.keeps (fun _ _ z => Heap.get?_push_of_some _ z), fun z => Nat.lt_irrefl _ (reads_in (PyProof.Rows.Reads.keeps hk' q) _ z)⟩
  refine wpAny_bind (wpAny_holding (list_sort_data (A := A.in1) (s := { s with heap := h'.push (seqObj "list" vs.toArray 0), toks := tk }) (a := h'.objs.size) ho e er2 hal hk hL (fun b hb => by have := hu b hb; show A.units + 1 + 1 + _ < _; omega) fun out hlen eo => ?_))
  obtain ⟨c, hc⟩ := sortedHeap_at (vs := vs) (out := List.toArray out) ho
  refine wpAny_pure ⟨_, rfl, h _ _ _ out c hsz (fun b o q => ?_) hc eo⟩
  · rw [sortedHeap_old (Nat.ne_of_lt (hle b o q)) (by rw [Heap.size_push]; exact Nat.lt_succ_of_lt (hle b o q))]
    exact hkk b o q
/-- what is walked by keys, collected -/
theorem collect_keys {T : String} {r d : Addr} {n : Nat} {P : Nat → Value → Prop} {OK : Heap → Prop} {R : List Value → Shared → Prop} (K : KdlSrc prog w T r d n P OK) (hh : A.handled = none) (hok : OK s.heap) (hn : n ≤ sizeLine)
    (h : ∀ (h' : Heap) (tk : Nat) (acc : Array Value), s.heap.objs.size ≤ h'.objs.size → (∀ b o, s.heap.get? b = some o → h'.get? b = some o) → ItemsOf P acc n → R acc.toList { s with heap := h', toks := tk }) :
    wpAny (model prog w) A (collect (.ref r)) R E s := by
  have hlt := K.there _ hok
  unfold collect
  refine wpAny_bind (wpAny_runValue (codeAny_builtin entry_proto_collect' ?_))
  rw [Around.under_plainId PySem.F.plain_proto_collect _]
  show wpAny _ A.in1 (newList [] >>= fun l => again (.builtin "list.__iadd__" ⟨[l, .ref r], []⟩)) _ _ s
  refine wpAny_bind (wpAny_newObj_type ?_)
  refine wpAny_pure ⟨plainId_quiet PySem.F.plain_list_iadd _, codeAny_builtin entry_list_iadd' ?_⟩
  rw [Around.under_plainId PySem.F.plain_list_iadd _]
  have hS₁ : (s.heap.push { cls := .type "list", data := .seq ([] : List Value).toArray }).get? s.heap.objs.size = some { cls := .type "list", data := .seq #[] } := Heap.get?_push_size _ rfl
  show wpAny _ A.in1 (Builtin.List.listExtendWith (.ref s.heap.objs.size) (.ref r) (.ref s.heap.objs.size)) _ _ _
  have key := kdl_extend (A := A) (s := { s with heap := s.heap.push { cls := .type "list", data := .seq ([] : List Value).toArray } })
    (R := fun (q : Result) (s' : Shared) => ∃ (h' : Heap) (tk : Nat) (acc' : Array Value) (c' : Nat), q = .ok (.ret (.ref s.heap.objs.size)) ∧ s' = { s with heap := h', toks := tk } ∧
      (∀ b o, s.heap.get? b = some o → h'.get? b = some o) ∧ h'.get? s.heap.objs.size = some { cls := .type "list", dict := none, data := .seq acc' c', slots := #[] } ∧ ItemsOf P acc' n)
    K hh (K.keep _ _ hok fun b _ o e => Heap.get?_push_of_some _ e) s.heap.objs.size (Nat.ne_of_gt hlt.1) (Nat.ne_of_gt hlt.2) (.ref s.heap.objs.size) 0 hS₁
    (fun h' tk acc' c' hk hS' hacc => ⟨h', tk, acc', c', rfl, rfl, fun b o e => hk b o (Nat.ne_of_lt (Heap.lt_size e)) (Heap.get?_push_of_some _ e), hS', hacc⟩) hn
  refine wpAny_mono key (fun fin s' x => ?_) fun e s' x => ?_
  · cases fin with
    | done f =>
      obtain ⟨h', tk, acc', c', e, rfl, hk, hS', hacc⟩ := x
      cases e
      show wpAny _ A (load s.heap.objs.size >>= _) _ _ _
      refine wpAny_bind (wpAny_load hS' ?_)
      exact wpAny_pure (h h' tk acc' (Nat.le_of_lt (Heap.lt_size hS')) hk hacc)
    | again c₁ =>
      refine ⟨x.1, codeAny_mono x.2 fun q s₂ y => ?_⟩
      obtain ⟨h', tk, acc', c', rfl, rfl, hk, hS', hacc⟩ := y
      show wpAny _ A (load s.heap.objs.size >>= _) _ _ _
      refine wpAny_bind (wpAny_load hS' ?_)
      exact wpAny_pure (h h' tk acc' (Nat.le_of_lt (Heap.lt_size hS')) hk hacc)
  · obtain ⟨_, _, _, _, e', _⟩ := x
    cases e'
end
end Mi
/-! W2: the order of data; sorted, min, max as the language says. -/
namespace Mi
open PySem PySem.Spec PySem.W PyProof.Rows L2

mutual
theorem alk_toP : ∀ (a b : D) (n m : Nat), D.plain n a = true → D.plain m b = true → alike a.toP b.toP = D.alk a b
  | .non, b, n, m, _, hb => by cases b <;> first | rfl | simp [D.plain] at hb
  | .bl x, b, n, m, _, hb => by cases b <;> first | rfl | simp [D.plain] at hb
  | .int x, b, n, m, _, hb => by cases b <;> first | rfl | simp [D.plain] at hb
  | .str x, b, n, m, _, hb => by cases b <;> first | rfl | simp [D.plain] at hb
  | .tup xs, b, n, m, ha, hb => by
    cases b with
    | tup ys =>
      cases n with
      | zero => simp [D.plain] at ha
      | succ n =>
        cases m with
        | zero => simp [D.plain] at hb
        | succ m =>
          simp only [D.toP, alike, D.alk]
          exact alks_toPs xs ys n m (by simpa [D.plain] using ha) (by simpa [D.plain] using hb)
    | dct _ _ _ => simp [D.plain] at hb
    | ref _ => simp [D.plain] at hb
    | scr _ => simp [D.plain] at hb
    | _ => rfl
  | .lst xs, b, n, m, ha, hb => by
    cases b with
    | lst ys =>
      cases n with
      | zero => simp [D.plain] at ha
      | succ n =>
        cases m with
        | zero => simp [D.plain] at hb
        | succ m =>
          simp only [D.toP, alike, D.alk]
          exact alks_toPs xs ys n m (by simpa [D.plain] using ha) (by simpa [D.plain] using hb)
    | dct _ _ _ => simp [D.plain] at hb
    | ref _ => simp [D.plain] at hb
    | scr _ => simp [D.plain] at hb
    | _ => rfl
  | .dct _ _ _, _, n, _, ha, _ => by simp [D.plain] at ha
  | .ref _, _, n, _, ha, _ => by simp [D.plain] at ha
  | .scr _, _, n, _, ha, _ => by simp [D.plain] at ha
theorem alks_toPs : ∀ (as bs : List D) (n m : Nat), (∀ x ∈ as, D.plain n x = true) → (∀ x ∈ bs, D.plain m x = true) → alikeAll (D.toPs as) (D.toPs bs) = D.alks as bs
  | [], bs, _, _, _, _ => by cases bs <;> simp [D.toPs, alikeAll, D.alks]
  | _ :: _, [], _, _, _, _ => by simp [D.toPs, alikeAll, D.alks]
  | a :: as, b :: bs, n, m, ha, hb => by
    simp only [D.toPs, alikeAll, D.alks]
    rw [alk_toP a b n m (ha _ (by simp)) (hb _ (by simp)), alks_toPs as bs n m (fun x hx => ha x (by simp [hx])) (fun x hx => hb x (by simp [hx]))]
end
theorem b2i_lt (x y : Bool) : decide (b2i x < b2i y) = (!x && y) := by cases x <;> cases y <;> decide
mutual
theorem lt_toP : ∀ (a b : D) (n m : Nat), D.plain n a = true → D.plain m b = true → D.alk a b = true → dataLt a.toP b.toP = D.ltv a b
  | .non, b, n, m, _, hb, h => by
    cases b <;> simp [D.alk] at h
    decide +kernel
  | .bl x, b, n, m, _, hb, h => by
    cases b <;> simp [D.alk] at h
    simp only [D.toP, dataLt_bool, D.ltv, b2i_lt]
  | .int x, b, n, m, _, hb, h => by
    cases b <;> simp [D.alk] at h
    simp only [D.toP, dataLt_int, D.ltv]
  | .str x, b, n, m, _, hb, h => by
    cases b <;> simp [D.alk] at h
    simp only [D.toP, dataLt_str, D.ltv]
  | .tup xs, b, n, m, ha, hb, h => by
    cases b <;> simp [D.alk] at h
    cases n with
    | zero => simp [D.plain] at ha
    | succ n =>
      cases m with
      | zero => simp [D.plain] at hb
      | succ m =>
        simp only [D.toP, dataLt_tuple, D.ltv]
        exact lts_toPs xs _ n m (by simpa [D.plain] using ha) (by simpa [D.plain] using hb) h
  | .lst xs, b, n, m, ha, hb, h => by
    cases b <;> simp [D.alk] at h
    cases n with
    | zero => simp [D.plain] at ha
    | succ n =>
      cases m with
      | zero => simp [D.plain] at hb
      | succ m =>
        simp only [D.toP, dataLt_list, D.ltv]
        exact lts_toPs xs _ n m (by simpa [D.plain] using ha) (by simpa [D.plain] using hb) h
  | .dct _ _ _, _, n, _, ha, _, _ => by simp [D.plain] at ha
  | .ref _, _, n, _, ha, _, _ => by simp [D.plain] at ha
  | .scr _, _, n, _, ha, _, _ => by simp [D.plain] at ha
theorem lts_toPs : ∀ (as bs : List D) (n m : Nat), (∀ x ∈ as, D.plain n x = true) → (∀ x ∈ bs, D.plain m x = true) → D.alks as bs = true → PyProof.Rows.lexLt itemOrd (keyToksAll (D.toPs as)) (keyToksAll (D.toPs bs)) = D.ltvs as bs
  | [], [], _, _, _, _, _ => by decide +kernel
  | [], b :: bs, _, _, _, _, _ => by
    simp only [D.toPs, keyToksAll, D.ltvs]
    rw [lex_atom (by decide)]
    decide +kernel
  | a :: as, [], _, _, _, _, _ => by
    simp only [D.toPs, keyToksAll, D.ltvs]
    rw [lex_atom (by decide)]
    decide +kernel
  | a :: as, b :: bs, n, m, ha, hb, h => by
    simp only [D.alks, Bool.and_eq_true] at h
    have pa := ha a (by simp)
    have pb := hb b (by simp)
    have al : alike a.toP b.toP = true := by rw [alk_toP a b n m pa pb]; exact h.1
    have ev := eqv_toP a b n m pa pb
    simp only [D.toPs, D.ltvs]
    cases e : D.eqv a b with
    | true =>
      rw [dataLt_all_yes al (by rw [ev, e]), if_pos rfl]
      exact lts_toPs as bs n m (fun x hx => ha x (by simp [hx])) (fun x hx => hb x (by simp [hx])) h.2
    | false =>
      rw [dataLt_all_no al (by rw [ev, e]), if_neg (by simp)]
      exact lt_toP a b n m pa pb h.1
end
mutual
theorem toP_inj : ∀ (a b : D) (n m : Nat), D.plain n a = true → D.plain m b = true → a.toP = b.toP → a = b
  | .non, b, n, m, _, hb, h => by cases b <;> simp [D.toP, D.plain] at h hb ⊢
  | .bl x, b, n, m, _, hb, h => by cases b <;> simp [D.toP, D.plain] at h hb ⊢; exact h
  | .int x, b, n, m, _, hb, h => by cases b <;> simp [D.toP, D.plain] at h hb ⊢; exact h
  | .str x, b, n, m, _, hb, h => by cases b <;> simp [D.toP, D.plain] at h hb ⊢; exact h
  | .tup xs, b, n, m, ha, hb, h => by
    cases b <;> simp [D.toP] at h
    cases n with
    | zero => simp [D.plain] at ha
    | succ n =>
      cases m with
      | zero => simp [D.plain] at hb
      | succ m => rw [toPs_inj xs _ n m (by simpa [D.plain] using ha) (by simpa [D.plain] using hb) h]
  | .lst xs, b, n, m, ha, hb, h => by
    cases b <;> simp [D.toP] at h
    cases n with
    | zero => simp [D.plain] at ha
    | succ n =>
      cases m with
      | zero => simp [D.plain] at hb
      | succ m => rw [toPs_inj xs _ n m (by simpa [D.plain] using ha) (by simpa [D.plain] using hb) h]
  | .dct _ _ _, _, n, _, ha, _, _ => by simp [D.plain] at ha
  | .ref _, _, n, _, ha, _, _ => by simp [D.plain] at ha
  | .scr _, _, n, _, ha, _, _ => by simp [D.plain] at ha
theorem toPs_inj : ∀ (as bs : List D) (n m : Nat), (∀ x ∈ as, D.plain n x = true) → (∀ x ∈ bs, D.plain m x = true) → D.toPs as = D.toPs bs → as = bs
  | [], [], _, _, _, _, _ => rfl
  | [], _ :: _, _, _, _, _, h => by simp [D.toPs] at h
  | _ :: _, [], _, _, _, _, h => by simp [D.toPs] at h
  | a :: as, b :: bs, n, m, ha, hb, h => by
    simp only [D.toPs, List.cons.injEq] at h
    rw [toP_inj a b n m (ha _ (by simp)) (hb _ (by simp)) h.1, toPs_inj as bs n m (fun x hx => ha x (by simp [hx])) (fun x hx => hb x (by simp [hx])) h.2]
end
end Mi
/-! W3: sorted, min, max. -/
namespace Mi
open PySem PySem.Spec PySem.W PyProof.Rows L2

section
variable {X : Cx} {pins : List (Addr × Obj)} {σ : L2.St} {H : Hp} {s : Shared} {G : Addr → Prop} {μ : List Addr} {st : Sto}
def Both (K : PySem.W.Frag) (G : Addr → Prop) (μ : List Addr) (H : Hp) (v : Value) (d : D) : Prop := ∃ x, Val K G μ H d x ∧ RelV x v
theorem both_of : ∀ {ds : List D} {xs : List V} {vs : List Value}, Vls X.K G μ H ds xs → Vals xs vs → EachIs (Both X.K G μ H) vs ds
  | _, _, _, .nil, .nil => .nil
  | _, _, _, .cons h r, .cons h' r' => .cons ⟨_, h, h'⟩ (both_of r r')
theorem of_both : ∀ {ds : List D} {vs : List Value}, EachIs (Both X.K G μ H) vs ds → ∃ xs, Vls X.K G μ H ds xs ∧ Vals xs vs
  | _, _, .nil => ⟨[], .nil, .nil⟩
  | _, _, .cons ⟨x, h, h'⟩ r => let ⟨xs, a, b⟩ := of_both r; ⟨x :: xs, .cons h a, .cons h' b⟩
theorem both_reads (I : Inv X pins σ H s) {n : Nat} : ∀ {ds : List D} {xs : List V} {vs : List Value}, Vls X.K G μ H ds xs → Vals xs vs → (∀ d ∈ ds, D.plain n d = true) → EachIs (fun v d => ∃ as, Reads s.heap v (D.toP d) as) vs ds
  | _, _, _, .nil, .nil, _ => .nil
  | _, _, _, .cons h r, .cons h' r', p => .cons (Dp.reads I _ _ _ (h.dp (p _ (by simp))) h') (both_reads I r r' fun d hd => p d (by simp [hd]))
theorem alikeOk_iff {ds : List D} (h : alikeOk ds = true) : (∀ d ∈ ds, D.plain 50 d = true) ∧ ∀ d ∈ ds, ∀ d' ∈ ds, D.alk d d' = true := by
  simp only [alikeOk, Bool.and_eq_true, List.all_eq_true] at h
  exact h
theorem alikeOk_all {ds : List D} (h : alikeOk ds = true) : AllAlike (ds.map D.toP) := by
  obtain ⟨h1, h2⟩ := alikeOk_iff h
  intro d hd d' hd'
  obtain ⟨x, hx, rfl⟩ := List.mem_map.mp hd
  obtain ⟨y, hy, rfl⟩ := List.mem_map.mp hd'
  rw [alk_toP x y 50 50 (h1 x hx) (h1 y hy)]
  exact h2 x hx y hy
theorem srtOk_sortable {ds : List D} (h : srtOk ds = true) : Sortable (ds.map D.toP) := by
  simp only [srtOk, Bool.and_eq_true, Bool.or_eq_true, List.all_eq_true] at h
  rcases h.2 with h2 | h2
  · refine .inl fun d hd => ?_
    obtain ⟨x, hx, rfl⟩ := List.mem_map.mp hd
    have := h2 x hx
    unfold isCons at this
    split at this
    · exact ⟨_, _, rfl⟩
    · cases this
  · refine .inr fun d hd => ?_
    obtain ⟨x, hx, rfl⟩ := List.mem_map.mp hd
    have := h2 x hx
    have pl := (alikeOk_iff h.1).1 x hx
    cases x <;> simp [isFlatK] at this <;> simp [D.plain] at pl <;> exact ⟨fun z => (nomatch z), fun xs z => (nomatch z)⟩
theorem sort_leD {ds : List D} (h : alikeOk ds = true) : ds.mergeSort (dataLe false D.toP) = ds.mergeSort leD := by
  obtain ⟨h1, h2⟩ := alikeOk_iff h
  have := List.map_mergeSort (r := dataLe false D.toP) (s := leD) (f := id) (l := ds) fun a ha b hb => by
    show (!dataLt b.toP a.toP) = leD a b
    rw [lt_toP b a 50 50 (h1 b hb) (h1 a ha) (h2 b hb a ha)]; rfl
  simpa using this
theorem sortD_some {xs : List D} {d : D} (h : sortD xs = some d) : srtOk xs = true ∧ d = .lst (xs.mergeSort leD) := by
  unfold sortD at h
  split at h
  · rename_i z
    cases h
    exact ⟨z, rfl⟩
  · cases h
/-- what is left when the items are collected -/
theorem sort_tail {Q : VK} {r : Addr} {xs : List D} {ys : List V} {vs : List Value} (I : Inv X pins σ H s) (hu : X.A.units + 64 < cLine) (S : Sk X.K G μ H st) (hv : Vls X.K G μ H xs ys) (hr : Vals ys vs) (ok : srtOk xs = true) (hL : xs.length ≤ sizeLine)
    (hcol : ∀ (E' : Value → Shared → Prop) (P : List Value → Shared → Prop), (∀ h' tk, s.heap.objs.size ≤ h'.objs.size → (∀ b o, s.heap.get? b = some o → h'.get? b = some o) → P vs { s with heap := h', toks := tk }) → wpAny (model X.prog X.w) X.A.in1 (collect (.ref r)) P E' s)
    (q : ∀ v H', Ext G μ H G μ H' → Sk X.K G μ H' st → New X.K G μ H' H (.lst (xs.mergeSort leD)) v → Q v H') {E : Value → Shared → Prop} :
    wpAny (model X.prog X.w) X.A (call (.builtin "sorted") [.ref r]) (EP X pins σ Q) E s := by
  have ok1 : alikeOk xs = true := by
    simp only [srtOk, Bool.and_eq_true] at ok; exact ok.1
  obtain ⟨h1, h2⟩ := alikeOk_iff ok1
  refine sorted_from hcol (both_of hv hr) (both_reads I hv hr h1) (alikeOk_all ok1) (srtOk_sortable ok) hL (fun b hb => ?_) fun D h' tk out c hD hk hD' eo => ?_
  · have := (lay_toP b 50 (h1 b hb)).2
    omega
  · rw [sort_leD ok1] at eo
    obtain ⟨zs, e1, e2⟩ := of_both eo
    have hl : H D = none := I.hok.fresh hD
    refine ⟨.ref D, upd H D (.lst zs), I.laid (t' := tk) hk hD ⟨?_, out, c, e2, hD'⟩, rfl, q _ _ (.laid hl) (S.laid hl) (new_lst S hl e1)⟩
    rw [← e1.length, List.length_mergeSort]
    exact hL
theorem push_old {h : Heap} {f : Obj → Obj} {p : Obj} (b : Addr) (o : Obj) (e : h.get? b = some o) : ((h.push p).update h.objs.size f).get? b = some o := push_upd_old (p := p) e
theorem push_sz {h : Heap} {f : Obj → Obj} {p : Obj} : h.objs.size ≤ ((h.push p).update h.objs.size f).objs.size := by
  rw [Heap.size_update, Heap.size_push]; exact Nat.le_succ _
end
section
variable {X : Cx}
theorem bf_sorted (hc : X.calm = true) (hu : X.A.units + 64 < cLine) : CallR X (.builtin "sorted") (rB X.K .sorted) := by
  intro pins s σ H xs us Q I r h
  obtain ⟨G, μ, st, ds, d, S, ts, e, q⟩ := h
  unfold bfnD at e
  split at e <;> try contradiction
  rename_i _ a _
  obtain ⟨x, rfl, tx⟩ := tops1 ts
  split at e
  · rename_i ys hy
    obtain ⟨ok, rfl⟩ := sortD_some e
    obtain ⟨p, vs, rfl, h1, h2⟩ := tx.lst S hy
    obtain ⟨its, rv, hl, hz⟩ := I.list (.inl (.of h1))
    rw [Vals.ref1 r]
    have hz' : its.length ≤ sizeLine := by rw [← rv.length]; exact hz
    exact sort_tail I hu S h2 rv ok (by rw [h2.length]; exact hz) (fun E' P hP => collect_list hl.isList (hP _ _ push_sz push_old) hz') q
  · rename_i ys hy
    obtain ⟨ok, rfl⟩ := sortD_some e
    obtain ⟨p, vs, rfl, h1, h2⟩ := tx.tup hy
    obtain ⟨its, rv, hl, hz⟩ := I.tuple (.inl (.of h1))
    rw [Vals.ref1 r]
    have hz' : its.length ≤ sizeLine := by rw [← rv.length]; exact hz
    exact sort_tail I hu S h2 rv ok (by rw [h2.length]; exact hz) (fun E' P hP => collect_tup hl hz' (hP _ _ push_sz push_old)) q
  · rename_i ks vs hy
    obtain ⟨ok, rfl⟩ := sortD_some e
    obtain ⟨p, rfl, ⟨z, kvs, h1, rfl, h3⟩ | ⟨_, kvs, h1, rfl, h3⟩⟩ := tx.dct hy
    · cases z
    rw [Vals.ref1 r]
    obtain ⟨z, hs, ks, pr, o, es, ep, ho, hx, hdt, he, hn⟩ := (show ObjOk X.prog X.w H s.heap p (.dT kvs) from Rd.ok (.of h1) I.hok)
    have l1 : es.size = ks.length := size_of_entries he
    have l2 : kvs.length = ks.length := Paired.length pr
    refine sort_tail (vs := (ks.map fun x => x.2.1).map Value.ref) I hu S (vls_keys (isKeys_of pr)) (vals_refs _) ok (by rw [List.length_map]; omega) (fun E' P hP => collect_keys (kdl_raw hs hx hdt) (I.ok.hd hc) ho (by omega) fun h' tk acc' hsz kp it => ?_) q
    have ea : acc'.toList = (ks.map fun x => x.2.1).map Value.ref := by
      have hl : acc'.toList.length = ks.length := by rw [Array.length_toList, it.1]; exact l1
      apply List.ext_getElem?
      intro j
      rw [List.map_map, List.getElem?_map]
      cases hj : acc'.toList[j]? with
      | none =>
        have h1 := List.getElem?_eq_none_iff.mp hj
        rw [List.getElem?_eq_none (by omega)]
        all_goals rfl
      | some v =>
        obtain ⟨en, hen, hv⟩ := it.2 j v (by rw [← Array.getElem?_toList]; exact hj)
        have qe := entry_at he j
        rw [hen] at qe
        cases hb : ks[j]? with
        | none =>
          rw [hb] at qe
          exact nomatch (show some en = none from qe)
        | some b =>
          rw [hb] at qe
          have e2 : en = entryOfKey (tupleKind (mixKind X.prog X.w)) b := Option.some.inj qe
          rw [hv, e2]
          all_goals rfl
    rw [ea]
    exact hP _ _ hsz kp
  · cases e

theorem at_of {K : PySem.W.Frag} {G : Addr → Prop} {μ : List Addr} {H : Hp} : ∀ {ds : List D} {xs : List V} {vs : List Value}, Vls K G μ H ds xs → Vals xs vs → ∀ {i : Nat} {v : Value}, vs[i]? = some v → ∃ d x, d ∈ ds ∧ Val K G μ H d x ∧ RelV x v
  | _, _, _, .nil, .nil, i, v, h => by simp at h
  | _, _, _, .cons a r, .cons b r', 0, v, h => by
    simp at h; subst h; exact ⟨_, _, by simp, a, b⟩
  | _, _, _, .cons a r, .cons b r', i + 1, v, h => by
    obtain ⟨d, x, h1, h2⟩ := at_of r r' (i := i) (by simpa using h)
    exact ⟨d, x, by simp [h1], h2⟩
theorem minD_toP {x : D} {xs : List D} (h : alikeOk (x :: xs) = true) : PySem.W.minD x.toP (D.toPs xs) = (xs.foldl (fun a y => if D.ltv y a then y else a) x).toP ∧ xs.foldl (fun a y => if D.ltv y a then y else a) x ∈ x :: xs := by
  obtain ⟨h1, h2⟩ := alikeOk_iff h
  suffices g : ∀ (l : List D) (a : D), a ∈ x :: xs → (∀ y ∈ l, y ∈ x :: xs) → PySem.W.minD a.toP (D.toPs l) = (l.foldl (fun a y => if D.ltv y a then y else a) a).toP ∧ l.foldl (fun a y => if D.ltv y a then y else a) a ∈ x :: xs from
    g xs x (by simp) fun y hy => by simp [hy]
  intro l
  induction l with
  | nil => intro a ha _; exact ⟨rfl, ha⟩
  | cons y l ih =>
    intro a ha hl
    have hy := hl y (by simp)
    have e := lt_toP y a 50 50 (h1 y hy) (h1 a ha) (h2 y hy a ha)
    simp only [D.toPs, PySem.W.minD, List.foldl_cons]
    rw [e]
    cases D.ltv y a
    · exact ih a ha fun z hz => hl z (by simp [hz])
    · exact ih y hy fun z hz => hl z (by simp [hz])
theorem maxD_toP {x : D} {xs : List D} (h : alikeOk (x :: xs) = true) : PySem.W.maxD x.toP (D.toPs xs) = (xs.foldl (fun a y => if D.ltv a y then y else a) x).toP ∧ xs.foldl (fun a y => if D.ltv a y then y else a) x ∈ x :: xs := by
  obtain ⟨h1, h2⟩ := alikeOk_iff h
  suffices g : ∀ (l : List D) (a : D), a ∈ x :: xs → (∀ y ∈ l, y ∈ x :: xs) → PySem.W.maxD a.toP (D.toPs l) = (l.foldl (fun a y => if D.ltv a y then y else a) a).toP ∧ l.foldl (fun a y => if D.ltv a y then y else a) a ∈ x :: xs from
    g xs x (by simp) fun y hy => by simp [hy]
  intro l
  induction l with
  | nil => intro a ha _; exact ⟨rfl, ha⟩
  | cons y l ih =>
    intro a ha hl
    have hy := hl y (by simp)
    have e := lt_toP a y 50 50 (h1 a ha) (h1 y hy) (h2 a ha y hy)
    simp only [D.toPs, PySem.W.maxD, List.foldl_cons]
    rw [e]
    cases D.ltv a y
    · exact ih a ha fun z hz => hl z (by simp [hz])
    · exact ih y hy fun z hz => hl z (by simp [hz])
/-- the item that min, max hands back -/
theorem pick_tail {pins : List (Addr × Obj)} {σ : L2.St} {H : Hp} {s : Shared} {G : Addr → Prop} {μ : List Addr} {st : Sto} {Q : VK} {xs : List D} {ys : List V} {vs : List Value} {m : D} (I : Inv X pins σ H s) (S : Sk X.K G μ H st) (hv : Vls X.K G μ H xs ys) (hr : Vals ys vs) (ok : alikeOk xs = true) (hm : m ∈ xs) (hn : isMut m = false)
    (q : ∀ v H', Ext G μ H G μ H' → Sk X.K G μ H' st → New X.K G μ H' H m v → Q v H') {i : Nat} {v : Value} {h' : Heap} {tk : Nat} {bs : List Addr} (hi : vs[i]? = some v) (hrd : Reads h' v m.toP bs) (k : ∀ b o, s.heap.get? b = some o → h'.get? b = some o) :
    EP X pins σ Q v { s with heap := h', toks := tk } := by
  obtain ⟨h1, h2⟩ := alikeOk_iff ok
  obtain ⟨d, x, hd, hx, rx⟩ := at_of hv hr hi
  obtain ⟨as, rd⟩ := Dp.reads I _ _ _ (hx.dp (h1 d hd)) rx
  have e : d.toP = m.toP := alike_unique _ _ _ _ _ (alikeOk_all ok _ (List.mem_map_of_mem hd) _ (List.mem_map_of_mem hm)) (PyProof.Rows.Reads.keeps k rd) hrd
  have e' := toP_inj d m 50 50 (h1 d hd) (h1 m hm) e
  subst e'
  exact ⟨x, H, I.kept k, rx, q _ _ .refl S (.inl ⟨hn, hx⟩)⟩
theorem notNon_mut {n : Nat} {m : D} (h : notNon m = true) (p : D.plain n m = true) : isMut m = false := by
  cases m <;> simp [notNon] at h <;> first | rfl | simp [D.plain] at p
theorem minD_some {l : List D} {m : D} (h : minD l = some m) : ∃ x xs, l = x :: xs ∧ alikeOk (x :: xs) = true ∧ (∀ y ∈ x :: xs, notNon y = true) ∧ m = xs.foldl (fun a y => if D.ltv y a then y else a) x := by
  cases l with
  | nil => cases h
  | cons x xs =>
    simp only [minD] at h
    split at h
    · rename_i z
      cases h
      simp only [Bool.and_eq_true] at z
      exact ⟨x, xs, rfl, z.1, List.all_eq_true.mp z.2, rfl⟩
    · cases h
theorem maxD_some {l : List D} {m : D} (h : maxD l = some m) : ∃ x xs, l = x :: xs ∧ alikeOk (x :: xs) = true ∧ (∀ y ∈ x :: xs, notNon y = true) ∧ m = xs.foldl (fun a y => if D.ltv a y then y else a) x := by
  cases l with
  | nil => cases h
  | cons x xs =>
    simp only [maxD] at h
    split at h
    · rename_i z
      cases h
      simp only [Bool.and_eq_true] at z
      exact ⟨x, xs, rfl, z.1, List.all_eq_true.mp z.2, rfl⟩
    · cases h
theorem depth_toPs {l : List D} (h : alikeOk l = true) : PyData.depthAll (D.toPs l) ≤ 50 := (lays_toPs l 50 (alikeOk_iff h).1).2
theorem toPs_map : ∀ l : List D, l.map D.toP = D.toPs l
  | [] => rfl
  | x :: l => congrArg (D.toP x :: ·) (toPs_map l)
theorem alikeAll_of {x : D} {xs : List D} (ok : alikeOk (x :: xs) = true) (nn : ∀ y ∈ x :: xs, notNon y = true) : AlikeAll (D.toP x :: D.toPs xs) := by
  rw [← D.toPs, ← toPs_map]
  refine ⟨alikeOk_all ok, fun d hd => ?_⟩
  obtain ⟨y, hy, rfl⟩ := List.mem_map.mp hd
  have h1 := nn y hy
  have h2 := (alikeOk_iff ok).1 y hy
  cases y <;> simp [notNon] at h1 <;> simp [D.plain] at h2 <;> exact fun z => nomatch z
theorem bf_min (hc : X.calm = true) (hu : X.A.units + 64 < cLine) : CallR X (.builtin "min") (rB X.K .min) := by
  intro pins s σ H xs us Q I r h
  obtain ⟨G, μ, st, ds, d, S, ts, e, q⟩ := h
  unfold bfnD at e
  split at e <;> try contradiction
  · rename_i _ a _
    obtain ⟨x, rfl, tx⟩ := tops1 ts
    split at e
    · rename_i ys hy
      obtain ⟨y, l, rfl, ok, nn, rfl⟩ := minD_some e
      obtain ⟨p, vs, rfl, h1, h2⟩ := tx.lst S hy
      obtain ⟨its, rv, hl, hz⟩ := I.list (.inl (.of h1))
      rw [Vals.ref1 r]
      obtain ⟨as, ra⟩ := Dp.readsAll I _ _ _ (h2.dp (alikeOk_iff ok).1) rv
      obtain ⟨e1, e2⟩ := minD_toP ok
      have dl := depth_toPs ok
      exact PySem.W.min_list_data (I.ok.hd hc) hl.isList ra (alikeAll_of ok nn) (by rw [← D.toPs]; omega) fun i v h' tk bs hi hr k =>
        pick_tail I S h2 rv ok e2 (notNon_mut (nn _ e2) ((alikeOk_iff ok).1 _ e2)) q (by rw [← List.getElem?_toArray]; exact hi) (by rw [← e1]; exact hr) k
    · rename_i ys hy
      obtain ⟨y, l, rfl, ok, nn, rfl⟩ := minD_some e
      obtain ⟨p, vs, rfl, h1, h2⟩ := tx.tup hy
      obtain ⟨its, rv, hl, hz⟩ := I.tuple (.inl (.of h1))
      rw [Vals.ref1 r]
      obtain ⟨as, ra⟩ := Dp.readsAll I _ _ _ (h2.dp (alikeOk_iff ok).1) rv
      obtain ⟨e1, e2⟩ := minD_toP ok
      have dl := depth_toPs ok
      exact PySem.W.min_tuple_data (I.ok.hd hc) hl ra (alikeAll_of ok nn) (by rw [← D.toPs]; omega) fun i v h' tk bs hi hr k =>
        pick_tail I S h2 rv ok e2 (notNon_mut (nn _ e2) ((alikeOk_iff ok).1 _ e2)) q (by rw [← List.getElem?_toArray]; exact hi) (by rw [← e1]; exact hr) k
    · cases e
  · rename_i _ a b _
    split at e
    · rename_i i j
      cases e
      cases ts with
      | cons h1 r1 => cases r1 with
        | cons h2 r2 =>
          cases r2
          obtain ⟨rfl, _⟩ := h1.int (s := st) rfl
          obtain ⟨rfl, _⟩ := h2.int (s := st) rfl
          exact call_min2 hc pins s σ H _ us Q I r ⟨i, j, rfl, q _ _ .refl S (.inl ⟨rfl, .int _⟩)⟩
    · cases e
theorem bf_max (hc : X.calm = true) (hu : X.A.units + 64 < cLine) : CallR X (.builtin "max") (rB X.K .max) := by
  intro pins s σ H xs us Q I r h
  obtain ⟨G, μ, st, ds, d, S, ts, e, q⟩ := h
  unfold bfnD at e
  split at e <;> try contradiction
  · rename_i _ a _
    obtain ⟨x, rfl, tx⟩ := tops1 ts
    split at e
    · rename_i ys hy
      obtain ⟨y, l, rfl, ok, nn, rfl⟩ := maxD_some e
      obtain ⟨p, vs, rfl, h1, h2⟩ := tx.lst S hy
      obtain ⟨its, rv, hl, hz⟩ := I.list (.inl (.of h1))
      rw [Vals.ref1 r]
      obtain ⟨as, ra⟩ := Dp.readsAll I _ _ _ (h2.dp (alikeOk_iff ok).1) rv
      obtain ⟨e1, e2⟩ := maxD_toP ok
      have dl := depth_toPs ok
      exact PySem.W.max_list_data (I.ok.hd hc) hl.isList ra (alikeAll_of ok nn) (by rw [← D.toPs]; omega) fun i v h' tk bs hi hr k =>
        pick_tail I S h2 rv ok e2 (notNon_mut (nn _ e2) ((alikeOk_iff ok).1 _ e2)) q (by rw [← List.getElem?_toArray]; exact hi) (by rw [← e1]; exact hr) k
    · rename_i ys hy
      obtain ⟨y, l, rfl, ok, nn, rfl⟩ := maxD_some e
      obtain ⟨p, vs, rfl, h1, h2⟩ := tx.tup hy
      obtain ⟨its, rv, hl, hz⟩ := I.tuple (.inl (.of h1))
      rw [Vals.ref1 r]
      obtain ⟨as, ra⟩ := Dp.readsAll I _ _ _ (h2.dp (alikeOk_iff ok).1) rv
      obtain ⟨e1, e2⟩ := maxD_toP ok
      have dl := depth_toPs ok
      exact PySem.W.max_tuple_data (I.ok.hd hc) hl ra (alikeAll_of ok nn) (by rw [← D.toPs]; omega) fun i v h' tk bs hi hr k =>
        pick_tail I S h2 rv ok e2 (notNon_mut (nn _ e2) ((alikeOk_iff ok).1 _ e2)) q (by rw [← List.getElem?_toArray]; exact hi) (by rw [← e1]; exact hr) k
    · cases e
  · rename_i _ a b _
    split at e
    · rename_i i j
      cases e
      cases ts with
      | cons h1 r1 => cases r1 with
        | cons h2 r2 =>
          cases r2
          obtain ⟨rfl, _⟩ := h1.int (s := st) rfl
          obtain ⟨rfl, _⟩ := h2.int (s := st) rfl
          exact call_max2 hc pins s σ H _ us Q I r ⟨i, j, rfl, q _ _ .refl S (.inl ⟨rfl, .int _⟩)⟩
    · cases e
theorem bf_abs : CallR X (.builtin "abs") (rB X.K .abs) := by
  intro pins s σ H xs us Q I r h
  obtain ⟨G, μ, st, ds, d, S, ts, e, q⟩ := h
  unfold bfnD at e
  split at e <;> try contradiction
  rename_i _ a _
  obtain ⟨x, rfl, tx⟩ := tops1 ts
  split at e
  · obtain ⟨rfl, _⟩ := tx.int (s := st) rfl
    cases e
    exact call_abs pins s σ H _ us Q I r ⟨_, rfl, q _ _ .refl S (.inl ⟨rfl, .int _⟩)⟩
  · cases e
theorem minD_flat {l : List D} {m : D} (h : minD l = some m) : isMut m = false := by
  obtain ⟨x, xs, rfl, ok, nn, rfl⟩ := minD_some h
  have e2 := (minD_toP ok).2
  exact notNon_mut (nn _ e2) ((alikeOk_iff ok).1 _ e2)
theorem maxD_flat {l : List D} {m : D} (h : maxD l = some m) : isMut m = false := by
  obtain ⟨x, xs, rfl, ok, nn, rfl⟩ := maxD_some h
  have e2 := (maxD_toP ok).2
  exact notNon_mut (nn _ e2) ((alikeOk_iff ok).1 _ e2)
end
end Mi
/-! M9: slices, calls, tests, what a for walks, comprehensions. -/
namespace Mi
open PySem PySem.Spec PyProof.Rows L2

theorem Vls.cut {K : PySem.W.Frag} {G : Addr → Prop} {μ : List Addr} {H : Hp} {ds : List D} {vs : List V} (r : Vls K G μ H ds vs) (lo hi : Option Int) : Vls K G μ H (cutD ds lo hi) (cutV vs lo hi) := by
  unfold cutD cutV
  rw [r.length]
  exact (r.drop _).take _
def rSl (K : PySem.W.Frag) : V → Option Int → Option Int → Hp → VK → Prop := fun x lo hi H Q => ∃ G μ s dx d, Sk K G μ H s ∧ Top K G μ H dx x ∧
  (match deref s dx with | .lst xs => d = .lst (cutD xs lo hi) | .tup xs => d = .tup (cutD xs lo hi) | _ => False) ∧ ∀ v H', Ext G μ H G μ H' → Sk K G μ H' s → New K G μ H' H d v → Q v H'
theorem cutD_whole {ds : List D} {lo hi : Option Int} (h : HT.sIx ds.length 0 lo = 0 ∧ HT.sIx ds.length ds.length hi = ds.length) : cutD ds lo hi = ds := by
  unfold cutD
  rw [h.1, h.2]
  simp
section
variable {X : Cx}
theorem sl_any : SlR X (rSl X.K) := by
  intro pins s σ H x v vl vu lo hi sl Q I rx hs pl pu h
  obtain ⟨G, μ, st, dx, d, S, tx, e, q⟩ := h
  split at e
  · rename_i xs hx
    subst e
    obtain ⟨a, us, rfl, ha, ra⟩ := tx.lst S hx
    exact sl_list pins s σ H _ v vl vu lo hi sl Q I rx hs pl pu ⟨a, us, rfl, .of ha, fun p hp => q _ _ (.laid hp) (S.laid hp) (new_lst S hp (ra.cut lo hi))⟩
  · rename_i xs hx
    subst e
    obtain ⟨a, us, rfl, ha, ra⟩ := tx.tup hx
    refine sl_tupA pins s σ H _ v vl vu lo hi sl Q I rx hs pl pu ⟨a, us, rfl, .of ha, fun hw => ?_, fun _ p hp => q _ _ (.laid hp) (S.laid hp) (.inl ⟨rfl, val_tup S hp (ra.cut lo hi)⟩)⟩
    rw [← ra.length] at hw
    exact q _ _ .refl S (.inl ⟨rfl, by rw [cutD_whole hw]; exact .tup ha ra⟩)
  · exact e.elim
end
def tEvO (F : Cl) (K : PySem.W.Frag) (n : Nat) (cs : CEs) : TO := fun σ H Q => ∃ G μ env s o s', Rel K n G μ σ H env s ∧ evO F cs env s = .ok o s' ∧
  ∀ G' μ' H', Ext G μ H G' μ' H' → Sk K G' μ' H' s' → Q o H'
section
variable {M : Nms} {T : Tab} {k : Nat} {N : List Str} {sc : Scope} {top : Str → Bool} {X : Cx} {F : Cl}
theorem _root_.L2.PO.weak {e : Option Expr} {t t' : TO} (h : PO X e t) (w : ∀ σ H Q, t' σ H Q → t σ H Q) : PO X e t' := ⟨fun pins s σ H Q I q => h.run pins s σ H Q I (w _ _ _ q)⟩
theorem r_po : ∀ {cs : CEs} {o : Option Expr}, matO M N sc cs o = true → (∀ c e, matE M N sc c e = true → sizeOf c < sizeOf cs → PE X e (tEv F X.K X.N.length c)) → PO X o (tEvO F X.K X.N.length cs)
  | .nil, none, _, _ => po_none.weak fun σ H Q ⟨G, μ, env, s, o, s', R, ev, q⟩ => by
    simp only [evO] at ev
    cases ev
    exact q G μ H .refl R.sk
  | .nil, some _, h, _ => by simp [matO] at h
  | .cons c .nil, none, h, _ => by simp [matO] at h
  | .cons c .nil, some e, h, ih => (po_some (ih c e (by simpa [matO] using h) (by simp; omega))).weak fun σ H Q ⟨G, μ, env, s, o, s', R, ev, q⟩ => by
    simp only [evO] at ev
    obtain ⟨d, s1, ev1, ev⟩ := Rs.bind_eq_ok ev
    split at ev
    · cases ev
      refine ⟨G, μ, env, s, _, _, R, ev1, fun v G1 μ1 H1 x1 S1 p1 => ?_⟩
      obtain ⟨rfl, _⟩ := p1.top.int (s := []) rfl
      exact ⟨_, rfl, q G1 μ1 H1 x1 S1⟩
    · cases ev
  | .cons _ (.cons _ _), o, h, _ => by cases o <;> simp [matO] at h
theorem r_slc {a : CE} {lo hi : CEs} {x : Expr} {l h : Option Expr} {p pos : Pos} (ha : PE X x (tEv F X.K X.N.length a)) (hl : PO X l (tEvO F X.K X.N.length lo)) (hh : PO X h (tEvO F X.K X.N.length hi)) :
    PE X (.Subscript x (.Slice l h none p) pos) (tEv F X.K X.N.length (.slc a lo hi)) := by
  refine (pe_slice sl_any ha hl hh).weak fun σ H Q ⟨G, μ, env, s, d, s', R, ev, q⟩ => ?_
  simp only [evE] at ev
  obtain ⟨da, s1, ev1, ev⟩ := Rs.bind_eq_ok ev
  obtain ⟨ol, s2, ev2, ev⟩ := Rs.bind_eq_ok ev
  obtain ⟨oh, s3, ev3, ev⟩ := Rs.bind_eq_ok ev
  have fin : ∀ dd, (match deref s3 da with | .lst xs => dd = .lst (cutD xs ol oh) | .tup xs => dd = .tup (cutD xs ol oh) | _ => False) → d = dd → s3 = s' → tSl (rSl X.K) (tEv F X.K X.N.length a) (tEvO F X.K X.N.length lo) (tEvO F X.K X.N.length hi) σ H Q := by
    intro dd hm e1 e2
    subst e1 e2
    refine ⟨G, μ, env, s, da, s1, R, ev1, fun v G1 μ1 H1 x1 S1 p1 => ⟨G1, μ1, env, s1, ol, s2, R.ext x1 S1, ev2, fun G2 μ2 H2 x2 S2 => ⟨G2, μ2, env, s2, oh, s3, R.ext (x1.trans x2) S2, ev3, fun G3 μ3 H3 x3 S3 => ?_⟩⟩⟩
    exact ⟨G3, μ3, s3, da, d, S3, ((p1.ext S1 x2).ext S2 x3).top, hm, fun w H4 x4 S4 p4 => q w G3 μ3 H4 (((x1.trans x2).trans x3).trans x4) S4 (.of_new rfl (p4.back fun b h => x1.dom b (x2.dom b (x3.dom b h))))⟩
  split at ev
  · rename_i xs hx
    cases ev
    exact fin _ (by rw [hx]) rfl rfl
  · rename_i xs hx
    cases ev
    exact fin _ (by rw [hx]) rfl rfl
  · cases ev

/-! ### calls -/
theorem backTo_any {pos : Pos} {l : List (Bool × Sem Value)} (h : l.any (·.1) = false) : (backTo pos l).any (·.1) = false := by
  unfold backTo
  rw [List.any_map]
  exact h
theorem r_call (C : Cxt M T k N sc top X) {f : Nat} {cs : CEs} {x : Str} {es : List Expr} {p pos : Pos} (h : matE M N sc (.call f cs) (.Call (.Name x p) es [] pos) = true) (ha : PA X es (tEvs (clOf T k) X.K X.N.length cs)) :
    PE X (.Call (.Name x p) es [] pos) (tEv (clOf T k) X.K X.N.length (.call f cs)) := by
  simp only [matE, Bool.and_eq_true, decide_eq_true_eq] at h
  obtain ⟨⟨⟨rfl, h2⟩, h3⟩, h4⟩ := h
  have hok := (okN_of h3).1
  have key : ∀ (E : XK), (∀ fn, T f = some fn → PE X (.Call (.Name (M.fn f) p) es [] pos) (tCall (spF X.K T k f) [] E (tEvs (clOf T k) X.K X.N.length cs))) →
      PE X (.Call (.Name (M.fn f) p) es [] pos) (tEv (clOf T k) X.K X.N.length (.call f cs)) := by
    intro E hp
    cases hT : T f with
    | none =>
      refine ⟨fun pins s σ H Q I ⟨G, μ, env, st, d, s', R, ev, q⟩ => ?_⟩
      exfalso
      simp only [evE] at ev
      split at ev
      · cases ev
      · obtain ⟨xs, s1, ev1, ev⟩ := Rs.bind_eq_ok ev
        cases k with
        | zero => simp [clOf, callF] at ev
        | succ k => simp [clOf, callF, hT] at ev
    | some fn =>
      refine (hp fn hT).weak fun σ H Q ⟨G, μ, env, s, d, s', R, ev, q⟩ => ?_
      simp only [evE] at ev
      split at ev
      · cases ev
      · rename_i hb
        obtain ⟨xs, s1, ev1, ev⟩ := Rs.bind_eq_ok ev
        refine ⟨G, μ, env, s, xs, s1, R, ev1, fun vs G1 μ1 H1 x1 S1 p1 => ?_⟩
        obtain ⟨G2, a1, a2, S2, r2, st⟩ := p1.absorb S1 (by simpa using hb)
        rw [List.append_nil]
        refine ⟨G2, μ1, s1, xs, d, s', S2, r2, ev, fun v G3 μ3 H3 x3 S3 p3 => ?_⟩
        have x13 := (x1.grow a1 a2).trans x3
        refine q v G3 μ3 H3 x13 S3 ?_
        unfold Post
        have e1 : fresh (clOf T k) (.call f cs) = freshT T f := rfl
        have e2 : bor env (.call f cs) = false := rfl
        rw [e1, e2]
        split at p3
        · rename_i hf
          rw [if_pos hf]
          exact p3.back x1.dom
        · rename_i hf
          rw [if_neg hf, if_neg Bool.false_ne_true]
          exact p3
  refine key E0 fun fn hT => ?_
  obtain ⟨a, fd, ps, hm, hk, hb, hF⟩ := (C.fns f fn hT).ex
  cases cs with
  | nil =>
    cases es with
    | nil => exact (pe_call0 hF C.room (gl_of C h2) hm hk hb .nil pass0 hok).weak fun σ H Q ⟨G, μ, env, s, ds, s', R, ev, q⟩ => by
              simp only [evEs] at ev
              cases ev
              exact q [] G μ H .refl R.sk .nil
    | cons e es => simp [matEs] at h4
  | cons c cs =>
    cases es with
    | nil => simp [matEs] at h4
    | cons e es =>
      have h5 := h4
      simp only [matEs, Bool.and_eq_true] at h4
      exact pe_call hF C.room (gl_of C h2) hm hk hb .nil pass0 ha hok (starEach_shape (matE_shape h4.1) es X.env) (backTo_any (starEach_all h4.2))

/-- a built-in's call -/
theorem r_bfn (C : Cxt M T k N sc top X) {f : BF} {cs : CEs} {x : Str} {es : List Expr} {p pos : Pos} (h : matE M N sc (.bfn f cs) (.Call (.Name x p) es [] pos) = true) (ha : PA X es (tEvs F X.K X.N.length cs)) :
    PE X (.Call (.Name x p) es [] pos) (tEv F X.K X.N.length (.bfn f cs)) := by
  simp only [matE, Bool.and_eq_true, decide_eq_true_eq, Bool.not_eq_true'] at h
  obtain ⟨⟨⟨rfl, h2⟩, h3⟩, h4⟩ := h
  cases cs with
  | nil => simp [isNilCEs] at h3
  | cons c cs =>
    cases es with
    | nil => simp [matEs] at h4
    | cons e es =>
      simp only [matEs, Bool.and_eq_true] at h4
      have hst := starEach_shape (matE_shape h4.1) es X.env
      have hpl : (backTo pos (starEach es X.env)).any (·.1) = false := backTo_any (starEach_all h4.2)
      have fin : ∀ (r : PE X (.Call (.Name (bfN f) p) (e :: es) [] pos) (tCB (rB X.K f) (tEvs F X.K X.N.length (.cons c cs)))), PE X (.Call (.Name (bfN f) p) (e :: es) [] pos) (tEv F X.K X.N.length (.bfn f (.cons c cs))) := by
        intro r
        refine r.weak fun σ H Q ⟨G, μ, env, s, d, s', R, ev, q⟩ => ?_
        simp only [evE] at ev
        obtain ⟨xs, s1, ev1, ev⟩ := Rs.bind_eq_ok ev
        obtain ⟨ev, rfl⟩ := Rs.of_eq_ok ev
        refine ⟨G, μ, env, s, xs, _, R, ev1, fun vs G1 μ1 H1 x1 S1 p1 => ?_⟩
        refine ⟨G1, μ1, _, xs, d, S1, p1.tops, ev, fun v H2 x2 S2 p2 => ?_⟩
        by_cases hf : fresh F (.bfn f (.cons c cs)) = true
        · exact q v G1 μ1 H2 (x1.trans x2) S2 (.of_new hf (p2.back x1.dom))
        · -- an answer that is not a new list is none
          have hm : isMut d = false := by
            unfold bfnD at ev
            split at ev <;> simp [fresh] at hf
            all_goals first
              | (split at ev <;> first | (cases ev; rfl) | cases ev | exact minD_flat ev | exact maxD_flat ev | (split at ev <;> first | (cases ev; rfl) | cases ev) | (simp only [Option.map_eq_some_iff] at ev; obtain ⟨_, _, rfl⟩ := ev; rfl))
              | (simp only [Option.map_eq_some_iff] at ev; obtain ⟨_, _, rfl⟩ := ev; rfl)
              | cases ev
          rcases p2 with ⟨_, p2⟩ | ⟨a, _, _, _, _, p2⟩
          · exact q v G1 μ1 H2 (x1.trans x2) S2 (.of_val p2 fun z => absurd z hf)
          · have := p2.mut
            rw [hm] at this
            cases this
      have hb : ∀ b ∈ bnames, X.mg b = none := C.blt
      have never : ∀ g, (∀ s xs, bfnD g s xs = none) → f = g → PE X (.Call (.Name (bfN f) p) (e :: es) [] pos) (tEv F X.K X.N.length (.bfn f (.cons c cs))) := by
        intro g hg e1
        subst e1
        refine ⟨fun pins s σ H Q I ⟨G, μ, env, st, d, s', R, ev, q⟩ => ?_⟩
        exfalso
        simp only [evE] at ev
        obtain ⟨xs, s1, ev1, ev⟩ := Rs.bind_eq_ok ev
        rw [hg] at ev
        cases ev
      cases f with
      | len => exact fin (pe_callB bf_len (gl_of C h2) (hb _ (by decide)) PySem.boot_len ha (by decide) (by decide) hst hpl)
      | tuple => exact fin (pe_callTy bf_tuple (gl_of C h2) (hb _ (by decide)) PyProof.Rows.boot_tuple ha (by decide) (by decide) hst hpl)
      | list => exact fin (pe_callTy (bf_list C.calm) (gl_of C h2) (hb _ (by decide)) PyProof.Rows.boot_list ha (by decide) (by decide) hst hpl)
      | int => exact fin (pe_callTy bf_int (gl_of C h2) (hb _ (by decide)) PyProof.Rows.boot_int ha (by decide) (by decide) hst hpl)
      | all => exact fin (pe_callB (bf_all C.calm) (gl_of C h2) (hb _ (by decide)) (by decide +kernel) ha (by decide) (by decide) hst hpl)
      | any => exact fin (pe_callB (bf_any C.calm) (gl_of C h2) (hb _ (by decide)) (by decide +kernel) ha (by decide) (by decide) hst hpl)
      | sum => exact fin (pe_callB (bf_sum C.calm) (gl_of C h2) (hb _ (by decide)) (by decide +kernel) ha (by decide) (by decide) hst hpl)
      | sorted => exact fin (pe_callB (bf_sorted C.calm C.hu) (gl_of C h2) (hb _ (by decide)) (by decide +kernel) ha (by decide) (by decide) hst hpl)
      | min => exact fin (pe_callB (bf_min C.calm C.hu) (gl_of C h2) (hb _ (by decide)) (by decide +kernel) ha (by decide) (by decide) hst hpl)
      | max => exact fin (pe_callB (bf_max C.calm C.hu) (gl_of C h2) (hb _ (by decide)) (by decide +kernel) ha (by decide) (by decide) hst hpl)
      | str => exact never .str (fun s xs => rfl) rfl
      | abs => exact fin (pe_callB bf_abs (gl_of C h2) (hb _ (by decide)) (by decide +kernel) ha (by decide) (by decide) hst hpl)

/-! ### isinstance -/
theorem pe_tyN (C : Cxt M T k N sc top X) {t : Ty} {pos : Pos} (h : gl sc (tyS t) = true) : PE X (.Name (tyS t) pos) (tC (.ty (tyN t))) := by
  have hb : ∀ b ∈ bnames, X.mg b = none := C.blt
  have hg := gl_of C h
  cases t with
  | int => exact pe_bltn hg (hb _ (by decide)) PyProof.Rows.boot_int rfl (by decide) (by decide)
  | bool => exact pe_bltn hg (hb _ (by decide)) PyProof.Rows.boot_bool rfl (by decide) (by decide)
  | str => exact pe_bltn hg (hb _ (by decide)) PyProof.Rows.boot_str rfl (by decide) (by decide)
  | tuple => exact pe_bltn hg (hb _ (by decide)) PyProof.Rows.boot_tuple rfl (by decide) (by decide)
  | list => exact pe_bltn hg (hb _ (by decide)) PyProof.Rows.boot_list rfl (by decide) (by decide)
  | dict => exact pe_bltn hg (hb _ (by decide)) PyProof.Rows.boot_dict rfl (by decide) (by decide)
def tTys (ts : List Ty) : TA := fun _ H Q => Q (ts.map fun t => .ty (tyN t)) H
theorem pa_tys (C : Cxt M T k N sc top X) : ∀ {ts : List Ty} {es : List Expr}, matTy sc ts es = true → PA X es (tTys ts)
  | [], [], _ => pa_nil
  | [], _ :: _, h => by simp [matTy] at h
  | _ :: _, [], h => by simp [matTy] at h
  | t :: ts, e :: es, h => by
    cases e <;> simp only [matTy, Bool.and_eq_true, decide_eq_true_eq] at h <;> try contradiction
    obtain ⟨⟨rfl, h2⟩, h3⟩ := h
    exact (pa_cons (pe_tyN C h2) (pa_tys C h3) rfl).weak fun σ H Q q => q
theorem clsVs : ∀ ts : List Ty, Paired ClsV (ts.map fun t => V.ty (tyN t)) (ts.map fun t => Value.type (tyN t))
  | [] => .nil
  | t :: ts => .cons (.ty _) (clsVs ts)
theorem r_isi (C : Cxt M T k N sc top X) {a : CE} {ts : List Ty} {one : Bool} {x : Str} {y z : Expr} {p pos : Pos} (h : matE M N sc (.isi a ts one) (.Call (.Name x p) [y, z] [] pos) = true) (ha : PE X y (tEv F X.K X.N.length a)) :
    PE X (.Call (.Name x p) [y, z] [] pos) (tEv F X.K X.N.length (.isi a ts one)) := by
  simp only [matE, Bool.and_eq_true, decide_eq_true_eq] at h
  obtain ⟨⟨⟨⟨rfl, h2⟩, h3⟩, h3a, h3b⟩, h4⟩ := h
  have hg := gl_of C h2
  have hm : X.mg "isinstance" = none := C.blt _ (by decide)
  have hst := starEach_shape (matE_shape h3) [z] X.env
  cases one with
  | true =>
    simp only [if_true] at h4
    cases ts with
    | nil => simp [matTy] at h4
    | cons t ts =>
      cases z <;> simp only [matTy, Bool.and_eq_true, decide_eq_true_eq] at h4 <;> try contradiction
      rename_i zx zp
      obtain ⟨⟨rfl, h5⟩, h6⟩ := h4
      have ets : ts = [] := by
        cases ts with
        | nil => rfl
        | cons _ _ => simp [matTy] at h6
      subst ets
      refine (pe_callB call_isi hg hm PyProof.Rows.boot_isinstance (pa_cons ha (pa_cons (pe_tyN C h5) pa_nil rfl) hst) (by decide) (by decide) hst rfl).weak fun σ H Q ⟨G, μ, env, s, d, s', R, ev, q⟩ => ?_
      simp only [evE] at ev
      obtain ⟨da, s1, ev1, ev⟩ := Rs.bind_eq_ok ev
      obtain ⟨b, s2, ev2', ev4⟩ := Rs.bind_eq_ok ev
      obtain ⟨ev2, rfl⟩ := Rs.of_eq_ok ev2'
      refine ⟨G, μ, env, s, da, _, R, ev1, fun v G1 μ1 H1 x1 S1 p1 => ?_⟩
      obtain ⟨c, hc⟩ := isiAny_cls ev2
      have hk : isiD s2 da t = some b := by
        unfold isiAny at ev2
        split at ev2
        · rename_i q; cases ev2; exact q
        · rename_i q; cases ev2; exact q
        · cases ev2
      obtain ⟨c', hc', hk'⟩ := isi_clsN s2 da t b hk
      refine ⟨v, .ty (tyN t), .type c', .type (tyN t), b, rfl, .ty _, tyX_of S1 p1.top hc', kit_ty hk', ?_⟩
      cases ev4
      exact q _ G1 μ1 H1 x1 S1 (.of_val (.bl _) fun z => by simp [fresh] at z)
  | false =>
    simp only [Bool.false_eq_true, if_false] at h4
    cases z <;> simp only at h4 <;> try contradiction
    rename_i zs zk zp
    refine (pe_callB call_isiT hg hm PyProof.Rows.boot_isinstance (pa_cons ha (pa_cons (pe_tup (pa_tys C h4)) pa_nil rfl) hst) (by decide) (by decide) hst rfl).weak fun σ H Q ⟨G, μ, env, s, d, s', R, ev, q⟩ => ?_
    simp only [evE] at ev
    obtain ⟨da, s1, ev1, ev⟩ := Rs.bind_eq_ok ev
    obtain ⟨b, s2, ev2', ev4⟩ := Rs.bind_eq_ok ev
    obtain ⟨ev2, rfl⟩ := Rs.of_eq_ok ev2'
    refine ⟨G, μ, env, s, da, _, R, ev1, fun v G1 μ1 H1 x1 S1 p1 => ⟨?_, fun tp htp => ?_⟩⟩
    · rw [List.length_map]
      exact Nat.le_trans h3b (by decide)
    · cases ts with
      | nil => simp at h3a
      | cons t ts =>
        obtain ⟨c, hc⟩ := isiAny_cls ev2
        have x2 : Ext G1 μ1 H1 G1 μ1 (upd H1 tp (.tup ((t :: ts).map fun t => .ty (tyN t)))) := .laid htp
        refine ⟨v, tp, _, .type c, _, b, rfl, upd_same, clsVs (t :: ts), tyX_of (S1.laid htp) (p1.top.mono S1 x2) hc, isiAny_kit hc ev2, ?_⟩
        cases ev4
        exact q _ G1 μ1 _ (x1.trans x2) (S1.laid htp) (.of_val (.bl _) fun z => by simp [fresh] at z)

/-! ### the store, dicts -/
theorem heap_read {K : PySem.W.Frag} {n : Nat} {F : Cl} {a : CE} {σ : L2.St} {H : Hp} {Q : VK} (h : tEv F K n (.heap a) σ H Q) : tEv F K n a σ H Q := by
    obtain ⟨G, μ, env, s, d, s', R, ev, q⟩ := h
    simp only [evE] at ev
    split at ev
    · rename_i hf
      obtain ⟨da, s1, ev1, ev⟩ := Rs.bind_eq_ok ev
      split at ev
      · rename_i xs
        cases ev
        refine ⟨G, μ, env, s, _, s1, R, ev1, fun v G1 μ1 H1 x1 S1 p1 => ?_⟩
        rcases p1.new hf with ⟨z, _⟩ | ⟨a, rfl, h1, h2, h3, h4⟩
        · cases z
        have st : Stay G1 μ1 H1 G1 (μ1 ++ [a]) H1 := ⟨fun _ _ _ e => e, fun _ _ e => e, fun _ e => e, fun _ g => g, [a], rfl⟩
        have S2 : Sk K G1 (μ1 ++ [a]) H1 (s1 ++ [.lst xs]) := by
          refine ⟨by simp [S1.len], ?_, fun b hb => ?_, fun n o ho => ?_, S1.dom⟩
          · rw [List.nodup_append]
            refine ⟨S1.nd, by simp, fun b hb c hc => ?_⟩
            simp at hc
            subst hc
            exact fun e => h1 (e ▸ hb)
          · rcases List.mem_append.mp hb with z | z
            · exact S1.g b z
            · simp at z; subst z; exact h2
          · by_cases hn : n < s1.length
            · rw [List.getElem?_append_left hn] at ho
              obtain ⟨b, q1, q2⟩ := S1.ob n o ho
              exact ⟨b, by rw [List.getElem?_append_left (List.getElem?_eq_some_iff.mp q1).1]; exact q1, q2.mono st fun _ e => e⟩
            · rw [List.getElem?_append_right (by omega)] at ho
              have hn0 : n - s1.length = 0 := by
                cases hh : n - s1.length with
                | zero => rfl
                | succ m => rw [hh] at ho; simp at ho
              rw [hn0] at ho
              cases ho
              have hnn : n = s1.length := by omega
              subst hnn
              refine ⟨a, by rw [← S1.len]; simp, ?_⟩
              cases h4 with
              | lst e r => exact .lst e (r.mono st)
        obtain ⟨ν, m1, m2⟩ := x1.m
        refine q _ G1 (μ1 ++ [a]) H1 ⟨x1.keep, x1.dom, x1.g, x1.gn, ν ++ [a], by rw [m1, List.append_assoc], fun b hb => ?_⟩ S2 (.of_val (.ref (by rw [← S1.len]; simp)) fun z => by simp [fresh] at z)
        rcases List.mem_append.mp hb with z | z
        · exact m2 b z
        · simp at z; subst z; exact h3
      · cases ev
    · cases ev
theorem r_heap {a : CE} {e : Expr} (ha : PE X e (tEv F X.K X.N.length a)) : PE X e (tEv F X.K X.N.length (.heap a)) := ha.weak fun _ _ _ h => heap_read h
theorem r_dict0 {tk : Bool} {pos : Pos} : PE X (.Dict [] [] pos) (tEv F X.K X.N.length (.dict0 tk)) := by
  cases tk with
  | false =>
    refine pe_dnewK.weak fun σ H Q ⟨G, μ, env, s, d, s', R, ev, q⟩ p hp => ?_
    simp only [evE] at ev
    cases ev
    exact q _ G μ _ (.laid hp) (R.sk.laid hp) (.of_new rfl (.inr ⟨p, rfl, (R.sk.free hp).1, (R.sk.free hp).2, hp, .dK (kvs := []) (ds := []) upd_same .nil⟩))
  | true =>
    refine pe_dnewT.weak fun σ H Q ⟨G, μ, env, s, d, s', R, ev, q⟩ p hp => ?_
    simp only [evE] at ev
    cases ev
    exact q _ G μ _ (.laid hp) (R.sk.laid hp) (.of_new rfl (.inr ⟨p, rfl, (R.sk.free hp).1, (R.sk.free hp).2, hp, .dT (kvs := []) (ds := []) upd_same .nil⟩))

/-! ### a star in a tuple -/
theorem r_tupS {a : CE} {cs : CEs} {x : Expr} {es : List Expr} {p pos : Pos} {z : Nat} (ha : PE X x (tEv F X.K X.N.length a)) (hs : PA X es (tEvs F X.K X.N.length cs)) : PE X (.Tuple (.Starred x p :: es) z pos) (tEv F X.K X.N.length (.tupS a cs)) := by
  refine (pe_tup (StX.pa_star ha hs rfl)).weak fun σ H Q ⟨G, μ, env, s, d, s', R, ev, q⟩ => ?_
  simp only [evE] at ev
  split at ev
  · cases ev
  · rename_i hb
    have hb : bors env cs = false := by simpa using hb
    obtain ⟨da, s1, ev1, ev⟩ := Rs.bind_eq_ok ev
    obtain ⟨ys, s2, ev2, ev⟩ := Rs.bind_eq_ok ev
    have fin : ∀ xs, (da = .tup xs ∨ da = .lst xs) → lenOk (xs.length + ys.length) = true → d = .tup (xs ++ ys) → s2 = s' → tTup (StX.tStar X.K (tEv F X.K X.N.length a) (tEvs F X.K X.N.length cs)) σ H Q := by
      intro xs hd hz e1 e2
      subst e1 e2
      refine ⟨G, μ, env, s, da, s1, R, ev1, fun v G1 μ1 H1 x1 S1 p1 => ?_⟩
      obtain ⟨pp, us, rfl, hr, hq⟩ : ∃ pp us, v = .ref pp ∧ Vls X.K G1 μ1 H1 xs us ∧ (SqT X.K H1 pp us ∨ SqL X.K H1 pp us) := by
        rcases hd with rfl | rfl
        · obtain ⟨pp, us, e, h1, h2⟩ := p1.top.tup (s := s1) rfl
          exact ⟨pp, us, e, h2, .inl (.of h1)⟩
        · obtain ⟨pp, us, e, h1, h2⟩ := p1.top.lst S1 (s := s1) rfl
          exact ⟨pp, us, e, h2, .inr (.of h1)⟩
      refine ⟨pp, us, rfl, hq, G1, μ1, env, s1, ys, s2, R.ext x1 S1, ev2, fun vs G2 μ2 H2 x2 S2 p2 => ?_⟩
      obtain ⟨G3, a1, a2, S3, r3, st⟩ := p2.absorb S2 hb
      have r4 := (((hr.mono (x2.stay S1)).mono st).append r3)
      refine ⟨by rw [← r4.length, List.length_append]; exact lenOk_le hz, fun t ht => q _ G3 μ2 _ ((x1.trans (x2.grow a1 a2)).trans (.laid ht)) (S3.laid ht) (.of_val (val_tup S3 ht r4) fun z => by simp [fresh] at z)⟩
    split at ev
    · split at ev
      · rename_i hz
        cases ev
        exact fin _ (.inl rfl) hz rfl rfl
      · cases ev
    · split at ev
      · rename_i hz
        cases ev
        exact fin _ (.inr rfl) hz rfl rfl
      · cases ev
    · cases ev
end
end Mi
/-! W9: for i, x in enumerate(xs), xs a list or a tuple. -/
namespace Mi
open PySem PySem.Spec PyProof.Rows L2

set_option maxHeartbeats 1000000 in
/-- the new object, whatever is walked -/
theorem enum1_new {v : Value} {o : Obj} {Z : Heap → Prop} (B : Begins v o Z) : Meets (Builtin.«enumerate.__new__» ⟨[.type "enumerate", v], []⟩) (fun _ R s => Z s.heap ∧
      R (.ok (.ret (.ref (s.heap.push o).objs.size))) { s with heap := (s.heap.push o).push { cls := .type "enumerate", data := .fields #[.none, .bool false, .ref s.heap.objs.size, rawInt 0, .none, .none] } }) := by
  refine .of_wp fun prog w A R s h => ?_
  obtain ⟨hp, g, d, tk, os⟩ := s
  obtain ⟨z, r⟩ := h
  have sub := sub_enumerate
  have walk : ∀ {A' : Around} {E Q : Value → Shared → Prop}, Q (.ref hp.objs.size) ⟨hp.push o, g, d, tk, os⟩ → wpAny (model prog w) A' (pyIter v) Q E ⟨hp, g, d, tk, os⟩ := fun q => B.iter prog w _ _ ⟨hp, g, d, tk, os⟩ _ z q
  wp_walk using walk
  refine wpAny_stack_any fun _ => ?_
  refine wpAny_pure ?_
  split
  · rename_i c _ _ _ _ _
    cases (c == Value.type "enumerate") <;> (wp_walk using walk; exact ⟨_, rfl, r⟩)
  · wp_walk using walk
    exact ⟨_, rfl, r⟩
section
variable {prog : Program} {w : World} {A : Around} {E : Value → Shared → Prop} {s : Shared}
theorem enum1_call {v : Value} {o : Obj} {Z : Heap → Prop} {Q : Value → Shared → Prop} (B : Begins v o Z) (z : Z s.heap)
    (h : ∀ h', IsEnum h' (s.heap.objs.size + 1) s.heap.objs.size 0 .none → h'.get? s.heap.objs.size = some o → (∀ b u, s.heap.get? b = some u → h'.get? b = some u) → Q (.ref (s.heap.objs.size + 1)) { s with heap := h' }) :
    wpAny (model prog w) A (call (.type "enumerate") [v]) Q E s := by
  have z1 : (s.heap.push o).objs.size = s.heap.objs.size + 1 := Heap.size_push ..
  have at1 := Heap.get?_push_size (s.heap.push o) (o := { cls := .type "enumerate", data := .fields #[.none, .bool false, .ref s.heap.objs.size, rawInt 0, .none, .none] }) rfl
  rw [z1] at at1
  refine callType_new F.called_enumerate (by decide) (F.typeCall_enumerate_1 _) (F.newCall_enumerate_1 _) (fun ob => F.args_object_init_2 ob _) F.entry_enumerate_new (enum1_new B) ⟨z, ?_⟩
  rw [z1]
  exact ⟨⟨_, at1, rfl⟩, h _ at1 (Heap.get?_push_of_some _ (Heap.get?_push_size _ B.free)) fun b u e => Heap.get?_push_of_some _ (Heap.get?_push_of_some _ e)⟩
end
/-- a tuple's items with their places, each in a new pair -/
def ItE (K : PySem.W.Frag) (a : Addr) : It :=
  ⟨fun i H => ∃ (xs : List V) (x : V), SqT K H a xs ∧ xs[i]? = some x, fun i H v H' => ∃ t x, v = .ref t ∧ H t = none ∧ H' = upd H t (.tup [.int (i : Nat), x]) ∧ ∀ xs, SqT K H a xs → xs[i]? = some x, fun i H => ∃ xs : List V, SqT K H a xs ∧ xs.length ≤ i⟩
theorem turn_enumT {P : Program} {w : World} {K : PySem.W.Frag} {elts : List Expr} {kk : Nat} {tpos : Pos} (a e it : Addr) :
    Turn P w K (.Tuple elts kk tpos) (ItE K a) [e, it] e (fun i h => (∃ old, IsEnum h e it ((i : Nat) : Int) old) ∧ h.IsTupleIter it a i ∧ e ≠ it) where
  mem := List.mem_cons_self
  obj := by
    rintro i h ⟨⟨old, he⟩, ⟨o, ho, _, hd⟩, _⟩ b hb
    rcases List.mem_cons.mp hb with rfl | hb
    · exact ⟨_, he, fun v q => nomatch q⟩
    · rcases List.mem_cons.mp hb with rfl | hb
      · exact ⟨o, ho, fun v q => by rw [hd] at q; cases q⟩
      · cases hb
  keep := by
    rintro i h h' ⟨⟨old, he⟩, hi, ne⟩ k
    exact ⟨⟨old, k e (by simp) _ he⟩, hi.at fun o q => k it (by simp) o q, ne⟩
  item := by
    intro X hP hw hK hc i pins s σ H E I hf st hg
    subst hP hw hK
    obtain ⟨⟨old, he⟩, hit, ne⟩ := st
    obtain ⟨xs, x, hq, hx⟩ := hg
    obtain ⟨its, rv, p, _⟩ := I.tuple hq
    obtain ⟨u, hu, ru⟩ := rv.get hx
    have e1 : e < s.heap.objs.size := Heap.lt_size he
    have i1 : it < s.heap.objs.size := by obtain ⟨_, q, _⟩ := hit; exact Heap.lt_size q
    have apart : a ≠ it := fun z => by
      obtain ⟨o1, q1, c1, _⟩ := p
      obtain ⟨o2, q2, c2, _⟩ := hit
      rw [z, q2] at q1
      cases q1
      rw [c1] at c2
      exact absurd c2 (by decide)
    have apart2 : e ∉ [it, a] := fun z => by
      rcases List.mem_cons.mp z with z | z
      · exact ne z
      · have z : e = a := by simpa using z
        obtain ⟨o1, q1, c1, _⟩ := p
        rw [← z, show s.heap.get? e = _ from he] at q1
        cases q1
        exact absurd (show Value.type "enumerate" = Value.type "tuple" from c1) (by decide)
    have lt : i < its.toArray.size := by have := (List.getElem?_eq_some_iff.mp hu).1; simpa using this
    refine wpAny_pyNext_enum_itemD (Draws.tuple (A := X.A.in1) (I.ok.hd hc) it a apart its.toArray) he ⟨hit, p⟩ lt ne apart2 fun x' h' tk hx' ho hst hT hsz hk => ?_
    have hx' : its[i]? = some x' := by simpa using hx'
    rw [hu] at hx'
    cases hx'
    refine ⟨_, rfl, wpAny_letOwnedTupleGo_enum (s := { s with heap := h', toks := tk + 1 }) ho fun h2 he2 sb => ?_⟩
    have hT2 := (sb.2 _ (Nat.ne_of_gt e1)).trans hT
    have new : ObjOk X.prog X.w (upd H s.heap.objs.size (.tup [.int (i : Nat), x])) h2 s.heap.objs.size (.tup [.int (i : Nat), x]) :=
      ⟨by show 2 ≤ sizeLine; decide, [.int i tk, u], .cons ⟨_, rfl⟩ (.cons ru .nil), ⟨_, hT2, rfl, _, rfl⟩⟩
    have I1 : L2.Inv X pins σ (upd H s.heap.objs.size (.tup [.int (i : Nat), x])) { s with heap := h2, toks := tk + 1 } :=
      I.turnedNew (ch := [e, it]) (fun b ob hb q => (sb.2 b (fun z => hb (by simp [z]))).trans (hk b ob (fun z => hb (by simp [z])) (fun z => hb (by simp [z])) q)) hf (Nat.le_refl _) new
    have small : ∀ b ∈ [e, it], b < s.heap.objs.size := fun b hb => by
      rcases List.mem_cons.mp hb with rfl | hb
      · exact e1
      · have : b = it := by simpa using hb
        rw [this]; exact i1
    refine ⟨.ref s.heap.objs.size, _, I1, rfl, ⟨_, x, rfl, I.hok.fresh (Nat.le_refl _), rfl, fun ys hy => by rw [I.tuple_inj hy hq]; exact hx⟩, ⟨⟨u, ?_⟩, hst.1.at fun o q => (sb.2 it (Ne.symm ne)).trans q, ne⟩, fun b hb => ?_⟩
    · rw [show ((i + 1 : Nat) : Int) = (i : Int) + 1 by omega]; exact he2
    · rw [upd_ne (Nat.ne_of_lt (small b hb))]
      exact (hf b hb).1
  done := by
    intro X hP hw hK hc i pins s σ H E I hf st hg
    subst hP hw hK
    obtain ⟨⟨old, he⟩, hit, ne⟩ := st
    obtain ⟨xs, hq, hx⟩ := hg
    obtain ⟨its, rv, p, _⟩ := I.tuple hq
    obtain ⟨f0, f1, f2, f3, f4, f5⟩ := hf it (by simp)
    have hl := rv.length
    -- nothing is left: an iterator of no items, from here
    have D0 : Draws X.prog X.w X.A.in1 it [it, a] 0 (fun _ _ => True) (fun j h => h.IsTupleIter it a (i + j) ∧ h.IsTuple a its.toArray) :=
      { live := fun _ _ st => let ⟨o, ho, _⟩ := st.1; ⟨o, ho⟩
        frame := fun _ _ _ st hk => ⟨st.1.at fun o e => hk it (by simp) o e, st.2.at fun o e => hk a (by simp) o e⟩
        item := fun j s Q E hj => absurd hj (Nat.not_lt_zero _)
        done := fun s Q E st hE => wpAny_nextOf_tuple_end (I.ok.hd hc) st.1 st.2 (by simp; omega) hE }
    exact wpAny_pyNext_enum_endD D0 he ⟨hit, p⟩ fun h' eb => ⟨rfl, I.turned (t' := s.toks) (fun b o hb q => eb b o hb q) f0 f1 f3 f4 f5⟩
  self := fun A i s Q E st h => wpAny_pyIter_enum st.1.choose_spec h
def iEnumB (K : PySem.W.Frag) (ta : TA) : TI := fun σ H R => ta σ H fun vs H1 => ∃ a xs, vs = [.ref a] ∧ (SqL K H1 a xs ∧ R (Ite K a) H1 ∨ SqT K H1 a xs ∧ R (ItE K a) H1)
theorem pi_enumB {X : Cx} {e : Expr} {ta : TA} {p pos tpos : Pos} {elts : List Expr} {kk : Nat} (hg : Gl X "enumerate") (hm : X.mg "enumerate" = none) (ha : PA X [e] ta) (hs : starEach [e] X.env = [(false, eval e X.env)]) :
    PI X (.Tuple elts kk tpos) (.Call (.Name "enumerate" p) [e] [] pos) (iEnumB X.K ta) := by
  refine ⟨fun pins s σ H R I h => ?_⟩
  refine Call_ (ld_blt I hg hm boot_enumerate (PyProof.Rows.callWith_type1 (thn (ha.run pos pins s σ H _ I h) ?_) hs rfl))
  rintro us s1 ⟨vs, H1, I1, r1, a, xs, rfl, q⟩
  obtain rfl : us = [Value.ref a] := by
    cases r1 with
    | cons r rr => cases rr; cases r; rfl
  have new : ∀ b ∈ [s1.heap.objs.size + 1, s1.heap.objs.size], FpOk X pins H1 b := fun b hb => by
    have le : s1.heap.objs.size ≤ b := by
      rcases List.mem_cons.mp hb with z | z
      · rw [z]; exact Nat.le_succ _
      · have z : b = s1.heap.objs.size := by simpa using z
        exact Nat.le_of_eq z.symm
    exact I1.fpOk le (I1.hok.fresh le)
  rcases q with ⟨hq, q⟩ | ⟨hq, q⟩
  · obtain ⟨its, rv, pl, _⟩ := I1.list hq
    refine call_enumerate_list pl.isList fun h' he hit hsz hk => wpAny_pyIter_enum he ?_
    exact ⟨_, _, _, _, H1, rfl, I1.kept (t' := s1.toks) hk, turn_enum a (s1.heap.objs.size + 1) s1.heap.objs.size, ⟨⟨.none, he⟩, hit, Nat.succ_ne_self _⟩, new, q⟩
  · obtain ⟨its, rv, pl, _⟩ := I1.tuple hq
    refine enum1_call (begins_tuple a its.toArray) pl fun h' he hit hk => wpAny_pyIter_enum he ?_
    exact ⟨_, _, _, _, H1, rfl, I1.kept (t' := s1.toks) hk, turn_enumT a (s1.heap.objs.size + 1) s1.heap.objs.size, ⟨⟨.none, he⟩, ⟨_, hit, rfl, rfl⟩, Nat.succ_ne_self _⟩, new, q⟩
end Mi
/-! M10: tests; what a for walks. -/
namespace Mi
open PySem PySem.Spec PyProof.Rows L2

section
variable {M : Nms} {T : Tab} {k : Nat} {N : List Str} {sc : Scope} {top : Str → Bool} {X : Cx} {F : Cl}
theorem matCs_cons2 {t t2 : CT} {ts : CTs} {e : Expr} {es : List Expr} (h : matCs M N sc (.cons t (.cons t2 ts)) (e :: es) = true) : matC M N sc t e = true ∧ matCs M N sc (.cons t2 ts) es = true := by
  rw [matCs] at h
  · simpa using h
  · intro q; cases q
theorem r_andT : ∀ {ts : CTs} {es : List Expr} {pos : Pos}, matCs M N sc ts es = true → (∀ t e, matC M N sc t e = true → sizeOf t < sizeOf ts → PT X e (tEvT F X.K X.N.length t)) →
    PW X (.BoolOp .And es pos) (tRb X.K X.N.length (evAndT F ts))
  | .nil, es, _, h, _ => by cases es <;> simp [matCs] at h
  | .cons _ _, [], _, h, _ => by simp [matCs] at h
  | .cons t .nil, e :: es, pos, h, ih => by
    cases es with
    | cons _ _ => simp [matCs] at h
    | nil =>
      refine (pw_and1 (ih t e (by simpa [matCs] using h) (by simp; omega))).weak fun σ H Q ⟨G, μ, env, s, b, s', R, ev, q⟩ => ?_
      simp only [evAndT] at ev
      obtain ⟨d, s1, ev1, ev⟩ := Rs.bind_eq_ok ev
      refine ⟨G, μ, env, s, d, s1, R, ev1, fun G1 μ1 H1 x1 S1 => ?_⟩
      cases d with
      | true =>
        simp only [if_true] at ev
        cases ev
        exact q G1 μ1 H1 x1 S1
      | false =>
        simp only [Bool.false_eq_true, if_false] at ev
        cases ev
        exact q G1 μ1 H1 x1 S1
  | .cons t (.cons t2 ts), [e], pos, h, ih => by simp [matCs] at h
  | .cons t (.cons t2 ts), e :: e2 :: es, pos, h, ih => by
    have h := matCs_cons2 h
    have h1 := ih t e h.1 (by simp; omega)
    have h2 : PW X (.BoolOp .And (e2 :: es) pos) (tRb X.K X.N.length (evAndT F (.cons t2 ts))) := r_andT h.2 fun c' e' hm hs => ih c' e' hm (by simp at hs ⊢; omega)
    refine (pw_and h1 h2).weak fun σ H Q ⟨G, μ, env, s, b, s', R, ev, q⟩ => ?_
    rw [evAndT] at ev
    obtain ⟨d, s1, ev1, ev⟩ := Rs.bind_eq_ok ev
    refine ⟨G, μ, env, s, d, s1, R, ev1, fun G1 μ1 H1 x1 S1 => ?_⟩
    cases d with
    | true =>
      simp only [if_true] at ev ⊢
      exact ⟨G1, μ1, env, s1, b, s', R.ext x1 S1, ev, fun G2 μ2 H2 x2 S2 => q G2 μ2 H2 (x1.trans x2) S2⟩
    | false =>
      simp only [Bool.false_eq_true, if_false] at ev ⊢
      cases ev
      exact q G1 μ1 H1 x1 S1
theorem r_orT : ∀ {ts : CTs} {es : List Expr} {pos : Pos}, matCs M N sc ts es = true → (∀ t e, matC M N sc t e = true → sizeOf t < sizeOf ts → PT X e (tEvT F X.K X.N.length t)) →
    PW X (.BoolOp .Or es pos) (tRb X.K X.N.length (evOrT F ts))
  | .nil, es, _, h, _ => by cases es <;> simp [matCs] at h
  | .cons _ _, [], _, h, _ => by simp [matCs] at h
  | .cons t .nil, e :: es, pos, h, ih => by
    cases es with
    | cons _ _ => simp [matCs] at h
    | nil =>
      refine (pw_or1 (ih t e (by simpa [matCs] using h) (by simp; omega))).weak fun σ H Q ⟨G, μ, env, s, b, s', R, ev, q⟩ => ?_
      simp only [evOrT] at ev
      obtain ⟨d, s1, ev1, ev⟩ := Rs.bind_eq_ok ev
      refine ⟨G, μ, env, s, d, s1, R, ev1, fun G1 μ1 H1 x1 S1 => ?_⟩
      cases d with
      | true =>
        simp only [if_true] at ev
        cases ev
        exact q G1 μ1 H1 x1 S1
      | false =>
        simp only [Bool.false_eq_true, if_false] at ev
        cases ev
        exact q G1 μ1 H1 x1 S1
  | .cons t (.cons t2 ts), [e], pos, h, ih => by simp [matCs] at h
  | .cons t (.cons t2 ts), e :: e2 :: es, pos, h, ih => by
    have h := matCs_cons2 h
    have h1 := ih t e h.1 (by simp; omega)
    have h2 : PW X (.BoolOp .Or (e2 :: es) pos) (tRb X.K X.N.length (evOrT F (.cons t2 ts))) := r_orT h.2 fun c' e' hm hs => ih c' e' hm (by simp at hs ⊢; omega)
    refine (pw_or h1 h2).weak fun σ H Q ⟨G, μ, env, s, b, s', R, ev, q⟩ => ?_
    rw [evOrT] at ev
    obtain ⟨d, s1, ev1, ev⟩ := Rs.bind_eq_ok ev
    refine ⟨G, μ, env, s, d, s1, R, ev1, fun G1 μ1 H1 x1 S1 => ?_⟩
    cases d with
    | false =>
      simp only [Bool.false_eq_true, if_false] at ev ⊢
      exact ⟨G1, μ1, env, s1, b, s', R.ext x1 S1, ev, fun G2 μ2 H2 x2 S2 => q G2 μ2 H2 (x1.trans x2) S2⟩
    | true =>
      simp only [if_true] at ev ⊢
      cases ev
      exact q G1 μ1 H1 x1 S1
theorem r_tAnd {ts : CTs} {es : List Expr} {pos : Pos} (h : PW X (.BoolOp .And es pos) (tRb X.K X.N.length (evAndT F ts))) : PT X (.BoolOp .And es pos) (tEvT F X.K X.N.length (.and ts)) :=
  h.pt.weak fun σ H Q ⟨G, μ, env, s, b, s', R, ev, q⟩ => ⟨G, μ, env, s, b, s', R, by simpa only [evT] using ev, q⟩
theorem r_tOr {ts : CTs} {es : List Expr} {pos : Pos} (h : PW X (.BoolOp .Or es pos) (tRb X.K X.N.length (evOrT F ts))) : PT X (.BoolOp .Or es pos) (tEvT F X.K X.N.length (.or ts)) :=
  h.pt.weak fun σ H Q ⟨G, μ, env, s, b, s', R, ev, q⟩ => ⟨G, μ, env, s, b, s', R, by simpa only [evT] using ev, q⟩
theorem r_tNot {t : CT} {e : Expr} {pos : Pos} (h : PT X e (tEvT F X.K X.N.length t)) : PT X (.UnaryOp .Not e pos) (tEvT F X.K X.N.length (.not t)) :=
  (pt_not h).weak fun σ H Q ⟨G, μ, env, s, b, s', R, ev, q⟩ => by
    simp only [evT] at ev
    obtain ⟨d, s1, ev1, ev⟩ := Rs.bind_eq_ok ev
    cases ev
    exact ⟨G, μ, env, s, d, _, R, ev1, fun G1 μ1 H1 x1 S1 => q G1 μ1 H1 x1 S1⟩
/-- a value's truth -/
theorem r_tVal {c : CE} {e : Expr} (he : ∀ whole, isTrue e X.env whole = (do let v ← whole; standAt e.pos; holding [v] (truthy v))) (h : PE X e (tEv F X.K X.N.length c)) : PT X e (tEvT F X.K X.N.length (.val c)) :=
  (pt_truth h he).weak fun σ H Q ⟨G, μ, env, s, b, s', R, ev, q⟩ => by
    simp only [evT] at ev
    obtain ⟨d, s1, ev1, ev⟩ := Rs.bind_eq_ok ev
    obtain ⟨ev, rfl⟩ := Rs.of_eq_ok ev
    exact ⟨G, μ, env, s, d, _, R, ev1, fun v G1 μ1 H1 x1 S1 p1 => ⟨b, tru_d S1 p1.top ev, q G1 μ1 H1 x1 S1⟩⟩
theorem r_tCmp (C : Cxt M T k N sc top X) {op : CmpOp} {a b : CE} {x y : Expr} {pos : Pos} (hs : okShape y = true) (ha : PE X x (tEv F X.K X.N.length a)) (hb : PE X y (tEv F X.K X.N.length b)) : PT X (.Compare x [op] [y] pos) (tEvT F X.K X.N.length (.val (.cmp op a b))) := by
  refine (pt_cmpR (op_cmp C.hu op) ha hb (nomark_shape hs op)).weak fun σ H Q ⟨G, μ, env, s, d, s', R, ev, q⟩ => ?_
  simp only [evT, evE] at ev
  obtain ⟨dc, s0, ev0, evt⟩ := Rs.bind_eq_ok ev
  obtain ⟨da, s1, ev1, ev'⟩ := Rs.bind_eq_ok ev0
  obtain ⟨db, s2, ev2, ev''⟩ := Rs.bind_eq_ok ev'
  obtain ⟨bb, s3, ev3', ev4⟩ := Rs.bind_eq_ok ev''
  obtain ⟨ev3, rfl⟩ := Rs.of_eq_ok ev3'
  cases ev4
  cases evt
  refine ⟨G, μ, env, s, da, s1, R, ev1, fun v G1 μ1 H1 x1 S1 p1 => ⟨G1, μ1, env, s1, db, _, R.ext x1 S1, ev2, fun u G2 μ2 H2 x2 S2 p2 => ?_⟩⟩
  exact ⟨G2, μ2, _, da, db, _, S2, (p1.ext S1 x2).top, p2.top, ev3, _, rfl, q G2 μ2 H2 (x1.trans x2) S2⟩
theorem r_tChain (C : Cxt M T k N sc top X) {o1 o2 : CmpOp} {a b c : CE} {x y z : Expr} {pos : Pos} (hs : okShape z = true) (ha : PE X x (tEv F X.K X.N.length a)) (hb : PE X y (tEv F X.K X.N.length b)) (hc : PE X z (tEv F X.K X.N.length c)) :
    PT X (.Compare x [o1, o2] [y, z] pos) (tEvT F X.K X.N.length (.val (.chain o1 o2 a b c))) := by
  refine (pt_chain (op_cmp C.hu o1) (op_cmp C.hu o2) ha hb hc (lastM hs)).weak fun σ H Q ⟨G, μ, env, s, d, s', R, ev, q⟩ => ?_
  rw [evT] at ev
  obtain ⟨dc, s0, ev0, evt⟩ := Rs.bind_eq_ok ev
  obtain ⟨evt, rfl⟩ := Rs.of_eq_ok evt
  exact chain_read R ev0 fun kk hd G' μ' H' x' S' => ⟨kk, rfl, by subst hd; cases evt; exact q G' μ' H' x' S'⟩
end

/-! ### what a for walks -/
section
variable {K : PySem.W.Frag}
def srcC : CE → List Nat
  | .var i => [i]
  | _ => []
def srcV : CI → List Nat
  | .seq e => srcC e
  | .enum e => srcC e
  | .zip2 a b => srcC a ++ srcC b
  | _ => []
def Src (env : MEnv) (σ : L2.St) (G : Addr → Prop) (H : Hp) (is : List Nat) (a : Addr) : Prop := G a ∨ H a = none ∨ ∃ i ∈ is, σ[i]? = some (some (.ref a)) ∧ ∃ d, env[i]? = some (some (true, d)) ∧ isMut d = true
/-- the iterator yields the items xs; A: the lists that it stands on -/
def JOk (K : PySem.W.Frag) (J : It) (xs : List D) (A : Addr → Prop) (G : Addr → Prop) (μ : List Addr) (H : Hp) : Prop :=
  ∀ G1 μ1 H1 s1, Sk K G1 μ1 H1 s1 → (∀ a, A a → H1 a = H a) → Stay G μ H G1 μ1 H1 → ∀ i, (xs.length ≤ i → J.stop i H1) ∧
    ∀ d, xs[i]? = some d → J.go i H1 ∧ ∀ x H3, J.yld i H1 x H3 → Ext G1 μ1 H1 G1 μ1 H3 ∧ Sk K G1 μ1 H3 s1 ∧ Val K G1 μ1 H3 d x
def tEvI (F : Cl) (K : PySem.W.Frag) (n : Nat) (ci : CI) : TI := fun σ H R => ∃ G μ env s xs s', Rel K n G μ σ H env s ∧ evI F ci env s = .ok xs s' ∧
  ∀ J A G' μ' H', Ext G μ H G' μ' H' → Sk K G' μ' H' s' → (∀ a, A a → H' a ≠ none ∧ a ∉ μ' ∧ Src env σ G' H (srcV ci) a) → JOk K J xs A G' μ' H' → R J H'
theorem rngD_len : ∀ (n : Nat) (lo : Int), (rngD lo n).length = n
  | 0, _ => rfl
  | n + 1, lo => by simp [rngD, rngD_len n]
theorem rngD_get : ∀ (n : Nat) (lo : Int) (i : Nat), i < n → (rngD lo n)[i]? = some (.int (lo + i))
  | 0, _, _, h => by omega
  | n + 1, lo, 0, _ => by simp [rngD]
  | n + 1, lo, i + 1, h => by
    simp only [rngD, List.getElem?_cons_succ]
    rw [rngD_get n (lo + 1) i (by omega)]
    have : lo + 1 + (i : Int) = lo + ((i + 1 : Nat) : Int) := by omega
    rw [this]
theorem jOk_rng {lo : Int} {n : Nat} {G : Addr → Prop} {μ : List Addr} {H : Hp} : JOk K (Itr lo n) (rngD lo n) (fun _ => False) G μ H := by
  intro G1 μ1 H1 s1 S1 _ st i
  refine ⟨fun h => by rw [rngD_len] at h; exact h, fun d hd => ?_⟩
  have hi : i < n := by
    have := (List.getElem?_eq_some_iff.mp hd).1
    rwa [rngD_len] at this
  refine ⟨hi, fun x H3 hy => ?_⟩
  obtain ⟨rfl, rfl⟩ := hy
  rw [rngD_get n lo i hi] at hd
  cases hd
  exact ⟨.refl, S1, .int _⟩
theorem jOk_tup {a : Addr} {ds : List D} {vs : List V} {G : Addr → Prop} {μ : List Addr} {H : Hp} (h : H a = some (.tup vs)) (r : Vls K G μ H ds vs) : JOk K (Itt K a) ds (fun _ => False) G μ H := by
  intro G1 μ1 H1 s1 S1 _ st i
  have h1 := st.tup a vs h
  refine ⟨fun hi => ⟨vs, .of h1, by rw [← r.length]; exact hi⟩, fun d hd => ?_⟩
  obtain ⟨v, e1, e2⟩ := r.get hd
  refine ⟨⟨vs, v, .of h1, e1⟩, fun x H3 hy => ?_⟩
  obtain ⟨rfl, hx⟩ := hy
  have := hx vs (.of h1)
  rw [e1] at this
  cases this
  exact ⟨.refl, S1, e2.mono st⟩
theorem jOk_lst {a : Addr} {ds : List D} {vs : List V} {G : Addr → Prop} {μ : List Addr} {H : Hp} (h : H a = some (.lst vs)) (r : Vls K G μ H ds vs) : JOk K (Itl K a) ds (fun b => b = a) G μ H := by
  intro G1 μ1 H1 s1 S1 hA st i
  have h1 : H1 a = some (.lst vs) := by rw [hA a rfl]; exact h
  refine ⟨fun hi => ⟨vs, .of h1, by rw [← r.length]; exact hi⟩, fun d hd => ?_⟩
  obtain ⟨v, e1, e2⟩ := r.get hd
  refine ⟨⟨vs, v, .of h1, e1⟩, fun x H3 hy => ?_⟩
  obtain ⟨rfl, hx⟩ := hy
  have := hx vs (.of h1)
  rw [e1] at this
  cases this
  exact ⟨.refl, S1, e2.mono st⟩
theorem enumD_len : ∀ (ds : List D) (i : Int), (enumD i ds).length = ds.length
  | [], _ => rfl
  | d :: ds, i => by simp [enumD, enumD_len ds]
theorem enumD_get : ∀ (ds : List D) (lo : Int) (i : Nat), (enumD lo ds)[i]? = (ds[i]?).map fun d => .tup [.int (lo + i), d]
  | [], _, _ => by simp [enumD]
  | d :: ds, lo, 0 => by simp [enumD]
  | d :: ds, lo, i + 1 => by
    simp only [enumD, List.getElem?_cons_succ]
    rw [enumD_get ds (lo + 1) i]
    congr 1
    funext d
    have : lo + 1 + (i : Int) = lo + ((i + 1 : Nat) : Int) := by omega
    rw [this]
theorem jOk_enum {a : Addr} {ds : List D} {vs : List V} {G : Addr → Prop} {μ : List Addr} {H : Hp} (h : H a = some (.lst vs)) (r : Vls K G μ H ds vs) : JOk K (Ite K a) (enumD 0 ds) (fun b => b = a) G μ H := by
  intro G1 μ1 H1 s1 S1 hA st i
  have h1 : H1 a = some (.lst vs) := by rw [hA a rfl]; exact h
  refine ⟨fun hi => ⟨vs, .of h1, by rw [enumD_len] at hi; rw [← r.length]; exact hi⟩, fun d hd => ?_⟩
  rw [enumD_get] at hd
  obtain ⟨d0, hd0, rfl⟩ := Option.map_eq_some_iff.mp hd
  obtain ⟨v, e1, e2⟩ := r.get hd0
  refine ⟨⟨vs, v, .of h1, e1⟩, fun x H3 hy => ?_⟩
  obtain ⟨t, x0, rfl, ht, rfl, hx⟩ := hy
  have := hx vs (.of h1)
  rw [e1] at this
  cases this
  refine ⟨.laid ht, S1.laid ht, ?_⟩
  have : (0 : Int) + (i : Int) = (i : Int) := by omega
  rw [this]
  exact val_tup S1 ht (.cons (.int _) (.cons (e2.mono st) .nil))
theorem jOk_enumT {a : Addr} {ds : List D} {vs : List V} {G : Addr → Prop} {μ : List Addr} {H : Hp} (h : H a = some (.tup vs)) (r : Vls K G μ H ds vs) : JOk K (ItE K a) (enumD 0 ds) (fun _ => False) G μ H := by
  intro G1 μ1 H1 s1 S1 hA st i
  have h1 : H1 a = some (.tup vs) := st.tup _ _ h
  refine ⟨fun hi => ⟨vs, .of h1, by rw [enumD_len] at hi; rw [← r.length]; exact hi⟩, fun d hd => ?_⟩
  rw [enumD_get] at hd
  obtain ⟨d0, hd0, rfl⟩ := Option.map_eq_some_iff.mp hd
  obtain ⟨v, e1, e2⟩ := r.get hd0
  refine ⟨⟨vs, v, .of h1, e1⟩, fun x H3 hy => ?_⟩
  obtain ⟨t, x0, rfl, ht, rfl, hx⟩ := hy
  have := hx vs (.of h1)
  rw [e1] at this
  cases this
  refine ⟨.laid ht, S1.laid ht, ?_⟩
  rw [show (0 : Int) + (i : Int) = (i : Int) by omega]
  exact val_tup S1 ht (.cons (.int _) (.cons (e2.mono st) .nil))
theorem zipD_len : ∀ (as bs : List D), (zipD as bs).length = min as.length bs.length
  | [], _ => by simp [zipD]
  | _ :: _, [] => by simp [zipD]
  | a :: as, b :: bs => by simp [zipD, zipD_len as bs]
theorem zipD_get : ∀ (as bs : List D) (i : Nat) (d : D), (zipD as bs)[i]? = some d → ∃ a b, as[i]? = some a ∧ bs[i]? = some b ∧ d = .tup [a, b]
  | [], _, _, _, h => by simp [zipD] at h
  | _ :: _, [], _, _, h => by simp [zipD] at h
  | a :: as, b :: bs, 0, d, h => by simp [zipD] at h; exact ⟨a, b, rfl, rfl, h.symm⟩
  | a :: as, b :: bs, i + 1, d, h => by simpa using zipD_get as bs i d (by simpa [zipD] using h)
theorem jOk_zip {a b : Addr} {ds es : List D} {vs ws : List V} {G : Addr → Prop} {μ : List Addr} {H : Hp} (h : H a = some (.lst vs)) (r : Vls K G μ H ds vs) (h' : H b = some (.lst ws)) (r' : Vls K G μ H es ws) :
    JOk K (Itz K a b) (zipD ds es) (fun c => c = a ∨ c = b) G μ H := by
  intro G1 μ1 H1 s1 S1 hA st i
  have h1 : H1 a = some (.lst vs) := by rw [hA a (.inl rfl)]; exact h
  have h2 : H1 b = some (.lst ws) := by rw [hA b (.inr rfl)]; exact h'
  refine ⟨fun hi => ⟨vs, ws, .of h1, .of h2, by rw [zipD_len] at hi; rw [← r.length, ← r'.length]; omega⟩, fun d hd => ?_⟩
  obtain ⟨d1, d2, q1, q2, rfl⟩ := zipD_get ds es i d hd
  obtain ⟨v1, e1, e2⟩ := r.get q1
  obtain ⟨v2, f1, f2⟩ := r'.get q2
  refine ⟨⟨vs, ws, v1, v2, .of h1, .of h2, e1, f1⟩, fun x H3 hy => ?_⟩
  obtain ⟨t, x0, y0, rfl, ht, rfl, hx, hx'⟩ := hy
  have := hx vs (.of h1)
  rw [e1] at this
  cases this
  have := hx' ws (.of h2)
  rw [f1] at this
  cases this
  exact ⟨.laid ht, S1.laid ht, val_tup S1 ht (.cons (e2.mono st) (.cons (f2.mono st) .nil))⟩
end

/-- either reading will do -/
theorem pi_or {X : Cx} {tg l : Expr} {w1 w2 : TI} (h1 : PI X tg l w1) (h2 : PI X tg l w2) : PI X tg l (fun σ H R => w1 σ H R ∨ w2 σ H R) :=
  ⟨fun pins s σ H R I h => h.elim (fun z => h1.run pins s σ H R I z) fun z => h2.run pins s σ H R I z⟩
theorem _root_.L2.PI.weak {X : Cx} {tg e : Expr} {t t' : TI} (h : PI X tg e t) (w : ∀ σ H R, t' σ H R → t σ H R) : PI X tg e t' := ⟨fun pins s σ H R I q => h.run pins s σ H R I (w _ _ _ q)⟩

section
variable {M : Nms} {T : Tab} {k : Nat} {N : List Str} {sc : Scope} {top : Str → Bool} {X : Cx} {F : Cl}
/-- where a list that is walked comes from -/
theorem src_of {K : PySem.W.Frag} {n : Nat} {G G' : Addr → Prop} {μ μ' : List Addr} {σ : L2.St} {H H' : Hp} {env : MEnv} {s s' : Sto} {c : CE} {xs : List D} {v : V} {a : Addr} (R : Rel K n G μ σ H env s) (S' : Sk K G' μ' H' s')
    (ev : evE F c env s = .ok (.lst xs) s') (p : Post F env c K G' μ' H' H (.lst xs) v) (hv : v = .ref a) (hsame : ∀ i, c = .var i → σ[i]? = some (some v)) : a ∉ μ' ∧ (okS env c = true → Src env σ G' H (srcC c) a) := by
  subst hv
  have ht := p.top
  have hmem : a ∉ μ' := by
    rcases ht with h | ⟨b, e, h, _⟩
    · cases h with
      | lst g _ _ => exact fun hm => S'.g a hm g
    · cases e; exact h
  refine ⟨hmem, fun ok => ?_⟩
  unfold Post at p
  split at p
  · rcases p with ⟨z, _⟩ | ⟨b, e, _, _, h, _⟩
    · cases z
    · cases e; exact .inr (.inl h)
  · split at p
    · rename_i hb
      cases c with
      | var i =>
        have hb : ownd env i = true := hb
        simp only [evE] at ev
        obtain ⟨e, _⟩ := Rs.of_eq_ok ev
        unfold getV at e
        unfold ownd at hb
        split at e
        · rename_i o d' hd
          rw [hd] at hb
          cases e
          have hb : o = true := hb
          subst hb
          exact .inr (.inr ⟨i, by simp [srcC], hsame i rfl, _, hd, rfl⟩)
        · cases e
      | _ => simp [okS] at ok; rw [hb] at ok; cases ok
    · cases p with
      | lst g _ _ => exact .inl g
/-- a name's value is its slot's -/
theorem r_varS (C : Cxt M T k N sc top X) : ∀ {c : CE} {e : Expr}, matE M N sc c e = true → PE X e (tEv F X.K X.N.length c) →
    PE X e (fun σ H Q => ∃ G μ env s d s', Rel X.K X.N.length G μ σ H env s ∧ evE F c env s = .ok d s' ∧
      ∀ v G' μ' H', Ext G μ H G' μ' H' → Sk X.K G' μ' H' s' → Post F env c X.K G' μ' H' H d v → (∀ i, c = .var i → σ[i]? = some (some v)) → Q v H') := by
  intro c e h hp
  cases c with
  | var i =>
    cases e <;> simp only [matE, Bool.and_eq_true, decide_eq_true_eq] at h <;> try contradiction
    rename_i x pos
    obtain ⟨⟨h1, h2⟩, h3⟩ := h
    obtain ⟨d1, d2⟩ := okN_of h3
    refine (pe_var (by rw [C.nN]; exact h1) (by rw [C.sc]; exact vis_of h2) d1 d2).weak fun σ H Q ⟨G, μ, env, s, d, s', R, e, q⟩ => ?_
    simp only [evE] at e
    obtain ⟨e, rfl⟩ := Rs.of_eq_ok e
    unfold getV at e
    split at e
    · rename_i o d' hd
      cases e
      obtain ⟨v, h1, h2⟩ := R.slot i o _ hd
      refine ⟨v, h1, q v G μ H .refl R.sk ?_ fun j hj => by cases hj; exact h1⟩
      unfold Post
      rw [if_neg (by simp [fresh])]
      split
      · exact h2.top
      · rename_i hb
        have ho : o = false := by
          cases o
          · rfl
          · exact absurd (by simp [bor, ownd, hd]) hb
        subst ho
        exact h2.val
    · cases e
  | _ => exact hp.weak fun σ H Q ⟨G, μ, env, s, d, s', R, e, q⟩ => ⟨G, μ, env, s, d, s', R, e, fun v G' μ' H' x S p => q v G' μ' H' x S p fun i z => nomatch z⟩
theorem r_iSeq (C : Cxt M T k N sc top X) {c : CE} {tg e : Expr} (hm : matE M N sc c e = true) (h : PE X e (tEv F X.K X.N.length c)) : PI X tg e (tEvI F X.K X.N.length (.seq c)) := by
  refine (pi_or (pi_list (r_varS C hm h)) (pi_tup (r_varS C hm h))).weak fun σ H R' ⟨G, μ, env, s, xs, s', R, ev, q⟩ => ?_
  simp only [evI] at ev
  split at ev
  · cases ev
  rename_i hok
  have hok : okS env c = true := by simpa using hok
  obtain ⟨d, s1, ev1, ev⟩ := Rs.bind_eq_ok ev
  split at ev
  · cases ev
    refine .inr ⟨G, μ, env, s, _, _, R, ev1, fun v G1 μ1 H1 x1 S1 p1 hv => ?_⟩
    obtain ⟨a, vs, rfl, h1, h2⟩ := p1.top.tup (s := []) rfl
    exact ⟨a, rfl, ⟨vs, .of h1⟩, q _ _ G1 μ1 H1 x1 S1 (fun _ z => False.elim z) (jOk_tup h1 h2)⟩
  · cases ev
    refine .inl ⟨G, μ, env, s, _, _, R, ev1, fun v G1 μ1 H1 x1 S1 p1 hv => ?_⟩
    obtain ⟨a, vs, e, h1, h2⟩ := p1.top.lst S1 (s := s') rfl
    obtain ⟨z1, z2⟩ := src_of R S1 ev1 p1 e hv
    exact ⟨a, e, ⟨vs, .of h1⟩, q _ _ G1 μ1 H1 x1 S1 (fun b z => by subst z; exact ⟨(by rw [h1]; simp), z1, z2 hok⟩) (jOk_lst h1 h2)⟩
  · cases ev
theorem r_iRng1 (C : Cxt M T k N sc top X) {a : CE} {y tg : Expr} {p pos : Pos} (hg : gl sc "range" = true) (hs : okShape y = true) (h : PE X y (tEv F X.K X.N.length a)) : PI X tg (.Call (.Name "range" p) [y] [] pos) (tEvI F X.K X.N.length (.range1 a)) := by
  have hst : starEach [y] X.env = [(false, eval y X.env)] := starEach_shape hs [] X.env
  refine (pi_range1 (gl_of C hg) (C.blt _ (by decide)) (pa_cons h pa_nil hst) hst).weak fun σ H R' ⟨G, μ, env, s, xs, s', R, ev, q⟩ => ?_
  simp only [evI] at ev
  obtain ⟨d, s1, ev1, ev⟩ := Rs.bind_eq_ok ev
  split at ev
  · rename_i i
    split at ev
    · rename_i hi
      cases ev
      refine ⟨G, μ, env, s, _, _, R, ev1, fun v G1 μ1 H1 x1 S1 p1 => ?_⟩
      obtain ⟨rfl, _⟩ := p1.top.int (s := []) rfl
      have hi := i62_iff hi
      exact ⟨i, rfl, hi.1, hi.2, q _ _ G1 μ1 H1 x1 S1 (fun _ z => False.elim z) jOk_rng⟩
    · cases ev
  · cases ev
theorem r_iRng2 (C : Cxt M T k N sc top X) {a b : CE} {y z tg : Expr} {p pos : Pos} (hg : gl sc "range" = true) (hs : okShape y = true) (hs2 : okShape z = true) (ha : PE X y (tEv F X.K X.N.length a)) (hb : PE X z (tEv F X.K X.N.length b)) :
    PI X tg (.Call (.Name "range" p) [y, z] [] pos) (tEvI F X.K X.N.length (.range2 a b)) := by
  have hst2 : starEach [z] X.env = [(false, eval z X.env)] := starEach_shape hs2 [] X.env
  have hst : starEach [y, z] X.env = [(false, eval y X.env), (false, eval z X.env)] := by rw [starEach_shape hs, hst2]
  refine (pi_range2 (gl_of C hg) (C.blt _ (by decide)) (pa_cons ha (pa_cons hb pa_nil hst2) (starEach_shape hs _ _)) hst hst2).weak fun σ H R' ⟨G, μ, env, s, xs, s', R, ev, q⟩ => ?_
  simp only [evI] at ev
  obtain ⟨d, s1, ev1, ev⟩ := Rs.bind_eq_ok ev
  obtain ⟨d2, s2, ev2, ev⟩ := Rs.bind_eq_ok ev
  split at ev
  · split at ev
    · rename_i hi
      cases ev
      refine ⟨G, μ, env, s, _, _, R, ev1, fun v G1 μ1 H1 x1 S1 p1 => ⟨G1, μ1, env, s1, _, _, R.ext x1 S1, ev2, fun u G2 μ2 H2 x2 S2 p2 => ?_⟩⟩
      obtain ⟨rfl, _⟩ := p1.top.int (s := []) rfl
      obtain ⟨rfl, _⟩ := p2.top.int (s := []) rfl
      simp only [Bool.and_eq_true] at hi
      have hi := And.intro (i62_iff hi.1) (i62_iff hi.2)
      exact ⟨_, _, rfl, ⟨hi.1.1, hi.1.2, hi.2.1, hi.2.2⟩, q _ _ G2 μ2 H2 (x1.trans x2) S2 (fun _ z => False.elim z) jOk_rng⟩
    · cases ev
  · cases ev
theorem r_iEnum (C : Cxt M T k N sc top X) {c : CE} {y tg : Expr} {p pos : Pos} (hg : gl sc "enumerate" = true) (htg : isTup tg = true) (hm : matE M N sc c y = true) (h : PE X y (tEv F X.K X.N.length c)) :
    PI X tg (.Call (.Name "enumerate" p) [y] [] pos) (tEvI F X.K X.N.length (.enum c)) := by
  have hst : starEach [y] X.env = [(false, eval y X.env)] := starEach_shape (matE_shape hm) [] X.env
  cases tg <;> simp only [isTup] at htg <;> try contradiction
  refine (pi_enumB (gl_of C hg) (C.blt _ (by decide)) (pa_cons (r_varS C hm h) pa_nil hst) hst).weak fun σ H R' ⟨G, μ, env, s, xs, s', R, ev, q⟩ => ?_
  simp only [evI] at ev
  split at ev
  · cases ev
  rename_i hok
  have hok : okS env c = true := by simpa using hok
  obtain ⟨d, s1, ev1, ev⟩ := Rs.bind_eq_ok ev
  split at ev
  · cases ev
    refine ⟨G, μ, env, s, _, _, R, ev1, fun v G1 μ1 H1 x1 S1 p1 hv => ?_⟩
    obtain ⟨a, vs, e, h1, h2⟩ := p1.top.lst S1 (s := s') rfl
    obtain ⟨z1, z2⟩ := src_of R S1 ev1 p1 e hv
    subst e
    exact ⟨a, vs, rfl, .inl ⟨.of h1, q _ _ G1 μ1 H1 x1 S1 (fun b z => by subst z; exact ⟨(by rw [h1]; simp), z1, z2 hok⟩) (jOk_enum h1 h2)⟩⟩
  · cases ev
    refine ⟨G, μ, env, s, _, _, R, ev1, fun v G1 μ1 H1 x1 S1 p1 hv => ?_⟩
    obtain ⟨a, vs, rfl, h1, h2⟩ := p1.top.tup (s := s') rfl
    exact ⟨a, vs, rfl, .inr ⟨.of h1, q _ (fun _ => False) G1 μ1 H1 x1 S1 (fun _ z => z.elim) (jOk_enumT h1 h2)⟩⟩
  · cases ev
theorem r_iZip (C : Cxt M T k N sc top X) {a b : CE} {y z tg : Expr} {p pos : Pos} (hg : gl sc "zip" = true) (htg : isTup tg = true) (hm : matE M N sc a y = true) (hm2 : matE M N sc b z = true) (ha : PE X y (tEv F X.K X.N.length a)) (hb : PE X z (tEv F X.K X.N.length b)) :
    PI X tg (.Call (.Name "zip" p) [y, z] [] pos) (tEvI F X.K X.N.length (.zip2 a b)) := by
  have hst2 : starEach [z] X.env = [(false, eval z X.env)] := starEach_shape (matE_shape hm2) [] X.env
  have hst : starEach [y, z] X.env = (false, eval y X.env) :: starEach [z] X.env := starEach_shape (matE_shape hm) _ _
  cases tg <;> simp only [isTup] at htg <;> try contradiction
  refine (pi_zip (gl_of C hg) (C.blt _ (by decide)) (pa_cons (r_varS C hm ha) (pa_cons (r_varS C hm2 hb) pa_nil hst2) hst) hst (by rw [hst2]; rfl)).weak fun σ H R' ⟨G, μ, env, s, xs, s', R, ev, q⟩ => ?_
  simp only [evI] at ev
  split at ev
  · cases ev
  rename_i hok
  have hok : okS env a = true ∧ okS env b = true := by simpa using hok
  obtain ⟨d, s1, ev1, ev⟩ := Rs.bind_eq_ok ev
  obtain ⟨d2, s2, ev2, ev⟩ := Rs.bind_eq_ok ev
  split at ev
  · cases ev
    refine ⟨G, μ, env, s, _, _, R, ev1, fun v G1 μ1 H1 x1 S1 p1 hv => ⟨G1, μ1, env, s1, _, _, R.ext x1 S1, ev2, fun u G2 μ2 H2 x2 S2 p2 hu => ?_⟩⟩
    obtain ⟨a0, vs, e, h1, h2⟩ := p1.top.lst S1 (s := s1) rfl
    obtain ⟨b0, ws, e', h3, h4⟩ := p2.top.lst S2 (s := s') rfl
    obtain ⟨z1, z2⟩ := src_of R S1 ev1 p1 e hv
    obtain ⟨y1, y2⟩ := src_of (R.ext x1 S1) S2 ev2 p2 e' hu
    have h1' : H2 a0 = some (.lst vs) := x2.keep a0 _ z1 h1
    subst e e'
    refine ⟨a0, b0, vs, ws, rfl, .of h1', .of h3, q _ _ G2 μ2 H2 (x1.trans x2) S2 (fun c hc => ?_) (jOk_zip h1' (h2.mono (x2.stay S1)) h3 h4)⟩
    rcases hc with rfl | rfl
    · refine ⟨(by rw [h1']; simp), fun hm => ?_, ?_⟩
      · obtain ⟨ν, m1, m2⟩ := x2.m
        rw [m1] at hm
        rcases List.mem_append.mp hm with z | z
        · exact z1 z
        · rw [m2 _ z] at h1; cases h1
      · rcases z2 hok.1 with g | g | ⟨i, g1, g2, g3, g4, g5⟩
        · exact .inl (x2.g _ g)
        · exact .inr (.inl g)
        · exact .inr (.inr ⟨i, by simp [srcV, g1], g2, g3, g4, g5⟩)
    · refine ⟨(by rw [h3]; simp), y1, ?_⟩
      rcases y2 hok.2 with g | g | ⟨i, g1, g2, g3, g4, g5⟩
      · exact .inl g
      · exact .inr (.inl (x1.dom _ g))
      · exact .inr (.inr ⟨i, by simp [srcV, g1], g2, g3, g4, g5⟩)
  · cases ev
end
end Mi
/-! M11: comprehensions. -/
namespace Mi
open PySem PySem.Spec PyProof.Rows L2

section
variable {K : PySem.W.Frag} {n : Nat} {G G' : Addr → Prop} {μ μ' : List Addr} {σ : L2.St} {H H' H₀ : Hp} {env : MEnv} {s s' : Sto}
/-- an object that nobody else reaches is changed -/
theorem Stay.own {a : Addr} {o u : HO} (hg : ¬ G a) (h : H a = some u) (hu : ∀ xs, u ≠ .tup xs) : Stay G μ H G μ (upd H a o) :=
  ⟨fun b v g e => by
    have : b ≠ a := fun z => hg (z ▸ g)
    rw [upd_ne this]; exact e, fun b xs e => by
    have : b ≠ a := fun z => by subst z; rw [h] at e; exact hu xs (Option.some.inj e)
    rw [upd_ne this]; exact e, fun b e => by
    by_cases z : b = a
    · subst z; rw [upd_same] at e; cases e
    · rw [upd_ne z] at e; exact e, fun _ g => g, [], by simp⟩
theorem Sk.own (S : Sk K G μ H s) {a : Addr} {o u : HO} (hm : a ∉ μ) (hg : ¬ G a) (h : H a = some u) (hu : ∀ xs, u ≠ .tup xs) : Sk K G μ (upd H a o) s :=
  ⟨S.len, S.nd, S.g, fun i ob hi => let ⟨b, h1, h2⟩ := S.ob i ob hi; ⟨b, h1, h2.mono (.own hg h hu) fun v e => by
    have : b ≠ a := fun z => hm (z ▸ List.mem_of_getElem? h1)
    rw [upd_ne this]; exact e⟩, fun b g e => by
    by_cases z : b = a
    · subst z; rw [upd_same] at e; cases e
    · rw [upd_ne z] at e; exact S.dom b g e⟩
theorem Ext.own {G₁ : Addr → Prop} {μ₁ : List Addr} {H₁ : Hp} (e : Ext G₁ μ₁ H₁ G μ H) {a : Addr} {o : HO} (h : H₁ a = none) : Ext G₁ μ₁ H₁ G μ (upd H a o) :=
  ⟨fun b v hb q => by
    have : b ≠ a := fun z => by subst z; rw [h] at q; cases q
    rw [upd_ne this]; exact e.keep b v hb q, fun b q => by
    by_cases z : b = a
    · subst z; exact h
    · rw [upd_ne z] at q; exact e.dom b q, e.g, e.gn, e.m⟩
theorem lst_ne_tup {xs : List V} : ∀ ys, HO.lst xs ≠ .tup ys := fun _ z => by cases z
/-- a fresh object stays apart -/
theorem Ext.apart (e : Ext G μ H G' μ' H') {a : Addr} {u : HO} (h : H a = some u) (hm : a ∉ μ) (hg : ¬ G a) : a ∉ μ' ∧ ¬ G' a ∧ H' a = some u := by
  refine ⟨fun z => ?_, fun z => ?_, e.keep a u hm h⟩
  · obtain ⟨ν, e1, e2⟩ := e.m
    rw [e1] at z
    rcases List.mem_append.mp z with q | q
    · exact hm q
    · rw [e2 a q] at h; cases h
  · rcases e.gn a z with q | q
    · exact hg q
    · rw [q] at h; cases h
theorem wipe_set (σ : L2.St) (i : Nat) : ∀ l : List Nat, L2.wipe (σ.set i none) l = (L2.wipe σ l).set i none
  | [] => rfl
  | b :: l => by
    show (L2.wipe (σ.set i none) l).set b none = ((L2.wipe σ l).set b none).set i none
    rw [wipe_set σ i l]
    by_cases e : i = b
    · subst e; rfl
    · rw [List.set_comm _ _ e]
theorem wipe_wipe (σ : L2.St) : ∀ l : List Nat, L2.wipe (L2.wipe σ l) l = L2.wipe σ l
  | [] => rfl
  | b :: l => by
    show (L2.wipe ((L2.wipe σ l).set b none) l).set b none = (L2.wipe σ l).set b none
    rw [wipe_set, wipe_wipe σ l, List.set_set]
theorem ownN_snd (N : List Str) (own : List Nat) : (ownN N own).map (·.2) = own := by
  unfold ownN
  rw [List.map_map]
  simp [Function.comp_def]
theorem drop_at {α : Type} {xs : List α} {i : Nat} {x : α} (h : xs[i]? = some x) : xs.drop i = x :: xs.drop (i + 1) := by
  obtain ⟨hi, e⟩ := List.getElem?_eq_some_iff.mp h
  rw [List.drop_eq_getElem_cons hi, e]
end

section
variable {M : Nms} {T : Tab} {k : Nat} {N : List Str} {sc : Scope} {top : Str → Bool} {X : Cx} {F : Cl}
/-- one turn of a comprehension, behind its target: the test, the element, the list at A one longer -/
theorem turn_C {K : PySem.W.Frag} {n : Nat} {ifs : CTs} {elt : CE} {G : Addr → Prop} {μ : List Addr} {σ : L2.St} {H : Hp} {env : MEnv} {s s' : Sto} {zs : List D} {rest : Sto → Rs (List D)} {A : Addr} {acc : List D} {accV : List V} {Nx : Hp → Prop}
    (R : Rel K n G μ σ H env s) (hD : H A = some (.lst accV)) (hm : A ∉ μ) (hg : ¬ G A) (r : Vls K G μ H acc accV)
    (ev : ((evIfs F ifs env s).bind fun b s1 => if b then (if bor env elt then Rs.no else evE F elt env s1).bind fun y s2 => (rest s2).bind fun ys s3 => .ok (y :: ys) s3 else rest s1) = .ok zs s')
    (hz : acc.length + zs.length ≤ sizeLine)
    (nx : ∀ G' μ' H' s1 acc' accV' zs', Ext G μ H G' μ' (fun a => if a = A then H A else H' a) → Sk K G' μ' H' s1 → H' A = some (.lst accV') → A ∉ μ' → ¬ G' A → Vls K G' μ' H' acc' accV' → rest s1 = .ok zs' s' → acc' ++ zs' = acc ++ zs → Nx H') :
    tRb K n (fun e s => evIfs F ifs e s) σ H fun b H3 => if b = true then tEv F K n elt σ H3 fun y H4 => ∃ acc, H4 A = some (.lst acc) ∧ acc.length < sizeLine ∧ Nx (upd H4 A (.lst (acc ++ [y]))) else Nx H3 := by
  obtain ⟨b, s1, ev1, ev⟩ := Rs.bind_eq_ok ev
  refine ⟨G, μ, env, s, b, s1, R, ev1, fun G1 μ1 H1 x1 S1 => ?_⟩
  obtain ⟨a1, a2, a3⟩ := x1.apart hD hm hg
  have same : ∀ H' : Hp, (∀ a, a ≠ A → True) → True := fun _ _ => trivial
  cases b with
  | false =>
    simp only [Bool.false_eq_true, if_false] at ev ⊢
    refine nx G1 μ1 H1 s1 acc accV zs ?_ S1 a3 a1 a2 (r.mono (x1.stay R.sk)) ev rfl
    have e : (fun a => if a = A then H A else H1 a) = H1 := by
      funext a
      by_cases z : a = A
      · rw [if_pos z, z, a3, hD]
      · rw [if_neg z]
    rw [e]; exact x1
  | true =>
    simp only [if_true] at ev ⊢
    obtain ⟨y, s2, ev2, ev⟩ := Rs.bind_eq_ok ev
    obtain ⟨ys, s3, ev3, ev⟩ := Rs.bind_eq_ok ev
    cases ev
    split at ev2
    · cases ev2
    · rename_i hb
      refine ⟨G1, μ1, env, s1, y, s2, R.ext x1 S1, ev2, fun v G2 μ2 H2 x2 S2 p2 => ?_⟩
      obtain ⟨b1, b2, b3⟩ := x2.apart a3 a1 a2
      obtain ⟨G3, g1, g2, S3, rv, st⟩ := p2.absorb S2 (by simpa using hb)
      have x3 := x2.grow g1 g2
      obtain ⟨c1, c2, _⟩ := x3.apart a3 a1 a2
      have r3 := r.mono ((x1.trans x3).stay R.sk)
      refine ⟨accV, b3, ?_, nx G3 μ2 _ s2 (acc ++ [y]) (accV ++ [v]) ys ?_ (S3.own c1 c2 b3 lst_ne_tup) upd_same c1 c2 ?_ ev3 (by simp)⟩
      · rw [← r.length]
        simp only [List.length_cons] at hz
        omega
      · have e : (fun a => if a = A then H A else upd H2 A (.lst (accV ++ [v])) a) = H2 := by
          funext a
          by_cases z : a = A
          · rw [if_pos z, z, b3, hD]
          · rw [if_neg z, upd_ne z]
        rw [e]; exact x1.trans x3
      · exact (r3.append (.cons rv .nil)).mono (.own c2 b3 lst_ne_tup)

theorem ext_cut {G G' G1 : Addr → Prop} {μ μ' μ1 : List Addr} {H H' H1 : Hp} {A : Addr} (hA : H A = none) (e : Ext G μ H G1 μ1 H1) (e' : Ext G1 μ1 H1 G' μ' (fun a => if a = A then H1 A else H' a)) (h' : H' A ≠ none) : Ext G μ H G' μ' H' := by
  have x := e.trans e'
  refine ⟨fun a o ha h => ?_, fun a h => ?_, x.g, x.gn, x.m⟩
  · have := x.keep a o ha h
    have z : a ≠ A := fun z => by subst z; rw [hA] at h; cases h
    simpa [z] using this
  · by_cases z : a = A
    · subst z; exact hA
    · exact x.dom a (by simpa [z] using h)

theorem comp_read {K : PySem.W.Frag} {n : Nat} {tgt : Tgt} {ci : CI} {ifs : CTs} {elt : CE} {own : List Nat} (hT : tgIn tgt own = true) {σ : L2.St} {H : Hp} {Q : VK} (h : tEv F K n (.comp tgt ci ifs elt own) σ H Q) :
    tLc (tEvI F K n ci) (gT K tgt) (tRb K n (fun e s => evIfs F ifs e s)) (tEv F K n elt) own σ H Q := by
  obtain ⟨G, μ, env, s, d, s', R, ev, q⟩ := h
  simp only [evE] at ev
  obtain ⟨xs, s1, ev1, ev⟩ := Rs.bind_eq_ok ev
  obtain ⟨ys, s2, ev2, ev⟩ := Rs.bind_eq_ok ev
  have ev2 := Rs.still_eq_ok ev2
  split at ev
  · rename_i hz
    cases ev
    refine ⟨G, μ, env, s, xs, s1, R, ev1, fun J A G1 μ1 H1 x1 S1 hA hJ D hD => ?_⟩
    have hz := lenOk_le hz
    refine ⟨fun i m H2 => ∃ G2 μ2 st acc accV zs, m = xs.length - i ∧ i ≤ xs.length ∧ Ext G1 μ1 H1 G2 μ2 H2 ∧ Sk K G2 μ2 H2 st ∧ H2 D = some (.lst accV) ∧ D ∉ μ2 ∧ ¬ G2 D ∧ Vls K G2 μ2 H2 acc accV ∧
      goC (fun x => bindT tgt x (wipeE env own)) (fun e s => evIfs F ifs e s) (fun e s => if bor e elt then .no else evE F elt e s) (xs.drop i) st = .ok zs s' ∧ acc ++ zs = ys,
      ⟨_, G1, μ1, s1, [], [], ys, rfl, Nat.zero_le _, .laid hD, S1.laid hD, upd_same, (S1.free hD).1, (S1.free hD).2, .nil, ev2, rfl⟩, ?_⟩
    rintro i m H2 ⟨G2, μ2, st, acc, accV, zs, rfl, hi, x2, S2, h1, h2, h3, r, ev3, e3⟩
    have hAs : ∀ a, A a → H2 a = H1 a := fun a ha => by
      obtain ⟨q1, q2, _⟩ := hA a ha
      cases hh : H1 a with
      | none => exact absurd hh q1
      | some o => exact x2.keep a o q2 hh
    obtain ⟨hstop, hgo⟩ := hJ G2 μ2 H2 st S2 hAs (x2.stay S1) i
    by_cases hlt : i < xs.length
    · have hx : xs[i]? = some xs[i] := List.getElem?_eq_getElem hlt
      obtain ⟨g1, g2⟩ := hgo _ hx
      refine .inr ⟨g1, fun H' => ∃ G2 μ2 st acc accV zs, Ext G1 μ1 H1 G2 μ2 H' ∧ Sk K G2 μ2 H' st ∧ H' D = some (.lst accV) ∧ D ∉ μ2 ∧ ¬ G2 D ∧ Vls K G2 μ2 H' acc accV ∧
        goC (fun x => bindT tgt x (wipeE env own)) (fun e s => evIfs F ifs e s) (fun e s => if bor e elt then .no else evE F elt e s) (xs.drop (i + 1)) st = .ok zs s' ∧ acc ++ zs = ys, fun H' ⟨G3, μ3, st3, acc3, accV3, zs3, k1, k2, k3, k4, k5, k6, k7, k8⟩ =>
        ⟨xs.length - (i + 1), by omega, G3, μ3, st3, acc3, accV3, zs3, rfl, hlt, k1, k2, k3, k4, k5, k6, k7, k8⟩, fun v H3 hy => ?_⟩
      obtain ⟨x3, S3, hv⟩ := g2 v H3 hy
      rw [drop_at hx] at ev3
      simp only [goC] at ev3
      split at ev3
      · cases ev3
      · rename_i env1 hbd
        have R3 : Rel K n G2 μ2 (L2.wipe σ own) H3 (wipeE env own) st := (R.wipe own).ext ((x1.trans x2).trans x3) S3
        refine gT_ok tgt _ v _ _ env1 _ R3 hv hbd fun σ2 R4 hw _ => ⟨by rw [hw own hT, wipe_wipe], ?_⟩
        obtain ⟨b1, b2, b3⟩ := x3.apart h1 h2 h3
        refine turn_C R4 b3 h2 h3 (r.mono (x3.stay S2)) ev3 (by rw [← List.length_append, e3]; exact hz) fun G' μ' H' s4 acc' accV' zs' y1 y2 y3 y4 y5 y6 y7 y8 => ?_
        exact ⟨G', μ', s4, acc', accV', zs', ext_cut hD (x2.trans x3) y1 (by rw [y3]; simp), y2, y3, y4, y5, y6, y7, by rw [y8, e3]⟩
    · have : i = xs.length := by omega
      subst this
      rw [List.drop_length] at ev3
      simp only [goC] at ev3
      cases ev3
      refine .inl ⟨hstop (Nat.le_refl _), ?_⟩
      rw [List.append_nil] at e3
      subst e3
      exact q _ G2 μ2 H2 (x1.trans x2) S2 (.of_new rfl (.inr ⟨D, rfl, h2, h3, x1.dom D hD, .lst h1 r⟩))
  · cases ev
theorem r_comp (C : Cxt M T k N sc top X) {tgt : Tgt} {ci : CI} {ifs : CTs} {elt : CE} {own : List Nat} {tg iter x : Expr} {fs : List Expr} {scope : Scope} {pos : Pos} (hT : tgIn tgt own = true) (hb : blkC N sc scope (ownN N own) = true)
    (hfold : ∀ x, foldedSetIterable iter X.env x = pure x) (hI : PI X tg iter (tEvI F X.K X.N.length ci))
    (hg : ∀ (s : Shared) (H : Hp) (C : Addr) (cl : List (Str × Addr)) (fp : List Addr), PG (X.blk s H scope (compEnvC scope cl C X.env) fp) tg (gT X.K tgt))
    (ht : ∀ (s : Shared) (H : Hp) (C : Addr) (cl : List (Str × Addr)) (fp : List Addr), PTs (X.blk s H scope (compEnvC scope cl C X.env) fp) fs (tRb X.K X.N.length (fun e s => evIfs F ifs e s)))
    (he : ∀ (s : Shared) (H : Hp) (C : Addr) (cl : List (Str × Addr)) (fp : List Addr), PE (X.blk s H scope (compEnvC scope cl C X.env) fp) x (tEv F X.K X.N.length elt)) :
    PE X (.ListComp x [⟨tg, iter, fs, 0⟩] scope pos) (tEv F X.K X.N.length (.comp tgt ci ifs elt own)) := by
  exact (pe_lc (own := ownN N own) C.calm (by rw [C.nN]; exact C.nd) hI (blkOk_by (by rw [C.nN, C.sc]; exact hb)) hg ht he hfold).weak fun σ H Q h => by rw [ownN_snd]; exact comp_read hT h
end
end Mi
/-! M12: comprehensions of two fors; all expressions. -/
namespace Mi
open PySem PySem.Spec PyProof.Rows L2

section
variable {M : Nms} {T : Tab} {k : Nat} {N : List Str} {sc : Scope} {top : Str → Bool} {X : Cx} {F : Cl}
theorem comp2_read {K : PySem.W.Frag} {n : Nat} {tgt tgt2 : Tgt} {ci ci2 : CI} {ifs : CTs} {elt : CE} {own own2 : List Nat} (hT : tgIn tgt own = true) (hT2 : tgIn tgt2 own2 = true) {σ : L2.St} {H : Hp} {Q : VK} (h : tEv F K n (.comp2 tgt ci tgt2 ci2 ifs elt own own2) σ H Q) :
    tLc2 (tEvI F K n ci) (gT K tgt) tYes (tEvI F K n ci2) (gT K tgt2) (tRb K n (fun e s => evIfs F ifs e s)) (tEv F K n elt) own own2 σ H Q := by
  obtain ⟨G, μ, env, s, d, s', R, ev, q⟩ := h
  simp only [evE] at ev
  obtain ⟨xs, s1, ev1, ev⟩ := Rs.bind_eq_ok ev
  obtain ⟨ys, s2, ev2, ev⟩ := Rs.bind_eq_ok ev
  have ev2 := Rs.still_eq_ok ev2
  split at ev
  · rename_i hz
    cases ev
    refine ⟨G, μ, env, s, xs, s1, R, ev1, fun J A G1 μ1 H1 x1 S1 hA hJ D hD => ?_⟩
    have hz := lenOk_le hz
    refine ⟨fun i m H2 => ∃ G2 μ2 st acc accV zs, m = xs.length - i ∧ i ≤ xs.length ∧ Ext G1 μ1 H1 G2 μ2 H2 ∧ Sk K G2 μ2 H2 st ∧ H2 D = some (.lst accV) ∧ D ∉ μ2 ∧ ¬ G2 D ∧ Vls K G2 μ2 H2 acc accV ∧
      goC2 (fun x => bindT tgt x (wipeE env own)) (fun e s => (evI F ci2 e s).bind fun xs2 s2 => goC (fun x => bindT tgt2 x (wipeE e own2)) (fun e s => evIfs F ifs e s) (fun e s => if bor e elt then .no else evE F elt e s) xs2 s2) (xs.drop i) st = .ok zs s' ∧ acc ++ zs = ys,
      ⟨_, G1, μ1, s1, [], [], ys, rfl, Nat.zero_le _, .laid hD, S1.laid hD, upd_same, (S1.free hD).1, (S1.free hD).2, .nil, ev2, rfl⟩, ?_⟩
    rintro i m H2 ⟨G2, μ2, st, acc, accV, zs, rfl, hi, x2, S2, h1, h2, h3, r, ev3, e3⟩
    have hAs : ∀ a, A a → H2 a = H1 a := fun a ha => by
      obtain ⟨q1, q2, _⟩ := hA a ha
      cases hh : H1 a with
      | none => exact absurd hh q1
      | some o => exact x2.keep a o q2 hh
    obtain ⟨hstop, hgo⟩ := hJ G2 μ2 H2 st S2 hAs (x2.stay S1) i
    by_cases hlt : i < xs.length
    · have hx : xs[i]? = some xs[i] := List.getElem?_eq_getElem hlt
      obtain ⟨g1, g2⟩ := hgo _ hx
      refine .inr ⟨g1, fun H' => ∃ G2 μ2 st acc accV zs, Ext G1 μ1 H1 G2 μ2 H' ∧ Sk K G2 μ2 H' st ∧ H' D = some (.lst accV) ∧ D ∉ μ2 ∧ ¬ G2 D ∧ Vls K G2 μ2 H' acc accV ∧
        goC2 (fun x => bindT tgt x (wipeE env own)) (fun e s => (evI F ci2 e s).bind fun xs2 s2 => goC (fun x => bindT tgt2 x (wipeE e own2)) (fun e s => evIfs F ifs e s) (fun e s => if bor e elt then .no else evE F elt e s) xs2 s2) (xs.drop (i + 1)) st = .ok zs s' ∧ acc ++ zs = ys, fun H' ⟨G3, μ3, st3, acc3, accV3, zs3, k1, k2, k3, k4, k5, k6, k7, k8⟩ =>
        ⟨xs.length - (i + 1), by omega, G3, μ3, st3, acc3, accV3, zs3, rfl, hlt, k1, k2, k3, k4, k5, k6, k7, k8⟩, fun v H3 hy => ?_⟩
      obtain ⟨x3, S3, hv⟩ := g2 v H3 hy
      rw [drop_at hx] at ev3
      simp only [goC2] at ev3
      split at ev3
      · cases ev3
      · rename_i env1 hbd
        obtain ⟨is, st1, ev4, ev5⟩ := Rs.bind_eq_ok ev3
        obtain ⟨xs2, st2, ev6, ev7⟩ := Rs.bind_eq_ok ev4
        obtain ⟨zs1, st3, ev8, ev9⟩ := Rs.bind_eq_ok ev5
        cases ev9
        have R3 : Rel K n G2 μ2 (L2.wipe σ own) H3 (wipeE env own) st := (R.wipe own).ext ((x1.trans x2).trans x3) S3
        refine gT_ok tgt _ v _ _ env1 _ R3 hv hbd fun σ2 R4 hw ho => ⟨by rw [hw own hT, wipe_wipe], ?_⟩
        unfold tYes
        simp only [if_true]
        obtain ⟨b1, b2, b3⟩ := x3.apart h1 h2 h3
        -- the inner for
        refine ⟨G2, μ2, env1, st, xs2, st2, R4, ev6, fun J1 A1 G4 μ4 H4 x4 S4 hA1 hJ1 => ?_⟩
        obtain ⟨c1, c2, c3⟩ := x4.apart b3 h2 h3
        have hDA : ¬ A1 D := fun ha => by
          obtain ⟨_, _, hs⟩ := hA1 D ha
          rcases hs with g | g | ⟨j, _, hj, hoj⟩
          · exact c2 g
          · rw [b3] at g; cases g
          · obtain ⟨dd, hdd, hmut⟩ := hoj
            have hoj : ownd env1 j = true := by unfold ownd; rw [hdd]
            obtain ⟨o1, o2⟩ := ho j hoj
            have hoj2 : ownd (wipeE env own) j = true := by
              unfold ownd at hoj ⊢
              rwa [o1] at hoj
            obtain ⟨o3, o4⟩ := wipe_own (σ := σ) hoj2
            have hj2 : σ[j]? = some (some (.ref D)) := o4.symm.trans (o2.symm.trans hj)
            have hd : env[j]? = some (some (true, dd)) := o3.symm.trans (o1.symm.trans hdd)
            obtain ⟨w, w1, w2⟩ := R.slot j true dd hd
            rw [hj2] at w1
            cases w1
            have hHD : H D = none := x1.dom D hD
            rcases w2 with ⟨_, w3⟩ | ⟨_, a, e, _, _, w2⟩
            · have := w3 rfl
              rw [hmut] at this
              cases this
            · cases e; exact w2.there hHD
        refine ⟨fun j m H5 => ∃ G5 μ5 st5 acc5 accV5 zs5, m = xs2.length - j ∧ j ≤ xs2.length ∧ Ext G4 μ4 H4 G5 μ5 (fun a => if a = D then H4 D else H5 a) ∧ Sk K G5 μ5 H5 st5 ∧ H5 D = some (.lst accV5) ∧ D ∉ μ5 ∧ ¬ G5 D ∧ Vls K G5 μ5 H5 acc5 accV5 ∧
          goC (fun x => bindT tgt2 x (wipeE env1 own2)) (fun e s => evIfs F ifs e s) (fun e s => if bor e elt then .no else evE F elt e s) (xs2.drop j) st5 = .ok zs5 st1 ∧ acc5 ++ zs5 = acc ++ is,
          ⟨_, G4, μ4, st2, acc, accV, is, rfl, Nat.zero_le _, ?_, S4, c3, c1, c2, (r.mono (x3.stay S2)).mono (x4.stay S3), ev7, rfl⟩, ?_⟩
        · have e : (fun a => if a = D then H4 D else H4 a) = H4 := by
            funext a
            by_cases z : a = D
            · rw [if_pos z, z]
            · rw [if_neg z]
          rw [e]; exact .refl
        rintro j m5 H5 ⟨G5, μ5, st5, acc5, accV5, zs5, rfl, hj, x5, S5, f1, f2, f3, r5, ev10, e10⟩
        have st45 : Stay G4 μ4 H4 G5 μ5 H5 := by
          have s1 := x5.stay S4
          refine ⟨fun a o g hh => ?_, fun a us hh => ?_, fun a hh => ?_, s1.g, s1.m⟩
          · have z : a ≠ D := fun z => c2 (z ▸ g)
            have := s1.keep a o g hh
            simpa [z] using this
          · have z : a ≠ D := fun z => by subst z; rw [c3] at hh; cases hh
            have := s1.tup a us hh
            simpa [z] using this
          · by_cases z : a = D
            · subst z; rw [f1] at hh; cases hh
            · exact s1.dom a (by simpa [z] using hh)
        have hAs1 : ∀ a, A1 a → H5 a = H4 a := fun a ha => by
          obtain ⟨q1, q2, _⟩ := hA1 a ha
          have z : a ≠ D := fun z => hDA (z ▸ ha)
          cases hh : H4 a with
          | none => exact absurd hh q1
          | some o =>
            have := x5.keep a o q2 hh
            simpa [z] using this
        obtain ⟨hstop1, hgo1⟩ := hJ1 G5 μ5 H5 st5 S5 hAs1 st45 j
        by_cases hlt1 : j < xs2.length
        · have hx1 : xs2[j]? = some xs2[j] := List.getElem?_eq_getElem hlt1
          obtain ⟨g3, g4⟩ := hgo1 _ hx1
          refine .inr ⟨g3, fun H' => ∃ G5 μ5 st5 acc5 accV5 zs5, Ext G4 μ4 H4 G5 μ5 (fun a => if a = D then H4 D else H' a) ∧ Sk K G5 μ5 H' st5 ∧ H' D = some (.lst accV5) ∧ D ∉ μ5 ∧ ¬ G5 D ∧ Vls K G5 μ5 H' acc5 accV5 ∧
            goC (fun x => bindT tgt2 x (wipeE env1 own2)) (fun e s => evIfs F ifs e s) (fun e s => if bor e elt then .no else evE F elt e s) (xs2.drop (j + 1)) st5 = .ok zs5 st1 ∧ acc5 ++ zs5 = acc ++ is,
            fun H' ⟨G6, μ6, st6, acc6, accV6, zs6, k1, k2, k3, k4, k5, k6, k7, k8⟩ => ⟨xs2.length - (j + 1), by omega, G6, μ6, st6, acc6, accV6, zs6, rfl, hlt1, k1, k2, k3, k4, k5, k6, k7, k8⟩, fun v1 H6 hy1 => ?_⟩
          obtain ⟨x6, S6, hv1⟩ := g4 v1 H6 hy1
          rw [drop_at hx1] at ev10
          simp only [goC] at ev10
          split at ev10
          · cases ev10
          · rename_i env2 hbd1
            -- the frame at the inner turn
            have R4w : Rel K n G5 μ5 (L2.wipe σ2 own2) H6 (wipeE env1 own2) st5 := by
              have base := (R4.wipe own2)
              have hx46 : ∀ (i : Nat) o dd, (wipeE env1 own2)[i]? = some (some (o, dd)) → ∃ w, (L2.wipe σ2 own2)[i]? = some (some w) ∧ Ow K G5 μ5 H6 o dd w := by
                intro i o dd hd
                obtain ⟨w, w1, w2⟩ := base.slot i o dd hd
                refine ⟨w, w1, ?_⟩
                have w3 : Ow K G4 μ4 H4 o dd w := w2.ext R4.sk x4
                rcases w3 with ⟨w3, w4⟩ | ⟨w0, a, rfl, w5, w6, w7⟩
                · exact .inl ⟨(w3.mono st45).mono (x6.stay S5), w4⟩
                · -- an owned list: it is not the new one
                  have hne : a ≠ D := fun z => by
                    subst z
                    subst w0
                    have hown : ownd (wipeE env1 own2) i = true := by unfold ownd; rw [hd]
                    obtain ⟨o3, o4⟩ := wipe_own (σ := σ2) hown
                    have hown1 : ownd env1 i = true := by unfold ownd at hown ⊢; rwa [o3] at hown
                    obtain ⟨o5, o6⟩ := ho i hown1
                    have hown2 : ownd (wipeE env own) i = true := by unfold ownd at hown1 ⊢; rwa [o5] at hown1
                    obtain ⟨o7, o8⟩ := wipe_own (σ := σ) hown2
                    have hσ : σ[i]? = some (some (.ref a)) := o8.symm.trans (o6.symm.trans (o4.symm.trans w1))
                    have hown3 : ownd env i = true := by unfold ownd at hown2 ⊢; rwa [o7] at hown2
                    have hdd : env[i]? = some (some (true, dd)) := o7.symm.trans (o5.symm.trans (o3.symm.trans hd))
                    obtain ⟨w', q1, q2⟩ := R.slot i true dd hdd
                    rw [hσ] at q1
                    cases q1
                    have hHD : H a = none := x1.dom a hD
                    rcases q2 with ⟨q2, q3⟩ | ⟨_, a', e, _, _, q2⟩
                    · have := w7.mut
                      rw [q3 rfl] at this
                      cases this
                    · cases e; exact q2.there hHD
                  have k5 : ∀ u, H4 a = some u → H5 a = some u := fun u hu => by
                    have := x5.keep a u w5 hu
                    simpa [hne] using this
                  obtain ⟨ν, m1, m2⟩ := x5.m
                  have p1 : a ∉ μ5 := fun hm => by
                    rw [m1] at hm
                    rcases List.mem_append.mp hm with z | z
                    · exact w5 z
                    · exact w7.there (m2 a z)
                  have p2 : ¬ G5 a := fun hg => by
                    rcases x5.gn a hg with z | z
                    · exact w6 z
                    · exact w7.there z
                  obtain ⟨p3, p4, p5⟩ := (w7.mono st45 k5).ext S5 x6 p1 p2
                  exact .inr ⟨w0, a, rfl, p3, p4, p5⟩
              exact ⟨base.len, base.lenσ, S6, hx46, base.sep⟩
            refine gT_ok tgt2 _ v1 _ _ env2 _ R4w hv1 hbd1 fun σ3 R7 hw1 _ => ⟨by rw [hw1 own2 hT2, wipe_wipe], ?_⟩
            obtain ⟨d1, d2, d3⟩ := x6.apart f1 f2 f3
            have hlen : acc5.length + zs5.length ≤ sizeLine := by
              have e1 := congrArg List.length e10
              have e2 := congrArg List.length e3
              simp only [List.length_append] at e1 e2
              omega
            refine turn_C R7 d3 f2 f3 (r5.mono (x6.stay S5)) ev10 hlen fun G' μ' H' s4 acc' accV' zs' y1 y2 y3 y4 y5 y6 y7 y8 => ?_
            refine ⟨G', μ', s4, acc', accV', zs', ?_, y2, y3, y4, y5, y6, y7, by rw [y8, e10]⟩
            -- the heaps but for the new list
            have xa := x5
            refine ⟨fun a o ha hh => ?_, fun a hh => ?_, fun a g => y1.g a (x5.g a g), fun a g => ?_, ?_⟩
            · by_cases z : a = D
              · rw [if_pos z]; rw [z] at hh; exact hh
              · rw [if_neg z]
                have q1 := x5.keep a o ha hh
                simp only [if_neg z] at q1
                obtain ⟨ν, m1, m2⟩ := x5.m
                have hm5 : a ∉ μ5 := fun hm => by
                  rw [m1] at hm
                  rcases List.mem_append.mp hm with w | w
                  · exact ha w
                  · rw [m2 a w] at hh; cases hh
                have q2 := x6.keep a o hm5 q1
                have q3 := y1.keep a o hm5 q2
                simpa [z] using q3
            · by_cases z : a = D
              · rw [if_pos z] at hh; rw [z]; exact hh
              · rw [if_neg z] at hh
                have q1 := y1.dom a (by simpa [z] using hh)
                have q2 := x6.dom a q1
                exact x5.dom a (by simpa [z] using q2)
            · rcases y1.gn a g with w | w
              · exact x5.gn a w
              · by_cases z : a = D
                · subst z; exact absurd w (by rw [d3]; simp)
                · exact .inr (x5.dom a (by have := x6.dom a w; simpa [z] using this))
            · obtain ⟨ν, m1, m2⟩ := x5.m
              obtain ⟨ν', m3, m4⟩ := y1.m
              refine ⟨ν ++ ν', by rw [m3, m1, List.append_assoc], fun a ha => ?_⟩
              rcases List.mem_append.mp ha with w | w
              · exact m2 a w
              · have q1 := x6.dom a (m4 a w)
                by_cases z : a = D
                · subst z; rw [f1] at q1; cases q1
                · exact x5.dom a (by simpa [z] using q1)
        · have : j = xs2.length := by omega
          subst this
          rw [List.drop_length] at ev10
          simp only [goC] at ev10
          cases ev10
          refine .inl ⟨hstop1 (Nat.le_refl _), ?_⟩
          rw [List.append_nil] at e10
          have xe : Ext G1 μ1 H1 G5 μ5 H5 := ext_cut hD ((x2.trans x3).trans x4) x5 (by rw [f1]; simp)
          exact ⟨G5, μ5, st1, acc5, accV5, zs1, xe, S5, f1, f2, f3, r5, ev8, by rw [e10, List.append_assoc]; exact e3⟩
    · have : i = xs.length := by omega
      subst this
      rw [List.drop_length] at ev3
      simp only [goC2] at ev3
      cases ev3
      refine .inl ⟨hstop (Nat.le_refl _), ?_⟩
      rw [List.append_nil] at e3
      subst e3
      exact q _ G2 μ2 H2 (x1.trans x2) S2 (.of_new rfl (.inr ⟨D, rfl, h2, h3, x1.dom D hD, .lst h1 r⟩))
  · cases ev
theorem r_comp2 (C : Cxt M T k N sc top X) {tgt tgt2 : Tgt} {ci ci2 : CI} {ifs : CTs} {elt : CE} {own own2 : List Nat} {tg iter tg2 iter2 x : Expr} {fs : List Expr} {scope : Scope} {pos : Pos} (hT : tgIn tgt own = true) (hT2 : tgIn tgt2 own2 = true) (hsub : ∀ i ∈ own2, i ∈ own)
    (hb : blkC N sc scope (ownN N own) = true) (hfold : ∀ x, foldedSetIterable iter X.env x = pure x) (hfold2 : ∀ env x, foldedSetIterable iter2 env x = pure x) (hI : PI X tg iter (tEvI F X.K X.N.length ci))
    (hg : ∀ (s : Shared) (H : Hp) (C : Addr) (cl : List (Str × Addr)) (fp : List Addr), PG (X.blk s H scope (compEnvC scope cl C X.env) fp) tg (gT X.K tgt))
    (hI2 : ∀ (s : Shared) (H : Hp) (C : Addr) (cl : List (Str × Addr)) (fp : List Addr), PI (X.blk s H scope (compEnvC scope cl C X.env) fp) tg2 iter2 (tEvI F X.K X.N.length ci2))
    (hg2 : ∀ (s : Shared) (H : Hp) (C : Addr) (cl : List (Str × Addr)) (fp : List Addr), PG (X.blk s H scope (compEnvC scope cl C X.env) fp) tg2 (gT X.K tgt2))
    (ht : ∀ (s : Shared) (H : Hp) (C : Addr) (cl : List (Str × Addr)) (fp : List Addr), PTs (X.blk s H scope (compEnvC scope cl C X.env) fp) fs (tRb X.K X.N.length (fun e s => evIfs F ifs e s)))
    (he : ∀ (s : Shared) (H : Hp) (C : Addr) (cl : List (Str × Addr)) (fp : List Addr), PE (X.blk s H scope (compEnvC scope cl C X.env) fp) x (tEv F X.K X.N.length elt)) :
    PE X (.ListComp x [⟨tg, iter, [], 0⟩, ⟨tg2, iter2, fs, 0⟩] scope pos) (tEv F X.K X.N.length (.comp2 tgt ci tgt2 ci2 ifs elt own own2)) := by
  exact (pe_lc2 (own := ownN N own) (vs1 := own2) C.calm (by rw [C.nN]; exact C.nd) hI (blkOk_by (by rw [C.nN, C.sc]; exact hb)) (by rw [ownN_snd]; exact hsub) hg (fun _ _ _ _ _ => pts_nil) hI2 hg2 ht he hfold hfold2).weak fun σ H Q h => by rw [ownN_snd]; exact comp2_read hT hT2 h
end
end Mi
/-! W4: a comprehension that fills an object of any kind: the core, once; dicts whose keys are flat or tuples. -/
namespace Mi
open PySem PySem.Spec PyProof.Rows L2

/-- what follows target and tests in a turn -/
abbrev Bd := Addr → PySem.Env → (Shared → Prop) → (Value → Shared → Prop) → Shared → Prop
/-- the text of the tests -/
def tests (ifs : List Expr) (en : PySem.Env) : Sem Bool := forIn ifs true fun c r => if r = true then do let ok ← isTrue c en (eval c en); pure (ForInStep.yield ok) else pure (ForInStep.yield r)
def Go1 (X : Cx) (tg : Expr) (ifs : List Expr) (bd : Bd) (it : Value) (D : Addr) (en : PySem.Env) (R : Result → Shared → Prop) (J : Nat → Shared → Prop) (n : Nat) (s : Shared) : Prop :=
  let Er : Value → Shared → Prop := notedBy (model X.prog X.w) X.A en fun e s' => R (.error e) s'
  wpAny (model X.prog X.w) X.A (pyNext it) (fun r s₁ => match r with
    | none => R (.ok .next) s₁
    | some v => wpAny (model X.prog X.w) X.A (letOwnedTupleGo tg it v) (fun _ s2 => wpAny (model X.prog X.w) X.A (assign tg en v) (fun _ s3 =>
        wpAny (model X.prog X.w) X.A (tests ifs en) (fun ok s4 => if ok = true then bd D en (fun s' => ∃ m, m < n ∧ J m s') Er s4 else ∃ m, m < n ∧ J m s4) Er s3) Er s2) Er s₁) Er s
/-- the kind of a comprehension: its text e, the making of its object o0, its loop and start -/
structure Cm (X : Cx) (e tg iter : Expr) (ifs : List Expr) (mk : Sem Value) (o0 : Addr → HO) (bd : Bd) : Prop where
  cls : clausesOf e = [⟨tg, iter, ifs, 0⟩]
  new : ∀ {pins : List (Addr × Obj)} {σ : L2.St} {H : Hp} {s : Shared} {Q : Value → Shared → Prop} {E : Value → Shared → Prop}, Inv X pins σ H s →
    (∀ s', Inv X pins σ (upd H s.heap.objs.size (o0 s.heap.objs.size)) s' → s'.heap.objs.size = s.heap.objs.size + 1 → (∀ b o, s.heap.get? b = some o → s'.heap.get? b = some o) → Q (.ref s.heap.objs.size) s') → wpAny (model X.prog X.w) X.A mk Q E s
  loop : ∀ {R : Result → Shared → Prop} {it : Value} {D : Addr} {en : PySem.Env} {s : Shared} (J : Nat → Shared → Prop), (∀ n s, J n s → Go1 X tg ifs bd it D en R J n s) → ∀ n, J n s → codeAny (model X.prog X.w) X.A (.compLoop e 0 it (.ref D) en) R s
  start : ∀ {R : Result → Shared → Prop} {it : Value} {D : Addr} {en : PySem.Env} {s : Shared}, codeAny (model X.prog X.w) X.A (.compLoop e 0 it (.ref D) en) R s →
    wpAny (model X.prog X.w) X.A (pyIter it) (fun it' s' => codeAny (model X.prog X.w) X.A (.compLoop e 0 it' (.ref D) en) R s') (notedBy (model X.prog X.w) X.A en fun x s' => R (.error x) s') s →
    codeAny (model X.prog X.w) X.A (.compStart e 0 it (.ref D) en) R s
/-- the reading of a comprehension, be its body's -/
abbrev Be := Addr → L2.St → Hp → (Hp → Prop) → Prop
def tCm (o0 : Addr → HO) (wi : TI) (g : TG) (tt : TT) (be : Be) (vs : List Nat) : TE := fun σ H Q => wi σ H fun J H1 => ∀ D, H1 D = none → ∃ W : Nat → Nat → Hp → Prop, (∃ m, W 0 m (upd H1 D (o0 D))) ∧ ∀ i m H, W i m H →
  (J.stop i H ∧ Q (.ref D) H) ∨ (J.go i H ∧ ∃ Nx : Hp → Prop, (∀ H', Nx H' → ∃ m', m' < m ∧ W (i + 1) m' H') ∧ ∀ x H', J.yld i H x H' →
    g x (L2.wipe σ vs) H' fun σ2 H2 => L2.wipe σ2 vs = L2.wipe σ vs ∧ tt σ2 H2 fun b H3 => if b = true then be D σ2 H3 Nx else Nx H3)
/-- the body does what its reading says -/
def BdOk (Y : Cx) (bd : Bd) (be : Be) : Prop := ∀ {pins : List (Addr × Obj)} {σ : L2.St} {H : Hp} {s : Shared} {D : Addr} {N : Hp → Prop} {E : Value → Shared → Prop}, Inv Y pins σ H s → be D σ H N → bd D Y.env (fun s' => ∃ H', Inv Y pins σ H' s' ∧ N H') E s
/-- a body is monotone -/
def BdUp (bd : Bd) : Prop := ∀ {D : Addr} {en : PySem.Env} {P P' : Shared → Prop} {E : Value → Shared → Prop} {s : Shared}, (∀ s', P s' → P' s') → bd D en P E s → bd D en P' E s

section
variable {X : Cx}
/-- where the turns stand: before the i-th, n is left -/
def At1 (Y : Cx) (own : List Nat) (σ : L2.St) (fp : List Addr) (tn : Nat → Heap → Prop) (W : Nat → Nat → Hp → Prop) (n : Nat) (s : Shared) : Prop :=
  ∃ i H, Inv Y [] (L2.wipe σ own) H s ∧ tn i s.heap ∧ (∀ b ∈ fp, H b = none) ∧ W i n H
theorem fps_of {s3 : Shared} {H3 : Hp} {scope : Scope} {ce : PySem.Env} {fp : List Addr} {σ : L2.St} {H : Hp} {s : Shared} (I : Inv (X.blk s3 H3 scope ce fp) [] σ H s) (n : ∀ b ∈ fp, H b = none) : ∀ b ∈ fp, FpOk (X.blk s3 H3 scope ce fp) [] H b := by
  intro b hb
  have h1 := I.ok.exf b hb
  refine ⟨n b hb, h1.1, I.ok.exfs b hb, .inl hb, h1.2, fun p hp => ?_⟩
  have hp' : p ∈ ([] : List (Addr × Obj)) := hp
  cases hp'
/-- a turn done: on to the next -/
theorem next_turn {s3 s7 s' : Shared} {H3 H' : Hp} {scope : Scope} {ce : PySem.Env} {fp : List Addr} {own : List Nat} {σ σ8 : L2.St} {tg : Expr} {J : It} {it : Addr} {tn : Nat → Heap → Prop} {W : Nat → Nat → Hp → Prop} {Nx : Hp → Prop} {i n : Nat}
    (T : Turn X.prog X.w X.K tg J fp it tn) (hn : ∀ H', Nx H' → ∃ m', m' < n ∧ W (i + 1) m' H') (hw : L2.wipe σ8 own = L2.wipe σ own) (t7 : tn (i + 1) s7.heap)
    (I : Inv (X.blk s3 H3 scope ce fp) ([] ++ pinsAt fp s7.heap) σ8 H' s') (x : Nx H') : ∃ m, m < n ∧ At1 (X.blk s3 H3 scope ce fp) own σ fp tn W m s' := by
  obtain ⟨m, lt, w⟩ := hn H' x
  have held : ∀ b ∈ fp, ∀ o, s7.heap.get? b = some o → s'.heap.get? b = some o ∧ H' b = none := by
    intro b hb o e
    have z := I.pin (b, o) (List.mem_append_right _ (List.mem_append_right _ (mem_pinsAt hb e)))
    exact ⟨z.1, z.2.1⟩
  have hlen : (L2.wipe σ own).length = σ8.length := (congrArg List.length hw).symm.trans (wipe_length ..)
  refine ⟨m, lt, i + 1, H', (I.unpinned (pins := [])).weak hlen ?_, T.keep _ _ _ t7 fun b hb o e => (held b hb o e).1, ?_, w⟩
  · intro j v e
    exact (wipe_some (hw ▸ e)).1
  · intro b hb
    obtain ⟨o, e, _⟩ := T.obj _ _ t7 b hb
    exact (held b hb o e).2
/-- the turns, one after another -/
theorem cm_turns {e tg iter : Expr} {ifs : List Expr} {mk : Sem Value} {o0 : Addr → HO} {bd : Bd} {be : Be} {g : TG} {tt : TT} {own : List Nat} {σ : L2.St} {s3 s : Shared} {H3 : Hp} {scope : Scope} {ce : PySem.Env} {fp : List Addr} {it D : Addr} {tn : Nat → Heap → Prop} {J : It} {W : Nat → Nat → Hp → Prop} {n : Nat} {R : Result → Shared → Prop} {Q : VK}
    (hc : X.calm = true) (C : Cm X e tg iter ifs mk o0 bd) (T : Turn X.prog X.w X.K tg J fp it tn) (up : BdUp bd)
    (pg : PG (X.blk s3 H3 scope ce fp) tg g) (pt : PTs (X.blk s3 H3 scope ce fp) ifs tt) (pb : BdOk (X.blk s3 H3 scope ce fp) bd be)
    (step : ∀ i m H, W i m H → (J.stop i H ∧ Q (.ref D) H) ∨ (J.go i H ∧ ∃ Nx : Hp → Prop, (∀ H', Nx H' → ∃ m', m' < m ∧ W (i + 1) m' H') ∧ ∀ x H', J.yld i H x H' →
      g x (L2.wipe σ own) H' fun σ2 H2 => L2.wipe σ2 own = L2.wipe σ own ∧ tt σ2 H2 fun b H3 => if b = true then be D σ2 H3 Nx else Nx H3))
    (out : ∀ H s', Inv (X.blk s3 H3 scope ce fp) [] (L2.wipe σ own) H s' → (∀ b ∈ fp, H b = none) → Q (.ref D) H → R (.ok .next) s')
    (h : At1 (X.blk s3 H3 scope ce fp) own σ fp tn W n s) : codeAny (model X.prog X.w) X.A (.compLoop e 0 (.ref it) (.ref D) ce) R s := by
  refine C.loop (At1 (X.blk s3 H3 scope ce fp) own σ fp tn W) ?_ n h
  rintro n s5 ⟨i, H5, I5, t5, n5, w5⟩
  have f5 := fps_of I5 n5
  rcases step i n H5 w5 with ⟨fin, q5⟩ | ⟨go, Nx, hn, turn⟩
  · refine thnF (T.done (X.blk s3 H3 scope ce fp) rfl rfl rfl hc i [] s5 _ H5 _ I5 f5 t5 fin) ?_
    rintro r s6 ⟨rfl, I6⟩
    exact out H5 s6 I6 n5 q5
  · refine thnF (T.item (X.blk s3 H3 scope ce fp) rfl rfl rfl hc i [] s5 _ H5 _ I5 f5 t5 go) ?_
    rintro r s6 ⟨u, rfl, h6⟩
    refine thnF h6 ?_
    rintro _ s7 ⟨x, H7, I7, r7, y7, t7, n7⟩
    refine thnF (pg.run _ s7 _ H7 x u _ (I7.pinned (fps_of I7 n7) (T.obj _ _ t7)) r7 (turn x H7 y7)) ?_
    rintro _ s8 ⟨σ8, H8, I8, w8, q8⟩
    refine thnF (pt.run _ s8 σ8 H8 _ I8 q8) ?_
    rintro b s9 ⟨H9, I9, q9⟩
    cases b
    · exact next_turn T hn w8 t7 I9 q9
    · exact up (fun s' ⟨H', I', x'⟩ => next_turn T hn w8 t7 I' x') (pb I9 q9)
/-- the whole, up to what is done with the object -/
theorem cm_core {e tg iter : Expr} {ifs : List Expr} {mk : Sem Value} {o0 : Addr → HO} {bd : Bd} {be : Be} {wi : TI} {g : TG} {tt : TT} {scope : Scope} {own : List (Str × Nat)} {pos : Pos} {use : Option (Value → Sem Unit)} {Qf : Value → Shared → Prop} {pins : List (Addr × Obj)} {σ : L2.St} {H : Hp} {s : Shared} {Q : VK}
    (hc : X.calm = true) (hN : X.N.Nodup) (C : Cm X e tg iter ifs mk o0 bd) (up : BdUp bd) (I : Inv X pins σ H s) (hi : PI X tg iter wi) (ok : BlkOk X.N X.env.scope scope own)
    (hg : ∀ (s : Shared) (H : Hp) (C : Addr) (cl : List (Str × Addr)) (fp : List Addr), PG (X.blk s H scope (compEnvC scope cl C X.env) fp) tg g)
    (ht : ∀ (s : Shared) (H : Hp) (C : Addr) (cl : List (Str × Addr)) (fp : List Addr), PTs (X.blk s H scope (compEnvC scope cl C X.env) fp) ifs tt)
    (hb : ∀ (s : Shared) (H : Hp) (C : Addr) (cl : List (Str × Addr)) (fp : List Addr), BdOk (X.blk s H scope (compEnvC scope cl C X.env) fp) bd be)
    (hs : ∀ x, foldedSetIterable iter X.env x = pure x) (h : tCm o0 wi g tt be (own.map (·.2)) σ H Q)
    (fin : ∀ D C s' m H', Inv X pins σ H' s' → Q (.ref D) H' → s'.heap.Ns C m → FpOk X pins H' C → compPost (model X.prog X.w) X.A X.xe use Qf (.ref D) C (.ok .next) s') :
    wpAny (model X.prog X.w) X.A (comprehension e scope X.env pos mk false (eval iter X.env) use) Qf X.xe s := by
  have cells : ∀ y ∈ scope.names, y.2 = .free → ∃ c, X.env.cells.lookup y.1 = some c := by
    intro y hy e
    exact I.ok.has _ ((ok.free y hy e).elim .inl .inr)
  refine wpAny_comprehension_free C.cls hs (closure_ok cells) ok.kind (fun y hy e => e ▸ ok.uniq y hy) (thn (hi.run pins s σ H _ I h) ?_)
  intro xv s1 h1
  refine thn h1 ?_
  rintro itv s2 ⟨it, fp, tn, J, H2, rfl, I2, T, t2, f2, q⟩
  refine C.new I2 fun s3 I3 z3 k3 => newEnv_comp ?_
  obtain ⟨W, ⟨m0, w0⟩, step⟩ := q s2.heap.objs.size (I2.hok.fresh (Nat.le_refl _))
  generalize hD : s2.heap.objs.size = D at I3 z3 w0 step ⊢
  -- the iterator's own objects stand apart from the new one and from the block's frame
  have f3 : ∀ b ∈ fp, FpOk X pins (upd H2 D (o0 D)) b ∧ b < s3.heap.objs.size := by
    intro b hb
    obtain ⟨o, e, _⟩ := T.obj _ _ t2 b hb
    have lt : b < D := hD ▸ Heap.lt_size e
    obtain ⟨p1, p2⟩ := f2 b hb
    exact ⟨⟨(upd_ne (Nat.ne_of_lt lt)).trans p1, p2⟩, by rw [z3]; exact Nat.lt_succ_of_lt lt⟩
  have I4 := block_start I3 ok hN f3
  have t4 : tn 0 (pushCells (s3.heap.push { cls := .type "dict", data := .dict #[] }) scope.names) := T.keep _ _ _ t2 fun b _ o e => pushCells_keeps _ _ _ _ (Heap.get?_push_of_some _ (k3 b o e))
  have lp := cm_turns (R := compPost (model X.prog X.w) X.A X.xe use Qf (.ref D) s3.heap.objs.size) hc C T up (hg s3 (upd H2 D (o0 D)) _ _ fp) (ht s3 (upd H2 D (o0 D)) _ _ fp) (hb s3 (upd H2 D (o0 D)) _ _ fp) step (fun H' s' I' n' q' => by
    -- back in the def's own frame
    have J1 : Inv X pins σ H' s' := I3.call' (ch := fp) I'.os I'.base I'.hok I'.bare fun b hb => by
      obtain ⟨_, p1, p2, p3, p4, p5⟩ := (f3 b hb).1
      exact ⟨p3, p1, p4, p5⟩
    obtain ⟨m', hn, _⟩ := I'.loc
    exact fin D s3.heap.objs.size s' m' H' J1 q' hn (I3.fpOk (Nat.le_refl _) I'.free)) ⟨0, upd H2 D (o0 D), I4, t4, fun b hb => (f3 b hb).1.1, w0⟩
  exact C.start lp (T.self X.A 0 _ _ _ t4 lp)
end
end Mi
/-! W5: dict comprehensions. -/
namespace Mi
open PySem PySem.Spec PyProof.Rows L2

section
variable {X : Cx} {pins : List (Addr × Obj)} {σ : L2.St} {H H' : Hp} {s : Shared} {a : Addr} {y v : V} {u r : Value} {P : Unit → Shared → Prop} {E : Value → Shared → Prop}
/-- a pair stored as a display's part -/
theorem d_fill (hu : X.A.units < cLine) (I : Inv X pins σ H s) (p : DPut H a y v H') (ry : RelV y u) (rv : RelV v r) (h : ∀ s', Inv X pins σ H' s' → P () s') : wpAny (model X.prog X.w) X.A (dictSet a u r) P E s := by
  rcases p with ⟨kvs, k, e, rfl, z, rfl⟩ | ⟨kvs, k, b, e, rfl, eb, z, rfl⟩
  · exact d_dictSet I e z ry rv h
  · cases ry
    obtain ⟨few, nsys, xs, pairs, dd⟩ := dt_of I.hok e
    have len : xs.length ≤ sizeLine := (Paired.length pairs).symm ▸ few
    have more : (putK kvs k v).length ≤ sizeLine := Nat.le_trans (length_putK kvs k v) z
    refine wpAny_dictSet_heap (hsz := len) hu (key_of I.hok eb) dd fun h' d2 same => h _ ?_
    obtain ⟨o, es, ep, at', d3, d4, d5, _, d6⟩ := d2
    have pairs' := (pairs.put k eb rv).keeps (H' := upd H a (.dT (putK kvs k v))) fun c ys ec => (upd_ne (ne_of ec e fun z => nomatch z)).trans ec
    exact d_write I (e ▸ True.intro) same ⟨o, at'⟩ ⟨more, nsys, _, pairs', o, es, ep, at', d3, d4, d5, d6⟩
end

def bdD (kx vx : Expr) (X : Cx) : Bd := fun D en P E s => wpAny (model X.prog X.w) X.A (eval kx en) (fun kv s1 => wpAny (model X.prog X.w) X.A (eval vx en) (fun vv s2 => wpAny (model X.prog X.w) X.A (dictSet D kv vv) (fun _ => P) E s2) E s1) E s
def d0 (tk : Bool) : HO := if tk then .dT [] else .dK []
section
variable {X : Cx}
theorem cm_dict {kx vx tg iter : Expr} {ifs : List Expr} {scope : Scope} {pos : Pos} (tk : Bool) : Cm X (.DictComp kx vx [⟨tg, iter, ifs, 0⟩] scope pos) tg iter ifs newDict (fun _ => d0 tk) (bdD kx vx X) where
  cls := rfl
  new := fun {pins σ H s Q E} I h => by
    refine wpAny_newObj_type (h _ ?_ (Heap.size_push ..) fun b o e => Heap.get?_push_of_some _ e)
    refine I.laid (t' := s.toks) (fun b o e => Heap.get?_push_of_some _ e) (Nat.le_refl _) ?_
    cases tk
    · exact dk_empty s.heap I.big
    · exact dt_empty s.heap I.big
  loop := fun J turn n h => compLoop_anyD J turn n h
  start := fun h1 h2 => codeAny_compStart_dict h1 h2
theorem up_dict {kx vx : Expr} : BdUp (bdD kx vx X) := fun h q => thn q fun _ _ q => thn q fun _ _ q => thn q fun _ s q => h s q
def beD (tk tv : TE) : Be := fun D σ H N => tk σ H fun y H1 => tv σ H1 fun z H2 => ∃ H3, DPut H2 D y z H3 ∧ N H3
theorem ok_dict {kx vx : Expr} {tk tv : TE} {s : Shared} {H : Hp} {scope : Scope} {en : PySem.Env} {fp : List Addr} (hu : X.A.units < cLine) (hk : PE (X.blk s H scope en fp) kx tk) (hv : PE (X.blk s H scope en fp) vx tv) : BdOk (X.blk s H scope en fp) (bdD kx vx X) (beD tk tv) := by
  intro pins σ H s D N E I h
  refine thnF (hk.run pins s σ H _ I h) ?_
  rintro u s1 ⟨y, H1, I1, r1, h1⟩
  refine thnF (hv.run pins s1 σ H1 _ I1 h1) ?_
  rintro r s2 ⟨z, H2, I2, r2, H3, put, n3⟩
  exact d_fill (X := X.blk _ _ scope en fp) hu I2 put r1 r2 fun s3 I3 => ⟨H3, I3, n3⟩
variable {kx vx tg iter : Expr} {ifs : List Expr} {scope : Scope} {own : List (Str × Nat)} {pos : Pos} {wi : TI} {g : TG} {tt : TT} {tk tv : TE}
def tDm (b : Bool) (wi : TI) (g : TG) (tt : TT) (tk tv : TE) (vs : List Nat) : TE := tCm (fun _ => d0 b) wi g tt (beD tk tv) vs
/-- as a value -/
theorem pe_dm (b : Bool) (hu : X.A.units < cLine) (hc : X.calm = true) (hN : X.N.Nodup) (hi : PI X tg iter wi) (ok : BlkOk X.N X.env.scope scope own)
    (hg : ∀ (s : Shared) (H : Hp) (C : Addr) (cl : List (Str × Addr)) (fp : List Addr), PG (X.blk s H scope (compEnvC scope cl C X.env) fp) tg g)
    (ht : ∀ (s : Shared) (H : Hp) (C : Addr) (cl : List (Str × Addr)) (fp : List Addr), PTs (X.blk s H scope (compEnvC scope cl C X.env) fp) ifs tt)
    (hk : ∀ (s : Shared) (H : Hp) (C : Addr) (cl : List (Str × Addr)) (fp : List Addr), PE (X.blk s H scope (compEnvC scope cl C X.env) fp) kx tk)
    (hv : ∀ (s : Shared) (H : Hp) (C : Addr) (cl : List (Str × Addr)) (fp : List Addr), PE (X.blk s H scope (compEnvC scope cl C X.env) fp) vx tv)
    (hs : ∀ x, foldedSetIterable iter X.env x = pure x) : PE X (.DictComp kx vx [⟨tg, iter, ifs, 0⟩] scope pos) (tDm b wi g tt tk tv (own.map (·.2))) := by
  refine ⟨fun pins s σ H Q I h => ?_⟩
  rw [arm_eval_DictComp]
  refine cm_core hc hN (cm_dict b) up_dict I hi ok hg ht (fun s H C cl fp => ok_dict hu (hk s H C cl fp) (hv s H C cl fp)) hs h ?_
  rintro D C s' m H' I' q hn ⟨f0, f1, f2, f3, f4, f5⟩
  exact ⟨m, hn, fun h2 sb => ⟨.ref D, H', I'.turned (t' := s'.toks) (fun b o hb e => (sb.2 b hb).trans e) f0 f1 f3 f4 f5, rfl, q⟩⟩
/-- name = {..} on one line, the name a local -/
theorem ps_setDm (b : Bool) {i : Nat} {y : Str} {py spos : Pos} (hu : X.A.units < cLine) (hc : X.calm = true) (hN : X.N.Nodup) (hy : X.N[i]? = some y) (hyl : X.env.scope.names.lookup y = some .local)
    (hsw : swapsWith (.DictComp kx vx [⟨tg, iter, ifs, 0⟩] scope pos) (some (.Name y py)) spos.line X.env = pure true) (hi : PI X tg iter wi) (ok : BlkOk X.N X.env.scope scope own)
    (hg : ∀ (s : Shared) (H : Hp) (C : Addr) (cl : List (Str × Addr)) (fp : List Addr), PG (X.blk s H scope (compEnvC scope cl C X.env) fp) tg g)
    (ht : ∀ (s : Shared) (H : Hp) (C : Addr) (cl : List (Str × Addr)) (fp : List Addr), PTs (X.blk s H scope (compEnvC scope cl C X.env) fp) ifs tt)
    (hk : ∀ (s : Shared) (H : Hp) (C : Addr) (cl : List (Str × Addr)) (fp : List Addr), PE (X.blk s H scope (compEnvC scope cl C X.env) fp) kx tk)
    (hv : ∀ (s : Shared) (H : Hp) (C : Addr) (cl : List (Str × Addr)) (fp : List Addr), PE (X.blk s H scope (compEnvC scope cl C X.env) fp) vx tv)
    (hs : ∀ x, foldedSetIterable iter X.env x = pure x) : PS X (.Assign [.Name y py] (.DictComp kx vx [⟨tg, iter, ifs, 0⟩] scope pos) spos) (tAsg (tDm b wi g tt tk tv (own.map (·.2))) (gName i)) := by
  refine ⟨fun pins s σ H Dn I h => ?_⟩
  rw [exec_Assign_Name_used _ _ _ _ hsw]
  refine wpAny_bind (wpAny_standAt (wpAny_bind ?_))
  show wpAny _ X.A (do let _ ← comprehension (.DictComp kx vx [⟨tg, iter, ifs, 0⟩] scope pos) scope X.env (firstIterPos [⟨tg, iter, ifs, 0⟩] pos) newDict false (eval iter X.env) (some (assign (.Name y py) X.env))) _ _ s
  have core := cm_core (pos := firstIterPos [⟨tg, iter, ifs, 0⟩] pos) (use := some (assign (.Name y py) X.env)) (Qf := fun _ s' => SP X pins Dn .next s') (Q := fun x H1 => gName i x σ H1 Dn.nx) hc hN (cm_dict (X := X) (kx := kx) (vx := vx) (scope := scope) (pos := pos) b) up_dict I hi ok hg ht
    (fun s H C cl fp => ok_dict hu (hk s H C cl fp) (hv s H C cl fp)) hs h (by
      rintro D C s' m H' I' q hn ⟨f0, f1, f2, f3, f4, f5⟩
      refine wpAny_assign_Name (store_ok2 (v := V.ref D) I' hN hy (.inl hyl) rfl ?_ (.inr hyl))
      rintro s2 I2 ⟨c, sb, hc⟩
      have apart : C ≠ c := hc.elim (fun z => z ▸ f1) fun z e => f4 y c z e.symm
      exact ⟨m, hn.sameBut sb apart, fun h3 sb3 => ⟨_, H', I2.turned (t' := s2.toks) (fun b o hb e => (sb3.2 b hb).trans e) f0 f1 f3 f4 f5, q⟩⟩)
  exact wpAny_bind (thn core fun _ s' hq => wpAny_pure (wpAny_pure hq))
/-- such a name takes it by its swap -/
theorem swaps_dict {l : Nat} {py : Pos} {y : Str} {gs : List Comprehension} {env : PySem.Env} (hk : env.scope.kind = .function) (hy : env.scope.names.lookup y = some .local) (hl : (py.line == pos.line) = true)
    (ha : (scope.names.any fun (n, k) => n == y && (k == .local || k == .cell)) = false) : swapsWith (.DictComp kx vx gs scope pos) (some (.Name y py)) l env = pure true := by
  have k1 : env.kindOf y = some .local := hy
  have k2 : env.blockKind = .function := by simp [Env.blockKind, hk]
  simp only [swapsWith, k1, k2, ha, Expr.pos, hl]
  rfl
end
end Mi
/-! W6: the reading of a dict comprehension. -/
namespace Mi
open PySem PySem.Spec PyProof.Rows L2

section
variable {M : Nms} {T : Tab} {k : Nat} {N : List Str} {sc : Scope} {top : Str → Bool} {X : Cx} {F : Cl}
theorem Ext.over {G G' : Addr → Prop} {μ μ' : List Addr} {H H' : Hp} {p : Addr} {o : HO} (hp : H p = none) (x : Ext G μ H G' μ' H') : Ext G μ H G' μ' (upd H' p o) := by
  refine ⟨fun a u ha h => ?_, fun a h => ?_, x.g, x.gn, x.m⟩
  · rw [upd_ne (ne_of_none h hp)]
    exact x.keep a u ha h
  · by_cases z : a = p
    · exact z ▸ hp
    · rw [upd_ne z] at h
      exact x.dom a h
/-- the pair of a turn, stored -/
theorem pair_put {K : PySem.W.Frag} {n : Nat} {tk : Bool} {key val : CE} {G : Addr → Prop} {μ : List Addr} {σ : L2.St} {H : Hp} {env : MEnv} {s s1 : Sto} {A : Addr} {ks vs : List D} {p : D × D} {Nx : Hp → Prop}
    (R : Rel K n G μ σ H env s) (hm : A ∉ μ) (hg : ¬ G A) (at0 : At K G μ H A (.dct tk ks vs))
    (ev : (if bor env val then Rs.no else (evE F key env s).bind fun k s2 => (evE F val env s2).bind fun v s3 => .ok (k, v) s3) = .ok p s1) (hk : keyOk tk p.1 = true) (hz : lenOk (ks.length + 1) = true)
    (nx : ∀ G' μ' H' o, Ext G μ H G' μ' H' → Sk K G' μ' (upd H' A o) s1 → A ∉ μ' → ¬ G' A → At K G' μ' (upd H' A o) A (.dct tk (putKs ks vs p.1 p.2).1 (putKs ks vs p.1 p.2).2) → Nx (upd H' A o)) :
    beD (tEv F K n key) (tEv F K n val) A σ H Nx := by
  split at ev
  · cases ev
  · rename_i hb
    obtain ⟨c, s2, ev1, ev⟩ := Rs.bind_eq_ok ev
    obtain ⟨w, s3, ev2, ev⟩ := Rs.bind_eq_ok ev
    cases ev
    refine ⟨G, μ, env, s, c, s2, R, ev1, fun y G1 μ1 H1 x1 S1 p1 => ?_⟩
    refine ⟨G1, μ1, env, s2, w, s1, R.ext x1 S1, ev2, fun z G2 μ2 H2 x2 S2 p2 => ?_⟩
    obtain ⟨G3, g1, g2, S3, rv, st⟩ := p2.absorb S2 (by simpa using hb)
    have x3 := x2.grow g1 g2
    have ky := p1.top.mono S1 x3
    have x13 := x1.trans x3
    obtain ⟨u1, u2, u3⟩ := at0.ext R.sk x13 hm hg
    have hlen : ks.length < sizeLine := lenOk_le hz
    cases u3 with
    | dK e r =>
      rename_i kvs
      obtain ⟨c, rfl, rfl⟩ := ky.keyF hk
      have nt : ∀ xs, HO.dK kvs ≠ .tup xs := fun _ z => by cases z
      refine ⟨_, .k e (by simpa using hlen), nx G3 μ2 H2 _ x13 (S3.own u1 u2 e nt) u1 u2 ?_⟩
      have st2 : Stay G3 μ2 H2 G3 μ2 (upd H2 A (.dK (putK kvs c z))) := .own u2 e nt
      obtain ⟨k1, k2⟩ := putK_rel kD_eqv c (rv.mono st2) (r.mono st2)
      show At K G3 μ2 _ A (.dct false (putKs (kvs.map fun p => kD p.1) vs (kD c) w).1 (putKs (kvs.map fun p => kD p.1) vs (kD c) w).2)
      rw [k1]
      exact .dK upd_same k2
    | dT e r =>
      rename_i kvs
      obtain ⟨c, b, rfl, rfl, hbb⟩ := ky.keyT hk
      have nt : ∀ xs, HO.dT kvs ≠ .tup xs := fun _ z => by cases z
      refine ⟨_, .t e hbb (by simpa using hlen), nx G3 μ2 H2 _ x13 (S3.own u1 u2 e nt) u1 u2 ?_⟩
      have st2 : Stay G3 μ2 H2 G3 μ2 (upd H2 A (.dT (putK kvs c z))) := .own u2 e nt
      obtain ⟨k1, k2⟩ := putK_rel (enc := fun (k : List Key) => D.tup (k.map kD)) kT_eqv c (rv.mono st2) (r.mono st2)
      show At K G3 μ2 _ A (.dct true (putKs (kvs.map fun p => D.tup (p.1.map kD)) vs (.tup (c.map kD)) w).1 (putKs (kvs.map fun p => D.tup (p.1.map kD)) vs (.tup (c.map kD)) w).2)
      rw [k1]
      exact .dT upd_same k2
theorem dcomp_read {K : PySem.W.Frag} {n : Nat} {tk : Bool} {tgt : Tgt} {ci : CI} {key val : CE} {own : List Nat} (hT : tgIn tgt own = true) {σ : L2.St} {H : Hp} {Q : VK} (h : tEv F K n (.dcomp tk tgt ci key val own) σ H Q) :
    tDm tk (tEvI F K n ci) (gT K tgt) tYes (tEv F K n key) (tEv F K n val) own σ H Q := by
  obtain ⟨G, μ, env, s, d, s', R, ev, q⟩ := h
  simp only [evE] at ev
  obtain ⟨xs, s1, ev1, ev⟩ := Rs.bind_eq_ok ev
  obtain ⟨fp, s2, ev2, ev⟩ := Rs.bind_eq_ok ev
  have ev2 := Rs.still_eq_ok ev2
  cases ev
  refine ⟨G, μ, env, s, xs, s1, R, ev1, fun J A G1 μ1 H1 x1 S1 hA hJ D hD => ?_⟩
  generalize hgo : goD tk (fun x => bindT tgt x (wipeE env own)) (fun e s => if bor e val then .no else (evE F key e s).bind fun k s2 => (evE F val e s2).bind fun v s3 => .ok (k, v) s3) = go at ev2
  let P : Nat → Hp → Prop := fun i H2 => ∃ G2 μ2 st ks vs, i ≤ xs.length ∧ Ext G1 μ1 H1 G2 μ2 H2 ∧ Sk K G2 μ2 H2 st ∧ D ∉ μ2 ∧ ¬ G2 D ∧ At K G2 μ2 H2 D (.dct tk ks vs) ∧ go (xs.drop i) ks vs st = .ok fp s'
  have start : P 0 (upd H1 D (d0 tk)) := by
    refine ⟨G1, μ1, s1, [], [], Nat.zero_le _, .laid hD, S1.laid hD, (S1.free hD).1, (S1.free hD).2, ?_, ev2⟩
    cases tk
    · exact .dK (kvs := []) upd_same .nil
    · exact .dT (kvs := []) upd_same .nil
  refine ⟨fun i m H2 => m = xs.length - i ∧ P i H2, ⟨_, rfl, start⟩, ?_⟩
  rintro i m H2 ⟨rfl, G2, μ2, st, ks, vs, hi, x2, S2, d1, d2, at2, ev3⟩
  have same : ∀ a, A a → H2 a = H1 a := by
    intro a ha
    obtain ⟨q1, q2, _⟩ := hA a ha
    cases hh : H1 a with
    | none => exact absurd hh q1
    | some o => exact x2.keep a o q2 hh
  obtain ⟨stop, goes⟩ := hJ G2 μ2 H2 st S2 same (x2.stay S1) i
  by_cases lt : i < xs.length
  · have hx : xs[i]? = some xs[i] := List.getElem?_eq_getElem lt
    obtain ⟨g1, g2⟩ := goes _ hx
    refine .inr ⟨g1, P (i + 1), fun H' p => ⟨xs.length - (i + 1), by omega, rfl, p⟩, fun v H3 hy => ?_⟩
    obtain ⟨x3, S3, hv⟩ := g2 v H3 hy
    rw [drop_at hx, ← hgo] at ev3
    simp only [goD] at ev3
    split at ev3
    · cases ev3
    · rename_i env1 hbd
      obtain ⟨pr, s4, ev4, ev5⟩ := Rs.bind_eq_ok ev3
      split at ev5
      · rename_i hz
        simp only [Bool.and_eq_true] at hz
        have R3 : Rel K n G2 μ2 (L2.wipe σ own) H3 (wipeE env own) st := (R.wipe own).ext ((x1.trans x2).trans x3) S3
        refine gT_ok tgt _ v _ _ env1 _ R3 hv hbd fun σ2 R4 hw _ => ⟨by rw [hw own hT, wipe_wipe], ?_⟩
        unfold tYes
        simp only [if_true]
        obtain ⟨b1, b2, b3⟩ := at2.ext S2 x3 d1 d2
        refine pair_put R4 b1 b2 b3 ev4 hz.1 hz.2 fun G' μ' H' o y1 y2 y3 y4 y5 => ?_
        exact ⟨G', μ', s4, _, _, lt, ((x2.trans x3).trans y1).over hD, y2, y3, y4, y5, by rw [← hgo]; exact ev5⟩
      · cases ev5
  · have e : i = xs.length := by omega
    subst e
    rw [List.drop_length, ← hgo] at ev3
    simp only [goD] at ev3
    cases ev3
    exact .inl ⟨stop (Nat.le_refl _), q _ G2 μ2 H2 (x1.trans x2) S2 (.of_new rfl (.inr ⟨D, rfl, d1, d2, x1.dom D hD, at2⟩))⟩
theorem r_dcomp (C : Cxt M T k N sc top X) {tk : Bool} {tgt : Tgt} {ci : CI} {key val : CE} {own : List Nat} {tg iter kx vx : Expr} {scope : Scope} {pos : Pos} (hT : tgIn tgt own = true) (hb : blkC N sc scope (ownN N own) = true)
    (hfold : ∀ x, foldedSetIterable iter X.env x = pure x) (hI : PI X tg iter (tEvI F X.K X.N.length ci))
    (hg : ∀ (s : Shared) (H : Hp) (C : Addr) (cl : List (Str × Addr)) (fp : List Addr), PG (X.blk s H scope (compEnvC scope cl C X.env) fp) tg (gT X.K tgt))
    (hk : ∀ (s : Shared) (H : Hp) (C : Addr) (cl : List (Str × Addr)) (fp : List Addr), PE (X.blk s H scope (compEnvC scope cl C X.env) fp) kx (tEv F X.K X.N.length key))
    (hv : ∀ (s : Shared) (H : Hp) (C : Addr) (cl : List (Str × Addr)) (fp : List Addr), PE (X.blk s H scope (compEnvC scope cl C X.env) fp) vx (tEv F X.K X.N.length val)) :
    PE X (.DictComp kx vx [⟨tg, iter, [], 0⟩] scope pos) (tEv F X.K X.N.length (.dcomp tk tgt ci key val own)) := by
  have hu : X.A.units < cLine := by have := C.hu; omega
  exact (pe_dm (own := ownN N own) tk hu C.calm (by rw [C.nN]; exact C.nd) hI (blkOk_by (by rw [C.nN, C.sc]; exact hb)) hg (fun _ _ _ _ _ => pts_nil) hk hv hfold).weak fun σ H Q h => by rw [ownN_snd]; exact dcomp_read hT h
end
end Mi
/-! W7: sorted({..}) of rows of numbers. -/
namespace Mi
open PySem PySem.Spec PyProof.Rows L2

/-! ### rows -/
def enc (k : List Int) : D := .tup (k.map .int)
theorem ints_map : ∀ {xs : List D} {l : List Int}, intsOf xs = some l → xs = l.map .int
  | [], l, h => by cases h; rfl
  | x :: xs, l, h => by
    cases x <;> simp [intsOf] at h
    obtain ⟨m, h1, rfl⟩ := h
    rw [ints_map h1]; rfl
theorem intRow_enc {d : D} {l : List Int} (h : intRow d = some l) : d = enc l := by
  cases d <;> simp [intRow] at h
  rw [ints_map h]; rfl
theorem eqvs_int : ∀ a b : List Int, D.eqvs (a.map .int) (b.map .int) = decide (a = b)
  | [], [] => by simp [D.eqvs]
  | [], _ :: _ => by simp [D.eqvs]
  | _ :: _, [] => by simp [D.eqvs]
  | x :: a, y :: b => by
    simp only [List.map_cons, D.eqvs, D.eqv, eqvs_int a b, List.cons.injEq]
    by_cases e : x = y <;> simp [e]
theorem eqv_enc (a b : List Int) : D.eqv (enc a) (enc b) = decide (a = b) := by
  simp only [enc, D.eqv]; exact eqvs_int a b
theorem ltvs_code {B : Int} : ∀ a b : List Int, a.length = b.length → TS.Bd B a → TS.Bd B b → D.ltvs (a.map .int) (b.map .int) = decide (TS.code B a < TS.code B b)
  | [], [], _, _, _ => by simp [D.ltvs]
  | [], _ :: _, h, _, _ => by simp at h
  | _ :: _, [], h, _, _ => by simp at h
  | x :: a, y :: b, h, ha, hb => by
    have hl : a.length = b.length := by simpa using h
    have un : D.ltvs ((x :: a).map .int) ((y :: b).map .int) = if x = y then D.ltvs (a.map .int) (b.map .int) else decide (x < y) := by
      simp only [List.map_cons, D.ltvs]
      by_cases e : x = y <;> simp [D.eqv, D.ltv, e]
    rw [un]
    by_cases e : x = y
    · subst e
      rw [if_pos rfl, ltvs_code a b hl ha.tail hb.tail]
      exact decide_eq_decide.mpr (TS.code_same hl).symm
    · rw [if_neg e]
      refine decide_eq_decide.mpr ⟨fun z => TS.code_lt hl ha.tail hb.tail z, fun z => ?_⟩
      rcases Int.lt_trichotomy x y with q | q | q
      · exact q
      · exact absurd q e
      · have := TS.code_lt hl.symm hb.tail ha.tail q
        omega
theorem code_inj {B : Int} : ∀ a b : List Int, a.length = b.length → TS.Bd B a → TS.Bd B b → TS.code B a = TS.code B b → a = b
  | [], [], _, _, _, _ => rfl
  | [], _ :: _, h, _, _, _ => by simp at h
  | _ :: _, [], h, _, _, _ => by simp at h
  | x :: a, y :: b, h, ha, hb, e => by
    have hl : a.length = b.length := by simpa using h
    rcases Int.lt_trichotomy x y with q | q | q
    · have := TS.code_lt hl ha.tail hb.tail q
      omega
    · subst q
      rw [code_inj a b hl ha.tail hb.tail ?_]
      simp only [TS.code, hl] at e
      omega
    · have := TS.code_lt hl.symm hb.tail ha.tail q
      omega
def addI (ns : List (List Int)) (k : List Int) : List (List Int) := if k ∈ ns then ns else ns ++ [k]
theorem addD_enc (ns : List (List Int)) (k : List Int) : addD (ns.map enc) (enc k) = (addI ns k).map enc := by
  unfold addD addI
  have : ((ns.map enc).any fun z => D.eqv z (enc k)) = decide (k ∈ ns) := by
    rw [List.any_map, Bool.eq_iff_iff]
    simp [Function.comp_def, eqv_enc]
  rw [this]
  by_cases h : k ∈ ns <;> simp [h]
theorem fold_enc : ∀ (ks ns : List (List Int)), (ks.map enc).foldl addD (ns.map enc) = (ks.foldl addI ns).map enc
  | [], ns => rfl
  | k :: ks, ns => by
    simp only [List.map_cons, List.foldl_cons, addD_enc]
    exact fold_enc ks _
theorem addI_mem (ns : List (List Int)) (k j : List Int) : j ∈ addI ns k ↔ j ∈ ns ∨ j = k := by
  unfold addI
  by_cases h : k ∈ ns
  · rw [if_pos h]
    exact ⟨.inl, fun z => z.elim id fun e => e ▸ h⟩
  · rw [if_neg h]; simp
theorem addI_nodup {ns : List (List Int)} (h : ns.Nodup) (k : List Int) : (addI ns k).Nodup := by
  unfold addI
  by_cases hk : k ∈ ns
  · rw [if_pos hk]; exact h
  · rw [if_neg hk, List.nodup_append]
    exact ⟨h, by simp, fun a ha b hb e => hk (by simp at hb; rw [← hb, ← e]; exact ha)⟩
theorem foldI : ∀ (ks ns : List (List Int)), ns.Nodup → (ks.foldl addI ns).Nodup ∧ ∀ j, j ∈ ks.foldl addI ns ↔ j ∈ ns ∨ j ∈ ks
  | [], ns, h => ⟨h, by simp⟩
  | k :: ks, ns, h => by
    obtain ⟨h1, h2⟩ := foldI ks _ (addI_nodup h k)
    refine ⟨h1, fun j => ?_⟩
    rw [List.foldl_cons, h2, addI_mem]
    simp [or_assoc]
theorem sort_set {n : Nat} {ks L : List (List Int)} (ok : ∀ k ∈ ks, k.length = n ∧ TS.Bd 1000000 k) (hm : ∀ k, k ∈ L ↔ k ∈ ks) (nd : L.Nodup) (pw : L.Pairwise fun a b => TS.code 1000000 a ≤ TS.code 1000000 b) :
    ((ks.map enc).foldl addD []).mergeSort leD = L.map enc := by
  obtain ⟨n1, m1⟩ := foldI ks [] List.nodup_nil
  have e : (ks.map enc).foldl addD [] = (ks.foldl addI []).map enc := fold_enc ks []
  rw [e]
  generalize ks.foldl addI [] = U at n1 m1
  have hU : ∀ k ∈ U, k.length = n ∧ TS.Bd 1000000 k := fun k hk => ok k (by simpa using (m1 k).mp hk)
  have hLm : ∀ k ∈ L, k.length = n ∧ TS.Bd 1000000 k := fun k hk => ok k ((hm k).mp hk)
  let le (a b : List Int) : Bool := decide (TS.code 1000000 a ≤ TS.code 1000000 b)
  have s1 : (U.mergeSort le).map enc = (U.map enc).mergeSort leD := List.map_mergeSort fun a ha b hb => by
    show le a b = !(D.ltvs (b.map .int) (a.map .int))
    rw [ltvs_code b a ((hU b hb).1.trans (hU a ha).1.symm) (hU b hb).2 (hU a ha).2]
    simp only [le]
    by_cases z : TS.code 1000000 a ≤ TS.code 1000000 b
    · simp [z, Int.not_lt.mpr z]
    · simp [z, Int.not_le.mp z]
  rw [← s1]
  congr 1
  refine List.Perm.eq_of_pairwise (le := fun a b => le a b = true) (fun a b ha hb h1 h2 => ?_) (List.pairwise_mergeSort (fun a b c h1 h2 => ?_) (fun a b => ?_) U) ?_ ?_
  · have ha' := hU a ((List.mergeSort_perm U le).mem_iff.mp ha)
    have hb' := hLm b hb
    have h1 := of_decide_eq_true h1
    have h2 := of_decide_eq_true h2
    exact code_inj a b (ha'.1.trans hb'.1.symm) ha'.2 hb'.2 (by omega)
  · have h1 := of_decide_eq_true h1
    have h2 := of_decide_eq_true h2
    exact decide_eq_true (by omega)
  · simp only [le, Bool.or_eq_true, decide_eq_true_eq]; omega
  · exact pw.imp fun h => decide_eq_true h
  · refine (List.mergeSort_perm U le).trans ?_
    rw [List.perm_iff_count]
    intro a
    rw [n1.count, nd.count]
    simp only [m1, hm, List.not_mem_nil, false_or]

/-! ### the set -/
section
variable {X : Cx} {pins : List (Addr × Obj)} {σ : L2.St} {H : Hp} {s : Shared} {E : Value → Shared → Prop} {A b : Addr} {L : List (Addr × List Int)} {k : List Int} {P : Value → Shared → Prop}
/-- a row put in -/
theorem row_add (hu : X.A.units + 1 < cLine) (I : Inv X pins σ H s) (hD : H A = some (SetTO X.prog X.w A L)) (ht : ∀ p ∈ L, SqT X.K H p.1 (p.2.map V.int)) (hx : SqT X.K H b (k.map V.int)) (hf : L.length + 1 < 64)
    (h : ∀ s' L', (k ∈ L.map (·.2) → L' = L) → (k ∉ L.map (·.2) → L'.Perm ((b, k) :: L)) → Inv X pins σ (upd H A (SetTO X.prog X.w A L')) s' → P .none s') : wpAny (model X.prog X.w) X.A (call (.builtin "set.add") [.ref A, .ref b]) P E s := by
  have base : SetT0 X.prog X.w s.heap A L := (I.hok A _ hD).1
  obtain ⟨es, ep, t, R⟩ := base.full fun p hp => I.isT (ht p hp)
  have hk := I.isT hx
  obtain ⟨o, ho, hex, hd⟩ := R.ob
  refine wpAny_call_entry F.slot_set_add ⟨o, ho, hex.1⟩ F.entry_set_add ?_ (F.args_set_add_2 _ _)
  unfold Builtin.«set.add» Builtin.Frozenset.oneOther
  simp only [List.isEmpty_nil, LawfulMonad.bind_assoc]
  unfold Builtin.Frozenset.addrOf setAdd
  refine wpAny_bind (wpAny_pure ?_)
  try dsimp only
  refine wpAny_bind (wpAny_pure ?_)
  try dsimp only
  refine wpAny_bind (wpAny_holding (wpAny_bind (wpAny_pyHash_tuple (A := X.A.in1) hu hk ?_)))
  refine add_at (A := X.A.in1) (s := { s with toks := s.toks + (k.length + 1) }) R hk hu hf fun c h' L' es' ep' t' same R' p1 p2 => ?_
  refine wpAny_pure ⟨_, rfl, h _ L' p1 p2 ?_⟩
  have at' : ∃ u, h'.get? A = some u := let ⟨o, q, _⟩ := R'.ob; ⟨o, q⟩
  exact I.write (e := A) (t' := s.toks + (k.length + 1)) (by rw [hD]; trivial) (.inl rfl) (fun c u hc q => (same.2 c hc).trans q) at' (setTO_new R'.t0)
end
end Mi
/-! W8: sorted({.. for ..}). -/
namespace Mi
open PySem PySem.Spec PyProof.Rows L2

def bdS (el : Expr) (X : Cx) : Bd := fun D en P E s => wpAny (model X.prog X.w) X.A (eval el en) (fun v s1 => wpAny (model X.prog X.w) X.A (call (.builtin "set.add") [.ref D, v]) (fun _ => P) E s1) E s
section
variable {X : Cx}
def s0 (X : Cx) (D : Addr) : HO := SetTO X.prog X.w D []
theorem cm_set {el tg iter : Expr} {ifs : List Expr} {scope : Scope} {pos : Pos} : Cm X (.SetComp el [⟨tg, iter, ifs, 0⟩] scope pos) tg iter ifs (newSet (.type "set")) (s0 X) (bdS el X) where
  cls := rfl
  new := fun {pins σ H s Q E} I h => by
    refine PpSet.newSet_ok (h _ ?_ (Heap.size_push ..) fun b o e => Heap.get?_push_of_some _ e)
    refine I.laid (t' := s.toks) (fun b o e => Heap.get?_push_of_some _ e) (Nat.le_refl _) ?_
    exact setTO_new (setTR_fresh (Heap.get?_push_size _ rfl)).t0
  loop := fun J turn n h => PpSet.compLoopS_any J turn n h
  start := fun h1 h2 => PpSet.codeAny_compStart_set h1 h2
theorem up_set {el : Expr} : BdUp (bdS el X) := fun h q => thn q fun _ _ q => thn q fun _ s q => h s q
def beS (X : Cx) (te : TE) : Be := fun D σ H N => te σ H fun y H1 => ∃ (b : Addr) (k : List Int) (L : List (Addr × List Int)), y = .ref b ∧ H1 D = some (SetTO X.prog X.w D L) ∧ (∀ p ∈ L, SqT X.K H1 p.1 (p.2.map V.int)) ∧ SqT X.K H1 b (k.map V.int) ∧ L.length + 1 < 64 ∧
  ∀ L', (k ∈ L.map (·.2) → L' = L) → (k ∉ L.map (·.2) → L'.Perm ((b, k) :: L)) → N (upd H1 D (SetTO X.prog X.w D L'))
theorem ok_set {el : Expr} {te : TE} {s : Shared} {H : Hp} {scope : Scope} {en : PySem.Env} {fp : List Addr} (hu : X.A.units + 1 < cLine) (he : PE (X.blk s H scope en fp) el te) : BdOk (X.blk s H scope en fp) (bdS el X) (beS X te) := by
  intro pins σ H s D N E I h
  refine thnF (he.run pins s σ H _ I h) ?_
  rintro u s1 ⟨y, H1, I1, r1, b, k, L, rfl, h1, h2, h3, h4, h5⟩
  cases r1
  exact row_add (X := X.blk _ _ scope en fp) hu I1 h1 h2 h3 h4 fun s2 L' p1 p2 I2 => ⟨_, I2, h5 L' p1 p2⟩
variable {el tg iter : Expr} {ifs : List Expr} {scope : Scope} {own : List (Str × Nat)} {pos : Pos} {wi : TI} {g : TG} {tt : TT} {te : TE}
def tSm (X : Cx) (wi : TI) (g : TG) (tt : TT) (te : TE) (vs : List Nat) : TE := tCm (s0 X) wi g tt (beS X te) vs
theorem pe_sm (hu : X.A.units + 1 < cLine) (hc : X.calm = true) (hN : X.N.Nodup) (hi : PI X tg iter wi) (ok : BlkOk X.N X.env.scope scope own)
    (hg : ∀ (s : Shared) (H : Hp) (C : Addr) (cl : List (Str × Addr)) (fp : List Addr), PG (X.blk s H scope (compEnvC scope cl C X.env) fp) tg g)
    (ht : ∀ (s : Shared) (H : Hp) (C : Addr) (cl : List (Str × Addr)) (fp : List Addr), PTs (X.blk s H scope (compEnvC scope cl C X.env) fp) ifs tt)
    (he : ∀ (s : Shared) (H : Hp) (C : Addr) (cl : List (Str × Addr)) (fp : List Addr), PE (X.blk s H scope (compEnvC scope cl C X.env) fp) el te)
    (hs : ∀ x, foldedSetIterable iter X.env x = pure x) : PE X (.SetComp el [⟨tg, iter, ifs, 0⟩] scope pos) (tSm X wi g tt te (own.map (·.2))) := by
  refine ⟨fun pins s σ H Q I h => ?_⟩
  rw [PpSet.eval_SetComp]
  refine cm_core hc hN cm_set up_set I hi ok hg ht (fun s H C cl fp => ok_set hu (he s H C cl fp)) hs h ?_
  rintro D C s' m H' I' q hn ⟨f0, f1, f2, f3, f4, f5⟩
  exact ⟨m, hn, fun h2 sb => ⟨.ref D, H', I'.turned (t' := s'.toks) (fun b o hb e => (sb.2 b hb).trans e) f0 f1 f3 f4 f5, rfl, q⟩⟩
end

section
variable {M : Nms} {T : Tab} {k : Nat} {N : List Str} {sc : Scope} {top : Str → Bool} {X : Cx} {F : Cl}
theorem intsOf_ints : ∀ k : List Int, intsOf (k.map .int) = some k
  | [] => rfl
  | i :: k => by simp [intsOf, intsOf_ints k]
theorem enc_val {K : PySem.W.Frag} {G : Addr → Prop} {μ : List Addr} {H : Hp} {k : List Int} {v : V} (h : Val K G μ H (enc k) v) : ∃ b, v = .ref b ∧ H b = some (.tup (k.map V.int)) := by
  unfold enc at h
  cases h with
  | tup e r =>
    have := r.ints (intsOf_ints k)
    subst this
    exact ⟨_, rfl, e⟩
theorem ssort_kinds {ys : List D} {d : D} (h : ssortD ys = some d) : d = .lst ((ys.foldl addD []).mergeSort leD) ∧ ((∃ js : List Int, ys = js.map .int ∧ js.length < 64) ∨
    ∃ (n : Nat) (ks : List (List Int)), ys = ks.map enc ∧ ks.length < 64 ∧ 1 ≤ n ∧ ∀ k ∈ ks, k.length = n ∧ TS.Bd 1000000 k) := by
  unfold ssortD at h
  split at h
  · rename_i hz
    cases h
    simp only [Bool.and_eq_true, decide_eq_true_eq] at hz
    refine ⟨rfl, .inl ?_⟩
    have key : ∀ zs : List D, zs.all isInt = true → ∃ js : List Int, zs = js.map .int := by
      intro zs
      induction zs with
      | nil => exact fun _ => ⟨[], rfl⟩
      | cons z zs ih =>
        intro q
        simp only [List.all_cons, Bool.and_eq_true] at q
        obtain ⟨js, e⟩ := ih q.2
        cases z <;> simp [isInt] at q
        exact ⟨_ :: js, by rw [e]; rfl⟩
    obtain ⟨js, rfl⟩ := key ys hz.1
    exact ⟨js, rfl, by simpa using hz.2⟩
  · split at h
    · cases h
    · rename_i x r
      split at h
      · rename_i l hl
        split at h
        · rename_i hz
          cases h
          simp only [Bool.and_eq_true, decide_eq_true_eq] at hz
          obtain ⟨⟨h1, h2⟩, h3⟩ := hz
          refine ⟨rfl, .inr ?_⟩
          have rows : ∀ zs : List D, (zs.all (rowLen l.length)) = true → ∃ ks : List (List Int), zs = ks.map enc ∧ ∀ k ∈ ks, k.length = l.length ∧ TS.Bd 1000000 k := by
            intro zs
            induction zs with
            | nil => exact fun _ => ⟨[], rfl, by simp⟩
            | cons z zs ih =>
              intro h
              simp only [List.all_cons, Bool.and_eq_true] at h
              obtain ⟨ks, e1, e2⟩ := ih h.2
              have hz := h.1
              simp only [rowLen] at hz
              split at hz
              · rename_i m hm
                simp only [Bool.and_eq_true, beq_iff_eq, List.all_eq_true, decide_eq_true_eq] at hz
                refine ⟨m :: ks, by rw [List.map_cons, ← e1, ← intRow_enc hm], fun j hj => ?_⟩
                rcases List.mem_cons.mp hj with e | e
                · subst e; exact ⟨hz.1, fun i hi => hz.2 i hi⟩
                · exact e2 j e
              · cases hz
          obtain ⟨ks, e1, e2⟩ := rows _ h2
          exact ⟨l.length, ks, e1, by rw [e1, List.length_map] at h3; exact h3, h1, e2⟩
        · cases h
      · cases h
theorem map_enc_split {ks js : List (List Int)} {y : D} {zs : List D} (h : js.map enc ++ y :: zs = ks.map enc) : ∃ k, y = enc k ∧ k ∈ ks := by
  have : y ∈ ks.map enc := by rw [← h]; simp
  obtain ⟨k, h1, h2⟩ := List.mem_map.mp this
  exact ⟨k, h2.symm, h1⟩
theorem enc_inj {a b : List Int} (h : enc a = enc b) : a = b := by
  have := intsOf_ints a
  rw [show a.map D.int = b.map .int from D.tup.inj h, intsOf_ints b] at this
  exact (Option.some.inj this).symm
/-- the comprehension's items, of a kind, and what the sorted list of them is to reach -/
def tSs (kind : List D → Prop) (F : Cl) (K : PySem.W.Frag) (n : Nat) (tgt : Tgt) (ci : CI) (elt : CE) (own : List Nat) : TE := fun σ H Q => ∃ G μ env s xs s1 ys s', Rel K n G μ σ H env s ∧ evI F ci env s = .ok xs s1 ∧
  goC (fun x => bindT tgt x (wipeE env own)) (fun (_ : MEnv) s => Rs.ok true s) (fun e s => if bor e elt then .no else evE F elt e s) xs s1 = .ok ys s' ∧ kind ys ∧
  ∀ v G' μ' H', Ext G μ H G' μ' H' → Sk K G' μ' H' s' → Post F env (.ssort tgt ci elt own) K G' μ' H' H (.lst ((ys.foldl addD []).mergeSort leD)) v → Q v H'
theorem ssort_split {K : PySem.W.Frag} {n : Nat} {tgt : Tgt} {ci : CI} {elt : CE} {own : List Nat} {σ : L2.St} {H : Hp} {Q : VK} (h : tEv F K n (.ssort tgt ci elt own) σ H Q) :
    tSs (fun ys => ∃ js : List Int, ys = js.map .int ∧ js.length < 64) F K n tgt ci elt own σ H Q ∨
    tSs (fun ys => ∃ (n : Nat) (ks : List (List Int)), ys = ks.map enc ∧ ks.length < 64 ∧ 1 ≤ n ∧ ∀ k ∈ ks, k.length = n ∧ TS.Bd 1000000 k) F K n tgt ci elt own σ H Q := by
  obtain ⟨G, μ, env, s, d, s', R, ev, q⟩ := h
  simp only [evE] at ev
  obtain ⟨xs, s1, ev1, ev⟩ := Rs.bind_eq_ok ev
  obtain ⟨ys, s2, ev2, ev⟩ := Rs.bind_eq_ok ev
  have ev2 := Rs.still_eq_ok ev2
  obtain ⟨hso, rfl⟩ := Rs.of_eq_ok ev
  obtain ⟨rfl, kd⟩ := ssort_kinds hso
  exact kd.imp (fun kd => ⟨G, μ, env, s, xs, s1, ys, _, R, ev1, ev2, kd, q⟩) fun kd => ⟨G, μ, env, s, xs, s1, ys, _, R, ev1, ev2, kd, q⟩
theorem ssort_read {n : Nat} {tgt : Tgt} {ci : CI} {elt : CE} {own : List Nat} (hT : tgIn tgt own = true) {σ : L2.St} {H : Hp} {Q : VK} (h : tSs (fun ys => ∃ (n : Nat) (ks : List (List Int)), ys = ks.map enc ∧ ks.length < 64 ∧ 1 ≤ n ∧ ∀ k ∈ ks, k.length = n ∧ TS.Bd 1000000 k) F X.K n tgt ci elt own σ H Q) :
    tCB (rSortedT X.K X.prog X.w) (tCons (tSm X (tEvI F X.K n ci) (gT X.K tgt) tYes (tEv F X.K n elt) own) tNil) σ H Q := by
  obtain ⟨G, μ, env, s, xs, s1, ys, s', R, ev1, ev2, ⟨w, ks, hks, few, hw, rows⟩, q⟩ := h
  refine ⟨G, μ, env, s, xs, s1, R, ev1, fun J A G1 μ1 H1 x1 S1 hA hJ D hD => ?_⟩
  generalize hgo : goC (fun x => bindT tgt x (wipeE env own)) (fun (_ : MEnv) s => Rs.ok true s) (fun e s => if bor e elt then .no else evE F elt e s) = go at ev2
  let P : Nat → Hp → Prop := fun i H2 => ∃ G2 μ2 st, ∃ js : List (List Int), ∃ zs, ∃ L : List (Addr × List Int), i ≤ xs.length ∧ Ext G1 μ1 H1 G2 μ2 H2 ∧ Sk X.K G2 μ2 H2 st ∧ D ∉ μ2 ∧ ¬ G2 D ∧ H2 D = some (SetTO X.prog X.w D L) ∧ (∀ p ∈ L, Val X.K G2 μ2 H2 (enc p.2) (.ref p.1)) ∧
    (∀ k, k ∈ L.map (·.2) ↔ k ∈ js) ∧ L.length ≤ js.length ∧ go (xs.drop i) st = .ok zs s' ∧ js.map enc ++ zs = ys
  have start : P 0 (upd H1 D (s0 X D)) := ⟨G1, μ1, s1, [], ys, [], Nat.zero_le _, .laid hD, S1.laid hD, (S1.free hD).1, (S1.free hD).2, upd_same, by simp, by simp, by simp, ev2, rfl⟩
  have nt : ∀ L xs, SetTO X.prog X.w D L ≠ .tup xs := fun _ _ z => by cases z
  refine ⟨fun i m H2 => m = xs.length - i ∧ P i H2, ⟨_, rfl, start⟩, ?_⟩
  rintro i m H2 ⟨rfl, G2, μ2, st, js, zs, L, hi, x2, S2, d1, d2, at2, hv2, mem2, len2, ev3, e3⟩
  have same : ∀ a, A a → H2 a = H1 a := by
    intro a ha
    obtain ⟨q1, q2, _⟩ := hA a ha
    cases hh : H1 a with
    | none => exact absurd hh q1
    | some o => exact x2.keep a o q2 hh
  obtain ⟨stop, goes⟩ := hJ G2 μ2 H2 st S2 same (x2.stay S1) i
  by_cases lt : i < xs.length
  · have hx : xs[i]? = some xs[i] := List.getElem?_eq_getElem lt
    obtain ⟨g1, g2⟩ := goes _ hx
    refine .inr ⟨g1, P (i + 1), fun H' p => ⟨xs.length - (i + 1), by omega, rfl, p⟩, fun v H3 hy => ?_⟩
    obtain ⟨x3, S3, hv⟩ := g2 v H3 hy
    rw [drop_at hx, ← hgo] at ev3
    simp only [goC] at ev3
    split at ev3
    · cases ev3
    · rename_i env1 hbd
      simp only [Rs.bind_ok, if_true] at ev3
      obtain ⟨y, s4, ev4, ev5⟩ := Rs.bind_eq_ok ev3
      obtain ⟨zs', s5, ev6, ev7⟩ := Rs.bind_eq_ok ev5
      cases ev7
      split at ev4
      · cases ev4
      · rename_i hb
        have R3 : Rel X.K n G2 μ2 (L2.wipe σ own) H3 (wipeE env own) st := (R.wipe own).ext ((x1.trans x2).trans x3) S3
        refine gT_ok tgt _ v _ _ env1 _ R3 hv hbd fun σ2 R4 hw _ => ⟨by rw [hw own hT, wipe_wipe], ?_⟩
        unfold tYes
        simp only [if_true]
        obtain ⟨b1, b2, b3⟩ := x3.apart at2 d1 d2
        refine ⟨G2, μ2, env1, st, y, s4, R4, ev4, fun z G4 μ4 H4 x4 S4 p4 => ?_⟩
        obtain ⟨G5, a1, a2, S5, rv, st5⟩ := p4.absorb S4 (by simpa using hb)
        have x5 := x4.grow a1 a2
        obtain ⟨c1, c2, c3⟩ := x5.apart b3 b1 b2
        obtain ⟨j, rfl, hj⟩ := map_enc_split (e3.trans hks)
        obtain ⟨b, rfl, hbb⟩ := enc_val rv
        have hv5 : ∀ p ∈ L, Val X.K G5 μ4 H4 (enc p.2) (.ref p.1) := fun p hp => ((hv2 p hp).mono (x3.stay S2)).mono (x5.stay S3)
        have len5 : js.length + 1 ≤ ks.length := by
          have := congrArg List.length (e3.trans hks)
          simp at this
          omega
        refine ⟨b, j, L, rfl, c3, fun p hp => ?_, .of hbb, by omega, fun L' p1 p2 => ?_⟩
        · obtain ⟨b', e, e'⟩ := enc_val (hv5 p hp)
          cases e
          exact .of e'
        · have st6 : Stay G5 μ4 H4 G5 μ4 (upd H4 D (SetTO X.prog X.w D L')) := .own c2 c3 (nt L)
          refine ⟨G5, μ4, s4, js ++ [j], zs', L', lt, ((x2.trans x3).trans x5).over hD, S5.own c1 c2 c3 (nt L), c1, c2, upd_same, ?_, ?_, ?_, by rw [← hgo]; exact ev6, by rw [← e3]; simp⟩
          · by_cases hin : j ∈ L.map (·.2)
            · exact fun p hp => (hv5 p (by rw [p1 hin] at hp; exact hp)).mono st6
            · intro p hp
              rcases List.mem_cons.mp ((p2 hin).mem_iff.mp hp) with e | e
              · subst e; exact rv.mono st6
              · exact (hv5 p e).mono st6
          · by_cases hin : j ∈ L.map (·.2)
            · rw [p1 hin]
              intro k
              rw [mem2, List.mem_append, List.mem_singleton]
              exact ⟨.inl, fun z => z.elim id fun e => e ▸ (mem2 j).mp hin⟩
            · intro k
              have := ((p2 hin).map (·.2)).mem_iff (a := k)
              rw [this, List.map_cons, List.mem_cons, mem2, List.mem_append, List.mem_singleton]
              exact Or.comm
          · by_cases hin : j ∈ L.map (·.2)
            · rw [p1 hin]; simp; omega
            · rw [(p2 hin).length_eq]; simp; omega
  · have e : i = xs.length := by omega
    subst e
    rw [List.drop_length, ← hgo] at ev3
    simp only [goC] at ev3
    cases ev3
    have ej : js = ks := by
      have e4 : js.map enc = ks.map enc := by rw [← hks, ← e3]; simp
      exact (List.map_inj_right fun a b h => enc_inj h).mp e4
    subst ej
    refine .inl ⟨stop (Nat.le_refl _), D, L, w, 1000000, rfl, at2, fun p hp => ?_, hw, fun p hp => ?_, fun L' a pm nd lt64 pw ha => ?_⟩
    · obtain ⟨b', e, e'⟩ := enc_val (hv2 p hp)
      cases e
      exact .of e'
    · exact rows p.2 ((mem2 p.2).mp (List.mem_map_of_mem hp))
    · have hs : (ys.foldl addD []).mergeSort leD = (L'.map (·.2)).map enc := by
        rw [hks]
        exact sort_set rows (fun k => ((pm.map (·.2)).mem_iff).trans (mem2 k)) nd (List.pairwise_map.mpr pw)
      have hvs : Vls X.K G2 μ2 H2 ((L'.map (·.2)).map enc) (L'.map fun q => V.ref q.1) := by
        have hv3 : ∀ p ∈ L', Val X.K G2 μ2 H2 (enc p.2) (.ref p.1) := fun p hp => hv2 p (pm.mem_iff.mp hp)
        clear hs pw nd lt64 pm
        induction L' with
        | nil => exact .nil
        | cons p L' ih => exact .cons (hv3 p (by simp)) (ih fun p hp => hv3 p (by simp [hp]))
      rw [hs] at q
      have nw := new_lst S2 ha hvs
      exact q _ G2 μ2 _ ((x1.trans x2).trans (.laid ha)) (S2.laid ha) (.of_new rfl (nw.back (x1.trans x2).dom))
end
end Mi
/-! W10: sorted({..}) of numbers; either kind. -/
namespace Mi
open PySem PySem.Spec PyProof.Rows L2

theorem eqvI (a b : Int) : D.eqv (.int a) (.int b) = decide (a = b) := by
  simp only [D.eqv]
  by_cases e : a = b <;> simp [e]
def addZ (ns : List Int) (k : Int) : List Int := if k ∈ ns then ns else ns ++ [k]
theorem addD_int (ns : List Int) (k : Int) : addD (ns.map .int) (.int k) = (addZ ns k).map .int := by
  unfold addD addZ
  have : ((ns.map D.int).any fun z => D.eqv z (.int k)) = decide (k ∈ ns) := by
    rw [List.any_map, Bool.eq_iff_iff]
    simp [Function.comp_def, eqvI]
  rw [this]
  by_cases h : k ∈ ns <;> simp [h]
theorem foldD_int : ∀ (ks ns : List Int), (ks.map D.int).foldl addD (ns.map .int) = (ks.foldl addZ ns).map .int
  | [], ns => rfl
  | k :: ks, ns => by
    simp only [List.map_cons, List.foldl_cons, addD_int]
    exact foldD_int ks _
theorem foldZ : ∀ (ks ns : List Int), ns.Nodup → (ks.foldl addZ ns).Nodup ∧ ∀ j, j ∈ ks.foldl addZ ns ↔ j ∈ ns ∨ j ∈ ks
  | [], ns, h => ⟨h, by simp⟩
  | k :: ks, ns, h => by
    have n1 : (addZ ns k).Nodup := by
      unfold addZ
      by_cases hk : k ∈ ns
      · rw [if_pos hk]; exact h
      · rw [if_neg hk, List.nodup_append]
        exact ⟨h, by simp, fun a ha b hb e => hk (by simp at hb; rw [← hb, ← e]; exact ha)⟩
    have m1 : ∀ j, j ∈ addZ ns k ↔ j ∈ ns ∨ j = k := fun j => by
      unfold addZ
      by_cases hk : k ∈ ns
      · rw [if_pos hk]
        exact ⟨.inl, fun z => z.elim id fun e => e ▸ hk⟩
      · rw [if_neg hk]; simp
    obtain ⟨h1, h2⟩ := foldZ ks _ n1
    refine ⟨h1, fun j => ?_⟩
    rw [List.foldl_cons, h2, m1]
    simp [or_assoc]
theorem sort_ints {ks L : List Int} (hm : ∀ k, k ∈ L ↔ k ∈ ks) (pw : L.Pairwise (· < ·)) : ((ks.map D.int).foldl addD []).mergeSort leD = L.map .int := by
  obtain ⟨n1, m1⟩ := foldZ ks [] List.nodup_nil
  have e : (ks.map D.int).foldl addD [] = (ks.foldl addZ []).map .int := foldD_int ks []
  rw [e]
  generalize ks.foldl addZ [] = U at n1 m1
  let le (a b : Int) : Bool := decide (a ≤ b)
  have s1 : (U.mergeSort le).map D.int = (U.map .int).mergeSort leD := List.map_mergeSort fun a _ b _ => by
    show decide (a ≤ b) = !(decide (b < a))
    by_cases z : a ≤ b
    · simp [z, Int.not_lt.mpr z]
    · simp [z, Int.not_le.mp z]
  rw [← s1]
  congr 1
  have nd : L.Nodup := List.Pairwise.imp (S := fun a b => a ≠ b) (fun {a b} h1 e => by omega) pw
  refine List.Perm.eq_of_pairwise (le := fun a b => le a b = true) (fun a b _ _ h1 h2 => ?_) (List.pairwise_mergeSort (fun a b c h1 h2 => ?_) (fun a b => ?_) U) ?_ ?_
  · have h1 := of_decide_eq_true h1
    have h2 := of_decide_eq_true h2
    omega
  · have h1 := of_decide_eq_true h1
    have h2 := of_decide_eq_true h2
    exact decide_eq_true (by omega)
  · simp only [le, Bool.or_eq_true, decide_eq_true_eq]; omega
  · exact pw.imp fun h => decide_eq_true (by omega)
  · refine (List.mergeSort_perm U le).trans ?_
    rw [List.perm_iff_count]
    intro a
    rw [n1.count, nd.count]
    simp only [m1, hm, List.not_mem_nil, false_or]
section
variable {X : Cx}
def z0 (X : Cx) (D : Addr) : HO := SetO X.w D (fun _ => false) 0
theorem cm_setI {el tg iter : Expr} {ifs : List Expr} {scope : Scope} {pos : Pos} : Cm X (.SetComp el [⟨tg, iter, ifs, 0⟩] scope pos) tg iter ifs (newSet (.type "set")) (z0 X) (bdS el X) where
  cls := rfl
  new := fun {pins σ H s Q E} I h => by
    refine PpSet.newSet_ok (h _ ?_ (Heap.size_push ..) fun b o e => Heap.get?_push_of_some _ e)
    refine I.laid (t' := s.toks) (fun b o e => Heap.get?_push_of_some _ e) (Nat.le_refl _) ?_
    exact setO_new (setR_fresh X.w)
  loop := fun J turn n h => PpSet.compLoopS_any J turn n h
  start := fun h1 h2 => PpSet.codeAny_compStart_set h1 h2
def beI (X : Cx) (te : TE) : Be := fun D σ H N => te σ H fun y H1 => ∃ (k : Int) (S : Int → Bool) (n : Nat), y = .int k ∧ H1 D = some (SetO X.w D S n) ∧ n + 1 < scanBound ∧ N (upd H1 D (SetO X.w D (fun j => S j || decide (j = k)) (if S k = true then n else n + 1)))
theorem int_add {pins : List (Addr × Obj)} {σ : L2.St} {H : Hp} {s : Shared} {E : Value → Shared → Prop} {A : Addr} {S : Int → Bool} {n : Nat} {k : Int} {t : Tok} {P : Value → Shared → Prop} (I : L2.Inv X pins σ H s) (hD : H A = some (SetO X.w A S n)) (room : n + 1 < scanBound)
    (h : ∀ s', L2.Inv X pins σ (upd H A (SetO X.w A (fun j => S j || decide (j = k)) (if S k = true then n else n + 1))) s' → P .none s') : wpAny (model X.prog X.w) X.A (call (.builtin "set.add") [.ref A, .int k t]) P E s := by
  refine setR_add (setO_get I hD) room fun h' sb new => h _ ?_
  have at' : ∃ u, h'.get? A = some u := by
    have ⟨o, _, _, _, ho, _⟩ := new
    exact ⟨o, ho⟩
  exact I.write (e := A) (t' := s.toks + 1) (by rw [hD]; trivial) (.inl rfl) (fun b u hb hu => (sb.2 b hb).trans hu) at' (setO_new new)
theorem ok_setI {el : Expr} {te : TE} {s : Shared} {H : Hp} {scope : Scope} {en : PySem.Env} {fp : List Addr} (he : PE (X.blk s H scope en fp) el te) : BdOk (X.blk s H scope en fp) (bdS el X) (beI X te) := by
  intro pins σ H s D N E I h
  refine thnF (he.run pins s σ H _ I h) ?_
  rintro u s1 ⟨y, H1, I1, r1, k, S, n, rfl, h1, h2, h3⟩
  obtain ⟨t, rfl⟩ := r1
  exact int_add (X := X.blk _ _ scope en fp) I1 h1 h2 fun s2 I2 => ⟨_, I2, h3⟩
variable {el tg iter : Expr} {ifs : List Expr} {scope : Scope} {own : List (Str × Nat)} {pos : Pos} {wi : TI} {g : TG} {tt : TT} {te : TE}
def tSi (X : Cx) (wi : TI) (g : TG) (tt : TT) (te : TE) (vs : List Nat) : TE := tCm (z0 X) wi g tt (beI X te) vs
theorem pe_si (hc : X.calm = true) (hN : X.N.Nodup) (hi : PI X tg iter wi) (ok : BlkOk X.N X.env.scope scope own)
    (hg : ∀ (s : Shared) (H : Hp) (C : Addr) (cl : List (Str × Addr)) (fp : List Addr), PG (X.blk s H scope (compEnvC scope cl C X.env) fp) tg g)
    (ht : ∀ (s : Shared) (H : Hp) (C : Addr) (cl : List (Str × Addr)) (fp : List Addr), PTs (X.blk s H scope (compEnvC scope cl C X.env) fp) ifs tt)
    (he : ∀ (s : Shared) (H : Hp) (C : Addr) (cl : List (Str × Addr)) (fp : List Addr), PE (X.blk s H scope (compEnvC scope cl C X.env) fp) el te)
    (hs : ∀ x, foldedSetIterable iter X.env x = pure x) : PE X (.SetComp el [⟨tg, iter, ifs, 0⟩] scope pos) (tSi X wi g tt te (own.map (·.2))) := by
  refine ⟨fun pins s σ H Q I h => ?_⟩
  rw [PpSet.eval_SetComp]
  refine cm_core hc hN cm_setI up_set I hi ok hg ht (fun s H C cl fp => ok_setI (he s H C cl fp)) hs h ?_
  rintro D C s' m H' I' q hn ⟨f0, f1, f2, f3, f4, f5⟩
  exact ⟨m, hn, fun h2 sb => ⟨.ref D, H', I'.turned (t' := s'.toks) (fun b o hb e => (sb.2 b hb).trans e) f0 f1 f3 f4 f5, rfl, q⟩⟩
end
section
variable {M : Nms} {T : Tab} {k : Nat} {N : List Str} {sc : Scope} {top : Str → Bool} {X : Cx} {F : Cl}
theorem ssort_readI {n : Nat} {tgt : Tgt} {ci : CI} {elt : CE} {own : List Nat} (hT : tgIn tgt own = true) {σ : L2.St} {H : Hp} {Q : VK} (h : tSs (fun ys => ∃ js : List Int, ys = js.map .int ∧ js.length < 64) F X.K n tgt ci elt own σ H Q) :
    tCB (rSortedSet X.w) (tCons (tSi X (tEvI F X.K n ci) (gT X.K tgt) tYes (tEv F X.K n elt) own) tNil) σ H Q := by
  obtain ⟨G, μ, env, s, xs, s1, ys, s', R, ev1, ev2, ⟨ks, hks, few⟩, q⟩ := h
  refine ⟨G, μ, env, s, xs, s1, R, ev1, fun J A G1 μ1 H1 x1 S1 hA hJ D hD => ?_⟩
  generalize hgo : goC (fun x => bindT tgt x (wipeE env own)) (fun (_ : MEnv) s => Rs.ok true s) (fun e s => if bor e elt then .no else evE F elt e s) = go at ev2
  let P : Nat → Hp → Prop := fun i H2 => ∃ G2 μ2 st, ∃ js : List Int, ∃ zs, ∃ (S : Int → Bool) (c : Nat), i ≤ xs.length ∧ Ext G1 μ1 H1 G2 μ2 H2 ∧ Sk X.K G2 μ2 H2 st ∧ D ∉ μ2 ∧ ¬ G2 D ∧ H2 D = some (SetO X.w D S c) ∧
    (∀ k, S k = true ↔ k ∈ js) ∧ c ≤ js.length ∧ go (xs.drop i) st = .ok zs s' ∧ js.map .int ++ zs = ys
  have start : P 0 (upd H1 D (z0 X D)) := ⟨G1, μ1, s1, [], ys, fun _ => false, 0, Nat.zero_le _, .laid hD, S1.laid hD, (S1.free hD).1, (S1.free hD).2, upd_same, by simp, by simp, ev2, rfl⟩
  have nt : ∀ S c xs, SetO X.w D S c ≠ .tup xs := fun _ _ _ z => by cases z
  refine ⟨fun i m H2 => m = xs.length - i ∧ P i H2, ⟨_, rfl, start⟩, ?_⟩
  rintro i m H2 ⟨rfl, G2, μ2, st, js, zs, S, c, hi, x2, S2, d1, d2, at2, mem2, len2, ev3, e3⟩
  have same : ∀ a, A a → H2 a = H1 a := by
    intro a ha
    obtain ⟨q1, q2, _⟩ := hA a ha
    cases hh : H1 a with
    | none => exact absurd hh q1
    | some o => exact x2.keep a o q2 hh
  obtain ⟨stop, goes⟩ := hJ G2 μ2 H2 st S2 same (x2.stay S1) i
  by_cases lt : i < xs.length
  · have hx : xs[i]? = some xs[i] := List.getElem?_eq_getElem lt
    obtain ⟨g1, g2⟩ := goes _ hx
    refine .inr ⟨g1, P (i + 1), fun H' p => ⟨xs.length - (i + 1), by omega, rfl, p⟩, fun v H3 hy => ?_⟩
    obtain ⟨x3, S3, hv⟩ := g2 v H3 hy
    rw [drop_at hx, ← hgo] at ev3
    simp only [goC] at ev3
    split at ev3
    · cases ev3
    · rename_i env1 hbd
      simp only [Rs.bind_ok, if_true] at ev3
      obtain ⟨y, s4, ev4, ev5⟩ := Rs.bind_eq_ok ev3
      obtain ⟨zs', s5, ev6, ev7⟩ := Rs.bind_eq_ok ev5
      cases ev7
      split at ev4
      · cases ev4
      · rename_i hb
        have R3 : Rel X.K n G2 μ2 (L2.wipe σ own) H3 (wipeE env own) st := (R.wipe own).ext ((x1.trans x2).trans x3) S3
        refine gT_ok tgt _ v _ _ env1 _ R3 hv hbd fun σ2 R4 hw _ => ⟨by rw [hw own hT, wipe_wipe], ?_⟩
        unfold tYes
        simp only [if_true]
        obtain ⟨b1, b2, b3⟩ := x3.apart at2 d1 d2
        refine ⟨G2, μ2, env1, st, y, s4, R4, ev4, fun z G4 μ4 H4 x4 S4 p4 => ?_⟩
        obtain ⟨c1, c2, c3⟩ := x4.apart b3 b1 b2
        obtain ⟨j, rfl, hj⟩ : ∃ j, y = .int j ∧ j ∈ ks := by
          have : y ∈ ks.map Mi.D.int := by rw [← hks, ← e3]; simp
          obtain ⟨j, h1, h2⟩ := List.mem_map.mp this
          exact ⟨j, h2.symm, h1⟩
        obtain ⟨rfl, _⟩ := p4.top.int (s := []) rfl
        have len5 : js.length + 1 ≤ ks.length := by
          have := congrArg List.length (e3.trans hks)
          simp at this
          omega
        have sb : scanBound = 4096 := rfl
        refine ⟨j, S, c, rfl, c3, by omega, G4, μ4, s4, js ++ [j], zs', _, _, lt, ((x2.trans x3).trans x4).over hD, S4.own c1 c2 c3 (nt S c), c1, c2, upd_same, fun k => ?_, ?_, by rw [← hgo]; exact ev6, by rw [← e3]; simp⟩
        · rw [List.mem_append, List.mem_singleton, ← mem2]
          simp
        · rw [List.length_append, List.length_singleton]
          split <;> omega
  · have e : i = xs.length := by omega
    subst e
    rw [List.drop_length, ← hgo] at ev3
    simp only [goC] at ev3
    cases ev3
    have ej : js = ks := by
      have e4 : js.map Mi.D.int = ks.map Mi.D.int := by rw [← hks, ← e3]; simp
      exact (List.map_inj_right fun a b h => Mi.D.int.inj h).mp e4
    subst ej
    refine .inl ⟨stop (Nat.le_refl _), D, S, c, rfl, at2, by omega, fun ns a pw mem hlen ha => ?_⟩
    have hs : (ys.foldl addD []).mergeSort leD = ns.map .int := by
      rw [hks]
      exact sort_ints (fun k => (mem k).trans (mem2 k)) pw
    have hvs : Vls X.K G2 μ2 H2 (ns.map .int) (ns.map V.int) := by
      clear hs pw mem hlen
      induction ns with
      | nil => exact .nil
      | cons k ns ih => exact .cons (.int k) ih
    rw [hs] at q
    exact q _ G2 μ2 _ ((x1.trans x2).trans (.laid ha)) (S2.laid ha) (.of_new rfl ((new_lst S2 ha hvs).back (x1.trans x2).dom))
theorem r_ssort (C : Cxt M T k N sc top X) {tgt : Tgt} {ci : CI} {elt : CE} {own : List Nat} {tg iter el : Expr} {scope : Scope} {p pos cpos : Pos} (hT : tgIn tgt own = true) (hb : blkC N sc scope (ownN N own) = true) (hgl : gl sc "sorted" = true)
    (hfold : ∀ x, foldedSetIterable iter X.env x = pure x) (hI : PI X tg iter (tEvI F X.K X.N.length ci))
    (hg : ∀ (s : Shared) (H : Hp) (C : Addr) (cl : List (Str × Addr)) (fp : List Addr), PG (X.blk s H scope (compEnvC scope cl C X.env) fp) tg (gT X.K tgt))
    (he : ∀ (s : Shared) (H : Hp) (C : Addr) (cl : List (Str × Addr)) (fp : List Addr), PE (X.blk s H scope (compEnvC scope cl C X.env) fp) el (tEv F X.K X.N.length elt)) :
    PE X (.Call (.Name "sorted" p) [.SetComp el [⟨tg, iter, [], 0⟩] scope pos] [] cpos) (tEv F X.K X.N.length (.ssort tgt ci elt own)) := by
  have hu : X.A.units + 1 < cLine := by have := C.hu; omega
  have hm : X.mg "sorted" = none := C.blt _ (by decide)
  have hN : X.N.Nodup := by rw [C.nN]; exact C.nd
  have ok := blkOk_by (N := X.N) (sc := X.env.scope) (scope := scope) (own := ownN N own) (by rw [C.nN, C.sc]; exact hb)
  have h1 := pe_si (own := ownN N own) (pos := pos) C.calm hN hI ok hg (fun _ _ _ _ _ => pts_nil) he hfold
  have h2 := pe_sm (own := ownN N own) (pos := pos) hu C.calm hN hI ok hg (fun _ _ _ _ _ => pts_nil) he hfold
  have r1 := pe_callB (pos := cpos) (p := p) (cr_sortedSet C.calm) (gl_of C hgl) hm (by decide +kernel) (pa_cons h1 pa_nil rfl) (by decide) (by decide) rfl rfl
  have r2 := pe_callB (pos := cpos) (p := p) (cr_sortedT C.calm) (gl_of C hgl) hm (by decide +kernel) (pa_cons h2 pa_nil rfl) (by decide) (by decide) rfl rfl
  refine ⟨fun pins s σ H Q I h => ?_⟩
  rcases ssort_split h with h | h
  · exact r1.run pins s σ H Q I (by rw [ownN_snd]; exact ssort_readI hT h)
  · exact r2.run pins s σ H Q I (by rw [ownN_snd]; exact ssort_read hT h)
end
end Mi
/-! Z1: zip of n tuples of one length, at the library's level. -/
namespace Mi
open PySem PySem.Spec PyProof.Rows L2
theorem zip_tc (us : List Value) : checkTypeCall "zip" ⟨us, []⟩ = pure () := by kernel_rfl
theorem zip_nc (u : Value) (us : List Value) : checkBuiltinCall "zip.__new__" ⟨.type "zip" :: u :: us, []⟩ = pure () := by kernel_rfl
theorem zip_oc (obj : Value) (us : List Value) : argsOk "object.__init__" ⟨obj :: us, []⟩ := by
  unfold argsOk
  rw [signature?_of (id := "object.__init__") (n := ['_', '_', 't', 'i', 'n', 'i', '_', '_']) (o := ['t', 'c', 'e', 'j', 'b', 'o']) (by kernel_rfl) F.owner_object] <;> kernel_rfl
/-- the zip object at z -/
def ZAt (h : Heap) (z TI TO : Addr) (f0 : Value) (b1 : Bool) : Prop := h.get? z = some { cls := .type "zip", dict := none, data := .fields #[f0, .bool b1, .bool false, .ref TI, .ref TO], slots := #[] }
def TAt (h : Heap) (a : Addr) (us : List Value) : Prop := h.get? a = some { cls := .type "tuple", data := .seq us.toArray }
/-- the places of one zip -/
structure ZLay (z TI TO : Addr) (its ls : List Addr) : Prop where
  nd : its.Nodup
  zi : z ∉ its
  oi : TO ∉ its
  ii : TI ∉ its
  oz : TO ≠ z
  iz : TI ≠ z
  io : TI ≠ TO
  len : ls.length = its.length
  lz : z ∉ ls
  lo : TO ∉ ls
  li : ∀ l ∈ ls, l ∉ its
  ne : its ≠ []
  most : its.length ≤ 1000
section
variable {prog : Program} {w : World} {A : Around} {E : Value → Shared → Prop} {s : Shared}
theorem upd_tuple {T : Addr} {us : List Value} {x : Value} {k : Nat} {Q : Unit → Shared → Prop} (hl : us.length ≤ 1000) (hT : TAt s.heap T us)
    (h : ∀ h', TAt h' T (us.set k x) → Heap.SameBut T s.heap h' → Q () { s with heap := h' }) : wpAny (model prog w) A (updateSeq T (·.setIfInBounds k x)) Q E s := by
  have hs : sizeLine = 16777216 := rfl
  refine wpAny_updateSeq (show s.heap.get? T = some _ from hT) rfl (h _ ?_ (Heap.SameBut.update ..)) (by simp; omega) (by simp; omega)
  show Heap.get? _ _ = _
  rw [Heap.get?_update_self _ (show s.heap.get? T = some _ from hT) rfl]
  simp [Obj.mapSeq]
/-- all has been drawn up to k -/
structure Drawn (h h' : Heap) (z TI TO : Addr) (its ls : List Addr) (b1 : Bool) (row kept : List Value) (i k : Nat) : Prop where
  zz : ZAt h' z TI TO .ellipsis b1
  too : TAt h' TO (row.take k ++ kept.drop k)
  itt : ∀ (j : Nat) (a l : Addr), its[j]? = some a → ls[j]? = some l → h'.IsTupleIter a l (if j < k then i + 1 else i)
  sz : h'.objs.size = h.objs.size
  other : ∀ c o, c ≠ z → c ≠ TO → c ∉ its → h.get? c = some o → h'.get? c = some o
theorem zip_free {z TI TO : Addr} {its ls : List Addr} {b1 : Bool} {row kept : List Value} {i : Nat} {f0 : Value} {Q : Value → Shared → Prop} (Lz : ZLay z TI TO its ls) (hf : f0 = .none ∨ ∃ a : Nat, f0 = rawInt a ∧ s.heap.get? a = none)
    (hz : ZAt s.heap z TI TO f0 b1) (hTI : TAt s.heap TI (its.map .ref)) (hTO : TAt s.heap TO kept) (hk : kept.length = its.length) (hr : row.length = its.length)
    (hi : ∀ (j : Nat) (a l : Addr), its[j]? = some a → ls[j]? = some l → s.heap.IsTupleIter a l i) (hl : ∀ (j : Nat) (l : Addr) (x : Value), ls[j]? = some l → row[j]? = some x → ∃ xs : Array Value, s.heap.IsTuple l xs ∧ xs[i]? = some x)
    (hQ : ∀ h', ZAt h' z TI TO (rawInt s.heap.objs.size) false → TAt h' TI (its.map .ref) → TAt h' TO row → (∀ (j : Nat) (a l : Addr), its[j]? = some a → ls[j]? = some l → h'.IsTupleIter a l (i + 1)) → TAt h' s.heap.objs.size row → h'.objs.size = s.heap.objs.size + 1 →
      (∀ c o, c ≠ z → c ≠ TO → c ∉ its → s.heap.get? c = some o → h'.get? c = some o) → Q (.ref s.heap.objs.size) { s with heap := h' }) :
    wpAny (model prog w) A (Builtin.«zip.__next__» ⟨[.ref z], []⟩) (fun fin s' => ∃ v, fin = .done (.ret v) ∧ Q v s') E s := by
  show wpAny _ _ (field (.ref z) 2 >>= _) _ _ _
  apply wpAny_bind; apply wpAny_field (show s.heap.get? z = some _ from hz) rfl (x := .bool false) rfl
  show wpAny _ _ (field (.ref z) 3 >>= _) _ _ _
  apply wpAny_bind; apply wpAny_field (show s.heap.get? z = some _ from hz) rfl (x := .ref TI) rfl
  apply wpAny_bind; apply wpAny_seqItems (show s.heap.get? TI = some _ from hTI) rfl
  have e : (its.map Value.ref).toArray.isEmpty = false := by
    cases its with
    | nil => exact absurd rfl Lz.ne
    | cons a l => rfl
  simp only [e, Bool.false_eq_true, if_false]
  show wpAny _ _ (Builtin.SmallTypes.ownedTupleIsFree (.ref z) >>= _) _ _ _
  apply wpAny_bind
  have free : ∀ {R : Bool → Shared → Prop}, R true s → wpAny (model prog w) A (Builtin.SmallTypes.ownedTupleIsFree (.ref z)) R E s := fun {R} hR => by
    unfold Builtin.SmallTypes.ownedTupleIsFree
    rcases hf with rfl | ⟨a, rfl, ha⟩
    · apply wpAny_bind; exact wpAny_field (show s.heap.get? z = some _ from hz) rfl (x := .none) rfl (wpAny_pure hR)
    · apply wpAny_bind; apply wpAny_field (show s.heap.get? z = some _ from hz) rfl (x := rawInt a) rfl
      simp only [rawInt, Int.toNat_natCast]
      intro Γ p hΓ
      simp only [loadIfAlive, Sem.wp_bind', Sem.wp_loadIfAlive, ha]
      exact (wpAny_pure hR : wpAny (model prog w) A (pure true) R E s) Γ p hΓ
  refine free ?_
  simp only [if_true]
  apply wpAny_bind; apply wpAny_rule
  apply wpAny_bind; apply wpAny_field (show s.heap.get? z = some _ from hz) rfl (x := .ref TO) rfl
  apply wpAny_bind; refine wpAny_setField_rec (show s.heap.get? z = some _ from hz) (by simp) fun h₁ hz₁ hs₁ => ?_
  replace hz₁ : ZAt h₁ z TI TO .ellipsis b1 := hz₁
  apply wpAny_bind
  refine wpAny_forIn_list _ (fun rest st s' => ∃ k h', rest = (its.map Value.ref).zipIdx.drop k ∧ k ≤ its.length ∧ st = (none, ()) ∧ s' = { s with heap := h' } ∧ Drawn s.heap h' z TI TO its ls b1 row kept i k) _ (fun x rest st s' hI => ?_) (fun st s' hI => ?_) _ _
    ⟨0, h₁, by simp, Nat.zero_le _, rfl, rfl, ⟨hz₁, ?_, fun j a l h1 h2 => ?_, hs₁.1, fun c o c1 _ _ ho => (hs₁.2 c c1).trans ho⟩⟩
  · -- a turn
    obtain ⟨k, h', hrest, hk1, rfl, rfl, Dr⟩ := hI
    have hklt : k < its.length := by
      have := congrArg List.length hrest
      simp at this
      omega
    obtain ⟨rfl, rfl⟩ : x = (Value.ref its[k], k) ∧ rest = (its.map Value.ref).zipIdx.drop (k + 1) := by
      rw [List.drop_eq_getElem_cons (by simpa using hklt)] at hrest
      injection hrest with h1 h2
      refine ⟨h1.trans ?_, h2⟩
      simp
    have hlk : k < ls.length := by rw [Lz.len]; exact hklt
    have hrk : k < row.length := by rw [hr]; exact hklt
    have mem_it : its[k] ∈ its := List.getElem_mem hklt
    have mem_l : ls[k] ∈ ls := List.getElem_mem hlk
    have hit := Dr.itt k its[k] ls[k] (List.getElem?_eq_getElem hklt) (List.getElem?_eq_getElem hlk)
    rw [if_neg (Nat.lt_irrefl k)] at hit
    obtain ⟨xs, hxs, hx⟩ := hl k ls[k] row[k] (List.getElem?_eq_getElem hlk) (List.getElem?_eq_getElem hrk)
    have hxs' : h'.IsTuple ls[k] xs := by
      obtain ⟨o, ho, hr⟩ := hxs
      exact ⟨o, Dr.other _ o (fun c => Lz.lz (c ▸ mem_l)) (fun c => Lz.lo (c ▸ mem_l)) (Lz.li _ mem_l) ho, hr⟩
    apply wpAny_bind
    apply wpAny_onRaise
    show wpAny _ _ (Builtin.SmallTypes.nextOf (.ref its[k]) >>= _) _ _ _
    apply wpAny_bind
    refine RZ.nextOf_tuple_item (s := { s with heap := h' }) hit hxs' hx fun h₂ h1₂ hs₂ => wpAny_pure ?_
    have hit_z : its[k] ≠ z := fun c => Lz.zi (c ▸ mem_it)
    have hit_o : its[k] ≠ TO := fun c => Lz.oi (c ▸ mem_it)
    have hTO₂ : TAt h₂ TO (row.take k ++ kept.drop k) := (hs₂.2 TO (Ne.symm hit_o)).trans Dr.too
    apply wpAny_bind; apply wpAny_seqItems (show h₂.get? TO = some _ from hTO₂) rfl
    apply wpAny_bind
    refine upd_tuple (s := { s with heap := h₂ }) (by rw [List.length_append, List.length_take, List.length_drop]; have := Lz.most; omega) hTO₂ fun h₃ hTO₃ hs₃ => ?_
    apply wpAny_bind; apply wpAny_letGo; apply wpAny_pure
    refine ⟨k + 1, h₃, rfl, hklt, rfl, rfl, ⟨(hs₃.2 z (Ne.symm Lz.oz)).trans ((hs₂.2 z (Ne.symm hit_z)).trans Dr.zz), ?_, fun j a l h1 h2 => ?_, by rw [hs₃.1, hs₂.1, Dr.sz], fun c o c1 c2 c3 ho => ?_⟩⟩
    · have e : (row.take k ++ kept.drop k).set k row[k] = row.take (k+1) ++ kept.drop (k+1) := by
        have e1 : kept.drop k = kept[k]'(by omega) :: kept.drop (k+1) := List.drop_eq_getElem_cons (by omega)
        have e2 : row.take (k+1) = row.take k ++ [row[k]] := by
          rw [List.take_add_one, List.getElem?_eq_getElem hrk]; rfl
        rw [List.set_append_right _ _ (by rw [List.length_take]; omega), List.length_take, Nat.min_eq_left (by omega), Nat.sub_self, e1, e2]
        simp only [List.set_cons_zero, List.append_assoc, List.singleton_append]
      rw [← e]; exact hTO₃
    · by_cases hjk : j = k
      · subst hjk
        rw [List.getElem?_eq_getElem hklt] at h1
        rw [List.getElem?_eq_getElem hlk] at h2
        cases h1; cases h2
        rw [if_pos (Nat.lt_succ_self _)]
        exact h1₂.at fun o ho => (hs₃.2 _ hit_o).trans ho
      · have ha : a ∈ its := List.mem_of_getElem? h1
        have hne : a ≠ its[k] := fun c => by
          subst c
          obtain ⟨j1, e1⟩ := List.getElem?_eq_some_iff.mp h1
          exact hjk ((List.getElem_inj Lz.nd).mp e1)
        have := Dr.itt j a l h1 h2
        rw [show (if j < k + 1 then i + 1 else i) = (if j < k then i + 1 else i) by
          by_cases c : j < k
          · rw [if_pos c, if_pos (by omega)]
          · rw [if_neg c, if_neg (by omega)]]
        exact this.at fun o ho => (hs₃.2 _ (fun c => Lz.oi (c ▸ ha))).trans ((hs₂.2 _ hne).trans ho)
    · exact (hs₃.2 c c2).trans ((hs₂.2 c (fun q => c3 (q ▸ mem_it))).trans (Dr.other c o c1 c2 c3 ho))
  · -- the end
    obtain ⟨k, h', hrest, hk1, rfl, rfl, Dr⟩ := hI
    have hkn : k = its.length := by
      have := congrArg List.length hrest
      simp at this
      omega
    subst hkn
    have hTO' : TAt h' TO row := by
      have := Dr.too
      rwa [← hr, List.take_length, hr, ← hk, List.drop_length, List.append_nil] at this
    apply wpAny_bind; apply wpAny_seqItems (show h'.get? TO = some _ from hTO') rfl
    apply wpAny_bind; refine wpAny_newTuple ?_ (by have := Lz.most; have hs : sizeLine = 16777216 := rfl; simp; omega)
    show wpAny _ _ (Builtin.SmallTypes.ownedTupleHandOut (.ref z) (.ref h'.objs.size) >>= _) _ _ _
    apply wpAny_bind
    unfold Builtin.SmallTypes.ownedTupleHandOut
    have hzlt : z < h'.objs.size := Heap.lt_size Dr.zz
    have hz₆ : ZAt (h'.push { cls := .type "tuple", data := .seq row.toArray.toList.toArray }) z TI TO .ellipsis b1 := Heap.get?_push_of_some _ Dr.zz
    apply wpAny_bind
    refine wpAny_setField_rec (show Heap.get? _ z = some _ from hz₆) (by simp) fun h₇ hz₇ hs₇ => ?_
    replace hz₇ : ZAt h₇ z TI TO (rawInt h'.objs.size) b1 := hz₇
    refine wpAny_setField_rec (show Heap.get? _ z = some _ from hz₇) (by simp) fun h₈ hz₈ hs₈ => ?_
    replace hz₈ : ZAt h₈ z TI TO (rawInt h'.objs.size) false := hz₈
    have up : ∀ c o, c ≠ z → h'.get? c = some o → h₈.get? c = some o := fun c o c1 ho => (hs₈.2 c c1).trans ((hs₇.2 c c1).trans (Heap.get?_push_of_some _ ho))
    have hT₈ : TAt h₈ h'.objs.size row := by
      refine (hs₈.2 _ (Nat.ne_of_gt hzlt)).trans ((hs₇.2 _ (Nat.ne_of_gt hzlt)).trans ?_)
      have := Heap.get?_push_size h' (o := { cls := .type "tuple", data := .seq row.toArray.toList.toArray }) rfl
      simpa using this
    have hz8 : h₈.objs.size = h'.objs.size + 1 := by rw [hs₈.1, hs₇.1, Heap.size_push]
    rw [Dr.sz] at hz₈ hT₈ hz8
    refine wpAny_pure ⟨_, rfl, ?_⟩
    show Q (.ref h'.objs.size) _
    rw [Dr.sz]
    refine hQ h₈ hz₈ (up TI _ Lz.iz (Dr.other TI _ Lz.iz Lz.io Lz.ii hTI)) (up TO _ Lz.oz hTO') (fun j a l h1 h2 => ?_) hT₈ hz8 fun c o c1 c2 c3 ho => up c o c1 (Dr.other c o c1 c2 c3 ho)
    have ha : a ∈ its := List.mem_of_getElem? h1
    have := Dr.itt j a l h1 h2
    rw [if_pos (List.getElem?_eq_some_iff.mp h1).1] at this
    exact this.at fun o ho => up _ o (fun c => Lz.zi (c ▸ ha)) ho
  · rw [List.take_zero, List.drop_zero, List.nil_append]
    exact (hs₁.2 TO Lz.oz).trans hTO
  · rw [if_neg (Nat.not_lt_zero j)]
    have ha : a ∈ its := List.mem_of_getElem? h1
    exact (hi j a l h1 h2).at fun o ho => (hs₁.2 _ (fun c => Lz.zi (c ▸ ha))).trans ho
end
end Mi
/-! Z2: zip of n tuples: the other way of a turn, the end. -/
namespace Mi
open PySem PySem.Spec PyProof.Rows L2
section
variable {prog : Program} {w : World} {A : Around} {E : Value → Shared → Prop} {s : Shared}
structure DrawnB (h h' : Heap) (z TI TO : Addr) (its ls : List Addr) (f0 : Value) (b1 : Bool) (i k : Nat) : Prop where
  zz : ZAt h' z TI TO f0 b1
  itt : ∀ (j : Nat) (a l : Addr), its[j]? = some a → ls[j]? = some l → h'.IsTupleIter a l (if j < k then i + 1 else i)
  sz : h'.objs.size = h.objs.size
  other : ∀ c o, c ≠ z → c ∉ its → h.get? c = some o → h'.get? c = some o
theorem zip_kept {z TI TO : Addr} {its ls : List Addr} {b1 : Bool} {row : List Value} {i : Nat} {a : Nat} {oo : Obj} {Q : Value → Shared → Prop} (Lz : ZLay z TI TO its ls) (ha : s.heap.get? a = some oo)
    (hz : ZAt s.heap z TI TO (rawInt a) b1) (hTI : TAt s.heap TI (its.map .ref)) (hr : row.length = its.length)
    (hi : ∀ (j : Nat) (a l : Addr), its[j]? = some a → ls[j]? = some l → s.heap.IsTupleIter a l i) (hl : ∀ (j : Nat) (l : Addr) (x : Value), ls[j]? = some l → row[j]? = some x → ∃ xs : Array Value, s.heap.IsTuple l xs ∧ xs[i]? = some x)
    (hQ : ∀ h', ZAt h' z TI TO (rawInt a) true → (∀ (j : Nat) (a l : Addr), its[j]? = some a → ls[j]? = some l → h'.IsTupleIter a l (i + 1)) → TAt h' s.heap.objs.size row → h'.objs.size = s.heap.objs.size + 1 →
      (∀ c o, c ≠ z → c ∉ its → s.heap.get? c = some o → h'.get? c = some o) → Q (.ref s.heap.objs.size) { s with heap := h' }) :
    wpAny (model prog w) A (Builtin.«zip.__next__» ⟨[.ref z], []⟩) (fun fin s' => ∃ v, fin = .done (.ret v) ∧ Q v s') E s := by
  show wpAny _ _ (field (.ref z) 2 >>= _) _ _ _
  apply wpAny_bind; apply wpAny_field (show s.heap.get? z = some _ from hz) rfl (x := .bool false) rfl
  show wpAny _ _ (field (.ref z) 3 >>= _) _ _ _
  apply wpAny_bind; apply wpAny_field (show s.heap.get? z = some _ from hz) rfl (x := .ref TI) rfl
  apply wpAny_bind; apply wpAny_seqItems (show s.heap.get? TI = some _ from hTI) rfl
  have e : (its.map Value.ref).toArray.isEmpty = false := by
    cases its with
    | nil => exact absurd rfl Lz.ne
    | cons a l => rfl
  simp only [e, Bool.false_eq_true, if_false]
  show wpAny _ _ (Builtin.SmallTypes.ownedTupleIsFree (.ref z) >>= _) _ _ _
  apply wpAny_bind
  have busy : ∀ {R : Bool → Shared → Prop}, (∀ h₁, ZAt h₁ z TI TO (rawInt a) true → Heap.SameBut z s.heap h₁ → R false { s with heap := h₁ }) → wpAny (model prog w) A (Builtin.SmallTypes.ownedTupleIsFree (.ref z)) R E s := fun {R} hR => by
    unfold Builtin.SmallTypes.ownedTupleIsFree
    apply wpAny_bind; apply wpAny_field (show s.heap.get? z = some _ from hz) rfl (x := rawInt a) rfl
    simp only [rawInt, Int.toNat_natCast]
    have go : wpAny (model prog w) A (do
        let __do_lift ← field (Value.ref z) 1
        if (__do_lift != Value.bool true) = true then do
            setField (Value.ref z) 1 (Value.bool true)
            pure false
          else pure false) R E s := by
      apply wpAny_bind; apply wpAny_field (show s.heap.get? z = some _ from hz) rfl (x := .bool b1) rfl
      cases b1 with
      | true =>
        have : (Value.bool true != Value.bool true) = false := rfl
        rw [this]
        simp only [Bool.false_eq_true, if_false]
        exact wpAny_pure (hR s.heap hz (.refl ..))
      | false =>
        have : (Value.bool false != Value.bool true) = true := rfl
        rw [this]
        simp only [if_true]
        apply wpAny_bind
        exact wpAny_setField_rec (show s.heap.get? z = some _ from hz) (by simp) fun h₁ hz₁ hs₁ => wpAny_pure (hR h₁ hz₁ hs₁)
    intro Γ p hΓ
    simp only [loadIfAlive, Sem.wp_bind', Sem.wp_loadIfAlive, ha]
    exact go Γ p hΓ
  refine busy fun h₁ hz₁ hs₁ => ?_
  simp only [Bool.false_eq_true, if_false]
  apply wpAny_bind
  refine PySem.MeetsSeq2.wpAny_forIn_array _ (fun rest st s' => ∃ k h', rest = (its.map Value.ref).drop k ∧ k ≤ its.length ∧ st = (none, (row.take k).toArray) ∧ s' = { s with heap := h' } ∧ DrawnB s.heap h' z TI TO its ls (rawInt a) true i k) _ (fun x rest st s' hI => ?_) (fun st s' hI => ?_) _ _
    ⟨0, h₁, by simp, Nat.zero_le _, by simp, rfl, ⟨hz₁, fun j a l h1 h2 => ?_, hs₁.1, fun c o c1 _ ho => (hs₁.2 c c1).trans ho⟩⟩
  · obtain ⟨k, h', hrest, hk1, rfl, rfl, Dr⟩ := hI
    have hklt : k < its.length := by
      have := congrArg List.length hrest
      simp at this
      omega
    obtain ⟨rfl, rfl⟩ : x = Value.ref its[k] ∧ rest = (its.map Value.ref).drop (k + 1) := by
      rw [List.drop_eq_getElem_cons (by simpa using hklt)] at hrest
      injection hrest with h1 h2
      refine ⟨h1.trans ?_, h2⟩
      simp
    have hlk : k < ls.length := by rw [Lz.len]; exact hklt
    have hrk : k < row.length := by rw [hr]; exact hklt
    have mem_it : its[k] ∈ its := List.getElem_mem hklt
    have mem_l : ls[k] ∈ ls := List.getElem_mem hlk
    have hit := Dr.itt k its[k] ls[k] (List.getElem?_eq_getElem hklt) (List.getElem?_eq_getElem hlk)
    rw [if_neg (Nat.lt_irrefl k)] at hit
    obtain ⟨xs, hxs, hx⟩ := hl k ls[k] row[k] (List.getElem?_eq_getElem hlk) (List.getElem?_eq_getElem hrk)
    have hxs' : h'.IsTuple ls[k] xs := by
      obtain ⟨o, ho, hr⟩ := hxs
      exact ⟨o, Dr.other _ o (fun c => Lz.lz (c ▸ mem_l)) (Lz.li _ mem_l) ho, hr⟩
    apply wpAny_bind; apply wpAny_holding
    show wpAny _ _ (Builtin.SmallTypes.nextOf (.ref its[k]) >>= _) _ _ _
    apply wpAny_bind
    refine RZ.nextOf_tuple_item (s := { s with heap := h' }) hit hxs' hx fun h₂ h1₂ hs₂ => wpAny_pure ?_
    have hit_z : its[k] ≠ z := fun c => Lz.zi (c ▸ mem_it)
    apply wpAny_pure
    refine ⟨k + 1, h₂, rfl, hklt, ?_, rfl, ⟨(hs₂.2 z (Ne.symm hit_z)).trans Dr.zz, fun j a l h1 h2 => ?_, by rw [hs₂.1, Dr.sz], fun c o c1 c3 ho => (hs₂.2 c (fun q => c3 (q ▸ mem_it))).trans (Dr.other c o c1 c3 ho)⟩⟩
    · have e2 : row.take (k+1) = row.take k ++ [row[k]] := by
        rw [List.take_add_one, List.getElem?_eq_getElem hrk]; rfl
      rw [e2]; simp
    · by_cases hjk : j = k
      · subst hjk
        rw [List.getElem?_eq_getElem hklt] at h1
        rw [List.getElem?_eq_getElem hlk] at h2
        cases h1; cases h2
        rw [if_pos (Nat.lt_succ_self _)]
        exact h1₂
      · have ha : a ∈ its := List.mem_of_getElem? h1
        have hne : a ≠ its[k] := fun c => by
          subst c
          obtain ⟨j1, e1⟩ := List.getElem?_eq_some_iff.mp h1
          exact hjk ((List.getElem_inj Lz.nd).mp e1)
        have := Dr.itt j a l h1 h2
        rw [show (if j < k + 1 then i + 1 else i) = (if j < k then i + 1 else i) by
          by_cases c : j < k
          · rw [if_pos c, if_pos (by omega)]
          · rw [if_neg c, if_neg (by omega)]]
        exact this.at fun o ho => (hs₂.2 _ hne).trans ho
  · obtain ⟨k, h', hrest, hk1, rfl, rfl, Dr⟩ := hI
    have hkn : k = its.length := by
      have := congrArg List.length hrest
      simp at this
      omega
    subst hkn
    rw [← hr, List.take_length]
    apply wpAny_bind; refine wpAny_newTuple ?_ (by have := Lz.most; have hs : sizeLine = 16777216 := rfl; simp; omega)
    refine wpAny_pure ⟨_, rfl, ?_⟩
    show Q (.ref h'.objs.size) _
    rw [Dr.sz]
    have hT : TAt (h'.push { cls := .type "tuple", data := .seq row.toArray.toList.toArray }) s.heap.objs.size row := by
      have := Heap.get?_push_size h' (o := { cls := .type "tuple", data := .seq row.toArray.toList.toArray }) rfl
      rw [Dr.sz] at this
      show Heap.get? _ _ = some _
      simpa using this
    refine hQ _ (Heap.get?_push_of_some _ Dr.zz) (fun j a l h1 h2 => ?_) hT (by rw [Heap.size_push, Dr.sz]) fun c o c1 c3 ho => Heap.get?_push_of_some _ (Dr.other c o c1 c3 ho)
    have := Dr.itt j a l h1 h2
    rw [if_pos (List.getElem?_eq_some_iff.mp h1).1] at this
    exact this.at fun o ho => Heap.get?_push_of_some _ ho
  · rw [if_neg (Nat.not_lt_zero j)]
    have ha : a ∈ its := List.mem_of_getElem? h1
    exact (hi j a l h1 h2).at fun o ho => (hs₁.2 _ (fun c => Lz.zi (c ▸ ha))).trans ho
/-- the end: the first tuple has no item more -/
theorem zip_end {z TI TO : Addr} {its ls : List Addr} {f0 : Value} {b1 : Bool} {kept : List Value} {i : Nat} {Q : Fin → Shared → Prop} (hh : A.handled = none) (Lz : ZLay z TI TO its ls) (hf : f0 = .none ∨ ∃ a : Nat, f0 = rawInt a)
    (hz : ZAt s.heap z TI TO f0 b1) (hTI : TAt s.heap TI (its.map .ref)) (hTO : TAt s.heap TO kept)
    (hi : ∀ (j : Nat) (a l : Addr), its[j]? = some a → ls[j]? = some l → s.heap.IsTupleIter a l i) (hl : ∀ (l : Addr), ls[0]? = some l → ∃ xs : Array Value, s.heap.IsTuple l xs ∧ xs[i]? = none)
    (hE : ∀ h' e, (∀ c o, c ≠ z → c ≠ TO → c ∉ its → s.heap.get? c = some o → h'.get? c = some o) → (∃ o, h'.get? e = some o ∧ o.cls = .type "StopIteration") → E (.ref e) { s with heap := h' }) :
    wpAny (model prog w) A (Builtin.«zip.__next__» ⟨[.ref z], []⟩) Q E s := by
  obtain ⟨it0, its', rfl⟩ : ∃ it0 its', its = it0 :: its' := by
    cases its with
    | nil => exact absurd rfl Lz.ne
    | cons a l => exact ⟨a, l, rfl⟩
  have hln := Lz.len
  obtain ⟨l0, ls', rfl⟩ : ∃ l0 ls', ls = l0 :: ls' := by
    cases ls with
    | nil => simp at hln
    | cons a l => exact ⟨a, l, rfl⟩
  obtain ⟨xs, hxs, hx⟩ := hl l0 rfl
  have hit := hi 0 it0 l0 rfl rfl
  have z1 : it0 ≠ z := fun c => Lz.zi (c ▸ List.mem_cons_self)
  have z2 : it0 ≠ TO := fun c => Lz.oi (c ▸ List.mem_cons_self)
  have z3 : l0 ≠ z := fun c => Lz.lz (c ▸ List.mem_cons_self)
  show wpAny _ _ (field (.ref z) 2 >>= _) _ _ _
  apply wpAny_bind; apply wpAny_field (show s.heap.get? z = some _ from hz) rfl (x := .bool false) rfl
  show wpAny _ _ (field (.ref z) 3 >>= _) _ _ _
  apply wpAny_bind; apply wpAny_field (show s.heap.get? z = some _ from hz) rfl (x := .ref TI) rfl
  apply wpAny_bind; apply wpAny_seqItems (show s.heap.get? TI = some _ from hTI) rfl
  have e : ((it0 :: its').map Value.ref).toArray.isEmpty = false := rfl
  simp only [e, Bool.false_eq_true, if_false]
  show wpAny _ _ (Builtin.SmallTypes.ownedTupleIsFree (.ref z) >>= _) _ _ _
  apply wpAny_bind
  have look : ∀ {R : Bool → Shared → Prop}, (∀ b h₁ f1 b2, ZAt h₁ z TI TO f1 b2 → Heap.SameBut z s.heap h₁ → R b { s with heap := h₁ }) → wpAny (model prog w) A (Builtin.SmallTypes.ownedTupleIsFree (.ref z)) R E s := fun {R} hR => by
    unfold Builtin.SmallTypes.ownedTupleIsFree
    rcases hf with rfl | ⟨a, rfl⟩
    · apply wpAny_bind; exact wpAny_field (show s.heap.get? z = some _ from hz) rfl (x := .none) rfl (wpAny_pure (hR true s.heap _ _ hz (.refl ..)))
    · apply wpAny_bind; apply wpAny_field (show s.heap.get? z = some _ from hz) rfl (x := rawInt a) rfl
      simp only [rawInt, Int.toNat_natCast]
      have go : wpAny (model prog w) A (do
          let __do_lift ← field (Value.ref z) 1
          if (__do_lift != Value.bool true) = true then do
              setField (Value.ref z) 1 (Value.bool true)
              pure false
            else pure false) R E s := by
        apply wpAny_bind; apply wpAny_field (show s.heap.get? z = some _ from hz) rfl (x := .bool b1) rfl
        cases b1 with
        | true =>
          have : (Value.bool true != Value.bool true) = false := rfl
          rw [this]
          simp only [Bool.false_eq_true, if_false]
          exact wpAny_pure (hR false s.heap _ _ hz (.refl ..))
        | false =>
          have : (Value.bool false != Value.bool true) = true := rfl
          rw [this]
          simp only [if_true]
          apply wpAny_bind
          exact wpAny_setField_rec (show s.heap.get? z = some _ from hz) (by simp) fun h₁ hz₁ hs₁ => wpAny_pure (hR false h₁ _ _ hz₁ hs₁)
      intro Γ p hΓ
      simp only [loadIfAlive, Sem.wp_bind', Sem.wp_loadIfAlive]
      cases ha : s.heap.get? a with
      | none => exact (wpAny_pure (hR true s.heap _ _ hz (.refl ..)) : wpAny (model prog w) A (pure true) R E s) Γ p hΓ
      | some o => exact go Γ p hΓ
  refine look fun b h₁ f1 b2 hz₁ hs₁ => ?_
  have hit₁ : h₁.IsTupleIter it0 l0 i := hit.at fun o ho => (hs₁.2 _ z1).trans ho
  have hxs₁ : h₁.IsTuple l0 xs := by
    obtain ⟨o, ho, hr⟩ := hxs
    exact ⟨o, (hs₁.2 _ z3).trans ho, hr⟩
  have hTO₁ : TAt h₁ TO kept := (hs₁.2 _ Lz.oz).trans hTO
  cases b with
  | true =>
    simp only [if_true]
    apply wpAny_bind; apply wpAny_rule
    apply wpAny_bind; apply wpAny_field (s := { s with heap := h₁ }) (show h₁.get? z = some _ from hz₁) rfl (x := .ref TO) rfl
    apply wpAny_bind; refine wpAny_setField_rec (s := { s with heap := h₁ }) (show h₁.get? z = some _ from hz₁) (by simp) fun h₂ hz₂ hs₂ => ?_
    apply wpAny_bind
    simp only [List.map_cons, List.zipIdx_cons, List.forIn_cons]
    apply wpAny_bind; apply wpAny_bind; apply wpAny_onRaise
    show wpAny _ _ (Builtin.SmallTypes.nextOf (.ref it0) >>= _) _ _ _
    apply wpAny_bind
    refine RZ.nextOf_tuple_end (s := { s with heap := h₂ }) hh (hit₁.at fun o ho => (hs₂.2 _ z1).trans ho) (by obtain ⟨o, ho, hr⟩ := hxs₁; exact ⟨o, (hs₂.2 _ z3).trans ho, hr⟩) hx fun h₃ ee hs₃ hee => ?_
    obtain ⟨oe, hoe, hce⟩ := hee
    have hz₃ : h₃.get? z = some _ := hs₃ _ _ (Ne.symm z1) hz₂
    have hez : ee ≠ z := fun c => by subst c; rw [hz₃] at hoe; cases hoe; simp at hce
    refine wpAny_setField_rec (s := { s with heap := h₃ }) hz₃ (by simp) fun h₄ _ hs₄ => hE h₄ ee (fun c o c1 c2 c3 ho => ?_) ⟨oe, (hs₄.2 _ hez).trans hoe, hce⟩
    exact (hs₄.2 _ c1).trans (hs₃ _ _ (fun q => c3 (q ▸ List.mem_cons_self)) ((hs₂.2 _ c1).trans ((hs₁.2 _ c1).trans ho)))
  | false =>
    simp only [Bool.false_eq_true, if_false]
    apply wpAny_bind
    rw [← Array.forIn_toList]
    simp only [List.map_cons, List.forIn_cons]
    apply wpAny_bind; apply wpAny_bind; apply wpAny_holding
    show wpAny _ _ (Builtin.SmallTypes.nextOf (.ref it0) >>= _) _ _ _
    apply wpAny_bind
    refine RZ.nextOf_tuple_end (s := { s with heap := h₁ }) hh hit₁ hxs₁ hx fun h₃ ee hs₃ hee => ?_
    exact hE h₃ ee (fun c o c1 c2 c3 ho => hs₃ _ _ (fun q => c3 (q ▸ List.mem_cons_self)) ((hs₁.2 _ c1).trans ho)) hee
end
end Mi
/-! Z3: zip of n tuples is made. -/
namespace Mi
open PySem PySem.Spec PyProof.Rows L2
/-- iterators, laid one behind another -/
def itH : Heap → List Addr → Heap
  | h, [] => h
  | h, l :: ls => itH (h.push { cls := .type "tuple_iterator", data := .fields #[.ref l, .int 0 0] }) ls
theorem itH_size : ∀ (ls : List Addr) (h : Heap), (itH h ls).objs.size = h.objs.size + ls.length
  | [], h => rfl
  | l :: ls, h => by rw [itH, itH_size ls, Heap.size_push, List.length_cons]; omega
theorem itH_keep : ∀ (ls : List Addr) (h : Heap) (c : Addr) (o : Obj), h.get? c = some o → (itH h ls).get? c = some o
  | [], _, _, _, e => e
  | l :: ls, h, c, o, e => itH_keep ls _ c o (Heap.get?_push_of_some _ e)
theorem itH_at : ∀ (ls : List Addr) (h : Heap) (j : Nat) (l : Addr), ls[j]? = some l → (itH h ls).IsTupleIter (h.objs.size + j) l 0
  | [], _, _, _, e => by simp at e
  | l :: ls, h, 0, m, e => by
    cases e
    exact ⟨_, itH_keep ls _ _ _ (Heap.get?_push_size h rfl), rfl, rfl⟩
  | l :: ls, h, j + 1, m, e => by
    have := itH_at ls (h.push { cls := .type "tuple_iterator", data := .fields #[.ref l, .int 0 0] }) j m e
    rw [Heap.size_push, show h.objs.size + 1 + j = h.objs.size + (j + 1) by omega] at this
    exact this
def adds (b n : Nat) : List Addr := (List.range n).map fun j => b + j
theorem itH_snoc : ∀ (ls : List Addr) (h : Heap) (l : Addr), itH h (ls ++ [l]) = (itH h ls).push { cls := .type "tuple_iterator", data := .fields #[.ref l, .int 0 0] }
  | [], _, _ => rfl
  | a :: ls, h, l => by rw [List.cons_append, itH, itH, itH_snoc ls]
section
variable {prog : Program} {w : World} {A : Around} {E : Value → Shared → Prop} {s : Shared}
theorem iterAll_tuples (ls : List Addr) {Q : List Value → Shared → Prop} (hl : ∀ l ∈ ls, ∃ xs : Array Value, s.heap.IsTuple l xs) (hQ : Q ((adds s.heap.objs.size ls.length).map .ref) { s with heap := itH s.heap ls }) :
    wpAny (model prog w) A (Builtin.SmallTypes.iterAll (ls.map .ref)) Q E s := by
  unfold Builtin.SmallTypes.iterAll
  apply wpAny_bind
  refine wpAny_forIn_list _ (fun rest st s' => ∃ k, rest = (ls.map Value.ref).drop k ∧ k ≤ ls.length ∧ st = ((adds s.heap.objs.size k).map Value.ref).toArray ∧ s' = { s with heap := itH s.heap (ls.take k) }) _ (fun x rest st s' hI => ?_) (fun st s' hI => ?_) _ _ ⟨0, rfl, Nat.zero_le _, rfl, rfl⟩
  · obtain ⟨k, hrest, hk1, rfl, rfl⟩ := hI
    have hklt : k < ls.length := by
      have := congrArg List.length hrest
      simp at this
      omega
    obtain ⟨rfl, rfl⟩ : x = Value.ref ls[k] ∧ rest = (ls.map Value.ref).drop (k + 1) := by
      rw [List.drop_eq_getElem_cons (by simpa using hklt)] at hrest
      injection hrest with h1 h2
      refine ⟨h1.trans ?_, h2⟩
      simp
    obtain ⟨xs, o, ho, hr⟩ := hl ls[k] (List.getElem_mem hklt)
    have ht : (itH s.heap (ls.take k)).IsTuple ls[k] xs := ⟨o, itH_keep _ _ _ _ ho, hr⟩
    apply wpAny_bind; apply wpAny_holding
    refine wpAny_pyIter_tuple (s := { s with heap := itH s.heap (ls.take k) }) ht ?_
    apply wpAny_pure
    refine ⟨k + 1, rfl, hklt, ?_, ?_⟩
    · show ((adds s.heap.objs.size k).map Value.ref).toArray.push (.ref (itH s.heap (ls.take k)).objs.size) = _
      rw [itH_size, List.length_take, Nat.min_eq_left (by omega)]
      simp [adds, List.range_succ]
    · have e : ls.take (k+1) = ls.take k ++ [ls[k]] := by
        rw [List.take_add_one, List.getElem?_eq_getElem hklt]; rfl
      rw [e, itH_snoc]
  · obtain ⟨k, hrest, hk1, rfl, rfl⟩ := hI
    have hkn : k = ls.length := by
      have := congrArg List.length hrest
      simp at this
      omega
    subst hkn
    rw [List.take_length]
    apply wpAny_pure
    simpa using hQ
/-- what has been laid -/
structure Laid (h h' : Heap) (ls : List Addr) : Prop where
  zz : ZAt h' (h.objs.size + ls.length + 2) (h.objs.size + ls.length) (h.objs.size + ls.length + 1) .none false
  ti : TAt h' (h.objs.size + ls.length) ((adds h.objs.size ls.length).map .ref)
  too : TAt h' (h.objs.size + ls.length + 1) (List.replicate ls.length .none)
  itt : ∀ (j : Nat) (l : Addr), ls[j]? = some l → h'.IsTupleIter (h.objs.size + j) l 0
  keep : ∀ c o, h.get? c = some o → h'.get? c = some o
theorem meets_zipN (ls : List Addr) (hn : ls.length ≤ 1000) : Meets (Builtin.«zip.__new__» ⟨.type "zip" :: ls.map .ref, []⟩) (fun _ R s => (∀ l ∈ ls, ∃ xs : Array Value, s.heap.IsTuple l xs) ∧
    ∀ h', Laid s.heap h' ls → R (.ok (.ret (.ref (s.heap.objs.size + ls.length + 2)))) { s with heap := h' }) :=
  .of_wp fun prog w A R s h => by
    obtain ⟨hl, h⟩ := h
    have hsub := sub_zip
    have hsl : sizeLine = 16777216 := rfl
    have hnew : wpAny (model prog w) A.in1 (Builtin.SmallTypes.newClass "zip" ⟨.type "zip" :: ls.map .ref, []⟩) (fun r s' => r = (.type "zip", ls.map .ref) ∧ s' = s) (fun e s' => R (.error e) s') s := by
      wp_walk
      exact ⟨rfl, rfl⟩
    unfold Builtin.«zip.__new__»
    apply wpAny_bind
    refine wpAny_mono hnew (fun r s' hr => ?_) fun _ _ x => x
    obtain ⟨rfl, rfl⟩ := hr
    dsimp only
    rw [if_neg (by simp)]
    apply wpAny_bind
    refine iterAll_tuples ls hl ?_
    apply wpAny_bind; refine wpAny_newTuple ?_ (by simp [adds]; omega)
    apply wpAny_bind; refine wpAny_newTuple ?_ (by simp [adds]; omega)
    apply wpAny_bind
    unfold Builtin.SmallTypes.newRecord
    dsimp only
    refine wpAny_newObj_type ?_ (by first | trivial | rfl | (simp [sizeOk, Builtin.SmallTypes.ownedTupleFields]; omega))
    refine wpAny_pure ⟨_, rfl, ?_⟩
    generalize hh1 : itH s'.heap ls = h1 at *
    have n1 : h1.objs.size = s'.heap.objs.size + ls.length := by rw [← hh1, itH_size]
    have hrep : (List.map (fun _ => Value.none) ((adds s'.heap.objs.size ls.length).map Value.ref)) = List.replicate ls.length Value.none := by
      rw [List.map_map]
      exact List.eq_replicate_iff.mpr ⟨by simp [adds], fun x hx => by obtain ⟨_, _, rfl⟩ := List.mem_map.mp hx; rfl⟩
    have key : ∀ (T1 T2 : Obj), T1.isFreed = false → T2.isFreed = false → T1 = { cls := .type "tuple", data := .seq ((adds s'.heap.objs.size ls.length).map Value.ref).toArray } → T2 = { cls := .type "tuple", data := .seq (List.replicate ls.length Value.none).toArray } →
        Laid s'.heap (((h1.push T1).push T2).push { cls := .type "zip", data := .fields #[.none, .bool false, .bool false, .ref h1.objs.size, .ref (h1.push T1).objs.size] }) ls := by
      rintro T1 T2 f1 f2 rfl rfl
      have s1 := Heap.size_push h1 { cls := .type "tuple", data := .seq ((adds s'.heap.objs.size ls.length).map Value.ref).toArray }
      have s2 := Heap.size_push (h1.push { cls := .type "tuple", data := .seq ((adds s'.heap.objs.size ls.length).map Value.ref).toArray }) { cls := .type "tuple", data := .seq (List.replicate ls.length Value.none).toArray }
      refine ⟨?_, ?_, ?_, fun j l hj => ?_, fun c o ho => ?_⟩
      · have := Heap.get?_push_size ((h1.push { cls := .type "tuple", data := .seq ((adds s'.heap.objs.size ls.length).map Value.ref).toArray }).push { cls := .type "tuple", data := .seq (List.replicate ls.length Value.none).toArray })
          (o := { cls := .type "zip", data := .fields #[.none, .bool false, .bool false, .ref h1.objs.size, .ref (h1.push { cls := .type "tuple", data := .seq ((adds s'.heap.objs.size ls.length).map Value.ref).toArray }).objs.size] }) rfl
        rw [s2, s1, n1] at this
        unfold ZAt
        rw [s1, n1]
        exact this
      · have := Heap.get?_push_size h1 (o := { cls := .type "tuple", data := .seq ((adds s'.heap.objs.size ls.length).map Value.ref).toArray }) rfl
        rw [n1] at this
        exact Heap.get?_push_of_some _ (Heap.get?_push_of_some _ this)
      · have := Heap.get?_push_size (h1.push { cls := .type "tuple", data := .seq ((adds s'.heap.objs.size ls.length).map Value.ref).toArray }) (o := { cls := .type "tuple", data := .seq (List.replicate ls.length Value.none).toArray }) rfl
        rw [s1, n1] at this
        exact Heap.get?_push_of_some _ this
      · have := itH_at ls s'.heap j l hj
        rw [hh1] at this
        exact this.at fun o ho => Heap.get?_push_of_some _ (Heap.get?_push_of_some _ (Heap.get?_push_of_some _ ho))
      · have := itH_keep ls s'.heap c o ho
        rw [hh1] at this
        exact Heap.get?_push_of_some _ (Heap.get?_push_of_some _ (Heap.get?_push_of_some _ this))
    have hL := h _ (key _ { cls := .type "tuple", data := .seq (List.map (fun _ => Value.none) ((adds s'.heap.objs.size ls.length).map Value.ref)).toArray } rfl rfl rfl (by rw [hrep]))
    have hsz : s'.heap.objs.size + ls.length + 2 = ((h1.push { cls := .type "tuple", data := .seq ((adds s'.heap.objs.size ls.length).map Value.ref).toArray }).push { cls := .type "tuple", data := .seq (List.map (fun _ => Value.none) ((adds s'.heap.objs.size ls.length).map Value.ref)).toArray }).objs.size := by
      rw [Heap.size_push, Heap.size_push, n1]
    rw [hsz] at hL
    exact hL
theorem call_zipN {u : Addr} {ls : List Addr} {Q : Value → Shared → Prop} (hn : (u :: ls).length ≤ 1000) (hl : ∀ l ∈ u :: ls, ∃ xs : Array Value, s.heap.IsTuple l xs)
    (h : ∀ h', Laid s.heap h' (u :: ls) → Q (.ref (s.heap.objs.size + (u :: ls).length + 2)) { s with heap := h' }) : wpAny (model prog w) A (call (.type "zip") ((u :: ls).map .ref)) Q E s := by
  refine callType_new F.called_zip (by decide) (zip_tc _) (zip_nc _ _) (fun obj => zip_oc obj _) F.entry_zip_new (meets_zipN (u :: ls) hn) ⟨hl, fun h' L => ?_⟩
  exact ⟨⟨_, L.zz, rfl⟩, h h' L⟩
end
end Mi
/-! Z4: what walks zip(*xs). -/
namespace Mi
open PySem PySem.Spec PyProof.Rows L2
section
variable {prog : Program} {w : World} {A : Around} {E : Value → Shared → Prop} {s : Shared}
/-- at turn i -/
def ZTurn (z TI TO : Addr) (its ls : List Addr) (i : Nat) (h : Heap) : Prop := ∃ f0 b1 kept, (f0 = Value.none ∨ ∃ a : Nat, f0 = rawInt a) ∧ ZAt h z TI TO f0 b1 ∧ TAt h TI (its.map .ref) ∧ TAt h TO kept ∧ kept.length = its.length ∧
  ∀ (j : Nat) (a l : Addr), its[j]? = some a → ls[j]? = some l → h.IsTupleIter a l i
theorem zip_next {z TI TO : Addr} {its ls : List Addr} {row : List Value} {i : Nat} {Q : Value → Shared → Prop} (Lz : ZLay z TI TO its ls) (st : ZTurn z TI TO its ls i s.heap) (hr : row.length = its.length)
    (hl : ∀ (j : Nat) (l : Addr) (x : Value), ls[j]? = some l → row[j]? = some x → ∃ xs : Array Value, s.heap.IsTuple l xs ∧ xs[i]? = some x)
    (hQ : ∀ h', ZTurn z TI TO its ls (i + 1) h' → TAt h' s.heap.objs.size row → (∀ c o, c ≠ z → c ≠ TO → c ∉ its → s.heap.get? c = some o → h'.get? c = some o) → Q (.ref s.heap.objs.size) { s with heap := h' }) :
    wpAny (model prog w) A (Builtin.«zip.__next__» ⟨[.ref z], []⟩) (fun fin s' => ∃ v, fin = .done (.ret v) ∧ Q v s') E s := by
  obtain ⟨f0, b1, kept, hf, hz, hTI, hTO, hk, hi⟩ := st
  have free : (f0 = .none ∨ ∃ a : Nat, f0 = rawInt a ∧ s.heap.get? a = none) → wpAny (model prog w) A (Builtin.«zip.__next__» ⟨[.ref z], []⟩) (fun fin s' => ∃ v, fin = .done (.ret v) ∧ Q v s') E s := fun hf' =>
    zip_free Lz hf' hz hTI hTO hk hr hi hl fun h' a1 a2 a3 a4 a5 a6 a7 => hQ h' ⟨_, _, row, .inr ⟨_, rfl⟩, a1, a2, a3, hr, a4⟩ a5 a7
  rcases hf with rfl | ⟨a, rfl⟩
  · exact free (.inl rfl)
  · cases ha : s.heap.get? a with
    | none => exact free (.inr ⟨a, rfl, ha⟩)
    | some oo => exact zip_kept Lz ha hz hTI hr hi hl fun h' a1 a4 a5 a6 a7 => hQ h' ⟨_, _, kept, .inr ⟨_, rfl⟩, a1, a7 _ _ Lz.iz Lz.ii hTI, a7 _ _ Lz.oz Lz.oi hTO, hk, a4⟩ a5 fun c o c1 c2 c3 ho => a7 c o c1 c3 ho
theorem pyNext_zipN {z TI TO : Addr} {its ls : List Addr} {row : List Value} {i : Nat} {Q : Option Value → Shared → Prop} (Lz : ZLay z TI TO its ls) (st : ZTurn z TI TO its ls i s.heap) (hr : row.length = its.length)
    (hl : ∀ (j : Nat) (l : Addr) (x : Value), ls[j]? = some l → row[j]? = some x → ∃ xs : Array Value, s.heap.IsTuple l xs ∧ xs[i]? = some x)
    (hQ : ∀ h', ZTurn z TI TO its ls (i + 1) h' → TAt h' s.heap.objs.size row → (∀ c o, c ≠ z → c ≠ TO → c ∉ its → s.heap.get? c = some o → h'.get? c = some o) → Q (some (.ref s.heap.objs.size)) { s with heap := h' }) :
    wpAny (model prog w) A (pyNext (.ref z)) Q E s := by
  have hT : s.TypeIs (.ref z) "zip" := by
    obtain ⟨f0, b1, kept, hf, hz, _⟩ := id st
    exact ⟨_, hz, rfl⟩
  unfold pyNext
  exact wpAny_bind (wpAny_attempt (wpAny_callSpecial?_slot (name := Str.ofString "__next__") hT F.slot_zip_next (wpAny_call_entry F.slot_zip_next hT F.entry_zip_next (zip_next Lz st hr hl fun h' a1 a2 a3 => wpAny_pure (hQ h' a1 a2 a3)) (F.args_zip_next_1 _))))
theorem pyNext_zipN_end {z TI TO : Addr} {its ls : List Addr} {i : Nat} {Q : Option Value → Shared → Prop} (hh : A.handled = none) (Lz : ZLay z TI TO its ls) (st : ZTurn z TI TO its ls i s.heap)
    (hl : ∀ (l : Addr), ls[0]? = some l → ∃ xs : Array Value, s.heap.IsTuple l xs ∧ xs[i]? = none)
    (hQ : ∀ h', (∀ c o, c ≠ z → c ≠ TO → c ∉ its → s.heap.get? c = some o → h'.get? c = some o) → Q none { s with heap := h' }) :
    wpAny (model prog w) A (pyNext (.ref z)) Q E s := by
  obtain ⟨f0, b1, kept, hf, hz, hTI, hTO, hk, hi⟩ := st
  have hT : s.TypeIs (.ref z) "zip" := ⟨_, hz, rfl⟩
  unfold pyNext
  refine wpAny_bind (wpAny_attempt (wpAny_callSpecial?_slot (name := Str.ofString "__next__") hT F.slot_zip_next (wpAny_call_entry F.slot_zip_next hT F.entry_zip_next (zip_end hh Lz hf hz hTI hTO hi hl fun h' e hk he => ?_) (F.args_zip_next_1 _))))
  obtain ⟨o, ho, hc⟩ := he
  refine wpAny_bind (wpAny_isInstance (T := "StopIteration") (b := true) ⟨o, ho, hc⟩ isSubtype_stop ?_)
  apply wpAny_pure
  exact hQ h' hk
end

theorem pyIter_zipN {prog : Program} {w : World} {A : Around} {E : Value → Shared → Prop} {s : Shared} {z TI TO : Addr} {f0 : Value} {b1 : Bool} {Q : Value → Shared → Prop} (hz : ZAt s.heap z TI TO f0 b1) (h : Q (.ref z) s) : wpAny (model prog w) A (pyIter (.ref z)) Q E s := by
  have hT : s.TypeIs (.ref z) "zip" := ⟨_, hz, rfl⟩
  apply wpAny_pyIter_slot hT F.slot_zip_iter
  apply wpAny_call_entry F.slot_zip_iter hT F.entry_zip_iter _ (F.args_zip_iter_1 _)
  exact wpAny_pure ⟨Value.ref z, rfl, "zip", _, hT, F.slot_zip_next.lookup, h⟩
/-! ### its turns, as the layer reads them -/
def ItzN (K : PySem.W.Frag) (ls : List Addr) : It :=
  ⟨fun i H => ∃ row : List V, row.length = ls.length ∧ ∀ (j : Nat) (l : Addr) (x : V), ls[j]? = some l → row[j]? = some x → ∃ xs, SqT K H l xs ∧ xs[i]? = some x,
    fun i H v H' => ∃ T row, v = .ref T ∧ H T = none ∧ H' = upd H T (.tup row) ∧ row.length = ls.length ∧ ∀ (j : Nat) (l : Addr) (x : V), ls[j]? = some l → row[j]? = some x → ∀ xs, SqT K H l xs → xs[i]? = some x,
    fun i H => ∃ l, ls[0]? = some l ∧ ∃ xs, SqT K H l xs ∧ xs.length ≤ i⟩
theorem row_vals {X : Cx} {pins : List (Addr × Obj)} {σ : L2.St} {H : Hp} {s : Shared} (I : L2.Inv X pins σ H s) (i : Nat) : ∀ (ls : List Addr) (row : List V), row.length = ls.length → (∀ (j : Nat) (l : Addr) (x : V), ls[j]? = some l → row[j]? = some x → ∃ xs, SqT X.K H l xs ∧ xs[i]? = some x) →
    ∃ us : List Value, Vals row us ∧ ∀ (j : Nat) (l : Addr) (u : Value), ls[j]? = some l → us[j]? = some u → ∃ xs : Array Value, s.heap.IsTuple l xs ∧ xs[i]? = some u
  | [], [], _, _ => ⟨[], .nil, fun j l u h => by simp at h⟩
  | [], _ :: _, h, _ => by simp at h
  | _ :: _, [], h, _ => by simp at h
  | l :: ls, x :: row, hlen, h => by
    obtain ⟨us, h1, h2⟩ := row_vals I i ls row (by simpa using hlen) fun j m y e1 e2 => h (j + 1) m y e1 e2
    obtain ⟨xs, hq, hx⟩ := h 0 l x rfl rfl
    obtain ⟨its, rv, p, _⟩ := I.tuple hq
    obtain ⟨u, hu, ru⟩ := rv.get hx
    refine ⟨u :: us, .cons ru h1, fun j m v e1 e2 => ?_⟩
    cases j with
    | zero =>
      cases e1; cases e2
      exact ⟨its.toArray, p, by simpa using hu⟩
    | succ j => exact h2 j m v e1 e2
theorem turn_zipN {P : Program} {w : World} {K : PySem.W.Frag} {x : Str} {p : Pos} {z TI TO : Addr} {its ls : List Addr} (Lz : ZLay z TI TO its ls) : Turn P w K (.Name x p) (ItzN K ls) (z :: TI :: TO :: its) z (ZTurn z TI TO its ls) where
  mem := List.mem_cons_self
  obj := fun i h st b hb => by
    obtain ⟨f0, b1, kept, hf, hz, hTI, hTO, hk, hi⟩ := st
    rcases List.mem_cons.mp hb with rfl | hb
    · exact ⟨_, hz, fun v q => nomatch q⟩
    rcases List.mem_cons.mp hb with rfl | hb
    · exact ⟨_, hTI, fun v q => nomatch q⟩
    rcases List.mem_cons.mp hb with rfl | hb
    · exact ⟨_, hTO, fun v q => nomatch q⟩
    obtain ⟨j, hj, rfl⟩ := List.mem_iff_getElem.mp hb
    have hjl : j < ls.length := by rw [Lz.len]; exact hj
    obtain ⟨o, e1, _, d⟩ := hi j its[j] ls[j] (List.getElem?_eq_getElem hj) (List.getElem?_eq_getElem hjl)
    exact ⟨o, e1, fun v q => by rw [d] at q; cases q⟩
  keep := fun i h h' st k => by
    obtain ⟨f0, b1, kept, hf, hz, hTI, hTO, hk, hi⟩ := st
    refine ⟨f0, b1, kept, hf, k z (by simp) _ hz, k TI (by simp) _ hTI, k TO (by simp) _ hTO, hk, fun j a l h1 h2 => (hi j a l h1 h2).at fun o q => k a ?_ o q⟩
    have := List.mem_of_getElem? h1
    simp [this]
  item := by
    intro X hP hw hK hc i pins s σ H E I hf st hg
    subst hP hw hK
    obtain ⟨row, hlen, hrow⟩ := hg
    obtain ⟨us, rv, hus⟩ := row_vals I i ls row hlen hrow
    have hul : us.length = its.length := by rw [← rv.length, hlen, Lz.len]
    have hsl : sizeLine = 16777216 := rfl
    refine pyNext_zipN Lz st hul hus fun h' st' hT hk => ⟨_, rfl, ?_⟩
    show wpAny _ _ (pure ()) _ _ _
    apply wpAny_pure
    have new : ObjOk X.prog X.w (upd H s.heap.objs.size (.tup row)) h' s.heap.objs.size (.tup row) :=
      ⟨by rw [hlen, Lz.len]; have := Lz.most; omega, us, rv, ⟨_, hT, rfl, _, rfl⟩⟩
    have I1 : L2.Inv X pins σ (upd H s.heap.objs.size (.tup row)) { s with heap := h' } :=
      I.turnedNew (t' := s.toks) (ch := z :: TI :: TO :: its) (fun c o hb q => hk c o (fun q' => hb (by simp [q'])) (fun q' => hb (by simp [q'])) (fun q' => hb (by simp [q'])) q) hf (Nat.le_refl _) new
    refine ⟨.ref s.heap.objs.size, _, I1, rfl, ⟨_, row, rfl, I.hok.fresh (Nat.le_refl _), rfl, hlen, fun j l x e1 e2 xs hx => by
      obtain ⟨xs0, q0, q1⟩ := hrow j l x e1 e2
      rw [I.tuple_inj hx q0]; exact q1⟩, st', fun c hcm => ?_⟩
    have hlt : c < s.heap.objs.size := by
      obtain ⟨f0, b1, kept, hf0, hz, hTI, hTO, hkl, hi⟩ := st
      rcases List.mem_cons.mp hcm with rfl | hb
      · exact Heap.lt_size hz
      rcases List.mem_cons.mp hb with rfl | hb
      · exact Heap.lt_size hTI
      rcases List.mem_cons.mp hb with rfl | hb
      · exact Heap.lt_size hTO
      obtain ⟨j, hj, rfl⟩ := List.mem_iff_getElem.mp hb
      have hjl : j < ls.length := by rw [Lz.len]; exact hj
      obtain ⟨o, e1, _, d⟩ := hi j its[j] ls[j] (List.getElem?_eq_getElem hj) (List.getElem?_eq_getElem hjl)
      exact Heap.lt_size e1
    rw [upd_ne (Nat.ne_of_lt hlt)]
    exact (hf c hcm).1
  done := by
    intro X hP hw hK hc i pins s σ H E I hf st hg
    subst hP hw hK
    obtain ⟨l, hl0, xs, hq, hx⟩ := hg
    obtain ⟨its2, rv, p, _⟩ := I.tuple hq
    have hlen := rv.length
    refine pyNext_zipN_end (I.ok.hd hc) Lz st (fun m hm => ?_) fun h' hk => ⟨rfl, I.turnedL (t' := s.toks) (ch := z :: TI :: TO :: its) (fun c o hb q => hk c o (fun q' => hb (by simp [q'])) (fun q' => hb (by simp [q'])) (fun q' => hb (by simp [q'])) q) hf⟩
    rw [hl0] at hm
    cases hm
    exact ⟨its2.toArray, p, by simp; omega⟩
  self := fun A i s Q E st h => by
    obtain ⟨f0, b1, kept, hf0, hz, hTI, hTO, hkl, hi⟩ := st
    exact pyIter_zipN hz h
def tZipN (K : PySem.W.Frag) (te : TE) : TI := fun σ H R => te σ H fun x H1 => ∃ (a l0 : Addr) (ls : List Addr), x = .ref a ∧ (SqT K H1 a ((l0 :: ls).map V.ref) ∨ SqL K H1 a ((l0 :: ls).map V.ref)) ∧ (l0 :: ls).length ≤ 1000 ∧ (∀ l ∈ l0 :: ls, ∃ xs, SqT K H1 l xs) ∧ R (ItzN K (l0 :: ls)) H1
theorem adds_get {b n j : Nat} (h : j < n) : (adds b n)[j]? = some (b + j) := by
  unfold adds
  rw [List.getElem?_map, List.getElem?_range h]
  rfl
theorem adds_mem {b n c : Nat} (h : c ∈ adds b n) : b ≤ c ∧ c < b + n := by
  unfold adds at h
  obtain ⟨j, hj, rfl⟩ := List.mem_map.mp h
  have := List.mem_range.mp hj
  omega
theorem lay_of {b : Nat} {ls : List Addr} (hn : ls.length ≤ 1000) (hne : ls ≠ []) (hl : ∀ l : Nat, l ∈ ls → l < b) : ZLay (b + ls.length + 2) (b + ls.length) (b + ls.length + 1) (adds b ls.length) ls where
  nd := by
    unfold adds
    exact List.Pairwise.map _ (fun (a c : Nat) (h : a ≠ c) => fun e => h (Nat.add_left_cancel (show b + a = b + c from e))) List.nodup_range
  zi := fun h => Nat.lt_irrefl (b + ls.length) (Nat.lt_trans (show b + ls.length < b + ls.length + 2 by omega) (adds_mem h).2)
  oi := fun h => Nat.lt_irrefl (b + ls.length) (Nat.lt_trans (show b + ls.length < b + ls.length + 1 by omega) (adds_mem h).2)
  ii := fun h => Nat.lt_irrefl (b + ls.length) (adds_mem h).2
  oz := fun e => absurd (show b + ls.length + 1 = b + ls.length + 2 from e) (by omega)
  iz := fun e => absurd (show b + ls.length = b + ls.length + 2 from e) (by omega)
  io := fun e => absurd (show b + ls.length = b + ls.length + 1 from e) (by omega)
  len := by simp [adds]
  lz := fun h => absurd (hl _ h) (by omega)
  lo := fun h => absurd (hl _ h) (by omega)
  li := fun l h q => absurd (Nat.lt_of_lt_of_le (hl l h) (adds_mem q).1) (Nat.lt_irrefl l)
  ne := by
    cases ls with
    | nil => exact absurd rfl hne
    | cons a l => simp [adds]
  most := by simpa [adds] using hn
theorem vals_refs : ∀ {ls : List Addr} {us : List Value}, Vals (ls.map V.ref) us → us = ls.map Value.ref
  | [], _, .nil => rfl
  | l :: ls, _, .cons r q => by
    have := vals_refs q
    subst this
    cases r
    rfl
/-- for x in zip(*xs) -/
theorem pi_zipN {X : Cx} {e : Expr} {te : TE} {x : Str} {p p1 p2 pos : Pos} (hg : Gl X "zip") (hm : X.mg "zip" = none) (he : PE X e te) (hst : starEach [.Starred e p1] X.env = [(true, eval e X.env)] := by rfl) :
    PI X (.Name x p) (.Call (.Name "zip" p2) [.Starred e p1] [] pos) (tZipN X.K te) := by
  refine ⟨fun pins s σ H R I h => ?_⟩
  refine Call_ (ld_blt I hg hm PyProof.Rows.boot_zip ?_)
  rw [hst]
  refine PySem.W.ks_call (P := fun _ => True) rfl (fun h _ => ⟨.machine, .inr (.inl rfl), .of_pure rfl⟩) (PySem.W.ks_lone ?_)
  refine thn (he.run pins s σ H _ I h) fun v s1 ⟨y, H1, I1, ry, a, l0, ls, ey, hls, hn, hT, q⟩ => ?_
  subst ey
  obtain rfl : v = Value.ref a := ry
  refine StX.star_any I1 hls fun us s2 I2 rv => ⟨trivial, ?_⟩
  obtain rfl := vals_refs rv
  have hin : ∀ l ∈ l0 :: ls, ∃ xs : Array Value, s2.heap.IsTuple l xs := fun l hl => by
    obtain ⟨xs, hx⟩ := hT l hl
    obtain ⟨its, rv, p, _⟩ := I2.tuple hx
    exact ⟨its.toArray, p⟩
  have hlt : ∀ l ∈ l0 :: ls, l < s2.heap.objs.size := fun l hl => by
    obtain ⟨xs, o, ho, _⟩ := hin l hl
    exact Heap.lt_size ho
  refine call_zipN hn hin fun h' L => pyIter_zipN L.zz ?_
  have I3 : L2.Inv X pins σ H1 { s2 with heap := h' } := I2.kept (t' := s2.toks) L.keep
  have Lz := lay_of hn (List.cons_ne_nil _ _) hlt
  refine ⟨s2.heap.objs.size + (l0 :: ls).length + 2, _, _, _, H1, rfl, I3, turn_zipN Lz, ⟨.none, false, _, .inl rfl, L.zz, L.ti, L.too, by simp [adds], fun j a l h1 h2 => ?_⟩, fun c hcm => ?_, q⟩
  · have hj := (List.getElem?_eq_some_iff.mp h2).1
    rw [adds_get hj] at h1
    cases h1
    exact L.itt j l h2
  · have hle : s2.heap.objs.size ≤ c := by
      rcases List.mem_cons.mp hcm with rfl | hb
      · omega
      rcases List.mem_cons.mp hb with rfl | hb
      · omega
      rcases List.mem_cons.mp hb with rfl | hb
      · omega
      exact (adds_mem hb).1
    exact I2.fpOk hle (I2.hok.fresh hle)
end Mi
/-! M10z: for x in zip(*xs). -/
namespace Mi
open PySem PySem.Spec PyProof.Rows L2
section
variable {K : PySem.W.Frag} {G : Addr → Prop} {μ : List Addr} {H : Hp}
theorem tups_rel : ∀ {xs : List D} {vs : List V} {yss : List (List D)}, Vls K G μ H xs vs → tupsOf xs = some yss → ∃ ls : List Addr, vs = ls.map V.ref ∧ ls.length = yss.length ∧
    ∀ (j : Nat) (l : Addr) (ys : List D), ls[j]? = some l → yss[j]? = some ys → ∃ us, H l = some (.tup us) ∧ Vls K G μ H ys us
  | [], _, yss, .nil, e => by
    cases e
    exact ⟨[], rfl, rfl, fun j l ys h => by simp at h⟩
  | d :: xs, _, yss, .cons (v := v) hv r, e => by
    cases d <;> simp only [tupsOf, Option.map_eq_some_iff] at e <;> try contradiction
    rename_i ys0
    obtain ⟨yss0, e0, rfl⟩ := e
    obtain ⟨ls, rfl, h1, h2⟩ := tups_rel r e0
    cases hv with
    | tup ha ra =>
      rename_i a us
      refine ⟨a :: ls, rfl, by simp [h1], fun j l ys e1 e2 => ?_⟩
      cases j with
      | zero => cases e1; cases e2; exact ⟨_, ha, ra⟩
      | succ j => exact h2 j l ys e1 e2
theorem mapM_get (i : Nat) : ∀ (yss : List (List D)) (row : List D), yss.mapM (fun ys => ys[i]?) = some row → row.length = yss.length ∧ ∀ (j : Nat) (ys : List D), yss[j]? = some ys → ∃ d, row[j]? = some d ∧ ys[i]? = some d
  | [], row, e => by
    cases e
    exact ⟨rfl, fun j ys h => by simp at h⟩
  | ys :: yss, row, e => by
    rw [List.mapM_cons] at e
    simp only [Option.bind_eq_bind, Option.bind_eq_some_iff, Option.pure_def, Option.some.injEq] at e
    obtain ⟨d, hd, r, hr, rfl⟩ := e
    obtain ⟨h1, h2⟩ := mapM_get i yss r hr
    refine ⟨by simp [h1], fun j zs e => ?_⟩
    cases j with
    | zero => cases e; exact ⟨d, rfl, hd⟩
    | succ j => exact h2 j zs e
theorem mapM_some (i : Nat) : ∀ (yss : List (List D)), (∀ ys ∈ yss, i < ys.length) → ∃ row, yss.mapM (fun ys => ys[i]?) = some row
  | [], _ => ⟨[], rfl⟩
  | ys :: yss, h => by
    obtain ⟨row, hr⟩ := mapM_some i yss fun zs hz => h zs (by simp [hz])
    have hi := h ys (by simp)
    exact ⟨ys[i] :: row, by rw [List.mapM_cons, List.getElem?_eq_getElem hi, hr]; rfl⟩
theorem zipN_get (yss : List (List D)) (L : Nat) (h : ∀ ys ∈ yss, ys.length = L) : ∀ (n i : Nat), i + n = L → (zipN yss i n).length = n ∧ ∀ j, j < n → ∃ row, (zipN yss i n)[j]? = some (.tup row) ∧ yss.mapM (fun ys => ys[i + j]?) = some row
  | 0, i, _ => ⟨rfl, fun j hj => absurd hj (Nat.not_lt_zero _)⟩
  | n + 1, i, hi => by
    obtain ⟨row, hr⟩ := mapM_some i yss fun ys hy => by rw [h ys hy]; omega
    obtain ⟨h1, h2⟩ := zipN_get yss L h n (i + 1) (by omega)
    rw [zipN, hr]
    refine ⟨by simp [h1], fun j hj => ?_⟩
    cases j with
    | zero => exact ⟨row, rfl, hr⟩
    | succ j =>
      obtain ⟨row2, e1, e2⟩ := h2 j (by omega)
      refine ⟨row2, e1, ?_⟩
      rw [show i + (j + 1) = i + 1 + j by omega]
      exact e2
theorem vls_of : ∀ {row : List D} {rv : List V}, row.length = rv.length → (∀ (j : Nat) (d : D) (v : V), row[j]? = some d → rv[j]? = some v → Val K G μ H d v) → Vls K G μ H row rv
  | [], [], _, _ => .nil
  | [], _ :: _, h, _ => by simp at h
  | _ :: _, [], h, _ => by simp at h
  | d :: row, v :: rv, h, q => .cons (q 0 d v rfl rfl) (vls_of (by simpa using h) fun j d v e1 e2 => q (j + 1) d v e1 e2)
theorem jOk_zipN {ls : List Addr} {ys : List D} {yss : List (List D)} (hlen : ls.length = (ys :: yss).length) (hl : ∀ zs ∈ yss, zs.length = ys.length)
    (h : ∀ (j : Nat) (l : Addr) (zs : List D), ls[j]? = some l → (ys :: yss)[j]? = some zs → ∃ us, H l = some (.tup us) ∧ Vls K G μ H zs us) : JOk K (ItzN K ls) (zipSD (ys :: yss)) (fun _ => False) G μ H := by
  intro G1 μ1 H1 s1 S1 _ st i
  have hall : ∀ zs ∈ ys :: yss, zs.length = ys.length := fun zs hz => by
    rcases List.mem_cons.mp hz with rfl | hz
    · rfl
    · exact hl zs hz
  obtain ⟨z1, z2⟩ := zipN_get (ys :: yss) ys.length hall ys.length 0 (by omega)
  have zl : (zipSD (ys :: yss)).length = ys.length := z1
  refine ⟨fun hi => ?_, fun d hd => ?_⟩
  · obtain ⟨l0, hl0⟩ : ∃ l0, ls[0]? = some l0 := ⟨ls[0]'(by rw [hlen]; simp), List.getElem?_eq_getElem _⟩
    obtain ⟨us, e1, e2⟩ := h 0 l0 ys hl0 rfl
    exact ⟨l0, hl0, us, SqT.of (st.tup _ _ e1), by rw [← e2.length]; omega⟩
  · have hi : i < ys.length := by rw [← zl]; exact (List.getElem?_eq_some_iff.mp hd).1
    obtain ⟨row, e1, e2⟩ := z2 i hi
    have e1 : (zipSD (ys :: yss))[i]? = some (.tup row) := e1
    rw [e1] at hd
    cases hd
    rw [Nat.zero_add] at e2
    obtain ⟨m1, m2⟩ := mapM_get i _ _ e2
    have cell : ∀ (j : Nat) (l : Addr) (d : D), ls[j]? = some l → row[j]? = some d → ∃ us v, H1 l = some (.tup us) ∧ us[i]? = some v ∧ Val K G1 μ1 H1 d v := fun j l d e3 e4 => by
      have hj : j < (ys :: yss).length := by rw [← hlen]; exact (List.getElem?_eq_some_iff.mp e3).1
      obtain ⟨us, u1, u2⟩ := h j l _ e3 (List.getElem?_eq_getElem hj)
      obtain ⟨d', q1, q2⟩ := m2 j _ (List.getElem?_eq_getElem hj)
      rw [e4] at q1; cases q1
      obtain ⟨v, w1, w2⟩ := u2.get q2
      exact ⟨us, v, st.tup _ _ u1, w1, w2.mono st⟩
    refine ⟨?_, fun x H3 hy => ?_⟩
    · have rows : ∀ (ls : List Addr) (row : List D), row.length = ls.length → (∀ (j : Nat) (l : Addr) (d : D), ls[j]? = some l → row[j]? = some d → ∃ us v, H1 l = some (.tup us) ∧ us[i]? = some v) →
          ∃ rv : List V, rv.length = ls.length ∧ ∀ (j : Nat) (l : Addr) (x : V), ls[j]? = some l → rv[j]? = some x → ∃ xs, SqT K H1 l xs ∧ xs[i]? = some x := by
        intro ls
        induction ls with
        | nil => intro row _ _; exact ⟨[], rfl, fun j l x h => by simp at h⟩
        | cons l ls ih =>
          intro row hr hc
          cases row with
          | nil => simp at hr
          | cons d row =>
            obtain ⟨rv, r1, r2⟩ := ih row (by simpa using hr) fun j l d e3 e4 => hc (j + 1) l d e3 e4
            obtain ⟨us, v, u1, u2⟩ := hc 0 l d rfl rfl
            refine ⟨v :: rv, by simp [r1], fun j m x e3 e4 => ?_⟩
            cases j with
            | zero => cases e3; cases e4; exact ⟨us, SqT.of u1, u2⟩
            | succ j => exact r2 j m x e3 e4
      exact rows ls row (by rw [m1, hlen]) fun j l d e3 e4 => let ⟨us, v, u1, u2, _⟩ := cell j l d e3 e4; ⟨us, v, u1, u2⟩
    · obtain ⟨T, rv, rfl, nT, rfl, rl, rc⟩ := hy
      have hv : Vls K G1 μ1 H1 row rv := vls_of (by rw [m1, rl, hlen]) fun j d v e3 e4 => by
        have hj : j < ls.length := by rw [← rl]; exact (List.getElem?_eq_some_iff.mp e4).1
        obtain ⟨us, v', u1, u2, u3⟩ := cell j _ d (List.getElem?_eq_getElem hj) e3
        have := rc j _ v (List.getElem?_eq_getElem hj) e4 us (SqT.of u1)
        rw [u2] at this; cases this
        exact u3
      exact ⟨.laid nT, S1.laid nT, val_tup S1 nT hv⟩
end
section
variable {M : Nms} {T : Tab} {k : Nat} {N : List Str} {sc : Scope} {top : Str → Bool} {X : Cx} {F : Cl}
theorem r_iZipS (C : Cxt M T k N sc top X) {c : CE} {y tg : Expr} {p p1 pos : Pos} (hg : gl sc "zip" = true) (htg : isNm tg = true) (h : PE X y (tEv F X.K X.N.length c)) :
    PI X tg (.Call (.Name "zip" p) [.Starred y p1] [] pos) (tEvI F X.K X.N.length (.zipS c)) := by
  cases tg <;> simp only [isNm] at htg <;> try contradiction
  refine (pi_zipN (gl_of C hg) (C.blt _ (by decide)) h rfl).weak fun σ H R' ⟨G, μ, env, s, xs, s', R, ev, q⟩ => ?_
  simp only [evI] at ev
  split at ev
  · cases ev
  · obtain ⟨d, s1, ev1, evB⟩ := Rs.bind_eq_ok ev
    clear ev
    have fin : ∀ ds, (d = .lst ds ∨ d = .tup ds) → (match tupsOf ds with
        | some (ys :: yss) => if decide (yss.length < 1000) && yss.all (fun zs => zs.length == ys.length) then Rs.ok (zipSD (ys :: yss)) s1 else .no
        | _ => .no) = Rs.ok xs s' → tZipN X.K (tEv F X.K X.N.length c) σ H R' := by
      intro ds hd evB
      split at evB
      · rename_i ys yss ht
        split at evB
        · rename_i hc
          cases evB
          simp only [Bool.and_eq_true, decide_eq_true_eq, List.all_eq_true, beq_iff_eq] at hc
          refine ⟨G, μ, env, s, _, _, R, ev1, fun v G1 μ1 H1 x1 S1 p1 => ?_⟩
          obtain ⟨a, us, rfl, ra, hs⟩ : ∃ a us, v = .ref a ∧ Vls X.K G1 μ1 H1 ds us ∧ (SqT X.K H1 a us ∨ SqL X.K H1 a us) := by
            rcases hd with rfl | rfl
            · obtain ⟨a, us, e, h1, h2⟩ := p1.top.lst S1 (show deref s' (.lst ds) = .lst ds from rfl)
              exact ⟨a, us, e, h2, .inr (.of h1)⟩
            · obtain ⟨a, us, e, h1, h2⟩ := p1.top.tup (s := s') (show deref s' (.tup ds) = .tup ds from rfl)
              exact ⟨a, us, e, h2, .inl (.of h1)⟩
          obtain ⟨ls, rfl, hl, hr⟩ := tups_rel ra ht
          obtain ⟨l0, ls, rfl⟩ : ∃ l0 ls', ls = l0 :: ls' := by
            cases ls with
            | nil => simp at hl
            | cons l0 ls => exact ⟨l0, ls, rfl⟩
          refine ⟨a, l0, ls, rfl, hs, by simp at hl ⊢; omega, fun l hm => ?_, q _ (fun _ => False) G1 μ1 H1 x1 S1 (fun _ z => z.elim) (jOk_zipN hl hc.2 hr)⟩
          obtain ⟨j, hj, rfl⟩ := List.mem_iff_getElem.mp hm
          obtain ⟨us, u1, _⟩ := hr j _ _ (List.getElem?_eq_getElem hj) (List.getElem?_eq_getElem (by rw [← hl]; exact hj))
          exact ⟨us, SqT.of u1⟩
        · cases evB
      · cases evB
    split at evB
    · exact fin _ (.inl rfl) evB
    · exact fin _ (.inr rfl) evB
    · cases evB
end
end Mi
/-! M13: every expression that is matched runs as the language says. -/
namespace Mi
open PySem PySem.Spec PyProof.Rows L2

section
variable {M : Nms} {T : Tab} {k : Nat} {N : List Str} {sc : Scope} {top : Str → Bool} {X : Cx}
theorem each_ok {env : PySem.Env} : ∀ {ts : Tgts} {es : List Expr}, matTs N sc top ts es = true → (assignEach es env).length = lenTs ts ∧ (assignEach es env).findIdx? (·.1) = none ∧ (assignEach es env).map (·.2) = es.map fun e => assign e env
  | .nil, [], _ => ⟨rfl, rfl, rfl⟩
  | .nil, _ :: _, h => by simp [matTs] at h
  | .cons _ _, [], h => by simp [matTs] at h
  | .cons t ts, e :: es, h => by
    simp only [matTs, Bool.and_eq_true] at h
    obtain ⟨h1, h2, h3⟩ := each_ok (env := env) h.2
    have he : assignEach (e :: es) env = (false, assign e env) :: assignEach es env := by
      cases e <;> first | rfl | (cases t <;> simp [matT] at h)
    rw [he]
    exact ⟨congrArg (· + 1) h1, by simp [List.findIdx?_cons, h2], by simp [h3]⟩
mutual
theorem r_tgt (hN : X.N = N) (hs : X.env.scope = sc) (hc : X.calm = true) (nd : N.Nodup) (hf : ∀ x, top x = true → X.fn x = true) : ∀ (t : Tgt) (e : Expr), matT N sc top t e = true → PG X e (gT X.K t)
  | .nm i, e, h => by
    cases e <;> simp only [matT, Bool.and_eq_true, decide_eq_true_eq] at h <;> try contradiction
    rename_i x pos
    obtain ⟨h1, h2⟩ := h
    unfold loc at h2
    split at h2
    · rename_i q
      exact pg_name (by rw [hN]; exact nd) (by rw [hN]; exact h1) (by rw [hs]; exact .inl q) (.inr (by rw [hs]; exact q))
    · rename_i q
      exact pg_name (by rw [hN]; exact nd) (by rw [hN]; exact h1) (by rw [hs]; exact .inr q) (.inl (hf x h2))
    · cases h2
  | .tp ts, e, h => by
    cases e <;> simp only [matT] at h <;> try contradiction
    obtain ⟨q1, q2, _⟩ := each_ok (env := X.env) h
    exact pg_tup hc (r_tgts hN hs hc nd hf ts _ h) q1 q2
theorem r_tgts (hN : X.N = N) (hs : X.env.scope = sc) (hc : X.calm = true) (nd : N.Nodup) (hf : ∀ x, top x = true → X.fn x = true) : ∀ (ts : Tgts) (es : List Expr), matTs N sc top ts es = true → PGs X es (gTs X.K ts)
  | .nil, [], _ => pgs_nil
  | .nil, _ :: _, h => by simp [matTs] at h
  | .cons _ _, [], h => by simp [matTs] at h
  | .cons t ts, e :: es, h => by
    obtain ⟨_, _, q⟩ := each_ok (env := X.env) h
    simp only [matTs, Bool.and_eq_true] at h
    obtain ⟨_, _, q'⟩ := each_ok (env := X.env) h.2
    exact pgs_cons (r_tgt hN hs hc nd hf t e h.1) (r_tgts hN hs hc nd hf ts es h.2) (by rw [q, q']; rfl)
end
theorem Cxt.tgt (C : Cxt M T k N sc top X) {t : Tgt} {e : Expr} (h : matT N sc top t e = true) : PG X e (gT X.K t) := r_tgt C.nN C.sc C.calm C.nd C.fn t e h
/-- a comprehension's block -/
theorem Cxt.blk (C : Cxt M T k N sc top X) (s : Shared) (H : Hp) (scope : Scope) (A : Addr) (cl : List (Str × Addr)) (fp : List Addr) : Cxt M T k N (relS scope sc) (ownC scope) (X.blk s H scope (compEnvC scope cl A X.env) fp) where
  nN := C.nN
  sc := by rw [← C.sc]; rfl
  calm := C.calm
  nd := C.nd
  room := C.room
  blt := C.blt
  cst := C.cst
  fns := fun f fn h => ⟨(C.fns f fn h).ex⟩
  fn := fun x h => h
end

section
variable {M : Nms} {T : Tab} {k : Nat}
theorem isTrue_plain_shape {e : Expr} (h : (match e with | .IfExp _ _ _ _ => false | .BoolOp _ _ _ => false | .UnaryOp .Not _ _ => false | _ => true) = true) (h2 : ∀ a b c d, e ≠ .Compare a b c d) (env : PySem.Env) :
    ∀ whole, isTrue e env whole = (do let v ← whole; standAt e.pos; holding [v] (truthy v)) := by
  intro whole
  cases e with
  | IfExp => cases h
  | BoolOp => cases h
  | UnaryOp op x pos => cases op <;> first | rfl | cases h
  | Compare a b c d => exact absurd rfl (h2 a b c d)
  | _ => rfl

structure AllOk (M : Nms) (T : Tab) (k n : Nat) : Prop where
  e : ∀ (c : CE) (e : Expr), sizeOf c < n → ∀ {N : List Str} {sc : Scope} {top : Str → Bool} {X : Cx}, Cxt M T k N sc top X → matE M N sc c e = true → PE X e (tEv (clOf T k) X.K X.N.length c)
  t : ∀ (t : CT) (e : Expr), sizeOf t < n → ∀ {N : List Str} {sc : Scope} {top : Str → Bool} {X : Cx}, Cxt M T k N sc top X → matC M N sc t e = true → PT X e (tEvT (clOf T k) X.K X.N.length t)
  ifs : ∀ (ts : CTs) (es : List Expr), sizeOf ts < n → ∀ {N : List Str} {sc : Scope} {top : Str → Bool} {X : Cx}, Cxt M T k N sc top X → matIfs M N sc ts es = true → PTs X es (tRb X.K X.N.length (fun e s => evIfs (clOf T k) ts e s))
  i : ∀ (ci : CI) (tg e : Expr), sizeOf ci < n → ∀ {N : List Str} {sc : Scope} {top : Str → Bool} {X : Cx}, Cxt M T k N sc top X → matI M N sc ci tg e = true → PI X tg e (tEvI (clOf T k) X.K X.N.length ci)
theorem sE_step {n : Nat} (ih : AllOk M T k n) (c : CE) (e : Expr) (hn : sizeOf c < n + 1) {N : List Str} {sc : Scope} {top : Str → Bool} {X : Cx} (C : Cxt M T k N sc top X) (h : matE M N sc c e = true) : PE X e (tEv (clOf T k) X.K X.N.length c) := by
  cases c with
  | var i => cases e <;> first | exact r_var C h | (simp [matE] at h)
  | cint n =>
    cases e <;> simp only [matE] at h <;> try contradiction
    split at h <;> try contradiction
    rename_i h1
    cases h1
    simp only [decide_eq_true_eq] at h
    subst h
    exact r_const pe_int (fun _ _ => rfl) rfl fun _ _ _ _ => .int _
  | cbl b =>
    cases e <;> simp only [matE] at h <;> try contradiction
    split at h <;> try contradiction
    rename_i h1
    cases h1
    simp only [decide_eq_true_eq] at h
    subst h
    exact r_const pe_bl (fun _ _ => rfl) rfl fun _ _ _ _ => .bl _
  | cnon =>
    cases e <;> simp only [matE] at h <;> try contradiction
    split at h <;> try contradiction
    rename_i h1
    cases h1
    exact r_const pe_non (fun _ _ => rfl) rfl fun _ _ _ _ => .non
  | cstr s =>
    cases e <;> simp only [matE] at h <;> try contradiction
    split at h <;> try contradiction
    rename_i h1
    cases h1
    simp only [decide_eq_true_eq] at h
    subst h
    exact r_const pe_str (fun _ _ => rfl) rfl fun _ _ _ _ => .str _
  | glob x n => cases e <;> first | exact r_glob C h | (simp [matE] at h)
  | tup es =>
    cases e <;> simp only [matE] at h <;> try contradiction
    exact r_tup (r_args h fun c' e' hm hs => ih.e c' e' (by simp at hn ⊢; omega) C hm)
  | tupS a es =>
    cases e <;> simp only [matE] at h <;> try contradiction
    split at h <;> try contradiction
    rename_i h1
    cases h1
    simp only [Bool.and_eq_true] at h
    exact r_tupS (ih.e a _ (by simp at hn ⊢; omega) C h.1) (r_args h.2 fun c' e' hm hs => ih.e c' e' (by simp at hn ⊢; omega) C hm)
  | lst es =>
    cases e <;> simp only [matE] at h <;> try contradiction
    exact r_lst (r_args h fun c' e' hm hs => ih.e c' e' (by simp at hn ⊢; omega) C hm)
  | bin op a b =>
    cases e <;> simp only [matE, Bool.and_eq_true, decide_eq_true_eq] at h <;> try contradiction
    obtain ⟨⟨rfl, h1⟩, h2⟩ := h
    exact r_bin (ih.e a _ (by simp at hn ⊢; omega) C h1) (ih.e b _ (by simp at hn ⊢; omega) C h2)
  | neg a =>
    cases e <;> simp only [matE] at h <;> try contradiction
    split at h <;> try contradiction
    rename_i h1
    cases h1
    exact r_neg (ih.e a _ (by simp at hn ⊢; omega) C h)
  | cmp op a b =>
    cases e <;> simp only [matE] at h <;> try contradiction
    split at h <;> try contradiction
    rename_i h1
    cases h1
    simp only [Bool.and_eq_true, decide_eq_true_eq] at h
    obtain ⟨⟨rfl, h1⟩, h2⟩ := h
    exact r_cmp C (matE_shape h2) (ih.e a _ (by simp at hn ⊢; omega) C h1) (ih.e b _ (by simp at hn ⊢; omega) C h2)
  | chain o1 o2 a b c =>
    cases e <;> simp only [matE] at h <;> try contradiction
    split at h <;> try contradiction
    rename_i h1
    cases h1
    simp only [Bool.and_eq_true, decide_eq_true_eq] at h
    obtain ⟨⟨⟨⟨rfl, rfl⟩, h1⟩, h2⟩, h3⟩ := h
    exact r_chain C (matE_shape h3) (ih.e a _ (by simp at hn ⊢; omega) C h1) (ih.e b _ (by simp at hn ⊢; omega) C h2) (ih.e c _ (by simp at hn ⊢; omega) C h3)
  | and es =>
    cases e <;> simp only [matE] at h <;> try contradiction
    split at h <;> try contradiction
    rename_i h1
    cases h1
    simp only [Bool.and_eq_true, Bool.not_eq_true'] at h
    exact r_and (r_andL h.1 h.2 fun c' e' hm hs => ih.e c' e' (by simp at hn ⊢; omega) C hm)
  | or es =>
    cases e <;> simp only [matE] at h <;> try contradiction
    split at h <;> try contradiction
    rename_i h1
    cases h1
    simp only [Bool.and_eq_true, Bool.not_eq_true'] at h
    exact r_or (r_orL h.1 h.2 fun c' e' hm hs => ih.e c' e' (by simp at hn ⊢; omega) C hm)
  | not a =>
    cases e <;> simp only [matE] at h <;> try contradiction
    split at h <;> try contradiction
    rename_i h1
    cases h1
    exact r_not (ih.e a _ (by simp at hn ⊢; omega) C h)
  | ife c a b =>
    cases e <;> simp only [matE, Bool.and_eq_true] at h <;> try contradiction
    exact r_ife (ih.t c _ (by simp at hn ⊢; omega) C h.1.1) (ih.e a _ (by simp at hn ⊢; omega) C h.1.2) (ih.e b _ (by simp at hn ⊢; omega) C h.2)
  | sub a i =>
    cases e <;> simp only [matE, Bool.and_eq_true] at h <;> try contradiction
    exact r_sub C (matE_shape h.2) (ih.e a _ (by simp at hn ⊢; omega) C h.1) (ih.e i _ (by simp at hn ⊢; omega) C h.2)
  | slc a lo hi =>
    cases e <;> simp only [matE] at h <;> try contradiction
    split at h <;> try contradiction
    rename_i h1
    cases h1
    simp only [Bool.and_eq_true] at h
    exact r_slc (ih.e a _ (by simp at hn ⊢; omega) C h.1.1) (r_po h.1.2 fun c' e' hm hs => ih.e c' e' (by simp at hn ⊢; omega) C hm) (r_po h.2 fun c' e' hm hs => ih.e c' e' (by simp at hn ⊢; omega) C hm)
  | comp tg it ifs elt own =>
    cases e <;> simp only [matE] at h <;> try contradiction
    split at h <;> try contradiction
    rename_i h1
    cases h1
    simp only [Bool.and_eq_true, decide_eq_true_eq] at h
    obtain ⟨⟨⟨⟨⟨⟨rfl, h1⟩, h2⟩, h3⟩, h4⟩, h5⟩, h6⟩ := h
    exact r_comp C h6 h5 (folded_mat h1 X.env) (ih.i it _ _ (by simp at hn ⊢; omega) C h1) (fun s H A cl fp => (C.blk s H _ A cl fp).tgt h2) (fun s H A cl fp => ih.ifs ifs _ (by simp at hn ⊢; omega) (C.blk s H _ A cl fp) h3) (fun s H A cl fp => ih.e elt _ (by simp at hn ⊢; omega) (C.blk s H _ A cl fp) h4)
  | comp2 tg it tg2 it2 ifs elt own own2 =>
    cases e <;> simp only [matE] at h <;> try contradiction
    split at h <;> try contradiction
    rename_i h1
    cases h1
    simp only [Bool.and_eq_true, decide_eq_true_eq] at h
    obtain ⟨⟨⟨⟨⟨⟨⟨⟨⟨⟨⟨rfl, rfl⟩, h1⟩, h2⟩, h3⟩, h4⟩, h5⟩, h6⟩, h7⟩, h8⟩, h9⟩, h10⟩ := h
    exact r_comp2 C h8 h9 (fun i hi => by simpa using List.all_eq_true.mp h10 i hi) h7 (folded_mat h1 X.env) (fun env x => folded_mat h3 env x) (ih.i it _ _ (by simp at hn ⊢; omega) C h1) (fun s H A cl fp => (C.blk s H _ A cl fp).tgt h2)
      (fun s H A cl fp => ih.i it2 _ _ (by simp at hn ⊢; omega) (C.blk s H _ A cl fp) h3) (fun s H A cl fp => (C.blk s H _ A cl fp).tgt h4) (fun s H A cl fp => ih.ifs ifs _ (by simp at hn ⊢; omega) (C.blk s H _ A cl fp) h5) (fun s H A cl fp => ih.e elt _ (by simp at hn ⊢; omega) (C.blk s H _ A cl fp) h6)
  | call f args =>
    have h0 := h
    cases e <;> simp only [matE] at h <;> try contradiction
    split at h <;> try contradiction
    rename_i h1
    cases h1
    simp only [Bool.and_eq_true] at h
    exact r_call C h0 (r_args h.2 fun c' e' hm hs => ih.e c' e' (by simp at hn ⊢; omega) C hm)
  | bfn f args =>
    have h0 := h
    cases e <;> simp only [matE] at h <;> try contradiction
    split at h <;> try contradiction
    rename_i h1
    cases h1
    simp only [Bool.and_eq_true] at h
    exact r_bfn C h0 (r_args h.2 fun c' e' hm hs => ih.e c' e' (by simp at hn ⊢; omega) C hm)
  | isi a ts one =>
    have h0 := h
    cases e <;> simp only [matE] at h <;> try contradiction
    split at h <;> try contradiction
    rename_i h1
    cases h1
    simp only [Bool.and_eq_true] at h
    exact r_isi C h0 (ih.e a _ (by simp at hn ⊢; omega) C h.1.1.2)
  | heap a => exact r_heap (ih.e a e (by simp at hn ⊢; omega) C (by simpa [matE] using h))
  | dict0 tk =>
    cases e <;> simp only [matE] at h <;> try contradiction
    split at h <;> try contradiction
    rename_i h1
    cases h1
    exact r_dict0
  | dcomp tk tg it kx vx own =>
    cases e <;> simp only [matE] at h <;> try contradiction
    split at h <;> try contradiction
    rename_i h1
    cases h1
    simp only [Bool.and_eq_true, decide_eq_true_eq] at h
    obtain ⟨⟨⟨⟨⟨⟨rfl, h1⟩, h2⟩, h3⟩, h4⟩, h5⟩, h6⟩ := h
    exact r_dcomp C h6 h5 (folded_mat h1 X.env) (ih.i it _ _ (by simp at hn ⊢; omega) C h1) (fun s H A cl fp => (C.blk s H _ A cl fp).tgt h2) (fun s H A cl fp => ih.e kx _ (by simp at hn ⊢; omega) (C.blk s H _ A cl fp) h3) (fun s H A cl fp => ih.e vx _ (by simp at hn ⊢; omega) (C.blk s H _ A cl fp) h4)
  | ssort tg it elt own =>
    cases e <;> simp only [matE] at h <;> try contradiction
    split at h <;> try contradiction
    rename_i h1
    cases h1
    simp only [Bool.and_eq_true, decide_eq_true_eq] at h
    obtain ⟨⟨⟨⟨⟨⟨⟨rfl, h0⟩, rfl⟩, h1⟩, h2⟩, h3⟩, h5⟩, h6⟩ := h
    exact r_ssort C h6 h5 h0 (folded_mat h1 X.env) (ih.i it _ _ (by simp at hn ⊢; omega) C h1) (fun s H A cl fp => (C.blk s H _ A cl fp).tgt h2) (fun s H A cl fp => ih.e elt _ (by simp at hn ⊢; omega) (C.blk s H _ A cl fp) h3)
theorem sT_step {n : Nat} (ih : AllOk M T k n) (t : CT) (e : Expr) (hn : sizeOf t < n + 1) {N : List Str} {sc : Scope} {top : Str → Bool} {X : Cx} (C : Cxt M T k N sc top X) (h : matC M N sc t e = true) : PT X e (tEvT (clOf T k) X.K X.N.length t) := by
  cases t with
  | and ts =>
    cases e <;> simp only [matC] at h <;> try contradiction
    split at h <;> try contradiction
    rename_i h1
    cases h1
    exact r_tAnd (r_andT h fun t' e' hm hs => ih.t t' e' (by simp at hn ⊢; omega) C hm)
  | or ts =>
    cases e <;> simp only [matC] at h <;> try contradiction
    split at h <;> try contradiction
    rename_i h1
    cases h1
    exact r_tOr (r_orT h fun t' e' hm hs => ih.t t' e' (by simp at hn ⊢; omega) C hm)
  | not t =>
    cases e <;> simp only [matC] at h <;> try contradiction
    split at h <;> try contradiction
    rename_i h1
    cases h1
    exact r_tNot (ih.t t _ (by simp at hn ⊢; omega) C h)
  | val c =>
    simp only [matC, Bool.and_eq_true] at h
    obtain ⟨⟨h1, h2⟩, h3⟩ := h
    by_cases hcmp : ∃ a b c' d, e = .Compare a b c' d
    · obtain ⟨a, b, c', d, rfl⟩ := hcmp
      cases c <;> simp only [matE] at h1 <;> try contradiction
      · rename_i op ca cb
        split at h1 <;> try contradiction
        rename_i z
        cases z
        simp only [Bool.and_eq_true, decide_eq_true_eq] at h1
        obtain ⟨⟨rfl, h4⟩, h5⟩ := h1
        exact r_tCmp C (matE_shape h5) (ih.e ca _ (by simp at hn ⊢; omega) C h4) (ih.e cb _ (by simp at hn ⊢; omega) C h5)
      · rename_i o1 o2 ca cb cc
        split at h1 <;> try contradiction
        rename_i z
        cases z
        simp only [Bool.and_eq_true, decide_eq_true_eq] at h1
        obtain ⟨⟨⟨⟨rfl, rfl⟩, h4⟩, h5⟩, h6⟩ := h1
        exact r_tChain C (matE_shape h6) (ih.e ca _ (by simp at hn ⊢; omega) C h4) (ih.e cb _ (by simp at hn ⊢; omega) C h5) (ih.e cc _ (by simp at hn ⊢; omega) C h6)
    · exact r_tVal (isTrue_plain_shape h3 (fun a b c d z => hcmp ⟨a, b, c, d, z⟩) X.env) (ih.e c e (by simp at hn ⊢; omega) C h1)
theorem sIfs_step {n : Nat} (ih : AllOk M T k n) (ts : CTs) (es : List Expr) (hn : sizeOf ts < n + 1) {N : List Str} {sc : Scope} {top : Str → Bool} {X : Cx} (C : Cxt M T k N sc top X) (h : matIfs M N sc ts es = true) : PTs X es (tRb X.K X.N.length (fun e s => evIfs (clOf T k) ts e s)) := by
  cases ts with
  | nil =>
    cases es with
    | nil => exact ⟨fun pins s σ H Q I ⟨G, μ, env, st, b, s', R, ev, q⟩ => by
        simp only [evIfs] at ev
        cases ev
        exact pts_nil.run pins s σ H Q I (q G μ H .refl R.sk)⟩
    | cons _ _ => simp [matIfs] at h
  | cons t ts =>
    cases ts with
    | nil =>
      cases es with
      | nil => simp [matIfs] at h
      | cons e es =>
        cases es with
        | nil => exact ⟨fun pins s σ H Q I ⟨G, μ, env, st, b, s', R, ev, q⟩ => (pts_one (ih.t t e (by simp at hn ⊢; omega) C (by simpa [matIfs] using h))).run pins s σ H Q I ⟨G, μ, env, st, b, s', R, by simpa only [evIfs] using ev, q⟩⟩
        | cons _ _ => simp [matIfs] at h
    | cons _ _ => cases es <;> simp [matIfs] at h
theorem sI_step {n : Nat} (ih : AllOk M T k n) (ci : CI) (tg e : Expr) (hn : sizeOf ci < n + 1) {N : List Str} {sc : Scope} {top : Str → Bool} {X : Cx} (C : Cxt M T k N sc top X) (h : matI M N sc ci tg e = true) : PI X tg e (tEvI (clOf T k) X.K X.N.length ci) := by
  cases ci with
  | «seq» c => exact r_iSeq C (by simpa [matI] using h) (ih.e c e (by simp at hn ⊢; omega) C (by simpa [matI] using h))
  | range1 a =>
    simp only [matI] at h
    split at h <;> try contradiction
    simp only [Bool.and_eq_true, decide_eq_true_eq] at h
    obtain ⟨⟨rfl, h1⟩, h2⟩ := h
    exact r_iRng1 C h1 (matE_shape h2) (ih.e a _ (by simp at hn ⊢; omega) C h2)
  | range2 a b =>
    simp only [matI] at h
    split at h <;> try contradiction
    simp only [Bool.and_eq_true, decide_eq_true_eq] at h
    obtain ⟨⟨⟨rfl, h1⟩, h2⟩, h3⟩ := h
    exact r_iRng2 C h1 (matE_shape h2) (matE_shape h3) (ih.e a _ (by simp at hn ⊢; omega) C h2) (ih.e b _ (by simp at hn ⊢; omega) C h3)
  | enum c =>
    simp only [matI] at h
    split at h <;> try contradiction
    simp only [Bool.and_eq_true, decide_eq_true_eq] at h
    obtain ⟨⟨⟨rfl, h1⟩, h2⟩, h3⟩ := h
    exact r_iEnum C h1 h3 h2 (ih.e c _ (by simp at hn ⊢; omega) C h2)
  | zip2 a b =>
    simp only [matI] at h
    split at h <;> try contradiction
    simp only [Bool.and_eq_true, decide_eq_true_eq] at h
    obtain ⟨⟨⟨⟨rfl, h1⟩, h2⟩, h3⟩, h4⟩ := h
    exact r_iZip C h1 h4 h2 h3 (ih.e a _ (by simp at hn ⊢; omega) C h2) (ih.e b _ (by simp at hn ⊢; omega) C h3)
  | zipS c =>
    simp only [matI] at h
    split at h <;> try contradiction
    simp only [Bool.and_eq_true, decide_eq_true_eq] at h
    obtain ⟨⟨⟨rfl, h1⟩, h2⟩, h3⟩ := h
    exact r_iZipS C h1 h3 (ih.e c _ (by simp at hn ⊢; omega) C h2)
theorem allOk : ∀ n, AllOk M T k n
  | 0 => ⟨fun _ _ h => absurd h (Nat.not_lt_zero _), fun _ _ h => absurd h (Nat.not_lt_zero _), fun _ _ h => absurd h (Nat.not_lt_zero _), fun _ _ _ h => absurd h (Nat.not_lt_zero _)⟩
  | n + 1 => ⟨fun c e hn => sE_step (allOk n) c e hn, fun c e hn => sT_step (allOk n) c e hn, fun c e hn => sIfs_step (allOk n) c e hn, fun c t e hn => sI_step (allOk n) c t e hn⟩
variable {N : List Str} {sc : Scope} {top : Str → Bool} {X : Cx}
theorem sE (C : Cxt M T k N sc top X) {c : CE} {e : Expr} (h : matE M N sc c e = true) : PE X e (tEv (clOf T k) X.K X.N.length c) := (allOk (sizeOf c + 1)).e c e (by omega) C h
theorem sT (C : Cxt M T k N sc top X) {c : CT} {e : Expr} (h : matC M N sc c e = true) : PT X e (tEvT (clOf T k) X.K X.N.length c) := (allOk (sizeOf c + 1)).t c e (by omega) C h
theorem sI (C : Cxt M T k N sc top X) {c : CI} {tg e : Expr} (h : matI M N sc c tg e = true) : PI X tg e (tEvI (clOf T k) X.K X.N.length c) := (allOk (sizeOf c + 1)).i c tg e (by omega) C h
end
end Mi
/-! M14: statements, each by itself. -/
namespace Mi
open PySem PySem.Spec PyProof.Rows L2

def isCompE : Expr → Bool
  | .ListComp _ _ _ _ => true
  | .SetComp _ _ _ _ => true
  | .DictComp _ _ _ _ _ => true
  | _ => false
def isCallE : Expr → Bool
  | .Call _ _ _ _ => true
  | _ => false
def isTupE : Expr → Bool
  | .Tuple _ _ _ => true
  | _ => false
/-- how a name takes a value: plainly, or swapped with a comprehension's frame -/
def nameOk (sc : Scope) (x : Str) (px : Pos) (e : Expr) : Bool := match e with
  | .ListComp _ _ scope p => (match sc.names.lookup x with
    | some .local => (px.line == p.line) && !(scope.names.any fun (n, k) => n == x && (k == .local || k == .cell))
    | some .cell => true
    | _ => false)
  | .SetComp _ _ _ _ => false
  | .DictComp _ _ _ scope p => (match sc.names.lookup x with
    | some .local => (px.line == p.line) && !(scope.names.any fun (n, k) => n == x && (k == .local || k == .cell))
    | some .cell => true
    | _ => false)
  | _ => true
/-- a, b = c, d stored from the right: both names local, both texts not constants -/
def parOk (sc : Scope) (x y : Str) (px py : Pos) (a b : Expr) : Bool :=
  decide (sc.names.lookup x = some .local) && decide (sc.names.lookup y = some .local) && (py.line == px.line) && !(x == y) && !(foldedForSure 8 a && foldedForSure 8 b) && !(constantsAlone 8 a && constantsAlone 8 b) && okShape a && okShape b

/-- a, b = c, d by way of a pair: one of the names is no plain local -/
def parCell (sc : Scope) (x y : Str) (a b : Expr) : Bool :=
  loc sc allC x && loc sc allC y && (!decide (sc.names.lookup x = some .local) || !decide (sc.names.lookup y = some .local)) && okShape a && okShape b

mutual
def matS (M : Nms) (N : List Str) (sc : Scope) : CS → Stmt → Bool
  | .asg tg c, st => match st with
    | .Assign [.Name x px] e _ => matT N sc allC tg (.Name x px) && matE M N sc c e && nameOk sc x px e
    | .Assign [.Tuple ts tk tp] e _ => matT N sc allC tg (.Tuple ts tk tp) && matE M N sc c e && !isTupE e && !isCompE e
    | _ => false
  | .asgO i c, st => match st with
    | .Assign [.Name x px] e _ => matT N sc allC (.nm i) (.Name x px) && matE M N sc c e && nameOk sc x px e
    | _ => false
  | .par _ i _ j a b, st => match st with
    | .Assign [.Tuple [.Name x px, .Name y py] _ _] (.Tuple [ea, eb] _ _) _ => decide (N[i]? = some x) && decide (N[j]? = some y) && !(i == j) && (parOk sc x y px py ea eb || parCell sc x y ea eb) && matE M N sc a ea && matE M N sc b eb
    | _ => false
  | .app i c, st => match st with
    | .Expr (.Call (.Attribute (.Name x px) m apos) [e] [] cpos) _ => decide (m = "append") && matE M N sc (.var i) (.Name x px) && matE M N sc c e && (apos.endLine == cpos.line)
    | _ => false
  | .appH o c, st => match st with
    | .Expr (.Call (.Attribute eo m apos) [e] [] cpos) _ => decide (m = "append") && matE M N sc o eo && matE M N sc c e && (apos.endLine == cpos.line) && !isCallE eo
    | _ => false
  | .seti i c d, st => match st with
    | .Assign [.Subscript (.Name x px) k _] e _ => matE M N sc (.var i) (.Name x px) && matE M N sc c k && matE M N sc d e
    | _ => false
  | .setH o c d, st => match st with
    | .Assign [.Subscript eo k _] e _ => matE M N sc o eo && matE M N sc c k && matE M N sc d e
    | _ => false
  | .expr c, st => match st with
    | .Expr e _ => matE M N sc c e && !isCompE e
    | _ => false
  | .ite t a b, st => match st with
    | .If e x y _ => matC M N sc t e && matSs M N sc a x && matSs M N sc b y
    | _ => false
  | .forr tg it b, st => match st with
    | .For t e x [] _ => matT N sc allC tg t && matI M N sc it t e && matSs M N sc b x
    | _ => false
  | .whil _ t b, st => match st with
    | .While e x [] _ => matC M N sc t e && matSs M N sc b x
    | _ => false
  | .ret c, st => match st with
    | .Return (some e) _ => matE M N sc c e
    | _ => false
  | .retO i, st => match st with
    | .Return (some e) _ => matE M N sc (.var i) e
    | _ => false
  | .retN, st => match st with
    | .Return none _ => true
    | _ => false
  | .brk, st => match st with
    | .Break _ => true
    | _ => false
  | .raise _ _, st => match st with
    | .Raise _ _ _ => true
    | _ => false
def matSs (M : Nms) (N : List Str) (sc : Scope) : CSs → List Stmt → Bool
  | .nil, [] => true
  | .nil, _ :: _ => false
  | .frz _ cs, ss => matSs M N sc cs ss
  | .cons c cs, s :: ss => matS M N sc c s && matSs M N sc cs ss
  | .cons _ _, [] => false
end

/-- where a def was entered -/
structure Ent where
  G : Addr → Prop
  μ : List Addr
  H : Hp
structure Fr (E : Ent) (K : PySem.W.Frag) (n : Nat) (G : Addr → Prop) (μ : List Addr) (σ : L2.St) (H : Hp) (env : MEnv) (s : Sto) : Prop where
  rel : Rel K n G μ σ H env s
  ext : Ext E.G E.μ E.H G μ H
  own : ∀ (i : Nat) d a, env[i]? = some (some (true, d)) → isMut d = true → σ[i]? = some (some (.ref a)) → E.H a = none
/-- what is wanted behind a statement's outcome -/
def Fin (E : Ent) (K : PySem.W.Frag) (n : Nat) (G : Addr → Prop) (μ : List Addr) (H : Hp) (D : Ends) (s' : Sto) : Out → Prop
  | .nx env' => ∀ σ' G' μ' H', Stay G μ H G' μ' H' → Fr E K n G' μ' σ' H' env' s' → D.nx σ' H'
  | .bk env' => ∀ σ' G' μ' H', Stay G μ H G' μ' H' → Fr E K n G' μ' σ' H' env' s' → D.bk σ' H'
  | .rt fr d => ∀ v G' μ' H', Ext E.G E.μ E.H G' μ' H' → Sk K G' μ' H' s' → (if fr = true then New K G' μ' H' E.H d v else Val K G' μ' H' d v) → D.rt v H'
def tSv (F : Cl) (E : Ent) (K : PySem.W.Frag) (n : Nat) (c : CS) : TS := fun D σ H => ∃ G μ env s o s', Fr E K n G μ σ H env s ∧ evS F c env s = .ok o s' ∧ Fin E K n G μ H D s' o
def tSvs (F : Cl) (E : Ent) (K : PySem.W.Frag) (n : Nat) (c : CSs) : TS := fun D σ H => ∃ G μ env s o s', Fr E K n G μ σ H env s ∧ evSs F c env s = .ok o s' ∧ Fin E K n G μ H D s' o

section
variable {E : Ent} {K : PySem.W.Frag} {n : Nat} {G G' : Addr → Prop} {μ μ' : List Addr} {σ σ' : L2.St} {H H' : Hp} {env : MEnv} {s s' : Sto} {d : D} {v : V} {Ds : Ends}
theorem Fr.step (R : Fr E K n G μ σ H env s) (e : Ext G μ H G' μ' H') (S : Sk K G' μ' H' s') : Fr E K n G' μ' σ H' env s' := ⟨R.rel.ext e S, R.ext.trans e, R.own⟩
theorem Fin.stay {o : Out} (st : Stay G μ H G' μ' H') (h : Fin E K n G μ H Ds s' o) : Fin E K n G' μ' H' Ds s' o := by
  cases o with
  | nx env' => exact fun σ' G2 μ2 H2 x R => h σ' G2 μ2 H2 (st.trans x) R
  | bk env' => exact fun σ' G2 μ2 H2 x R => h σ' G2 μ2 H2 (st.trans x) R
  | rt fr d => exact h
/-- a target is stored -/
theorem Fr.tgt (R : Fr E K n G μ σ H env s) {tg : Tgt} {env' : MEnv} (hv : Val K G μ H d v) (hb : bindT tg d env = some env') {Q : L2.St → Hp → Prop} (q : ∀ σ', Fr E K n G μ σ' H env' s → Q σ' H) : gT K tg v σ H Q :=
  gT_ok tg d v σ env env' Q R.rel hv hb fun σ' R' _ ho => q σ' ⟨R', R.ext, fun i dd a h1 h2 h3 => by
    have hown : ownd env' i = true := by unfold ownd; rw [h1]
    obtain ⟨p1, p2⟩ := ho i hown
    exact R.own i dd a (p1 ▸ h1) h2 (p2 ▸ h3)⟩
/-- an owned slot's address -/
theorem Rel.ownAt (R : Rel K n G μ σ H env s) {i : Nat} {dd : D} (h : env[i]? = some (some (true, dd))) (hm : isMut dd = true) : ∃ a, σ[i]? = some (some (.ref a)) ∧ a ∉ μ ∧ ¬ G a ∧ At K G μ H a dd := by
  obtain ⟨v, h1, h2⟩ := R.slot i true dd h
  rcases h2 with ⟨_, h3⟩ | ⟨_, a, rfl, h4, h5, h6⟩
  · rw [h3 rfl] at hm; cases hm
  · exact ⟨a, h1, h4, h5, h6⟩
/-- a new list goes into a slot -/
theorem Rel.setN {H₀ : Hp} {G₀ : Addr → Prop} {μ₀ : List Addr} {s₀ : Sto} (R₀ : Rel K n G₀ μ₀ σ H₀ env s₀) (e : Ext G₀ μ₀ H₀ G μ H) (S : Sk K G μ H s) {i : Nat} (hi : i < env.length) (h : New K G μ H H₀ d v) :
    Rel K n G μ (σ.set i (some v)) H (env.set i (some (true, d))) s := by
  have R := R₀.ext e S
  have hi' : i < σ.length := by rw [R.lenσ, ← R.len]; exact hi
  have apart : ∀ (j : Nat) dd a, env[j]? = some (some (true, dd)) → isMut dd = true → σ[j]? = some (some (.ref a)) → v = .ref a → isMut d = true → False := by
    intro j dd a h1 h2 h3 h4 h5
    obtain ⟨b, q1, _, _, q2⟩ := R₀.ownAt h1 h2
    rw [h3] at q1
    cases q1
    rcases h with ⟨z, _⟩ | ⟨c, e1, _, _, e2, _⟩
    · rw [z] at h5; cases h5
    · rw [h4] at e1
      cases e1
      exact q2.there e2
  refine ⟨by rw [List.length_set]; exact R.len, by rw [List.length_set]; exact R.lenσ, R.sk, fun j o dd h1 => ?_, fun j k d1 d2 a hjk h1 h2 m1 m2 v1 v2 => ?_⟩
  · rw [getE_set hi] at h1
    rw [getS_set hi']
    by_cases q : i = j
    · rw [if_pos q] at h1 ⊢
      cases h1
      refine ⟨v, rfl, ?_⟩
      rcases h with ⟨z, h⟩ | ⟨a, rfl, h1, h2, _, h4⟩
      · exact .inl ⟨h, fun _ => z⟩
      · exact .inr ⟨rfl, a, rfl, h1, h2, h4⟩
    · rw [if_neg q] at h1 ⊢
      exact R.slot j o dd h1
  · rw [getE_set hi] at h1 h2
    rw [getS_set hi'] at v1 v2
    by_cases q1 : i = j
    · rw [if_pos q1] at h1 v1
      by_cases q2 : i = k
      · exact hjk (q1.symm.trans q2)
      · rw [if_neg q2] at h2 v2
        cases h1
        cases v1
        exact apart k d2 a h2 m2 v2 rfl m1
    · rw [if_neg q1] at h1 v1
      by_cases q2 : i = k
      · rw [if_pos q2] at h2 v2
        cases h2
        cases v2
        exact apart j d1 a h1 m1 v1 rfl m2
      · rw [if_neg q2] at h2 v2
        exact R.sep j k d1 d2 a hjk h1 h2 m1 m2 v1 v2
theorem Fr.setN {H₀ : Hp} {G₀ : Addr → Prop} {μ₀ : List Addr} {s₀ : Sto} (R₀ : Fr E K n G₀ μ₀ σ H₀ env s₀) (e : Ext G₀ μ₀ H₀ G μ H) (S : Sk K G μ H s) {i : Nat} (hi : i < env.length) (h : New K G μ H H₀ d v) :
    Fr E K n G μ (σ.set i (some v)) H (env.set i (some (true, d))) s := by
  have hi' : i < σ.length := by rw [R₀.rel.lenσ, ← R₀.rel.len]; exact hi
  refine ⟨R₀.rel.setN e S hi h, R₀.ext.trans e, fun j dd a h1 h2 h3 => ?_⟩
  rw [getE_set hi] at h1
  rw [getS_set hi'] at h3
  by_cases q : i = j
  · rw [if_pos q] at h1 h3
    cases h1
    cases h3
    rcases h with ⟨z, _⟩ | ⟨b, e1, _, _, e2, _⟩
    · rw [z] at h2; cases h2
    · cases e1; exact R₀.ext.dom a e2
  · rw [if_neg q] at h1 h3
    exact R₀.own j dd a h1 h2 h3
/-- a value that stays goes into a slot -/
theorem Fr.setV (R : Fr E K n G μ σ H env s) {i : Nat} (hi : i < env.length) (h : Val K G μ H d v) : Fr E K n G μ (σ.set i (some v)) H (env.set i (some (false, d))) s := by
  have hi' : i < σ.length := by rw [R.rel.lenσ, ← R.rel.len]; exact hi
  refine ⟨R.rel.setV hi h, R.ext, fun j dd a h1 h2 h3 => ?_⟩
  rw [getE_set hi] at h1
  rw [getS_set hi'] at h3
  by_cases q : i = j
  · rw [if_pos q] at h1; cases h1
  · rw [if_neg q] at h1 h3; exact R.own j dd a h1 h2 h3
/-- a name gives up its list -/
theorem Fr.frz (R : Fr E K n G μ σ H env s) (i : Nat) : ∃ G', (∀ a, G a → G' a) ∧ (∀ dd a, env[i]? = some (some (true, dd)) → isMut dd = true → σ[i]? = some (some (.ref a)) → G' a) ∧ Fr E K n G' μ σ H (frzE env i) s ∧ Stay G μ H G' μ H := by
  unfold frzE
  cases he : env[i]? with
  | none => exact ⟨G, fun _ g => g, fun dd a h => (by cases h), R, .refl⟩
  | some o =>
    cases o with
    | none => exact ⟨G, fun _ g => g, fun dd a h => (by cases h), R, .refl⟩
    | some p =>
      obtain ⟨o, d⟩ := p
      simp only
      have hi : i < env.length := (List.getElem?_eq_some_iff.mp he).1
      have hi' : i < σ.length := by rw [R.rel.lenσ, ← R.rel.len]; exact hi
      obtain ⟨v, hv, ow⟩ := R.rel.slot i o d he
      have hσ : σ.set i (some v) = σ := by
        apply List.ext_getElem?
        intro j
        rw [getS_set hi']
        by_cases q : i = j
        · subst q; rw [if_pos rfl, hv]
        · rw [if_neg q]
      rcases ow with ⟨h1, h2⟩ | ⟨h0, a, rfl, h1, h2, h3⟩
      · refine ⟨G, fun _ g => g, fun dd a q1 q2 q3 => ?_, ?_, .refl⟩
        · cases q1
          rw [h2 rfl] at q2; cases q2
        · have := R.setV hi h1
          rwa [hσ] at this
      · subst h0
        refine ⟨addG G a, fun _ g => .inl g, fun dd b q1 q2 q3 => ?_, ?_, .addG⟩
        · rw [hv] at q3; cases q3; exact .inr rfl
        · -- all the others stand apart
          have Rg : Fr E K n (addG G a) μ σ H (env.set i none) s := by
            refine ⟨⟨by rw [List.length_set]; exact R.rel.len, R.rel.lenσ, R.rel.sk.addG h1 h3.there, fun j o' d' hj => ?_, fun j k d1 d2 b hjk q1 q2 => ?_⟩, R.ext.grow (fun _ g => .inl g) (fun b g => ?_), fun j d' b hj => ?_⟩
            · rw [getE_set hi] at hj
              by_cases q : i = j
              · rw [if_pos q] at hj; cases hj
              · rw [if_neg q] at hj
                obtain ⟨w, w1, w2⟩ := R.rel.slot j o' d' hj
                refine ⟨w, w1, ?_⟩
                rcases w2 with ⟨w2, w3⟩ | ⟨w0, b, rfl, w4, w5, w6⟩
                · exact .inl ⟨w2.mono .addG, w3⟩
                · subst w0
                  refine .inr ⟨rfl, b, rfl, w4, fun z => z.elim w5 fun e => ?_, w6.mono .addG fun _ z => z⟩
                  subst e
                  exact R.rel.sep i j d d' b q he hj h3.mut w6.mut hv w1
            · rw [getE_set hi] at q1 q2
              by_cases z1 : i = j
              · rw [if_pos z1] at q1; cases q1
              · by_cases z2 : i = k
                · rw [if_pos z2] at q2; cases q2
                · rw [if_neg z1] at q1; rw [if_neg z2] at q2
                  exact R.rel.sep j k d1 d2 b hjk q1 q2
            · exact (show G b ∨ b = a from g).elim .inl fun (e : b = a) => .inr (by rw [e]; exact R.own i d a he h3.mut hv)
            · rw [getE_set hi] at hj
              by_cases q : i = j
              · rw [if_pos q] at hj; cases hj
              · rw [if_neg q] at hj; exact R.own j d' b hj
          have := Rg.setV (i := i) (d := d) (v := .ref a) (by rw [List.length_set]; exact hi) h3.val
          rwa [hσ, List.set_set] at this
theorem frzE_own {i j : Nat} {dd : D} (h : (frzE env i)[j]? = some (some (true, dd))) : env[j]? = some (some (true, dd)) ∧ i ≠ j := by
  unfold frzE at h
  cases he : env[i]? with
  | none =>
    rw [he] at h
    exact ⟨h, fun z => by subst z; rw [he] at h; cases h⟩
  | some o =>
    rw [he] at h
    cases o with
    | none => exact ⟨h, fun z => by subst z; have h : env[i]? = _ := h; rw [he] at h; cases h⟩
    | some p =>
      simp only at h
      have hi : i < env.length := (List.getElem?_eq_some_iff.mp he).1
      rw [getE_set hi] at h
      by_cases q : i = j
      · rw [if_pos q] at h; cases h
      · rw [if_neg q] at h; exact ⟨h, q⟩
/-- new lists are put among what stays -/
theorem Fr.growNew {H₀ : Hp} (R : Fr E K n G μ σ H env s) (hE : ∀ a, H₀ a = none → E.H a = none) (hO : ∀ (j : Nat) dd a, env[j]? = some (some (true, dd)) → isMut dd = true → σ[j]? = some (some (.ref a)) → H₀ a ≠ none)
    (A : Addr → Prop) (hA : ∀ a, A a → H a ≠ none ∧ a ∉ μ) : Fr E K n (fun a => G a ∨ (A a ∧ H₀ a = none)) μ σ H env s ∧ Stay G μ H (fun a => G a ∨ (A a ∧ H₀ a = none)) μ H := by
  have st : Stay G μ H (fun a => G a ∨ (A a ∧ H₀ a = none)) μ H := ⟨fun _ _ _ e => e, fun _ _ e => e, fun _ e => e, fun _ g => .inl g, [], by simp⟩
  refine ⟨⟨⟨R.rel.len, R.rel.lenσ, ⟨R.rel.sk.len, R.rel.sk.nd, fun a ha g => g.elim (R.rel.sk.g a ha) fun z => (hA a z.1).2 ha, fun i o h => let ⟨a, h1, h2⟩ := R.rel.sk.ob i o h; ⟨a, h1, h2.mono st fun _ z => z⟩, fun a g => g.elim (R.rel.sk.dom a) fun z => (hA a z.1).1⟩, fun i o dd h => ?_, R.rel.sep⟩,
    R.ext.grow (fun _ g => .inl g) fun a g => g.elim .inl fun z => .inr (hE a z.2), R.own⟩, st⟩
  obtain ⟨v, h1, h2⟩ := R.rel.slot i o dd h
  refine ⟨v, h1, ?_⟩
  rcases h2 with ⟨h2, h3⟩ | ⟨h0, a, rfl, h4, h5, h6⟩
  · exact .inl ⟨h2.mono st, h3⟩
  · subst h0
    exact .inr ⟨rfl, a, rfl, h4, fun g => g.elim h5 fun z => hO i dd a h h6.mut h1 z.2, h6.mono st fun _ z => z⟩
end
end Mi
/-! M15: the rules of statements. -/
namespace Mi
open PySem PySem.Spec PyProof.Rows L2

structure CxtS (M : Nms) (T : Tab) (k : Nat) (N : List Str) (sc : Scope) (X : Cx) : Prop where
  c : Cxt M T k N sc allC X
  kind : X.env.scope.kind = .function
  pass : PassesOwn (model X.prog X.w) X.A X.env X.xe

section
variable {X : Cx}
theorem _root_.L2.PS.weak {st : Stmt} {t t' : TS} (h : PS X st t) (w : ∀ D σ H, t' D σ H → t D σ H) : PS X st t' := ⟨fun pins s σ H D I q => h.run pins s σ H D I (w _ _ _ q)⟩
theorem _root_.L2.PSs.weak {st : List Stmt} {t t' : TS} (h : PSs X st t) (w : ∀ D σ H, t' D σ H → t D σ H) : PSs X st t' := ⟨fun pins s σ H D I q => h.run pins s σ H D I (w _ _ _ q)⟩
end

section
variable {M : Nms} {T : Tab} {k : Nat} {N : List Str} {sc : Scope} {X : Cx} {E : Ent}
theorem swaps_plain {e : Expr} (h : isCompE e = false) (t : Option Expr) (l : Nat) (env : PySem.Env) : swapsWith e t l env = pure false := by
  cases e <;> first | rfl | simp [isCompE] at h
theorem swaps_other {e t : Expr} (h : ∀ x p, t ≠ .Name x p) (l : Nat) (env : PySem.Env) : swapsWith e (some t) l env = pure false := by
  cases t <;> first | (cases e <;> rfl) | exact absurd rfl (h _ _)
theorem stores_plain {e t : Expr} (h : isTupE e = false) (env : PySem.Env) : swappedStores [t] e env = pure none := by
  cases e <;> first | (cases t <;> rfl) | simp [isTupE] at h
theorem stores_name {e : Expr} {x : Str} {p : Pos} (env : PySem.Env) : swappedStores [.Name x p] e env = pure none := by
  cases e <;> rfl
theorem stores_sub {e a b : Expr} {p : Pos} (env : PySem.Env) : swappedStores [.Subscript a b p] e env = pure none := by
  cases e <;> rfl
theorem each_one {t : Expr} (h : ∀ a p, t ≠ .Starred a p) (env : PySem.Env) : (assignEach [t] env).map (·.2) = [assign t env] := by
  cases t <;> first | rfl | exact absurd rfl (h _ _)
theorem swapped_two {env : PySem.Env} {x y : Str} {px py pt pt2 : Pos} {kt k2} {ea eb : Expr} (hk : env.scope.kind = .function) (lx : env.scope.names.lookup x = some .local) (ly : env.scope.names.lookup y = some .local) (hl : py.line = px.line) (hxy : (x == y) = false)
    (hf : (foldedForSure 8 ea && foldedForSure 8 eb) = false) (hc : (constantsAlone 8 ea && constantsAlone 8 eb) = false) (sa : okShape ea = true) (sb : okShape eb = true) :
    swappedStores [.Tuple [.Name x px, .Name y py] kt pt] (.Tuple [ea, eb] k2 pt2) env = pure (some [x, y]) := by
  have k1 : env.kindOf x = some .local := lx
  have k2 : env.kindOf y = some .local := ly
  have nb : (env.blockKind != .function) = false := by
    have : env.blockKind = .function := by unfold Env.blockKind; rw [hk]; rfl
    rw [this]; rfl
  have st : ∀ e : Expr, okShape e = true → (match e with | .Starred .. => true | _ => false) = false := fun e h => by
    cases e <;> first | rfl | simp [okShape] at h
  have hr : (y == x) = false := by
    have : ¬ x = y := by simpa using hxy
    simpa using fun z => this z.symm
  unfold swappedStores
  simp [nb, k1, k2, hl, hxy, hr, hf, hc, List.eraseDups_cons, Expr.pos]
  intro h
  rcases h with h | h
  · cases ea <;> first | (cases h; done) | simp [okShape] at sa
  · cases eb <;> first | (cases h; done) | simp [okShape] at sb
theorem swapped_cell {env : PySem.Env} {x y : Str} {px py pt pt2 : Pos} {kt k2} {ea eb : Expr} (h : env.scope.names.lookup x ≠ some .local ∨ env.scope.names.lookup y ≠ some .local) (sa : okShape ea = true) (sb : okShape eb = true) :
    swappedStores [.Tuple [.Name x px, .Name y py] kt pt] (.Tuple [ea, eb] k2 pt2) env = pure none := by
  have e1 : env.kindOf x = env.scope.names.lookup x := rfl
  have e2 : env.kindOf y = env.scope.names.lookup y := rfl
  unfold swappedStores
  simp only [e1, e2]
  rcases h with h | h
  · have : (env.scope.names.lookup x == some NameKind.local) = false := by simpa using h
    simp [this]
    intro _ _ _ q
    exfalso
    simp only [List.filterMap_cons, List.filterMap_nil, e1, e2, h, false_and, if_false] at q
    repeat' split at q
    all_goals simp at q
  · have : (env.scope.names.lookup y == some NameKind.local) = false := by simpa using h
    simp [this]
    intro _ _ _ q
    exfalso
    simp only [List.filterMap_cons, List.filterMap_nil, e1, e2, h, false_and, if_false] at q
    repeat' split at q
    all_goals simp at q
theorem kindOf_eq (C : CxtS M T k N sc X) (x : Str) : X.env.kindOf x = sc.names.lookup x := by
  show X.env.scope.names.lookup x = _
  rw [C.c.sc]
/-- x = e, whichever way the machine takes -/
theorem r_asgN0 (C : CxtS M T k N sc X) {i : Nat} {x : Str} {px pos : Pos} {e : Expr} {c : CE} (hh : ∀ a, c ≠ .heap a) (h1 : matT N sc allC (.nm i) (.Name x px) = true) (h2 : matE M N sc c e = true) (h3 : nameOk sc x px e = true) :
    PS X (.Assign [.Name x px] e pos) (tAsg (tEv (clOf T k) X.K X.N.length c) (gName i)) := by
  have hp := sE C.c h2
  have hg : PG X (.Name x px) (gName i) := C.c.tgt h1
  have plain : swapsWith e (some (.Name x px)) pos.line X.env = pure false → PS X (.Assign [.Name x px] e pos) (tAsg (tEv (clOf T k) X.K X.N.length c) (gName i)) := fun hs =>
    ps_asg hp hg hs (stores_name X.env) rfl
  by_cases hc : isCompE e = false
  · exact plain (swaps_plain hc _ _ _)
  · cases e <;> simp only [isCompE] at hc <;> try contradiction
    · rename_i elt gs scope p
      simp only [nameOk] at h3
      split at h3
      · rename_i hl
        simp only [Bool.and_eq_true, Bool.not_eq_true'] at h3
        simp only [matT, Bool.and_eq_true, decide_eq_true_eq] at h1
        have hy : X.N[i]? = some x := by rw [C.c.nN]; exact h1.1
        have hyl : X.env.scope.names.lookup x = some .local := by rw [C.c.sc]; exact hl
        have hsw : swapsWith (.ListComp elt gs scope p) (some (.Name x px)) pos.line X.env = pure true := sw_true C.kind hyl h3.1 h3.2
        have hNd : X.N.Nodup := by rw [C.c.nN]; exact C.c.nd
        cases c <;> simp only [matE] at h2 <;> try contradiction
        · rename_i tg it ifs ce own
          split at h2 <;> try contradiction
          rename_i z
          cases z
          simp only [Bool.and_eq_true, decide_eq_true_eq] at h2
          obtain ⟨⟨⟨⟨⟨⟨rfl, q1⟩, q2⟩, q3⟩, q4⟩, q5⟩, q6⟩ := h2
          have hset := ps_setLc (i := i) (py := px) (spos := pos) (te := tEv (clOf T k) X.K X.N.length ce) (tt := tRb X.K X.N.length (fun e s => evIfs (clOf T k) ifs e s)) (g := gT X.K tg) (own := ownN N own) C.c.calm hNd hy hyl hsw (sI C.c q1) (blkOk_by (by rw [C.c.nN, C.c.sc]; exact q5)) (fun s H A cl fp => (C.c.blk s H _ A cl fp).tgt q2)
            (fun s H A cl fp => (allOk (M := M) (T := T) (k := k) (sizeOf ifs + 1)).ifs ifs _ (by omega) (C.c.blk s H _ A cl fp) q3) (fun s H A cl fp => sE (C.c.blk s H _ A cl fp) q4) (folded_mat q1 X.env)
          refine hset.weak fun D σ H h => ?_
          rw [ownN_snd]
          exact comp_read q6 h
        · rename_i tg it tg2 it2 ifs ce own own2
          split at h2 <;> try contradiction
          rename_i z
          cases z
          simp only [Bool.and_eq_true, decide_eq_true_eq] at h2
          obtain ⟨⟨⟨⟨⟨⟨⟨⟨⟨⟨⟨rfl, rfl⟩, q1⟩, q2⟩, q3⟩, q4⟩, q5⟩, q6⟩, q7⟩, q8⟩, q9⟩, q10⟩ := h2
          have hset := ps_setLc2 (i := i) (py := px) (spos := pos) (te := tEv (clOf T k) X.K X.N.length ce) (tt := tYes) (tt1 := tRb X.K X.N.length (fun e s => evIfs (clOf T k) ifs e s)) (g := gT X.K tg) (g1 := gT X.K tg2) (wi1 := tEvI (clOf T k) X.K X.N.length it2) (own := ownN N own) (vs1 := own2) C.c.calm hNd hy hyl hsw (sI C.c q1) (blkOk_by (by rw [C.c.nN, C.c.sc]; exact q7)) (by rw [ownN_snd]; exact fun i hi => by simpa using List.all_eq_true.mp q10 i hi)
            (fun s H A cl fp => (C.c.blk s H _ A cl fp).tgt q2) (fun _ _ _ _ _ => pts_nil) (fun s H A cl fp => sI (C.c.blk s H _ A cl fp) q3) (fun s H A cl fp => (C.c.blk s H _ A cl fp).tgt q4)
            (fun s H A cl fp => (allOk (M := M) (T := T) (k := k) (sizeOf ifs + 1)).ifs ifs _ (by omega) (C.c.blk s H _ A cl fp) q5) (fun s H A cl fp => sE (C.c.blk s H _ A cl fp) q6) (folded_mat q1 X.env) (fun env x => folded_mat q3 env x)
          refine hset.weak fun D σ H h => ?_
          rw [ownN_snd]
          exact comp2_read q8 q9 h
        · exact absurd rfl (hh _)
      · rename_i hl
        refine plain ?_
        have hk : X.env.kindOf x = some .cell := by rw [kindOf_eq C]; exact hl
        have hne : (some NameKind.cell == some NameKind.local) = false := by decide
        unfold swapsWith
        simp [hk, hne]
      · cases h3
    · rename_i kx vx gs scope p
      simp only [nameOk] at h3
      split at h3
      · rename_i hl
        simp only [Bool.and_eq_true, Bool.not_eq_true'] at h3
        simp only [matT, Bool.and_eq_true, decide_eq_true_eq] at h1
        have hy : X.N[i]? = some x := by rw [C.c.nN]; exact h1.1
        have hyl : X.env.scope.names.lookup x = some .local := by rw [C.c.sc]; exact hl
        have hsw : swapsWith (.DictComp kx vx gs scope p) (some (.Name x px)) pos.line X.env = pure true := swaps_dict C.kind hyl h3.1 h3.2
        have hNd : X.N.Nodup := by rw [C.c.nN]; exact C.c.nd
        have hu : X.A.units < cLine := by have := C.c.hu; omega
        cases c <;> simp only [matE] at h2 <;> try contradiction
        · exact absurd rfl (hh _)
        · rename_i tk tg it ck cv own
          split at h2 <;> try contradiction
          rename_i z
          cases z
          simp only [Bool.and_eq_true, decide_eq_true_eq] at h2
          obtain ⟨⟨⟨⟨⟨⟨rfl, q1⟩, q2⟩, q3⟩, q4⟩, q5⟩, q6⟩ := h2
          have hset := ps_setDm tk (i := i) (py := px) (spos := pos) (tk := tEv (clOf T k) X.K X.N.length ck) (tv := tEv (clOf T k) X.K X.N.length cv) (tt := tYes) (g := gT X.K tg) (own := ownN N own) hu C.c.calm hNd hy hyl hsw (sI C.c q1) (blkOk_by (by rw [C.c.nN, C.c.sc]; exact q5)) (fun s H A cl fp => (C.c.blk s H _ A cl fp).tgt q2)
            (fun _ _ _ _ _ => pts_nil) (fun s H A cl fp => sE (C.c.blk s H _ A cl fp) q3) (fun s H A cl fp => sE (C.c.blk s H _ A cl fp) q4) (folded_mat q1 X.env)
          refine hset.weak fun D σ H h => ?_
          rw [ownN_snd]
          exact dcomp_read q6 h
      · rename_i hl
        refine plain ?_
        have hk : X.env.kindOf x = some .cell := by rw [kindOf_eq C]; exact hl
        have hne : (some NameKind.cell == some NameKind.local) = false := by decide
        unfold swapsWith
        simp [hk, hne]
      · cases h3
theorem r_asgN (C : CxtS M T k N sc X) {i : Nat} {x : Str} {px pos : Pos} {e : Expr} {c : CE} (h1 : matT N sc allC (.nm i) (.Name x px) = true) (h2 : matE M N sc c e = true) (h3 : nameOk sc x px e = true) :
    PS X (.Assign [.Name x px] e pos) (tAsg (tEv (clOf T k) X.K X.N.length c) (gName i)) := by
  by_cases hh : ∀ a, c ≠ .heap a
  · exact r_asgN0 C hh h1 h2 h3
  · have ⟨a, ha⟩ : ∃ a, c = .heap a := by
      cases c <;> first | exact ⟨_, rfl⟩ | exact absurd (fun _ z => by cases z) hh
    subst ha
    have h2 : matE M N sc a e = true := by simpa [matE] using h2
    by_cases h4 : ∀ b, a ≠ .heap b
    · exact (r_asgN0 C h4 h1 h2 h3).weak fun D σ H h => heap_read h
    · have ⟨b, hb⟩ : ∃ b, a = .heap b := by
        cases a <;> first | exact ⟨_, rfl⟩ | exact absurd (fun _ z => by cases z) h4
      subst hb
      refine ps_never.weak fun D σ H ⟨G, μ, env, s, d, s', R, ev, q⟩ => ?_
      simp [evE, fresh] at ev

/-! ### a name takes a value -/
variable {K : PySem.W.Frag} {n : Nat} {G G1 : Addr → Prop} {μ μ1 : List Addr} {σ : L2.St} {H H1 : Hp} {env env0 : MEnv} {s s1 : Sto} {d : D} {v : V} {Ds : Ends} {F : Cl}
theorem Fr.put (R : Fr E K n G μ σ H env s) (x1 : Ext G μ H G1 μ1 H1) (S1 : Sk K G1 μ1 H1 s1) {o : Bool} {c : CE} {i : Nat} (hi : i < env.length) (hb : o = false → bor env0 c = false) (hf : o = true → fresh F c = true) (p : Post F env0 c K G1 μ1 H1 H d v) :
    ∃ G2, Ext G μ H G2 μ1 H1 ∧ Stay G1 μ1 H1 G2 μ1 H1 ∧ (∀ a, G1 a → G2 a) ∧ (∀ a, G2 a → G1 a ∨ H a = none) ∧ Sk K G2 μ1 H1 s1 ∧ Fr E K n G2 μ1 (σ.set i (some v)) H1 (env.set i (some (o, d))) s1 := by
  cases o with
  | true => exact ⟨G1, x1, .refl, fun _ g => g, fun _ g => .inl g, S1, R.setN x1 S1 hi (p.new (hf rfl))⟩
  | false =>
    obtain ⟨G2, a1, a2, S2, hv, st⟩ := p.absorb S1 (hb rfl)
    exact ⟨G2, x1.grow a1 a2, st, a1, a2, S2, (R.step (x1.grow a1 a2) S2).setV hi hv⟩
/-- an owned list or dict is changed -/
theorem Fr.chg (R : Fr E K n G μ σ H env s) {i : Nat} {a : Addr} {o u : HO} {d' : D} (h : env[i]? = some (some (true, d))) (hm : isMut d = true) (hσ : σ[i]? = some (some (.ref a))) (hu : H a = some u) (nt : ∀ xs, u ≠ .tup xs) (ha : a ∉ μ) (hg : ¬ G a)
    (hm' : isMut d' = true) (hat : At K G μ (upd H a o) a d') : Fr E K n G μ σ (upd H a o) (env.set i (some (true, d'))) s ∧ Stay G μ H G μ (upd H a o) := by
  have st : Stay G μ H G μ (upd H a o) := .own hg hu nt
  have hi : i < env.length := (List.getElem?_eq_some_iff.mp h).1
  refine ⟨⟨⟨by rw [List.length_set]; exact R.rel.len, R.rel.lenσ, R.rel.sk.own ha hg hu nt, fun j oj dj hj => ?_, fun j k d1 d2 b hjk q1 q2 m1 m2 v1 v2 => ?_⟩, R.ext.own (R.own i d a h hm hσ), fun j dd b q1 q2 q3 => ?_⟩, st⟩
  · rw [getE_set hi] at hj
    by_cases q : i = j
    · rw [if_pos q] at hj
      cases hj
      subst q
      exact ⟨_, hσ, .inr ⟨rfl, a, rfl, ha, hg, hat⟩⟩
    · rw [if_neg q] at hj
      obtain ⟨w, w1, w2⟩ := R.rel.slot j oj dj hj
      refine ⟨w, w1, ?_⟩
      rcases w2 with ⟨w2, w3⟩ | ⟨w0, b, rfl, w4, w5, w6⟩
      · exact .inl ⟨w2.mono st, w3⟩
      · subst w0
        refine .inr ⟨rfl, b, rfl, w4, w5, w6.mono st fun z hz => ?_⟩
        have : b ≠ a := fun e => by subst e; exact R.rel.sep i j d dj b q h hj hm w6.mut hσ w1
        rw [upd_ne this]; exact hz
  · rw [getE_set hi] at q1 q2
    by_cases z1 : i = j
    · by_cases z2 : i = k
      · exact hjk (z1.symm.trans z2)
      · rw [if_pos z1] at q1; rw [if_neg z2] at q2
        cases q1
        subst z1
        exact R.rel.sep i k d d2 b hjk h q2 hm m2 v1 v2
    · rw [if_neg z1] at q1
      by_cases z2 : i = k
      · rw [if_pos z2] at q2
        cases q2
        subst z2
        exact R.rel.sep j i d1 d b hjk q1 h m1 hm v1 v2
      · rw [if_neg z2] at q2
        exact R.rel.sep j k d1 d2 b hjk q1 q2 m1 m2 v1 v2
  · rw [getE_set hi] at q1
    by_cases q : i = j
    · subst q
      rw [hσ] at q3
      cases q3
      exact R.own i d _ h hm hσ
    · rw [if_neg q] at q1
      exact R.own j dd b q1 q2 q3

/-! ### small statements -/
theorem r_asgD {tg : Tgt} {c : CE} {D : Ends} (h : tSv F E K n (.asg tg c) D σ H) : tAsg (tEv F K n c) (gT K tg) D σ H := by
  obtain ⟨G, μ, env, s, o, s', R, ev, q⟩ := h
  simp only [evS] at ev
  split at ev
  · cases ev
  · rename_i hb
    have hb : bor env c = false := by simpa using hb
    obtain ⟨d, s1, ev1, ev⟩ := Rs.bind_eq_ok ev
    obtain ⟨env1, s2, ev2', ev3⟩ := Rs.bind_eq_ok ev
    obtain ⟨ev2, rfl⟩ := Rs.of_eq_ok ev2'
    cases ev3
    refine ⟨G, μ, env, s, d, _, R.rel, ev1, fun v G1 μ1 H1 x1 S1 p1 => ?_⟩
    obtain ⟨G2, a1, a2, S2, hv, st⟩ := p1.absorb S1 hb
    exact (R.step (x1.grow a1 a2) S2).tgt hv ev2 fun σ' R' => q σ' G2 μ1 H1 ((x1.grow a1 a2).stay R.rel.sk) R'
theorem r_asgOD {i : Nat} {c : CE} {D : Ends} (h : tSv F E K n (.asgO i c) D σ H) : tAsg (tEv F K n c) (gName i) D σ H := by
  obtain ⟨G, μ, env, s, o, s', R, ev, q⟩ := h
  simp only [evS] at ev
  split at ev
  · rename_i hb
    simp only [Bool.and_eq_true, decide_eq_true_eq] at hb
    obtain ⟨d, s1, ev1, ev⟩ := Rs.bind_eq_ok ev
    cases ev
    refine ⟨G, μ, env, s, d, _, R.rel, ev1, fun v G1 μ1 H1 x1 S1 p1 => ?_⟩
    exact q _ G1 μ1 H1 (x1.stay R.rel.sk) (R.setN x1 S1 hb.2 (p1.new hb.1))
  · cases ev
theorem r_par (C : CxtS M T k N sc X) {oi oj : Bool} {i j : Nat} {a b : CE} {x y : Str} {ea eb : Expr} {px py pt pos : Pos} {kt k2 pt2} (hx : N[i]? = some x) (hy : N[j]? = some y) (hij : (i == j) = false) (hp : parOk sc x y px py ea eb = true) (h1 : matE M N sc a ea = true) (h2 : matE M N sc b eb = true) :
    PS X (.Assign [.Tuple [.Name x px, .Name y py] kt pt] (.Tuple [ea, eb] k2 pt2) pos) (tSv (clOf T k) E X.K X.N.length (.par oi i oj j a b)) := by
  have hij : i ≠ j := by simpa using hij
  simp only [parOk, Bool.and_eq_true, decide_eq_true_eq, Bool.not_eq_true', beq_iff_eq] at hp
  obtain ⟨⟨⟨⟨⟨⟨⟨p1, p2⟩, p3⟩, p4⟩, p5⟩, p6⟩, p7⟩, p8⟩ := hp
  have hN : X.N.Nodup := by rw [C.c.nN]; exact C.c.nd
  have lx : X.env.scope.names.lookup x = some .local := by rw [C.c.sc]; exact p1
  have ly : X.env.scope.names.lookup y = some .local := by rw [C.c.sc]; exact p2
  have hsw : swappedStores [.Tuple [.Name x px, .Name y py] kt pt] (.Tuple [ea, eb] k2 pt2) X.env = pure (some [x, y]) := swapped_two C.kind lx ly p3 p4 p5 p6 p7 p8
  refine (ps_par C.c.calm hN (by rw [C.c.nN]; exact hx) (by rw [C.c.nN]; exact hy) hij lx ly (pa_cons (sE C.c h1) (pa_cons (sE C.c h2) pa_nil (starEach_shape p8 [] X.env)) (starEach_shape p7 [eb] X.env)) hsw rfl).weak fun D σ H ⟨G, μ, env, s, o, s', R, ev, q⟩ => ?_
  simp only [evS] at ev
  split at ev
  · rename_i hb
    simp only [Bool.and_eq_true, decide_eq_true_eq, Bool.or_eq_true, Bool.not_eq_true'] at hb
    obtain ⟨⟨⟨ha, hb⟩, hi⟩, hj⟩ := hb
    obtain ⟨da, s1, ev1, ev⟩ := Rs.bind_eq_ok ev
    obtain ⟨db, s2, ev2, ev⟩ := Rs.bind_eq_ok ev
    cases ev
    refine ⟨G, μ, env, s, da, s1, R.rel, ev1, fun v G1 μ1 H1 x1 S1 q1 => ?_⟩
    obtain ⟨G2, x2, st2, a1, a2, S2, R2⟩ := R.put (i := i) (o := oi) x1 S1 hi (fun z => by rcases ha with w | w; exact w.2; rw [z] at w; cases w.1) (fun z => by rcases ha with w | w; rw [z] at w; cases w.1; exact w.2) q1
    refine ⟨G2, μ1, env, s1, db, _, R.rel.ext x2 S2, ev2, fun w G3 μ3 H3 x3 S3 q3 => ?_⟩
    obtain ⟨G4, x4, st4, b1, b2, S4, R4⟩ := R2.put (i := j) (o := oj) x3 S3 (by rw [List.length_set]; exact hj) (fun z => by rcases hb with w | w; exact w.2; rw [z] at w; cases w.1) (fun z => by rcases hb with w | w; rw [z] at w; cases w.1; exact w.2) q3
    exact ⟨v, w, rfl, q _ G4 μ3 H3 ((x2.stay R.rel.sk).trans (x4.stay S2)) R4⟩
  · cases ev
theorem locN (C : CxtS M T k N sc X) {x : Str} (h : loc sc allC x = true) : Loc X.env.scope x := by
  rw [C.c.sc]
  unfold loc at h
  split at h
  · rename_i q; exact .inl q
  · rename_i q; exact .inr q
  · cases h
theorem r_par2 (C : CxtS M T k N sc X) {oi oj : Bool} {i j : Nat} {a b : CE} {x y : Str} {ea eb : Expr} {px py pt pos : Pos} {kt k2 pt2} (hx : N[i]? = some x) (hy : N[j]? = some y) (hij : (i == j) = false) (hp : parCell sc x y ea eb = true) (h1 : matE M N sc a ea = true) (h2 : matE M N sc b eb = true) :
    PS X (.Assign [.Tuple [.Name x px, .Name y py] kt pt] (.Tuple [ea, eb] k2 pt2) pos) (tSv (clOf T k) E X.K X.N.length (.par oi i oj j a b)) := by
  have hij : i ≠ j := by simpa using hij
  simp only [parCell, Bool.and_eq_true, decide_eq_true_eq, Bool.not_eq_true', Bool.or_eq_true, decide_eq_false_iff_not] at hp
  obtain ⟨⟨⟨⟨p1, p2⟩, p3⟩, p7⟩, p8⟩ := hp
  have hN : X.N.Nodup := by rw [C.c.nN]; exact C.c.nd
  have hsw : swappedStores [.Tuple [.Name x px, .Name y py] kt pt] (.Tuple [ea, eb] k2 pt2) X.env = pure none := swapped_cell (by rw [C.c.sc]; exact p3) p7 p8
  have hf := fun x => C.c.fn x rfl
  have g1 : PG X (.Name x px) (gName i) := pg_name hN (by rw [C.c.nN]; exact hx) (locN C p1) (.inl (hf x))
  have g2 : PG X (.Name y py) (gName j) := pg_name hN (by rw [C.c.nN]; exact hy) (locN C p2) (.inl (hf y))
  refine (ps_asg (pe_tup (pa_cons (sE C.c h1) (pa_cons (sE C.c h2) pa_nil (starEach_shape p8 [] X.env)) (starEach_shape p7 [eb] X.env))) (pg_tup C.c.calm (pgs_cons g1 (pgs_cons g2 pgs_nil rfl) rfl) rfl rfl) rfl hsw rfl).weak fun D σ H ⟨G, μ, env, s, o, s', R, ev, q⟩ => ?_
  simp only [evS] at ev
  split at ev
  · rename_i hb
    simp only [Bool.and_eq_true, decide_eq_true_eq, Bool.or_eq_true, Bool.not_eq_true'] at hb
    obtain ⟨⟨⟨ha, hb⟩, hi⟩, hj⟩ := hb
    obtain ⟨da, s1, ev1, ev⟩ := Rs.bind_eq_ok ev
    obtain ⟨db, s2, ev2, ev⟩ := Rs.bind_eq_ok ev
    cases ev
    refine ⟨G, μ, env, s, da, s1, R.rel, ev1, fun v G1 μ1 H1 x1 S1 q1 => ?_⟩
    obtain ⟨G2, x2, st2, a1, a2, S2, R2⟩ := R.put (i := i) (o := oi) x1 S1 hi (fun z => by rcases ha with w | w; exact w.2; rw [z] at w; cases w.1) (fun z => by rcases ha with w | w; rw [z] at w; cases w.1; exact w.2) q1
    refine ⟨G2, μ1, env, s1, db, _, R.rel.ext x2 S2, ev2, fun w G3 μ3 H3 x3 S3 q3 => ?_⟩
    obtain ⟨G4, x4, st4, b1, b2, S4, R4⟩ := R2.put (i := j) (o := oj) x3 S3 (by rw [List.length_set]; exact hj) (fun z => by rcases hb with w | w; exact w.2; rw [z] at w; cases w.1) (fun z => by rcases hb with w | w; rw [z] at w; cases w.1; exact w.2) q3
    refine ⟨by show 2 ≤ sizeLine; decide, fun p hp => ⟨p, [v, w], rfl, .inl (.inl upd_same), rfl, v, [w], rfl, w, [], rfl, rfl, ?_⟩⟩
    have xl : Ext G4 μ3 H3 G4 μ3 (upd H3 p (.tup [v, w])) := .laid hp
    exact q _ G4 μ3 _ (((x2.stay R.rel.sk).trans (x4.stay S2)).trans (xl.stay S4)) (R4.step xl (S4.laid hp))
  · cases ev
theorem r_exprD {c : CE} {D : Ends} (h : tSv F E K n (.expr c) D σ H) : tDrop (tEv F K n c) D σ H := by
  obtain ⟨G, μ, env, s, o, s', R, ev, q⟩ := h
  simp only [evS] at ev
  obtain ⟨d, s1, ev1, ev⟩ := Rs.bind_eq_ok ev
  cases ev
  exact ⟨G, μ, env, s, d, _, R.rel, ev1, fun v G1 μ1 H1 x1 S1 p1 => q _ G1 μ1 H1 (x1.stay R.rel.sk) (R.step x1 S1)⟩
theorem r_retD {c : CE} {D : Ends} (h : tSv F E K n (.ret c) D σ H) : tRet (tEv F K n c) D σ H := by
  obtain ⟨G, μ, env, s, o, s', R, ev, q⟩ := h
  simp only [evS] at ev
  split at ev
  · cases ev
  · rename_i hb
    have hb : bor env c = false := by simpa using hb
    obtain ⟨d, s1, ev1, ev⟩ := Rs.bind_eq_ok ev
    cases ev
    refine ⟨G, μ, env, s, d, _, R.rel, ev1, fun v G1 μ1 H1 x1 S1 p1 => ?_⟩
    by_cases hf : fresh F c = true
    · refine q v G1 μ1 H1 (R.ext.trans x1) S1 ?_
      rw [if_pos hf]
      exact (p1.new hf).back R.ext.dom
    · obtain ⟨G2, a1, a2, S2, hv, st⟩ := p1.absorb S1 hb
      refine q v G2 μ1 H1 (R.ext.trans (x1.grow a1 a2)) S2 ?_
      rw [if_neg hf]
      exact hv
theorem r_retOD {i : Nat} {D : Ends} (h : tSv F E K n (.retO i) D σ H) : tRet (tVar i) D σ H := by
  obtain ⟨G, μ, env, s, o, s', R, ev, q⟩ := h
  simp only [evS] at ev
  split at ev
  · rename_i d hd
    cases ev
    obtain ⟨v, h1, h2⟩ := R.rel.slot i true d hd
    refine ⟨v, h1, q v G μ H R.ext R.rel.sk ?_⟩
    rw [if_pos rfl]
    rcases h2 with ⟨h2, h3⟩ | ⟨_, a, rfl, h4, h5, h6⟩
    · exact .inl ⟨h3 rfl, h2⟩
    · exact .inr ⟨a, rfl, h4, h5, R.own i d a hd h6.mut h1, h6⟩
  · cases ev
end
end Mi
/-! M16: statements that change a list, loops, blocks. -/
namespace Mi
open PySem PySem.Spec PyProof.Rows L2

section
variable {X : Cx}
/-- o[k] = v for a list or a dict -/
def rPut : TSet := fun o i v H Q => rSetL o i v H Q ∨ ∃ a H', o = .ref a ∧ DPut H a i v H' ∧ Q H'
theorem set_put (hu : X.A.units + 1 < cLine) : PSet X rPut := by
  intro pins s σ H o i v ov iv u Q I ro ri rv h
  rcases h with h | ⟨a, H', rfl, g, q⟩
  · exact set_list pins s σ H o i v ov iv u Q I ro ri rv h
  · cases ro
    exact d_setItem hu I g ri rv fun s' I' => ⟨H', I', q⟩
theorem _root_.Mi.Vls.snoc {K : PySem.W.Frag} {G : Addr → Prop} {μ : List Addr} {H : Hp} {d : D} {v : V} (h : Val K G μ H d v) : ∀ {ds : List D} {vs : List V}, Vls K G μ H ds vs → Vls K G μ H (ds ++ [d]) (vs ++ [v])
  | _, _, .nil => .cons h .nil
  | _, _, .cons a b => .cons a (Vls.snoc h b)
end

section
variable {M : Nms} {T : Tab} {k : Nat} {N : List Str} {sc : Scope} {X : Cx} {E : Ent}
variable {K : PySem.W.Frag} {n : Nat} {G G1 : Addr → Prop} {μ μ1 : List Addr} {σ : L2.St} {H H1 : Hp} {env env0 : MEnv} {s s1 : Sto} {d : D} {v : V} {Ds : Ends} {F : Cl}
theorem lenOk_lt {m : Nat} (h : lenOk (m + 1) = true) : m < sizeLine := by
  have := lenOk_le h
  omega
theorem assign_shape {o i : Expr} {pos : Pos} (h : okShape i = true) (env : PySem.Env) (v : Value) : assign (.Subscript o i pos) env v = (do
      let ov ← holding [v] (eval o env)
      let iv ← holding [v, ov] (eval i env)
      standAt pos
      holding [v, ov, iv] (setItem ov iv v)
      release [v, ov, iv] []) := by
  cases i <;> first | rfl | simp [okShape] at h
theorem sole_sub {e o i : Expr} {p : Pos} (l : Nat) (env : PySem.Env) : swapsWithSole [.Subscript o i p] e l env = pure false := swaps_other (t := .Subscript o i p) (fun _ _ z => nomatch z) l env
theorem base_shape {o : Expr} {m : Str} (h : isCallE o = false) (env : PySem.Env) (w : Sem Value) : attributeBase o m env w = w := by
  cases o <;> first | rfl | simp [isCallE] at h
theorem few_one {e : Expr} {cpos : Pos} (h : okShape e = true) (env : PySem.Env) : ((backTo cpos (starEach [e] env)).all (fun x => !x.1) && (backToKw cpos (keywordEach [] env)).all (fun x => x.1.isSome)
      && decide ([e].length + ([] : List Keyword).length + (if ([] : List Keyword).isEmpty then 0 else 1) < 30)) = true := by
  rw [starEach_shape h [] env]
  rfl
/-- xs.append(e) -/
theorem r_app (C : CxtS M T k N sc X) {i : Nat} {x : Str} {e : Expr} {c : CE} {px apos cpos pos : Pos} (h1 : matE M N sc (.var i) (.Name x px) = true) (h2 : matE M N sc c e = true) (hl : (apos.endLine == cpos.line) = true) :
    PS X (.Expr (.Call (.Attribute (.Name x px) "append" apos) [e] [] cpos) pos) (tSv (clOf T k) E X.K X.N.length (.app i c)) := by
  simp only [matE, Bool.and_eq_true, decide_eq_true_eq] at h1
  obtain ⟨⟨h11, h12⟩, h13⟩ := h1
  obtain ⟨d1, d2⟩ := okN_of h13
  have se := matE_shape h2
  have hv : PE X (.Name x px) (tVar i) := pe_var (by rw [C.c.nN]; exact h11) (by rw [C.c.sc]; exact vis_of h12) d1 d2
  refine (ps_expr (pe_bm PySem.F.plainAttrs_list PySem.F.slot_list_append PySem.F.type_list_append mt_append hv (pa_cons (sE C.c h2) pa_nil (starEach_shape se [] X.env)) rfl (few_one se X.env) hl (starEach_shape se [] X.env) rfl) rfl).weak fun Dn σ H ⟨G, μ, env, s, o, s', R, ev, q⟩ => ?_
  simp only [evS] at ev
  split at ev
  · cases ev
  · rename_i hb
    have hb : bor env c = false := by simpa using hb
    obtain ⟨d, s1, ev1, ev⟩ := Rs.bind_eq_ok ev
    split at ev
    · rename_i xs hx
      split at ev
      · rename_i hz
        cases ev
        obtain ⟨a, w1, w2, w3, w4⟩ := R.rel.ownAt hx rfl
        have hlst : ∃ vs, H a = some (.lst vs) := by cases w4; exact ⟨_, by assumption⟩
        obtain ⟨vs0, hvs0⟩ := hlst
        refine ⟨.ref a, w1, .inl ⟨rfl, vs0, SqL.of hvs0⟩, G, μ, env, s, d, _, R.rel, ev1, fun v G1 μ1 H1 x1 S1 p1 => ?_⟩
        obtain ⟨G2, a1, a2, S2, hv, st⟩ := p1.absorb S1 hb
        have x2 := x1.grow a1 a2
        obtain ⟨u1, u2, u3⟩ := w4.ext R.rel.sk x2 w2 w3
        have R2 := R.step x2 S2
        cases u3 with
        | lst e r =>
          rename_i vs
          have hlen : vs.length < sizeLine := by rw [← r.length]; exact lenOk_lt hz
          refine ⟨a, vs, v, rfl, rfl, e, hlen, ?_⟩
          have st2 : Stay G2 μ1 H1 G2 μ1 (upd H1 a (.lst (vs ++ [v]))) := .own u2 e lst_ne_tup
          obtain ⟨R3, st3⟩ := R2.chg (o := .lst (vs ++ [v])) hx rfl w1 e lst_ne_tup u1 u2 (d' := .lst (xs ++ [d])) rfl (.lst upd_same (Vls.snoc (hv.mono st2) (r.mono st2)))
          exact q _ G2 μ1 _ ((x2.stay R.rel.sk).trans st3) R3
      · cases ev
    · cases ev
/-- xs[k] = e -/
theorem r_seti (C : CxtS M T k N sc X) {i : Nat} {x : Str} {e ek : Expr} {c ck : CE} {px spos pos : Pos} (h1 : matE M N sc (.var i) (.Name x px) = true) (h2 : matE M N sc ck ek = true) (h3 : matE M N sc c e = true) :
    PS X (.Assign [.Subscript (.Name x px) ek spos] e pos) (tSv (clOf T k) E X.K X.N.length (.seti i ck c)) := by
  simp only [matE, Bool.and_eq_true, decide_eq_true_eq] at h1
  obtain ⟨⟨h11, h12⟩, h13⟩ := h1
  obtain ⟨d1, d2⟩ := okN_of h13
  have se := matE_shape h2
  have hv : PE X (.Name x px) (tVar i) := pe_var (by rw [C.c.nN]; exact h11) (by rw [C.c.sc]; exact vis_of h12) d1 d2
  have hu := C.c.hu
  refine (ps_asg (sE C.c h3) (pg_sub hv (sE C.c h2) (set_put (by omega)) (fun v => assign_shape se X.env v)) (sole_sub _ _) (stores_sub X.env) rfl).weak fun Dn σ H ⟨G, μ, env, s, o, s', R, ev, q⟩ => ?_
  simp only [evS] at ev
  split at ev
  · cases ev
  · rename_i hb
    simp only [Bool.or_eq_true, not_or, Bool.not_eq_true] at hb
    obtain ⟨d, s1, ev1, ev⟩ := Rs.bind_eq_ok ev
    obtain ⟨dk, s2, ev2, ev⟩ := Rs.bind_eq_ok ev
    split at ev
    · rename_i dd hx
      split at ev
      · rename_i d' hp
        cases ev
        refine ⟨G, μ, env, s, d, s1, R.rel, ev1, fun v G1 μ1 H1 x1 S1 p1 => ?_⟩
        obtain ⟨G2, a1, a2, S2, hv, st⟩ := p1.absorb S1 hb.1
        have x2 := x1.grow a1 a2
        have R2 := R.step x2 S2
        have hmut : isMut dd = true := by cases dd <;> first | rfl | simp [putD] at hp
        obtain ⟨a, w1, w2, w3, w4⟩ := R.rel.ownAt hx hmut
        refine ⟨.ref a, w1, G2, μ1, env, s1, dk, _, R2.rel, ev2, fun y G3 μ3 H3 x3 S3 p3 => ?_⟩
        obtain ⟨u1, u2, u3⟩ := w4.ext R.rel.sk (x2.trans x3) w2 w3
        have hv3 := hv.mono (x3.stay S2)
        have R3 := R2.step x3 S3
        have stT := (x2.stay R.rel.sk).trans (x3.stay S2)
        cases u3 with
        | lst e r =>
          rename_i vs
          cases dk <;> simp only [putD, Option.map_eq_some_iff] at hp <;> try contradiction
          rename_i ds j0
          obtain ⟨j, hj, rfl⟩ := hp
          obtain ⟨rfl, _⟩ := p3.top.int (s := []) rfl
          refine .inl ⟨a, vs, _, j, rfl, rfl, e, by rw [← r.length]; exact hj, ?_⟩
          have st2 : Stay G3 μ3 H3 G3 μ3 (upd H3 a (.lst (vs.set j v))) := .own u2 e lst_ne_tup
          obtain ⟨R4, st4⟩ := R3.chg (o := .lst (vs.set j v)) hx rfl w1 e lst_ne_tup u1 u2 (d' := .lst (ds.set j d)) rfl (.lst upd_same ((r.mono st2).set (hv3.mono st2) j))
          exact q _ G3 μ3 _ (stT.trans st4) R4
        | dK e r =>
          rename_i kvs ds
          simp only [putD] at hp
          split at hp
          · rename_i hk
            simp only [Bool.and_eq_true] at hk
            cases hp
            obtain ⟨c, rfl, rfl⟩ := p3.top.keyF hk.1
            have hlen : kvs.length < sizeLine := by have := lenOk_lt hk.2; simpa using this
            refine .inr ⟨a, _, rfl, .k e hlen, ?_⟩
            have nt : ∀ xs, HO.dK kvs ≠ .tup xs := fun _ z => by cases z
            have st2 : Stay G3 μ3 H3 G3 μ3 (upd H3 a (.dK (putK kvs c v))) := .own u2 e nt
            obtain ⟨k1, k2⟩ := putK_rel kD_eqv c (hv3.mono st2) (r.mono st2)
            obtain ⟨R4, st4⟩ := R3.chg (o := .dK (putK kvs c v)) hx rfl w1 e nt u1 u2 (d' := .dct false (putKs (kvs.map fun p => kD p.1) ds (kD c) d).1 (putKs (kvs.map fun p => kD p.1) ds (kD c) d).2) rfl (by rw [k1]; exact .dK upd_same k2)
            exact q _ G3 μ3 _ (stT.trans st4) R4
          · cases hp
        | dT e r =>
          rename_i kvs ds
          simp only [putD] at hp
          split at hp
          · rename_i hk
            simp only [Bool.and_eq_true] at hk
            cases hp
            obtain ⟨c, b, rfl, rfl, hbb⟩ := p3.top.keyT hk.1
            have hlen : kvs.length < sizeLine := by have := lenOk_lt hk.2; simpa using this
            refine .inr ⟨a, _, rfl, .t e hbb hlen, ?_⟩
            have nt : ∀ xs, HO.dT kvs ≠ .tup xs := fun _ z => by cases z
            have st2 : Stay G3 μ3 H3 G3 μ3 (upd H3 a (.dT (putK kvs c v))) := .own u2 e nt
            obtain ⟨k1, k2⟩ := putK_rel (enc := fun (k : List Key) => D.tup (k.map kD)) kT_eqv c (hv3.mono st2) (r.mono st2)
            obtain ⟨R4, st4⟩ := R3.chg (o := .dT (putK kvs c v)) hx rfl w1 e nt u1 u2 (d' := .dct true (putKs (kvs.map fun p => D.tup (p.1.map kD)) ds (.tup (c.map kD)) d).1 (putKs (kvs.map fun p => D.tup (p.1.map kD)) ds (.tup (c.map kD)) d).2) rfl (by rw [k1]; exact .dT upd_same k2)
            exact q _ G3 μ3 _ (stT.trans st4) R4
          · cases hp
      · cases ev
    · cases ev
/-- a list on the store is changed -/
theorem Sk.chg (S : Sk K G μ H s) {m : Nat} {a : Addr} {ds : List D} {vs : List V} {u : HO} (hm : μ[m]? = some a) (hu : H a = some u) (nt : ∀ xs, u ≠ .tup xs) (h : Vls K G μ H ds vs) : Ext G μ H G μ (upd H a (.lst vs)) ∧ Sk K G μ (upd H a (.lst vs)) (s.set m (.lst ds)) := by
  have ha : a ∈ μ := List.mem_of_getElem? hm
  have st : Stay G μ H G μ (upd H a (.lst vs)) := .own (S.g a ha) hu nt
  refine ⟨⟨fun b o hb e => ?_, fun b e => ?_, fun _ g => g, fun _ g => .inl g, [], by simp, by simp⟩, ⟨by rw [List.length_set]; exact S.len, S.nd, S.g, fun i o hi => ?_, fun b g e => ?_⟩⟩
  · have : b ≠ a := fun z => hb (z ▸ ha)
    rw [upd_ne this]; exact e
  · by_cases z : b = a
    · subst z; rw [upd_same] at e; cases e
    · rw [upd_ne z] at e; exact e
  · by_cases z : m = i
    · subst z
      have hms : m < s.length := by rw [← S.len]; exact (List.getElem?_eq_some_iff.mp hm).1
      rw [List.getElem?_set_self hms] at hi
      cases hi
      exact ⟨a, hm, .lst upd_same (h.mono st)⟩
    · rw [List.getElem?_set_ne z] at hi
      obtain ⟨b, h1, h2⟩ := S.ob i o hi
      refine ⟨b, h1, h2.mono st fun v hv => ?_⟩
      have : b ≠ a := fun w => by
        subst w
        obtain ⟨i1, e1⟩ := List.getElem?_eq_some_iff.mp h1
        obtain ⟨m1, e2⟩ := List.getElem?_eq_some_iff.mp hm
        exact z ((List.getElem_inj S.nd).mp (e2.trans e1.symm))
      rw [upd_ne this]; exact hv
  · by_cases z : b = a
    · subst z; rw [upd_same] at e; cases e
    · rw [upd_ne z] at e; exact S.dom b g e
theorem Top.refD {m : Nat} (h : Top K G μ H (.ref m) v) : ∃ a, v = .ref a ∧ μ[m]? = some a := by
  rcases h with h | ⟨a, rfl, _, _, h⟩
  · cases h; exact ⟨_, rfl, by assumption⟩
  · cases h
/-- o.append(e), o a list of the store -/
theorem r_appH (C : CxtS M T k N sc X) {eo e : Expr} {co c : CE} {apos cpos pos : Pos} (h1 : matE M N sc co eo = true) (h2 : matE M N sc c e = true) (hl : (apos.endLine == cpos.line) = true) (hs : isCallE eo = false) :
    PS X (.Expr (.Call (.Attribute eo "append" apos) [e] [] cpos) pos) (tSv (clOf T k) E X.K X.N.length (.appH co c)) := by
  have se := matE_shape h2
  refine (ps_expr (pe_bm PySem.F.plainAttrs_list PySem.F.slot_list_append PySem.F.type_list_append mt_append (sE C.c h1) (pa_cons (sE C.c h2) pa_nil (starEach_shape se [] X.env)) (base_shape hs X.env _) (few_one se X.env) hl (starEach_shape se [] X.env) rfl) rfl).weak fun Dn σ H ⟨G, μ, env, s, o, s', R, ev, q⟩ => ?_
  simp only [evS] at ev
  split at ev
  · cases ev
  · rename_i hb
    have hb : bor env c = false := by simpa using hb
    obtain ⟨dx, s1, ev1, ev⟩ := Rs.bind_eq_ok ev
    obtain ⟨d, s2, ev2, evB⟩ := Rs.bind_eq_ok ev
    clear ev
    split at evB
    · rename_i m
      split at evB
      · rename_i xs hx
        split at evB
        · rename_i hz
          cases evB
          refine ⟨G, μ, env, s, _, s1, R.rel, ev1, fun v G1 μ1 H1 x1 S1 p1 => ?_⟩
          obtain ⟨a, rfl, hm⟩ := p1.top.refD
          have R1 := R.step x1 S1
          have hob : ∃ vs, H1 a = some (.lst vs) := by
            have hms : m < s1.length := by rw [← S1.len]; exact (List.getElem?_eq_some_iff.mp hm).1
            obtain ⟨b, e1, e2⟩ := S1.ob m s1[m] (List.getElem?_eq_getElem hms)
            rw [hm] at e1; cases e1
            generalize s1[m] = oo at e2
            cases e2
            exact ⟨_, by assumption⟩
          obtain ⟨vs1, hvs1⟩ := hob
          refine ⟨.inl ⟨rfl, vs1, SqL.of hvs1⟩, G1, μ1, env, s1, d, s2, R1.rel, ev2, fun w G2 μ2 H2 x2 S2 p2 => ?_⟩
          obtain ⟨G3, a1, a2, S3, hv, st⟩ := p2.absorb S2 hb
          have x3 := x2.grow a1 a2
          obtain ⟨ν, e1, _⟩ := x2.m
          have hm2 : μ2[m]? = some a := by
            rw [e1, List.getElem?_append_left (List.getElem?_eq_some_iff.mp hm).1]; exact hm
          obtain ⟨b, e3, e4⟩ := S3.ob m _ hx
          rw [hm2] at e3; cases e3
          cases e4 with
          | lst e r =>
            rename_i vs
            have hlen : vs.length < sizeLine := by rw [← r.length]; exact lenOk_lt hz
            obtain ⟨x4, S4⟩ := S3.chg hm2 e lst_ne_tup (Vls.snoc hv r)
            exact ⟨a, vs, w, rfl, rfl, e, hlen, q _ G3 μ2 _ (((x1.stay R.rel.sk).trans (x3.stay S1)).trans (x4.stay S3)) ((R1.step x3 S3).step x4 S4)⟩
        · cases evB
      · cases evB
    · cases evB
/-- o[k] = e, o a list of the store -/
theorem r_setH (C : CxtS M T k N sc X) {eo e ek : Expr} {co c ck : CE} {spos pos : Pos} (h1 : matE M N sc co eo = true) (h2 : matE M N sc ck ek = true) (h3 : matE M N sc c e = true) :
    PS X (.Assign [.Subscript eo ek spos] e pos) (tSv (clOf T k) E X.K X.N.length (.setH co ck c)) := by
  have se := matE_shape h2
  have hu := C.c.hu
  refine (ps_asg (sE C.c h3) (pg_sub (sE C.c h1) (sE C.c h2) (set_put (by omega)) (fun v => assign_shape se X.env v)) (sole_sub _ _) (stores_sub X.env) rfl).weak fun Dn σ H ⟨G, μ, env, s, o, s', R, ev, q⟩ => ?_
  simp only [evS] at ev
  split at ev
  · cases ev
  · rename_i hb
    have hb : bor env c = false := by simpa using hb
    obtain ⟨d, s1, ev1, ev⟩ := Rs.bind_eq_ok ev
    obtain ⟨dx, s2, ev2, ev⟩ := Rs.bind_eq_ok ev
    obtain ⟨dk, s3, ev3, evB⟩ := Rs.bind_eq_ok ev
    clear ev
    split at evB
    · rename_i m
      split at evB
      · rename_i xs hx
        split at evB
        · rename_i ys hp
          cases evB
          refine ⟨G, μ, env, s, _, s1, R.rel, ev1, fun v G1 μ1 H1 x1 S1 p1 => ?_⟩
          obtain ⟨G2, a1, a2, S2, hv, st⟩ := p1.absorb S1 hb
          have x2 := x1.grow a1 a2
          have R2 := R.step x2 S2
          refine ⟨G2, μ1, env, s1, _, s2, R2.rel, ev2, fun y G3 μ3 H3 x3 S3 p3 => ?_⟩
          obtain ⟨a, rfl, hm⟩ := p3.top.refD
          have R3 := R2.step x3 S3
          refine ⟨G3, μ3, env, s2, dk, s3, R3.rel, ev3, fun z G4 μ4 H4 x4 S4 p4 => ?_⟩
          have R4 := R3.step x4 S4
          obtain ⟨ν, e1, _⟩ := x4.m
          have hm2 : μ4[m]? = some a := by
            rw [e1, List.getElem?_append_left (List.getElem?_eq_some_iff.mp hm).1]; exact hm
          obtain ⟨b, e3, e4⟩ := S4.ob m _ hx
          rw [hm2] at e3; cases e3
          have hv4 := (hv.mono (x3.stay S2)).mono (x4.stay S3)
          cases e4 with
          | lst e r =>
            rename_i vs
            cases dk <;> simp only [putD, Option.map_eq_some_iff] at hp <;> try contradiction
            rename_i j0
            obtain ⟨j, hj, hys⟩ := hp
            cases hys
            obtain ⟨rfl, _⟩ := p4.top.int (s := []) rfl
            obtain ⟨x5, S5⟩ := S4.chg hm2 e lst_ne_tup (r.set hv4 j)
            exact .inl ⟨a, vs, _, j, rfl, rfl, e, by rw [← r.length]; exact hj, q _ G4 μ4 _ ((((x2.stay R.rel.sk).trans (x3.stay S2)).trans (x4.stay S3)).trans (x5.stay S4)) (R4.step x5 S5)⟩
        · cases evB
      · cases evB
    · cases evB
end
end Mi
/-! M17: loops, blocks: all statements are sound. -/
namespace Mi
open PySem PySem.Spec PyProof.Rows L2

section
variable {E : Ent} {K : PySem.W.Frag} {n : Nat} {G G1 : Addr → Prop} {μ μ1 : List Addr} {σ : L2.St} {H H1 : Hp} {env env0 : MEnv} {s s1 : Sto} {d : D} {v : V} {Ds : Ends} {F : Cl}
/-- what the slots named by a source own is in G -/
def Froz (is : List Nat) (env : MEnv) (σ : L2.St) (G : Addr → Prop) : Prop := ∀ i ∈ is, ∀ dd a, env[i]? = some (some (true, dd)) → isMut dd = true → σ[i]? = some (some (.ref a)) → G a
theorem Fr.frzV (R : Fr E K n G μ σ H env s) (c : CE) : ∃ G', (∀ a, G a → G' a) ∧ Froz (srcC c) env σ G' ∧ Fr E K n G' μ σ H (frzV env c) s ∧ Stay G μ H G' μ H := by
  cases c with
  | var i =>
    obtain ⟨G', h1, h2, h3, h4⟩ := R.frz i
    refine ⟨G', h1, fun j hj dd a q1 q2 q3 => ?_, h3, h4⟩
    have : j = i := by simpa [srcC] using hj
    subst this
    exact h2 dd a q1 q2 q3
  | _ => exact ⟨G, fun _ g => g, fun j hj => by simp [srcC] at hj, R, .refl⟩
theorem frzV_own {c : CE} {j : Nat} {dd : D} (h : (frzV env c)[j]? = some (some (true, dd))) : env[j]? = some (some (true, dd)) := by
  cases c <;> first | exact (frzE_own h).1 | exact h
theorem frzV_same {c : CE} {j : Nat} {dd : D} (h : env[j]? = some (some (true, dd))) (hj : j ∉ srcC c) : (frzV env c)[j]? = some (some (true, dd)) := by
  cases c <;> first | exact h | skip
  rename_i i
  have hij : i ≠ j := fun z => hj (by simp [srcC, z])
  show (frzE env i)[j]? = _
  unfold frzE
  split
  · rename_i o d he
    rw [List.getElem?_set_ne hij]; exact h
  · exact h
theorem Fr.frzI (R : Fr E K n G μ σ H env s) (ci : CI) : ∃ G', (∀ a, G a → G' a) ∧ Froz (srcV ci) env σ G' ∧ Fr E K n G' μ σ H (frzI env ci) s ∧ Stay G μ H G' μ H := by
  cases ci with
  | «seq» c => exact R.frzV c
  | enum c => exact R.frzV c
  | zip2 a b =>
    obtain ⟨G1, h1, h2, h3, h4⟩ := R.frzV a
    obtain ⟨G2, k1, k2, k3, k4⟩ := h3.frzV b
    refine ⟨G2, fun a g => k1 a (h1 a g), fun j hj dd c q1 q2 q3 => ?_, k3, h4.trans k4⟩
    by_cases hm : j ∈ srcC a
    · exact k1 c (h2 j hm dd c q1 q2 q3)
    · refine k2 j ?_ dd c (frzV_same q1 hm) q2 q3
      simp only [srcV, List.mem_append] at hj
      exact hj.resolve_left hm
  | _ => exact ⟨G, fun _ g => g, fun j hj => by simp [srcV] at hj, R, .refl⟩
theorem frzI_own {ci : CI} {j : Nat} {dd : D} (h : (frzI env ci)[j]? = some (some (true, dd))) : env[j]? = some (some (true, dd)) := by
  cases ci with
  | «seq» c => exact frzV_own h
  | enum c => exact frzV_own h
  | zip2 a b => exact frzV_own (frzV_own h)
  | _ => exact h
theorem sole_plain {e : Expr} (h : isCompE e = false) (t : Expr) (l : Nat) (env : PySem.Env) : swapsWithSole [t] e l env = pure false := swaps_plain h (some t) l env
theorem for_read {tg : Tgt} {it : CI} {b : CSs} {D : Ends} (h : tSv F E K n (.forr tg it b) D σ H) : tFor (tEvI F K n it) (gT K tg) (tSvs F E K n b) D σ H := by
  obtain ⟨G, μ, env, s, o, s', R, ev, q⟩ := h
  simp only [evS] at ev
  obtain ⟨xs, s1, ev1, ev2⟩ := Rs.bind_eq_ok ev
  clear ev
  refine ⟨G, μ, env, s, xs, s1, R.rel, ev1, fun J A G1 μ1 H1 x1 S1 hA hJ => ?_⟩
  have R1 := R.step x1 S1
  obtain ⟨G2, f1, f2, R2, st2⟩ := R1.frzI it
  obtain ⟨R3, st3⟩ := R2.growNew (H₀ := H) R.ext.dom (fun j dd a h1 h2 h3 => by
    obtain ⟨b, q1, _, _, q2⟩ := R.rel.ownAt (frzI_own h1) h2
    rw [h3] at q1; cases q1
    exact q2.there) A (fun a ha => ⟨(hA a ha).1, (hA a ha).2.1⟩)
  obtain ⟨G3, R3, st3, hAG⟩ : ∃ G3 : Addr → Prop, Fr E K n G3 μ1 σ H1 (frzI env it) s1 ∧ Stay G2 μ1 H1 G3 μ1 H1 ∧ ∀ a, A a → G3 a := ⟨_, R3, st3, fun a ha => by
    rcases (hA a ha).2.2 with z | z | ⟨i, hi, z1, dd, z2, z3⟩
    · exact .inl (f1 a z)
    · exact .inr ⟨ha, z⟩
    · exact .inl (f2 i hi dd a z2 z3 z1)⟩
  have st13 := st2.trans st3
  refine ⟨fun i m σ' H' => ∃ G4 μ4 env4 s4, m = xs.length - i ∧ i ≤ xs.length ∧ Stay G3 μ1 H1 G4 μ4 H' ∧ Fr E K n G4 μ4 σ' H' env4 s4 ∧ goFor (fun x e => bindT tg x e) (fun e s => evSs F b e s) (xs.drop i) env4 s4 = .ok o s',
    ⟨_, G3, μ1, _, s1, rfl, Nat.zero_le _, .refl, R3, ev2⟩, ?_⟩
  rintro i m σ' H' ⟨G4, μ4, env4, s4, rfl, hi, st4, R4, ev4⟩
  have hAs : ∀ a, A a → H' a = H1 a := fun a ha => by
    cases hh : H1 a with
    | none => exact absurd hh (hA a ha).1
    | some u => exact st4.keep a u (hAG a ha) hh
  obtain ⟨hstop, hgo⟩ := hJ G4 μ4 H' s4 R4.rel.sk hAs (st13.trans st4) i
  have stAll := ((x1.stay R.rel.sk).trans st13).trans st4
  by_cases hlt : i < xs.length
  · have hx : xs[i]? = some xs[i] := List.getElem?_eq_getElem hlt
    obtain ⟨g1, g2⟩ := hgo _ hx
    rw [drop_at hx] at ev4
    simp only [goFor] at ev4
    split at ev4
    · cases ev4
    · rename_i env5 hb5
      obtain ⟨o1, s5, ev5, ev6⟩ := Rs.bind_eq_ok ev4
      refine .inr ⟨g1, fun σ'' H'' => ∃ G6 μ6 env6 s6, Stay G3 μ1 H1 G6 μ6 H'' ∧ Fr E K n G6 μ6 σ'' H'' env6 s6 ∧ goFor (fun x e => bindT tg x e) (fun e s => evSs F b e s) (xs.drop (i + 1)) env6 s6 = .ok o s', fun σ'' H'' ⟨G6, μ6, env6, s6, k1, k2, k3⟩ =>
        ⟨xs.length - (i + 1), by omega, G6, μ6, env6, s6, rfl, hlt, k1, k2, k3⟩, fun v H3 hy => ?_⟩
      obtain ⟨x5, S5, hv⟩ := g2 v H3 hy
      refine (R4.step x5 S5).tgt hv hb5 fun σ5 R5 => ⟨G4, μ4, env5, s4, o1, s5, R5, ev5, ?_⟩
      cases o1 with
      | nx env7 => exact fun σ7 G7 μ7 H7 st7 R7 => ⟨G7, μ7, env7, s5, (st4.trans (x5.stay R4.rel.sk)).trans st7, R7, ev6⟩
      | bk env7 =>
        cases ev6
        exact fun σ7 G7 μ7 H7 st7 R7 => q σ7 G7 μ7 H7 ((stAll.trans (x5.stay R4.rel.sk)).trans st7) R7
      | rt fr dd =>
        cases ev6
        exact q
  · have hi' : i = xs.length := by omega
    subst hi'
    rw [List.drop_length] at ev4
    cases ev4
    exact .inl ⟨hstop (Nat.le_refl _), q σ' G4 μ4 H' stAll R4⟩
theorem while_read {fuel : Nat} {c : CT} {b : CSs} {D : Ends} (h : tSv F E K n (.whil fuel c b) D σ H) : tWhile (tEvT F K n c) (tSvs F E K n b) D σ H := by
  obtain ⟨G, μ, env, s, o, s', R, ev, q⟩ := h
  simp only [evS] at ev
  refine ⟨fun m σ' H' => ∃ G4 μ4 env4 s4, Stay G μ H G4 μ4 H' ∧ Fr E K n G4 μ4 σ' H' env4 s4 ∧ goWh (fun e s => evT F c e s) (fun e s => evSs F b e s) m env4 s4 = .ok o s', ⟨fuel, G, μ, env, s, .refl, R, ev⟩, ?_⟩
  rintro m σ' H' ⟨G4, μ4, env4, s4, st4, R4, ev4⟩
  cases m with
  | zero => cases ev4
  | succ m =>
    simp only [goWh] at ev4
    obtain ⟨kk, s5, ev5, ev6⟩ := Rs.bind_eq_ok ev4
    refine ⟨G4, μ4, env4, s4, kk, s5, R4.rel, ev5, fun G5 μ5 H5 x5 S5 => ?_⟩
    have R5 := R4.step x5 S5
    have st5 := st4.trans (x5.stay R4.rel.sk)
    cases kk with
    | true =>
      simp only [if_true] at ev6 ⊢
      obtain ⟨o1, s7, ev7, ev8⟩ := Rs.bind_eq_ok ev6
      refine ⟨fun σ'' H'' => ∃ G6 μ6 env6 s6, Stay G μ H G6 μ6 H'' ∧ Fr E K n G6 μ6 σ'' H'' env6 s6 ∧ goWh (fun e s => evT F c e s) (fun e s => evSs F b e s) m env6 s6 = .ok o s', fun σ'' H'' ⟨G6, μ6, env6, s6, k1, k2, k3⟩ => ⟨m, Nat.lt_succ_self _, G6, μ6, env6, s6, k1, k2, k3⟩, ?_⟩
      refine ⟨G5, μ5, env4, s5, o1, s7, R5, ev7, ?_⟩
      cases o1 with
      | nx env7 => exact fun σ7 G7 μ7 H7 st7 R7 => ⟨G7, μ7, env7, s7, st5.trans st7, R7, ev8⟩
      | bk env7 =>
        cases ev8
        exact fun σ7 G7 μ7 H7 st7 R7 => q σ7 G7 μ7 H7 (st5.trans st7) R7
      | rt fr dd =>
        cases ev8
        exact q
    | false =>
      simp only [Bool.false_eq_true, if_false] at ev6 ⊢
      cases ev6
      exact q σ' G5 μ5 H5 st5 R5
end

section
variable {M : Nms} {T : Tab} {k : Nat} {N : List Str} {sc : Scope} {X : Cx} {E : Ent}
theorem r_retO (C : CxtS M T k N sc X) {i : Nat} {e : Expr} {pos : Pos} (h : matE M N sc (.var i) e = true) : PS X (.Return (some e) pos) (tRet (tVar i)) := by
  simp only [matE] at h
  split at h
  · simp only [Bool.and_eq_true, decide_eq_true_eq] at h
    obtain ⟨d1, d2⟩ := okN_of h.2
    exact ps_ret (pe_var (by rw [C.c.nN]; exact h.1.1) (by rw [C.c.sc]; exact vis_of h.1.2) d1 d2)
  · cases h
structure AllS (m : Nat) : Prop where
  s : ∀ c st, sizeOf c < m → matS M N sc c st = true → PS X st (tSv (clOf T k) E X.K X.N.length c)
  b : ∀ cs ss, sizeOf cs < m → matSs M N sc cs ss = true → PSs X ss (tSvs (clOf T k) E X.K X.N.length cs)
theorem allS (C : CxtS M T k N sc X) : ∀ m, AllS (M := M) (T := T) (k := k) (N := N) (sc := sc) (X := X) (E := E) m
  | 0 => ⟨fun _ _ h => absurd h (Nat.not_lt_zero _), fun _ _ h => absurd h (Nat.not_lt_zero _)⟩
  | m + 1 => by
    have ih := allS C m
    refine ⟨fun c st hn h => ?_, fun cs ss hn h => ?_⟩
    · cases c with
      | asg tg c =>
        cases st <;> simp only [matS] at h <;> try contradiction
        split at h
        · rename_i heq
          cases heq
          simp only [Bool.and_eq_true] at h
          cases tg with
          | nm i => exact (r_asgN C h.1.1 h.1.2 h.2).weak fun D σ H z => r_asgD z
          | tp ts => simp [matT] at h
        · rename_i heq
          cases heq
          simp only [Bool.and_eq_true, Bool.not_eq_true'] at h
          exact (ps_asg (sE C.c h.1.1.2) (C.c.tgt h.1.1.1) (sole_plain h.2 _ _ _) (stores_plain h.1.2 X.env) rfl).weak fun D σ H z => r_asgD z
        · cases h
      | asgO i c =>
        cases st <;> simp only [matS] at h <;> try contradiction
        split at h
        · rename_i heq
          cases heq
          simp only [Bool.and_eq_true] at h
          exact (r_asgN C h.1.1 h.1.2 h.2).weak fun D σ H z => r_asgOD z
        · cases h
      | par oi i oj j a b =>
        cases st <;> simp only [matS] at h <;> try contradiction
        split at h
        · rename_i heq
          cases heq
          simp only [Bool.and_eq_true, decide_eq_true_eq, Bool.not_eq_true'] at h
          simp only [Bool.or_eq_true] at h
          rcases h.1.1.2 with z | z
          · exact r_par C h.1.1.1.1.1 h.1.1.1.1.2 h.1.1.1.2 z h.1.2 h.2
          · exact r_par2 C h.1.1.1.1.1 h.1.1.1.1.2 h.1.1.1.2 z h.1.2 h.2
        · cases h
      | app i c =>
        cases st <;> simp only [matS] at h <;> try contradiction
        split at h
        · rename_i heq
          cases heq
          simp only [Bool.and_eq_true, decide_eq_true_eq] at h
          obtain ⟨⟨⟨rfl, h1⟩, h2⟩, h3⟩ := h
          exact r_app C h1 h2 h3
        · cases h
      | appH o c =>
        cases st <;> simp only [matS] at h <;> try contradiction
        split at h
        · rename_i heq
          cases heq
          simp only [Bool.and_eq_true, decide_eq_true_eq, Bool.not_eq_true'] at h
          obtain ⟨⟨⟨⟨rfl, h1⟩, h2⟩, h3⟩, h4⟩ := h
          exact r_appH C h1 h2 h3 h4
        · cases h
      | seti i c d =>
        cases st <;> simp only [matS] at h <;> try contradiction
        split at h
        · rename_i heq
          cases heq
          simp only [Bool.and_eq_true] at h
          exact r_seti C h.1.1 h.1.2 h.2
        · cases h
      | setH o c d =>
        cases st <;> simp only [matS] at h <;> try contradiction
        split at h
        · rename_i heq
          cases heq
          simp only [Bool.and_eq_true] at h
          exact r_setH C h.1.1 h.1.2 h.2
        · cases h
      | expr c =>
        cases st <;> simp only [matS] at h <;> try contradiction
        simp only [Bool.and_eq_true, Bool.not_eq_true'] at h
        exact (ps_expr (sE C.c h.1) (swaps_plain h.2 _ _ _)).weak fun D σ H z => r_exprD z
      | ite t a b =>
        cases st <;> simp only [matS] at h <;> try contradiction
        simp only [Bool.and_eq_true] at h
        refine (ps_if (sT C.c h.1.1) (ih.b a _ (by simp at hn ⊢; omega) h.1.2) (ih.b b _ (by simp at hn ⊢; omega) h.2)).weak fun D σ H ⟨G, μ, env, s, o, s', R, ev, q⟩ => ?_
        simp only [evS] at ev
        obtain ⟨kk, s1, ev1, ev2⟩ := Rs.bind_eq_ok ev
        refine ⟨G, μ, env, s, kk, s1, R.rel, ev1, fun G1 μ1 H1 x1 S1 => ?_⟩
        cases kk with
        | true =>
          simp only [if_true] at ev2 ⊢
          exact ⟨G1, μ1, env, s1, o, s', R.step x1 S1, ev2, q.stay (x1.stay R.rel.sk)⟩
        | false =>
          simp only [Bool.false_eq_true, if_false] at ev2 ⊢
          exact ⟨G1, μ1, env, s1, o, s', R.step x1 S1, ev2, q.stay (x1.stay R.rel.sk)⟩
      | forr tg it b =>
        cases st <;> simp only [matS] at h <;> try contradiction
        split at h
        · rename_i heq
          cases heq
          simp only [Bool.and_eq_true] at h
          exact (ps_for C.pass C.c.calm (sI C.c h.1.2) (C.c.tgt h.1.1) (ih.b b _ (by simp at hn ⊢; omega) h.2) (folded_mat h.1.2 X.env)).weak fun D σ H z => for_read z
        · cases h
      | whil fuel t b =>
        cases st <;> simp only [matS] at h <;> try contradiction
        split at h
        · rename_i heq
          cases heq
          simp only [Bool.and_eq_true] at h
          exact (ps_while C.pass (sT C.c h.1) (ih.b b _ (by simp at hn ⊢; omega) h.2)).weak fun D σ H z => while_read z
        · cases h
      | ret c =>
        cases st <;> simp only [matS] at h <;> try contradiction
        split at h
        · rename_i heq
          cases heq
          exact (ps_ret (sE C.c h)).weak fun D σ H z => r_retD z
        · cases h
      | retO i =>
        cases st <;> simp only [matS] at h <;> try contradiction
        split at h
        · rename_i heq
          cases heq
          exact (r_retO C h).weak fun D σ H z => r_retOD z
        · cases h
      | retN =>
        cases st <;> simp only [matS] at h <;> try contradiction
        split at h
        · rename_i heq
          cases heq
          refine ps_retN.weak fun D σ H ⟨G, μ, env, s, o, s', R, ev, q⟩ => ?_
          cases ev
          exact q .non G μ H R.ext R.rel.sk (.inl ⟨rfl, .non⟩)
        · cases h
      | brk =>
        cases st <;> simp only [matS] at h <;> try contradiction
        refine ps_break.weak fun D σ H ⟨G, μ, env, s, o, s', R, ev, q⟩ => ?_
        cases ev
        exact q σ G μ H .refl R
      | raise c as =>
        refine ps_never.weak fun D σ H ⟨G, μ, env, s, o, s', R, ev, q⟩ => ?_
        simp only [evS] at ev
        split at ev
        · cases ev
        · obtain ⟨ds, s1, ev1, ev2⟩ := Rs.bind_eq_ok ev
          cases ev2
    · cases cs with
      | nil =>
        cases ss <;> simp only [matSs] at h <;> try contradiction
        refine pss_nil.weak fun D σ H ⟨G, μ, env, s, o, s', R, ev, q⟩ => ?_
        cases ev
        exact q σ G μ H .refl R
      | frz i cs =>
        have h : matSs M N sc cs ss = true := by simpa [matSs] using h
        refine (ih.b cs ss (by simp at hn ⊢; omega) h).weak fun D σ H ⟨G, μ, env, s, o, s', R, ev, q⟩ => ?_
        simp only [evSs] at ev
        obtain ⟨G', a1, a2, R', st⟩ := R.frz i
        exact ⟨G', μ, _, s, o, s', R', ev, q.stay st⟩
      | cons c cs =>
        cases ss <;> simp only [matSs] at h <;> try contradiction
        simp only [Bool.and_eq_true] at h
        refine (pss_cons (ih.s c _ (by simp at hn ⊢; omega) h.1) (ih.b cs _ (by simp at hn ⊢; omega) h.2)).weak fun D σ H ⟨G, μ, env, s, o, s', R, ev, q⟩ => ?_
        simp only [evSs] at ev
        obtain ⟨o1, s1, ev1, ev2⟩ := Rs.bind_eq_ok ev
        refine ⟨G, μ, env, s, o1, s1, R, ev1, ?_⟩
        cases o1 with
        | nx env1 => exact fun σ1 G1 μ1 H1 st1 R1 => ⟨G1, μ1, env1, s1, o, s', R1, ev2, q.stay st1⟩
        | bk env1 => cases ev2; exact q
        | rt fr dd => cases ev2; exact q
theorem sB (C : CxtS M T k N sc X) {cs : CSs} {ss : List Stmt} (h : matSs M N sc cs ss = true) : PSs X ss (tSvs (clOf T k) E X.K X.N.length cs) := (allS C (sizeOf cs + 1)).b cs ss (by omega) h
end
end Mi
/-! M18: defs, and the end of a law. -/
namespace Mi
open PySem PySem.Spec PyProof.Rows L2

/-- a def of the table as it lies in the text -/
structure DefOk (K : PySem.W.Frag) (mg : Str → Option Value) (M : Nms) (f : Nat) (fn : Fn) : Prop where
  ex : ∃ (x qual : Str) (st : Stmt) (a : Addr) (fd : FuncData) (N ps : List Str), mg (M.fn f) = some (.ref a) ∧ L2.Fun K x qual st a fd ∧ Binds K fd ps [] ∧ FnScope N ps (defScope st) ∧ ps.length = fn.ps ∧ N.length = fn.ns ∧ matSs M N (defScope st) fn.body (defBody st) = true
/-- what the module's top has written -/
structure TopOk (K : PySem.W.Frag) (mg : Str → Option Value) (M : Nms) (T : Tab) : Prop where
  blt : ∀ b ∈ bnames, mg b = none
  cst : ∀ x n, M.cst x = some n → ∃ t, mg x = some (.int n t)
  fns : ∀ f fn, T f = some fn → DefOk K mg M f fn

section
variable {K : PySem.W.Frag} {mg : Str → Option Value} {M : Nms} {T : Tab} {P : Program} {w : World} {base : Heap} {n : Nat} {G : Addr → Prop} {μ : List Addr} {H H₀ : Hp} {s : Sto} {d : D} {v : V}
theorem New.absorb (S : Sk K G μ H s) (h : New K G μ H H₀ d v) : ∃ G', (∀ a, G a → G' a) ∧ (∀ a, G' a → G a ∨ H₀ a = none) ∧ Sk K G' μ H s ∧ Val K G' μ H d v := by
  rcases h with ⟨_, h⟩ | ⟨a, rfl, h1, h2, h3, h4⟩
  · exact ⟨G, fun _ g => g, fun _ g => .inl g, S, h⟩
  · exact ⟨addG G a, fun _ g => .inl g, fun b g => (show G b ∨ b = a from g).elim .inl fun (e : b = a) => .inr (by rw [e]; exact h3), S.addG h1 h4.there, h4.val⟩
def env0 (n : Nat) (ds : List D) : MEnv := ds.map (fun d => some (false, d)) ++ List.replicate (n - ds.length) none
theorem env0_get {ds : List D} {i : Nat} {o : Bool} (h : (env0 n ds)[i]? = some (some (o, d))) : o = false ∧ ds[i]? = some d := by
  unfold env0 at h
  by_cases hi : i < ds.length
  · rw [List.getElem?_append_left (by rw [List.length_map]; exact hi), List.getElem?_map] at h
    rw [List.getElem?_eq_getElem hi] at h ⊢
    cases h
    exact ⟨rfl, rfl⟩
  · rw [List.getElem?_append_right (by rw [List.length_map]; omega)] at h
    have := List.mem_of_getElem? h
    rw [List.mem_replicate] at this
    cases this.2
theorem rel_start {N : List Str} {ds : List D} {vs : List V} (S : Sk K G μ H s) (r : Vls K G μ H ds vs) (hl : ds.length ≤ N.length) : Rel K N.length G μ (L2.start N vs) H (env0 N.length ds) s := by
  have e := r.length
  refine ⟨by simp [env0]; omega, by simp [L2.start]; omega, S, fun i o d h => ?_, fun i j d1 d2 a _ h1 _ _ _ _ _ => ?_⟩
  · obtain ⟨ho, hd⟩ := env0_get h
    subst ho
    obtain ⟨v, h1, h2⟩ := r.get hd
    refine ⟨v, ?_, .inl ⟨h2, fun z => by cases z⟩⟩
    unfold L2.start
    rw [List.getElem?_append_left (by rw [List.length_map]; exact (List.getElem?_eq_some_iff.mp h1).1), List.getElem?_map, h1]
    rfl
  · obtain ⟨z, _⟩ := env0_get h1
    cases z
/-- a def's promise, its callees' known -/
def Knows (P : Program) (w : World) (K : PySem.W.Frag) (mg : Str → Option Value) (base : Heap) (M : Nms) (T : Tab) (k : Nat) : Prop := ∀ (f : Nat) (fn : Fn), T f = some fn → ∃ a fd ps, mg (M.fn f) = some (.ref a) ∧ PySem.W.keepIn K (.ref a) = true ∧ Binds K fd ps [] ∧ FnOk P w K mg base CX0 k a fd ps (spF K T k f)
theorem fnStep (TO : TopOk K mg M T) {k : Nat} (ih : Knows P w K mg base M T k) {f : Nat} {fn : Fn} {x qual : Str} {st : Stmt} {a : Addr} {fd : FuncData} {N ps : List Str} (hf : T f = some fn) (h2 : L2.Fun K x qual st a fd) (h4 : FnScope N ps (defScope st)) (h5 : ps.length = fn.ps) (h6 : N.length = fn.ns)
    (h7 : matSs M N (defScope st) fn.body (defBody st) = true) : FnOk P w K mg base CX0 (k + 1) a fd ps (spF K T (k + 1) f) := by
    refine h2.ok h4 (fun vs H Q E h => ?_) fun cdv A outer s0 H vs Q E hr h => ?_
    · obtain ⟨G, μ, s, ds, d, s', _, r, ev, _⟩ := h
      simp only [callF, hf] at ev
      split at ev
      · rename_i hl
        rw [← r.length, hl, h5]
      · cases ev
    · obtain ⟨G, μ, s, ds, d, s', S, r, ev, q⟩ := h
      simp only [callF, hf] at ev
      split at ev
      · rename_i hl
        obtain ⟨o, s1, ev1, ev2⟩ := Rs.bind_eq_ok ev
        clear ev
        have C : CxtS M T k N (defScope st) (cxOf CX0 P w K mg base N qual (defScope st) a cdv A outer s0 H E).nox := {
          c := {
            nN := rfl
            sc := rfl
            calm := rfl
            nd := h4.nd
            room := hr
            blt := TO.blt
            cst := TO.cst
            fns := fun g gn hg => ⟨ih g gn hg⟩
            fn := fun _ _ => rfl }
          kind := h4.kind
          pass := PassesOwn.never }
        have hpre : ps.length ≤ N.length := by
          have := congrArg List.length h4.pre
          rw [List.length_take] at this
          omega
        have hfr : freshT T f = fn.fresh := by unfold freshT; rw [hf]
        have R0 := rel_start (N := N) S r (by omega)
        have e0 : env0 N.length ds = ds.map (fun d => some (false, d)) ++ List.replicate (fn.ns - fn.ps) none := by
          unfold env0
          rw [h6, hl]
        rw [e0] at R0
        refine ⟨_, sB (E := ⟨G, μ, H⟩) C h7, G, μ, _, s, o, s1, ⟨R0, .refl, fun i dd b z => ?_⟩, ev1, ?_⟩
        · rw [← e0] at z
          obtain ⟨z, _⟩ := env0_get z
          cases z
        · cases o with
          | nx env' =>
            cases ev2
            exact fun σ' G' μ' H' st' R' => q .non G' μ' H' R'.ext R'.rel.sk (by split; exact .inl ⟨rfl, .non⟩; exact .non)
          | bk env' => cases ev2
          | rt fr dd =>
            simp only at ev2
            split at ev2
            · cases ev2
            · rename_i hff
              cases ev2
              intro v G' μ' H' e' S' hv
              rw [hfr] at q
              by_cases hz : fr = true
              · rw [if_pos hz] at hv
                by_cases hy : fn.fresh = true
                · simp only [if_pos hy] at q
                  exact q v G' μ' H' e' S' hv
                · simp only [if_neg hy] at q
                  obtain ⟨G2, a1, a2, S2, hv2⟩ := New.absorb S' hv
                  exact q v G2 μ' H' (e'.grow a1 a2) S2 hv2
              · rw [if_neg hz] at hv
                have hy : ¬ fn.fresh = true := fun y => by
                  simp [y, hz] at hff
                simp only [if_neg hy] at q
                exact q v G' μ' H' e' S' hv
      · cases ev

/-- THE RULE of defs: what the language's run gives, the machine gives -/
theorem fnOk (TO : TopOk K mg M T) : ∀ k, Knows P w K mg base M T k
  | 0, f, fn, hf => by
    obtain ⟨x, qual, st, a, fd, N, ps, h1, h2, h3, h4, h5, h6, h7⟩ := (TO.fns f fn hf).ex
    refine ⟨a, fd, ps, h1, h2.kp, h3, ⟨fun vs H Q E h => ?_, fun A outer s H args us vs Q E _ _ _ _ h => ?_⟩⟩
    · obtain ⟨G, μ, s, ds, d, s', _, _, ev, _⟩ := h
      cases ev
    · obtain ⟨G, μ, s, ds, d, s', _, _, ev, _⟩ := h
      cases ev
  | k + 1, f, fn, hf => by
    obtain ⟨x, qual, st, a, fd, N, ps, h1, h2, h3, h4, h5, h6, h7⟩ := (TO.fns f fn hf).ex
    exact ⟨a, fd, ps, h1, h2.kp, h3, fnStep TO (fnOk TO k) hf h2 h4 h5 h6 h7⟩

/-! ### the end -/
/-- a law holds when the language's run of it gives True -/
theorem law_sp {k f : Nat} {H : Hp} {a : Addr} {ns : List Int} {s' : Sto} (hO : Only H) (hS : SqL K H a (ns.map V.int)) (ev : callF T k f [.scr ns] [] = .ok (.bl true) s') : spF K T k f [.ref a] H (fun v _ => v = .bl true) fun _ _ _ => False := by
  rcases hS with hR | ⟨o, its, n, h1, h2, h3, h4, h5, h6⟩
  · refine ⟨fun b => b = a, [], [], _, _, _, ⟨rfl, List.nodup_nil, fun b hb => by simp at hb, fun i o h => by simp at h, fun b hb => ?_⟩, .cons (.scr (.inl ⟨rfl, hR⟩)) .nil, ev, fun v G' μ' H' e S' hv => ?_⟩
    · subst hb
      rcases hR with z | ⟨o, z⟩ <;> rw [z] <;> exact fun w => by cases w
    · split at hv
      · rcases hv with ⟨_, hv⟩ | ⟨b, _, _, _, _, hv⟩
        · cases hv; rfl
        · cases hv
      · cases hv; rfl
  · refine ⟨fun _ => False, [], [], _, _, _, ⟨rfl, List.nodup_nil, fun b hb => by simp at hb, fun i o h => by simp at h, fun b hb => hb.elim⟩, .cons (.scr (.inr ⟨o, its, n, h1, h2, fun _ => h3, h4, h5, h6⟩)) .nil, ev, fun v G' μ' H' e S' hv => ?_⟩
    split at hv
    · rcases hv with ⟨_, hv⟩ | ⟨b, _, _, _, _, hv⟩
      · cases hv; rfl
      · cases hv
    · cases hv; rfl
end
end Mi
/-! T_k67: the table of the law, and that the text is the language's. -/
namespace Mi.Lk67
open PySem PySem.Spec PyProof.Rows L2 Mi
def T : Tab := fun f => match f with
  | 0 => some F_is_int
  | 1 => some F_is_in
  | 2 => some F_need_size
  | 15 => some F_law_taken
  | 16 => some F_law_alike
  | 29 => some F_law_pick
  | 58 => some F_is_edge
  | 59 => some F_need_graph
  | 60 => some F_neighbours
  | 61 => some F_shows_odd_walk
  | 62 => some F_law_v5
  | _ => none
def M : Nms := ⟨fun f => match f with
  | 0 => "is_int"
  | 1 => "is_in"
  | 2 => "need_size"
  | 15 => "_law_taken"
  | 16 => "_law_alike"
  | 29 => "_law_pick"
  | 58 => "is_edge"
  | 59 => "need_graph"
  | 60 => "neighbours"
  | 61 => "shows_odd_walk"
  | 62 => "law"
  | _ => "",
  fun x => if x = "MOST_SIZE" then some 4 else none⟩
def topS (i : Nat) : Stmt := PySem.Challenge.pw_templates_k67_whole_odd_walks_judged.main.body.getD i (.Pass ⟨0, 0, 0, 0⟩)
abbrev s_is_int : Stmt := topS 6
theorem sc_is_int : FnScope ["value"] ["value"] (defScope s_is_int) := ⟨rfl, rfl, rfl, by decide +kernel, rfl, by decide +kernel, by decide +kernel⟩
theorem mat_is_int : matSs M ["value"] (defScope s_is_int) b_is_int (defBody s_is_int) = true := by decide +kernel
abbrev s_is_in : Stmt := topS 7
theorem sc_is_in : FnScope ["value", "least", "most"] ["value", "least", "most"] (defScope s_is_in) := ⟨rfl, rfl, rfl, by decide +kernel, rfl, by decide +kernel, by decide +kernel⟩
theorem mat_is_in : matSs M ["value", "least", "most"] (defScope s_is_in) b_is_in (defBody s_is_in) = true := by decide +kernel
abbrev s_need_size : Stmt := topS 8
theorem sc_need_size : FnScope ["value"] ["value"] (defScope s_need_size) := ⟨rfl, rfl, rfl, by decide +kernel, rfl, by decide +kernel, by decide +kernel⟩
theorem mat_need_size : matSs M ["value"] (defScope s_need_size) b_need_size (defBody s_need_size) = true := by decide +kernel
abbrev s_law_taken : Stmt := topS 15
theorem sc_law_taken : FnScope ["_law_row", "_law_many", "_law_cell", "_law_found"] ["_law_row", "_law_many"] (defScope s_law_taken) := ⟨rfl, rfl, rfl, by decide +kernel, rfl, by decide +kernel, by decide +kernel⟩
theorem mat_law_taken : matSs M ["_law_row", "_law_many", "_law_cell", "_law_found"] (defScope s_law_taken) b_law_taken (defBody s_law_taken) = true := by decide +kernel
abbrev s_law_alike : Stmt := topS 17
theorem sc_law_alike : FnScope ["_law_found", "_law_due", "_law_k"] ["_law_found", "_law_due"] (defScope s_law_alike) := ⟨rfl, rfl, rfl, by decide +kernel, rfl, by decide +kernel, by decide +kernel⟩
theorem mat_law_alike : matSs M ["_law_found", "_law_due", "_law_k"] (defScope s_law_alike) b_law_alike (defBody s_law_alike) = true := by decide +kernel
abbrev s_law_pick : Stmt := topS 16
theorem sc_law_pick : FnScope ["_law_row", "_law_things"] ["_law_row", "_law_things"] (defScope s_law_pick) := ⟨rfl, rfl, rfl, by decide +kernel, rfl, by decide +kernel, by decide +kernel⟩
theorem mat_law_pick : matSs M ["_law_row", "_law_things"] (defScope s_law_pick) b_law_pick (defBody s_law_pick) = true := by decide +kernel
abbrev s_is_edge : Stmt := topS 10
theorem sc_is_edge : FnScope ["size", "value"] ["size", "value"] (defScope s_is_edge) := ⟨rfl, rfl, rfl, by decide +kernel, rfl, by decide +kernel, by decide +kernel⟩
theorem mat_is_edge : matSs M ["size", "value"] (defScope s_is_edge) b_is_edge (defBody s_is_edge) = true := by decide +kernel
abbrev s_need_graph : Stmt := topS 11
theorem sc_need_graph : FnScope ["size", "value", "at", "pair"] ["size", "value"] (defScope s_need_graph) := ⟨rfl, rfl, rfl, by decide +kernel, rfl, by decide +kernel, by decide +kernel⟩
theorem mat_need_graph : matSs M ["size", "value", "at", "pair"] (defScope s_need_graph) b_need_graph (defBody s_need_graph) = true := by decide +kernel
abbrev s_neighbours : Stmt := topS 12
theorem sc_neighbours : FnScope ["edges", "node", "found", "other", "a", "b"] ["edges", "node"] (defScope s_neighbours) := ⟨rfl, rfl, rfl, by decide +kernel, rfl, by decide +kernel, by decide +kernel⟩
theorem mat_neighbours : matSs M ["edges", "node", "found", "other", "a", "b"] (defScope s_neighbours) b_neighbours (defBody s_neighbours) = true := by decide +kernel
abbrev s_shows_odd_walk : Stmt := topS 13
theorem sc_shows_odd_walk : FnScope ["size", "edges", "value", "at", "node"] ["size", "edges", "value"] (defScope s_shows_odd_walk) := ⟨rfl, rfl, rfl, by decide +kernel, rfl, by decide +kernel, by decide +kernel⟩
theorem mat_shows_odd_walk : matSs M ["size", "edges", "value", "at", "node"] (defScope s_shows_odd_walk) b_shows_odd_walk (defBody s_shows_odd_walk) = true := by decide +kernel
abbrev s_law_v5 : Stmt := topS 18
theorem sc_law_v5 : FnScope ["_law_script", "_law_row", "_law_a", "_law_edges", "_law_both", "_law_turn", "_law_value", "_law_size", "_law_walk", "_law_step", "_law_due", "_law_some", "_law_pair", "_law_b", "_law_at"] ["_law_script"] (defScope s_law_v5) := ⟨rfl, rfl, rfl, by decide +kernel, rfl, by decide +kernel, by decide +kernel⟩
theorem mat_law_v5 : matSs M ["_law_script", "_law_row", "_law_a", "_law_edges", "_law_both", "_law_turn", "_law_value", "_law_size", "_law_walk", "_law_step", "_law_due", "_law_some", "_law_pair", "_law_b", "_law_at"] (defScope s_law_v5) b_law_v5 (defBody s_law_v5) = true := by decide +kernel
theorem has_law_taken : H_law_taken T := ⟨rfl⟩
theorem has_law_alike : H_law_alike T := ⟨rfl⟩
theorem has_law_pick : H_law_pick T := ⟨rfl, has_law_taken⟩
theorem has_is_int : H_is_int T := ⟨rfl⟩
theorem has_is_in : H_is_in T := ⟨rfl, has_is_int⟩
theorem has_need_size : H_need_size T := ⟨rfl, has_is_in⟩
theorem has_is_edge : H_is_edge T := ⟨rfl, has_is_in⟩
theorem has_need_graph : H_need_graph T := ⟨rfl, has_need_size, has_is_edge⟩
theorem has_neighbours : H_neighbours T := ⟨rfl⟩
theorem has_shows_odd_walk : H_shows_odd_walk T := ⟨rfl, has_is_in, has_need_graph, has_neighbours⟩
theorem has_law_v5 : H_law_v5 T := ⟨rfl, has_law_taken, has_law_alike, has_law_pick, has_shows_odd_walk⟩
end Mi.Lk67
/-! E_k67: the end of the law. -/
namespace Mi.Lk67
open PySem PySem.Spec PyProof.Rows L2 Mi
abbrev KK : Nat := 40
abbrev KP : Nat := 39
theorem law_end {K : PySem.W.Frag} {H : Hp} {a : Addr} {ns : List Int} (hl : ns.length ≤ 63) (hb : ∀ z ∈ ns, Builtin.Int.intBits z ≤ 1048576) (hO : Only H) (hS : SqL K H a (ns.map V.int)) : spF K T KK 62 [.ref a] H (fun v _ => v = .bl true) fun _ _ _ => False := by
  obtain ⟨s', e⟩ := law_true_k67 has_law_v5 (k := KK) (by decide) ns
  exact law_sp hO hS e
set_option maxHeartbeats 0 in
theorem all_mk {l : PySem.W.OpenLaw} {w : World} {K : PySem.W.Frag} {h : Heap} {mg : Str → Option Value} {fa f0 f1 f2 f15 f16 f29 f58 f59 f60 f61 f62 : Addr} (X : K.In h) (G : h.Ns mainGlobals mg) (hfa : mg "law" = some (.ref fa))
    {od0 an0 od1 an1 od2 an2 od15 an15 od16 an16 od29 an29 od58 an58 od59 an59 od60 an60 od61 an61 od62 an62 : Option Addr} {sl0 sl1 sl2 sl15 sl16 sl29 sl58 sl59 sl60 sl61 sl62 : Array (Option Value)} {oc0 kV0 dc0 pm0 cd0 ct0 oc1 kV1 dc1 pm1 cd1 ct1 oc2 kV2 dc2 pm2 cd2 ct2 oc15 kV15 dc15 pm15 cd15 ct15 oc16 kV16 dc16 pm16 cd16 ct16 oc29 kV29 dc29 pm29 cd29 ct29 oc58 kV58 dc58 pm58 cd58 ct58 oc59 kV59 dc59 pm59 cd59 ct59 oc60 kV60 dc60 pm60 cd60 ct60 oc61 kV61 dc61 pm61 cd61 ct61 oc62 kV62 dc62 pm62 cd62 ct62 : Value}
    {t0 : Tok}
    (a0 : PySem.W.nsIn K mainGlobals "is_int" = some (some (.ref f0))) (l0 : K.lookup f0 = some ⟨oc0, od0, .func (PySem.W.fnOf "is_int" "is_int" (defArgs s_is_int) (defBody s_is_int) (defScope s_is_int) .none kV0 dc0 pm0 an0 cd0 ct0), sl0⟩) (c0 : PySem.W.codeIn K cd0 "is_int" = true) (k0 : PySem.W.keepIn K (.ref f0) = true)
    (a1 : PySem.W.nsIn K mainGlobals "is_in" = some (some (.ref f1))) (l1 : K.lookup f1 = some ⟨oc1, od1, .func (PySem.W.fnOf "is_in" "is_in" (defArgs s_is_in) (defBody s_is_in) (defScope s_is_in) .none kV1 dc1 pm1 an1 cd1 ct1), sl1⟩) (c1 : PySem.W.codeIn K cd1 "is_in" = true) (k1 : PySem.W.keepIn K (.ref f1) = true)
    (a2 : PySem.W.nsIn K mainGlobals "need_size" = some (some (.ref f2))) (l2 : K.lookup f2 = some ⟨oc2, od2, .func (PySem.W.fnOf "need_size" "need_size" (defArgs s_need_size) (defBody s_need_size) (defScope s_need_size) .none kV2 dc2 pm2 an2 cd2 ct2), sl2⟩) (c2 : PySem.W.codeIn K cd2 "need_size" = true) (k2 : PySem.W.keepIn K (.ref f2) = true)
    (a15 : PySem.W.nsIn K mainGlobals "_law_taken" = some (some (.ref f15))) (l15 : K.lookup f15 = some ⟨oc15, od15, .func (PySem.W.fnOf "_law_taken" "_law_taken" (defArgs s_law_taken) (defBody s_law_taken) (defScope s_law_taken) .none kV15 dc15 pm15 an15 cd15 ct15), sl15⟩) (c15 : PySem.W.codeIn K cd15 "_law_taken" = true) (k15 : PySem.W.keepIn K (.ref f15) = true)
    (a16 : PySem.W.nsIn K mainGlobals "_law_alike" = some (some (.ref f16))) (l16 : K.lookup f16 = some ⟨oc16, od16, .func (PySem.W.fnOf "_law_alike" "_law_alike" (defArgs s_law_alike) (defBody s_law_alike) (defScope s_law_alike) .none kV16 dc16 pm16 an16 cd16 ct16), sl16⟩) (c16 : PySem.W.codeIn K cd16 "_law_alike" = true) (k16 : PySem.W.keepIn K (.ref f16) = true)
    (a29 : PySem.W.nsIn K mainGlobals "_law_pick" = some (some (.ref f29))) (l29 : K.lookup f29 = some ⟨oc29, od29, .func (PySem.W.fnOf "_law_pick" "_law_pick" (defArgs s_law_pick) (defBody s_law_pick) (defScope s_law_pick) .none kV29 dc29 pm29 an29 cd29 ct29), sl29⟩) (c29 : PySem.W.codeIn K cd29 "_law_pick" = true) (k29 : PySem.W.keepIn K (.ref f29) = true)
    (a58 : PySem.W.nsIn K mainGlobals "is_edge" = some (some (.ref f58))) (l58 : K.lookup f58 = some ⟨oc58, od58, .func (PySem.W.fnOf "is_edge" "is_edge" (defArgs s_is_edge) (defBody s_is_edge) (defScope s_is_edge) .none kV58 dc58 pm58 an58 cd58 ct58), sl58⟩) (c58 : PySem.W.codeIn K cd58 "is_edge" = true) (k58 : PySem.W.keepIn K (.ref f58) = true)
    (a59 : PySem.W.nsIn K mainGlobals "need_graph" = some (some (.ref f59))) (l59 : K.lookup f59 = some ⟨oc59, od59, .func (PySem.W.fnOf "need_graph" "need_graph" (defArgs s_need_graph) (defBody s_need_graph) (defScope s_need_graph) .none kV59 dc59 pm59 an59 cd59 ct59), sl59⟩) (c59 : PySem.W.codeIn K cd59 "need_graph" = true) (k59 : PySem.W.keepIn K (.ref f59) = true)
    (a60 : PySem.W.nsIn K mainGlobals "neighbours" = some (some (.ref f60))) (l60 : K.lookup f60 = some ⟨oc60, od60, .func (PySem.W.fnOf "neighbours" "neighbours" (defArgs s_neighbours) (defBody s_neighbours) (defScope s_neighbours) .none kV60 dc60 pm60 an60 cd60 ct60), sl60⟩) (c60 : PySem.W.codeIn K cd60 "neighbours" = true) (k60 : PySem.W.keepIn K (.ref f60) = true)
    (a61 : PySem.W.nsIn K mainGlobals "shows_odd_walk" = some (some (.ref f61))) (l61 : K.lookup f61 = some ⟨oc61, od61, .func (PySem.W.fnOf "shows_odd_walk" "shows_odd_walk" (defArgs s_shows_odd_walk) (defBody s_shows_odd_walk) (defScope s_shows_odd_walk) .none kV61 dc61 pm61 an61 cd61 ct61), sl61⟩) (c61 : PySem.W.codeIn K cd61 "shows_odd_walk" = true) (k61 : PySem.W.keepIn K (.ref f61) = true)
    (a62 : PySem.W.nsIn K mainGlobals "law" = some (some (.ref f62))) (l62 : K.lookup f62 = some ⟨oc62, od62, .func (PySem.W.fnOf "law" "law" (defArgs s_law_v5) (defBody s_law_v5) (defScope s_law_v5) .none kV62 dc62 pm62 an62 cd62 ct62), sl62⟩) (c62 : PySem.W.codeIn K cd62 "law" = true) (k62 : PySem.W.keepIn K (.ref f62) = true)
    (q0 : PySem.W.nsIn K mainGlobals "MOST_SIZE" = some (some (.int 4 t0)))
    (z0 : PySem.W.nsIn K mainGlobals "len" = some none)
    (z1 : PySem.W.nsIn K mainGlobals "tuple" = some none)
    (z2 : PySem.W.nsIn K mainGlobals "list" = some none)
    (z3 : PySem.W.nsIn K mainGlobals "int" = some none)
    (z4 : PySem.W.nsIn K mainGlobals "all" = some none)
    (z5 : PySem.W.nsIn K mainGlobals "any" = some none)
    (z6 : PySem.W.nsIn K mainGlobals "sum" = some none)
    (z7 : PySem.W.nsIn K mainGlobals "sorted" = some none)
    (z8 : PySem.W.nsIn K mainGlobals "min" = some none)
    (z9 : PySem.W.nsIn K mainGlobals "max" = some none)
    (z10 : PySem.W.nsIn K mainGlobals "str" = some none)
    (z11 : PySem.W.nsIn K mainGlobals "abs" = some none)
    (z12 : PySem.W.nsIn K mainGlobals "bool" = some none)
    (z13 : PySem.W.nsIn K mainGlobals "dict" = some none)
    (z14 : PySem.W.nsIn K mainGlobals "isinstance" = some none)
    (z15 : PySem.W.nsIn K mainGlobals "range" = some none)
    (z16 : PySem.W.nsIn K mainGlobals "enumerate" = some none)
    (z17 : PySem.W.nsIn K mainGlobals "zip" = some none)
    (z18 : PySem.W.nsIn K mainGlobals "set" = some none)
    : ∃ fd : FuncData, (∀ (s : Shared) (v : Value), BindsTo s fd ⟨[v], []⟩ [("_law_script", v)]) ∧ ∀ base : Heap, K.In base → base.Ns mainGlobals mg → FnOk l.prog w K mg base CX0 KK fa fd ["_law_script"] (spF K T KK 62) := by
  have e := hfa.symm.trans (PySem.W.mg_of X G a62)
  cases e
  have TO : TopOk K mg M T := by
    refine ⟨fun b hb => ?_, fun x n hx => ?_, fun f fn hf => ?_⟩
    · simp only [bnames, List.mem_cons, List.not_mem_nil, or_false] at hb
      rcases hb with rfl | rfl | rfl | rfl | rfl | rfl | rfl | rfl | rfl | rfl | rfl | rfl | rfl | rfl | rfl | rfl | rfl | rfl | rfl
      · exact PySem.W.mg_none_of X G z0
      · exact PySem.W.mg_none_of X G z1
      · exact PySem.W.mg_none_of X G z2
      · exact PySem.W.mg_none_of X G z3
      · exact PySem.W.mg_none_of X G z4
      · exact PySem.W.mg_none_of X G z5
      · exact PySem.W.mg_none_of X G z6
      · exact PySem.W.mg_none_of X G z7
      · exact PySem.W.mg_none_of X G z8
      · exact PySem.W.mg_none_of X G z9
      · exact PySem.W.mg_none_of X G z10
      · exact PySem.W.mg_none_of X G z11
      · exact PySem.W.mg_none_of X G z12
      · exact PySem.W.mg_none_of X G z13
      · exact PySem.W.mg_none_of X G z14
      · exact PySem.W.mg_none_of X G z15
      · exact PySem.W.mg_none_of X G z16
      · exact PySem.W.mg_none_of X G z17
      · exact PySem.W.mg_none_of X G z18
    · simp only [M] at hx
      split at hx
      · rename_i e
        subst e
        cases hx
        exact ⟨t0, PySem.W.mg_of X G q0⟩
      cases hx
    · unfold T at hf
      split at hf
      · cases hf
        have F := fun_mk (st := s_is_int) l0 c0 k0
        exact ⟨"is_int", "is_int", s_is_int, _, _, _, _, PySem.W.mg_of X G a0, F, F.binds fun _ _ _ _ _ _ us hl => match us, hl with | [_], _ => rfl, sc_is_int, rfl, rfl, mat_is_int⟩
      · cases hf
        have F := fun_mk (st := s_is_in) l1 c1 k1
        exact ⟨"is_in", "is_in", s_is_in, _, _, _, _, PySem.W.mg_of X G a1, F, F.binds fun _ _ _ _ _ _ us hl => match us, hl with | [_, _, _], _ => rfl, sc_is_in, rfl, rfl, mat_is_in⟩
      · cases hf
        have F := fun_mk (st := s_need_size) l2 c2 k2
        exact ⟨"need_size", "need_size", s_need_size, _, _, _, _, PySem.W.mg_of X G a2, F, F.binds fun _ _ _ _ _ _ us hl => match us, hl with | [_], _ => rfl, sc_need_size, rfl, rfl, mat_need_size⟩
      · cases hf
        have F := fun_mk (st := s_law_taken) l15 c15 k15
        exact ⟨"_law_taken", "_law_taken", s_law_taken, _, _, _, _, PySem.W.mg_of X G a15, F, F.binds fun _ _ _ _ _ _ us hl => match us, hl with | [_, _], _ => rfl, sc_law_taken, rfl, rfl, mat_law_taken⟩
      · cases hf
        have F := fun_mk (st := s_law_alike) l16 c16 k16
        exact ⟨"_law_alike", "_law_alike", s_law_alike, _, _, _, _, PySem.W.mg_of X G a16, F, F.binds fun _ _ _ _ _ _ us hl => match us, hl with | [_, _], _ => rfl, sc_law_alike, rfl, rfl, mat_law_alike⟩
      · cases hf
        have F := fun_mk (st := s_law_pick) l29 c29 k29
        exact ⟨"_law_pick", "_law_pick", s_law_pick, _, _, _, _, PySem.W.mg_of X G a29, F, F.binds fun _ _ _ _ _ _ us hl => match us, hl with | [_, _], _ => rfl, sc_law_pick, rfl, rfl, mat_law_pick⟩
      · cases hf
        have F := fun_mk (st := s_is_edge) l58 c58 k58
        exact ⟨"is_edge", "is_edge", s_is_edge, _, _, _, _, PySem.W.mg_of X G a58, F, F.binds fun _ _ _ _ _ _ us hl => match us, hl with | [_, _], _ => rfl, sc_is_edge, rfl, rfl, mat_is_edge⟩
      · cases hf
        have F := fun_mk (st := s_need_graph) l59 c59 k59
        exact ⟨"need_graph", "need_graph", s_need_graph, _, _, _, _, PySem.W.mg_of X G a59, F, F.binds fun _ _ _ _ _ _ us hl => match us, hl with | [_, _], _ => rfl, sc_need_graph, rfl, rfl, mat_need_graph⟩
      · cases hf
        have F := fun_mk (st := s_neighbours) l60 c60 k60
        exact ⟨"neighbours", "neighbours", s_neighbours, _, _, _, _, PySem.W.mg_of X G a60, F, F.binds fun _ _ _ _ _ _ us hl => match us, hl with | [_, _], _ => rfl, sc_neighbours, rfl, rfl, mat_neighbours⟩
      · cases hf
        have F := fun_mk (st := s_shows_odd_walk) l61 c61 k61
        exact ⟨"shows_odd_walk", "shows_odd_walk", s_shows_odd_walk, _, _, _, _, PySem.W.mg_of X G a61, F, F.binds fun _ _ _ _ _ _ us hl => match us, hl with | [_, _, _], _ => rfl, sc_shows_odd_walk, rfl, rfl, mat_shows_odd_walk⟩
      · cases hf
        have F := fun_mk (st := s_law_v5) l62 c62 k62
        exact ⟨"law", "law", s_law_v5, _, _, _, _, PySem.W.mg_of X G a62, F, F.binds fun _ _ _ _ _ _ us hl => match us, hl with | [_], _ => rfl, sc_law_v5, rfl, rfl, mat_law_v5⟩
      · cases hf
  have b := fun_mk (st := s_law_v5) l62 c62 k62
  refine ⟨PySem.W.fnOf "law" "law" (defArgs s_law_v5) (defBody s_law_v5) (defScope s_law_v5) .none kV62 dc62 pm62 an62 cd62 ct62, fun s v => .of_eq rfl, fun base _ _ => ?_⟩
  exact fnStep TO (fnOk TO KP) (f := 62) (fn := F_law_v5) rfl b sc_law_v5 rfl rfl mat_law_v5
end Mi.Lk67
open PySem PySem.W PyProof.Rows
set_option maxHeartbeats 0 in
theorem PySem.Challenge.cw_templates_k67_whole_odd_walks_judged_holds : PySem.Challenge.rw_templates_k67_whole_odd_walks_judged.Holds := by
  w_on
  o_law
  k_head
  (case hw => w_witness2)
  k_fill
  refine L2.walk_ofB (l := PySem.Challenge.rw_templates_k67_whole_odd_walks_judged) (n := 63) (k := Mi.Lk67.KK) (x := "_law_script") (CX := fun _ => L2.CX0) (sp := fun w => Mi.spF _ Mi.Lk67.T Mi.Lk67.KK 62) rfl (by decide) rfl ⟨rfl, by decide, by decide⟩ (fun w h Y => PySem.W.kIn_of Y) ?F (fun _ _ a ns hl hb hO hS => Mi.Lk67.law_end hl hb hO hS) (fun _ _ _ _ _ h => h)
  case F =>
    intro w mg fa h KX G hmg
    refine' Mi.Lk67.all_mk KX G hmg ?a0 ?l0 ?c0 ?k0 ?a1 ?l1 ?c1 ?k1 ?a2 ?l2 ?c2 ?k2 ?a15 ?l15 ?c15 ?k15 ?a16 ?l16 ?c16 ?k16 ?a29 ?l29 ?c29 ?k29 ?a58 ?l58 ?c58 ?k58 ?a59 ?l59 ?c59 ?k59 ?a60 ?l60 ?c60 ?k60 ?a61 ?l61 ?c61 ?k61 ?a62 ?l62 ?c62 ?k62 ?q0 ?z0 ?z1 ?z2 ?z3 ?z4 ?z5 ?z6 ?z7 ?z8 ?z9 ?z10 ?z11 ?z12 ?z13 ?z14 ?z15 ?z16 ?z17 ?z18
    (case a0 => k_is); (case l0 => k_is); (case c0 => k_is); (case k0 => k_is); (case a1 => k_is); (case l1 => k_is); (case c1 => k_is); (case k1 => k_is); (case a2 => k_is); (case l2 => k_is); (case c2 => k_is); (case k2 => k_is); (case a15 => k_is); (case l15 => k_is); (case c15 => k_is); (case k15 => k_is); (case a16 => k_is); (case l16 => k_is); (case c16 => k_is); (case k16 => k_is); (case a29 => k_is); (case l29 => k_is); (case c29 => k_is); (case k29 => k_is); (case a58 => k_is); (case l58 => k_is); (case c58 => k_is); (case k58 => k_is); (case a59 => k_is); (case l59 => k_is); (case c59 => k_is); (case k59 => k_is); (case a60 => k_is); (case l60 => k_is); (case c60 => k_is); (case k60 => k_is); (case a61 => k_is); (case l61 => k_is); (case c61 => k_is); (case k61 => k_is); (case a62 => k_is); (case l62 => k_is); (case c62 => k_is); (case k62 => k_is); (case q0 => k_is); (case z0 => k_is); (case z1 => k_is); (case z2 => k_is); (case z3 => k_is); (case z4 => k_is); (case z5 => k_is); (case z6 => k_is); (case z7 => k_is); (case z8 => k_is); (case z9 => k_is); (case z10 => k_is); (case z11 => k_is); (case z12 => k_is); (case z13 => k_is); (case z14 => k_is); (case z15 => k_is); (case z16 => k_is); (case z17 => k_is); (case z18 => k_is)
