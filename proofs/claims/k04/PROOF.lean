import PyProof.Rows.All
import Wide.All
import OpenK.AllK
import Wide.FinOn
import HandS.ForMost
import HandS.IsInst
import HandS.ForExc
import HandS.Wide
import HandS.TupAny
import HandS.Flow
import HandS.CallSlots
import HandS.Style
import HandS.Lambda
import HandS.ExcField
import HandS.HeadHook1
import HandS.HeadHook4
import HandS.Iter
import KE.GoesEnum
import HandS.ExcInit
import HandS.ExcCtx
import HandS.ExcSuper
import HandS.HotCalls
import HandS.ClsMeth
import KE.KExcInit
import HandS.HeadWalk
import HandS.Defaults
import HandS.EndTab
import HandS.ExcOwn
import HandS.Ends
import HandS.EndBits
import HandS.HeadEnd
import HandS.HeadHook2
import HandS.HeadHook3
import HandS.Head0
import HandS.Head1
import HandS.Head2
import PySem.Challenge.RW_tracecells_k04_whole_division
set_option Elab.async false
set_option linter.all false
set_option maxRecDepth 100000
set_option maxHeartbeats 0
set_option autoImplicit false
/-! DI1: a small language for the defs of a text, and what it means over data and a store. -/
namespace DI
open PySem

/-- a value: data, or the number of an object of the store -/
inductive D where
  | non | bl (b : Bool) | int (i : Int) | str (s : Str) | tup (ds : List D) | ref (n : Nat) | bty (n : String) | kls (ds : List D)

/-- an object of the store -/
inductive SO where
  | lst (ds : List D)
  | rol (ds : List D)
  | dct (kvs : List (L2.Key × D))
  | ins (c : Str) (fs : List (Str × D))

abbrev Sto := List SO
structure Exn where
  cls : Str
  fs : List (Str × D)
inductive Out (α : Type) where
  | ok (a : α) (S : Sto)
  | ex (x : Exn) (S : Sto)
  | bad
def Out.bind {α β : Type} (o : Out α) (f : α → Sto → Out β) : Out β := match o with
  | .ok a S => f a S
  | .ex x S => .ex x S
  | .bad => .bad
/-- an exception is not served here -/
def Out.noex {α : Type} (o : Out α) : Out α := match o with
  | .ex _ _ => .bad
  | o => o
@[simp] theorem Out.noex_ok {α : Type} (a : α) (S : Sto) : (Out.ok a S).noex = .ok a S := rfl
@[simp] theorem Out.bind_ok {α β : Type} (a : α) (S : Sto) (f : α → Sto → Out β) : (Out.ok a S).bind f = f a S := rfl
@[simp] theorem Out.bind_ex {α β : Type} (x : Exn) (S : Sto) (f : α → Sto → Out β) : (Out.ex x S : Out α).bind f = .ex x S := rfl
@[simp] theorem Out.bind_bad {α β : Type} (f : α → Sto → Out β) : (Out.bad : Out α).bind f = .bad := rfl
abbrev Env := List (Option D)

/-! ### exceptions: the classes, their fields, who catches them -/
/-- a class and the field that its argument becomes -/
def excTab : List (Str × Option Str) := [(("InvalidText" : Str), some ("position" : Str)), (("UnknownName" : Str), some ("name" : Str)), (("KindConflict" : Str), some ("name" : Str)), (("MissingInput" : Str), some ("name" : Str)), (("InvalidInput" : Str), some ("name" : Str)),
  (("InvalidPoint" : Str), some ("index" : Str)), (("InvalidTrack" : Str), some ("index" : Str)), (("InvalidEnd" : Str), some ("end" : Str)), (("TooManyCells" : Str), some ("limit" : Str)), (("OutsideRange" : Str), some ("value" : Str)), (("TooLarge" : Str), some ("degree" : Str)),
  (("DivisionByZero" : Str), some ("dividend" : Str)), (("InvalidLabel" : Str), some ("label" : Str)), (("DuplicateLabel" : Str), some ("label" : Str)), (("UnknownLabel" : Str), some ("label" : Str)), (("LimitReached" : Str), some ("limit" : Str)), (("InvalidCommand" : Str), some ("position" : Str)),
  (("EmptyHistory" : Str), none), (("InvalidSnapshot" : Str), some ("row" : Str)), (("Halt" : Str), some ("outcome" : Str))]
def excBase : Str := "TraceError"
/-- all fields -/
def excFld : List Str := [("class_name" : Str), ("position" : Str), ("name" : Str), ("index" : Str), ("end" : Str), ("limit" : Str), ("value" : Str), ("degree" : Str), ("dividend" : Str), ("label" : Str), ("row" : Str), ("outcome" : Str)]
/-- the exception that a call of the class makes -/
def mkExn (c : Str) (ds : List D) : Option Exn := match excTab.lookup c, ds with
  | some (some f), [d] => some ⟨c, [(f, d), ("class_name", .str c)]⟩
  | some none, [] => some ⟨c, [("class_name", .str c)]⟩
  | _, _ => none
/-- does «except h» catch it -/
def catches (h c : Str) : Bool := decide (h = excBase) || decide (h = c)
/-- what a return says of a caught exception: a field, by the word, or None -/
inductive FR where
  | at_ (n : Str) | non | ite (s : Str) (a b : FR)
def FR.ev (w : Str) : FR → Option Str
  | .at_ n => some n
  | .non => none
  | .ite s a b => if w = s then a.ev w else b.ev w
def evC (w : Str) (last : FR) : List (List Str × FR) → Option Str
  | [] => last.ev w
  | (ss, r) :: l => if w ∈ ss then r.ev w else evC w last l
/-- the law's own reading of an exception's field -/
def fldL : List (List Str × FR) := [
  ([("InvalidText" : Str), ("InvalidCommand" : Str)], .at_ "position"),
  ([("UnknownName" : Str), ("KindConflict" : Str), ("MissingInput" : Str), ("InvalidInput" : Str)], .at_ "name"),
  ([("InvalidPoint" : Str), ("InvalidTrack" : Str)], .at_ "index"),
  ([("TooManyCells" : Str), ("LimitReached" : Str)], .at_ "limit"),
  ([("InvalidLabel" : Str), ("DuplicateLabel" : Str), ("UnknownLabel" : Str)], .at_ "label"),
  ([("InvalidEnd" : Str), ("OutsideRange" : Str)], .ite "InvalidEnd" (.at_ "end") (.at_ "value")),
  ([("TooLarge" : Str), ("DivisionByZero" : Str)], .ite "TooLarge" (.at_ "degree") (.at_ "dividend"))]
def fldLast : FR := .ite "InvalidSnapshot" (.at_ "row") .non
/-- the answer of try(lambda: ..) to an exception -/
def tryRes (x : Exn) : Option (List D) := match x.fs.lookup ("class_name" : Str) with
  | some (.str z) => (match evC z fldLast fldL with
    | none => some [.str z, .non]
    | some n => (x.fs.lookup n).map fun d => [.str z, d])
  | _ => none
/-- levels: the outermost defs have room to spare -/
def lev (k : Nat) : Nat := k + 3 * (k - 90)

/-- the largest length that is allowed here (well below the model's) -/
abbrev LEN : Nat := 100000

/-! ### operations -/
inductive Bop where
  | add | sub | mul | fdiv | mod | pow
  deriving DecidableEq
inductive Cop where
  | eq | ne | lt | le | gt | ge | isIn | notIn | is_ | isNot
  deriving DecidableEq

def toP (S : Sto) : Nat → D → Option PyData
  | _, .non => some .none
  | _, .bl b => some (.bool b)
  | _, .int i => some (.int i)
  | _, .str s => some (.str s)
  | n + 1, .tup ds => (ds.mapM (toP S n)).map .tuple
  | n + 1, .ref r => match S[r]? with
    | some (.lst ds) => (ds.mapM (toP S n)).map .list
    | some (.rol ds) => (ds.mapM (toP S n)).map .list
    | _ => none
  | _, _ => none
def shaped (d : PyData) : Bool := PySem.SeqAt.shaped d
/-- a == b -/
def eqD (S : Sto) (a b : D) : Option Bool := match toP S 64 a, toP S 64 b with
  | some p, some q => if shaped p && shaped q then some (PyData.eqv p q) else none
  | _, _ => none

def binD : Bop → D → D → Sto → Out D
  | .add, .int i, .int j, S => .ok (.int (i + j)) S
  | .add, .str a, .str b, S => if a.length + b.length ≤ LEN then .ok (.str (a ++ b)) S else .bad
  | .add, .tup a, .tup b, S => if a.length + b.length ≤ LEN then .ok (.tup (a ++ b)) S else .bad
  | .add, .ref a, .ref b, S => match S[a]?, S[b]? with
    | some (.lst xs), some (.lst ys) => if xs.length + ys.length ≤ LEN then .ok (.ref S.length) (S ++ [.lst (xs ++ ys)]) else .bad
    | _, _ => .bad
  | .sub, .int i, .int j, S => .ok (.int (i - j)) S
  | .mul, .int i, .int j, S => if i.natAbs.log2 + j.natAbs.log2 < 1000000 then .ok (.int (i * j)) S else .bad
  | .mul, .ref a, .int k, S => match S[a]? with
    | some (.lst xs) => if -1000000 ≤ k ∧ k ≤ 1000000 ∧ xs.length * k.toNat ≤ LEN then .ok (.ref S.length) (S ++ [.lst (List.replicate k.toNat xs).flatten]) else .bad
    | _ => .bad
  | .fdiv, .int i, .int j, S => if j ≠ 0 ∧ j.natAbs.log2 < 9000 then .ok (.int (i.fdiv j)) S else .bad
  | .mod, .int i, .int j, S => if j ≠ 0 then .ok (.int (i.fmod j)) S else .bad
  | .pow, .int i, .int j, S => if 0 ≤ j ∧ j ≤ 1000000 ∧ i.natAbs < 2 ^ 64 then .ok (.int (i ^ j.toNat)) S else .bad
  | _, _, _, _ => .bad

def flatD : D → Bool
  | .non | .bl _ | .int _ | .str _ => true
  | _ => false
/-- x == y of flat values, as the model's search has it -/
def eqF : D → D → Bool
  | .non, .non => true
  | .bl a, .bl b => a == b
  | .int a, .int b => a == b
  | .bl a, .int b => (if a then 1 else 0) == b
  | .int a, .bl b => a == (if b then 1 else 0)
  | .str a, .str b => a == b
  | _, _ => false

def cmpD : Cop → D → D → Sto → Out D
  | .eq, x, y, S => match eqD S x y with
    | some b => .ok (.bl b) S
    | none => .bad
  | .ne, x, y, S => match eqD S x y with
    | some b => .ok (.bl (!b)) S
    | none => .bad
  | .lt, .int i, .int j, S => .ok (.bl (decide (i < j))) S
  | .le, .int i, .int j, S => .ok (.bl (decide (i ≤ j))) S
  | .gt, .int i, .int j, S => .ok (.bl (decide (j < i))) S
  | .ge, .int i, .int j, S => .ok (.bl (decide (j ≤ i))) S
  | .is_, x, .non, S => .ok (.bl (match x with | .non => true | _ => false)) S
  | .isNot, x, .non, S => .ok (.bl (match x with | .non => false | _ => true)) S
  | _, _, _, _ => .bad

def truD : D → Sto → Option Bool
  | .non, _ => some false
  | .bl b, _ => some b
  | .int i, _ => some (i != 0)
  | .str s, _ => if s.length ≤ LEN then some ((s.length : Int) != 0) else none
  | .tup ds, _ => some (!ds.isEmpty)
  | .ref n, S => match S[n]? with
    | some (.lst ds) => some (!ds.isEmpty)
    | some (.rol ds) => some (!ds.isEmpty)
    | some (.dct kvs) => some (!kvs.isEmpty)
    | _ => none
  | .bty _, _ => none
  | .kls _, _ => none
def tru (d : D) (S : Sto) : Out Bool := match truD d S with
  | some b => .ok b S
  | none => .bad

def negD : D → Sto → Out D
  | .int i, S => .ok (.int (-i)) S
  | _, _ => .bad

/-- xs[i] -/
def ixD : D → D → Sto → Out D
  | .tup ds, .int i, S => match L2.atI ds i with
    | some d => .ok d S
    | none => .bad
  | .str s, .int i, S => if s.length ≤ LEN then match L2.atI s.cps.toList i with
    | some c => .ok (.str ⟨#[c]⟩) S
    | none => .bad
    else .bad
  | .ref n, .int i, S => match S[n]? with
    | some (.lst ds) => match L2.atI ds i with
      | some d => .ok d S
      | none => .bad
    | some (.rol ds) => match L2.atI ds i with
      | some d => .ok d S
      | none => .bad
    | _ => .bad
  | _, _, _ => .bad
def cutD {α : Type} (xs : List α) (lo hi : Option Int) : List α := (xs.drop (HT.sIx xs.length 0 lo)).take (HT.sIx xs.length xs.length hi - HT.sIx xs.length 0 lo)
def slD : D → Option Int → Option Int → Sto → Out D
  | .ref n, lo, hi, S => match S[n]? with
    | some (.lst ds) => .ok (.ref S.length) (S ++ [.lst (cutD ds lo hi)])
    | some (.rol ds) => .ok (.ref S.length) (S ++ [.lst (cutD ds lo hi)])
    | _ => .bad
  | .tup ds, lo, hi, S => .ok (.tup (cutD ds lo hi)) S
  | .kls ds, lo, hi, S => .ok (.ref S.length) (S ++ [.lst (cutD ds lo hi)])
  | .str s, lo, hi, S => if s.length ≤ LEN then .ok (.str (L2.cutS s lo hi)) S else .bad
  | _, _, _, _ => .bad
/-- xs[::-1] -/
def revD : D → Sto → Out D
  | .tup ds, S => .ok (.tup ds.reverse) S
  | _, _ => .bad
/-- xs[i] = v -/
def setIx : D → D → D → Sto → Option Sto
  | .ref n, .int i, v, S => match S[n]? with
    | some (.lst ds) => match L2.ixN ds.length i with
      | some j => some (S.set n (.lst (ds.set j v)))
      | none => none
    | _ => none
  | _, _, _, _ => none

/-! ### built-ins -/
inductive Bi where
  | len | abs | max2 | min2 | list | tuple | int | all | isinst
  deriving DecidableEq
def allD : List D → Option Bool
  | [] => some true
  | .bl b :: r => (allD r).map fun q => b && q
  | _ :: _ => none
/-- the name of a value's class -/
def tyN (S : Sto) : D → Option String
  | .non => some "NoneType"
  | .bl _ => some "bool"
  | .int _ => some "int"
  | .str _ => some "str"
  | .tup _ => some "tuple"
  | .ref r => match S[r]? with
    | some (.lst _) => some "list"
    | some (.rol _) => some "list"
    | _ => none
  | .bty _ => none
  | .kls _ => none
def isAny (a : String) : List D → Option Bool
  | [] => some false
  | .bty n :: r => match L2.kitB a n with
    | some true => (isAny a r).map fun _ => true
    | some false => isAny a r
    | none => none
  | _ :: _ => none
def biD : Bi → List D → Sto → Out D
  | .len, [.tup ds], S => .ok (.int ds.length) S
  | .len, [.str s], S => if s.length ≤ LEN then .ok (.int s.length) S else .bad
  | .len, [.ref n], S => match S[n]? with
    | some (.lst ds) => .ok (.int ds.length) S
    | some (.rol ds) => .ok (.int ds.length) S
    | _ => .bad
  | .abs, [.int i], S => .ok (.int (if i < 0 then -i else i)) S
  | .max2, [.int i, .int j], S => .ok (.int (if j > i then j else i)) S
  | .min2, [.int i, .int j], S => .ok (.int (if j < i then j else i)) S
  | .list, [.tup ds], S => .ok (.ref S.length) (S ++ [.lst ds])
  | .list, [.ref n], S => match S[n]? with
    | some (.lst ds) => .ok (.ref S.length) (S ++ [.lst ds])
    | some (.rol ds) => .ok (.ref S.length) (S ++ [.lst ds])
    | _ => .bad
  | .tuple, [.tup ds], S => .ok (.tup ds) S
  | .tuple, [.ref n], S => match S[n]? with
    | some (.lst ds) => .ok (.tup ds) S
    | some (.rol ds) => .ok (.tup ds) S
    | _ => .bad
  | .int, [.int i], S => .ok (.int i) S
  | .int, [.bl b], S => .ok (.int (if b then 1 else 0)) S
  | .isinst, [x, .bty n], S => match (tyN S x).bind fun a => L2.kitB a n with
    | some b => .ok (.bl b) S
    | none => .bad
  | .isinst, [x, .tup cs], S => match (tyN S x).bind fun a => isAny a cs with
    | some b => .ok (.bl b) S
    | none => .bad
  | .all, [.ref n], S => match S[n]? with
    | some (.lst ds) => match allD ds with
      | some b => .ok (.bl b) S
      | none => .bad
    | _ => .bad
  | _, _, _ => .bad
inductive Me where
  | append | pop
  deriving DecidableEq
def meD : Me → D → List D → Sto → Out D
  | .append, .ref n, [v], S => match S[n]? with
    | some (.lst ds) => if ds.length < LEN then .ok .non (S.set n (.lst (ds ++ [v]))) else .bad
    | _ => .bad
  | .pop, .ref n, [], S => match S[n]? with
    | some (.lst ds) => match ds[ds.length - 1]? with
      | some v => .ok v (S.set n (.lst ds.dropLast))
      | none => .bad
    | _ => .bad
  | _, _, _, _ => .bad

/-- the receiver is of the method's class -/
def meTy : Me → D → Sto → Bool
  | _, .ref n, S => match S[n]? with
    | some (.lst _) => true
    | _ => false
  | _, _, _ => false

/-! ### the language -/
inductive T where
  | nm (i : Nat)
  | tp (is : List Nat)
mutual
inductive E where
  | var (i : Nat) | glo (x : Str) | bt (x : Str) (n : String)
  | int (i : Int) | str (s : Str) | bl (b : Bool) | non
  | bin (o : Bop) (a b : E) | neg (a : E) | cmp (o : Cop) (a b : E)
  | andV (a b : E) | orV (a b : E) | notV (a : E) | ite (t : Q) (a b : E)
  | tup (a : A) | lst (a : A)
  | call (f : Str) (a : A) | bi (b : Bi) (a : A) | me (m : Me) (o : E) (a : A)
  | ix (a i : E) | sl (a : E) (lo hi : Op) | rev (a : E)
  | lc (own : List (Str × Nat)) (t : T) (i : It) (elt : E)
  | lcIf (own : List (Str × Nat)) (t : T) (i : It) (c : Q) (elt : E)
  | tryL (e : E)
/-- a test -/
inductive Q where
  | val (e : E) | and_ (a b : Q) | or_ (a b : Q) | not_ (a : Q)
/-- arguments -/
inductive A where
  | nil | cons (e : E) (a : A)
/-- a part of a slice -/
inductive Op where
  | no | ex (e : E)
/-- what is walked -/
inductive It where
  | of (e : E) | rng1 (a : E) | rng2 (a b : E) | rng3 (a b c : E) | enum (e : E)
end

/-- where an expression stands: the defs that may be called, the module's constants, the level; where a lambda's body stands -/
inductive Cfg where
  | mk (F : Str → List D → Sto → Out D) (G : Str → Option D) (lv : Nat) (low : Option Cfg)
def Cfg.F : Cfg → Str → List D → Sto → Out D
  | .mk F _ _ _ => F
def Cfg.G : Cfg → Str → Option D
  | .mk _ G _ _ => G
def Cfg.lv : Cfg → Nat
  | .mk _ _ lv _ => lv
def Cfg.low : Cfg → Option Cfg
  | .mk _ _ _ low => low

/-- what is walked: written items, or a list of the store as it stands at each turn (with its places, for enumerate) -/
inductive Src where
  | its (ds : List D)
  | live (n len : Nat) (en : Bool)
def Src.len : Src → Nat
  | .its ds => ds.length
  | .live _ k _ => k
/-- the item of turn i, as the store then is -/
def Src.at (s : Src) (S : Sto) (i : Nat) : Option D := match s with
  | .its ds => ds[i]?
  | .live n k en => match S[n]? with
    | some (.lst ds) | some (.rol ds) => if ds.length = k then ds[i]?.map fun d => if en = true then .tup [.int (i : Nat), d] else d else none
    | _ => none
/-- the walk may end -/
def Src.fin (s : Src) (S : Sto) : Bool := match s with
  | .its _ => true
  | .live n k _ => match S[n]? with
    | some (.lst ds) | some (.rol ds) => decide (ds.length = k)
    | _ => false
def srcOf : D → Sto → Option Src
  | .tup ds, _ => some (.its ds)
  | .ref n, S => match S[n]? with
    | some (.lst ds) | some (.rol ds) => some (.live n ds.length false)
    | _ => none
  | .str s, _ => if s.length ≤ LEN then some (.its (s.cps.toList.map fun c => .str ⟨#[c]⟩)) else none
  | _, _ => none
def rngD (lo hi c : Int) : Option Src :=
  if -1000000 ≤ lo ∧ lo ≤ 1000000 ∧ -1000000 ≤ hi ∧ hi ≤ 1000000 ∧ (c = 1 ∨ c = -1) then
    some (.its ((List.range (if c = 1 then (hi - lo).toNat else (lo - hi).toNat)).map fun (k : Nat) => .int (lo + k * c)))
  else none
def enumD : D → Sto → Option Src
  | .tup ds, _ => some (.its ((List.range ds.length).map fun k => .tup [.int (k : Nat), ds.getD k .non]))
  | .ref n, S => match S[n]? with
    | some (.lst ds) | some (.rol ds) => some (.live n ds.length true)
    | _ => none
  | _, _ => none

/-- the target takes a value -/
def setT : T → D → Env → Option Env
  | .nm i, d, env => if i < env.length then some (env.set i (some d)) else none
  | .tp is, .tup ds, env => if is.length = ds.length ∧ is.all (· < env.length) then some ((is.zip ds).foldl (fun e p => e.set p.1 (some p.2)) env) else none
  | _, _, _ => none
def wipeE (env : Env) : List Nat → Env
  | [] => env
  | v :: vs => (wipeE env vs).set v none

/-- the elements of a comprehension, one after another: k turns are left, i is the next -/
def mapO (s : Src) (f : D → Sto → Out (List D)) : Nat → Nat → Sto → Out (List D)
  | 0, _, S => if s.fin S = true then .ok [] S else .bad
  | k + 1, i, S => match s.at S i with
    | some d => (f d S).bind fun ys S => (mapO s f k (i + 1) S).bind fun zs S => .ok (ys ++ zs) S
    | none => .bad

mutual
def evE : Cfg → E → Env → Sto → Out D
  | c, .var i, env, S => match env[i]? with
    | some (some d) => .ok d S
    | _ => .bad
  | c, .glo x, _, S => match c.G x with
    | some d => .ok d S
    | none => .bad
  | c, .bt _ n, _, S => .ok (.bty n) S
  | c, .int i, _, S => .ok (.int i) S
  | c, .str s, _, S => .ok (.str s) S
  | c, .bl b, _, S => .ok (.bl b) S
  | c, .non, _, S => .ok .non S
  | c, .bin o a b, env, S => (evE c a env S).bind fun x S => (evE c b env S).bind fun y S => binD o x y S
  | c, .neg a, env, S => (evE c a env S).bind fun x S => negD x S
  | c, .cmp o a b, env, S => (evE c a env S).bind fun x S => (evE c b env S).bind fun y S => cmpD o x y S
  | c, .andV a b, env, S => (evE c a env S).bind fun x S => match x with
    | .bl true => evE c b env S
    | .bl false => .ok (.bl false) S
    | _ => .bad
  | c, .orV a b, env, S => (evE c a env S).bind fun x S => match x with
    | .bl true => .ok (.bl true) S
    | .bl false => evE c b env S
    | _ => .bad
  | c, .notV a, env, S => (evE c a env S).bind fun x S => match x with
    | .bl b => .ok (.bl (!b)) S
    | _ => .bad
  | c, .ite t a b, env, S => (evQ c t env S).bind fun k S => if k = true then evE c a env S else evE c b env S
  | c, .tup a, env, S => (evA c a env S).bind fun ds S => if ds.length ≤ LEN then .ok (.tup ds) S else .bad
  | c, .lst a, env, S => (evA c a env S).bind fun ds S => if ds.length ≤ LEN then .ok (.ref S.length) (S ++ [.lst ds]) else .bad
  | c, .call f a, env, S => (evA c a env S).bind fun ds S => c.F f ds S
  | c, .bi b a, env, S => (evA c a env S).bind fun ds S => biD b ds S
  | c, .me m o a, env, S => (evE c o env S).bind fun x S => if meTy m x S = true then (evA c a env S).bind fun ds S => meD m x ds S else .bad
  | c, .ix a i, env, S => (evE c a env S).bind fun x S => (evE c i env S).bind fun y S => ixD x y S
  | c, .sl a lo hi, env, S => (evE c a env S).bind fun x S => (evO c lo env S).bind fun l S => (evO c hi env S).bind fun h S => slD x l h S
  | c, .rev a, env, S => (evE c a env S).bind fun x S => revD x S
  | c, .lc own t i elt, env, S => (evI c i env S).bind fun s S => if s.len < LEN then (mapO s (fun d S => match setT t d (wipeE env (own.map (·.2))) with
      | some env' => (evE c elt env' S).noex.bind fun v S => .ok [v] S
      | none => .bad) s.len 0 S).bind fun ds S => .ok (.ref S.length) (S ++ [.lst ds]) else .bad
  | c, .lcIf own t i q elt, env, S => (evI c i env S).bind fun s S => if s.len < LEN then (mapO s (fun d S => match setT t d (wipeE env (own.map (·.2))) with
      | some env' => (evQ c q env' S).noex.bind fun k S => if k = true then (evE c elt env' S).noex.bind fun v S => .ok [v] S else .ok [] S
      | none => .bad) s.len 0 S).bind fun ds S => .ok (.ref S.length) (S ++ [.lst ds]) else .bad
  | c, .tryL e, env, S => match c.low with
    | some c' => (match evE c' e env S with
      | .ok d S => .ok (.tup [.str "value", d]) S
      | .ex x S => (match tryRes x with
        | some ds => .ok (.tup ds) S
        | none => .bad)
      | .bad => .bad)
    | none => .bad
def evQ : Cfg → Q → Env → Sto → Out Bool
  | c, .val e, env, S => (evE c e env S).bind fun x S => tru x S
  | c, .and_ a b, env, S => (evQ c a env S).bind fun k S => if k = true then evQ c b env S else .ok false S
  | c, .or_ a b, env, S => (evQ c a env S).bind fun k S => if k = true then .ok true S else evQ c b env S
  | c, .not_ a, env, S => (evQ c a env S).bind fun k S => .ok (!k) S
def evA : Cfg → A → Env → Sto → Out (List D)
  | c, .nil, _, S => .ok [] S
  | c, .cons e a, env, S => (evE c e env S).bind fun x S => (evA c a env S).bind fun xs S => .ok (x :: xs) S
def evO : Cfg → Op → Env → Sto → Out (Option Int)
  | c, .no, _, S => .ok none S
  | c, .ex e, env, S => (evE c e env S).bind fun x S => match x with
    | .int i => .ok (some i) S
    | _ => .bad
def evI : Cfg → It → Env → Sto → Out Src
  | c, .of e, env, S => (evE c e env S).bind fun x S => match srcOf x S with
    | some s => .ok s S
    | none => .bad
  | c, .rng1 a, env, S => (evE c a env S).bind fun x S => match x with
    | .int i => match rngD 0 i 1 with
      | some s => .ok s S
      | none => .bad
    | _ => .bad
  | c, .rng2 a b, env, S => (evE c a env S).bind fun x S => (evE c b env S).bind fun y S => match x, y with
    | .int i, .int j => match rngD i j 1 with
      | some s => .ok s S
      | none => .bad
    | _, _ => .bad
  | c, .rng3 a b d, env, S => (evE c a env S).bind fun x S => (evE c b env S).bind fun y S => (evE c d env S).bind fun z S => match x, y, z with
    | .int i, .int j, .int k => match rngD i j k with
      | some s => .ok s S
      | none => .bad
    | _, _, _ => .bad
  | c, .enum e, env, S => (evE c e env S).bind fun x S => match enumD x S with
    | some s => .ok s S
    | none => .bad
end

/-! ### statements -/
/-- what a suite returns -/
inductive HE where
  | non | bl (b : Bool) | str (s : Str) | tup (ss : List Str) | fld (n : Str)
def hdV (x : Exn) : HE → Option D
  | .non => some .non
  | .bl b => some (.bl b)
  | .str s => some (.str s)
  | .tup ss => some (.tup (ss.map D.str))
  | .fld n => x.fs.lookup n
/-- the first suite that catches -/
def hdF (x : Exn) : List (Str × HE) → Option HE
  | [] => none
  | (h, e) :: r => if catches h x.cls = true then some e else hdF x r
mutual
inductive St where
  | asg (t : T) (e : E) | setIx (o i e : E) | aug (i : Nat) (o : Bop) (e : E) | expr (e : E)
  | ret (e : E) | retN | ite (t : Q) (a b : B) | whl (t : Q) (b : B) | for_ (t : T) (i : It) (b : B)
  | brk | cnt | pas | never
  | raise_ (c : Str) (a : A) | try_ (b : B) (hs : List (Str × HE))
inductive B where
  | nil | cons (s : St) (b : B)
end
inductive SOut where
  | nx (env : Env) (S : Sto) | rt (d : D) (S : Sto) | bk (env : Env) (S : Sto) | ct (env : Env) (S : Sto) | ex (x : Exn) (env : Env) (S : Sto) | bad
def Out.go {α : Type} (o : Out α) (env : Env) (f : α → Sto → SOut) : SOut := match o with
  | .ok a S => f a S
  | .ex x S => .ex x env S
  | .bad => .bad
@[simp] theorem Out.go_ok {α : Type} (a : α) (S : Sto) (env : Env) (f : α → Sto → SOut) : (Out.ok a S).go env f = f a S := rfl
@[simp] theorem Out.go_ex {α : Type} (x : Exn) (S : Sto) (env : Env) (f : α → Sto → SOut) : (Out.ex x S : Out α).go env f = .ex x env S := rfl
@[simp] theorem Out.go_bad {α : Type} (env : Env) (f : α → Sto → SOut) : (Out.bad : Out α).go env f = .bad := rfl
/-- while: at most n turns -/
def whlO (t : Env → Sto → Out Bool) (b : Env → Sto → SOut) : Nat → Env → Sto → SOut
  | 0, _, _ => .bad
  | n + 1, env, S => (t env S).go env fun k S => if k = true then match b env S with
      | .nx env S => whlO t b n env S
      | .ct env S => whlO t b n env S
      | .bk env S => .nx env S
      | o => o
    else .nx env S
/-- for: k turns are left, i is the next -/
def forO (s : Src) (b : D → Env → Sto → SOut) : Nat → Nat → Env → Sto → SOut
  | 0, _, env, S => if s.fin S = true then .nx env S else .bad
  | k + 1, i, env, S => match s.at S i with
    | some d => match b d env S with
      | .nx env S => forO s b k (i + 1) env S
      | .ct env S => forO s b k (i + 1) env S
      | .bk env S => .nx env S
      | o => o
    | none => .bad
def setO (t : T) (d : D) (env : Env) (k : Env → SOut) : SOut := match setT t d env with
  | some env' => k env'
  | none => .bad
/-- o op= e -/
def augD : Bop → D → D → Sto → Out D
  | .add, .int i, .int j, S => .ok (.int (i + j)) S
  | .sub, .int i, .int j, S => .ok (.int (i - j)) S
  | .add, .str a, .str b, S => if a.length + b.length ≤ LEN then .ok (.str (a ++ b)) S else .bad
  | _, _, _, _ => .bad
mutual
def exS (c : Cfg) (W : Nat) : St → Env → Sto → SOut
  | .asg t e, env, S => (evE c e env S).go env fun d S => setO t d env fun env => .nx env S
  | .setIx o i e, env, S => (evE c e env S).go env fun v S => (evE c o env S).go env fun x S => (evE c i env S).go env fun y S => match setIx x y v S with
    | some S => .nx env S
    | none => .bad
  | .aug i o e, env, S => match env[i]? with
    | some (some x) => (evE c e env S).go env fun y S => (augD o x y S).go env fun z S => .nx (env.set i (some z)) S
    | _ => .bad
  | .expr e, env, S => (evE c e env S).go env fun _ S => .nx env S
  | .ret e, env, S => (evE c e env S).go env fun d S => .rt d S
  | .retN, _, S => .rt .non S
  | .ite t a b, env, S => (evQ c t env S).go env fun k S => if k = true then exB c W a env S else exB c W b env S
  | .whl t b, env, S => whlO (evQ c t) (exB c W b) W env S
  | .for_ t i b, env, S => (evI c i env S).go env fun s S => if s.len < LEN then forO s (fun d env S => setO t d env fun env => exB c W b env S) s.len 0 env S else .bad
  | .brk, env, S => .bk env S
  | .cnt, env, S => .ct env S
  | .pas, env, S => .nx env S
  | .never, _, _ => .bad
  | .raise_ cl a, env, S => if 3 ≤ c.lv then (evA c a env S).go env fun ds S => match mkExn cl ds with
    | some x => .ex x env S
    | none => .bad
    else .bad
  | .try_ b hs, env, S => match exB c W b env S with
    | .ex x env S => (match hdF x hs with
      | some e => (match hdV x e with
        | some d => .rt d S
        | none => .bad)
      | none => .ex x env S)
    | o => o
def exB (c : Cfg) (W : Nat) : B → Env → Sto → SOut
  | .nil, env, S => .nx env S
  | .cons s b, env, S => match exS c W s env S with
    | .nx env S => exB c W b env S
    | o => o
end

/-! ### defs -/
structure Fc where
  names : List Str
  np : Nat
  dfl : List D
  body : B
structure Tab where
  fns : List (Str × Fc)
  G : Str → Option D
  excs : List Str := []
  lam : Bool := false
def Tab.get (T : Tab) (f : Str) : Option Fc := T.fns.lookup f
def start (fc : Fc) (ds : List D) : Env := ds.map some ++ List.replicate (fc.names.length - ds.length) none
def fill (fc : Fc) (ds : List D) : List D := ds ++ fc.dfl.drop (fc.dfl.length - (fc.np - ds.length))
def SOut.out : SOut → Out D
  | .nx _ S => .ok .non S
  | .rt d S => .ok d S
  | .ex x _ S => .ex x S
  | _ => .bad
def runB (T : Tab) (W : Nat) (c : Cfg) (f : Str) (ds : List D) (S : Sto) : Out D := match T.get f with
  | some fc => if (fill fc ds).length = fc.np then (exB c W fc.body (start fc (fill fc ds)) S).out else .bad
  | none => .bad
/-- the calls below level 90, where no lambda is tried -/
def runF0 (T : Tab) (W : Nat) : Nat → Str → List D → Sto → Out D
  | 0, _, _, _ => .bad
  | k + 1, f, ds, S => runB T W (.mk (runF0 T W k) T.G k none) f ds S
/-- the calls from level 90 on -/
def runG (T : Tab) (W : Nat) : Nat → Str → List D → Sto → Out D
  | 0 => runF0 T W 90
  | i + 1 => runB T W (.mk (runG T W i) T.G (90 + i) (if T.lam = true then some (.mk (runF0 T W 89) T.G 89 none) else none))
def runF (T : Tab) (W : Nat) (k : Nat) : Str → List D → Sto → Out D := if k ≤ 90 then runF0 T W k else runG T W (k - 90)
def lowOf (T : Tab) (W k : Nat) : Option Cfg := if 90 ≤ k then (if T.lam = true then some (.mk (runF T W 89) T.G 89 none) else none) else none
def cfg (T : Tab) (W k : Nat) : Cfg := .mk (runF T W k) T.G k (lowOf T W k)
theorem runF_succ (T : Tab) (W k : Nat) : runF T W (k + 1) = runB T W (cfg T W k) := by
  unfold cfg lowOf
  by_cases h : k + 1 ≤ 90
  · have h1 : k ≤ 90 := by omega
    have h2 : ¬ 90 ≤ k := by omega
    unfold runF
    rw [if_pos h, if_pos h1, if_neg h2]
    rfl
  · have h2 : 90 ≤ k := by omega
    obtain ⟨i, rfl⟩ : ∃ i, k = 90 + i := ⟨k - 90, by omega⟩
    have e1 : runF T W 89 = runF0 T W 89 := if_pos (by decide)
    have e2 : runF T W (90 + i) = runG T W i := by
      unfold runF
      cases i with
      | zero => exact if_pos (by decide)
      | succ i => rw [if_neg (by omega)]; congr 1; omega
    rw [if_pos h2, e1, e2]
    unfold runF
    rw [if_neg h, show 90 + i + 1 - 90 = i + 1 by omega]
    rfl
theorem runF_zero (T : Tab) (W : Nat) (f : Str) (ds : List D) (S : Sto) : runF T W 0 f ds S = .bad := rfl
def FR.names : FR → List Str
  | .at_ n => [n]
  | .non => []
  | .ite _ a b => a.names ++ b.names
end DI

/-! DI2: what stands for what in a heap; the combinators. -/
namespace DI
open PySem PySem.Spec PyProof.Rows L2

/-- a list that is never written: frozen, or an object of the module -/
def SqF (K : PySem.W.Frag) (H : Hp) (a : Addr) (xs : List V) : Prop :=
  (∃ o, H a = some (.frz o (.lst xs))) ∨ ∃ (o : Obj) (its : Array Value) (n : Nat), K.lookup a = some o ∧ o.cls = .type "list" ∧ o.dict = none ∧ o.data = .seq its n ∧ its.size ≤ sizeLine ∧ Vals xs its.toList
theorem SqF.sq {K : PySem.W.Frag} {H : Hp} {a : Addr} {xs : List V} (h : SqF K H a xs) : SqL K H a xs := h.elim (fun h => .inl (.inr h)) .inr
/-- what never changes -/
inductive Cn where
  | tup (vs : List V) | kls (vs : List V)
def Cst (K : PySem.W.Frag) (H : Hp) (a : Addr) : Cn → Prop
  | .tup vs => SqT K H a vs
  | .kls vs => SqF K H a vs
def Imm (u : HO) : Prop := (∃ xs, u = .tup xs) ∨ ∃ o x, u = .frz o x
theorem Cst.keep {K : PySem.W.Frag} {H H' : Hp} {a : Addr} {c : Cn} (h : Cst K H a c) (k : ∀ u, H a = some u → Imm u → H' a = some u) : Cst K H' a c := by
  cases c with
  | tup vs =>
    rcases h with (h | ⟨o, h⟩) | h
    · exact .inl (.inl (k _ h (.inl ⟨_, rfl⟩)))
    · exact .inl (.inr ⟨o, k _ h (.inr ⟨_, _, rfl⟩)⟩)
    · exact .inr h
  | kls vs =>
    rcases h with ⟨o, h⟩ | h
    · exact .inl ⟨o, k _ h (.inr ⟨_, _, rfl⟩)⟩
    · exact .inr h
theorem Imm.lst {vs : List V} (h : Imm (.lst vs)) : False := by
  rcases h with ⟨_, h⟩ | ⟨_, _, h⟩ <;> cases h

mutual
inductive Rep (K : PySem.W.Frag) (as : List Addr) (H : Hp) : V → D → Prop
  | non : Rep K as H .non .non
  | bl (b : Bool) : Rep K as H (.bl b) (.bl b)
  | int (i : Int) : Rep K as H (.int i) (.int i)
  | str (s : Str) : Rep K as H (.str s) (.str s)
  | bty (n : String) : Rep K as H (.ty n) (.bty n)
  | tup {a : Addr} {vs : List V} {ds : List D} : SqT K H a vs → Reps K as H vs ds → Rep K as H (.ref a) (.tup ds)
  | ref {n : Nat} {a : Addr} : as[n]? = some a → Rep K as H (.ref a) (.ref n)
  | kls {a : Addr} {vs : List V} {ds : List D} : SqF K H a vs → Reps K as H vs ds → Rep K as H (.ref a) (.kls ds)
inductive Reps (K : PySem.W.Frag) (as : List Addr) (H : Hp) : List V → List D → Prop
  | nil : Reps K as H [] []
  | cons {v : V} {vs : List V} {d : D} {ds : List D} : Rep K as H v d → Reps K as H vs ds → Reps K as H (v :: vs) (d :: ds)
end

structure Wx (K : PySem.W.Frag) (as : List Addr) (H : Hp) (as' : List Addr) (H' : Hp) : Prop where
  pre : as <+: as'
  new : ∀ a ∈ as', a ∈ as ∨ ∀ o, H a = some o → ∃ ps, o = .tbl ps
  keep : ∀ b o, H b = some o → b ∉ as → (∀ ps, o ≠ .tbl ps) → H' b = some o
  csts : ∀ a c, Cst K H a c → Cst K H' a c
theorem Wx.tups {K : PySem.W.Frag} {as as' : List Addr} {H H' : Hp} (w : Wx K as H as' H') (a : Addr) (xs : List V) (h : SqT K H a xs) : SqT K H' a xs := w.csts a (.tup xs) h
theorem Wx.klss {K : PySem.W.Frag} {as as' : List Addr} {H H' : Hp} (w : Wx K as H as' H') (a : Addr) (xs : List V) (h : SqF K H a xs) : SqF K H' a xs := w.csts a (.kls xs) h

section
variable {K : PySem.W.Frag} {as as' as'' : List Addr} {H H' H'' : Hp}
theorem Wx.refl (K : PySem.W.Frag) (as : List Addr) (H : Hp) : Wx K as H as H := ⟨List.prefix_refl _, fun _ h => .inl h, fun _ _ h _ _ => h, fun _ _ h => h⟩
theorem Wx.at (w : Wx K as H as' H') {n : Nat} {a : Addr} (h : as[n]? = some a) : as'[n]? = some a := by
  obtain ⟨t, rfl⟩ := w.pre
  exact List.getElem?_append_left (List.getElem?_eq_some_iff.mp h).1 ▸ h
theorem Wx.trans (w : Wx K as H as' H') (w' : Wx K as' H' as'' H'') : Wx K as H as'' H'' where
  pre := w.pre.trans w'.pre
  new := fun a h => by
    by_cases ha : a ∈ as
    · exact .inl ha
    · right
      intro o e
      rcases w'.new a h with h | h
      · exact (w.new a h).resolve_left ha o e
      · by_cases ht : ∃ ps, o = .tbl ps
        · exact ht
        · exact h o (w.keep a o e ha (fun ps z => ht ⟨ps, z⟩))
  keep := fun b o h hb ht => by
    refine w'.keep b o (w.keep b o h hb ht) (fun hb' => ?_) ht
    rcases w.new b hb' with z | z
    · exact hb z
    · obtain ⟨ps, e⟩ := z o h
      exact ht ps e
  csts := fun a xs h => w'.csts a xs (w.csts a xs h)
mutual
theorem Rep.mono (w : Wx K as H as' H') : ∀ {v : V} {d : D}, Rep K as H v d → Rep K as' H' v d
  | _, _, .non => .non
  | _, _, .bl b => .bl b
  | _, _, .int b => .int b
  | _, _, .str b => .str b
  | _, _, .bty b => .bty b
  | _, _, .tup h r => .tup (w.tups _ _ h) (Reps.mono w r)
  | _, _, .kls h r => .kls (w.klss _ _ h) (Reps.mono w r)
  | _, _, .ref h => .ref (w.at h)
theorem Reps.mono (w : Wx K as H as' H') : ∀ {v : List V} {d : List D}, Reps K as H v d → Reps K as' H' v d
  | _, _, .nil => .nil
  | _, _, .cons h r => .cons (Rep.mono w h) (Reps.mono w r)
end
theorem Reps.length : ∀ {vs : List V} {ds : List D}, Reps K as H vs ds → vs.length = ds.length
  | _, _, .nil => rfl
  | _, _, .cons _ r => congrArg (· + 1) r.length
theorem Reps.get : ∀ {vs : List V} {ds : List D} {i : Nat} {v : V}, Reps K as H vs ds → vs[i]? = some v → ∃ d, ds[i]? = some d ∧ Rep K as H v d
  | _, _, _, _, .nil, e => by simp at e
  | _, _, 0, _, .cons r _, e => by simp at e; subst e; exact ⟨_, rfl, r⟩
  | _, _, i + 1, x, .cons _ t, e => by
    obtain ⟨u, h1, h2⟩ := Reps.get (i := i) (v := x) t (by simpa using e)
    exact ⟨u, by simpa using h1, h2⟩
theorem Reps.getD : ∀ {vs : List V} {ds : List D} {i : Nat} {d : D}, Reps K as H vs ds → ds[i]? = some d → ∃ v, vs[i]? = some v ∧ Rep K as H v d
  | _, _, _, _, .nil, e => by simp at e
  | _, _, 0, _, .cons r _, e => by simp at e; subst e; exact ⟨_, rfl, r⟩
  | _, _, i + 1, x, .cons _ t, e => by
    obtain ⟨u, h1, h2⟩ := Reps.getD (i := i) (d := x) t (by simpa using e)
    exact ⟨u, by simpa using h1, h2⟩
theorem Reps.append : ∀ {xs ys : List V} {us ws : List D}, Reps K as H xs us → Reps K as H ys ws → Reps K as H (xs ++ ys) (us ++ ws)
  | _, _, _, _, .nil, s => s
  | _, _, _, _, .cons r t, s => .cons r (Reps.append t s)
theorem Reps.set {v : V} {d : D} (r : Rep K as H v d) : ∀ {xs : List V} {us : List D} (i : Nat), Reps K as H xs us → Reps K as H (xs.set i v) (us.set i d)
  | _, _, _, .nil => .nil
  | _, _, 0, .cons _ t => .cons r t
  | _, _, i + 1, .cons q t => .cons q (Reps.set r i t)
theorem Reps.take : ∀ {xs : List V} {us : List D} (n : Nat), Reps K as H xs us → Reps K as H (xs.take n) (us.take n)
  | _, _, 0, _ => .nil
  | _, _, _ + 1, .nil => .nil
  | _, _, n + 1, .cons r t => .cons r (Reps.take n t)
theorem Reps.drop : ∀ {xs : List V} {us : List D} (n : Nat), Reps K as H xs us → Reps K as H (xs.drop n) (us.drop n)
  | _, _, 0, r => r
  | _, _, _ + 1, .nil => .nil
  | _, _, n + 1, .cons _ t => Reps.drop n t
theorem Reps.reverse : ∀ {xs : List V} {us : List D}, Reps K as H xs us → Reps K as H xs.reverse us.reverse
  | _, _, .nil => .nil
  | _, _, .cons r t => by rw [List.reverse_cons, List.reverse_cons]; exact Reps.append (Reps.reverse t) (.cons r .nil)
theorem Reps.dropLast {xs : List V} {us : List D} (r : Reps K as H xs us) : Reps K as H xs.dropLast us.dropLast := by
  rw [List.dropLast_eq_take, List.dropLast_eq_take, r.length]
  exact r.take _
theorem Reps.rep {xs : List V} {us : List D} (r : Reps K as H xs us) : ∀ n : Nat, Reps K as H (List.replicate n xs).flatten (List.replicate n us).flatten
  | 0 => .nil
  | n + 1 => by
    rw [List.replicate_succ, List.replicate_succ, List.flatten_cons, List.flatten_cons]
    exact r.append (Reps.rep r n)
theorem Reps.isEmpty {xs : List V} {us : List D} (r : Reps K as H xs us) : xs.isEmpty = us.isEmpty := by cases r <;> rfl
theorem Reps.nil_iff {xs : List V} {us : List D} (r : Reps K as H xs us) : xs = [] ↔ us = [] := by cases r <;> simp
theorem Reps.atI {xs : List V} {us : List D} {i : Int} {d : D} (r : Reps K as H xs us) (h : L2.atI us i = some d) : ∃ v, L2.atI xs i = some v ∧ Rep K as H v d := by
  unfold L2.atI at h ⊢
  rw [r.length]
  cases e : ixN us.length i with
  | none => rw [e] at h; cases h
  | some j =>
    rw [e] at h
    exact r.getD h

/-! ### the tables of code objects -/
def tabsOf (K : PySem.W.Frag) : List (Addr × Str) := match K.lookup mainGlobals with
  | some ⟨_, _, .dict es _, _⟩ => es.toList.filterMap fun e => match e.val with
    | .ref f => (match K.lookup f with
      | some ⟨_, _, .func fd, _⟩ => (match fd.code with
        | .ref c => some (He.tabOf K c, fd.qualname ++ ".<locals>." ++ "<lambda>")
        | _ => none)
      | _ => none)
    | _ => none
  | _ => []
theorem codeO_lst {c : Addr} {q : Str} {vs : List V} : LamX.CodeO c q ≠ .lst vs := fun z => by
  unfold LamX.CodeO at z
  cases z
theorem Tabs.upd_lst {TS : List (Addr × Str)} {p : Addr} {vs : List V} {o : HO} (t : LamX.Tabs TS H) (h : H p = some (.lst vs)) : LamX.Tabs TS (upd H p o) := fun q hq => by
  obtain ⟨ps, h1, h2, h3⟩ := t q hq
  refine ⟨ps, ?_, h2, fun pos cv hc => ?_⟩
  · rw [upd_ne fun z => by rw [z, h] at h1; cases h1]; exact h1
  · obtain ⟨c, e1, e2⟩ := h3 pos cv hc
    refine ⟨c, e1, ?_⟩
    rw [upd_ne fun z => by rw [z, h] at e2; exact codeO_lst (Option.some.inj e2).symm]
    exact e2
/-- what stands at the address of an object -/
def ObR (K : PySem.W.Frag) (as : List Addr) (H : Hp) (a : Addr) : SO → Prop
  | .lst ds => ∃ vs, H a = some (.lst vs) ∧ Reps K as H vs ds
  | .rol ds => ∃ vs o, H a = some (.frz o (.lst vs)) ∧ Reps K as H vs ds
  | .dct _ => False
  | .ins _ _ => False
structure StOk (K : PySem.W.Frag) (as : List Addr) (H : Hp) (S : Sto) : Prop where
  len : as.length = S.length
  nd : as.Nodup
  ob : ∀ (n : Nat) (o : SO), S[n]? = some o → ∃ a : Addr, as[n]? = some a ∧ ObR K as H a o
  tabs : LamX.Tabs (tabsOf K) H
theorem StOk.at {S : Sto} (s : StOk K as H S) {n : Nat} {a : Addr} {o : SO} (h : as[n]? = some a) (e : S[n]? = some o) : ObR K as H a o := by
  obtain ⟨b, hb, r⟩ := s.ob n o e
  rw [h] at hb; cases hb; exact r
/-- a list that is read -/
theorem StOk.seq {S : Sto} (s : StOk K as H S) {n : Nat} {a : Addr} {ds : List D} (h : as[n]? = some a) (e : S[n]? = some (.lst ds) ∨ S[n]? = some (.rol ds)) : ∃ vs, SqL K H a vs ∧ Reps K as H vs ds := by
  rcases e with e | e
  · obtain ⟨vs, h1, h2⟩ := s.at h e
    exact ⟨vs, .inl (.inl h1), h2⟩
  · obtain ⟨vs, o, h1, h2⟩ := s.at h e
    exact ⟨vs, .inl (.inr ⟨o, h1⟩), h2⟩
theorem StOk.mem {S : Sto} (s : StOk K as H S) {a : Addr} (h : a ∈ as) : ∃ (n : Nat) (o : SO), as[n]? = some a ∧ S[n]? = some o ∧ ObR K as H a o := by
  obtain ⟨n, hn, e⟩ := List.mem_iff_getElem.mp h
  have hs : n < S.length := by rw [← s.len]; exact hn
  have h1 : as[n]? = some a := by rw [List.getElem?_eq_getElem hn, e]
  have h2 : S[n]? = some S[n] := List.getElem?_eq_getElem hs
  exact ⟨n, _, h1, h2, s.at h1 h2⟩
theorem ObR.there {a : Addr} {o : SO} (r : ObR K as H a o) : ∃ u, H a = some u := by
  cases o with
  | lst ds => obtain ⟨vs, h, _⟩ := r; exact ⟨_, h⟩
  | rol ds => obtain ⟨vs, o, h, _⟩ := r; exact ⟨_, h⟩
  | dct kvs => exact r.elim
  | ins c fs => exact r.elim
theorem StOk.fresh {S : Sto} (s : StOk K as H S) {p : Addr} (h : H p = none) : p ∉ as := fun hp => by
  obtain ⟨n, o, _, _, r⟩ := s.mem hp
  obtain ⟨u, e⟩ := r.there
  rw [h] at e; cases e
/-- an object seen from a later heap that keeps it -/
theorem ObR.mono {a : Addr} {o : SO} (w : Wx K as H as' H') (k : ∀ u, H a = some u → H' a = some u) (r : ObR K as H a o) : ObR K as' H' a o := by
  cases o with
  | lst ds => obtain ⟨vs, h, q⟩ := r; exact ⟨vs, k _ h, q.mono w⟩
  | rol ds => obtain ⟨vs, o, h, q⟩ := r; exact ⟨vs, o, k _ h, q.mono w⟩
  | dct kvs => exact r.elim
  | ins c fs => exact r.elim
theorem Cst.upd_new {p : Addr} {o : HO} (h : H p = none) {a : Addr} {c : Cn} (q : Cst K H a c) : Cst K (upd H p o) a c := q.keep fun u e _ => by rw [upd_ne (ne_of_none e h)]; exact e
theorem Wx.newT {p : Addr} {o : HO} (h : H p = none) : Wx K as H as (upd H p o) := ⟨List.prefix_refl _, fun _ h => .inl h, fun b o e _ _ => by rw [upd_ne (ne_of_none e h)]; exact e, fun _ _ q => Cst.upd_new h q⟩
theorem Wx.newO {p : Addr} {o : HO} (h : H p = none) : Wx K as H (as ++ [p]) (upd H p o) := ⟨List.prefix_append _ _, fun a ha => by
    rcases List.mem_append.mp ha with z | z
    · exact .inl z
    · have e : a = p := by simpa using z
      rw [e]; exact .inr (fun o z => by rw [h] at z; cases z), fun b o e _ _ => by rw [upd_ne (ne_of_none e h)]; exact e, fun _ _ q => Cst.upd_new h q⟩
theorem StOk.newT {S : Sto} (s : StOk K as H S) {p : Addr} {o : HO} (h : H p = none) : StOk K as (upd H p o) S := ⟨s.len, s.nd, fun n u e => by
  obtain ⟨a, ha, r⟩ := s.ob n u e
  exact ⟨a, ha, r.mono (Wx.newT h) fun v e => by rw [upd_ne (ne_of_none e h)]; exact e⟩, s.tabs.ext fun b o e => by rw [upd_ne (ne_of_none e h)]; exact e⟩
theorem StOk.newL {S : Sto} (s : StOk K as H S) {p : Addr} {vs : List V} {ds : List D} (h : H p = none) (r : Reps K as H vs ds) : StOk K (as ++ [p]) (upd H p (.lst vs)) (S ++ [.lst ds]) where
  tabs := s.tabs.ext fun b o e => by rw [upd_ne (ne_of_none e h)]; exact e
  len := by simp [s.len]
  nd := List.nodup_append.mpr ⟨s.nd, by simp, fun a ha b hb => by
    have e : b = p := by simpa using hb
    rw [e]; intro z; subst z; exact s.fresh h ha⟩
  ob := fun n u e => by
    by_cases hn : n < S.length
    · rw [List.getElem?_append_left hn] at e
      obtain ⟨a, ha, q⟩ := s.ob n u e
      exact ⟨a, by rw [List.getElem?_append_left (by rw [s.len]; exact hn)]; exact ha, q.mono (Wx.newO h) fun v e => by rw [upd_ne (ne_of_none e h)]; exact e⟩
    · rw [List.getElem?_append_right (by omega)] at e
      have e0 : n - S.length = 0 := by
        have := (List.getElem?_eq_some_iff.mp e).1
        simp at this; omega
      rw [e0] at e
      have e1 : SO.lst ds = u := by simpa using e
      subst e1
      refine ⟨p, by rw [List.getElem?_append_right (by rw [s.len]; omega), s.len, e0]; rfl, vs, upd_same, r.mono (Wx.newO h)⟩
theorem Rep.newL {S : Sto} (s : StOk K as H S) {p : Addr} {H' : Hp} : Rep K (as ++ [p]) H' (.ref p) (.ref S.length) := .ref (by rw [← s.len]; simp)
/-- a list is written -/
theorem Cst.upd_lst {p : Addr} {o : HO} {vs : List V} (h : H p = some (.lst vs)) {a : Addr} {c : Cn} (q : Cst K H a c) : Cst K (upd H p o) a c := q.keep fun u e i => by
  rw [upd_ne fun z => by rw [z, h] at e; cases e; exact i.lst]; exact e
theorem Wx.write {p : Addr} {o : HO} {vs : List V} (h : H p = some (.lst vs)) (hp : p ∈ as) : Wx K as H as (upd H p o) := ⟨List.prefix_refl _, fun _ h => .inl h, fun b u e hb _ => by
  rw [upd_ne (fun z => hb (by rw [z]; exact hp))]; exact e, fun _ _ q => Cst.upd_lst h q⟩
theorem StOk.write {S : Sto} (s : StOk K as H S) {n : Nat} {p : Addr} {vs vs' : List V} {ds' : List D} (ha : as[n]? = some p) (h : H p = some (.lst vs)) (r : Reps K as H vs' ds') : StOk K as (upd H p (.lst vs')) (S.set n (.lst ds')) where
  tabs := Tabs.upd_lst s.tabs h
  len := by simp [s.len]
  nd := s.nd
  ob := fun m u e => by
    have hp : p ∈ as := List.mem_of_getElem? ha
    have w : Wx K as H as (upd H p (.lst vs')) := Wx.write h hp
    by_cases hm : m = n
    · subst hm
      have hl : m < S.length := by rw [← s.len]; exact (List.getElem?_eq_some_iff.mp ha).1
      rw [List.getElem?_set_self hl] at e
      cases e
      exact ⟨p, ha, vs', upd_same, r.mono w⟩
    · rw [List.getElem?_set_ne (Ne.symm hm)] at e
      obtain ⟨a, h1, q⟩ := s.ob m u e
      refine ⟨a, h1, q.mono w fun v e => ?_⟩
      rw [upd_ne]
      · exact e
      · intro z
        subst z
        exact hm (nodup_ix_addr s.nd h1 ha)
where
  nodup_ix_addr {l : List Addr} (hN : l.Nodup) {i j : Nat} {x : Addr} (a : l[i]? = some x) (b : l[j]? = some x) : i = j := by
    obtain ⟨h1, e1⟩ := List.getElem?_eq_some_iff.mp a
    obtain ⟨h2, e2⟩ := List.getElem?_eq_some_iff.mp b
    exact (List.getElem_inj hN).mp (e1.trans e2.symm)

/-- slots -/
structure LR (K : PySem.W.Frag) (as : List Addr) (H : Hp) (σ : L2.St) (env : Env) : Prop where
  len : σ.length = env.length
  at_ : ∀ (i : Nat) (d : D), env[i]? = some (some d) → ∃ v : V, σ[i]? = some (some v) ∧ Rep K as H v d
theorem LR.mono {σ : L2.St} {env : Env} (w : Wx K as H as' H') (l : LR K as H σ env) : LR K as' H' σ env := ⟨l.len, fun i d e => by
  obtain ⟨v, h, r⟩ := l.at_ i d e
  exact ⟨v, h, r.mono w⟩⟩
theorem LR.set {σ : L2.St} {env : Env} {v : V} {d : D} (l : LR K as H σ env) (i : Nat) (r : Rep K as H v d) : LR K as H (σ.set i (some v)) (env.set i (some d)) := ⟨by simp [l.len], fun j d' e => by
  by_cases hj : j = i
  · subst hj
    have hl : j < env.length := by have := (List.getElem?_eq_some_iff.mp e).1; simpa using this
    rw [List.getElem?_set_self hl] at e
    cases e
    exact ⟨v, by rw [List.getElem?_set_self (by rw [l.len]; exact hl)], r⟩
  · rw [List.getElem?_set_ne (Ne.symm hj)] at e ⊢
    exact l.at_ j d' e⟩
theorem LR.wipe {σ : L2.St} {env : Env} (l : LR K as H σ env) : ∀ vs : List Nat, LR K as H (L2.wipe σ vs) (wipeE env vs)
  | [] => l
  | v :: vs => by
    have ih := LR.wipe l vs
    refine ⟨by show ((L2.wipe σ vs).set v none).length = ((wipeE env vs).set v none).length; simp [ih.len], fun j d e => ?_⟩
    have e : ((wipeE env vs).set v none)[j]? = some (some d) := e
    show ∃ w, ((L2.wipe σ vs).set v none)[j]? = some (some w) ∧ _
    by_cases hj : j = v
    · subst hj
      have hl : j < (wipeE env vs).length := by have := (List.getElem?_eq_some_iff.mp e).1; simpa using this
      rw [List.getElem?_set_self hl] at e; cases e
    · rw [List.getElem?_set_ne (Ne.symm hj)] at e ⊢
      exact ih.at_ j d e

/-! ### exceptions -/
/-- the class is known to the module -/
def known (K : PySem.W.Frag) (x : Str) : Bool := He.eqO (PySem.W.nsIn K mainGlobals x) (some (some (.ref (He.ga K x))))
/-- what is known of an exception's class -/
structure ClsOk (K : PySem.W.Frag) (c : Str) : Prop where
  xf : XfC K (He.ga K c)
  no : ∀ n ∈ excFld, PySem.W.findIn K (.ref (He.ga K c)) n = some none
  exm : ∀ h ∈ excBase :: excTab.map (·.1), known K h = true → PySem.W.exmOne K (.ref (He.ga K c)) (.ref (He.ga K h)) = some (catches h c)
/-- an exception: its class, its own dict -/
def ExR (K : PySem.W.Frag) (as : List Addr) (H : Hp) (cls : Value) (dx : Option Addr) (x : Exn) : Prop := ∃ (d : Addr) (fs : List (Str × V)), cls = .ref (He.ga K x.cls) ∧ dx = some d ∧ H d = some (.xd fs) ∧ ClsOk K x.cls ∧
  fs.map (·.1) = x.fs.map (·.1) ∧ Reps K as H (fs.map (·.2)) (x.fs.map (·.2))
theorem flds_of {K : PySem.W.Frag} {as : List Addr} {H : Hp} {n : Str} {d : D} : ∀ {fs : List (Str × V)} {xs : List (Str × D)}, fs.map (·.1) = xs.map (·.1) → Reps K as H (fs.map (·.2)) (xs.map (·.2)) → xs.lookup n = some d → ∃ v, fs.lookup n = some v ∧ Rep K as H v d
  | [], [], _, _, h => by cases h
  | [], _ :: _, e, _, _ => by cases e
  | _ :: _, [], e, _, _ => by cases e
  | (f, v) :: fs, (x, u) :: xs, e, r, h => by
    have e1 : f = x := (List.cons.inj e).1
    have e2 := (List.cons.inj e).2
    subst e1
    cases r with
    | cons r1 r2 =>
      have h : (match n == f with | true => some u | false => xs.lookup n) = some d := h
      show ∃ w, (match n == f with | true => some v | false => fs.lookup n) = some w ∧ _
      cases q : n == f with
      | true => rw [q] at h; cases h; exact ⟨v, rfl, r1⟩
      | false => rw [q] at h; exact flds_of e2 r2 h

/-! ### what is wanted behind an evaluation -/
variable {W : WX} {σ : L2.St} {α β γ δ : Type}
def PostG (K : PySem.W.Frag) (W : WX) (R : List Addr → Hp → β → α → Prop) (as : List Addr) (H : Hp) (σ : L2.St) (o : Out α) (Q : β → Hp → Prop) : Prop := match o with
  | .ok d S => ∀ v as' H', Wx K as H as' H' → StOk K as' H' S → R as' H' v d → Q v H'
  | .ex x S => ∀ cls dx as' H', Wx K as H as' H' → StOk K as' H' S → ExR K as' H' cls dx x → W cls dx σ H'
  | .bad => False
theorem PostG.mono {R : List Addr → Hp → β → α → Prop} {o : Out α} {Q : β → Hp → Prop} (w : Wx K as H as' H') (h : PostG K W R as H σ o Q) : PostG K W R as' H' σ o Q := by
  cases o with
  | ok d S => exact fun v as2 H2 w2 s r => h v as2 H2 (w.trans w2) s r
  | ex x S => exact fun cls dx as2 H2 w2 s r => h cls dx as2 H2 (w.trans w2) s r
  | bad => exact h
theorem PostG.bind {R : List Addr → Hp → β → α → Prop} {R' : List Addr → Hp → δ → γ → Prop} {o : Out α} {f : α → Sto → Out γ} {Q : δ → Hp → Prop} {Q1 : β → Hp → Prop} (h : PostG K W R' as H σ (o.bind f) Q)
    (k : ∀ a S b as' H', Wx K as H as' H' → StOk K as' H' S → R as' H' b a → PostG K W R' as' H' σ (f a S) Q → Q1 b H') : PostG K W R as H σ o Q1 := by
  cases o with
  | ok a S => exact fun b as' H' w s r => k a S b as' H' w s r (PostG.mono w h)
  | ex x S => exact h
  | bad => exact h
theorem PostG.here {R : List Addr → Hp → β → α → Prop} {d : α} {S : Sto} {Q : β → Hp → Prop} {v : β} (h : PostG K W R as H σ (.ok d S) Q) (s : StOk K as H S) (r : R as H v d) : Q v H := h v as H (Wx.refl _ _ _) s r
abbrev RE (K : PySem.W.Frag) : List Addr → Hp → V → D → Prop := fun as H => Rep K as H
abbrev RA (K : PySem.W.Frag) : List Addr → Hp → List V → List D → Prop := fun as H => Reps K as H
abbrev RT : List Addr → Hp → Bool → Bool → Prop := fun _ _ b k => b = k
/-- the reading of a meaning -/
def tG (K : PySem.W.Frag) (W : WX) (R : List Addr → Hp → β → α → Prop) (m : Env → Sto → Out α) : L2.St → Hp → (β → Hp → Prop) → Prop := fun σ H Q => ∃ env as S, LR K as H σ env ∧ StOk K as H S ∧ PostG K W R as H σ (m env S) Q
abbrev tE (K : PySem.W.Frag) (W : WX) (m : Env → Sto → Out D) : TE := tG K W (RE K) m
abbrev tQ (K : PySem.W.Frag) (W : WX) (m : Env → Sto → Out Bool) : TT := tG K W RT m
abbrev tA (K : PySem.W.Frag) (W : WX) (m : Env → Sto → Out (List D)) : TA := tG K W (RA K) m
end

section
variable {X : Cx} {K : PySem.W.Frag} {W : WX} {e a b : Expr} {pos : Pos}
theorem impE {t t' : TE} (h : PE X e t) (k : ∀ σ H Q, t' σ H Q → t σ H Q) : PE X e t' := ⟨fun pins s σ H Q I q => h.run pins s σ H Q I (k _ _ _ q)⟩
theorem impT {t t' : TT} (h : PT X e t) (k : ∀ σ H Q, t' σ H Q → t σ H Q) : PT X e t' := ⟨fun pins s σ H Q I q => h.run pins s σ H Q I (k _ _ _ q)⟩
theorem impW {t t' : TT} (h : PW X e t) (k : ∀ σ H Q, t' σ H Q → t σ H Q) : PW X e t' := ⟨fun wh pins s σ H Q I q => h.run wh pins s σ H Q I (k _ _ _ q)⟩
theorem impA {es : List Expr} {t t' : TA} (h : PA X es t) (k : ∀ σ H Q, t' σ H Q → t σ H Q) : PA X es t' := ⟨fun po pins s σ H Q I q => h.run po pins s σ H Q I (k _ _ _ q)⟩
theorem impS {st : Stmt} {t t' : TS} (h : PS X st t) (k : ∀ D σ H, t' D σ H → t D σ H) : PS X st t' := ⟨fun pins s σ H D I q => h.run pins s σ H D I (k _ _ _ q)⟩
theorem impB {st : List Stmt} {t t' : TS} (h : PSs X st t) (k : ∀ D σ H, t' D σ H → t D σ H) : PSs X st t' := ⟨fun pins s σ H D I q => h.run pins s σ H D I (k _ _ _ q)⟩
theorem orOpR {f : Value → Value → Sem Value} {r r' : R2} (h : OpR X f r) (h' : OpR X f r') : OpR X f (fun x y H Q => r x y H Q ∨ r' x y H Q) := fun pins s σ H x y v u Q I rx ry q => q.elim (h pins s σ H x y v u Q I rx ry) (h' pins s σ H x y v u Q I rx ry)
theorem orCallR {f : Value} {r r' : List V → Hp → VK → Prop} (h : CallR X f r) (h' : CallR X f r') : CallR X f (fun x H Q => r x H Q ∨ r' x H Q) := fun pins s σ H x v Q I rx q => q.elim (h pins s σ H x v Q I rx) (h' pins s σ H x v Q I rx)
/-! ### combinators: expressions -/
variable {m m1 m2 m3 : Env → Sto → Out D} {k k1 k2 : Env → Sto → Out Bool}
/-- an operation of two values does what f says -/
def Does2 (K : PySem.W.Frag) (W : WX) (r : R2) (f : D → D → Sto → Out D) : Prop := ∀ (as : List Addr) (H : Hp) (σ : L2.St) (S : Sto) (x y : D) (v u : V) (Q : VK), StOk K as H S → Rep K as H v x → Rep K as H u y → PostG K W (RE K) as H σ (f x y S) Q → r v u H Q
def bind2 (m1 m2 : Env → Sto → Out D) (f : D → D → Sto → Out D) : Env → Sto → Out D := fun env S => (m1 env S).bind fun x S => (m2 env S).bind fun y S => f x y S
theorem tOp_of {r : R2} {f : D → D → Sto → Out D} (d : Does2 K W r f) {σ : L2.St} {H : Hp} {Q : VK} (h : tE K W (bind2 m1 m2 f) σ H Q) : tOp r (tE K W m1) (tE K W m2) σ H Q := by
  obtain ⟨env, as, S, lr, so, po⟩ := h
  exact ⟨env, as, S, lr, so, po.bind fun x S1 v as1 H1 w1 so1 rx po1 => ⟨env, as1, S1, lr.mono w1, so1, po1.bind fun y S2 u as2 H2 w2 so2 ry po2 => d as2 H2 σ S2 x y v u Q so2 (Rep.mono w2 rx) ry po2⟩⟩
theorem si_bin {op : Operator} {r : R2} {f : D → D → Sto → Out D} (ho : OpR X (binaryOp op) r) (d : Does2 K W r f) (ha : PE X a (tE K W m1)) (hb : PE X b (tE K W m2)) : PE X (.BinOp a op b pos) (tE K W (bind2 m1 m2 f)) := impE (pe_op ho ha hb) fun _ _ _ => tOp_of d
theorem si_cmp {op : CmpOp} {r : R2} {f : D → D → Sto → Out D} (ho : OpR X (compareOp op) r) (d : Does2 K W r f) (hm : behindInMarks op b = false) (ha : PE X a (tE K W m1)) (hb : PE X b (tE K W m2)) : PE X (.Compare a [op] [b] pos) (tE K W (bind2 m1 m2 f)) := impE (pe_cmpR ho ha hb hm) fun _ _ _ => tOp_of d
end
end DI

/-! DI3: the operations keep their word. -/
namespace DI
open PySem PySem.Spec PyProof.Rows L2

section
variable {K : PySem.W.Frag} {W : WX} {as : List Addr} {H : Hp} {σ : L2.St} {S : Sto}
theorem len_le {n : Nat} (h : n ≤ LEN) : n ≤ sizeLine := Nat.le_trans h (by rw [sizeLine_eq]; decide)
theorem len_lt {n : Nat} (h : n < LEN) : n < sizeLine := Nat.lt_of_lt_of_le h (by rw [sizeLine_eq]; decide)
theorem len_lt' {n : Nat} (h : n ≤ LEN) : n < sizeLine := Nat.lt_of_le_of_lt h (by rw [sizeLine_eq]; decide)
theorem of_ite {c : Prop} [Decidable c] {α β : Type} {R : List Addr → Hp → β → α → Prop} {o : Out α} {Q : β → Hp → Prop} (h : PostG K W R as H σ (if c then o else .bad) Q) : c ∧ PostG K W R as H σ o Q := by
  by_cases hc : c
  · rw [if_pos hc] at h; exact ⟨hc, h⟩
  · rw [if_neg hc] at h; exact h.elim
/-- a new tuple -/
theorem post_tup {vs : List V} {ds : List D} {Q : VK} (so : StOk K as H S) (r : Reps K as H vs ds) (po : PostG K W (RE K) as H σ (.ok (.tup ds) S) Q) : ∀ p, H p = none → Q (.ref p) (upd H p (.tup vs)) := fun p hp =>
  po (.ref p) as _ (Wx.newT hp) (so.newT hp) (.tup (.inl (.inl upd_same)) (r.mono (Wx.newT hp)))
/-- a new list -/
theorem post_lst {vs : List V} {ds : List D} {Q : VK} (so : StOk K as H S) (r : Reps K as H vs ds) (po : PostG K W (RE K) as H σ (.ok (.ref S.length) (S ++ [.lst ds])) Q) : ∀ p, H p = none → Q (.ref p) (upd H p (.lst vs)) := fun p hp =>
  po (.ref p) _ _ (Wx.newO hp) (so.newL hp r) (Rep.newL so)
theorem lst_of {n : Nat} {a : Addr} {ds : List D} (so : StOk K as H S) (h : as[n]? = some a) (e : S[n]? = some (.lst ds)) : ∃ vs, H a = some (.lst vs) ∧ Reps K as H vs ds := so.at h e

/-! ### arithmetic -/
def rAddR (K : PySem.W.Frag) : R2 := fun x y H Q => rI0 (fun i j => .int (i + j)) x y H Q ∨ ((∃ i j, x = .str i ∧ y = .str j ∧ i.length + j.length ≤ sizeLine ∧ Q (.str (i ++ j)) H) ∨ (rCatA K x y H Q ∨ rCat x y H Q))
theorem or_add {X : Cx} : OpR X (binaryOp .Add) (rAddR X.K) := orOpR op_add (orOpR op_add_str (orOpR op_catA op_cat))
theorem do_add : Does2 K W (rAddR K) (binD .add) := by
  intro as H σ S x y v u Q so rx ry po
  cases rx <;> cases ry <;> try exact (show False from po).elim
  · exact .inl ⟨_, _, rfl, rfl, po.here so (.int _)⟩
  · obtain ⟨hl, po⟩ := of_ite po
    exact .inr (.inl ⟨_, _, rfl, rfl, len_le hl, po.here so (.str _)⟩)
  · rename_i h1 r1 _ _ _ h2 r2
    obtain ⟨hl, po⟩ := of_ite po
    refine .inr (.inr (.inl ⟨_, _, _, _, rfl, rfl, h1, h2, ?_, fun e => ?_, fun e1 e2 => ?_, fun _ _ => post_tup so (r1.append r2) po⟩))
    · rw [r1.length, r2.length]; exact len_le hl
    · have e' := r1.nil_iff.mp e
      subst e'
      exact po.here so (.tup h2 r2)
    · have e' := r2.nil_iff.mp e2
      subst e'
      rw [List.append_nil] at po
      exact po.here so (.tup h1 r1)
  · rename_i n a h1 m b h2
    have po : PostG K W (RE K) as H σ (match S[n]?, S[m]? with
      | some (.lst xs), some (.lst ys) => if xs.length + ys.length ≤ LEN then .ok (.ref S.length) (S ++ [.lst (xs ++ ys)]) else .bad
      | _, _ => .bad) Q := po
    split at po
    · rename_i xs ys e1 e2
      obtain ⟨vs, g1, q1⟩ := lst_of so h1 e1
      obtain ⟨ws, g2, q2⟩ := lst_of so h2 e2
      obtain ⟨hl, po⟩ := of_ite po
      exact .inr (.inr (.inr ⟨_, _, vs, ws, rfl, rfl, g1, g2, by rw [q1.length, q2.length]; exact len_le hl, post_lst so (q1.append q2) po⟩))
    · exact (show False from po).elim
theorem do_sub : Does2 K W (rI0 fun i j => .int (i - j)) (binD .sub) := by
  intro as H σ S x y v u Q so rx ry po
  cases rx <;> cases ry <;> try exact (show False from po).elim
  exact ⟨_, _, rfl, rfl, po.here so (.int _)⟩
def rMulR : R2 := fun x y H Q => rI CMulW (fun i j => .int (i * j)) x y H Q ∨ rRep x y H Q
theorem or_mul {X : Cx} : OpR X (binaryOp .Mult) rMulR := orOpR op_mulW op_rep
theorem do_mul : Does2 K W rMulR (binD .mul) := by
  intro as H σ S x y v u Q so rx ry po
  cases rx <;> cases ry <;> try exact (show False from po).elim
  · obtain ⟨hl, po⟩ := of_ite po
    exact .inl ⟨_, _, rfl, rfl, hl, po.here so (.int _)⟩
  · rename_i n a h1 k
    have po : PostG K W (RE K) as H σ (match S[n]? with
      | some (.lst xs) => if -1000000 ≤ k ∧ k ≤ 1000000 ∧ xs.length * k.toNat ≤ LEN then .ok (.ref S.length) (S ++ [.lst (List.replicate k.toNat xs).flatten]) else .bad
      | _ => .bad) Q := po
    split at po
    · rename_i xs e1
      obtain ⟨vs, g1, q1⟩ := lst_of so h1 e1
      obtain ⟨⟨l1, l2, l3⟩, po⟩ := of_ite po
      exact .inr ⟨_, _, vs, rfl, rfl, g1, by omega, by omega, by rw [q1.length]; exact len_le l3, post_lst so (q1.rep _) po⟩
    · exact (show False from po).elim
def CDivWN (_ j : Int) : Prop := j ≠ 0 ∧ j.natAbs.log2 < 9000
theorem op_fdivWN {X : Cx} : OpR X (binaryOp .FloorDiv) (rI CDivWN fun i j => .int (i.fdiv j)) := opI fun i j _ _ _ _ _ hc q => floordiv_int hc.1 q (.inl (PyProof.noPylong_of_log2 hc.2))
theorem do_fdiv : Does2 K W (rI CDivWN fun i j => .int (i.fdiv j)) (binD .fdiv) := by
  intro as H σ S x y v u Q so rx ry po
  cases rx <;> cases ry <;> try exact (show False from po).elim
  obtain ⟨hl, po⟩ := of_ite po
  exact ⟨_, _, rfl, rfl, hl, po.here so (.int _)⟩
theorem do_mod : Does2 K W (rI (fun _ j => j ≠ 0) fun i j => .int (i.fmod j)) (binD .mod) := by
  intro as H σ S x y v u Q so rx ry po
  cases rx <;> cases ry <;> try exact (show False from po).elim
  obtain ⟨hl, po⟩ := of_ite po
  exact ⟨_, _, rfl, rfl, hl, po.here so (.int _)⟩
theorem do_pow : Does2 K W (rI CPow fun i j => .int (i ^ j.toNat)) (binD .pow) := by
  intro as H σ S x y v u Q so rx ry po
  cases rx <;> cases ry <;> try exact (show False from po).elim
  obtain ⟨hl, po⟩ := of_ite po
  exact ⟨_, _, rfl, rfl, hl, po.here so (.int _)⟩

/-! ### comparisons -/
theorem mapM_cons {α β : Type} {f : α → Option β} {a : α} {l : List α} {bs : List β} (h : (a :: l).mapM f = some bs) : ∃ b r, bs = b :: r ∧ f a = some b ∧ l.mapM f = some r := by
  rw [List.mapM_cons] at h
  cases e : f a with
  | none => rw [e] at h; cases h
  | some b =>
    rw [e] at h
    cases e2 : l.mapM f with
    | none => rw [e2] at h; cases h
    | some r =>
      rw [e2] at h
      exact ⟨b, r, (Option.some.inj h).symm, rfl, rfl⟩
theorem dpAll_of {f : D → Option PyData} (so : StOk K as H S) (ih : ∀ (d : D) (v : V) (p : PyData), Rep K as H v d → f d = some p → Dp K H v p) : ∀ (ds : List D) (vs : List V) (ps : List PyData), Reps K as H vs ds → ds.mapM f = some ps → DpAll K H vs ps
  | _, _, ps, .nil, h => by
    rw [List.mapM_nil] at h
    cases h
    exact .nil
  | _, _, ps, .cons r t, h => by
    obtain ⟨b, q, rfl, e1, e2⟩ := mapM_cons h
    exact .cons (ih _ _ _ r e1) (dpAll_of so ih _ _ _ t e2)
theorem dp_of (so : StOk K as H S) : ∀ (n : Nat) (d : D) (v : V) (p : PyData), Rep K as H v d → toP S n d = some p → Dp K H v p := by
  intro n
  induction n with
  | zero =>
    intro d v p r h
    cases r <;> simp only [toP] at h <;> first | (cases h) | skip
    · exact .non
    · exact .bl _
    · exact .int _
    · exact .str _
  | succ n ih =>
    intro d v p r h
    cases r with
    | non => simp only [toP] at h; cases h; exact .non
    | bl b => simp only [toP] at h; cases h; exact .bl _
    | int b => simp only [toP] at h; cases h; exact .int _
    | str b => simp only [toP] at h; cases h; exact .str _
    | bty b => simp only [toP] at h; cases h
    | kls _ _ => simp only [toP] at h; cases h
    | tup ht hr =>
      simp only [toP] at h
      obtain ⟨ps, e, rfl⟩ := Option.map_eq_some_iff.mp h
      exact .tup ht (dpAll_of so (fun d v p r h => ih d v p r h) _ _ _ hr e)
    | ref ha =>
      simp only [toP] at h
      split at h
      · rename_i ds e0
        obtain ⟨ps, e, rfl⟩ := Option.map_eq_some_iff.mp h
        obtain ⟨vs, h1, h2⟩ := so.seq ha (.inl e0)
        exact .lst h1 (dpAll_of so (fun d v p r h => ih d v p r h) _ _ _ h2 e)
      · rename_i ds e0
        obtain ⟨ps, e, rfl⟩ := Option.map_eq_some_iff.mp h
        obtain ⟨vs, h1, h2⟩ := so.seq ha (.inr e0)
        exact .lst h1 (dpAll_of so (fun d v p r h => ih d v p r h) _ _ _ h2 e)
      · cases h
theorem eqD_of {x y : D} {b : Bool} (h : eqD S x y = some b) : ∃ p q, toP S 64 x = some p ∧ toP S 64 y = some q ∧ SeqAt.shaped p = true ∧ SeqAt.shaped q = true ∧ b = PyData.eqv p q := by
  unfold eqD at h
  split at h
  · rename_i p q e1 e2
    by_cases hc : (shaped p && shaped q) = true
    · rw [if_pos hc] at h
      obtain ⟨h1, h2⟩ := Bool.and_eq_true_iff.mp hc
      exact ⟨p, q, e1, e2, h1, h2, (Option.some.inj h).symm⟩
    · rw [if_neg hc] at h; cases h
  · cases h
theorem do_eq : Does2 K W (rEqD K) (cmpD .eq) := by
  intro as H σ S x y v u Q so rx ry po
  have po : PostG K W (RE K) as H σ (match eqD S x y with
    | some b => .ok (.bl b) S
    | none => .bad) Q := by cases x <;> cases y <;> exact po
  split at po
  · rename_i b e
    obtain ⟨p, q, e1, e2, h1, h2, rfl⟩ := eqD_of e
    exact ⟨p, q, dp_of so _ _ _ _ rx e1, dp_of so _ _ _ _ ry e2, h1, h2, po.here so (.bl _)⟩
  · exact (show False from po).elim
theorem do_ne : Does2 K W (rNeD K) (cmpD .ne) := by
  intro as H σ S x y v u Q so rx ry po
  have po : PostG K W (RE K) as H σ (match eqD S x y with
    | some b => .ok (.bl (!b)) S
    | none => .bad) Q := by cases x <;> cases y <;> exact po
  split at po
  · rename_i b e
    obtain ⟨p, q, e1, e2, h1, h2, rfl⟩ := eqD_of e
    exact ⟨p, q, dp_of so _ _ _ _ rx e1, dp_of so _ _ _ _ ry e2, h1, h2, po.here so (.bl _)⟩
  · exact (show False from po).elim
theorem do_lt : Does2 K W (rI0 fun i j => .bl (decide (i < j))) (cmpD .lt) := by
  intro as H σ S x y v u Q so rx ry po
  cases rx <;> cases ry <;> try exact (show False from po).elim
  exact ⟨_, _, rfl, rfl, po.here so (.bl _)⟩
theorem do_le : Does2 K W (rI0 fun i j => .bl (decide (i ≤ j))) (cmpD .le) := by
  intro as H σ S x y v u Q so rx ry po
  cases rx <;> cases ry <;> try exact (show False from po).elim
  exact ⟨_, _, rfl, rfl, po.here so (.bl _)⟩
theorem do_gt : Does2 K W (rI0 fun i j => .bl (decide (j < i))) (cmpD .gt) := by
  intro as H σ S x y v u Q so rx ry po
  cases rx <;> cases ry <;> try exact (show False from po).elim
  exact ⟨_, _, rfl, rfl, po.here so (.bl _)⟩
theorem do_ge : Does2 K W (rI0 fun i j => .bl (decide (j ≤ i))) (cmpD .ge) := by
  intro as H σ S x y v u Q so rx ry po
  cases rx <;> cases ry <;> try exact (show False from po).elim
  exact ⟨_, _, rfl, rfl, po.here so (.bl _)⟩
theorem do_is : Does2 K W (fun x y H Q => y = .non ∧ Q (.bl (decide (x = .non))) H) (cmpD .is_) := by
  intro as H σ S x y v u Q so rx ry po
  cases rx <;> cases ry <;> try exact (show False from po).elim
  all_goals exact ⟨rfl, po.here so (.bl _)⟩
theorem do_isNot : Does2 K W (fun x y H Q => y = .non ∧ Q (.bl (!decide (x = .non))) H) (cmpD .isNot) := by
  intro as H σ S x y v u Q so rx ry po
  cases rx <;> cases ry <;> try exact (show False from po).elim
  all_goals exact ⟨rfl, po.here so (.bl _)⟩

/-! ### truth -/
theorem tru_of {x : D} {v : V} {b : Bool} (so : StOk K as H S) (r : Rep K as H v x) (h : truD x S = some b) : TruV K v H b := by
  cases r with
  | non => exact (Option.some.inj h).symm
  | bl b => exact (Option.some.inj h).symm
  | int i => exact (Option.some.inj h).symm
  | str s =>
    simp only [truD] at h
    by_cases hl : s.length ≤ LEN
    · rw [if_pos hl] at h
      exact ⟨len_le hl, (Option.some.inj h).symm⟩
    · rw [if_neg hl] at h; cases h
  | bty n => cases h
  | kls _ _ => cases h
  | tup ht hr => exact .inr (.inl ⟨_, ht, by rw [hr.isEmpty]; exact (Option.some.inj h).symm⟩)
  | ref ha =>
    simp only [truD] at h
    split at h
    · rename_i ds e
      obtain ⟨vs, h1, h2⟩ := so.seq ha (.inl e)
      exact .inl ⟨vs, h1, by rw [h2.isEmpty]; exact (Option.some.inj h).symm⟩
    · rename_i ds e
      obtain ⟨vs, h1, h2⟩ := so.seq ha (.inr e)
      exact .inl ⟨vs, h1, by rw [h2.isEmpty]; exact (Option.some.inj h).symm⟩
    · rename_i kvs e
      exact (so.at ha e).elim
    · cases h

/-! ### items, slices -/
def rIxR (K : PySem.W.Frag) : R2 := fun x y H Q => rIxL K x y H Q ∨ (rIxT K x y H Q ∨ rIxS x y H Q)
theorem or_ix {X : Cx} : IxR X (rIxR X.K) := IxR.or ix_list (IxR.or ix_tup ix_str)
theorem do_ix : Does2 K W (rIxR K) ixD := by
  intro as H σ S x y v u Q so rx ry po
  cases rx <;> cases ry <;> try exact (show False from po).elim
  · rename_i s i
    obtain ⟨hl, po⟩ := of_ite (show PostG K W (RE K) as H σ (if s.length ≤ LEN then match L2.atI s.cps.toList i with
      | some c => .ok (.str ⟨#[c]⟩) S
      | none => .bad
      else .bad) Q from po)
    split at po
    · rename_i c e
      exact .inr (.inr ⟨_, _, _, rfl, rfl, len_le hl, e, po.here so (.str _)⟩)
    · exact (show False from po).elim
  · rename_i ht hr i
    have po : PostG K W (RE K) as H σ (match L2.atI _ i with
      | some d => .ok d S
      | none => .bad) Q := po
    split at po
    · rename_i d e
      obtain ⟨w, e2, rw'⟩ := hr.atI e
      exact .inr (.inl ⟨_, _, _, _, rfl, rfl, ht, e2, po.here so rw'⟩)
    · exact (show False from po).elim
  · rename_i n a ha i
    simp only [ixD] at po
    split at po
    · rename_i ds e0
      obtain ⟨vs, h1, h2⟩ := so.seq ha (.inl e0)
      split at po
      · rename_i d e
        obtain ⟨w, e2, rw'⟩ := h2.atI e
        exact .inl ⟨_, _, _, _, rfl, rfl, h1, e2, po.here so rw'⟩
      · exact (show False from po).elim
    · rename_i ds e0
      obtain ⟨vs, h1, h2⟩ := so.seq ha (.inr e0)
      split at po
      · rename_i d e
        obtain ⟨w, e2, rw'⟩ := h2.atI e
        exact .inl ⟨_, _, _, _, rfl, rfl, h1, e2, po.here so rw'⟩
      · exact (show False from po).elim
    · exact (show False from po).elim
def rSlR (K : PySem.W.Frag) : V → Option Int → Option Int → Hp → VK → Prop := fun x lo hi H Q => rSlL K x lo hi H Q ∨ (rSlA K x lo hi H Q ∨ rSlS x lo hi H Q)
theorem or_sl {X : Cx} : SlR X (rSlR X.K) := SlR.or sl_list (SlR.or sl_tupA sl_str)
theorem cut_reps {vs : List V} {ds : List D} (r : Reps K as H vs ds) (lo hi : Option Int) : Reps K as H (cutV vs lo hi) (cutD ds lo hi) := by
  unfold cutV cutD
  rw [r.length]
  exact (r.drop _).take _
theorem do_sl {x : D} {v : V} {lo hi : Option Int} {Q : VK} (so : StOk K as H S) (rx : Rep K as H v x) (po : PostG K W (RE K) as H σ (slD x lo hi S) Q) : rSlR K v lo hi H Q := by
  cases rx <;> try exact (show False from po).elim
  · obtain ⟨hl, po⟩ := of_ite po
    exact .inr (.inr ⟨_, rfl, len_le hl, po.here so (.str _)⟩)
  · rename_i ht hr
    refine .inr (.inl ⟨_, _, rfl, ht, fun hw => ?_, fun hw => post_tup so (cut_reps hr lo hi) po⟩)
    have e : cutD _ lo hi = _ := (show cutD _ lo hi = _ from by
      unfold cutD
      rw [← hr.length, hw.1, hw.2, hr.length, Nat.sub_zero, List.drop_zero, List.take_length])
    have po : PostG K W (RE K) as H σ (.ok (.tup (cutD _ lo hi)) S) Q := po
    rw [e] at po
    exact po.here so (.tup ht hr)
  · rename_i n a ha
    simp only [slD] at po
    split at po
    · rename_i ds e0
      obtain ⟨vs, h1, h2⟩ := so.seq ha (.inl e0)
      exact .inl ⟨_, _, rfl, h1, post_lst so (cut_reps h2 lo hi) po⟩
    · rename_i ds e0
      obtain ⟨vs, h1, h2⟩ := so.seq ha (.inr e0)
      exact .inl ⟨_, _, rfl, h1, post_lst so (cut_reps h2 lo hi) po⟩
    · exact (show False from po).elim
  · rename_i hf hr
    exact .inl ⟨_, _, rfl, hf.sq, post_lst so (cut_reps hr lo hi) po⟩
end
end DI

/-! DI4: built-in calls and methods keep their word. -/
namespace DI
open PySem PySem.Spec PyProof.Rows L2

/-- a call of values does what f says -/
def DoesC (K : PySem.W.Frag) (W : WX) (r : List V → Hp → VK → Prop) (f : List D → Sto → Out D) : Prop := ∀ (as : List Addr) (H : Hp) (σ : L2.St) (S : Sto) (xs : List D) (vs : List V) (Q : VK), StOk K as H S → Reps K as H vs xs → PostG K W (RE K) as H σ (f xs S) Q → r vs H Q
def DoesM (K : PySem.W.Frag) (W : WX) (r : V → List V → Hp → VK → Prop) (f : D → List D → Sto → Out D) : Prop := ∀ (as : List Addr) (H : Hp) (σ : L2.St) (S : Sto) (x : D) (v : V) (xs : List D) (vs : List V) (Q : VK), StOk K as H S → Rep K as H v x → Reps K as H vs xs → PostG K W (RE K) as H σ (f x xs S) Q → r v vs H Q
section
variable {K : PySem.W.Frag} {W : WX} {as : List Addr} {H : Hp} {σ : L2.St} {S : Sto}
theorem reps1 {vs : List V} {x : D} (r : Reps K as H vs [x]) : ∃ v, vs = [v] ∧ Rep K as H v x := by
  cases r with
  | cons h t => cases t; exact ⟨_, rfl, h⟩
theorem reps2 {vs : List V} {x y : D} (r : Reps K as H vs [x, y]) : ∃ v w, vs = [v, w] ∧ Rep K as H v x ∧ Rep K as H w y := by
  cases r with
  | cons h t =>
    obtain ⟨w, rfl, h2⟩ := reps1 t
    exact ⟨_, w, rfl, h, h2⟩
theorem reps0 {vs : List V} (r : Reps K as H vs []) : vs = [] := by cases r; rfl
def rLenR (K : PySem.W.Frag) : List V → Hp → VK → Prop := fun xs H Q => ∃ x n, xs = [x] ∧ LenV K x H n ∧ Q (.int n) H
theorem do_len : DoesC K W (rLenR K) (biD .len) := by
  intro as H σ S xs vs Q so rs po
  match xs, rs, po with
  | [x], rs, po =>
    obtain ⟨v, rfl, r⟩ := reps1 rs
    cases r with
    | str s =>
      obtain ⟨hl, po⟩ := of_ite po
      exact ⟨_, _, rfl, ⟨len_le hl, rfl⟩, po.here so (.int _)⟩
    | tup ht hr => exact ⟨_, _, rfl, .inr ⟨_, ht, rfl⟩, by rw [hr.length]; exact po.here so (.int _)⟩
    | ref ha =>
      simp only [biD] at po
      split at po
      · rename_i ds e
        obtain ⟨ws, h1, h2⟩ := so.seq ha (.inl e)
        exact ⟨_, _, rfl, .inl ⟨_, h1, rfl⟩, by rw [h2.length]; exact po.here so (.int _)⟩
      · rename_i ds e
        obtain ⟨ws, h1, h2⟩ := so.seq ha (.inr e)
        exact ⟨_, _, rfl, .inl ⟨_, h1, rfl⟩, by rw [h2.length]; exact po.here so (.int _)⟩
      · exact (show False from po).elim
    | _ => exact (show False from po).elim
  | [], _, po => exact (show False from po).elim
  | x :: y :: r, rs, po =>
    have : PostG K W (RE K) as H σ (.bad : Out D) Q := by cases x <;> exact po
    exact this.elim
def rAbsR : List V → Hp → VK → Prop := fun xs H Q => ∃ i, xs = [.int i] ∧ Q (.int (if i < 0 then -i else i)) H
theorem do_abs : DoesC K W rAbsR (biD .abs) := by
  intro as H σ S xs vs Q so rs po
  match xs, rs, po with
  | [x], rs, po =>
    obtain ⟨v, rfl, r⟩ := reps1 rs
    cases r <;> try exact (show False from po).elim
    exact ⟨_, rfl, po.here so (.int _)⟩
  | [], _, po => exact (show False from po).elim
  | x :: y :: r, rs, po =>
    have : PostG K W (RE K) as H σ (.bad : Out D) Q := by cases x <;> exact po
    exact this.elim
def rMaxR : List V → Hp → VK → Prop := fun xs H Q => ∃ i j, xs = [.int i, .int j] ∧ Q (.int (if j > i then j else i)) H
def rMinR : List V → Hp → VK → Prop := fun xs H Q => ∃ i j, xs = [.int i, .int j] ∧ Q (.int (if j < i then j else i)) H
theorem do_max : DoesC K W rMaxR (biD .max2) := by
  intro as H σ S xs vs Q so rs po
  match xs, rs, po with
  | [x, y], rs, po =>
    obtain ⟨v, w, rfl, r1, r2⟩ := reps2 rs
    cases r1 <;> cases r2 <;> try exact (show False from po).elim
    exact ⟨_, _, rfl, po.here so (.int _)⟩
  | [], _, po => exact (show False from po).elim
  | [x], _, po =>
    have : PostG K W (RE K) as H σ (.bad : Out D) Q := by cases x <;> exact po
    exact this.elim
  | x :: y :: z :: r, rs, po =>
    have : PostG K W (RE K) as H σ (.bad : Out D) Q := by cases x <;> cases y <;> exact po
    exact this.elim
theorem do_min : DoesC K W rMinR (biD .min2) := by
  intro as H σ S xs vs Q so rs po
  match xs, rs, po with
  | [x, y], rs, po =>
    obtain ⟨v, w, rfl, r1, r2⟩ := reps2 rs
    cases r1 <;> cases r2 <;> try exact (show False from po).elim
    exact ⟨_, _, rfl, po.here so (.int _)⟩
  | [], _, po => exact (show False from po).elim
  | [x], _, po =>
    have : PostG K W (RE K) as H σ (.bad : Out D) Q := by cases x <;> exact po
    exact this.elim
  | x :: y :: z :: r, rs, po =>
    have : PostG K W (RE K) as H σ (.bad : Out D) Q := by cases x <;> cases y <;> exact po
    exact this.elim
def rListR (K : PySem.W.Frag) : List V → Hp → VK → Prop := fun xs H Q => ∃ p ys, xs = [.ref p] ∧ (SqL K H p ys ∨ SqT K H p ys) ∧ ∀ l, H l = none → Q (.ref l) (upd H l (.lst ys))
theorem do_list : DoesC K W (rListR K) (biD .list) := by
  intro as H σ S xs vs Q so rs po
  match xs, rs, po with
  | [x], rs, po =>
    obtain ⟨v, rfl, r⟩ := reps1 rs
    cases r with
    | tup ht hr => exact ⟨_, _, rfl, .inr ht, post_lst so hr po⟩
    | ref ha =>
      simp only [biD] at po
      split at po
      · rename_i ds e
        obtain ⟨ws, h1, h2⟩ := so.seq ha (.inl e)
        exact ⟨_, _, rfl, .inl h1, post_lst so h2 po⟩
      · rename_i ds e
        obtain ⟨ws, h1, h2⟩ := so.seq ha (.inr e)
        exact ⟨_, _, rfl, .inl h1, post_lst so h2 po⟩
      · exact (show False from po).elim
    | _ => exact (show False from po).elim
  | [], _, po => exact (show False from po).elim
  | x :: y :: r, rs, po =>
    have : PostG K W (RE K) as H σ (.bad : Out D) Q := by cases x <;> exact po
    exact this.elim
def rTupR (K : PySem.W.Frag) : List V → Hp → VK → Prop := fun xs H Q => ∃ p ys, xs = [.ref p] ∧ ((SqL K H p ys ∧ ∀ l, H l = none → Q (.ref l) (upd H l (.tup ys))) ∨ (SqT K H p ys ∧ Q (.ref p) H))
theorem do_tuple : DoesC K W (rTupR K) (biD .tuple) := by
  intro as H σ S xs vs Q so rs po
  match xs, rs, po with
  | [x], rs, po =>
    obtain ⟨v, rfl, r⟩ := reps1 rs
    cases r with
    | tup ht hr => exact ⟨_, _, rfl, .inr ⟨ht, po.here so (.tup ht hr)⟩⟩
    | ref ha =>
      simp only [biD] at po
      split at po
      · rename_i ds e
        obtain ⟨ws, h1, h2⟩ := so.seq ha (.inl e)
        exact ⟨_, _, rfl, .inl ⟨h1, post_tup so h2 po⟩⟩
      · rename_i ds e
        obtain ⟨ws, h1, h2⟩ := so.seq ha (.inr e)
        exact ⟨_, _, rfl, .inl ⟨h1, post_tup so h2 po⟩⟩
      · exact (show False from po).elim
    | _ => exact (show False from po).elim
  | [], _, po => exact (show False from po).elim
  | x :: y :: r, rs, po =>
    have : PostG K W (RE K) as H σ (.bad : Out D) Q := by cases x <;> exact po
    exact this.elim
def rIntR : List V → Hp → VK → Prop := fun xs H Q => (∃ i, xs = [.int i] ∧ Q (.int i) H) ∨ ∃ k, xs = [.bl k] ∧ Q (.int (if k then 1 else 0)) H
theorem do_int : DoesC K W rIntR (biD .int) := by
  intro as H σ S xs vs Q so rs po
  match xs, rs, po with
  | [x], rs, po =>
    obtain ⟨v, rfl, r⟩ := reps1 rs
    cases r <;> try exact (show False from po).elim
    · exact .inr ⟨_, rfl, po.here so (.int _)⟩
    · exact .inl ⟨_, rfl, po.here so (.int _)⟩
  | [], _, po => exact (show False from po).elim
  | x :: y :: r, rs, po =>
    have : PostG K W (RE K) as H σ (.bad : Out D) Q := by cases x <;> exact po
    exact this.elim
theorem allD_of : ∀ {ds : List D} {b : Bool} {vs : List V}, allD ds = some b → Reps K as H vs ds → ∃ bs : List Bool, vs = bs.map V.bl ∧ b = bs.all id
  | [], b, _, h, .nil => ⟨[], rfl, (Option.some.inj h).symm⟩
  | .bl k :: r, b, _, h, .cons q t => by
    cases q
    have h : (allD r).map (fun q => k && q) = some b := h
    obtain ⟨c, e, rfl⟩ := Option.map_eq_some_iff.mp h
    obtain ⟨bs, rfl, rfl⟩ := allD_of e t
    exact ⟨k :: bs, rfl, rfl⟩
  | .non :: _, _, _, h, _ => nomatch h
  | .int _ :: _, _, _, h, _ => nomatch h
  | .str _ :: _, _, _, h, _ => nomatch h
  | .tup _ :: _, _, _, h, _ => nomatch h
  | .ref _ :: _, _, _, h, _ => nomatch h
  | .bty _ :: _, _, _, h, _ => nomatch h
theorem do_all : DoesC K W (L2.rAll K) (biD .all) := by
  intro as H σ S xs vs Q so rs po
  match xs, rs, po with
  | [x], rs, po =>
    obtain ⟨v, rfl, r⟩ := reps1 rs
    cases r with
    | ref ha =>
      simp only [biD] at po
      split at po
      · rename_i ds e
        obtain ⟨ws, h1, h2⟩ := so.seq ha (.inl e)
        split at po
        · rename_i b e2
          obtain ⟨bs, rfl, rfl⟩ := allD_of e2 h2
          exact ⟨_, bs, rfl, h1, po.here so (.bl _)⟩
        · exact (show False from po).elim
      · exact (show False from po).elim
    | _ => exact (show False from po).elim
  | [], _, po => exact (show False from po).elim
  | x :: y :: r, rs, po =>
    have : PostG K W (RE K) as H σ (.bad : Out D) Q := by cases x <;> exact po
    exact this.elim

/-! ### isinstance -/
theorem tyx_of {x : D} {v : V} {a : String} (so : StOk K as H S) (r : Rep K as H v x) (h : tyN S x = some a) : TyX K H v (.type a) := by
  cases r with
  | non => cases h; exact .base .non
  | bl b => cases h; exact .base (.bl _)
  | int i => cases h; exact .base (.int _)
  | str s => cases h; exact .base (.str _)
  | bty n => cases h
  | kls _ _ => cases h
  | tup ht hr =>
    cases h
    rcases ht with (h | ⟨o, h⟩) | ⟨o, its, n, h, c, _⟩
    · exact .base (.tup h)
    · exact .fTuple h
    · exact .kTuple h c
  | ref ha =>
    simp only [tyN] at h
    split at h
    · rename_i ds e
      cases h
      obtain ⟨vs, h1, _⟩ := lst_of so ha e
      exact .base (.lst h1)
    · rename_i ds e
      cases h
      obtain ⟨vs, o, h1, _⟩ := so.at ha e
      exact .base (.frz h1)
    · cases h
def rIsiQ (K : PySem.W.Frag) : List V → Hp → VK → Prop := fun xs H Q => ∃ (x : V) (tp : Addr) (cs : List V) (t : Value) (us : List Value) (b : Bool), xs = [x, .ref tp] ∧ SqT K H tp cs ∧ Paired ClsV cs us ∧ TyX K H x t ∧ PySem.W.kitAny K t us = some b ∧ Q (.bl b) H
theorem call_isiQ {X : Cx} : CallR X (.builtin "isinstance") (rIsiQ X.K) := by
  intro pins s σ H xs us Q I r h
  obtain ⟨x, tp, cs, t, ws, b, rfl, hT, k, ty, e, q⟩ := h
  obtain ⟨u1, u2, rfl, r1, r2⟩ := vals2 r
  cases (show u2 = Value.ref tp from r2)
  obtain ⟨P, Z, p, hx⟩ := kit_of I r1 ty
  obtain ⟨its, rv, ⟨o, h1, h2, n, h3⟩, _⟩ := I.tuple hT
  have e3 := ClsV.all k rv
  subst e3
  obtain ⟨oc, od, dt, sl⟩ := o
  simp only at h2 h3
  subst h2 h3
  exact PySem.W.kia_tup Z I.kIn p h1 e hx fun tk => ⟨.bl b, H, I.tok tk, rfl, q⟩
theorem isAny_of {a : String} : ∀ {ds : List D} {b : Bool} {vs : List V}, isAny a ds = some b → Reps K as H vs ds → ∃ us, Paired ClsV vs us ∧ PySem.W.kitAny K (.type a) us = some b
  | [], b, _, h, .nil => ⟨[], .nil, h⟩
  | .bty n :: r, b, _, h, .cons q t => by
    cases q
    have h : (match L2.kitB a n with
      | some true => (isAny a r).map fun _ => true
      | some false => isAny a r
      | none => none) = some b := h
    split at h
    · rename_i e
      obtain ⟨c, e2, rfl⟩ := Option.map_eq_some_iff.mp h
      obtain ⟨us, h1, h2⟩ := isAny_of e2 t
      exact ⟨.type n :: us, .cons (.ty n) h1, kitAny_cons (kit_ty e) (fun z => nomatch z) fun _ => rfl⟩
    · rename_i e
      obtain ⟨us, h1, h2⟩ := isAny_of h t
      exact ⟨.type n :: us, .cons (.ty n) h1, kitAny_cons (kit_ty e) (fun _ => h2) fun z => nomatch z⟩
    · cases h
  | .non :: _, _, _, h, _ => nomatch h
  | .int _ :: _, _, _, h, _ => nomatch h
  | .str _ :: _, _, _, h, _ => nomatch h
  | .tup _ :: _, _, _, h, _ => nomatch h
  | .ref _ :: _, _, _, h, _ => nomatch h
  | .bl _ :: _, _, _, h, _ => nomatch h
def rIsiR (K : PySem.W.Frag) : List V → Hp → VK → Prop := fun xs H Q => rIsi K xs H Q ∨ rIsiQ K xs H Q
theorem cr_isi {X : Cx} : CallR X (.builtin "isinstance") (rIsiR X.K) := orCallR call_isi call_isiQ
theorem do_isi : DoesC K W (rIsiR K) (biD .isinst) := by
  intro as H σ S xs vs Q so rs po
  match xs, rs, po with
  | [x, .bty n], rs, po =>
    obtain ⟨v, w, rfl, r1, r2⟩ := reps2 rs
    cases r2
    have po : PostG K W (RE K) as H σ (match (tyN S x).bind fun a => L2.kitB a n with
      | some b => .ok (.bl b) S
      | none => .bad) Q := by cases x <;> exact po
    split at po
    · rename_i b e
      obtain ⟨a, e1, e2⟩ := Option.bind_eq_some_iff.mp e
      exact .inl ⟨_, _, _, _, _, rfl, .ty n, tyx_of so r1 e1, kit_ty e2, po.here so (.bl _)⟩
    · exact (show False from po).elim
  | [x, .tup cs], rs, po =>
    obtain ⟨v, w, rfl, r1, r2⟩ := reps2 rs
    cases r2 with
    | tup ht hr =>
      have po : PostG K W (RE K) as H σ (match (tyN S x).bind fun a => isAny a cs with
        | some b => .ok (.bl b) S
        | none => .bad) Q := by cases x <;> exact po
      split at po
      · rename_i b e
        obtain ⟨a, e1, e2⟩ := Option.bind_eq_some_iff.mp e
        obtain ⟨us, h1, h2⟩ := isAny_of e2 hr
        exact .inr ⟨_, _, _, _, _, _, rfl, ht, h1, tyx_of so r1 e1, h2, po.here so (.bl _)⟩
      · exact (show False from po).elim
  | [], _, po => exact (show False from po).elim
  | [x], _, po =>
    have : PostG K W (RE K) as H σ (.bad : Out D) Q := by cases x <;> exact po
    exact this.elim
  | [x, .non], _, po => exact (show PostG K W (RE K) as H σ (.bad : Out D) Q by cases x <;> exact po).elim
  | [x, .bl _], _, po => exact (show PostG K W (RE K) as H σ (.bad : Out D) Q by cases x <;> exact po).elim
  | [x, .int _], _, po => exact (show PostG K W (RE K) as H σ (.bad : Out D) Q by cases x <;> exact po).elim
  | [x, .str _], _, po => exact (show PostG K W (RE K) as H σ (.bad : Out D) Q by cases x <;> exact po).elim
  | [x, .ref _], _, po => exact (show PostG K W (RE K) as H σ (.bad : Out D) Q by cases x <;> exact po).elim
  | x :: y :: z :: r, rs, po =>
    have : PostG K W (RE K) as H σ (.bad : Out D) Q := by cases x <;> cases y <;> exact po
    exact this.elim

/-! ### methods -/
theorem do_append : DoesM K W rAppend (meD .append) := by
  intro as H σ S x v xs vs Q so rx rs po
  cases rx with
  | ref ha =>
    match xs, rs, po with
    | [y], rs, po =>
      obtain ⟨w, rfl, r⟩ := reps1 rs
      simp only [meD] at po
      split at po
      · rename_i ds e
        obtain ⟨ws, h1, h2⟩ := lst_of so ha e
        obtain ⟨hl, po⟩ := of_ite po
        exact ⟨_, _, _, rfl, rfl, h1, by rw [h2.length]; exact len_lt hl, po .non as _ (Wx.write h1 (List.mem_of_getElem? ha)) (so.write ha h1 (h2.append (.cons r .nil))) .non⟩
      · exact (show False from po).elim
    | [], _, po => exact (show False from po).elim
    | x :: y :: r, rs, po => exact (show False from po).elim
  | _ => exact (show PostG K W (RE K) as H σ (.bad : Out D) Q by cases xs <;> exact po).elim
theorem do_pop : DoesM K W rPop (meD .pop) := by
  intro as H σ S x v xs vs Q so rx rs po
  cases rx with
  | ref ha =>
    match xs, rs, po with
    | [], rs, po =>
      have e0 := reps0 rs
      subst e0
      simp only [meD] at po
      split at po
      · rename_i ds e
        obtain ⟨ws, h1, h2⟩ := lst_of so ha e
        split at po
        · rename_i y e2
          obtain ⟨u, g1, g2⟩ := h2.getD e2
          refine ⟨_, _, _, rfl, rfl, h1, by rw [h2.length]; exact g1, po u as _ (Wx.write h1 (List.mem_of_getElem? ha)) (so.write ha h1 h2.dropLast) (Rep.mono (Wx.write h1 (List.mem_of_getElem? ha)) g2)⟩
        · exact (show False from po).elim
      · exact (show False from po).elim
    | x :: r, rs, po => exact (show False from po).elim
  | _ => exact (show PostG K W (RE K) as H σ (.bad : Out D) Q by cases xs <;> exact po).elim
/-- xs[i] = v -/
theorem do_setL {x y z : D} {o i v : V} {S' : Sto} {Q : Hp → Prop} (so : StOk K as H S) (ro : Rep K as H o x) (ri : Rep K as H i y) (rv : Rep K as H v z) (h : setIx x y z S = some S')
    (q : ∀ H', Wx K as H as H' → StOk K as H' S' → Q H') : rSetL o i v H Q := by
  cases ro with
  | ref ha =>
    cases ri with
    | int j =>
      simp only [setIx] at h
      split at h
      · rename_i ds e
        obtain ⟨ws, h1, h2⟩ := lst_of so ha e
        split at h
        · rename_i k e2
          cases h
          exact ⟨_, _, _, _, rfl, rfl, h1, by rw [h2.length]; exact e2, q _ (Wx.write h1 (List.mem_of_getElem? ha)) (so.write ha h1 (Reps.set rv k h2))⟩
        · cases h
      · cases h
    | _ => cases h
  | _ => cases h
end
end DI

/-! DI5: what is walked. -/
namespace DI
open PySem PySem.Spec PyProof.Rows L2
open Sem (wp)

/-! ### enumerate of a tuple -/
theorem meets_enumerate_newB1 {v : Value} {o : Obj} {H : Heap → Prop} (B : Begins v o H) :
    Meets (Builtin.«enumerate.__new__» ⟨[.type "enumerate", v], []⟩) (fun _ R s => H s.heap ∧
      R (.ok (.ret (.ref (s.heap.push o).objs.size))) { s with heap := (s.heap.push o).push { cls := .type "enumerate", data := .fields #[.none, .bool false, .ref s.heap.objs.size, rawInt 0, .none, .none] } }) :=
  .of_wp fun prog w A R s h => by
    obtain ⟨hp, g, d, tk, os⟩ := s; obtain ⟨h1, h⟩ := h
    have hsub := sub_enumerate
    have q1 : ∀ {A' : Around} {E : Value → Shared → Prop} {Q : Value → Shared → Prop}, Q (.ref hp.objs.size) ⟨hp.push o, g, d, tk, os⟩ → wpAny (model prog w) A' (pyIter v) Q E ⟨hp, g, d, tk, os⟩ :=
      fun q => B.iter prog w _ _ ⟨hp, g, d, tk, os⟩ _ h1 q
    wp_walk using q1
    refine wpAny_stack_any fun st => wpAny_pure ?_
    split
    · rename_i c _ _ _ _ _
      cases (c == Value.type "enumerate")
      · wp_walk using q1
        exact ⟨_, rfl, h⟩
      · wp_walk using q1
        exact ⟨_, rfl, h⟩
    · wp_walk using q1
      exact ⟨_, rfl, h⟩
section
variable {prog : Program} {w : World} {A : Around} {E : Value → Shared → Prop} {s : Shared}
theorem call_enumerate_tuple {t : Addr} {items : Array Value} {Q : Value → Shared → Prop} (hL : s.heap.IsTuple t items)
    (h : ∀ h', IsEnum h' (s.heap.objs.size + 1) s.heap.objs.size 0 .none → h'.IsTupleIter s.heap.objs.size t 0 → h'.objs.size = s.heap.objs.size + 2 →
      (∀ b o, s.heap.get? b = some o → h'.get? b = some o) → Q (.ref (s.heap.objs.size + 1)) { s with heap := h' }) :
    wpAny (model prog w) A (call (.type "enumerate") [.ref t]) Q E s := by
  refine callType_new F.called_enumerate (by decide) (F.typeCall_enumerate_1 _) (F.newCall_enumerate_1 _) (fun obj => F.args_object_init_2 obj _) F.entry_enumerate_new
    (meets_enumerate_newB1 (begins_tuple t items)) ⟨hL, ?_⟩
  have hz : (s.heap.push { cls := .type "tuple_iterator", data := .fields #[.ref t, .int 0 0] }).objs.size = s.heap.objs.size + 1 := Heap.size_push ..
  show _ ∧ _
  rw [hz]
  have he : IsEnum ((s.heap.push { cls := .type "tuple_iterator", data := .fields #[.ref t, .int 0 0] }).push
      { cls := .type "enumerate", data := .fields #[.none, .bool false, .ref s.heap.objs.size, rawInt 0, .none, .none] }) (s.heap.objs.size + 1) s.heap.objs.size 0 .none := by
    have := Heap.get?_push_size (s.heap.push { cls := .type "tuple_iterator", data := .fields #[.ref t, .int 0 0] })
      (o := { cls := .type "enumerate", data := .fields #[.none, .bool false, .ref s.heap.objs.size, rawInt 0, .none, .none] }) rfl
    rw [hz] at this; exact this
  refine ⟨⟨_, he, rfl⟩, h _ he ⟨_, Heap.get?_push_of_some _ (Heap.get?_push_size _ rfl), rfl, rfl⟩ (by rw [Heap.size_push, hz]) fun b o x => Heap.get?_push_of_some _ (Heap.get?_push_of_some _ x)⟩
end
def IteT (K : PySem.W.Frag) (a : Addr) : L2.It :=
  ⟨fun i H => ∃ (xs : List V) (x : V), SqT K H a xs ∧ xs[i]? = some x, fun i H v H' => ∃ T x, v = .ref T ∧ H T = none ∧ H' = upd H T (.tup [.int (i : Nat), x]) ∧ ∀ xs, SqT K H a xs → xs[i]? = some x, fun i H => ∃ xs : List V, SqT K H a xs ∧ xs.length = i⟩
theorem turn_enumT {P : Program} {w : World} {K : PySem.W.Frag} {elts : List Expr} {kk : Nat} {tpos : Pos} (a e it : Addr) (hla : a ≠ it) (hea : e ≠ a) :
    Turn P w K (.Tuple elts kk tpos) (IteT K a) [e, it] e (fun i h => (∃ old, IsEnum h e it ((i : Nat) : Int) old) ∧ h.IsTupleIter it a i ∧ e ≠ it) where
  mem := by simp
  obj := fun i h st b hb => by
    obtain ⟨⟨old, he⟩, ⟨o, ho, hc, hd⟩, _⟩ := st
    have e' : b = e ∨ b = it := by simpa using hb
    rcases e' with z | z
    · rw [z]; exact ⟨_, he, fun v q => nomatch q⟩
    · rw [z]; exact ⟨o, ho, fun v q => by rw [hd] at q; cases q⟩
  keep := fun i h h' st k => let ⟨⟨old, he⟩, hi, hne⟩ := st; ⟨⟨old, k e (by simp) _ he⟩, hi.at fun o q => k it (by simp) o q, hne⟩
  item := by
    intro X hP hw hK hc i pins s σ H E I hf st hg
    subst hP hw hK
    obtain ⟨⟨old, he⟩, hit, hne⟩ := st
    obtain ⟨xs, x, hq, hx⟩ := hg
    obtain ⟨its, rv, p, hz⟩ := I.tuple hq
    obtain ⟨u, hu, ru⟩ := rv.get hx
    have hel : e < s.heap.objs.size := Heap.lt_size he
    have hil : it < s.heap.objs.size := by obtain ⟨_, q, _⟩ := hit; exact Heap.lt_size q
    have hh : X.A.in1.handled = none := I.ok.hd hc
    have hlt : i < its.toArray.size := by rw [List.size_toArray]; exact (List.getElem?_eq_some_iff.mp hu).1
    refine wpAny_pyNext_enum_itemD (Draws.tuple hh it a hla its.toArray) he ⟨hit, show s.heap.IsTuple a its.toArray from p⟩ hlt hne (by simp [hne, hea]) fun y h' tk hP ho hst hT hsz hk => ?_
    have hy : y = u := by
      have h1 : its.toArray[i]? = some y := hP
      rw [List.getElem?_toArray, hu] at h1
      exact (Option.some.inj h1).symm
    subst hy
    refine ⟨_, rfl, wpAny_letOwnedTupleGo_enum (s := { s with heap := h', toks := tk + 1 }) ho fun h'' he' sb => ?_⟩
    have hT2 : h''.get? s.heap.objs.size = some { cls := .type "tuple", data := .seq #[.int i tk, y] } := (sb.2 _ (Nat.ne_of_gt hel)).trans hT
    have new : ObjOk X.prog X.w (upd H s.heap.objs.size (.tup [.int (i : Nat), x])) h'' s.heap.objs.size (.tup [.int (i : Nat), x]) :=
      ⟨by show 2 ≤ sizeLine; decide, [.int i tk, y], .cons ⟨_, rfl⟩ (.cons ru .nil), ⟨_, hT2, rfl, _, rfl⟩⟩
    have I1 : Inv X pins σ (upd H s.heap.objs.size (.tup [.int (i : Nat), x])) { s with heap := h'', toks := tk + 1 } :=
      I.turnedNew (ch := [e, it]) (fun b ob hb q => (sb.2 b (fun z => hb (by simp [z]))).trans (hk b ob (fun z => hb (by simp [z])) (fun z => hb (by simp [z])) q)) hf (Nat.le_refl _) new
    refine ⟨.ref s.heap.objs.size, _, I1, rfl, ⟨_, x, rfl, I.hok.fresh (Nat.le_refl _), rfl, fun ys hy => by rw [I.tuple_inj hy hq]; exact hx⟩, ⟨⟨y, ?_⟩, hst.1.at fun o q => (sb.2 it (Ne.symm hne)).trans q, hne⟩, fun b hb => ?_⟩
    · have e1 : ((i + 1 : Nat) : Int) = (i : Int) + 1 := by omega
      rw [e1]; exact he'
    · have hb' : b < s.heap.objs.size := by
        have e' : b = e ∨ b = it := by simpa using hb
        rcases e' with z | z
        · rw [z]; exact hel
        · rw [z]; exact hil
      rw [upd_ne (Nat.ne_of_lt hb')]
      exact (hf b hb).1
  done := by
    intro X hP hw hK hc i pins s σ H E I hf st hg
    subst hP hw hK
    obtain ⟨⟨old, he⟩, hit, hne⟩ := st
    obtain ⟨xs, hq, hx⟩ := hg
    obtain ⟨its, rv, p, hz⟩ := I.tuple hq
    obtain ⟨f0, f1, f2, f3, f4, f5⟩ := hf it (by simp)
    have hl := rv.length
    have hh : X.A.in1.handled = none := I.ok.hd hc
    have hi : i = its.toArray.size := by rw [List.size_toArray]; omega
    subst hi
    exact wpAny_pyNext_enum_endD (Draws.tuple hh it a hla its.toArray) he ⟨hit, show s.heap.IsTuple a its.toArray from p⟩ fun h' eb => ⟨rfl, I.turned (t' := s.toks) (fun b o hb q => eb b o hb q) f0 f1 f3 f4 f5⟩
  self := fun A i s Q E st h => let ⟨⟨_, he⟩, _⟩ := st; wpAny_pyIter_enum he h
def iEnumT (K : PySem.W.Frag) (ta : TA) : TI := fun σ H R => ta σ H fun vs H1 => ∃ a xs, vs = [.ref a] ∧ SqT K H1 a xs ∧ R (IteT K a) H1
theorem pi_enumT {X : Cx} {e : Expr} {ta : TA} {p pos tpos : Pos} {elts : List Expr} {kk : Nat} (hg : Gl X "enumerate") (hm : X.mg "enumerate" = none) (ha : PA X [e] ta) (hs : starEach [e] X.env = [(false, eval e X.env)]) :
    PI X (.Tuple elts kk tpos) (.Call (.Name "enumerate" p) [e] [] pos) (iEnumT X.K ta) := by
  refine ⟨fun pins s σ H R I h => ?_⟩
  refine Call_ (ld_blt I hg hm boot_enumerate (PyProof.Rows.callWith_type1 (thn (ha.run pos pins s σ H _ I h) fun us s1 ⟨vs, H1, I1, r1, q1⟩ => ?_) hs rfl))
  obtain ⟨a, xs, ex, hq, q⟩ := q1
  subst ex
  cases r1 with
  | cons r rr =>
    cases rr
    cases r
    obtain ⟨its, rv, p', hz⟩ := I1.tuple hq
    have hal : a < s1.heap.objs.size := by obtain ⟨o, ho, _⟩ := p'; exact Heap.lt_size ho
    refine call_enumerate_tuple (items := its.toArray) p' fun h' he hit hsz hk => wpAny_pyIter_enum he ?_
    have I2 : Inv X pins σ H1 { s1 with heap := h' } := I1.kept (t' := s1.toks) hk
    refine ⟨s1.heap.objs.size + 1, [s1.heap.objs.size + 1, s1.heap.objs.size], _, _, H1, rfl, I2, turn_enumT a (s1.heap.objs.size + 1) s1.heap.objs.size (Nat.ne_of_lt hal) (Nat.ne_of_gt (Nat.lt_succ_of_lt hal)), ⟨⟨.none, he⟩, hit, Nat.succ_ne_self _⟩, fun b hb => ?_, q⟩
    have e' : b = s1.heap.objs.size + 1 ∨ b = s1.heap.objs.size := by simpa using hb
    have hle : s1.heap.objs.size ≤ b := by
      rcases e' with z | z
      · rw [z]; exact Nat.le_add_right _ _
      · rw [z]; exact Nat.le_refl _
    exact I1.fpOk hle (I1.hok.fresh hle)
/-- either walk -/
theorem orPI {X : Cx} {tg iter : Expr} {wi wi' : TI} (h : PI X tg iter wi) (h' : PI X tg iter wi') : PI X tg iter (fun σ H R => wi σ H R ∨ wi' σ H R) := ⟨fun pins s σ H R I q => q.elim (h.run pins s σ H R I) (h'.run pins s σ H R I)⟩
theorem impPI {X : Cx} {tg iter : Expr} {wi wi' : TI} (h : PI X tg iter wi) (k : ∀ σ H R, wi' σ H R → wi σ H R) : PI X tg iter wi' := ⟨fun pins s σ H R I q => h.run pins s σ H R I (k _ _ _ q)⟩

/-! ### walks by their sources -/
structure WalkS (K : PySem.W.Frag) (as0 : List Addr) (H0 : Hp) (s : Src) (J : L2.It) : Prop where
  turn : ∀ (i : Nat) (d : D) (as : List Addr) (H : Hp) (S : Sto), Wx K as0 H0 as H → StOk K as H S → i < s.len → s.at S i = some d → J.go i H ∧ ∀ x H', J.yld i H x H' → Wx K as H as H' ∧ StOk K as H' S ∧ Rep K as H' x d
  stop : ∀ (as : List Addr) (H : Hp) (S : Sto), Wx K as0 H0 as H → StOk K as H S → s.fin S = true → J.stop s.len H
section
variable {K : PySem.W.Frag} {as : List Addr} {H : Hp} {S : Sto}
theorem liveAt {n k i : Nat} {en : Bool} {S : Sto} {d : D} (h : (Src.live n k en).at S i = some d) : ∃ ds d0, (S[n]? = some (.lst ds) ∨ S[n]? = some (.rol ds)) ∧ ds.length = k ∧ ds[i]? = some d0 ∧ d = (if en = true then .tup [.int (i : Nat), d0] else d0) := by
  simp only [Src.at] at h
  split at h
  · rename_i ds e
    by_cases hl : ds.length = k
    · rw [if_pos hl] at h
      obtain ⟨d0, e0, e1⟩ := Option.map_eq_some_iff.mp h
      exact ⟨ds, d0, .inl e, hl, e0, e1.symm⟩
    · rw [if_neg hl] at h; cases h
  · rename_i ds e
    by_cases hl : ds.length = k
    · rw [if_pos hl] at h
      obtain ⟨d0, e0, e1⟩ := Option.map_eq_some_iff.mp h
      exact ⟨ds, d0, .inr e, hl, e0, e1.symm⟩
    · rw [if_neg hl] at h; cases h
  · cases h
theorem liveFin {n k : Nat} {en : Bool} {S : Sto} (h : (Src.live n k en).fin S = true) : ∃ ds, (S[n]? = some (.lst ds) ∨ S[n]? = some (.rol ds)) ∧ ds.length = k := by
  simp only [Src.fin] at h
  split at h
  · rename_i ds e; exact ⟨ds, .inl e, of_decide_eq_true h⟩
  · rename_i ds e; exact ⟨ds, .inr e, of_decide_eq_true h⟩
  · cases h
theorem walk_live {n k : Nat} {a : Addr} (ha : as[n]? = some a) : WalkS K as H (.live n k false) (Itl K a) where
  turn := fun i d as2 H2 S2 w2 so2 hi e => by
    obtain ⟨ds, d0, e1, e2, e3, rfl⟩ := liveAt e
    obtain ⟨vs, h1, h2⟩ := so2.seq (w2.at ha) e1
    obtain ⟨v, h3, h4⟩ := h2.getD e3
    refine ⟨⟨vs, v, h1, h3⟩, fun x H' y => ?_⟩
    obtain ⟨rfl, y⟩ := y
    have e5 := y vs h1
    rw [h3] at e5
    cases e5
    exact ⟨Wx.refl _ _ _, so2, h4⟩
  stop := fun as2 H2 S2 w2 so2 e => by
    obtain ⟨ds, e1, e2⟩ := liveFin e
    obtain ⟨vs, h1, h2⟩ := so2.seq (w2.at ha) e1
    exact ⟨vs, h1, by show vs.length ≤ k; rw [h2.length, e2]; exact Nat.le_refl _⟩
theorem walk_liveE {n k : Nat} {a : Addr} (ha : as[n]? = some a) : WalkS K as H (.live n k true) (Ite K a) where
  turn := fun i d as2 H2 S2 w2 so2 hi e => by
    obtain ⟨ds, d0, e1, e2, e3, rfl⟩ := liveAt e
    obtain ⟨vs, h1, h2⟩ := so2.seq (w2.at ha) e1
    obtain ⟨v, h3, h4⟩ := h2.getD e3
    refine ⟨⟨vs, v, h1, h3⟩, fun x H' y => ?_⟩
    obtain ⟨T, v', rfl, hT, rfl, y⟩ := y
    have e5 := y vs h1
    rw [h3] at e5
    cases e5
    exact ⟨Wx.newT hT, so2.newT hT, .tup (.inl (.inl upd_same)) (.cons (.int _) (.cons (Rep.mono (Wx.newT hT) h4) .nil))⟩
  stop := fun as2 H2 S2 w2 so2 e => by
    obtain ⟨ds, e1, e2⟩ := liveFin e
    obtain ⟨vs, h1, h2⟩ := so2.seq (w2.at ha) e1
    exact ⟨vs, h1, by show vs.length ≤ k; rw [h2.length, e2]; exact Nat.le_refl _⟩
theorem walk_tup {a : Addr} {vs : List V} {ds : List D} (ht : SqT K H a vs) (hr : Reps K as H vs ds) : WalkS K as H (.its ds) (Itt K a) where
  turn := fun i d as2 H2 S2 w2 so2 hi e => by
    have h1 := w2.tups _ _ ht
    obtain ⟨v, h3, h4⟩ := (hr.mono w2).getD e
    refine ⟨⟨vs, v, h1, h3⟩, fun x H' y => ?_⟩
    obtain ⟨rfl, y⟩ := y
    have e5 := y vs h1
    rw [h3] at e5
    cases e5
    exact ⟨Wx.refl _ _ _, so2, h4⟩
  stop := fun as2 H2 S2 w2 so2 e => ⟨vs, w2.tups _ _ ht, by show vs.length ≤ ds.length; rw [hr.length]; exact Nat.le_refl _⟩
theorem walk_tupE {a : Addr} {vs : List V} {ds : List D} (ht : SqT K H a vs) (hr : Reps K as H vs ds) : WalkS K as H (.its ((List.range ds.length).map fun k => .tup [.int (k : Nat), ds.getD k .non])) (IteT K a) where
  turn := fun i d as2 H2 S2 w2 so2 hi e => by
    have h1 := w2.tups _ _ ht
    have e : ((List.range ds.length).map fun k => D.tup [.int (k : Nat), ds.getD k .non])[i]? = some d := e
    rw [List.getElem?_map] at e
    obtain ⟨j, ej, ed⟩ := Option.map_eq_some_iff.mp e
    have hj : j = i ∧ i < ds.length := by
      obtain ⟨h0, h1⟩ := List.getElem?_eq_some_iff.mp ej
      rw [List.getElem_range] at h1
      exact ⟨h1.symm, by simpa using h0⟩
    obtain ⟨rfl, hl⟩ := hj
    have e3 : ds[j]? = some (ds.getD j .non) := by simp [List.getD, List.getElem?_eq_getElem hl]
    obtain ⟨v, h3, h4⟩ := (hr.mono w2).getD e3
    refine ⟨⟨vs, v, h1, h3⟩, fun x H' y => ?_⟩
    obtain ⟨T, v', rfl, hT, rfl, y⟩ := y
    have e5 := y vs h1
    rw [h3] at e5
    cases e5
    rw [← ed]
    exact ⟨Wx.newT hT, so2.newT hT, .tup (.inl (.inl upd_same)) (.cons (.int _) (.cons (Rep.mono (Wx.newT hT) h4) .nil))⟩
  stop := fun as2 H2 S2 w2 so2 e => ⟨vs, w2.tups _ _ ht, by show vs.length = ((List.range ds.length).map _).length; rw [List.length_map, List.length_range]; exact hr.length⟩
theorem walk_str {z : Str} : WalkS K as H (.its (z.cps.toList.map fun c => .str ⟨#[c]⟩)) (Its z) where
  turn := fun i d as2 H2 S2 w2 so2 hi e => by
    have e : (z.cps.toList.map fun c => D.str ⟨#[c]⟩)[i]? = some d := e
    rw [List.getElem?_map] at e
    obtain ⟨c, ej, rfl⟩ := Option.map_eq_some_iff.mp e
    have e1 : z.cps[i]? = some c := by rw [← Array.getElem?_toList]; exact ej
    refine ⟨by show i < z.cps.size; exact (Array.getElem?_eq_some_iff.mp e1).1, fun x H' y => ?_⟩
    obtain ⟨rfl, c', ec, rfl⟩ := y
    rw [e1] at ec
    cases ec
    exact ⟨Wx.refl _ _ _, so2, .str _⟩
  stop := fun as2 H2 S2 w2 so2 e => by
    show z.cps.size ≤ (z.cps.toList.map _).length
    rw [List.length_map, Array.length_toList]
    exact Nat.le_refl _
theorem walk_rng {lo hi : Int} : WalkS K as H (.its ((List.range (hi - lo).toNat).map fun (k : Nat) => .int (lo + k * 1))) (Itr lo (hi - lo).toNat) where
  turn := fun i d as2 H2 S2 w2 so2 hi' e => by
    have e : ((List.range (hi - lo).toNat).map fun (k : Nat) => D.int (lo + k * 1))[i]? = some d := e
    rw [List.getElem?_map] at e
    obtain ⟨j, ej, rfl⟩ := Option.map_eq_some_iff.mp e
    obtain ⟨h0, h1⟩ := List.getElem?_eq_some_iff.mp ej
    rw [List.getElem_range] at h1
    subst h1
    refine ⟨by show i < (hi - lo).toNat; rw [List.length_range] at h0; exact h0, fun x H' y => ?_⟩
    obtain ⟨rfl, rfl⟩ := y
    refine ⟨Wx.refl _ _ _, so2, ?_⟩
    rw [Int.mul_one]
    exact .int _
  stop := fun as2 H2 S2 w2 so2 e => by
    show (hi - lo).toNat ≤ ((List.range (hi - lo).toNat).map _).length
    rw [List.length_map, List.length_range]
    exact Nat.le_refl _
theorem walk_rngC {lo c : Int} {n : Nat} : WalkS K as H (.its ((List.range n).map fun (k : Nat) => .int (lo + k * c))) (Itc lo c n) where
  turn := fun i d as2 H2 S2 w2 so2 hi' e => by
    have e : ((List.range n).map fun (k : Nat) => D.int (lo + k * c))[i]? = some d := e
    rw [List.getElem?_map] at e
    obtain ⟨j, ej, rfl⟩ := Option.map_eq_some_iff.mp e
    obtain ⟨h0, h1⟩ := List.getElem?_eq_some_iff.mp ej
    rw [List.getElem_range] at h1
    subst h1
    refine ⟨by show i < n; rw [List.length_range] at h0; exact h0, fun x H' y => ?_⟩
    obtain ⟨rfl, rfl⟩ := y
    exact ⟨Wx.refl _ _ _, so2, .int _⟩
  stop := fun as2 H2 S2 w2 so2 e => by
    show n ≤ ((List.range n).map _).length
    rw [List.length_map, List.length_range]
    exact Nat.le_refl _
end
end DI

/-! DI6: statements, loops, comprehensions: the combinators. -/
namespace DI
open PySem PySem.Spec PyProof.Rows L2

section
variable {K : PySem.W.Frag} {W : WX} {as as' : List Addr} {H H' : Hp} {σ : L2.St}
/-- what is wanted behind a statement -/
def PostS (K : PySem.W.Frag) (W : WX) (D0 : Ends) (as : List Addr) (H : Hp) : SOut → Prop
  | .nx env S => ∀ σ' as' H', Wx K as H as' H' → StOk K as' H' S → LR K as' H' σ' env → D0.nx σ' H'
  | .rt d S => ∀ v as' H', Wx K as H as' H' → StOk K as' H' S → Rep K as' H' v d → D0.rt v H'
  | .bk env S => ∀ σ' as' H', Wx K as H as' H' → StOk K as' H' S → LR K as' H' σ' env → D0.bk σ' H'
  | .ct env S => ∀ σ' as' H', Wx K as H as' H' → StOk K as' H' S → LR K as' H' σ' env → D0.ct σ' H'
  | .ex x env S => ∀ cls dx σ' as' H', Wx K as H as' H' → StOk K as' H' S → ExR K as' H' cls dx x → LR K as' H' σ' env → W cls dx σ' H'
  | .bad => False
theorem PostS.mono {D0 : Ends} {o : SOut} (w : Wx K as H as' H') (h : PostS K W D0 as H o) : PostS K W D0 as' H' o := by
  cases o with
  | nx env S => exact fun σ2 as2 H2 w2 s r => h σ2 as2 H2 (w.trans w2) s r
  | rt d S => exact fun v as2 H2 w2 s r => h v as2 H2 (w.trans w2) s r
  | bk env S => exact fun σ2 as2 H2 w2 s r => h σ2 as2 H2 (w.trans w2) s r
  | ct env S => exact fun σ2 as2 H2 w2 s r => h σ2 as2 H2 (w.trans w2) s r
  | ex x env S => exact fun c d σ2 as2 H2 w2 s r l => h c d σ2 as2 H2 (w.trans w2) s r l
  | bad => exact h
def tS (K : PySem.W.Frag) (W : WX) (m : Env → Sto → SOut) : TS := fun D0 σ H => ∃ env as S, LR K as H σ env ∧ StOk K as H S ∧ PostS K W D0 as H (m env S)
/-- an evaluation, then a statement's rest -/
theorem PostS.go {α β : Type} {R : List Addr → Hp → β → α → Prop} {D0 : Ends} {o : Out α} {env : Env} {f : α → Sto → SOut} {Q1 : β → Hp → Prop} (lr : LR K as H σ env) (h : PostS K W D0 as H (o.go env f))
    (k : ∀ a S b as' H', Wx K as H as' H' → StOk K as' H' S → R as' H' b a → PostS K W D0 as' H' (f a S) → Q1 b H') : PostG K W R as H σ o Q1 := by
  cases o with
  | ok a S => exact fun b as' H' w s r => k a S b as' H' w s r (PostS.mono w h)
  | ex x S => exact fun c d as' H' w s r => h c d σ as' H' w s r (lr.mono w)
  | bad => exact h

/-! ### targets -/
def tT (K : PySem.W.Frag) : T → TG
  | .nm i => gName i
  | .tp is => gTup K is.length (is.foldr (fun i t => gCons (gName i) t) gNil)
theorem setT_of {t : T} {d : D} {env env' : Env} {v : V} {Q : L2.St → Hp → Prop} (h : setT t d env = some env') (lr : LR K as H σ env) (r : Rep K as H v d) (q : ∀ σ', LR K as H σ' env' → Q σ' H) : tT K t v σ H Q := by
  cases t with
  | nm i =>
    simp only [setT] at h
    by_cases hl : i < env.length
    · rw [if_pos hl] at h
      cases h
      exact q _ (lr.set i r)
    · rw [if_neg hl] at h; cases h
  | tp is =>
    cases r with
    | tup ht hr =>
      simp only [setT] at h
      split at h
      · rename_i hc
        cases h
        obtain ⟨hl, _⟩ := hc
        refine ⟨_, _, rfl, ht, by rw [hr.length]; exact hl.symm, ?_⟩
        -- one after another
        have key : ∀ (is : List Nat) (ds : List D) (vs : List V) (env : Env) (σ : L2.St), is.length = ds.length → Reps K as H vs ds → LR K as H σ env →
            (∀ σ', LR K as H σ' ((is.zip ds).foldl (fun e p => e.set p.1 (some p.2)) env) → Q σ' H) → (is.foldr (fun i t => gCons (gName i) t) gNil) vs σ H Q := by
          intro is
          induction is with
          | nil =>
            intro ds vs env σ hl r lr q
            cases ds with
            | nil => cases r; exact ⟨rfl, q _ lr⟩
            | cons d ds => cases hl
          | cons i is ih =>
            intro ds vs env σ hl r lr q
            cases ds with
            | nil => cases hl
            | cons d ds =>
              cases r with
              | cons r1 r2 =>
                refine ⟨_, _, rfl, ?_⟩
                exact ih ds _ (env.set i (some d)) (σ.set i (some _)) (Nat.succ.inj hl) r2 (lr.set i r1) q
        exact key is _ _ env σ hl hr lr q
      · cases h
    | _ => cases h

/-! ### loops -/
/-- the reading of a walked thing -/
def PostI (K : PySem.W.Frag) (W : WX) (as : List Addr) (H : Hp) (σ : L2.St) (o : Out Src) (R : L2.It → Hp → Prop) : Prop := match o with
  | .ok s S => ∀ J as' H', Wx K as H as' H' → StOk K as' H' S → WalkS K as' H' s J → R J H'
  | .ex x S => ∀ cls dx as' H', Wx K as H as' H' → StOk K as' H' S → ExR K as' H' cls dx x → W cls dx σ H'
  | .bad => False
def tI (K : PySem.W.Frag) (W : WX) (m : Env → Sto → Out Src) : TI := fun σ H R => ∃ env as S, LR K as H σ env ∧ StOk K as H S ∧ PostI K W as H σ (m env S) R
theorem PostI.go {D0 : Ends} {o : Out Src} {env : Env} {f : Src → Sto → SOut} {Q1 : L2.It → Hp → Prop} (lr : LR K as H σ env) (h : PostS K W D0 as H (o.go env f))
    (k : ∀ s S J as' H', Wx K as H as' H' → StOk K as' H' S → WalkS K as' H' s J → PostS K W D0 as' H' (f s S) → Q1 J H') : PostI K W as H σ o Q1 := by
  cases o with
  | ok a S => exact fun b as' H' w s r => k a S b as' H' w s r (PostS.mono w h)
  | ex x S => exact fun c d as' H' w s r => h c d σ as' H' w s r (lr.mono w)
  | bad => exact h
theorem PostI.bind {γ δ : Type} {R' : List Addr → Hp → δ → γ → Prop} {o : Out Src} {f : Src → Sto → Out γ} {Q : δ → Hp → Prop} {Q1 : L2.It → Hp → Prop} (h : PostG K W R' as H σ (o.bind f) Q)
    (k : ∀ a S J as' H', Wx K as H as' H' → StOk K as' H' S → WalkS K as' H' a J → PostG K W R' as' H' σ (f a S) Q → Q1 J H') : PostI K W as H σ o Q1 := by
  cases o with
  | ok a S => exact fun b as' H' w s r => k a S b as' H' w s r (PostG.mono w h)
  | ex x S => exact h
  | bad => exact h
/-- the source from a value -/
theorem PostG.src {o : Out D} {f : D → Sto → Out Src} {R : L2.It → Hp → Prop} {Q1 : VK} (h : PostI K W as H σ (o.bind f) R)
    (k : ∀ a S v as' H', Wx K as H as' H' → StOk K as' H' S → Rep K as' H' v a → PostI K W as' H' σ (f a S) R → Q1 v H') : PostG K W (RE K) as H σ o Q1 := by
  cases o with
  | ok a S =>
    refine fun b as' H' w s r => k a S b as' H' w s r ?_
    have h : PostI K W as H σ (f a S) R := h
    generalize f a S = o2 at h
    cases o2 with
    | ok a S => exact fun v as2 H2 w2 s r => h v as2 H2 (w.trans w2) s r
    | ex x S => exact fun c d as2 H2 w2 s r => h c d as2 H2 (w.trans w2) s r
    | bad => exact h
  | ex x S => exact h
  | bad => exact h

theorem for_turns {s : Src} {J : L2.It} {t : T} {b : Env → Sto → SOut} {D0 : Ends} {as1 : List Addr} {H1 : Hp} {S1 : Sto} {env1 : Env} (wk : WalkS K as1 H1 s J) (lr : LR K as1 H1 σ env1) (so : StOk K as1 H1 S1)
    (po : PostS K W D0 as1 H1 (forO s (fun d env S => setO t d env fun env => b env S) s.len 0 env1 S1)) :
    ∃ Wm : Nat → Nat → L2.St → Hp → Prop, (∃ m, Wm 0 m σ H1) ∧ ∀ i m σ H, Wm i m σ H →
      (J.stop i H ∧ D0.nx σ H) ∨ (J.go i H ∧ ∃ N : L2.St → Hp → Prop, (∀ σ' H', N σ' H' → ∃ m', m' < m ∧ Wm (i + 1) m' σ' H') ∧ ∀ x H', J.yld i H x H' → tT K t x σ H' fun σ2 H2 => tS K W b { D0 with nx := N, ct := N, bk := D0.nx } σ2 H2) := by
  refine ⟨fun i m σ H => m + i = s.len ∧ ∃ env as S, Wx K as1 H1 as H ∧ LR K as H σ env ∧ StOk K as H S ∧ PostS K W D0 as H (forO s (fun d env S => setO t d env fun env => b env S) m i env S), ⟨s.len, rfl, env1, as1, S1, Wx.refl _ _ _, lr, so, po⟩, ?_⟩
  rintro i m σ H ⟨hm, env, as, S, w, lr, so, po⟩
  cases m with
  | zero =>
    left
    have hi : i = s.len := by omega
    subst hi
    have po : PostS K W D0 as H (if s.fin S = true then .nx env S else .bad) := po
    by_cases hf : s.fin S = true
    · rw [if_pos hf] at po
      exact ⟨wk.stop as H S w so hf, po σ as H (Wx.refl _ _ _) so lr⟩
    · rw [if_neg hf] at po; exact po.elim
  | succ m =>
    right
    have po : PostS K W D0 as H (match s.at S i with
      | some d => match setO t d env (fun env => b env S) with
        | .nx env S => forO s (fun d env S => setO t d env fun env => b env S) m (i + 1) env S
        | .ct env S => forO s (fun d env S => setO t d env fun env => b env S) m (i + 1) env S
        | .bk env S => .nx env S
        | o => o
      | none => .bad) := po
    cases e : s.at S i with
    | none => rw [e] at po; exact po.elim
    | some d =>
      rw [e] at po
      have po : PostS K W D0 as H (match setO t d env (fun env => b env S) with
        | .nx env S => forO s (fun d env S => setO t d env fun env => b env S) m (i + 1) env S
        | .ct env S => forO s (fun d env S => setO t d env fun env => b env S) m (i + 1) env S
        | .bk env S => .nx env S
        | o => o) := po
      obtain ⟨hg, hy⟩ := wk.turn i d as H S w so (by omega) e
      refine ⟨hg, fun σ' H' => ∃ env as S, Wx K as1 H1 as H' ∧ LR K as H' σ' env ∧ StOk K as H' S ∧ PostS K W D0 as H' (forO s (fun d env S => setO t d env fun env => b env S) m (i + 1) env S), fun σ' H' n => ⟨m, Nat.lt_succ_self m, by omega, n⟩, fun x H' y => ?_⟩
      obtain ⟨w2, so2, rx⟩ := hy x H' y
      cases e2 : setT t d env with
      | none =>
        have : setO t d env (fun env => b env S) = .bad := by unfold setO; rw [e2]
        rw [this] at po
        exact po.elim
      | some env' =>
        have e3 : setO t d env (fun env => b env S) = b env' S := by unfold setO; rw [e2]
        rw [e3] at po
        refine setT_of e2 (lr.mono w2) rx fun σ2 lr2 => ⟨env', as, S, lr2, so2, ?_⟩
        have w12 := w.trans w2
        cases e4 : b env' S with
        | nx env2 S2 =>
          rw [e4] at po
          exact fun σ3 as3 H3 w3 so3 lr3 => ⟨env2, as3, S2, w12.trans w3, lr3, so3, PostS.mono (w2.trans w3) po⟩
        | ct env2 S2 =>
          rw [e4] at po
          exact fun σ3 as3 H3 w3 so3 lr3 => ⟨env2, as3, S2, w12.trans w3, lr3, so3, PostS.mono (w2.trans w3) po⟩
        | bk env2 S2 =>
          rw [e4] at po
          exact fun σ3 as3 H3 w3 so3 lr3 => po σ3 as3 H3 (w2.trans w3) so3 lr3
        | rt v S2 =>
          rw [e4] at po
          exact fun v as3 H3 w3 so3 r3 => po v as3 H3 (w2.trans w3) so3 r3
        | ex x env2 S2 =>
          rw [e4] at po
          exact fun c dd σ3 as3 H3 w3 so3 x3 lr3 => po c dd σ3 as3 H3 (w2.trans w3) so3 x3 lr3
        | bad => rw [e4] at po; exact po.elim
theorem tFor_of {m : Env → Sto → Out Src} {t : T} {b : Env → Sto → SOut} {D0 : Ends} (h : tS K W (fun env S => (m env S).go env fun s S => if s.len < LEN then forO s (fun d env S => setO t d env fun env => b env S) s.len 0 env S else .bad) D0 σ H) :
    tFor (tI K W m) (tT K t) (tS K W b) D0 σ H := by
  obtain ⟨env, as, S, lr, so, po⟩ := h
  refine ⟨env, as, S, lr, so, PostI.go lr po fun s S1 J as1 H1 w1 so1 wk po1 => ?_⟩
  by_cases hl : s.len < LEN
  · rw [if_pos hl] at po1
    exact for_turns wk (lr.mono w1) so1 po1
  · rw [if_neg hl] at po1; exact po1.elim
theorem tWhile_of {t : Env → Sto → Out Bool} {b : Env → Sto → SOut} {n : Nat} {D0 : Ends} (h : tS K W (fun env S => whlO t b n env S) D0 σ H) : tWhile (tQ K W t) (tS K W b) D0 σ H := by
  obtain ⟨env, as, S, lr, so, po⟩ := h
  refine ⟨fun m σ H => ∃ env as S, LR K as H σ env ∧ StOk K as H S ∧ PostS K W D0 as H (whlO t b m env S), ⟨n, env, as, S, lr, so, po⟩, ?_⟩
  rintro m σ H ⟨env, as, S, lr, so, po⟩
  cases m with
  | zero => exact po.elim
  | succ m =>
    have po : PostS K W D0 as H ((t env S).go env fun k S => if k = true then match b env S with
        | .nx env S => whlO t b m env S
        | .ct env S => whlO t b m env S
        | .bk env S => .nx env S
        | o => o
      else .nx env S) := po
    refine ⟨env, as, S, lr, so, PostS.go lr po fun k S1 k' as1 H1 w1 so1 hk po1 => ?_⟩
    have hk : k' = k := hk
    subst hk
    cases k' with
    | false => exact po1 σ as1 H1 (Wx.refl _ _ _) so1 (lr.mono w1)
    | true =>
      have po1 : PostS K W D0 as1 H1 (match b env S1 with
        | .nx env S => whlO t b m env S
        | .ct env S => whlO t b m env S
        | .bk env S => .nx env S
        | o => o) := po1
      show ∃ N : L2.St → Hp → Prop, _
      refine ⟨fun σ H => ∃ env as S, LR K as H σ env ∧ StOk K as H S ∧ PostS K W D0 as H (whlO t b m env S), fun σ' H' n => ⟨m, Nat.lt_succ_self m, n⟩, env, as1, S1, lr.mono w1, so1, ?_⟩
      cases e4 : b env S1 with
      | nx env2 S2 =>
        rw [e4] at po1
        exact fun σ3 as3 H3 w3 so3 lr3 => ⟨env2, as3, S2, lr3, so3, PostS.mono w3 po1⟩
      | ct env2 S2 =>
        rw [e4] at po1
        exact fun σ3 as3 H3 w3 so3 lr3 => ⟨env2, as3, S2, lr3, so3, PostS.mono w3 po1⟩
      | bk env2 S2 =>
        rw [e4] at po1
        exact po1
      | rt v S2 =>
        rw [e4] at po1
        exact po1
      | ex x env2 S2 =>
        rw [e4] at po1
        exact po1
      | bad => rw [e4] at po1; exact po1.elim

/-! ### comprehensions -/
theorem Rep.cast (hp : as <+: as') (ht : ∀ a c, Cst K H a c → Cst K H' a c) {v : V} {d : D} (r : Rep K as H v d) : Rep K as' H' v d := by
  refine Rep.rec (motive_1 := fun v d _ => Rep K as' H' v d) (motive_2 := fun vs ds _ => Reps K as' H' vs ds) .non .bl .int .str .bty (fun h _ ih => .tup (ht _ (.tup _) h) ih) (fun h => .ref ?_) (fun h _ ih => .kls (ht _ (.kls _) h) ih) .nil (fun _ _ a b => .cons a b) r
  obtain ⟨t, rfl⟩ := hp
  exact List.getElem?_append_left (List.getElem?_eq_some_iff.mp h).1 ▸ h
theorem Reps.cast (hp : as <+: as') (ht : ∀ a c, Cst K H a c → Cst K H' a c) : ∀ {vs : List V} {ds : List D}, Reps K as H vs ds → Reps K as' H' vs ds
  | _, _, .nil => .nil
  | _, _, .cons r t => .cons (Rep.cast hp ht r) (Reps.cast hp ht t)
/-- an object outside the store is written -/
theorem Wx.out {p : Addr} {o u : HO} {as1 : List Addr} {H1 : Hp} (w : Wx K as1 H1 as H) (h1 : H1 p = none) (hp : H p = some u) (hu : ∀ xs, u ≠ .tup xs) (hf : ∀ ob x, u ≠ .frz ob x) : Wx K as1 H1 as (upd H p o) := ⟨w.pre, w.new, fun b v e hb ht => by
  rw [upd_ne (ne_of_none e h1)]; exact w.keep b v e hb ht, fun a c q => (w.csts a c q).keep fun v e i => by
  rw [upd_ne fun z => by
    rw [z, hp] at e
    cases e
    rcases i with ⟨_, i⟩ | ⟨_, _, i⟩
    · exact hu _ i
    · exact hf _ _ i]
  exact e⟩
theorem StOk.out {S : Sto} {p : Addr} {vs : List V} {o : HO} (s : StOk K as H S) (hp : p ∉ as) (h : H p = some (.lst vs)) : StOk K as (upd H p o) S := ⟨s.len, s.nd, fun n u e => by
  obtain ⟨a, ha, r⟩ := s.ob n u e
  have hne : a ≠ p := fun z => hp (by rw [← z]; exact List.mem_of_getElem? ha)
  refine ⟨a, ha, ?_⟩
  cases u with
  | lst ds => obtain ⟨ws, h1, q⟩ := r; exact ⟨ws, by rw [upd_ne hne]; exact h1, q.cast (List.prefix_refl _) fun _ _ => Cst.upd_lst h⟩
  | rol ds => obtain ⟨ws, ob, h1, q⟩ := r; exact ⟨ws, ob, by rw [upd_ne hne]; exact h1, q.cast (List.prefix_refl _) fun _ _ => Cst.upd_lst h⟩
  | dct kvs => exact r.elim
  | ins c fs => exact r.elim, Tabs.upd_lst s.tabs h⟩
/-- a list outside the store comes into it -/
theorem StOk.adopt {S : Sto} {p : Addr} {vs : List V} {ds : List D} (s : StOk K as H S) (hp : p ∉ as) (h : H p = some (.lst vs)) (r : Reps K as H vs ds) : StOk K (as ++ [p]) H (S ++ [.lst ds]) where
  tabs := s.tabs
  len := by simp [s.len]
  nd := List.nodup_append.mpr ⟨s.nd, by simp, fun a ha b hb => by
    have e : b = p := by simpa using hb
    rw [e]; intro z; subst z; exact hp ha⟩
  ob := fun n u e => by
    by_cases hn : n < S.length
    · rw [List.getElem?_append_left hn] at e
      obtain ⟨a, ha, q⟩ := s.ob n u e
      refine ⟨a, by rw [List.getElem?_append_left (by rw [s.len]; exact hn)]; exact ha, ?_⟩
      cases u with
      | lst ds => obtain ⟨ws, h1, q⟩ := q; exact ⟨ws, h1, q.cast (List.prefix_append _ _) fun _ _ z => z⟩
      | rol ds => obtain ⟨ws, ob, h1, q⟩ := q; exact ⟨ws, ob, h1, q.cast (List.prefix_append _ _) fun _ _ z => z⟩
      | dct kvs => exact q.elim
      | ins c fs => exact q.elim
    · rw [List.getElem?_append_right (by omega)] at e
      have e0 : n - S.length = 0 := by
        have := (List.getElem?_eq_some_iff.mp e).1
        simp at this; omega
      rw [e0] at e
      have e1 : SO.lst ds = u := by simpa using e
      subst e1
      exact ⟨p, by rw [List.getElem?_append_right (by rw [s.len]; omega), s.len, e0]; rfl, vs, h, r.cast (List.prefix_append _ _) fun _ _ z => z⟩
theorem wipe_get (σ : L2.St) : ∀ (vs : List Nat) (i : Nat), (L2.wipe σ vs)[i]? = if i ∈ vs then σ[i]?.map (fun _ => none) else σ[i]?
  | [], i => by simp [L2.wipe]
  | v :: vs, i => by
    show ((L2.wipe σ vs).set v none)[i]? = _
    rw [List.getElem?_set, wipe_get σ vs i, wipe_length]
    by_cases h : v = i
    · subst h
      by_cases hl : v < σ.length
      · simp [hl]
      · simp [hl]
    · by_cases h2 : i ∈ vs
      · simp [h, h2]
      · simp [h, h2, Ne.symm h]
theorem wipe_set {σ : L2.St} {vs : List Nat} {σ2 : L2.St} (h : ∀ i, i ∉ vs → σ2[i]? = (L2.wipe σ vs)[i]?) (hl : σ2.length = σ.length) : L2.wipe σ2 vs = L2.wipe σ vs := by
  apply List.ext_getElem?
  intro i
  rw [wipe_get, wipe_get]
  by_cases hi : i ∈ vs
  · rw [if_pos hi, if_pos hi]
    by_cases hb : i < σ.length
    · rw [List.getElem?_eq_getElem hb, List.getElem?_eq_getElem (by rw [hl]; exact hb)]; rfl
    · rw [List.getElem?_eq_none (by omega), List.getElem?_eq_none (by omega)]
  · rw [if_neg hi, if_neg hi, h i hi, wipe_get, if_neg hi]
/-- the slots that a target stores -/
def T.slots : T → List Nat
  | .nm i => [i]
  | .tp is => is
theorem setT_wipe {t : T} {d : D} {env env' : Env} {v : V} {vs : List Nat} {Q : L2.St → Hp → Prop} (h : setT t d (wipeE env vs) = some env') (lr : LR K as H σ env) (r : Rep K as H v d) (hs : ∀ i ∈ t.slots, i ∈ vs) (q : ∀ σ', LR K as H σ' env' → L2.wipe σ' vs = L2.wipe σ vs → Q σ' H) : tT K t v (L2.wipe σ vs) H Q := by
  cases t with
  | nm i =>
    simp only [setT] at h
    by_cases hl : i < (wipeE env vs).length
    · rw [if_pos hl] at h
      cases h
      refine q _ ((lr.wipe vs).set i r) (wipe_set (fun j hj => ?_) (by rw [List.length_set, wipe_length]))
      rw [List.getElem?_set_ne (fun z => hj (by rw [← z]; exact hs i (by simp [T.slots])))]
    · rw [if_neg hl] at h; cases h
  | tp is =>
    cases r with
    | tup ht hr =>
      simp only [setT] at h
      split at h
      · rename_i hc
        cases h
        obtain ⟨hl, _⟩ := hc
        refine ⟨_, _, rfl, ht, by rw [hr.length]; exact hl.symm, ?_⟩
        have key : ∀ (is : List Nat) (ds : List D) (ws : List V) (env : Env) (σ1 : L2.St), is.length = ds.length → (∀ i ∈ is, i ∈ vs) → Reps K as H ws ds → LR K as H σ1 env → (∀ i, i ∉ vs → σ1[i]? = (L2.wipe σ vs)[i]?) → σ1.length = σ.length →
            (∀ σ', LR K as H σ' ((is.zip ds).foldl (fun e p => e.set p.1 (some p.2)) env) → L2.wipe σ' vs = L2.wipe σ vs → Q σ' H) → (is.foldr (fun i t => gCons (gName i) t) gNil) ws σ1 H Q := by
          intro is
          induction is with
          | nil =>
            intro ds ws env σ1 hl hs r lr h1 h2 q
            cases ds with
            | nil => cases r; exact ⟨rfl, q _ lr (wipe_set h1 h2)⟩
            | cons d ds => cases hl
          | cons i is ih =>
            intro ds ws env σ1 hl hs r lr h1 h2 q
            cases ds with
            | nil => cases hl
            | cons d ds =>
              cases r with
              | cons r1 r2 =>
                refine ⟨_, _, rfl, ?_⟩
                refine ih ds _ (env.set i (some d)) (σ1.set i (some _)) (Nat.succ.inj hl) (fun j hj => hs j (List.mem_cons_of_mem _ hj)) r2 (lr.set i r1) (fun j hj => ?_) (by rw [List.length_set]; exact h2) q
                rw [List.getElem?_set_ne (fun z => hj (by rw [← z]; exact hs i List.mem_cons_self))]
                exact h1 j hj
        exact key is _ _ _ _ hl hs hr (lr.wipe vs) (fun i _ => rfl) (wipe_length σ vs) q
      · cases h
    | _ => cases h
abbrev W0 : WX := fun _ _ _ _ => False
theorem noex_post {α β : Type} {R : List Addr → Hp → β → α → Prop} {γ δ : Type} {R' : List Addr → Hp → δ → γ → Prop} {o : Out α} {f : α → Sto → Out γ} {Q : δ → Hp → Prop} {Q1 : β → Hp → Prop} {as1 : List Addr} {H1 : Hp} {σ1 : L2.St}
    (h : PostG K W R' as1 H1 σ (o.noex.bind f) Q) (k : ∀ a S b as' H', Wx K as H as' H' → StOk K as' H' S → R as' H' b a → PostG K W R' as1 H1 σ (f a S) Q → Q1 b H') : PostG K W0 R as H σ1 o Q1 := by
  cases o with
  | ok a S => exact fun b as' H' w s r => k a S b as' H' w s r h
  | ex x S => exact h.elim
  | bad => exact h
/-- a comprehension, with a test -/
theorem lc_turns {s : Src} {J : L2.It} {t : T} {vs : List Nat} {q : Env → Sto → Out Bool} {e : Env → Sto → Out D} {env : Env} {as1 : List Addr} {H1 : Hp} {S1 : Sto} {Q : VK} {p : Addr} (wk : WalkS K as1 H1 s J) (lr : LR K as1 H1 σ env) (so : StOk K as1 H1 S1) (hsz : s.len < LEN) (hs : ∀ i ∈ t.slots, i ∈ vs) (hp : H1 p = none)
    (po : PostG K W (RE K) as1 H1 σ ((mapO s (fun d S => match setT t d (wipeE env vs) with
      | some env' => (q env' S).noex.bind fun k S => if k = true then (e env' S).noex.bind fun v S => .ok [v] S else .ok [] S
      | none => .bad) s.len 0 S1).bind fun ds S => .ok (.ref S.length) (S ++ [.lst ds])) Q) :
    ∃ Wm : Nat → Nat → Hp → Prop, (∃ m, Wm 0 m (upd H1 p (.lst []))) ∧ ∀ i m H, Wm i m H →
      (J.stop i H ∧ Q (.ref p) H) ∨ (J.go i H ∧ ∃ Nx : Hp → Prop, (∀ H', Nx H' → ∃ m', m' < m ∧ Wm (i + 1) m' H') ∧ ∀ x H', J.yld i H x H' → tT K t x (L2.wipe σ vs) H' fun σ2 H2 => L2.wipe σ2 vs = L2.wipe σ vs ∧ tQ K W0 q σ2 H2 fun b H3 =>
        if b = true then tE K W0 e σ2 H3 fun y H4 => ∃ acc, H4 p = some (.lst acc) ∧ acc.length < sizeLine ∧ Nx (upd H4 p (.lst (acc ++ [y]))) else Nx H3) := by
  let F : D → Sto → Out (List D) := fun d S => match setT t d (wipeE env vs) with
      | some env' => (q env' S).noex.bind fun k S => if k = true then (e env' S).noex.bind fun v S => .ok [v] S else .ok [] S
      | none => .bad
  let Wm : Nat → Nat → Hp → Prop := fun i m H => m + i = s.len ∧ ∃ as S acc dcc, Wx K as1 H1 as H ∧ StOk K as H S ∧ p ∉ as ∧ H p = some (.lst acc) ∧ Reps K as H acc dcc ∧ dcc.length ≤ i ∧ PostG K W (RE K) as1 H1 σ ((mapO s F m i S).bind fun ds S => .ok (.ref S.length) (S ++ [.lst (dcc ++ ds)])) Q
  have wp0 : Wx K as1 H1 as1 (upd H1 p (.lst [])) := Wx.newT hp
  refine ⟨Wm, ⟨s.len, rfl, as1, S1, [], [], wp0, so.newT hp, so.fresh hp, upd_same, .nil, Nat.le_refl _, po⟩, ?_⟩
  rintro i m H ⟨hm, as, S, acc, dcc, w, so2, hpa, hpH, racc, hl, po⟩
  cases m with
  | zero =>
    left
    have hi : i = s.len := by omega
    subst hi
    have po : PostG K W (RE K) as1 H1 σ ((if s.fin S = true then (Out.ok ([] : List D) S : Out (List D)) else .bad).bind fun ds S => (Out.ok (D.ref S.length) (S ++ [SO.lst (dcc ++ ds)]) : Out D)) Q := po
    by_cases hf : s.fin S = true
    · rw [if_pos hf] at po
      refine ⟨wk.stop as H S w so2 hf, ?_⟩
      have po : PostG K W (RE K) as1 H1 σ (Out.ok (D.ref S.length) (S ++ [SO.lst (dcc ++ [])])) Q := po
      rw [List.append_nil] at po
      refine po (.ref p) (as ++ [p]) H ⟨w.pre.trans (List.prefix_append _ _), fun a ha => ?_, w.keep, w.csts⟩ (so2.adopt hpa hpH racc) (Rep.newL so2)
      rcases List.mem_append.mp ha with z | z
      · exact w.new a z
      · have e : a = p := by simpa using z
        rw [e]; exact .inr fun o z => by rw [hp] at z; cases z
    · rw [if_neg hf] at po; exact po.elim
  | succ m =>
    right
    have po : PostG K W (RE K) as1 H1 σ ((match s.at S i with
      | some d => ((F d S).bind fun ys S => (mapO s F m (i + 1) S).bind fun zs S => (Out.ok (ys ++ zs) S : Out (List D)))
      | none => .bad : Out (List D)).bind fun ds S => (Out.ok (D.ref S.length) (S ++ [SO.lst (dcc ++ ds)]) : Out D)) Q := po
    cases e0 : s.at S i with
    | none => rw [e0] at po; exact po.elim
    | some d =>
      rw [e0] at po
      have po : PostG K W (RE K) as1 H1 σ (((F d S).bind fun ys S => (mapO s F m (i + 1) S).bind fun zs S => .ok (ys ++ zs) S).bind fun ds S => .ok (.ref S.length) (S ++ [.lst (dcc ++ ds)])) Q := po
      obtain ⟨hg, hy⟩ := wk.turn i d as H S w so2 (by omega) e0
      refine ⟨hg, fun H' => ∃ as S acc dcc, Wx K as1 H1 as H' ∧ StOk K as H' S ∧ p ∉ as ∧ H' p = some (.lst acc) ∧ Reps K as H' acc dcc ∧ dcc.length ≤ i + 1 ∧ PostG K W (RE K) as1 H1 σ ((mapO s F m (i + 1) S).bind fun ds S => .ok (.ref S.length) (S ++ [.lst (dcc ++ ds)])) Q,
        fun H' n => ⟨m, Nat.lt_succ_self m, by omega, n⟩, fun x H' y => ?_⟩
      obtain ⟨w2, so3, rx⟩ := hy x H' y
      cases e2 : setT t d (wipeE env vs) with
      | none =>
        have : F d S = .bad := by show (match setT t d (wipeE env vs) with | some env' => _ | none => _) = _; rw [e2]
        rw [this] at po
        exact po.elim
      | some env' =>
        have e3 : F d S = (q env' S).noex.bind fun k S => if k = true then (e env' S).noex.bind fun v S => .ok [v] S else .ok [] S := by
          show (match setT t d (wipeE env vs) with | some env' => _ | none => _) = _; rw [e2]
        rw [e3] at po
        have bassoc : ∀ {α β γ : Type} (o : Out α) (f : α → Sto → Out β) (g : β → Sto → Out γ), (o.bind f).bind g = o.bind fun a S => (f a S).bind g := fun o f g => by cases o <;> rfl
        rw [bassoc, bassoc] at po
        refine setT_wipe e2 (lr.mono (w.trans w2)) rx hs fun σ2 lr2 hw => ⟨hw, env', as, S, lr2, so3, noex_post po fun k S3 k' as3 H3 w3 so4 hk po3 => ?_⟩
        have hk : k' = k := hk
        subst hk
        have hp2 : H' p = some (.lst acc) := w2.keep p _ hpH hpa (fun _ z => nomatch z)
        have hp3 : H3 p = some (.lst acc) := w3.keep p _ hp2 hpa (fun _ z => nomatch z)
        have hpa3 : p ∉ as3 := fun z => by
          rcases w3.new p z with z | z
          · exact hpa z
          · obtain ⟨_, z⟩ := z _ hp2; cases z
        cases k' with
        | false =>
          show ∃ as S acc dcc, _
          have po3 : PostG K W (RE K) as1 H1 σ (((mapO s F m (i + 1) S3).bind fun zs S => .ok ([] ++ zs) S).bind fun ds S => .ok (.ref S.length) (S ++ [.lst (dcc ++ ds)])) Q := po3
          rw [bassoc] at po3
          exact ⟨as3, S3, acc, dcc, (w.trans w2).trans w3, so4, hpa3, hp3, (racc.mono w2).mono w3, Nat.le_succ_of_le hl, po3⟩
        | true =>
          show tE K W0 e σ2 H3 _
          have po3 : PostG K W (RE K) as1 H1 σ (((e env' S3).noex.bind fun v S => Out.ok [v] S).bind fun a S => ((mapO s F m (i + 1) S).bind fun zs S => .ok (a ++ zs) S).bind fun ds S => .ok (.ref S.length) (S ++ [.lst (dcc ++ ds)])) Q := po3
          rw [bassoc] at po3
          refine ⟨env', as3, S3, lr2.mono w3, so4, noex_post po3 fun v S4 y as4 H4 w4 so5 ry po4 => ?_⟩
          have hp4 : H4 p = some (.lst acc) := w4.keep p _ hp3 hpa3 (fun _ z => nomatch z)
          have hpa4 : p ∉ as4 := fun z => by
            rcases w4.new p z with z | z
            · exact hpa3 z
            · obtain ⟨_, z⟩ := z _ hp3; cases z
          have wall := ((w.trans w2).trans w3).trans w4
          have racc4 : Reps K as4 H4 acc dcc := ((racc.mono w2).mono w3).mono w4
          refine ⟨acc, hp4, ?_, as4, S4, acc ++ [y], dcc ++ [v], wall.out hp hp4 (fun _ z => nomatch z) (fun _ _ z => nomatch z), so5.out hpa4 hp4, hpa4, upd_same, (racc4.append (.cons ry .nil)).cast (List.prefix_refl _) (fun _ _ => Cst.upd_lst hp4), by simp; exact hl, ?_⟩
          · rw [racc4.length]; exact len_lt (by omega)
          · have po4 : PostG K W (RE K) as1 H1 σ (((mapO s F m (i + 1) S4).bind fun zs S => .ok ([v] ++ zs) S).bind fun ds S => .ok (.ref S.length) (S ++ [.lst (dcc ++ ds)])) Q := po4
            rw [bassoc] at po4
            have e5 : (fun (ds : List D) (S : Sto) => (Out.ok (D.ref S.length) (S ++ [SO.lst (dcc ++ [v] ++ ds)]) : Out D)) = fun zs S => (Out.ok ([v] ++ zs) S).bind fun ds S => .ok (.ref S.length) (S ++ [.lst (dcc ++ ds)]) := by
              funext zs S
              show (Out.ok (D.ref S.length) (S ++ [SO.lst (dcc ++ [v] ++ zs)]) : Out D) = .ok (.ref S.length) (S ++ [.lst (dcc ++ ([v] ++ zs))])
              rw [List.append_assoc]
            rw [e5]
            exact po4
end
end DI

/-! DI7: does a text's tree bear a term of the language; if so, it does what the term means. Expressions. -/
namespace DI
open PySem PySem.Spec PyProof.Rows L2

/-! ### what a tree must not be -/
def noStar : Expr → Bool
  | .Starred .. => false
  | _ => true
def noComp : Expr → Bool
  | .ListComp .. | .SetComp .. | .DictComp .. => false
  | _ => true
def noSet : Expr → Bool
  | .Set .. => false
  | _ => true
def noSup : Expr → Bool
  | .Call (.Name ..) [] [] _ => false
  | _ => true
def plainT : Expr → Bool
  | .UnaryOp .Not .. | .BoolOp .. | .IfExp .. | .Compare .. => false
  | _ => true
def plainIx : Expr → Bool
  | .Slice .. => false
  | _ => true
section
variable {e : Expr} {es : List Expr} {env : PySem.Env}
theorem star_of (h : noStar e = true) : starEach (e :: es) env = (false, eval e env) :: starEach es env := by
  cases e <;> first | rfl | cases h
theorem noStars (pos : Pos) : ∀ {es : List Expr}, es.all noStar = true → (backTo pos (starEach es env)).any (·.1) = false
  | [], _ => rfl
  | e :: es, h => by
    obtain ⟨h1, h2⟩ := Bool.and_eq_true_iff.mp (show (noStar e && es.all noStar) = true from h)
    rw [star_of h1]
    show (false || (backTo pos (starEach es env)).any (·.1)) = false
    rw [noStars pos h2]
    rfl
theorem swaps_of {t : Option Expr} {l : Nat} (h : noComp e = true) : swapsWith e t l env = pure false := by
  cases e <;> first | rfl | cases h
theorem fold_of {x : Value} (h : noSet e = true) : foldedSetIterable e env x = pure x := by
  cases e <;> first | rfl | cases h
theorem marks_of {op : CmpOp} (h : noSet e = true) : behindInMarks op e = false := by
  cases e <;> first | rfl | cases h
theorem base_of {attr : Str} {w : Sem Value} (h : noSup e = true) : attributeBase e attr env w = w := by
  cases e with
  | Call f as ks p =>
    cases f with
    | Name id q =>
      cases as with
      | nil => cases ks with
        | nil => cases h
        | cons k r => rfl
      | cons a r => rfl
    | _ => rfl
  | _ => rfl
theorem truth_of (h : plainT e = true) (w : Sem Value) : isTrue e env w = (do let v ← w; standAt e.pos; holding [v] (truthy v)) := by
  cases e with
  | UnaryOp op x p => cases op <;> first | rfl | cases h
  | BoolOp => cases h
  | IfExp => cases h
  | Compare => cases h
  | _ => rfl
theorem ix_of (h : plainIx e = true) : PlainIx e := fun o i => by
  cases e <;> first | rfl | cases h
end

/-! ### names -/
def isK (sc : Scope) (x : Str) (k : NameKind) : Bool := decide (sc.names.lookup x = some k)
def visB (sc : Scope) (x : Str) : Bool := isK sc x .local || (isK sc x .cell || isK sc x .free)
def glB (sc : Scope) (x : Str) : Bool := isK sc x .globalImplicit && !(x == ("__debug__" : Str))
def plainN (x : Str) : Bool := !(x == ("__debug__" : Str)) && !(x == ("__classdict__" : Str))
def opOf : Bop → Operator
  | .add => .Add | .sub => .Sub | .mul => .Mult | .fdiv => .FloorDiv | .mod => .Mod | .pow => .Pow
def copOf : Cop → CmpOp
  | .eq => .Eq | .ne => .NotEq | .lt => .Lt | .le => .LtE | .gt => .Gt | .ge => .GtE | .isIn => .In | .notIn => .NotIn | .is_ => .Is | .isNot => .IsNot
def biName : Bi → Str
  | .len => "len" | .abs => "abs" | .max2 => "max" | .min2 => "min" | .list => "list" | .tuple => "tuple" | .int => "int" | .all => "all" | .isinst => "isinstance"
def meName : Me → Str
  | .append => "append" | .pop => "pop"
/-- the built-in names that are used -/
def bltNames : List Str := ["len", "abs", "max", "min", "list", "tuple", "int", "all", "isinstance", "range", "enumerate", "dict", "bool", "str"]
def A.len : A → Nat
  | .nil => 0
  | .cons _ a => a.len + 1
/-- may a call with m written values be -/
def Tab.may (T : Tab) (f : Str) (m : Nat) : Bool := match T.get f with
  | some fc => decide (m ≤ fc.np) && decide (fc.np - m ≤ fc.dfl.length)
  | none => false
def chkT (N : List Str) (st : Str → Bool) : T → Expr → Bool
  | .nm i, .Name x _ => decide (N[i]? = some x) && st x
  | .tp is, .Tuple es _ _ => chkTs N st is es
  | _, _ => false
where chkTs (N : List Str) (st : Str → Bool) : List Nat → List Expr → Bool
  | [], [] => true
  | i :: is, .Name x _ :: es => decide (N[i]? = some x) && (st x && chkTs N st is es)
  | _, _ => false
def isTupE : Expr → Bool
  | .Tuple .. => true
  | _ => false
def btOk (x : Str) (n : String) : Bool := match bootBuiltins x with
  | some (.type m) => decide (m = n)
  | _ => false

/-- a lambda without parameters -/
def noArgs : Arguments → Bool
  | ⟨[], [], none, [], [], none, []⟩ => true
  | _ => false
def isCmpE : E → Bool
  | .cmp .. => true
  | _ => false
mutual
def chkE (T : Tab) (N : List Str) : E → Scope → Expr → Bool
  | .var i, sc, .Name x _ => decide (N[i]? = some x) && (visB sc x && plainN x)
  | .glo x, sc, .Name y _ => decide (x = y) && (glB sc x && (T.G x).isSome)
  | .bt x n, sc, .Name y _ => decide (x = y) && (glB sc x && (btOk x n && (bltNames.contains x && !(x == ("__name__" : Str)))))
  | .int i, _, .Constant (.int j) _ _ => decide (i = j)
  | .str s, _, .Constant (.str z) _ _ => decide (s = z)
  | .bl b, _, .Constant (.bool k) _ _ => decide (b = k)
  | .non, _, .Constant .none _ _ => true
  | .bin o a b, sc, .BinOp x op y _ => decide (opOf o = op) && (chkE T N a sc x && chkE T N b sc y)
  | .neg a, sc, .UnaryOp .USub x _ => chkE T N a sc x
  | .cmp o a b, sc, .Compare x [op] [y] _ => decide (copOf o = op) && (noSet y && (chkE T N a sc x && chkE T N b sc y))
  | .andV a b, sc, .BoolOp .And (x :: y :: rest) pos => chkE T N a sc x && (match rest with
    | [] => chkE T N b sc y
    | z :: r => chkE T N b sc (.BoolOp .And (y :: z :: r) pos))
  | .orV a b, sc, .BoolOp .Or (x :: y :: rest) pos => chkE T N a sc x && (match rest with
    | [] => chkE T N b sc y
    | z :: r => chkE T N b sc (.BoolOp .Or (y :: z :: r) pos))
  | .notV a, sc, .UnaryOp .Not x _ => chkE T N a sc x
  | .ite t a b, sc, .IfExp c x y _ => chkQ T N t sc c && (chkE T N a sc x && chkE T N b sc y)
  | .tup a, sc, .Tuple es _ _ => chkA T N a sc es
  | .lst a, sc, .List es _ => chkA T N a sc es
  | .call f a, sc, .Call (.Name g _) es [] _ => decide (f = g) && (glB sc f && (T.may f a.len && chkA T N a sc es))
  | .bi b a, sc, .Call (.Name g _) (e :: es) [] _ => decide (biName b = g) && (glB sc g && chkA T N a sc (e :: es))
  | .me m o a, sc, .Call (.Attribute x name apos) es [] cpos => decide (meName m = name) && (decide (apos.endLine = cpos.line) && (noSup x && (decide (es.length < 20) && (chkE T N o sc x && chkA T N a sc es))))
  | .ix a i, sc, .Subscript x y _ => plainIx y && (chkE T N a sc x && chkE T N i sc y)
  | .sl a lo hi, sc, .Subscript x (.Slice l h none _) _ => chkE T N a sc x && (chkO T N lo sc l && chkO T N hi sc h)
  | .rev a, sc, .Subscript x (.Slice none none (some (.UnaryOp .USub (.Constant (.int i) _ _) _)) _) _ => decide (i = 1) && chkE T N a sc x
  | .lc own t i elt, sc, .ListComp el [⟨tg, iter, [], ia⟩] scope _ => decide (ia = 0) && (blkC N sc scope own && (noSet iter && (chkT N (fun x => isK scope x .local || isK scope x .cell) t tg && ((t.slots.all fun i => (own.map (·.2)).contains i) && (chkI T N i sc iter (isTupE tg) && chkE T N elt (relS scope sc) el)))))
  | .lcIf own t i c elt, sc, .ListComp el [⟨tg, iter, [q], ia⟩] scope _ => decide (ia = 0) && (blkC N sc scope own && (noSet iter && (chkT N (fun x => isK scope x .local || isK scope x .cell) t tg && ((t.slots.all fun i => (own.map (·.2)).contains i) && (chkI T N i sc iter (isTupE tg) && (chkQ T N c (relS scope sc) q && chkE T N elt (relS scope sc) el))))))
  | .tryL a, sc, .Call (.Name g _) [x] [] _ => decide (g = "_law_try") && (glB sc g && (match x with
    | .Lambda ps body scope _ => LamX.lamSB sc scope && (noArgs ps && chkE T N a scope body)
    | _ => false))
  | _, _, _ => false
def chkQ (T : Tab) (N : List Str) : Q → Scope → Expr → Bool
  | .val e, sc, x => (plainT x || isCmpE e) && chkE T N e sc x
  | .and_ a b, sc, .BoolOp .And (x :: y :: rest) pos => chkQ T N a sc x && (match rest with
    | [] => chkQ T N b sc y
    | z :: r => chkQ T N b sc (.BoolOp .And (y :: z :: r) pos))
  | .or_ a b, sc, .BoolOp .Or (x :: y :: rest) pos => chkQ T N a sc x && (match rest with
    | [] => chkQ T N b sc y
    | z :: r => chkQ T N b sc (.BoolOp .Or (y :: z :: r) pos))
  | .not_ a, sc, .UnaryOp .Not x _ => chkQ T N a sc x
  | _, _, _ => false
def chkA (T : Tab) (N : List Str) : A → Scope → List Expr → Bool
  | .nil, _, [] => true
  | .cons e a, sc, x :: es => noStar x && (chkE T N e sc x && chkA T N a sc es)
  | _, _, _ => false
def chkO (T : Tab) (N : List Str) : Op → Scope → Option Expr → Bool
  | .no, _, none => true
  | .ex e, sc, some x => chkE T N e sc x
  | _, _, _ => false
def chkI (T : Tab) (N : List Str) : It → Scope → Expr → Bool → Bool
  | .of e, sc, x, _ => chkE T N e sc x
  | .rng1 a, sc, .Call (.Name g _) [x] [] _, _ => decide (g = "range") && (glB sc g && (noStar x && chkE T N a sc x))
  | .rng2 a b, sc, .Call (.Name g _) [x, y] [] _, _ => decide (g = "range") && (glB sc g && (noStar x && (noStar y && (chkE T N a sc x && chkE T N b sc y))))
  | .rng3 a b d, sc, .Call (.Name g _) [x, y, z] [] _, _ => decide (g = "range") && (glB sc g && (noStar x && (noStar y && (noStar z && (chkE T N a sc x && (chkE T N b sc y && chkE T N d sc z))))))
  | .enum a, sc, .Call (.Name g _) [x] [] _, tp => decide (g = "enumerate") && (tp && (glB sc g && (noStar x && chkE T N a sc x)))
  | _, _, _, _ => false
end
end DI

/-! DI8: t[::-1] of a tuple; calls without arguments at the caller's slots. -/
namespace DI
open PySem PySem.Spec PyProof.Rows L2 HT
section
variable {prog : Program} {w : World} {A : Around} {E : Value → Shared → Prop} {s : Shared}
theorem places_rev (n : Nat) : Builtin.Slice.slicePlaces ((n : Int) - 1) (-1) (-1) = n := by
  unfold Builtin.Slice.slicePlaces
  have h1 : ¬ ((-1 : Int) > 0) := by decide
  simp only [h1, if_false]
  split
  · have e : ((n : Int) - 1 - -1 - 1) / (- -1) = (n : Int) - 1 := by
      rw [show ((n : Int) - 1 - -1 - 1) = (n : Int) - 1 by omega, show (- -1 : Int) = 1 by decide, Int.ediv_one]
    rw [e]; omega
  · omega
theorem sliceApplied_rev {sl : Addr} {vl vu vs : Value} {n : Nat} {Q : Int × Int × Nat → Shared → Prop} (hs : s.heap.IsSliceOf sl vl vu vs) (pl : IsPart vl none) (pu : IsPart vu none) (ps : IsPart vs (some (-1)))
    (h : Q ((n : Int) - 1, -1, n) s) : wpAny (model prog w) A (Builtin.Slice.sliceApplied (.ref sl) (pure (n : Int))) Q E s := by
  obtain ⟨os, hos, hcs, hds⟩ := id hs
  unfold Builtin.Slice.sliceApplied Builtin.Slice.sliceFields
  refine wpAny_bind (wpAny_bind (wpAny_field hos hds (x := vl) rfl (wpAny_bind (wpAny_field hos hds (x := vu) rfl (wpAny_bind (wpAny_field hos hds (x := vs) rfl (wpAny_pure ?_)))))))
  refine wpAny_bind (slicePart_ ps ?_)
  show wpAny _ _ (if ((-1 : Int) == 0) = true then _ else _) _ _ s
  rw [if_neg (by decide)]
  refine wpAny_bind (slicePart_ pl (wpAny_bind (slicePart_ pu (wpAny_bind (wpAny_pure ?_)))))
  show wpAny _ _ (pure ((n : Int) - 1, (-1 : Int), Builtin.Slice.slicePlaces ((n : Int) - 1) (-1) (-1))) _ _ s
  rw [places_rev]
  exact wpAny_pure h
theorem pick_rev (xs : Array Value) : ((List.range xs.size).filterMap fun (k : Nat) => xs[(((xs.size : Nat) : Int) - 1 + (k : Int) * -1).toNat]?).toArray = xs.toList.reverse.toArray := by
  congr 1
  have e : (List.range xs.size).filterMap (fun (k : Nat) => xs[(((xs.size : Nat) : Int) - 1 + (k : Int) * -1).toNat]?) = ((List.range xs.size).map fun k => xs.size - 1 - k).filterMap (xs[·]?) := by
    rw [List.filterMap_map]
    congr 1
    funext k
    have : (((xs.size : Nat) : Int) - 1 + (k : Int) * -1).toNat = xs.size - 1 - k := by omega
    simp only [Function.comp_apply, this]
  rw [e, PySem.W.krv_range, List.filterMap_reverse, PySem.W.krv_all]
theorem getItem_tuple_rev {t sl : Addr} {items : Array Value} {vl vu vs : Value} {Q : Value → Shared → Prop} (ht : IsTup s.heap t items) (hs : s.heap.IsSliceOf sl vl vu vs) (pl : IsPart vl none) (pu : IsPart vu none) (ps : IsPart vs (some (-1)))
    (h : Q (.ref s.heap.objs.size) { s with heap := s.heap.push { cls := .type "tuple", data := .seq items.toList.reverse.toArray } })
    (hsz : items.size ≤ sizeLine) : wpAny (model prog w) A (getItem (.ref t) (.ref sl)) Q E s := by
  have htake : sizeOk (.seq items.toList.reverse.toArray) := by
    show items.toList.reverse.toArray.size ≤ sizeLine
    rw [List.size_toArray, List.length_reverse, Array.length_toList]
    exact hsz
  obtain ⟨os, hos, hcs, hds⟩ := id hs
  have hTs : s.TypeIs (.ref sl) "slice" := ⟨os, hos, hcs⟩
  unfold getItem
  try with_reducible refine wpAny_holding ?_
  first | refine wpAny_bind (wpAny_pure ?_) | skip
  refine wpAny_bind (wpAny_sequenceKey ht.typeIs (by decide) ?_)
  refine wpAny_bind (wpAny_callSpecial?_slot (name := Str.ofString "__getitem__") ht.typeIs PyProof.Rows.slot_tuple_getitem
    (wpAny_call_entry PyProof.Rows.slot_tuple_getitem ht.typeIs entry_tuple_getitem ?_ (args_tuple_getitem _ _)))
  show wpAny _ _ (Builtin.Tuple.tupleItemsOf (.ref t) >>= _) _ _ s
  refine wpAny_bind (tupleItemsOf_ ht ?_)
  refine wpAny_bind (wpAny_typeOf hTs ?_)
  rw [if_pos (by decide)]
  refine wpAny_bind (sliceApplied_rev hs pl pu ps ?_)
  have hno : ¬ ((((items.size : Nat) : Int) - 1 == 0 && (-1 : Int) == 1 && items.size == items.size) = true) := by
    intro q
    rw [Bool.and_eq_true, Bool.and_eq_true] at q
    exact absurd q.1.2 (by decide)
  show wpAny _ _ (if (((items.size : Nat) : Int) - 1 == 0 && (-1 : Int) == 1 && items.size == items.size) = true then _ else _) _ _ s
  rw [if_neg hno, pick_rev]
  first
    | exact wpAny_bind (m := Builtin.Tuple.tupleExact _) (wpAny_newObj_type (wpAny_pure ⟨_, rfl, wpAny_pure h⟩) htake)
    | exact wpAny_bind (m := Builtin.Tuple.tupleExact _) (wpAny_newObj_type (wpAny_bind (wpAny_pure (wpAny_pure ⟨_, rfl, wpAny_pure h⟩))) htake)
    | exact wpAny_bind (wpAny_bind (m := Builtin.Tuple.tupleExact _) (wpAny_newObj_type (wpAny_pure (wpAny_pure ⟨_, rfl, wpAny_pure h⟩)) htake))
    | exact wpAny_bind (wpAny_bind (m := Builtin.Tuple.tupleExact _) (wpAny_newObj_type (wpAny_pure ⟨_, rfl, wpAny_pure h⟩) htake))
end
section
variable {X : Cx}
def tRevT (K : PySem.W.Frag) (te : TE) : TE := fun σ H Q => te σ H fun x H1 => ∃ a xs, x = .ref a ∧ SqT K H1 a xs ∧ ∀ p, H1 p = none → Q (.ref p) (upd H1 p (.tup xs.reverse))
theorem pe_revT {e : Expr} {te : TE} {k : Nat} {p1 p2 p3 pos : Pos} (he : PE X e te) : PE X (.Subscript e (.Slice none none (some (.UnaryOp .USub (.Constant (.int 1) k p1) p2)) p3) pos) (tRevT X.K te) := by
  refine ⟨fun pins s σ H Q I h => ?_⟩
  refine Subscript_ (thn (he.run pins s σ H _ I h) fun v s1 ⟨x, H1, I1, r1, q1⟩ => ?_)
  obtain ⟨a, xs, ex, hx, q⟩ := q1
  subst ex
  cases r1
  have hst : PO X (some (.UnaryOp .USub (.Constant (.int 1) k p1) p2)) (tPart (tUn (rU fun i => .int (-i)) (tC (.int 1)))) := po_some (pe_un un_neg pe_int)
  refine wpAny_Slice (thn (po_none.run pins s1 σ H1 (fun o H2 => o = none ∧ H2 = H1) I1 ⟨rfl, rfl⟩) fun vl s2 ⟨l, H2, I2, pl, el, e2⟩ => ?_)
  subst el e2
  refine thn (po_none.run pins s2 σ H2 (fun o H3 => o = none ∧ H3 = H2) I2 ⟨rfl, rfl⟩) fun vu s3 ⟨u, H3, I3, pu, eu, e3⟩ => ?_
  subst eu e3
  refine thn (hst.run pins s3 σ H3 (fun o H4 => o = some (-1) ∧ H4 = H3) I3 ⟨1, rfl, -1, rfl, rfl, rfl⟩) fun vs s4 ⟨o, H4, I4, ps, eo, e4⟩ => ?_
  subst eo e4
  have I5 : Inv X pins σ H4 { s4 with heap := s4.heap.push { cls := .type "slice", data := .fields #[vl, vu, vs] } } := I4.kept (t' := s4.toks) fun b ob q => Heap.get?_push_of_some _ q
  obtain ⟨its, r, ht, hz⟩ := I5.tuple hx
  have hlen := r.length
  show wpAny (model X.prog X.w) X.A (subscriptTail e (.Slice none none (some (.UnaryOp .USub (.Constant (.int 1) k p1) p2)) p3) (.ref a) (.ref s4.heap.objs.size)) (EP X pins σ Q) X.xe { s4 with heap := s4.heap.push { cls := .type "slice", data := .fields #[vl, vu, vs] } }
  refine tail_any (ops := [.ref a, .ref s4.heap.objs.size]) ht.typeIs (PyProof.Rows.slot_tuple_getitem.lookup) ?_ (by with_unfolding_all rfl)
  refine getItem_tuple_rev ht (Heap.IsSliceOf.new _ vl vu vs) pl pu ps ?_ (by rw [List.size_toArray]; omega)
  refine ⟨.ref _, _, I5.laid (t' := s4.toks) (o := .tup xs.reverse) (fun b ob q => Heap.get?_push_of_some _ q) (Nat.le_refl _) ?_, rfl, q _ (I5.hok.fresh (Nat.le_refl _))⟩
  exact ⟨by rw [List.length_reverse]; exact hz, _, r.reverse, ⟨_, Heap.get?_push_size _ rfl, rfl, _, rfl⟩⟩
variable {CX : CXT} {k : Nat} {f : Addr} {fd : FuncData} {ps : List Str} {sp : Sp} {dvs : List V} {ds : List Value} {E : L2.St → XK} {x : Str} {p pos : Pos}
theorem pe_callSD0 (F : FnOk X.prog X.w X.K X.mg X.base CX k f fd ps sp) (hr : Room k X.A) (hg : Gl X x) (hm : X.mg x = some (.ref f)) (hk : PySem.W.keepIn X.K (.ref f) = true) (hb : Binds X.K fd ps ds) (hd : Vals dvs ds) (hx : ∀ σ, PassesAt CX X σ (E σ))
    (hdb : (x == ("__debug__" : Str)) = false) : PE X (.Call (.Name x p) [] [] pos) (tCallSD sp dvs E tNil) := by
  refine ⟨fun pins s σ H Q I h => ?_⟩
  refine wpAny_Call_Name_kw (ld_glob I hg hm ?_ hdb)
  exact PySem.W.callWith_K0 I.kIn hk (run_fnSD (us := []) F hr hb hd (hx σ) I .nil h)
end
end DI

/-! DX1: own exception classes over Exception: made by their own __init__, which calls the base's. -/
namespace DX
open PySem PySem.Spec PyProof.Rows L2

abbrev exB : List Value := [.type "Exception", .type "BaseException", .type "object"]

/-! ### the object stores its fields -/
section
open Builtin Builtin.ObjectAttr
variable {prog : Program} {w : World} {A : Around} {E : Value → Shared → Prop} {R : Result → Shared → Prop} {hp : Heap} {g : Array GenState} {d : Drawn} {t : Nat} {os : OsState}
variable {K : PySem.W.Frag} {C x : Addr} {name : Str} {tk : Tok} {v : Value} {fv : Array Value} {cd : ClassData} {b : Bool}
theorem own_first {Q : Fin → Shared → Prop} (X : K.In hp) (hx : hp.get? x = some { cls := .ref C, data := .fields fv }) (hcd : PySem.W.clsIn K C = some cd) (hh : cd.hasDict = true)
    (hq : ∀ h' tk' dx, (∀ b o, b ≠ x → hp.get? b = some o → h'.get? b = some o) → hp.objs.size ≤ dx → dx ≠ x → h'.get? x = some { cls := .ref C, dict := some dx, data := .fields fv } →
      h'.Ns1 dx (fun y => if y = name then some v else none) → Q (.done (.ret .none)) ⟨h', g, d, tk', os⟩) :
    wpAny (model prog w) A (storeInOwnDict (.ref x) (.ref C) (.str name tk) name v b) Q E ⟨hp, g, d, t, os⟩ := by
  have hcls : PySem.W.Looks (model prog w) hp (classData C) cd := PySem.W.looks_clsIn X hcd
  have hxs : x ≠ hp.objs.size := Nat.ne_of_lt (Heap.lt_size hx)
  obtain ⟨_, _, _, _, _, hd, _, _, _, _, _⟩ := cd
  dsimp only at hh
  subst hh
  unfold storeInOwnDict ownDictForStores
  repeat (first | with_reducible refine HandSPX.store_in_new ?_ ?_ | with_reducible refine wpAny_loadPart_at hx ?_ | with_reducible refine hcls.at ?_ | wp_step)
  · have at1 := Heap.get?_push_at (h := hp) (o := { cls := .type "dict", data := .dict #[] }) rfl rfl
    exact ⟨_, #[], _, (Heap.get?_update_ne _ _ _ _ (Ne.symm hxs)).trans at1, rfl, (fun en hen => absurd hen (by simp)), (fun _ => rfl)⟩
  intro h' tk' hn' hs
  have hx1 := Heap.get?_push_of_some (h := hp) { cls := .type "dict", data := .dict #[] } hx
  refine hq h' tk' hp.objs.size (fun b o hb ho => ?_) (Nat.le_refl _) hxs.symm ((hs.2 x hxs).trans (Heap.get?_update_self _ hx1 rfl)) hn'
  have hb2 : b ≠ hp.objs.size := Nat.ne_of_lt (Heap.lt_size ho)
  rw [hs.2 b hb2, Heap.get?_update_ne _ _ _ _ hb]
  exact Heap.get?_push_of_some _ ho
theorem own_more {dx : Addr} {m0 : Str → Option Value} {nl : List Str} {Q : Fin → Shared → Prop} (X : K.In hp) (hx : hp.get? x = some { cls := .ref C, dict := some dx, data := .fields fv }) (hns : hp.Ns1 dx m0) (hw : Within m0 nl) (hz : nl.length ≤ 1000)
    (hcd : PySem.W.clsIn K C = some cd) (hh : cd.hasDict = true)
    (hq : ∀ h' tk', (∀ b o, b ≠ dx → hp.get? b = some o → h'.get? b = some o) → h'.Ns1 dx (fun y => if y = name then some v else m0 y) → Q (.done (.ret .none)) ⟨h', g, d, tk', os⟩) :
    wpAny (model prog w) A (storeInOwnDict (.ref x) (.ref C) (.str name tk) name v b) Q E ⟨hp, g, d, t, os⟩ := by
  have hcls : PySem.W.Looks (model prog w) hp (classData C) cd := PySem.W.looks_clsIn X hcd
  obtain ⟨_, _, _, _, _, hd, _, _, _, _, _⟩ := cd
  dsimp only at hh
  subst hh
  unfold storeInOwnDict ownDictForStores
  repeat (first | with_reducible refine OEX.store_in_old hns hw hz ?_ | with_reducible refine wpAny_loadPart_at hx ?_ | with_reducible refine hcls.at ?_ | wp_step)
  intro h' tk' hn' hs
  exact hq h' tk' (fun b o hb ho => by rw [hs.2 b hb]; exact ho) hn'
end

/-- the class at C is an own one over Exception -/
structure ExcC (K : PySem.W.Frag) (C : Addr) : Prop where
  cls : ∃ nm q N bs bm sn sub ab col dd k0 k1 k2 k3 k5, K.lookup C = some (excClassObj nm q C N bs bm true sn sub ab col dd k0 k1 k2 k3 k5 "Exception.__new__") ∧ PySem.W.excTail exB bm = true
  sa : PySem.W.findIn K (.ref C) "__setattr__" = some (some (.builtin "object.__setattr__"))
  exC : PySem.W.subIn K (.ref C) (.type "BaseException") = some true
  tyC : PySem.W.typeIn K (.ref C) = some (.type "type")
  kC : PySem.W.keepIn K (.ref C) = true

section
variable {K : PySem.W.Frag} {C : Addr}
theorem ExcC.data (T : ExcC K C) : ∃ cd, PySem.W.clsIn K C = some cd ∧ cd.hasDict = true := by
  obtain ⟨nm, q, N, bs, bm, sn, sub, ab, col, dd, k0, k1, k2, k3, k5, hC, hbm⟩ := T.cls
  exact ⟨_, by unfold PySem.W.clsIn; rw [hC] <;> rfl, rfl⟩
theorem ExcC.over (T : ExcC K C) : PySem.W.excOver K C exB = true := by
  obtain ⟨nm, q, N, bs, bm, sn, sub, ab, col, dd, k0, k1, k2, k3, k5, hC, hbm⟩ := T.cls
  have e : PySem.W.clsIn K C = some { name := nm, bases := bs, mro := .ref C :: bm, ns := N, qualname := q, hasDict := true, slotNames := sn, subclasses := sub, abstract := ab, collection := col, hasDel := false } := by unfold PySem.W.clsIn; rw [hC] <;> rfl
  unfold PySem.W.excOver
  rw [e]
  show ((C == C) && PySem.W.excTail exB bm) = true
  rw [hbm, beq_self_eq_true]
  rfl
end

section
variable {X : Cx} {pins : List (Addr × Obj)} {σ : L2.St} {H : Hp} {s : Shared} {a C dx : Addr} {f : Str} {y : V} {u : Value} {fs : List (Str × V)} {Q : Unit → Shared → Prop} {E : Value → Shared → Prop} {A : Around}
theorem taker_no (hno : PySem.W.findIn X.K (.ref C) f = some none) : PySem.W.takerIn X.K C f = some none := by
  unfold PySem.W.takerIn
  rw [hno]
  rfl
/-- the first field: the dict is laid -/
theorem put_first (T : ExcC X.K C) (I : Inv X pins σ H s) (e : H a = some (exo a C none)) (hno : PySem.W.findIn X.K (.ref C) f = some none) (ry : RelV y u)
    (h : ∀ dx s', H dx = none → dx ≠ a → Inv X pins σ (upd (upd H dx (exd dx [(f, y)])) a (exo a C (some dx))) s' → Q () s') : wpAny (model X.prog X.w) A (setAttr (.ref a) f u) Q E s := by
  obtain ⟨cd, hcd, hdict⟩ := T.data
  obtain ⟨t1, ho⟩ := exo_at I.hok e
  obtain ⟨hp, g, d, t, os⟩ := s
  have J : PySem.W.InstAt hp a { cls := .ref C, dict := none, data := .fields #[.ref t1, .none, .none, .none, .bool false, .none] } C none := ⟨ho, rfl, rfl, trivial⟩
  refine PySem.W.set_plain I.kIn J T.sa (PySem.W.osa_openX F.store_Exception I.kIn J T.over (taker_no hno) fun b => ?_)
  refine own_first I.kIn ho hcd hdict fun h' tk' dx k dn dne hx hn => ?_
  have nD : H dx = none := I.hok.fresh dn
  have ltD : ∀ {b : Addr} {o : Obj}, hp.get? b = some o → b ≠ dx := fun q => Nat.ne_of_lt (Nat.lt_of_lt_of_le (Heap.lt_size q) dn)
  have neA : ∀ {b : Addr}, H b = none → b ≠ a := fun n z => by rw [z, e] at n; cases n
  have U : Un X.fs [] H (upd (upd H dx (exd dx [(f, y)])) a (exo a C (some dx))) hp h' := {
    keep := fun b o q n _ _ => k b o (neA n) q
    slot := fun b o q n _ _ => ⟨o.slots, k b o (neA n) q⟩
    free := fun b o q n _ => by rw [upd_ne (neA n), upd_ne (ltD q)]; exact n
    there := fun b o q _ => by
      by_cases hb : b = a
      · subst hb; exact ⟨_, hx⟩
      · exact ⟨o, k b o hb q⟩
    tups := fun b xs q => by rw [upd_ne (at_ne e q exo_tup), upd_ne (ne_of_none q nD)]; exact q
    frzs := fun b o v q => by rw [upd_ne (at_ne e q exo_frz), upd_ne (ne_of_none q nD)]; exact q
    tbls := fun b ps q => ⟨#[], by rw [upd_ne (at_ne e q exo_tbl), upd_ne (ne_of_none q nD), q]; simp⟩ }
  refine h dx _ nD dne (I.un (t' := tk') U fun b o q => ?_)
  by_cases hb : b = a
  · subst hb
    rw [upd_same] at q
    cases q
    exact exo_ok hx
  rw [upd_ne hb] at q
  by_cases hd : b = dx
  · subst hd
    rw [upd_same] at q
    cases q
    exact exd_ok hn (relO_put (fs := []) ry fun _ => True.intro)
  rw [upd_ne hd] at q
  refine (I.hok b o q).stay (fun c v hc z => k c v ?_ z) (fun c hc => ?_) (fun c xs hc => ?_)
  · rcases hc with hc | hc
    · subst hc; exact hb
    · exact at_ne e hc exo_own
  · rw [upd_ne (at_ne e hc exo_own), upd_ne (ne_of_none hc nD)]; exact hc
  · rw [upd_ne (at_ne e hc exo_tup), upd_ne (ne_of_none hc nD)]; exact hc
/-- a further field -/
theorem put_more (T : ExcC X.K C) (I : Inv X pins σ H s) (e : H a = some (exo a C (some dx))) (ed : H dx = some (exd dx fs)) (hl : fs.length ≤ 900) (hno : PySem.W.findIn X.K (.ref C) f = some none) (ry : RelV y u)
    (h : ∀ s', Inv X pins σ (upd H dx (exd dx ((f, y) :: fs))) s' → Q () s') : wpAny (model X.prog X.w) A (setAttr (.ref a) f u) Q E s := by
  obtain ⟨cd, hcd, hdict⟩ := T.data
  obtain ⟨t1, ho⟩ := exo_at I.hok e
  obtain ⟨mA, hns, rel⟩ := exd_at I.hok ed
  have hw := within_of rel
  obtain ⟨hp, g, d, t, os⟩ := s
  obtain ⟨oD, _, _, hoD, _, _⟩ := hns.count hw
  have J : PySem.W.InstAt hp a { cls := .ref C, dict := some dx, data := .fields #[.ref t1, .none, .none, .none, .bool false, .none] } C (some oD) := ⟨ho, rfl, rfl, hoD⟩
  refine PySem.W.set_plain I.kIn J T.sa (PySem.W.osa_openX F.store_Exception I.kIn J T.over (taker_no hno) fun b => ?_)
  refine own_more I.kIn ho hns hw (by rw [List.length_map]; omega) hcd hdict fun h' tk' k hn => ?_
  have hd : ∃ o, h'.get? dx = some o := by
    obtain ⟨o, _, _, e', _⟩ := hn
    exact ⟨o, e'⟩
  exact h _ (I.write (t' := tk') (x := dx) (e := dx) (o := exd dx ((f, y) :: fs)) (by rw [ed]; exact True.intro) (.inl rfl) k hd (exd_ok hn (relO_put ry rel)))
/-- Exception.__init__(self, ..) -/
theorem base_init {us : List Value} {Q : Value → Shared → Prop} (T : ExcC X.K C) (I : Inv X pins σ H s) (e : H a = some (exo a C none)) (hl : us.length ≤ sizeLine) (h : ∀ s', Inv X pins σ H s' → Q .none s') :
    wpAny (model X.prog X.w) A (call (.builtin "Exception.__init__") (.ref a :: us)) Q E s := by
  obtain ⟨nm, q, N, bs, bm, sn, sub, ab, col, dd, k0, k1, k2, k3, k5, hC, hbm⟩ := T.cls
  obtain ⟨t1, ho⟩ := exo_at I.hok e
  obtain ⟨hp, g, d, t, os⟩ := s
  refine wpAny_call (HandSPX.init_base F.excBase_Exception (fun Y => PySem.W.excTail_contains Y bm hbm) (I.kIn _ _ hC) ho hl fun h' t2 k hx => ?_)
  have J := I.write (t' := t) (x := a) (e := a) (o := exo a C none) (by rw [e]; exact True.intro) (.inl rfl) k ⟨_, hx⟩ (exo_ok hx)
  have eu : upd H a (exo a C none) = H := by
    funext b
    by_cases hb : b = a
    · rw [hb, upd_same, e]
    · rw [upd_ne hb]
  rw [eu] at J
  exact h _ J
end

/-! ### the rules -/
/-- Exception.__init__(self, ..) -/
def tBaseInit (K : PySem.W.Frag) (ta : TA) : TE := fun σ H Q => ta σ H fun vs H1 => ∃ (a C : Addr) (ws : List V), vs = .ref a :: ws ∧ ws.length ≤ 1000 ∧ ExcC K C ∧ H1 a = some (exo a C none) ∧ Q .non H1
/-- self.f = e on the exception that is being made -/
def tPut (K : PySem.W.Frag) (f : Str) (to te : TE) : TS := fun D σ H => te σ H fun y H1 => to σ H1 fun x H2 => ∃ a C : Addr, x = .ref a ∧ ExcC K C ∧ PySem.W.findIn K (.ref C) f = some none ∧
  ((H2 a = some (exo a C none) ∧ ∀ dx, H2 dx = none → dx ≠ a → D.nx σ (upd (upd H2 dx (exd dx [(f, y)])) a (exo a C (some dx)))) ∨
    ∃ (dx : Addr) (fs : List (Str × V)), H2 a = some (exo a C (some dx)) ∧ H2 dx = some (exd dx fs) ∧ fs.length ≤ 900 ∧ D.nx σ (upd H2 dx (exd dx ((f, y) :: fs))))
/-- C(e, ..) of such a class, C's own __init__ keeping sp -/
def tNew (C : Addr) (sp : Sp) (ta : TA) : L2.St → Hp → XK → Prop := fun σ H Q => ta σ H fun vs H1 => vs.length ≤ 1000 ∧ ∀ a, H1 a = none → sp (.ref a :: vs) (upd H1 a (exo a C none))
  (fun v H2 => v = .non ∧ ∃ (d : Addr) (fs : List (Str × V)), H2 a = some (exo a C (some d)) ∧ H2 d = some (exd d fs) ∧ H1 d = none ∧ Q (.ref C) (some d) (upd (del H2 a) d (.xd fs))) (fun _ _ _ => False)
section
variable {X : Cx} {o e : Expr} {es : List Expr} {to te : TE} {ta : TA} {f x : Str} {p p' p1 p2 pos : Pos}
theorem ex_init : PySem.W.findCls (K := ([] : PySem.W.Frag)) (.type "Exception") (.type "type") "__init__" = some (.val (.builtin "Exception.__init__")) := by kernel_rfl
theorem ty_ex : typeOf (.type "Exception") = pure (.type "type") := by kernel_rfl
theorem pe_baseInit {pl : Sem Bool} (hg : Gl X "Exception") (hm : X.mg "Exception" = none) (vV : PySem.W.findCls X.K (.type "Exception") (.type "type") "__init__" = some (.val (.builtin "Exception.__init__"))) (ha : PA X (e :: es) ta)
    (hc : eval (.Call (.Attribute (.Name "Exception" p1) "__init__" p2) (e :: es) [] pos) X.env = (do
      let ov ← eval (.Name "Exception" p1) X.env
      standAt p2.atName
      let (f, first) ← holding [ov] (getMethod ov "__init__" pl)
      callWith pos f first (backTo pos (starEach (e :: es) X.env)) (backToKw pos (keywordEach [] X.env))))
    (he : starEach (e :: es) X.env = (false, eval e X.env) :: starEach es X.env) (hpl : (backTo pos (starEach es X.env)).any (·.1) = false) :
    PE X (.Call (.Attribute (.Name "Exception" p1) "__init__" p2) (e :: es) [] pos) (tBaseInit X.K ta) := by
  refine ⟨fun pins s σ H Q I h => ?_⟩
  have hB : bootBuiltins "Exception" = some (.type "Exception") := by decide +kernel
  refine PySem.W.methodCall_KW (ld_blt I hg hm hB ?_ (by decide) (by decide)) hc
  obtain ⟨m, fr⟩ := I.fr
  refine PySem.W.method_type fr I.ok.mod.kin ty_ex (by decide +kernel) vV (by decide +kernel) ?_
  show wpAny _ _ (callWith pos (Value.builtin "Exception.__init__") [] (backTo pos (starEach (e :: es) X.env)) []) _ _ _
  refine PyProof.Rows.callWith_method1 (thn (ha.run pos pins _ σ H _ (I.tok _) h) fun us s1 ⟨vs, H1, I1, r1, a, C, ws, ev, hl, T, ea, q⟩ => ?_) he hpl
  subst ev
  cases r1 with
  | @cons _ u0 _ ur ra rw' =>
    obtain rfl : u0 = Value.ref a := ra
    have hlen : ur.length ≤ sizeLine := by rw [← Paired.length rw', sizeLine_eq]; omega
    exact base_init T I1 ea hlen fun s' J => ⟨.non, H1, J, rfl, q⟩
theorem ps_put (ho : PE X o to) (he : PE X e te) (hs : swapsWith e (some (.Attribute o f p')) pos.line X.env = pure false) : PS X (.Assign [.Attribute o f p'] e pos) (tPut X.K f to te) := by
  refine ⟨fun pins s σ H D I h => ?_⟩
  refine plainObj_wpAny_Assign_Attribute (thn (he.run pins s σ H _ I h) fun v s1 ⟨y, H1, I1, r1, q1⟩ => thn (ho.run pins s1 σ H1 _ I1 q1) fun u s2 ⟨x, H2, I2, r2, a, C, ex, T, hno, q⟩ => ?_) hs
  subst ex
  obtain rfl : u = Value.ref a := r2
  rcases q with ⟨ea, q⟩ | ⟨dx, fs, ea, ed, hl, q⟩
  · exact put_first T I2 ea hno r1 fun dx s' n ne J => ⟨σ, _, J, q dx n ne⟩
  · exact put_more T I2 ea ed hl hno r1 fun s' J => ⟨σ, _, J, q⟩
/-- C.m(e, ..), C an own class, m a def of it -/
theorem pe_unbound {CX : CXT} {C fa : Addr} {k : Nat} {fd : FuncData} {ps : List Str} {sp : Sp} {E : XK} {m : Str} {pl : Sem Bool} (hg : Gl X x) (hm : X.mg x = some (.ref C)) (rd : ClX.CRead X.K C (.type "type")) (at_ : PySem.W.findCls X.K (.ref C) (.type "type") m = some (.val (.ref fa)))
    (kp : PySem.W.keepIn X.K (.ref fa) = true) (F1 : FnOk X.prog X.w X.K X.mg X.base CX k fa fd ps sp) (hr : Room k X.A) (hb : Binds X.K fd ps []) (hx : Passes CX X E) (ha : PA X (e :: es) ta)
    (hc : eval (.Call (.Attribute (.Name x p1) m p2) (e :: es) [] pos) X.env = (do
      let ov ← eval (.Name x p1) X.env
      standAt p2.atName
      let (f, first) ← holding [ov] (getMethod ov m pl)
      callWith pos f first (backTo pos (starEach (e :: es) X.env)) (backToKw pos (keywordEach [] X.env))))
    (hdb : (x == ("__debug__" : Str)) = false) (he : starEach (e :: es) X.env = (false, eval e X.env) :: starEach es X.env) (hpl : (backTo pos (starEach es X.env)).any (·.1) = false) :
    PE X (.Call (.Attribute (.Name x p1) m p2) (e :: es) [] pos) (fun σ H Q => ta σ H fun vs H1 => sp vs H1 Q E) := by
  refine ⟨fun pins s σ H Q I h => ?_⟩
  refine PySem.W.methodCall_KW (ld_glob I hg hm ?_ hdb) hc
  refine PySem.W.method_cls I.kIn rd.ga (ClX.getcval_ok (v := .ref fa) I rd ⟨at_, rfl⟩ fun s1 I1 => ?_)
  refine PySem.W.callWith_K (first := []) (h₀ := X.base) I1.ok.mod.kin kp (thn (ha.run pos pins s1 σ H _ I1 h) fun us s2 ⟨vs, H2, I2, r, q2⟩ => ⟨I2.kIn, ?_⟩) he hpl
  exact run_fn (us := us) (vs := vs) F1 hr hb .nil hx I2 r (by rw [List.append_nil]; exact q2)
end
end DX

/-! DX2: the promises of the classes' __init__; raise of such a class. -/
namespace DX
open PySem PySem.Spec PyProof.Rows L2 DI

theorem backTo_no (pos : Pos) {env : PySem.Env} : ∀ {es : List Expr}, es.all noStar = true → (backTo pos (starEach es env)).all (fun x => !x.1) = true ∧ (backTo pos (starEach es env)).any (·.1) = false
  | [], _ => ⟨rfl, rfl⟩
  | e :: es, h => by
    obtain ⟨h1, h2⟩ := Bool.and_eq_true_iff.mp (show (noStar e && es.all noStar) = true from h)
    obtain ⟨g1, g2⟩ := backTo_no pos h2
    rw [star_of h1]
    exact ⟨(show (true && (backTo pos (starEach es env)).all (fun x => !x.1)) = true by rw [g1]; rfl), (show (false || (backTo pos (starEach es env)).any (·.1)) = false by rw [g2]; rfl)⟩
/-- a method call on one line, as a chain of steps -/
theorem meth_eq {o : Expr} {m : Str} {apos pos : Pos} {env : PySem.Env} {es : List Expr} (hb : noSup o = true) (hs : es.all noStar = true) (hlen : es.length < 20) (hl : (apos.endLine == pos.line) = true) :
    eval (.Call (.Attribute o m apos) es [] pos) env = (do
      let ov ← eval o env
      standAt apos.atName
      let (f, first) ← holding [ov] (getMethod ov m (plainOf o env))
      callWith pos f first (backTo pos (starEach es env)) (backToKw pos (keywordEach [] env))) := by
  have hf : methodCallForm (es.length + ([] : List Keyword).length) (backTo pos (starEach es env)) (backToKw pos (keywordEach [] env)) = true := by
    show ((backTo pos (starEach es env)).all (fun x => !x.1) && true && decide (es.length + 0 + 0 < 30)) = true
    rw [(backTo_no pos hs).1, decide_eq_true (show es.length + 0 + 0 < 30 by omega)]
    rfl
  rw [arm_eval_Call, base_of hb]
  refine congrArg _ (funext fun ov => congrArg _ (funext fun _ => ?_))
  exact mcall_line hf hl

/-! ### the promises -/
def spT0 (K : PySem.W.Frag) : Sp := fun vs H Q _ => ∃ (a C : Addr) (y : V), vs = [.ref a, y] ∧ ExcC K C ∧ PySem.W.findIn K (.ref C) "class_name" = some none ∧ H a = some (exo a C none) ∧
  ∀ dx, H dx = none → dx ≠ a → Q .non (upd (upd H dx (exd dx [("class_name", y)])) a (exo a C (some dx)))
def spT1 (K : PySem.W.Frag) (cn f : Str) : Sp := fun vs H Q _ => ∃ (a C : Addr) (y : V), vs = [.ref a, y] ∧ ExcC K C ∧ PySem.W.findIn K (.ref C) "class_name" = some none ∧ PySem.W.findIn K (.ref C) f = some none ∧ H a = some (exo a C none) ∧
  ∀ dx, H dx = none → dx ≠ a → Q .non (upd (upd (upd H dx (exd dx [("class_name", .str cn)])) a (exo a C (some dx))) dx (exd dx [(f, y), ("class_name", .str cn)]))
def spT2 (K : PySem.W.Frag) (cn : Str) : Sp := fun vs H Q _ => ∃ (a C : Addr), vs = [.ref a] ∧ ExcC K C ∧ PySem.W.findIn K (.ref C) "class_name" = some none ∧ H a = some (exo a C none) ∧
  ∀ dx, H dx = none → dx ≠ a → Q .non (upd (upd H dx (exd dx [("class_name", .str cn)])) a (exo a C (some dx)))
/-! ### the bodies -/
def isT0 : List Stmt → Bool
  | [.Expr (.Call (.Attribute (.Name a _) b p2) [.Name c _, .Name d _] [] pos) _, .Assign [.Attribute (.Name e _) f _] (.Name g _) _] =>
    decide (a = "Exception") && (decide (b = "__init__") && (decide (c = "self") && (decide (d = "class_name") && (decide (e = "self") && (decide (f = "class_name") && (decide (g = "class_name") && (p2.endLine == pos.line)))))))
  | _ => false
def isT1 (cn fn : Str) : List Stmt → Bool
  | [.Expr (.Call (.Attribute (.Name a _) b p2) [.Name c _, .Constant (.str d) _ _] [] pos) _, .Assign [.Attribute (.Name e _) f _] (.Name g _) _] =>
    decide (a = "TraceError") && (decide (b = "__init__") && (decide (c = "self") && (decide (d = cn) && (decide (e = "self") && (decide (f = fn) && (decide (g = fn) && (p2.endLine == pos.line)))))))
  | _ => false
def isT2 (cn : Str) : List Stmt → Bool
  | [.Expr (.Call (.Attribute (.Name a _) b p2) [.Name c _, .Constant (.str d) _ _] [] pos) _] =>
    decide (a = "TraceError") && (decide (b = "__init__") && (decide (c = "self") && (decide (d = cn) && (p2.endLine == pos.line))))
  | _ => false
section
variable {P : Program} {w : World} {K : PySem.W.Frag} {mg : Str → Option Value} {base : Heap} {CX : CXT} {nm qual : Str} {params : Arguments} {body : List Stmt} {scope : Scope} {f f0 C0 : Addr} {fd fd0 : FuncData}
theorem vis_par {N ps : List Str} {sc : Scope} (S : FnScope N ps sc) {x : Str} (h : x ∈ ps) : Vis sc x := (S.par x h).elim .inl fun h => .inr (.inl h)
theorem glob_of {X : Cx} {x : Str} (h : glB X.env.scope x = true) : Gl X x ∧ (x == ("__debug__" : Str)) = false := by
  obtain ⟨h1, h2⟩ := Bool.and_eq_true_iff.mp h
  refine ⟨(of_decide_eq_true h1 : X.env.scope.names.lookup x = some .globalImplicit), ?_⟩
  cases e : (x == ("__debug__" : Str)) with
  | false => rfl
  | true => rw [e] at h2; cases h2
theorem ex_initK (K : PySem.W.Frag) : PySem.W.findCls K (.type "Exception") (.type "type") "__init__" = some (.val (.builtin "Exception.__init__")) := by kernel_rfl
theorem fn_T0 (F : FunD K nm qual params body scope [] [] f fd) (S : FnScope ["self", "class_name"] ["self", "class_name"] scope) (hb : isT0 body = true) (hg : glB scope "Exception" = true) (hm : mg "Exception" = none) : FnOk P w K mg base CX 1 f fd ["self", "class_name"] (spT0 K) := by
  refine F.ok S (fun vs H Q E h => ?_) fun cdv A outer s H vs Q E hr h => ?_
  · obtain ⟨a, C, y, rfl, _⟩ := h
    rfl
  unfold isT0 at hb
  split at hb
  · rename_i a p1 b p2 c p3 d p4 pos p5 e p6 f' p7 g p8 p9
    obtain ⟨h1, hb⟩ := Bool.and_eq_true_iff.mp hb
    obtain ⟨h2, hb⟩ := Bool.and_eq_true_iff.mp hb
    obtain ⟨h3, hb⟩ := Bool.and_eq_true_iff.mp hb
    obtain ⟨h4, hb⟩ := Bool.and_eq_true_iff.mp hb
    obtain ⟨h5, hb⟩ := Bool.and_eq_true_iff.mp hb
    obtain ⟨h6, hb⟩ := Bool.and_eq_true_iff.mp hb
    obtain ⟨h7, h8⟩ := Bool.and_eq_true_iff.mp hb
    cases of_decide_eq_true h1; cases of_decide_eq_true h2; cases of_decide_eq_true h3; cases of_decide_eq_true h4
    cases of_decide_eq_true h5; cases of_decide_eq_true h6; cases of_decide_eq_true h7
    have hgl := glob_of (X := cxOf CX P w K mg base ["self", "class_name"] qual scope f cdv A outer s H E) hg
    have v0 := fun p => pe_var (X := cxOf CX P w K mg base ["self", "class_name"] qual scope f cdv A outer s H E) (i := 0) (x := "self") (pos := p) rfl (vis_par S (by simp)) (by decide) (by decide)
    have v1 := fun p => pe_var (X := cxOf CX P w K mg base ["self", "class_name"] qual scope f cdv A outer s H E) (i := 1) (x := "class_name") (pos := p) rfl (vis_par S (by simp)) (by decide) (by decide)
    refine ⟨_, pss_cons (ps_expr (pe_baseInit hgl.1 hm (ex_initK K) (pa_cons (v0 p3) (pa_cons (v1 p4) pa_nil)) (meth_eq rfl rfl (by show 2 < 20; decide) h8) rfl rfl) rfl) (pss_one (ps_put (v0 p6) (v1 p8) rfl)), ?_⟩
    obtain ⟨a, C, y, rfl, T, hn, hH, q⟩ := h
    refine ⟨.ref a, rfl, y, rfl, a, C, [y], rfl, (by show 1 ≤ 1000; decide), T, hH, y, rfl, .ref a, rfl, a, C, rfl, T, hn, .inl ⟨hH, fun dx n ne => q dx n ne⟩⟩
  · cases hb
/-- the own base class, as the heap's written part has it -/
structure BaseC (K : PySem.W.Frag) (mg : Str → Option Value) (C0 f0 : Addr) : Prop where
  at_ : mg "TraceError" = some (.ref C0)
  rd : ClX.CRead K C0 (.type "type")
  ini : PySem.W.findCls K (.ref C0) (.type "type") "__init__" = some (.val (.ref f0))
  kp : PySem.W.keepIn K (.ref f0) = true
theorem fn_T1 {cn fn : Str} (F : FunD K nm qual params body scope [] [] f fd) (S : FnScope ["self", fn] ["self", fn] scope) (hb : isT1 cn fn body = true) (hg : glB scope "TraceError" = true) (B : BaseC K mg C0 f0)
    (F0 : FnOk P w K mg base CX 1 f0 fd0 ["self", "class_name"] (spT0 K)) (b0 : Binds K fd0 ["self", "class_name"] []) (hd : (fn == ("__debug__" : Str)) = false) (hcd : (fn == ("__classdict__" : Str)) = false) (hx : ∀ {X : Cx}, X.prog = P → X.w = w → Passes CX X (fun _ _ _ => False)) :
    FnOk P w K mg base CX 2 f fd ["self", fn] (spT1 K cn fn) := by
  refine F.ok S (fun vs H Q E h => ?_) fun cdv A outer s H vs Q E hr h => ?_
  · obtain ⟨a, C, y, rfl, _⟩ := h
    rfl
  unfold isT1 at hb
  split at hb
  · rename_i a p1 b p2 c p3 d p4 k4 pos p5 e p6 f' p7 g p8 p9
    obtain ⟨h1, hb⟩ := Bool.and_eq_true_iff.mp hb
    obtain ⟨h2, hb⟩ := Bool.and_eq_true_iff.mp hb
    obtain ⟨h3, hb⟩ := Bool.and_eq_true_iff.mp hb
    obtain ⟨h4, hb⟩ := Bool.and_eq_true_iff.mp hb
    obtain ⟨h5, hb⟩ := Bool.and_eq_true_iff.mp hb
    obtain ⟨h6, hb⟩ := Bool.and_eq_true_iff.mp hb
    obtain ⟨h7, h8⟩ := Bool.and_eq_true_iff.mp hb
    cases of_decide_eq_true h1; cases of_decide_eq_true h2; cases of_decide_eq_true h3; cases of_decide_eq_true h4
    cases of_decide_eq_true h5; cases of_decide_eq_true h6; cases of_decide_eq_true h7
    have hgl := glob_of (X := cxOf CX P w K mg base ["self", fn] qual scope f cdv A outer s H E) hg
    have v0 := fun p => pe_var (X := cxOf CX P w K mg base ["self", fn] qual scope f cdv A outer s H E) (i := 0) (x := "self") (pos := p) rfl (vis_par S (by simp)) (by decide) (by decide)
    have v1 := fun p => pe_var (X := cxOf CX P w K mg base ["self", fn] qual scope f cdv A outer s H E) (i := 1) (x := fn) (pos := p) rfl (vis_par S (by simp)) hd hcd
    refine ⟨_, pss_cons (ps_expr (pe_unbound (E := fun _ _ _ => False) hgl.1 B.at_ B.rd B.ini B.kp F0 hr b0 (hx rfl rfl) (pa_cons (v0 p3) (pa_cons pe_str pa_nil)) (meth_eq rfl rfl (by show 2 < 20; decide) h8) hgl.2 rfl rfl) rfl) (pss_one (ps_put (v0 p6) (v1 p8) rfl)), ?_⟩
    obtain ⟨a, C, y, rfl, T, hn, hn2, hH, q⟩ := h
    refine ⟨.ref a, rfl, a, C, .str cn, rfl, T, hn, hH, fun dx n ne => ⟨y, rfl, .ref a, rfl, a, C, rfl, T, hn2, .inr ⟨dx, [("class_name", .str cn)], upd_same, ?_, (by show 1 ≤ 900; decide), q dx n ne⟩⟩⟩
    rw [upd_ne ne, upd_same]
  · cases hb
theorem fn_T2 {cn : Str} (F : FunD K nm qual params body scope [] [] f fd) (S : FnScope ["self"] ["self"] scope) (hb : isT2 cn body = true) (hg : glB scope "TraceError" = true) (B : BaseC K mg C0 f0)
    (F0 : FnOk P w K mg base CX 1 f0 fd0 ["self", "class_name"] (spT0 K)) (b0 : Binds K fd0 ["self", "class_name"] []) (hx : ∀ {X : Cx}, X.prog = P → X.w = w → Passes CX X (fun _ _ _ => False)) :
    FnOk P w K mg base CX 2 f fd ["self"] (spT2 K cn) := by
  refine F.ok S (fun vs H Q E h => ?_) fun cdv A outer s H vs Q E hr h => ?_
  · obtain ⟨a, C, rfl, _⟩ := h
    rfl
  unfold isT2 at hb
  split at hb
  · rename_i a p1 b p2 c p3 d p4 k4 pos p5
    obtain ⟨h1, hb⟩ := Bool.and_eq_true_iff.mp hb
    obtain ⟨h2, hb⟩ := Bool.and_eq_true_iff.mp hb
    obtain ⟨h3, hb⟩ := Bool.and_eq_true_iff.mp hb
    obtain ⟨h4, h8⟩ := Bool.and_eq_true_iff.mp hb
    cases of_decide_eq_true h1; cases of_decide_eq_true h2; cases of_decide_eq_true h3; cases of_decide_eq_true h4
    have hgl := glob_of (X := cxOf CX P w K mg base ["self"] qual scope f cdv A outer s H E) hg
    have v0 := fun p => pe_var (X := cxOf CX P w K mg base ["self"] qual scope f cdv A outer s H E) (i := 0) (x := "self") (pos := p) rfl (vis_par S (by simp)) (by decide) (by decide)
    refine ⟨_, pss_one (ps_expr (pe_unbound (E := fun _ _ _ => False) hgl.1 B.at_ B.rd B.ini B.kp F0 hr b0 (hx rfl rfl) (pa_cons (v0 p3) (pa_cons pe_str pa_nil)) (meth_eq rfl rfl (by show 2 < 20; decide) h8) hgl.2 rfl rfl) rfl), ?_⟩
    obtain ⟨a, C, rfl, T, hn, hH, q⟩ := h
    exact ⟨.ref a, rfl, a, C, .str cn, rfl, T, hn, hH, fun dx n ne => q dx n ne⟩
  · cases hb
end

/-! ### raise -/
section
variable {X : Cx} {x : Str} {C fI : Addr} {k : Nat} {fd : FuncData} {ps : List Str} {sp : Sp} {CX : CXT} {es : List Expr} {ta : TA} {p pos : Pos}
theorem pmk_fin (T : ExcC X.K C) (iC : PySem.W.findIn X.K (.ref C) "__init__" = some (some (.ref fI))) (tI : PySem.W.typeIn X.K (.ref fI) = some (.type "function"))
    (F1 : FnOk X.prog X.w X.K X.mg X.base CX k fI fd ps sp) (hr : Room (k + 1) X.A) (hb : Binds X.K fd ps []) (hx : Passes CX X (fun _ _ _ => False)) {pins : List (Addr × Obj)} {σ : L2.St} {Q : XK} {us : List Value} {s1 : Shared} {vs : List V} {H1 : Hp} (I1 : Inv X pins σ H1 s1) (r1 : Vals vs us) (hz : vs.length ≤ 1000)
    (q1 : ∀ a, H1 a = none → sp (.ref a :: vs) (upd H1 a (exo a C none)) (fun v H2 => v = .non ∧ ∃ (d : Addr) (fs : List (Str × V)), H2 a = some (exo a C (some d)) ∧ H2 d = some (exd d fs) ∧ H1 d = none ∧ Q (.ref C) (some d) (upd (del H2 a) d (.xd fs))) (fun _ _ _ => False)) :
    wpAny (model X.prog X.w) X.A (call (.ref C) us) (L2N.MkP X pins σ Q) X.xe s1 := by
  obtain ⟨nm, q, N, bs, bm, sn, sub, ab, col, dd, k0, k1, k2, k3, k5, hC, hbm⟩ := T.cls
  obtain ⟨hp, g, dr, tk, os⟩ := s1
  have hsz : hp.objs.size ≤ hp.objs.size + 1 := Nat.le_succ _
  have hq := q1 (hp.objs.size + 1) (I1.hok.fresh hsz)
  have kk : ∀ b o, hp.get? b = some o → ((hp.push (PySem.W.kdv_tup us)).push (HandSPX.excO C hp.objs.size)).get? b = some o := fun b o e => Heap.get?_push_of_some _ (Heap.get?_push_of_some _ e)
  have hget : ((hp.push (PySem.W.kdv_tup us)).push (HandSPX.excO C hp.objs.size)).get? (hp.objs.size + 1) = some (HandSPX.excO C hp.objs.size) := by heap_get
  have I2 := I1.laid (t' := tk) (a := hp.objs.size + 1) (o := exo (hp.objs.size + 1) C none) (h' := (hp.push (PySem.W.kdv_tup us)).push (HandSPX.excO C hp.objs.size)) kk hsz (exo_ok hget)
  have r2 : Vals (V.ref (hp.objs.size + 1) :: vs) (Value.ref (hp.objs.size + 1) :: us) := .cons rfl r1
  have hl : (Value.ref (hp.objs.size + 1) :: us).length = ps.length := by rw [← r2.length]; exact F1.len _ _ _ _ hq
  have hus : us.length ≤ sizeLine := by rw [← Paired.length r1, sizeLine_eq]; omega
  have bnd := hb _ (Value.ref (hp.objs.size + 1) :: us) I2.kIn (by rw [List.append_nil]; exact hl)
  rw [List.append_nil] at bnd
  refine wpAny_call (HandSPX.call_own F.excBase_Exception (fun Y => PySem.W.excTail_contains Y bm hbm) (I1.kIn _ _ hC) (PySem.W.looks_findIn I1.kIn iC) (fun self => PySem.W.bind_fn I1.kIn self tI) hus
    (codeAny_mono (F1.run _ X.stack _ _ ⟨Value.ref (hp.objs.size + 1) :: us, []⟩ (Value.ref (hp.objs.size + 1) :: us) _ _ (fun _ _ _ => False) (hr.make C us []) (I2.env0.make C us []) bnd r2 hq) fun r s' hq' => ?_))
  cases r with
  | error er => exact hx pins σ _ _ er s' I2 hq'
  | ok fl =>
    cases fl with
    | ret u =>
      obtain ⟨v, H2, os2, bare2, un2, hok2, rv, ev, d, fs, ea, ed, hd1, q2⟩ := hq'
      subst ev
      obtain ⟨h2, g2, d2, t2, os'⟩ := s'
      obtain ⟨t0, G, J, kG, ge, hoe, na⟩ := mk_end0 (d2 := d2) (t2 := t2) I1 hsz kk un2 hok2 os2 bare2 ea ed hd1
      refine ⟨rv, hp.objs.size + 1, _, _, ⟨G, g2, d2, t2, os'⟩, _, .ref C, some d, rfl, J, kG, ge, hoe, ⟨rfl, rfl, fun vs e => by cases e; rfl⟩, rfl, rfl, na, rfl, bare2, raises_own T.exC T.tyC, q2⟩
    | next => exact False.elim hq'
    | brk => exact False.elim hq'
    | cont => exact False.elim hq'
theorem pmk_new {e : Expr} (T : ExcC X.K C) (iC : PySem.W.findIn X.K (.ref C) "__init__" = some (some (.ref fI))) (tI : PySem.W.typeIn X.K (.ref fI) = some (.type "function"))
    (F1 : FnOk X.prog X.w X.K X.mg X.base CX k fI fd ps sp) (hr : Room (k + 1) X.A) (hb : Binds X.K fd ps []) (hx : Passes CX X (fun _ _ _ => False)) (hg : glB X.env.scope x = true) (hm : X.mg x = some (.ref C)) (ha : PA X (e :: es) ta) (hs : (e :: es).all noStar = true) :
    L2N.PMk X (.Call (.Name x p) (e :: es) [] pos) (tNew C sp ta) := by
  intro pins s σ H Q I h
  have hgl := glob_of hg
  refine wpAny_Call_Name_kw (ld_glob I hgl.1 hm ?_ hgl.2)
  obtain ⟨h1, h2⟩ := Bool.and_eq_true_iff.mp (show (noStar e && es.all noStar) = true from hs)
  exact PySem.W.callWith_K (first := []) (h₀ := X.base) I.ok.mod.kin T.kC (thn (ha.run pos pins s σ H _ I h) fun us s1 ⟨vs, H1, I1, r1, hz, q1⟩ => ⟨I1.kIn, pmk_fin T iC tI F1 hr hb hx I1 r1 hz q1⟩) (star_of h1) (noStars pos h2)
theorem pmk_new0 (T : ExcC X.K C) (iC : PySem.W.findIn X.K (.ref C) "__init__" = some (some (.ref fI))) (tI : PySem.W.typeIn X.K (.ref fI) = some (.type "function"))
    (F1 : FnOk X.prog X.w X.K X.mg X.base CX k fI fd ps sp) (hr : Room (k + 1) X.A) (hb : Binds X.K fd ps []) (hx : Passes CX X (fun _ _ _ => False)) (hg : glB X.env.scope x = true) (hm : X.mg x = some (.ref C)) :
    L2N.PMk X (.Call (.Name x p) [] [] pos) (tNew C sp tNil) := by
  intro pins s σ H Q I h
  have hgl := glob_of hg
  refine wpAny_Call_Name_kw (ld_glob I hgl.1 hm ?_ hgl.2)
  exact PySem.W.callWith_K0 (first := []) I.kIn T.kC (pmk_fin T iC tI F1 hr hb hx I .nil h.1 h.2)
end
end DX

/-! DX3: a def that reads a caught exception's field, called in the except suite. -/
namespace DX
open PySem PySem.Spec PyProof.Rows L2 L2H DI

/-- new objects come, nothing else -/
inductive Grow : Hp → Hp → Prop
  | refl (H : Hp) : Grow H H
  | step {H H' : Hp} {p : Addr} {o : HO} : Grow H H' → H' p = none → Grow H (upd H' p o)
theorem Grow.keep {H H' : Hp} (g : Grow H H') : ∀ {b : Addr} {o : HO}, H b = some o → H' b = some o := by
  induction g with
  | refl => exact fun h => h
  | step g hp ih => exact fun h => by rw [upd_ne (ne_of_none (ih h) hp)]; exact ih h

/-! the trees -/
def chkFR (x w : Str) : FR → Expr → Bool
  | .at_ n, .Attribute (.Name y _) m _ => decide (y = x) && decide (m = n)
  | .non, .Constant .none _ _ => true
  | .ite s a b, .IfExp (.Compare (.Name y _) [.Eq] [.Constant (.str z) _ _] _) p q _ => decide (y = w) && (decide (z = s) && (chkFR x w a p && chkFR x w b q))
  | _, _ => false
def chkSs : List Str → List Expr → Bool
  | [], [] => true
  | s :: ss, .Constant (.str z) _ _ :: es => decide (z = s) && chkSs ss es
  | _, _ => false
def retE : Stmt → Option Expr
  | .Return e _ => e
  | _ => none
def retB : List Stmt → Option Expr
  | [s] => retE s
  | _ => none
def nameE : Expr → Option Str
  | .Name y _ => some y
  | _ => none
def listE : Expr → Option (List Expr)
  | .List es _ => some es
  | _ => none
def isIn1 : List CmpOp → Bool
  | [o] => decide (o = .In)
  | _ => false
def sole : List Expr → Option Expr
  | [e] => some e
  | _ => none
def inE (w : Str) (ss : List Str) : Expr → Bool
  | .Compare l ops rs _ => decide (nameE l = some w) && (isIn1 ops && (match (sole rs).bind listE with
    | some es => chkSs ss es && decide (ss.length ≤ 20)
    | none => false))
  | _ => false
def caseS (x w : Str) (ss : List Str) (r : FR) : Stmt → Bool
  | .If c b o _ => inE w ss c && (o.isEmpty && (match retB b with
    | some e => chkFR x w r e
    | none => false))
  | _ => false
def chkFC (x w : Str) (last : FR) : List (List Str × FR) → List Stmt → Bool
  | [], st => (match retB st with
    | some e => chkFR x w last e
    | none => false)
  | p :: l, s :: st => caseS x w p.1 p.2 s && chkFC x w last l st
  | _ :: _, [] => false
theorem retB_of {st : List Stmt} {e : Expr} (h : retB st = some e) : ∃ p, st = [.Return (some e) p] := by
  cases st with
  | nil => cases h
  | cons s r =>
    cases r with
    | cons _ _ => cases h
    | nil =>
      cases s with
      | Return e' p =>
        have h : e' = some e := h
        subst h
        exact ⟨p, rfl⟩
      | _ => cases h
theorem inE_of {w : Str} {ss : List Str} {c : Expr} (h : inE w ss c = true) : ∃ (p1 p2 p3 : Pos) (es : List Expr), c = .Compare (.Name w p1) [.In] [.List es p2] p3 ∧ chkSs ss es = true ∧ ss.length ≤ 20 := by
  cases c with
  | Compare l ops rs p3 =>
    obtain ⟨h0, k1⟩ := Bool.and_eq_true_iff.mp h
    obtain ⟨h2, k2⟩ := Bool.and_eq_true_iff.mp k1
    have h1 := of_decide_eq_true h0
    clear h k1 h0
    cases l with
    | Name y p1 =>
      cases h1
      cases ops with
      | nil => cases h2
      | cons o os =>
        cases os with
        | cons _ _ => cases h2
        | nil =>
          have h3 : o = .In := of_decide_eq_true h2
          subst h3
          cases rs with
          | nil => cases k2
          | cons r rs =>
            cases rs with
            | cons _ _ => cases k2
            | nil =>
              cases r with
              | List es p2 =>
                obtain ⟨g1, g2⟩ := Bool.and_eq_true_iff.mp k2
                exact ⟨p1, p2, p3, es, rfl, g1, of_decide_eq_true g2⟩
              | _ => cases k2
    | _ => cases h1
  | _ => cases h
theorem caseS_of {x w : Str} {ss : List Str} {r : FR} {s : Stmt} (h : caseS x w ss r s = true) : ∃ (p1 p2 p3 p4 p5 : Pos) (es : List Expr) (e : Expr), s = .If (.Compare (.Name w p1) [.In] [.List es p2] p3) [.Return (some e) p4] [] p5 ∧ chkSs ss es = true ∧ ss.length ≤ 20 ∧ chkFR x w r e = true := by
  cases s with
  | If c b o p5 =>
    obtain ⟨h1, k1⟩ := Bool.and_eq_true_iff.mp h
    obtain ⟨h2, k2⟩ := Bool.and_eq_true_iff.mp k1
    clear h k1
    obtain ⟨p1, p2, p3, es, rfl, g1, g2⟩ := inE_of h1
    have h2 := List.isEmpty_iff.mp h2
    subst h2
    cases e0 : retB b with
    | none => rw [e0] at k2; cases k2
    | some e =>
      rw [e0] at k2
      obtain ⟨p4, rfl⟩ := retB_of e0
      exact ⟨p1, p2, p3, p4, p5, es, e, rfl, g1, g2, k2⟩
  | _ => cases h
theorem chkFR_ite {x w s : Str} {a b : FR} {e : Expr} (h : chkFR x w (.ite s a b) e = true) : ∃ (p1 : Pos) (k : Nat) (p2 p3 : Pos) (p q : Expr) (p4 : Pos), e = .IfExp (.Compare (.Name w p1) [.Eq] [.Constant (.str s) k p2] p3) p q p4 ∧ chkFR x w a p = true ∧ chkFR x w b q = true := by
  cases e with
  | IfExp c p q p4 =>
    cases c with
    | Compare l ops rs p3 =>
      cases l with
      | Name y p1 =>
        match ops, rs, h with
        | [.Eq], [.Constant (.str z) k p2], h =>
          obtain ⟨h1, h⟩ := Bool.and_eq_true_iff.mp h
          obtain ⟨h2, h⟩ := Bool.and_eq_true_iff.mp h
          obtain ⟨h3, h4⟩ := Bool.and_eq_true_iff.mp h
          cases of_decide_eq_true h1
          cases of_decide_eq_true h2
          exact ⟨_, _, _, _, _, _, _, rfl, h3, h4⟩
      | _ => cases h
    | _ => cases h
  | _ => cases h
section
variable {X : Cx} {a C : Addr} {oe : Obj} {cls : Value} {d : Option Addr}
/-- e.n, e the exception that the context bears -/
theorem pe_xfp {e : Expr} {te : TE} {pos : Pos} {n : Str} (hp : (a, oe) ∈ X.pn) (T : XfC X.K C) (hno : PySem.W.findIn X.K (.ref C) n = some none) (hz : Zc (.ref C) d oe) (hf : ∃ vs, oe.data = .fields vs) (he : PE X e te)
    (hb : attributeBase e n X.env (eval e X.env) = eval e X.env) : PE X (.Attribute e n pos) (fun σ H Q => te σ H fun x H1 => x = .ref a ∧ ∃ (dd : Addr) (fs : List (Str × V)) (v : V), d = some dd ∧ H1 dd = some (.xd fs) ∧ fs.lookup n = some v ∧ Q v H1) := by
  refine ⟨fun pins s σ H Q I h => attr_of hb (thn (he.run pins s σ H _ I h) fun u s1 hh => ?_)⟩
  obtain ⟨x, H1, I1, rx, ex, dd, fs, v, ed, ea, l, q⟩ := hh
  subst ex
  obtain rfl : u = Value.ref a := rx
  subst ed
  obtain ⟨vs, hd⟩ := hf
  have P1 := (I1.pin (a, oe) (List.mem_append_left _ hp)).1
  have hx : ObjOk X.prog X.w H1 s1.heap dd (.xd fs) := I1.hok dd _ ea
  obtain ⟨mA, hns, hr⟩ := hx
  obtain ⟨od, ho, hl⟩ := lookIn_ns hns
  obtain ⟨u, hu, ru⟩ := RelO.some_of (v := v) (o := mA n) (by rw [← l]; exact hr n)
  have hnc : PySem.W.notCls oe := by unfold PySem.W.notCls; rw [hd] <;> rfl
  have J : PySem.W.InstAt s1.heap a oe C (some od) := ⟨P1, hz.1, hnc, by rw [hz.2]; exact ho⟩
  exact HandSPX.exc_get I1.kIn J T.ga T.gg T.exC (PySem.W.findObj_own T.hdC hno rfl (by rw [hl, hu])) (handed_of ru) ⟨v, H1, I1.tok _, ru, q⟩

/-- where the body stands: the exception in slot 0, the word in slot 1 -/
structure FCx (X : Cx) (a C : Addr) (oe : Obj) (d : Option Addr) (x w : Str) (ns : List Str) : Prop where
  mem : (a, oe) ∈ X.pn
  xf : XfC X.K C
  no : ∀ n ∈ ns, PySem.W.findIn X.K (.ref C) n = some none
  zc : Zc (.ref C) d oe
  fl : ∃ vs, oe.data = .fields vs
  n0 : X.N[0]? = some x
  n1 : X.N[1]? = some w
  vx : Vis X.env.scope x
  vw : Vis X.env.scope w
  px : plainN x = true
  pw : plainN w = true
def tFV (a : Addr) (z : Str) (dd : Addr) (fs : List (Str × V)) (v : Option Str) : TE := fun σ H Q => σ[0]? = some (some (.ref a)) ∧ σ[1]? = some (some (.str z)) ∧ H dd = some (.xd fs) ∧ match v with
  | none => Q .non H
  | some n => ∃ v, fs.lookup n = some v ∧ Q v H
theorem plain_of' {x : Str} (h : plainN x = true) : (x == ("__debug__" : Str)) = false ∧ (x == ("__classdict__" : Str)) = false := by
  obtain ⟨h1, h2⟩ := Bool.and_eq_true_iff.mp h
  constructor
  · cases e : (x == ("__debug__" : Str)) with
    | false => rfl
    | true => rw [e] at h1; cases h1
  · cases e : (x == ("__classdict__" : Str)) with
    | false => rfl
    | true => rw [e] at h2; cases h2
theorem pe_fr {x w : Str} {ns : List Str} {dd : Addr} (F : FCx X a C oe (some dd) x w ns) {z : Str} {fs : List (Str × V)} : ∀ (r : FR) (e : Expr), (∀ n ∈ r.names, n ∈ ns) → chkFR x w r e = true → PE X e (tFV a z dd fs (r.ev z))
  | .at_ n, e, hn, h => by
    cases e with
    | Attribute o m pos =>
      cases o with
      | Name y p =>
        obtain ⟨h1, h2⟩ := Bool.and_eq_true_iff.mp h
        cases of_decide_eq_true h1
        cases of_decide_eq_true h2
        obtain ⟨d1, d2⟩ := plain_of' F.px
        refine impE (pe_xfp (te := tVar 0) F.mem F.xf (F.no _ (hn _ (by simp [DI.FR.names]))) F.zc F.fl (pe_var F.n0 F.vx d1 d2) rfl) fun σ H Q q => ?_
        obtain ⟨q0, q1, q2, v, q3, q4⟩ := q
        exact ⟨_, q0, rfl, dd, fs, v, rfl, q2, q3, q4⟩
      | _ => cases h
    | _ => cases h
  | .non, e, hn, h => by
    cases e with
    | Constant v kk pos =>
      cases v with
      | none => exact impE pe_non fun σ H Q q => q.2.2.2
      | _ => cases h
    | _ => cases h
  | .ite s a' b', e, hn, h => by
    obtain ⟨p1, k, p2, p3, p, q, p4, rfl, h3, h4⟩ := chkFR_ite h
    obtain ⟨d1, d2⟩ := plain_of' F.pw
    have ha := pe_fr F (z := z) (fs := fs) a' p (fun n m => hn n (by simp [FR.names, m])) h3
    have hb := pe_fr F (z := z) (fs := fs) b' q (fun n m => hn n (by simp [FR.names, m])) h4
    refine impE (pe_ifExp (pt_cmpR op_eq (pe_var F.n1 F.vw d1 d2) pe_str rfl) ha hb) fun σ H Q q => ?_
    obtain ⟨q0, q1, q2, q3⟩ := q
    refine ⟨.str z, q1, rfl, decide (z = s), by rw [dec_str]; by_cases hz : z = s <;> simp [hz], ?_⟩
    unfold DI.FR.ev at q3
    by_cases hz : z = s
    · rw [if_pos hz] at q3
      rw [decide_eq_true hz]
      exact ⟨q0, q1, q2, q3⟩
    · rw [if_neg hz] at q3
      rw [decide_eq_false hz]
      exact ⟨q0, q1, q2, q3⟩
theorem pa_strs : ∀ {ss : List Str} {es : List Expr}, chkSs ss es = true → PA X es (fun σ H Q => Q (ss.map V.str) H) ∧ es.length = ss.length
  | [], [], _ => ⟨impA pa_nil fun _ _ _ q => q, rfl⟩
  | [], _ :: _, h => by cases h
  | s :: ss, [], h => by cases h
  | s :: ss, e :: es, h => by
    cases e with
    | Constant v k p =>
      cases v with
      | str z =>
        obtain ⟨h1, h2⟩ := Bool.and_eq_true_iff.mp h
        cases of_decide_eq_true h1
        obtain ⟨g1, g2⟩ := pa_strs h2
        exact ⟨impA (pa_cons pe_str g1 rfl) fun _ _ _ q => q, congrArg (· + 1) g2⟩
      | _ => cases h
    | _ => cases h
def tFC (a : Addr) (z : Str) (dd : Addr) (fs : List (Str × V)) (v : Option Str) : TS := fun D σ H => σ[0]? = some (some (.ref a)) ∧ σ[1]? = some (some (.str z)) ∧ H dd = some (.xd fs) ∧ ∀ H', Grow H H' → match v with
  | none => D.rt .non H'
  | some n => ∃ v, fs.lookup n = some v ∧ D.rt v H'
theorem in_strs {z : Str} {ss : List Str} : inV (.str z) (ss.map V.str) = decide (z ∈ ss) := by
  unfold inV
  rw [List.any_map]
  by_cases h : z ∈ ss
  · rw [decide_eq_true h]
    exact List.any_eq_true.mpr ⟨z, h, by show (z == z) = true; exact beq_self_eq_true z⟩
  · rw [decide_eq_false h]
    refine List.any_eq_false.mpr fun y hy => ?_
    show ¬ (y == z) = true
    intro e
    have : y = z := eq_of_beq e
    exact h (this ▸ hy)
theorem pss_fc {x w : Str} {ns : List Str} {dd : Addr} (F : FCx X a C oe (some dd) x w ns) {z : Str} {fs : List (Str × V)} {last : FR} (hlast : ∀ n ∈ last.names, n ∈ ns) : ∀ (l : List (List Str × FR)) (st : List Stmt), (∀ p ∈ l, ∀ n ∈ p.2.names, n ∈ ns) → chkFC x w last l st = true → PSs X st (tFC a z dd fs (evC z last l))
  | [], st, hl, h => by
    have h : (match retB st with | some e => chkFR x w last e | none => false) = true := h
    cases e0 : retB st with
    | none => rw [e0] at h; cases h
    | some e =>
      rw [e0] at h
      obtain ⟨p, rfl⟩ := retB_of e0
      refine impB (pss_one (ps_ret (pe_fr F (z := z) (fs := fs) last e hlast h))) fun D σ H q => ?_
      obtain ⟨q0, q1, q2, q3⟩ := q
      exact ⟨q0, q1, q2, q3 H (.refl H)⟩
  | (ss, r) :: l, st, hl, h => by
    cases st with
    | nil => cases h
    | cons s0 st =>
      obtain ⟨h0, h5⟩ := Bool.and_eq_true_iff.mp h
      obtain ⟨p1, p2, p3, p4, p5, es, e, rfl, h2, hlen, h4⟩ := caseS_of h0
      obtain ⟨d1, d2⟩ := plain_of' F.pw
      obtain ⟨g1, g2⟩ := pa_strs (X := X) h2
      have hr := pe_fr F (z := z) (fs := fs) r e (fun n m => hl _ List.mem_cons_self n m) h4
      have ih := pss_fc F (z := z) (fs := fs) hlast l st (fun p hp => hl p (List.mem_cons_of_mem _ hp)) h5
      refine impB (pss_cons (ps_if (pt_cmpR op_in_seq (pe_var F.n1 F.vw d1 d2) (pe_lst g1) rfl) (pss_one (ps_ret hr)) pss_nil) ih) fun D σ H q => ?_
      obtain ⟨q0, q1, q2, q3⟩ := q
      refine ⟨.str z, q1, by rw [List.length_map, sizeLine_eq]; omega, fun p hp => ⟨p, ss.map V.str, rfl, .inl (.inl (.inl upd_same)), rfl, ?_, decide (z ∈ ss), by rw [← in_strs]; rfl, ?_⟩⟩
      · exact List.all_eq_true.mpr fun v hv => by
          obtain ⟨u, _, rfl⟩ := List.mem_map.mp hv
          rfl
      · have gr : Grow H (upd H p (.lst (ss.map V.str))) := .step (.refl H) hp
        have q2' := gr.keep q2
        unfold DI.evC at q3
        by_cases hz : z ∈ ss
        · rw [if_pos hz] at q3
          rw [decide_eq_true hz]
          exact ⟨q0, q1, q2', q3 _ gr⟩
        · rw [if_neg hz] at q3
          rw [decide_eq_false hz]
          refine ⟨q0, q1, q2', fun H' g => q3 H' ?_⟩
          have tr : ∀ {A B C : Hp}, Grow A B → Grow B C → Grow A C := fun {A B C} x y => by
            induction y with
            | refl => exact x
            | step _ hp ih => exact .step ih hp
          exact tr gr g
end
end DX

/-! DX4: the call of the field's def in an except suite. -/
namespace DX
open PySem PySem.Spec PyProof.Rows L2 L2H DI

abbrev CXno : CXT := fun _ _ _ _ _ _ => False
/-- what is known of the field's def -/
structure FieldD (K : PySem.W.Frag) (x w : Str) (l : List (List Str × FR)) (last : FR) (f : Addr) (fd : FuncData) : Prop where
  ex : ∃ (nm qual : Str) (params : Arguments) (body : List Stmt) (scope : Scope), FunD K nm qual params body scope [] [] f fd ∧ FnScope [x, w] [x, w] scope ∧ chkFC x w last l body = true
  bi : Binds K fd [x, w] []
  px : plainN x = true
  pw : plainN w = true
section
variable {X : Cx} {a C f dd : Addr} {oe : Obj} {fd : FuncData} {x w g : Str} {l : List (List Str × FR)} {last : FR} {e : Expr} {es : List Expr} {ta : TA} {q pos : Pos}
def tFieldCall (a : Addr) (dd : Addr) (fs : List (Str × V)) (l : List (List Str × FR)) (last : FR) (ta : TA) : TE := fun σ H Q => ta σ H fun vs H1 => ∃ z, vs = [.ref a, .str z] ∧ H1 dd = some (.xd fs) ∧ ∀ H', Grow H1 H' → match evC z last l with
  | none => Q .non H'
  | some n => ∃ v, fs.lookup n = some v ∧ Q v H'
theorem pe_fieldCall {fs : List (Str × V)} (F : FieldD X.K x w l last f fd) (hp : (a, oe) ∈ X.pn) (xf : XfC X.K C) (no : ∀ p ∈ l, ∀ n ∈ p.2.names, PySem.W.findIn X.K (.ref C) n = some none) (no2 : ∀ n ∈ last.names, PySem.W.findIn X.K (.ref C) n = some none)
    (zc : Zc (.ref C) (some dd) oe) (fl : ∃ vs, oe.data = .fields vs) (hr : RoomH 1 X.A) (hh : X.A.handled = some (.ref a)) (hg : glB X.env.scope g = true) (hm : X.mg g = some (.ref f)) (ha : PA X (e :: es) ta) (hs : (e :: es).all noStar = true) :
    PE X (.Call (.Name g q) (e :: es) [] pos) (tFieldCall a dd fs l last ta) := by
  refine ⟨fun pins s σ H Q I h => ?_⟩
  obtain ⟨nm, qual, params, body, scope, FD, S, hc⟩ := F.ex
  obtain ⟨oc, od, dV, kV, doc, pm, an, cdv, ct, osl, rfl, lk, hcd, _, _⟩ := FD.ex
  have hgl := glob_of hg
  obtain ⟨k1, k2⟩ := Bool.and_eq_true_iff.mp (show (noStar e && es.all noStar) = true from hs)
  refine wpAny_Call_Name_kw (ld_glob I hgl.1 hm ?_ hgl.2)
  refine PySem.W.callWith_K (first := []) (h₀ := X.base) I.ok.mod.kin FD.kp (thn (ha.run pos pins s σ H _ I h) fun us s1 ⟨vs, H1, I1, r1, z, ev, hd, hq⟩ => ⟨I1.kIn, ?_⟩) (star_of k1) (noStars pos k2)
  show wpAny _ _ (call (.ref f) us) _ _ _
  have hl : us.length = 2 := by rw [← r1.length, ev]; rfl
  have bnd := F.bi s1 us I1.kIn (by rw [List.append_nil]; exact hl)
  rw [List.append_nil] at bnd
  have KX : X.K.In s1.heap := I1.kIn
  have e0 := I1.env0
  have lim : s1.heap.NoLimit := e0.mod.nolimit.keeps fun b o e => (e0.bs b o e).1
  have P1 := I1.pin (a, oe) (List.mem_append_left _ hp)
  have hpin : PinOk X.stack H1 s1 (a, oe) := ⟨P1.1, P1.2.1, fun hm => (List.mem_cons.mp (I1.stkSub a hm)).elim P1.2.2.1 P1.2.2.2.1, P1.2.2.2.2⟩
  have hkind : ∀ y ∈ [x, w].zip us, scope.names.lookup y.1 = some .local ∨ (scope.names.lookup y.1 = some .cell ∧ ((cellsFrom (s1.heap.objs.size + 1) scope.names []).lookup y.1).isSome = true) := fun ⟨n, v⟩ hy => by
    rcases S.par n (List.of_mem_zip hy).1 with q | q
    · exact .inl q
    · exact .inr ⟨q, PySem.W.cellsFrom_some _ _ _ (.inl q)⟩
  have run : codeAny (model X.prog X.w) X.A (.call (.ref f) ⟨us, []⟩) (CR CXno X.stack X.prog X.w H1 s1 Q (fun _ _ _ => False)) s1 := by
    refine codeAny_call_function hr.depth (KX _ _ lk) rfl S.co S.gen rfl (PySem.W.codeRec_of KX hcd) (bnd _ _ _ _ ?_)
    refine wpAny_newFunctionEnv_cells S.kind hkind fun env he s2 xx => ?_
    subst he
    refine ⟨lim.keeps xx.toInCall.keep, codeAny_func ?_⟩
    have I2 : Inv (cxH CXno X.prog X.w X.K X.mg X.base [x, w] qual scope f cdv X.A X.stack s1 H1 (fun _ _ _ => False) (a, oe)) [] (L2.start [x, w] vs) H1 s2 := inv_startH S hpin e0 (by rw [r1.length, hl]; rfl) r1 xx
    have Fx : FCx (cxH CXno X.prog X.w X.K X.mg X.base [x, w] qual scope f cdv X.A X.stack s1 H1 (fun _ _ _ => False) (a, oe)) a C oe (some dd) x w ((l.flatMap fun p => p.2.names) ++ last.names) := {
      mem := List.mem_singleton.mpr rfl
      xf := xf
      no := fun n hn => by
        rcases List.mem_append.mp hn with hn | hn
        · obtain ⟨p, hp, hn⟩ := List.mem_flatMap.mp hn
          exact no p hp n hn
        · exact no2 n hn
      zc := zc
      fl := fl
      n0 := rfl
      n1 := rfl
      vx := vis_par S (by simp)
      vw := vis_par S (by simp)
      px := F.px
      pw := F.pw }
    have hb := pss_fc Fx (z := z) (fs := fs) (last := last) (fun n hn => List.mem_append_right _ hn) l body (fun p hp n hn => List.mem_append_left _ (List.mem_flatMap.mpr ⟨p, hp, hn⟩)) hc
    subst ev
    refine wpAny_mono (hb.run [] s2 _ H1 { nx := fun _ _ => False, rt := Q, bk := fun _ _ => False, ct := fun _ _ => False } I2 ⟨rfl, rfl, hd, fun H' gr => hq H' gr⟩) (fun fl s' hs => ?_) fun e s' hs => hs
    cases fl with
    | ret u =>
      obtain ⟨v, σ', H', J, rv, qq⟩ := hs
      exact ⟨v, H', J.os, J.bare, J.base, J.hok, rv, qq⟩
    | next => obtain ⟨_, _, _, qq⟩ := hs; exact False.elim qq
    | brk => obtain ⟨_, _, _, qq⟩ := hs; exact False.elim qq
    | cont => obtain ⟨_, _, _, qq⟩ := hs; exact False.elim qq
  refine wpAny_call (codeAny_mono run fun r s' hq' => ?_)
  cases r with
  | error er => exact False.elim hq'
  | ok fl =>
    cases fl with
    | ret u => exact I1.after hq'
    | next => exact False.elim hq'
    | brk => exact False.elim hq'
    | cont => exact False.elim hq'
end
end DX

/-! DX5: g(lambda: e), where g answers with what the lambda gives, or with the caught exception's name and field. -/
namespace DX
open PySem PySem.Spec PyProof.Rows L2 L2H DI

/-- where the lambda's body stands; what it lets out has no context -/
abbrev lamX (X : Cx) (A : Around) (outer : List PySem.Env) (s : Shared) (H : Hp) (E : XK) (scope : Scope) (f c' : Addr) : Cx :=
  (LamX.lamCx X A outer s H E scope f c').tr [] fun e s' => wpAny (model X.prog X.w) (A.deeper (LamX.lamEnv X scope s.heap.objs.size f c')) (leaving (LamX.lamEnv X scope s.heap.objs.size f c') e)
    (fun _ s2 => L2N.CX X.prog X.w outer H s E e s2) (fun e2 s2 => L2N.CX X.prog X.w outer H s E e2 s2) s'
theorem lamX_takes {X : Cx} {A : Around} {outer : List PySem.Env} {s : Shared} {H : Hp} {E : XK} {scope : Scope} {f c' : Addr} : L2N.Takes (lamX X A outer s H E scope f c') (fun cls d _ H => E cls d H) := L2N.takes_of rfl rfl rfl rfl

section
variable {X : Cx} {pins : List (Addr × Obj)} {σ : L2.St} {H : Hp} {s : Shared}
/-- the lambda is called from the def that got it: Z is that def's context -/
theorem pe_act {CXg : CXT} {Eg : XK} {Ng : List Str} {qg : Str} {sg : Scope} {g f c' : Addr} {cdg pm ctv : Value} {params : Arguments} {body : Expr} {scope : Scope} {k i : Nat} {a : Str} {pn : List (Addr × Obj)} {xe : Value → Shared → Prop} {W : WX} {tb : XK → TE} {p1 p2 : Pos}
    (I : Inv X pins σ H s) (L : LamX.LamS X.env.scope scope) (hf : s.heap.get? f = some (PySem.W.kla_obj "<lambda>" (X.env.qual ++ "<lambda>") params body scope (cloFrom X.env.cells scope.names []) pm c' ctv)) (hfn : H f = none) (hfr : f ∉ frs X.stack)
    (hbind : bindArgs (PySem.W.kla_fn "<lambda>" (X.env.qual ++ "<lambda>") params body scope (cloFrom X.env.cells scope.names []) pm (.ref c') ctv) ⟨[], []⟩ = pure [])
    (tk : L2N.Takes ((cxOf CXg X.prog X.w X.K X.mg X.base Ng qg sg g cdg X.A X.stack s H Eg).tr pn xe) W) (hr : Room (k + 1) (X.A.deeper (envOfC qg sg s.heap.objs.size g cdg)))
    (hbody : ∀ (A : Around) (outer : List PySem.Env) (s : Shared) (H : Hp) (E : XK), Room k (A.deeper (LamX.lamEnv X scope s.heap.objs.size f c')) → PE (lamX X A outer s H E scope f c') body (tb E))
    (hN : Ng[i]? = some a) (hv : Vis sg a) (hd : (a == ("__debug__" : Str)) = false) (hcd : (a == ("__classdict__" : Str)) = false) :
    PE ((cxOf CXg X.prog X.w X.K X.mg X.base Ng qg sg g cdg X.A X.stack s H Eg).tr pn xe) (.Call (.Name a p1) [] [] p2)
      (fun σZ HZ Q => σZ[i]? = some (some (.ref f)) ∧ HZ c' = some (LamX.CodeO c' (X.env.qual ++ "<lambda>")) ∧ tb (fun cls d H => W cls d σZ H) σ HZ Q) := by
  refine ⟨fun pinsZ sZ σZ HZ Q IZ ⟨hs, hc, ht⟩ => ?_⟩
  refine wpAny_Call_Name_kw (thn ((pe_var (pos := p1) (i := i) hN hv hd hcd).run pinsZ sZ σZ HZ (fun v H1 => v = .ref f ∧ H1 = HZ) IZ ⟨.ref f, hs, rfl, rfl⟩) fun u s1 ⟨v, H1, I1, r1, ev, eH⟩ => ?_)
  subst ev
  rw [eH] at I1
  obtain rfl : u = Value.ref f := r1
  have of1 := I1.base.keep f _ hf hfn hfr (fun z => nomatch (show f ∈ ([] : List Addr) from z))
  refine PySem.W.callWith_F0 ⟨_, _, _, _, of1⟩ ?_
  obtain ⟨⟨oc, vs, t, hoc, hdc, hvc⟩, _, _⟩ := I1.hok c' _ hc
  have rc : codeAny (model X.prog X.w) (X.A.deeper (envOfC qg sg s.heap.objs.size g cdg)) (.call (.ref f) ⟨[], []⟩) (CR (L2N.CX X.prog X.w) (envOfC qg sg s.heap.objs.size g cdg :: X.stack) X.prog X.w HZ s1 Q (fun cls d H => W cls d σZ H)) s1 := by
    refine PySem.W.kla_callFunE hr.depth of1 rfl L.co L.gen rfl ⟨c', oc, vs, t, rfl, hoc, hdc, hvc⟩ ?_
    rw [hbind]
    refine wpAny_pure (wpAny_newFunctionEnv (fun y hy => (L.own y hy).2) (fun y hy => absurd hy (by simp)) (fun h₁ hns hsb => ⟨I1.nolimit.fresh _ hsb, ?_⟩) L.kind)
    have kp : ∀ b o, s1.heap.get? b = some o → h₁.get? b = some o := fun b o e => hsb.extBut b o (Nat.ne_of_lt (Heap.lt_size e)) (Heap.get?_push_of_some _ e)
    have J := Inv.toTry (X := LamX.lamCx X (X.A.deeper (envOfC qg sg s.heap.objs.size g cdg)) (envOfC qg sg s.heap.objs.size g cdg :: X.stack) s1 HZ (fun cls d H => W cls d σZ H) scope f c') (LamX.lam_start2 (f := f) (c' := c') (E := fun cls d H => W cls d σZ H) (tk := s1.toks + ([] : List (Str × Value)).length) I L I1.env0 hr.hd I1.base hns kp) (fun e s' => wpAny (model X.prog X.w) ((X.A.deeper (envOfC qg sg s.heap.objs.size g cdg)).deeper (LamX.lamEnv X scope s1.heap.objs.size f c')) (leaving (LamX.lamEnv X scope s1.heap.objs.size f c') e)
      (fun _ s2 => L2N.CX X.prog X.w (envOfC qg sg s.heap.objs.size g cdg :: X.stack) HZ s1 (fun cls d H => W cls d σZ H) e s2) (fun e2 s2 => L2N.CX X.prog X.w (envOfC qg sg s.heap.objs.size g cdg :: X.stack) HZ s1 (fun cls d H => W cls d σZ H) e2 s2) s')
    refine PySem.W.kla_codeExpr (wpAny_mono ((hbody _ _ s1 HZ _ (hr.deeper _)).run [] _ _ HZ Q J ht) (fun v s' ⟨w', H', J', rv, q⟩ => ?_) fun e s' hq => hq)
    exact ⟨w', H', J'.os, J'.bare, J'.base, J'.hok, rv, q⟩
  refine wpAny_call (codeAny_mono rc fun r s' hq => ?_)
  cases r with
  | error e => exact L2N.passAt tk σZ pinsZ HZ s1 e s' I1 hq
  | ok fl =>
    cases fl with
    | ret u => exact I1.after hq
    | next => exact False.elim hq
    | brk => exact False.elim hq
    | cont => exact False.elim hq
end

/-! ### the def that tries -/
def two : List Expr → Option (Expr × Expr)
  | [a, b] => some (a, b)
  | _ => none
theorem two_of {es : List Expr} {p : Expr × Expr} (h : two es = some p) : es = [p.1, p.2] := by
  cases es with
  | nil => cases h
  | cons a r =>
    cases r with
    | nil => cases h
    | cons b r =>
      cases r with
      | nil => cases h; rfl
      | cons _ _ => cases h
theorem nameE_of {e : Expr} {x : Str} (h : nameE e = some x) : ∃ p, e = .Name x p := by
  cases e with
  | Name y p => cases h; exact ⟨p, rfl⟩
  | _ => cases h
def strIs (z : Str) : Expr → Bool
  | .Constant (.str y) _ _ => decide (y = z)
  | _ => false
theorem strIs_of {z : Str} {e : Expr} (h : strIs z e = true) : ∃ k p, e = .Constant (.str z) k p := by
  cases e with
  | Constant v k p =>
    cases v with
    | str y => cases of_decide_eq_true h; exact ⟨k, p, rfl⟩
    | _ => cases h
  | _ => cases h
def askE (a : Str) : Expr → Bool
  | .Call f es ks _ => decide (nameE f = some a) && (es.isEmpty && ks.isEmpty)
  | _ => false
theorem askE_of {a : Str} {e : Expr} (h : askE a e = true) : ∃ p q, e = .Call (.Name a p) [] [] q := by
  cases e with
  | Call f es ks q =>
    obtain ⟨h1, k1⟩ := Bool.and_eq_true_iff.mp h
    obtain ⟨h2, h3⟩ := Bool.and_eq_true_iff.mp k1
    obtain ⟨p, rfl⟩ := nameE_of (of_decide_eq_true h1)
    cases List.isEmpty_iff.mp h2
    cases List.isEmpty_iff.mp h3
    exact ⟨p, q, rfl⟩
  | _ => cases h
def atE (x n : Str) : Expr → Bool
  | .Attribute o m _ => decide (nameE o = some x) && decide (m = n)
  | _ => false
theorem atE_of {x n : Str} {e : Expr} (h : atE x n e = true) : ∃ p q, e = .Attribute (.Name x p) n q := by
  cases e with
  | Attribute o m q =>
    obtain ⟨h1, h2⟩ := Bool.and_eq_true_iff.mp h
    obtain ⟨p, rfl⟩ := nameE_of (of_decide_eq_true h1)
    cases of_decide_eq_true h2
    exact ⟨p, q, rfl⟩
  | _ => cases h
def fcE (g x n : Str) : Expr → Bool
  | .Call f es ks _ => decide (nameE f = some g) && (ks.isEmpty && (match two es with
    | some p => decide (nameE p.1 = some x) && atE x n p.2
    | none => false))
  | _ => false
theorem fcE_of {g x n : Str} {e : Expr} (h : fcE g x n e = true) : ∃ p1 p2 p3 p4 q, e = .Call (.Name g p1) [.Name x p2, .Attribute (.Name x p3) n p4] [] q := by
  cases e with
  | Call f es ks q =>
    obtain ⟨h1, k1⟩ := Bool.and_eq_true_iff.mp h
    obtain ⟨h2, k2⟩ := Bool.and_eq_true_iff.mp k1
    clear h k1
    obtain ⟨p1, rfl⟩ := nameE_of (of_decide_eq_true h1)
    cases List.isEmpty_iff.mp h2
    cases e0 : two es with
    | none => rw [e0] at k2; cases k2
    | some p =>
      rw [e0] at k2
      obtain ⟨a, b⟩ := p
      cases two_of e0
      obtain ⟨g1, g2⟩ := Bool.and_eq_true_iff.mp k2
      obtain ⟨p2, e2⟩ := nameE_of (of_decide_eq_true g1)
      obtain ⟨p3, p4, e3⟩ := atE_of g2
      have e2 : a = .Name x p2 := e2
      have e3 : b = .Attribute (.Name x p3) n p4 := e3
      rw [e2, e3]
      exact ⟨p1, p2, p3, p4, q, rfl⟩
  | _ => cases h
def tup2 (c1 c2 : Expr → Bool) : Expr → Bool
  | .Tuple es _ _ => (match two es with
    | some p => c1 p.1 && c2 p.2
    | none => false)
  | _ => false
theorem tup2_of {c1 c2 : Expr → Bool} {e : Expr} (h : tup2 c1 c2 e = true) : ∃ a b k p, e = .Tuple [a, b] k p ∧ c1 a = true ∧ c2 b = true := by
  cases e with
  | Tuple es k p =>
    have k1 : (match two es with | some p => c1 p.1 && c2 p.2 | none => false) = true := h
    cases e0 : two es with
    | none => rw [e0] at k1; cases k1
    | some q =>
      rw [e0] at k1
      obtain ⟨g1, g2⟩ := Bool.and_eq_true_iff.mp k1
      cases two_of e0
      exact ⟨_, _, k, p, rfl, g1, g2⟩
  | _ => cases h
def retIs (c : Expr → Bool) (st : List Stmt) : Bool := match retB st with
  | some e => c e
  | none => false
theorem retIs_of {c : Expr → Bool} {st : List Stmt} (h : retIs c st = true) : ∃ e p, st = [.Return (some e) p] ∧ c e = true := by
  unfold retIs at h
  cases e0 : retB st with
  | none => rw [e0] at h; cases h
  | some e =>
    rw [e0] at h
    obtain ⟨p, rfl⟩ := retB_of e0
    exact ⟨e, p, rfl, h⟩
def handIs (t n : Str) (c : List Stmt → Bool) : List ExceptHandler → Bool
  | [.ExceptHandler (some e) (some m) s _] => decide (nameE e = some t) && (decide (m = n) && c s)
  | _ => false
theorem handIs_of {t n : Str} {c : List Stmt → Bool} {hs : List ExceptHandler} (h : handIs t n c hs = true) : ∃ p s q, hs = [.ExceptHandler (some (.Name t p)) (some n) s q] ∧ c s = true := by
  cases hs with
  | nil => cases h
  | cons x r =>
    cases r with
    | cons _ _ => cases x with | ExceptHandler t' n' s q => cases t' <;> cases n' <;> cases h
    | nil =>
      cases x with
      | ExceptHandler t' n' s q =>
        cases t' with
        | none => cases n' <;> cases h
        | some e =>
          cases n' with
          | none => cases h
          | some m =>
            obtain ⟨h1, k1⟩ := Bool.and_eq_true_iff.mp h
            obtain ⟨h2, h3⟩ := Bool.and_eq_true_iff.mp k1
            obtain ⟨p, rfl⟩ := nameE_of (of_decide_eq_true h1)
            cases of_decide_eq_true h2
            exact ⟨p, s, q, rfl, h3⟩
def tryIs (cb : List Stmt → Bool) (ch : List ExceptHandler → Bool) : List Stmt → Bool
  | [.Try b hs o f _] => cb b && (ch hs && (o.isEmpty && f.isEmpty))
  | _ => false
theorem tryIs_of {cb : List Stmt → Bool} {ch : List ExceptHandler → Bool} {st : List Stmt} (h : tryIs cb ch st = true) : ∃ b hs p, st = [.Try b hs [] [] p] ∧ cb b = true ∧ ch hs = true := by
  cases st with
  | nil => cases h
  | cons s r =>
    cases r with
    | cons _ _ => cases s <;> cases h
    | nil =>
      cases s with
      | Try b hs o f p =>
        obtain ⟨h1, k1⟩ := Bool.and_eq_true_iff.mp h
        obtain ⟨h2, k2⟩ := Bool.and_eq_true_iff.mp k1
        obtain ⟨h3, h4⟩ := Bool.and_eq_true_iff.mp k2
        cases List.isEmpty_iff.mp h3
        cases List.isEmpty_iff.mp h4
        exact ⟨b, hs, p, rfl, h1, h2⟩
      | _ => cases h
/-- try: return ("value", a()) / except TraceError as e: return (e.class_name, fld(e, e.class_name)) -/
def tryBody (fld : Str) (st : List Stmt) : Bool := tryIs (retIs (tup2 (strIs "value") (askE "_law_ask"))) (handIs "TraceError" "_law_e" (retIs (tup2 (atE "_law_e" "class_name") (fcE fld "_law_e" "class_name")))) st
/-- what is known of it -/
structure TryD (K : PySem.W.Frag) (mg : Str → Option Value) (l : List (List Str × FR)) (last : FR) (C0 g : Addr) (fd : FuncData) : Prop where
  ex : ∃ (nm : Str) (params : Arguments) (body : List Stmt) (scope : Scope), FunD K nm nm params body scope [] [] g fd ∧ FnScope ["_law_ask", "_law_e"] ["_law_ask"] scope ∧ tryBody "_law_field" body = true ∧ glB scope "TraceError" = true ∧ glB scope "_law_field" = true ∧ scope.names.lookup ("_law_e" : Str) = some .local
  bi : Binds K fd ["_law_ask"] []
  fld : ∃ (f : Addr) (ff : FuncData), mg "_law_field" = some (.ref f) ∧ FieldD K "_law_e" "_law_word" l last f ff
  tre : mg "TraceError" = some (.ref C0)
end DX

/-! DX6: the rule for that def's call with a lambda. -/
namespace DX
open PySem PySem.Spec PyProof.Rows L2 L2H DI

/-- what is known of the class of an exception that may be caught -/
structure ExcX (K : PySem.W.Frag) (C0 C : Addr) (l : List (List Str × FR)) (last : FR) : Prop where
  xf : XfC K C
  cn : PySem.W.findIn K (.ref C) "class_name" = some none
  no : ∀ p ∈ l, ∀ n ∈ p.2.names, PySem.W.findIn K (.ref C) n = some none
  no2 : ∀ n ∈ last.names, PySem.W.findIn K (.ref C) n = some none
  exm : PySem.W.exmOne K (.ref C) (.ref C0) = some true
/-- what the answer to an exception asks -/
def tryEx (K : PySem.W.Frag) (C0 : Addr) (l : List (List Str × FR)) (last : FR) (Q : VK) : XK := fun cls d H' => ∃ (C dd : Addr) (fs : List (Str × V)) (z : Str), cls = .ref C ∧ d = some dd ∧ H' dd = some (.xd fs) ∧ ExcX K C0 C l last ∧ fs.lookup ("class_name" : Str) = some (.str z) ∧
  ∀ H2, Grow H' H2 → ∃ v : V, (match evC z last l with
    | none => v = .non
    | some n => fs.lookup n = some v) ∧ ∀ p, H2 p = none → Q (.ref p) (upd H2 p (.tup [.str z, v]))
def tTry (K : PySem.W.Frag) (TS : List (Addr × Str)) (C0 : Addr) (l : List (List Str × FR)) (last : FR) (tb : XK → TE) : TE := fun σ H Q => LamX.Tabs TS H ∧ ∀ H1, LamX.ExtN H H1 → LamX.Tabs TS H1 →
  tb (tryEx K C0 l last Q) σ H1 (fun v H' => ∀ p, H' p = none → Q (.ref p) (upd H' p (.tup [.str "value", v])))

section
variable {X : Cx} {a C0 : Addr} {oe : Obj} {cls : Value} {d : Option Addr} {l : List (List Str × FR)} {last : FR}
/-- the suite -/
def tSuite (K : PySem.W.Frag) (C0 : Addr) (l : List (List Str × FR)) (last : FR) (a : Addr) (cls : Value) (d : Option Addr) : TS := fun D σ H => σ[1]? = some (some (.ref a)) ∧ tryEx K C0 l last D.rt cls d H
theorem pss_suite {f : Addr} {ff : FuncData} {st : List Stmt} (hp : (a, oe) ∈ X.pn) (hz : Zc cls d oe) (fl : ∃ vs, oe.data = .fields vs) (hh : X.A.handled = some (.ref a)) (hr : RoomH 1 X.A) (F : FieldD X.K "_law_e" "_law_word" l last f ff) (hm : X.mg "_law_field" = some (.ref f)) (hg : glB X.env.scope "_law_field" = true)
    (hn : X.N[1]? = some ("_law_e" : Str)) (hv : Vis X.env.scope "_law_e") (hst : retIs (tup2 (atE "_law_e" "class_name") (fcE "_law_field" "_law_e" "class_name")) st = true) : PSs X st (tSuite X.K C0 l last a cls d) := by
  obtain ⟨e, p, rfl, h1⟩ := retIs_of hst
  obtain ⟨e1, e2, k, p1, rfl, h2, h3⟩ := tup2_of h1
  obtain ⟨q1, q2, rfl⟩ := atE_of h2
  obtain ⟨r1, r2, r3, r4, r5, rfl⟩ := fcE_of h3
  refine ⟨fun pins s σ H D I ⟨hs, C, dd, fs, z, ec, ed, hd, T, hcn, hq⟩ => ?_⟩
  subst ec
  subst ed
  have v1 := fun q => pe_var (X := X) (pos := q) hn hv (by decide) (by decide)
  have ha := fun q q' => pe_xfp (X := X) (te := tVar 1) (pos := q') (n := "class_name") hp T.xf T.cn hz fl (v1 q) rfl
  have hc := pe_fieldCall (X := X) (q := r1) (pos := r5) (fs := fs) F hp T.xf T.no T.no2 hz fl hr hh hg hm (pa_cons (v1 r2) (pa_cons (ha r3 r4) pa_nil rfl) rfl) rfl
  refine (pss_one (ps_ret (pos := p) (pe_tup (pa_cons (ha q1 q2) (pa_cons hc pa_nil rfl) rfl)))).run pins s σ H D I ?_
  refine ⟨_, hs, rfl, dd, fs, .str z, rfl, hd, hcn, _, hs, _, hs, rfl, dd, fs, .str z, rfl, hd, hcn, z, rfl, hd, fun H2 gr => ?_⟩
  obtain ⟨v, hv2, hq2⟩ := hq H2 gr
  cases e0 : evC z last l with
  | none =>
    rw [e0] at hv2
    have hv2 : v = .non := hv2
    subst hv2
    exact ⟨by show 2 ≤ sizeLine; rw [sizeLine_eq]; omega, hq2⟩
  | some n =>
    rw [e0] at hv2
    exact ⟨v, hv2, by show 2 ≤ sizeLine; rw [sizeLine_eq]; omega, hq2⟩
theorem roomH_in {A : Around} {k : Nat} (r : Room (k + 1) A) {h : Option Value} : RoomH 1 (A.mark h) := ⟨by have := r.dp; show A.depth + 3 * 1 + 5 < _; omega, by have := r.un; show A.units + 16 * 1 + 200 < _; omega⟩

/-- g(lambda: body) -/
theorem pe_try {TS : List (Addr × Str)} {x : Str} {g c P : Addr} {k : Nat} {fd : FuncData} {params : Arguments} {body : Expr} {scope : Scope} {tb : XK → TE} {p lpos pos : Pos} (T : TryD X.K X.mg l last C0 g fd) (hgl : glB X.env.scope x = true) (hm : X.mg x = some (.ref g))
    (TB : LamX.TabB X.base X.mg c P) (hcode : X.env.code = .ref c) (hmT : (P, X.env.qual ++ "<lambda>") ∈ TS) (hu : ∀ p ∈ TS, p.1 = P → p.2 = X.env.qual ++ "<lambda>") (hr : Room (k + 2) X.A) (L : LamX.LamS X.env.scope scope) (hdef : defaultsOf params X.env = ([], []))
    (hbind : ∀ (q : Str) (cl : List (Str × Addr)) (pm cv ctv : Value), bindArgs (PySem.W.kla_fn "<lambda>" q params body scope cl pm cv ctv) ⟨[], []⟩ = pure [])
    (hbody : ∀ (A : Around) (outer : List PySem.Env) (s : Shared) (H : Hp) (E : XK) (f c' : Addr), Room k (A.deeper (LamX.lamEnv X scope s.heap.objs.size f c')) → PE (lamX X A outer s H E scope f c') body (tb E))
    (mono : ∀ (E E' : XK) (σ : L2.St) (H : Hp) (Q Q' : VK), (∀ cls d H, E cls d H → E' cls d H) → (∀ v H, Q v H → Q' v H) → tb E σ H Q → tb E' σ H Q') :
    PE X (.Call (.Name x p) [.Lambda params body scope lpos] [] pos) (tTry X.K TS C0 l last tb) := by
  refine ⟨fun pins s σ H Q I ⟨hT, h⟩ => ?_⟩
  obtain ⟨nm, pg, bg, sg, FD, S, hb, hte, hlf, hle⟩ := T.ex
  obtain ⟨oc, od, dV, kV, doc, pm0, an, cdv, ct, osl, rfl, lk, hcd, _, _⟩ := FD.ex
  obtain ⟨f0, ff, hmf, F⟩ := T.fld
  have hgl := glob_of hgl
  refine wpAny_Call_Name_kw (ld_glob I hgl.1 hm ?_ hgl.2)
  refine PySem.W.callWith_K (h₀ := X.base) I.ok.mod.kin FD.kp ?_ (by rfl) (by rfl)
  show wpAny _ _ (spliced ((false, eval (.Lambda params body scope lpos) X.env) :: backTo pos (starEach [] X.env))) _ _ s
  refine Calls.spliced_cons (LamX.lam_make2 I TB hcode hmT hu hT hdef (L.has I.ok) fun f c' pm' ctv H1 s' I1 eN T1 hf hfn hfr hco => ?_)
  refine Calls.spliced_nil ⟨I1.kIn, ?_⟩
  have bnd := T.bi s' [.ref f] I1.kIn rfl
  have rc : codeAny (model X.prog X.w) X.A (.call (.ref g) ⟨[.ref f], []⟩) (CR CXno X.stack X.prog X.w H1 s' Q (fun _ _ _ => False)) s' := by
    refine LamX.run_ofS (N := ["_law_ask", "_law_e"]) (ps := ["_law_ask"]) (us := [.ref f]) (vs := [.ref f]) lk hcd S hr I1.env0 bnd (.cons rfl .nil) rfl fun hr' => ?_
    obtain ⟨b, hs, p0, rfl, hb1, hb2⟩ := tryIs_of hb
    obtain ⟨e, p1, rfl, hb1⟩ := retIs_of hb1
    obtain ⟨e1, e2, k1, p2, rfl, hb1, hb3⟩ := tup2_of hb1
    obtain ⟨k2, p3, rfl⟩ := strIs_of hb1
    obtain ⟨p4, p5, rfl⟩ := askE_of hb3
    obtain ⟨p6, st, p7, rfl, hst⟩ := handIs_of hb2
    let Z := cxOf CXno X.prog X.w X.K X.mg X.base ["_law_ask", "_law_e"] nm sg g cdv X.A X.stack s' H1 (fun _ _ _ => False)
    have hte := glob_of (X := Z) hte
    obtain ⟨b0, st0, rfl⟩ : ∃ b0 st0, st = b0 :: st0 := by
      obtain ⟨e, p, rfl, _⟩ := retIs_of hst
      exact ⟨_, _, rfl⟩
    refine ⟨_, pss_one (L2N.ps_try_as (X := Z) (i := 1) (c := .ref C0) (ts := tSuite X.K C0 l last) (Wout := fun _ _ _ _ => False)
      (tb := fun W D σZ HZ => σZ[0]? = some (some (.ref f)) ∧ HZ c' = some (LamX.CodeO c' (X.env.qual ++ "<lambda>")) ∧ tb (fun cls d H => W cls d σZ H) σ HZ (fun v H' => ∀ p, H' p = none → D.rt (.ref p) (upd H' p (.tup [.str "value", v]))))
      rfl rfl S.nd rfl hle ⟨hte.1, hte.2, .inl T.tre⟩ ?_ (fun W pn xe tk _ => ?_) (fun a oe cls d pn hz hfl => ?_)), ?_⟩
    · rintro u s2 ⟨_, _, _, _, _, _, _, _, _, _, _, _, _, _, _, _, z⟩
      exact z.elim
    · have hact := pe_act (i := 0) (p1 := p4) (p2 := p5) I1 L hf hfn hfr (hbind _ _ _ _ _) tk hr' (fun A outer s H E hr2 => hbody A outer s H E f c' hr2) (Ng := ["_law_ask", "_law_e"]) rfl (vis_par S (by simp)) (by decide) (by decide)
      refine impB (pss_one (ps_ret (pos := p1) (pe_tup (pa_cons (pe_str (x := "value")) (pa_cons hact pa_nil rfl) rfl)))) fun D σZ HZ q => ?_
      exact ⟨q.1, q.2.1, mono _ _ σ HZ _ _ (fun _ _ _ z => z) (fun v H' z => ⟨by show 2 ≤ sizeLine; rw [sizeLine_eq]; omega, z⟩) q.2.2⟩
    · refine pss_suite (X := Z.suite a ((a, oe) :: pn)) (List.mem_cons_self) hz.zc hfl rfl (roomH_in hr') F hmf hlf rfl (.inl hle) hst
    · refine ⟨rfl, hco, mono _ _ σ H1 _ _ (fun cls d H' zz => ?_) (fun _ _ z => z) (h H1 eN T1)⟩
      obtain ⟨C, dd, fs, z, ec, ed, hd, TX, hcn, hq⟩ := id zz
      refine ⟨true, by rw [ec]; exact TX.exm, fun _ a na => ⟨rfl, ?_⟩, fun z => Bool.noConfusion z⟩
      exact zz
  refine wpAny_call (codeAny_mono rc fun r s2 hq => ?_)
  cases r with
  | error e => exact (show False from hq).elim
  | ok fl =>
    cases fl with
    | ret u => exact I1.after hq
    | next => exact False.elim hq
    | brk => exact False.elim hq
    | cont => exact False.elim hq
end
end DX

/-! DI9: an expression that bears a term does what the term means. -/
namespace DI
open PySem PySem.Spec PyProof.Rows L2

theorem band {a b : Bool} (h : (a && b) = true) : a = true ∧ b = true := Bool.and_eq_true_iff.mp h

/-! ### what a def promises, where a body stands -/
def spF (K : PySem.W.Frag) (F : Str → List D → Sto → Out D) (np : Nat) (f : Str) : Sp := fun vs H Q E => ∃ as S ds, StOk K as H S ∧ Reps K as H vs ds ∧ ds.length = np ∧ PostG K (fun c d _ H => E c d H) (RE K) as H [] (F f ds S) Q
/-- omitted arguments are the defaults -/
def FillOk (T : Tab) (F : Str → List D → Sto → Out D) : Prop := ∀ (f : Str) (fc : Fc) (ds : List D) (S : Sto), T.get f = some fc → ds.length + (fc.dfl.drop (fc.dfl.length - (fc.np - ds.length))).length = fc.np → F f (ds ++ fc.dfl.drop (fc.dfl.length - (fc.np - ds.length))) S = F f ds S
/-- the defs that may be called from here -/
def FnsOk (T : Tab) (c : Cfg) (X : Cx) : Prop := ∀ (f : Str) (fc : Fc) (m : Nat), T.get f = some fc → m ≤ fc.np → fc.np - m ≤ fc.dfl.length → ∃ (a : Addr) (fd : FuncData) (ps : List Str) (dvs : List V) (dsv : List Value),
    X.mg f = some (.ref a) ∧ PySem.W.keepIn X.K (.ref a) = true ∧ FnOk X.prog X.w X.K X.mg X.base (L2N.CX X.prog X.w) (lev c.lv) a fd ps (spF X.K c.F fc.np f) ∧ Binds X.K fd ps dsv ∧ Vals dvs dsv ∧
    ∀ as H, Reps X.K as H dvs (fc.dfl.drop (fc.dfl.length - (fc.np - m)))
/-- an exception class of the module: made by its own __init__ -/
def XCls (X : Cx) (x : Str) : Prop := ∃ (fo : Option Str) (fI : Addr) (fd : FuncData), excTab.lookup x = some fo ∧ known X.K x = true ∧ X.mg x = some (.ref (He.ga X.K x)) ∧ DX.ExcC X.K (He.ga X.K x) ∧ ClsOk X.K x ∧
  PySem.W.findIn X.K (.ref (He.ga X.K x)) "__init__" = some (some (.ref fI)) ∧ PySem.W.typeIn X.K (.ref fI) = some (.type "function") ∧
  (match fo with
  | some f => FnOk X.prog X.w X.K X.mg X.base DX.CXno 2 fI fd ["self", f] (DX.spT1 X.K x f) ∧ Binds X.K fd ["self", f] []
  | none => FnOk X.prog X.w X.K X.mg X.base DX.CXno 2 fI fd ["self"] (DX.spT2 X.K x) ∧ Binds X.K fd ["self"] [])
/-- the context of a def, without lambdas -/
structure CokB (T : Tab) (c : Cfg) (X : Cx) (W : WX) : Prop where
  g : c.G = T.G
  calm : X.calm = true
  nd : X.N.Nodup
  room : Room (lev c.lv) X.A
  fns : FnsOk T c X
  fl : FillOk T c.F
  glo : ∀ (x : Str) (d : D), T.G x = some d → ∃ v u, X.mg x = some u ∧ RelV v u ∧ ∀ as H, Rep X.K as H v d
  blt : ∀ x ∈ bltNames, X.mg x = none
  exc : ∀ x ∈ T.excs, XCls X x
  bas : T.excs ≠ [] → X.mg excBase = some (.ref (He.ga X.K excBase)) ∧ known X.K excBase = true
  pass : ∀ σ, PassesAt (L2N.CX X.prog X.w) X σ (fun cls d H => W cls d σ H)
/-- where lambdas may be tried: c' is where their bodies stand -/
structure LamOk (T : Tab) (c' : Cfg) (X : Cx) : Prop where
  low : c'.low = none
  g : c'.G = T.G
  room : Room (lev c'.lv + 2) X.A
  fns : FnsOk T c' X
  fl : FillOk T c'.F
  try_ : ∃ (g : Addr) (fd : FuncData), X.mg "_law_try" = some (.ref g) ∧ DX.TryD X.K X.mg fldL fldLast (He.ga X.K excBase) g fd
  knw : known X.K excBase = true
  tab : ∃ c P, X.env.code = .ref c ∧ LamX.TabB X.base X.mg c P ∧ (P, X.env.qual ++ "<lambda>") ∈ tabsOf X.K
  uniq : ∀ p ∈ tabsOf X.K, ∀ q ∈ tabsOf X.K, p.1 = q.1 → p.2 = q.2
structure Cok (T : Tab) (c : Cfg) (X : Cx) (W : WX) : Prop extends CokB T c X W where
  lam : ∀ c', c.low = some c' → LamOk T c' X

theorem vis_of {sc : Scope} {x : Str} (h : visB sc x = true) : Vis sc x := by
  unfold visB isK at h
  simp only [Bool.or_eq_true, decide_eq_true_eq] at h
  exact h
theorem gl_of {X : Cx} {x : Str} (h : glB X.env.scope x = true) : Gl X x ∧ (x == ("__debug__" : Str)) = false := by
  obtain ⟨h1, h2⟩ := band h
  refine ⟨(of_decide_eq_true h1 : X.env.scope.names.lookup x = some .globalImplicit), ?_⟩
  cases e : (x == ("__debug__" : Str)) with
  | false => rfl
  | true => rw [e] at h2; cases h2
theorem plain_of {x : Str} (h : plainN x = true) : (x == ("__debug__" : Str)) = false ∧ (x == ("__classdict__" : Str)) = false := by
  obtain ⟨h1, h2⟩ := band h
  constructor
  · cases e : (x == ("__debug__" : Str)) with
    | false => rfl
    | true => rw [e] at h1; cases h1
  · cases e : (x == ("__classdict__" : Str)) with
    | false => rfl
    | true => rw [e] at h2; cases h2

section
variable {K : PySem.W.Frag} {W : WX} {as : List Addr} {H : Hp} {σ : L2.St}
theorem PostG.bindE {α β γ δ : Type} {R : List Addr → Hp → β → α → Prop} {R' : List Addr → Hp → δ → γ → Prop} {o : Out α} {f : α → Sto → Out γ} {Q : δ → Hp → Prop} {Q1 : β → Hp → Prop} (h : PostG K W R' as H σ (o.bind f) Q)
    (k : ∀ a S b as' H', o = .ok a S → Wx K as H as' H' → StOk K as' H' S → R as' H' b a → PostG K W R' as' H' σ (f a S) Q → Q1 b H') : PostG K W R as H σ o Q1 := by
  cases o with
  | ok a S => exact fun b as' H' w s r => k a S b as' H' rfl w s r (PostG.mono w h)
  | ex x S => exact h
  | bad => exact h
theorem PostG.swap {α β : Type} {R : List Addr → Hp → β → α → Prop} {o : Out α} {Q : β → Hp → Prop} (h : PostG K W R as H σ o Q) : PostG K (fun c d _ H => W c d σ H) R as H [] o Q := by
  cases o with
  | ok a S => exact h
  | ex x S => exact h
  | bad => exact h
theorem PostG.unswap {α β : Type} {R : List Addr → Hp → β → α → Prop} {o : Out α} {Q : β → Hp → Prop} {E : XK} {τ τ' : L2.St} (h : PostG K (fun c d _ H => E c d H) R as H τ o Q) : PostG K (fun c d _ H => E c d H) R as H τ' o Q := by
  cases o with
  | ok a S => exact h
  | ex x S => exact h
  | bad => exact h
end
theorem evA_len {c : Cfg} : ∀ (a : A) (env : Env) (S : Sto) (ds : List D) (S' : Sto), evA c a env S = .ok ds S' → ds.length = a.len
  | .nil, env, S, ds, S', h => by
    have h : (Out.ok [] S : Out (List D)) = .ok ds S' := h
    cases h; rfl
  | .cons e a, env, S, ds, S', h => by
    have h : ((evE c e env S).bind fun x S => (evA c a env S).bind fun xs S => (Out.ok (x :: xs) S : Out (List D))) = .ok ds S' := h
    cases e1 : evE c e env S with
    | ok x S1 =>
      rw [e1] at h
      have h : ((evA c a env S1).bind fun xs S => (Out.ok (x :: xs) S : Out (List D))) = .ok ds S' := h
      cases e2 : evA c a env S1 with
      | ok xs S2 =>
        rw [e2] at h
        have h : (Out.ok (x :: xs) S2 : Out (List D)) = .ok ds S' := h
        cases h
        exact congrArg (· + 1) (evA_len a env S1 xs _ e2)
      | ex x S2 => rw [e2] at h; cases h
      | bad => rw [e2] at h; cases h
    | ex x S1 => rw [e1] at h; cases h
    | bad => rw [e1] at h; cases h
theorem fill_fill {fc : Fc} {ds : List D} (hl : ds.length + (fc.dfl.drop (fc.dfl.length - (fc.np - ds.length))).length = fc.np) : fill fc (ds ++ fc.dfl.drop (fc.dfl.length - (fc.np - ds.length))) = fill fc ds := by
  unfold fill
  have e0 : fc.np - (ds ++ fc.dfl.drop (fc.dfl.length - (fc.np - ds.length))).length = 0 := by rw [List.length_append]; omega
  rw [e0, Nat.sub_zero, List.drop_length, List.append_nil]

theorem fillOk_run (T : Tab) (Wf k : Nat) : FillOk T (runF T Wf k) := fun f fc ds S h hl => by
  cases k with
  | zero => rfl
  | succ k =>
    rw [runF_succ]
    unfold runB
    rw [h]
    simp only [fill_fill hl]

section
variable {X : Cx} {W : WX} {T : Tab} {cf : Cfg} {m : Env → Sto → Out D} {ma : Env → Sto → Out (List D)} {pos : Pos} {e : Expr} {es : List Expr}
/-- a built-in call -/
theorem tCB_of {r : List V → Hp → VK → Prop} {f : List D → Sto → Out D} (d : DoesC X.K W r f) : ∀ (σ : L2.St) (H : Hp) (Q : VK), tE X.K W (fun env S => (ma env S).bind fun ds S => f ds S) σ H Q → tCB r (tA X.K W ma) σ H Q := by
  intro σ H Q h
  obtain ⟨env, as, S, lr, so, po⟩ := h
  exact ⟨env, as, S, lr, so, po.bind fun ds S1 vs as1 H1 w1 so1 rs po1 => d as1 H1 σ S1 ds vs Q so1 rs po1⟩
theorem si_callB {id : String} {x : Str} {p : Pos} {r : List V → Hp → VK → Prop} {f : List D → Sto → Out D} (C : Cok T cf X W) (hc : CallR X (.builtin id) r) (d : DoesC X.K W r f) (hb : x ∈ bltNames) (hv : bootBuiltins x = some (.builtin id)) (hn : x ≠ "__name__")
    (hg : glB X.env.scope x = true) (ha : PA X (e :: es) (tA X.K W ma)) (hs : (e :: es).all noStar = true) : PE X (.Call (.Name x p) (e :: es) [] pos) (tE X.K W fun env S => (ma env S).bind fun ds S => f ds S) :=
  impE (pe_callB hc (gl_of hg).1 (C.blt x hb) hv ha hn (gl_of hg).2 (star_of (band hs).1) (noStars pos (band hs).2)) (tCB_of d)
theorem si_callTy {id : String} {x : Str} {p : Pos} {r : List V → Hp → VK → Prop} {f : List D → Sto → Out D} (C : Cok T cf X W) (hc : CallR X (.type id) r) (d : DoesC X.K W r f) (hb : x ∈ bltNames) (hv : bootBuiltins x = some (.type id)) (hn : x ≠ "__name__")
    (hg : glB X.env.scope x = true) (ha : PA X (e :: es) (tA X.K W ma)) (hs : (e :: es).all noStar = true) : PE X (.Call (.Name x p) (e :: es) [] pos) (tE X.K W fun env S => (ma env S).bind fun ds S => f ds S) :=
  impE (pe_callTy hc (gl_of hg).1 (C.blt x hb) hv ha hn (gl_of hg).2 (star_of (band hs).1) (noStars pos (band hs).2)) (tCB_of d)
theorem backTo_all (pos : Pos) {env : PySem.Env} : ∀ {es : List Expr}, es.all noStar = true → (backTo pos (starEach es env)).all (fun x => !x.1) = true
  | [], _ => rfl
  | e :: es, h => by
    obtain ⟨h1, h2⟩ := band (show (noStar e && es.all noStar) = true from h)
    rw [star_of h1]
    show (true && (backTo pos (starEach es env)).all (fun x => !x.1)) = true
    rw [backTo_all pos h2]
    rfl
theorem si_me {Tn id : String} {name : Str} {apos : Pos} {o : Expr} {r : V → List V → Hp → VK → Prop} {f : D → List D → Sto → Out D} {mm : Me} (pa : PlainAttrs Tn) (slot : Slot Tn name id) (hty : typeOf (.builtin id) = pure (.type "method_descriptor")) (hm : MtR X id r) (d : DoesM X.K W r f)
    (ty : ∀ (as : List Addr) (H : Hp) (S : Sto) (x : D) (v : V), StOk X.K as H S → Rep X.K as H v x → meTy mm x S = true → tyV X.K Tn v H) (ho : PE X o (tE X.K W m)) (hs0 : noSup o = true) (hline : apos.endLine = pos.line) (ha : PA X (e :: es) (tA X.K W ma)) (hs : (e :: es).all noStar = true) (hl : (e :: es).length < 20) :
    PE X (.Call (.Attribute o name apos) (e :: es) [] pos) (tE X.K W fun env S => (m env S).bind fun x S => if meTy mm x S = true then (ma env S).bind fun ds S => f x ds S else .bad) := by
  refine impE (pe_bm pa slot hty hm ho ha (base_of hs0) ?_ (by rw [hline]; exact beq_self_eq_true _) (star_of (band hs).1) (noStars pos (band hs).2)) fun σ H Q h => ?_
  · rw [backTo_all pos hs]
    show (true && true && decide ((e :: es).length + 0 + 0 < 30)) = true
    rw [Bool.and_true, Bool.true_and]
    exact decide_eq_true (by omega)
  · obtain ⟨env, as, S, lr, so, po⟩ := h
    refine ⟨env, as, S, lr, so, po.bind fun x S1 v as1 H1 w1 so1 rx po1 => ?_⟩
    by_cases hc : meTy mm x S1 = true
    · rw [if_pos hc] at po1
      exact ⟨ty as1 H1 S1 x v so1 rx hc, env, as1, S1, lr.mono w1, so1, po1.bind fun ds S2 vs as2 H2 w2 so2 rs po2 => d as2 H2 σ S2 x v ds vs Q so2 (rx.mono w2) rs po2⟩
    · rw [if_neg hc] at po1; exact po1.elim
theorem si_me0 {Tn id : String} {name : Str} {apos : Pos} {o : Expr} {r : V → List V → Hp → VK → Prop} {f : D → List D → Sto → Out D} {mm : Me} (pa : PlainAttrs Tn) (slot : Slot Tn name id) (hty : typeOf (.builtin id) = pure (.type "method_descriptor")) (hm : MtR X id r) (d : DoesM X.K W r f)
    (ty : ∀ (as : List Addr) (H : Hp) (S : Sto) (x : D) (v : V), StOk X.K as H S → Rep X.K as H v x → meTy mm x S = true → tyV X.K Tn v H) (ho : PE X o (tE X.K W m)) (hs0 : noSup o = true) (hline : apos.endLine = pos.line) :
    PE X (.Call (.Attribute o name apos) [] [] pos) (tE X.K W fun env S => (m env S).bind fun x S => if meTy mm x S = true then (Out.ok [] S : Out (List D)).bind fun ds S => f x ds S else .bad) := by
  refine impE (pe_bm0 pa slot hty hm ho (base_of hs0) (by rw [hline]; exact beq_self_eq_true _)) fun σ H Q h => ?_
  obtain ⟨env, as, S, lr, so, po⟩ := h
  refine ⟨env, as, S, lr, so, po.bind fun x S1 v as1 H1 w1 so1 rx po1 => ?_⟩
  by_cases hc : meTy mm x S1 = true
  · rw [if_pos hc] at po1
    exact ⟨ty as1 H1 S1 x v so1 rx hc, d as1 H1 σ S1 x v [] [] Q so1 rx .nil po1⟩
  · rw [if_neg hc] at po1; exact po1.elim
theorem me_list {mm : Me} {K : PySem.W.Frag} : ∀ (as : List Addr) (H : Hp) (S : Sto) (x : D) (v : V), StOk K as H S → Rep K as H v x → meTy mm x S = true → tyV K "list" v H := by
  intro as H S x v so r h
  cases r with
  | ref ha =>
    simp only [meTy] at h
    split at h
    · rename_i ds e
      obtain ⟨vs, h1, h2⟩ := so.seq ha (.inl e)
      exact .inl ⟨rfl, vs, h1⟩
    · cases h
  | _ => cases mm <;> cases h
/-- an own def -/
theorem tCall_of {f : Str} {fc : Fc} {a : A} {dvs : List V} (fl : FillOk T cf.F) (hf : T.get f = some fc) (h1 : a.len ≤ fc.np) (h2 : fc.np - a.len ≤ fc.dfl.length) (hr : ∀ as H, Reps X.K as H dvs (fc.dfl.drop (fc.dfl.length - (fc.np - a.len)))) : ∀ (σ : L2.St) (H : Hp) (Q : VK),
    tE X.K W (fun env S => (evA cf a env S).bind fun ds S => cf.F f ds S) σ H Q → tCallSD (spF X.K cf.F fc.np f) dvs (fun σ cls d H => W cls d σ H) (tA X.K W (evA cf a)) σ H Q := by
  intro σ H Q h
  obtain ⟨env, as, S, lr, so, po⟩ := h
  refine ⟨env, as, S, lr, so, po.bindE fun ds S1 vs as1 H1 he w1 so1 rs po1 => ?_⟩
  have hl : ds.length = a.len := evA_len a env S ds S1 he
  have hd : (fc.dfl.drop (fc.dfl.length - (fc.np - a.len))).length = fc.np - a.len := by rw [List.length_drop]; omega
  refine ⟨as1, S1, ds ++ fc.dfl.drop (fc.dfl.length - (fc.np - a.len)), so1, rs.append (hr as1 H1), by rw [List.length_append, hd, hl]; omega, ?_⟩
  have e := fl f fc ds S1 hf (by rw [hl, hd]; omega)
  rw [hl] at e
  rw [e]
  exact po1.swap
end

/-! ### the theorem -/
section
variable {T : Tab} {cf : Cfg}
theorem chkA_star {N : List Str} : ∀ {a : A} {sc : Scope} {es : List Expr}, chkA T N a sc es = true → es.all noStar = true
  | .nil, sc, [], _ => rfl
  | .nil, sc, _ :: _, h => Bool.noConfusion h
  | .cons _ _, sc, [], h => Bool.noConfusion h
  | .cons e a, sc, x :: es, h => by
    obtain ⟨h1, h2⟩ := band h
    obtain ⟨_, h3⟩ := band h2
    show (noStar x && es.all noStar) = true
    rw [h1, chkA_star h3]
    rfl
theorem chkA_len {N : List Str} : ∀ {a : A} {sc : Scope} {es : List Expr}, chkA T N a sc es = true → es.length = a.len
  | .nil, sc, [], _ => rfl
  | .nil, sc, _ :: _, h => Bool.noConfusion h
  | .cons _ _, sc, [], h => Bool.noConfusion h
  | .cons e a, sc, x :: es, h => congrArg (· + 1) (chkA_len (band (band h).2).2)
theorem tg_of {X : Cx} {st : Str → Bool} (hst : ∀ x, st x = true → Loc X.env.scope x ∧ (X.fn x = true ∨ X.env.scope.names.lookup x = some .local)) (hn : X.N.Nodup) (hc : X.calm = true) {t : DI.T} {e : Expr} (h : chkT X.N st t e = true) : PG X e (tT X.K t) := by
  have key : ∀ (is : List Nat) (es : List Expr), chkT.chkTs X.N st is es = true → PGs X es (is.foldr (fun i t => gCons (gName i) t) gNil) ∧ (assignEach es X.env).length = is.length ∧ (assignEach es X.env).findIdx? (·.1) = none := by
    intro is
    induction is with
    | nil =>
      intro es h
      cases es with
      | nil => exact ⟨pgs_nil, rfl, rfl⟩
      | cons e es => exact Bool.noConfusion h
    | cons i is ih =>
      intro es h
      cases es with
      | nil => exact Bool.noConfusion h
      | cons e es =>
        cases e with
        | Name x pos =>
          obtain ⟨h1, h2⟩ := band h
          obtain ⟨h2, h3⟩ := band h2
          obtain ⟨g1, g2, g3⟩ := ih es h3
          obtain ⟨q1, q2⟩ := hst x h2
          refine ⟨pgs_cons (pg_name hn (of_decide_eq_true h1) q1 q2) g1, congrArg (· + 1) g2, ?_⟩
          show (List.findIdx? (·.1) ((false, assign (.Name x pos) X.env) :: assignEach es X.env)) = none
          rw [List.findIdx?_cons, g3]
          rfl
        | _ => exact Bool.noConfusion h
  cases t with
  | nm i =>
    cases e with
    | Name x pos =>
      obtain ⟨h1, h2⟩ := band h
      obtain ⟨q1, q2⟩ := hst x h2
      exact pg_name hn (of_decide_eq_true h1) q1 q2
    | _ => exact Bool.noConfusion h
  | tp is =>
    cases e with
    | Tuple es kk pos =>
      obtain ⟨g1, g2, g3⟩ := key is es h
      exact pg_tup hc g1 g2 g3
    | _ => exact Bool.noConfusion h

theorem relS_local {scope sc : Scope} {x : Str} {kd : NameKind} (hk : kd ≠ .free) (h : scope.names.lookup x = some kd) : (relS scope sc).names.lookup x = some kd := by
  unfold relS
  show (scope.names.map _).lookup x = some kd
  revert h
  generalize scope.names = l
  induction l with
  | nil => intro h; cases h
  | cons p r ih =>
    obtain ⟨n, kk⟩ := p
    intro h
    have h : (match x == n with | true => some kk | false => r.lookup x) = some kd := h
    cases e : x == n with
    | true =>
      rw [e] at h
      cases h
      have e2 : (kd == NameKind.free) = false := by cases kd <;> first | rfl | exact absurd rfl hk
      show (match x == (if (kd == NameKind.free && sc.kind == ScopeKind.function && sc.names.lookup n == some NameKind.cell) = true then (n, NameKind.cell) else (n, kd)).1 with | true => _ | false => _) = _
      rw [e2]
      show (match x == n with | true => some kd | false => _) = some kd
      rw [e]
    | false =>
      rw [e] at h
      have h := ih h
      show (match x == (if (kk == NameKind.free && sc.kind == ScopeKind.function && sc.names.lookup n == some NameKind.cell) = true then (n, NameKind.cell) else (n, kk)).1 with | true => _ | false => _) = _
      split
      · rename_i e3
        have : (if (kk == NameKind.free && sc.kind == ScopeKind.function && sc.names.lookup n == some NameKind.cell) = true then (n, NameKind.cell) else (n, kk)).1 = n := by split <;> rfl
        rw [this, e] at e3
        cases e3
      · exact h
theorem blk_st {X : Cx} {scope : Scope} (s : Shared) (H : Hp) (C : Addr) (cl : List (Str × Addr)) (fp : List Addr) (x : Str) (h : (isK scope x .local || isK scope x .cell) = true) :
    Loc (X.blk s H scope (compEnvC scope cl C X.env) fp).env.scope x ∧ ((X.blk s H scope (compEnvC scope cl C X.env) fp).fn x = true ∨ (X.blk s H scope (compEnvC scope cl C X.env) fp).env.scope.names.lookup x = some .local) := by
  rcases Bool.or_eq_true_iff.mp h with h | h
  · have e := of_decide_eq_true h
    have e2 : (relS scope X.env.scope).names.lookup x = some .local := relS_local (by decide) e
    exact ⟨.inl e2, .inr e2⟩
  · have e := of_decide_eq_true h
    have e2 : (relS scope X.env.scope).names.lookup x = some .cell := relS_local (by decide) e
    refine ⟨.inr e2, .inl ?_⟩
    show (scope.names.lookup x == some .cell) = true
    rw [e]
    rfl
theorem passes0 {X : Cx} (σ : L2.St) : PassesAt (L2N.CX X.prog X.w) X σ (fun cls d H => W0 cls d σ H) := by
  rintro pins H' s' e s'' I ⟨_, _, _, _, _, _, _, _, _, _, _, _, z⟩
  exact z.elim
theorem Cok.blk {X : Cx} {W : WX} (C : Cok T cf X W) (s : Shared) (H : Hp) (scope : Scope) (cl : List (Str × Addr)) (Ca : Addr) (fp : List Addr) : Cok T cf (X.blk s H scope (compEnvC scope cl Ca X.env) fp) W0 where
  g := C.g
  calm := C.calm
  nd := C.nd
  room := C.room
  fns := C.fns
  fl := C.fl
  glo := C.glo
  blt := C.blt
  exc := C.exc
  bas := C.bas
  pass := fun σ => passes0 σ
  lam := fun c' h => let L := C.lam c' h; ⟨L.low, L.g, L.room, L.fns, L.fl, L.try_, L.knw, L.tab, L.uniq⟩
/-- where a lambda's body stands -/
theorem LamOk.cok {X : Cx} {c' : Cfg} {W : WX} (C : Cok T cf X W) (L : LamOk T c' X) {A : Around} {outer : List PySem.Env} {s : Shared} {H : Hp} {E : XK} {scope : Scope} {f c : Addr} (hr : Room (lev c'.lv) (A.deeper (LamX.lamEnv X scope s.heap.objs.size f c))) :
    Cok T c' (DX.lamX X A outer s H E scope f c) (fun cls d _ H => E cls d H) where
  g := L.g
  calm := rfl
  nd := C.nd
  room := hr
  fns := L.fns
  fl := L.fl
  glo := C.glo
  blt := C.blt
  exc := C.exc
  bas := C.bas
  pass := fun σ => L2N.passAt DX.lamX_takes σ
  lam := fun c2 h => by rw [L.low] at h; cases h
end
end DI

/-! DI10: the theorem for expressions. -/
namespace DI
open PySem PySem.Spec PyProof.Rows L2

section
variable {X : Cx} {W : WX} {T : Tab} {cf : Cfg} {pos : Pos} {e : Expr} {es : List Expr}
def RO (o : Option Int) (p : Option Int) : Prop := o = p
/-- a part of a slice -/
def tOp' (K : PySem.W.Frag) (W : WX) (m : Env → Sto → Out (Option Int)) : TO := tG K W (fun _ _ o p => o = p) m
theorem impO {X : Cx} {o : Option Expr} {t t' : TO} (h : PO X o t) (k : ∀ σ H Q, t' σ H Q → t σ H Q) : PO X o t' := ⟨fun pins s σ H Q I q => h.run pins s σ H Q I (k _ _ _ q)⟩
theorem si_and {a b : Expr} {rest : List Expr} {ma mb : Env → Sto → Out D} (ha : PE X a (tE X.K W ma)) (hb : PE X (.BoolOp .And (b :: rest) pos) (tE X.K W mb)) : PE X (.BoolOp .And (a :: b :: rest) pos) (tE X.K W fun env S => (ma env S).bind fun x S => match x with
    | .bl true => mb env S
    | .bl false => .ok (.bl false) S
    | _ => .bad) := by
  refine impE (pe_and ha hb) fun σ H Q h => ?_
  obtain ⟨env, as, S, lr, so, po⟩ := h
  refine ⟨env, as, S, lr, so, po.bind fun x S1 v as1 H1 w1 so1 rx po1 => ?_⟩
  cases rx with
  | bl c =>
    cases c with
    | true => exact ⟨true, rfl, env, as1, S1, lr.mono w1, so1, po1⟩
    | false => exact ⟨false, rfl, po1.here so1 (.bl _)⟩
  | _ => exact (show False from po1).elim
theorem si_or {a b : Expr} {rest : List Expr} {ma mb : Env → Sto → Out D} (ha : PE X a (tE X.K W ma)) (hb : PE X (.BoolOp .Or (b :: rest) pos) (tE X.K W mb)) : PE X (.BoolOp .Or (a :: b :: rest) pos) (tE X.K W fun env S => (ma env S).bind fun x S => match x with
    | .bl true => .ok (.bl true) S
    | .bl false => mb env S
    | _ => .bad) := by
  refine impE (pe_or ha hb) fun σ H Q h => ?_
  obtain ⟨env, as, S, lr, so, po⟩ := h
  refine ⟨env, as, S, lr, so, po.bind fun x S1 v as1 H1 w1 so1 rx po1 => ?_⟩
  cases rx with
  | bl c =>
    cases c with
    | true => exact ⟨true, rfl, po1.here so1 (.bl _)⟩
    | false => exact ⟨false, rfl, env, as1, S1, lr.mono w1, so1, po1⟩
  | _ => exact (show False from po1).elim
theorem si_not {a : Expr} {ma : Env → Sto → Out D} (ha : PE X a (tE X.K W ma)) : PE X (.UnaryOp .Not a pos) (tE X.K W fun env S => (ma env S).bind fun x S => match x with
    | .bl b => .ok (.bl (!b)) S
    | _ => .bad) := by
  refine impE (pe_not ha) fun σ H Q h => ?_
  obtain ⟨env, as, S, lr, so, po⟩ := h
  refine ⟨env, as, S, lr, so, po.bind fun x S1 v as1 H1 w1 so1 rx po1 => ?_⟩
  cases rx with
  | bl c => exact ⟨c, rfl, po1.here so1 (.bl _)⟩
  | _ => exact (show False from po1).elim
theorem si_ite {c a b : Expr} {mq : Env → Sto → Out Bool} {ma mb : Env → Sto → Out D} (hc : PT X c (tQ X.K W mq)) (ha : PE X a (tE X.K W ma)) (hb : PE X b (tE X.K W mb)) : PE X (.IfExp c a b pos) (tE X.K W fun env S => (mq env S).bind fun k S => if k = true then ma env S else mb env S) := by
  refine impE (pe_ifExp hc ha hb) fun σ H Q h => ?_
  obtain ⟨env, as, S, lr, so, po⟩ := h
  refine ⟨env, as, S, lr, so, po.bind fun x S1 v as1 H1 w1 so1 rx po1 => ?_⟩
  have rx : v = x := rx
  subst rx
  cases v with
  | true => exact ⟨env, as1, S1, lr.mono w1, so1, po1⟩
  | false => exact ⟨env, as1, S1, lr.mono w1, so1, po1⟩
theorem si_tup {kk : Nat} {m : Env → Sto → Out (List D)} (h : PA X es (tA X.K W m)) : PE X (.Tuple es kk pos) (tE X.K W fun env S => (m env S).bind fun ds S => if ds.length ≤ LEN then .ok (.tup ds) S else .bad) := by
  refine impE (pe_tup h) fun σ H Q h => ?_
  obtain ⟨env, as, S, lr, so, po⟩ := h
  refine ⟨env, as, S, lr, so, po.bind fun x S1 v as1 H1 w1 so1 rx po1 => ?_⟩
  obtain ⟨hl, po1⟩ := of_ite po1
  exact ⟨by rw [Reps.length rx]; exact len_le hl, post_tup so1 rx po1⟩
theorem si_lst {m : Env → Sto → Out (List D)} (h : PA X es (tA X.K W m)) : PE X (.List es pos) (tE X.K W fun env S => (m env S).bind fun ds S => if ds.length ≤ LEN then .ok (.ref S.length) (S ++ [.lst ds]) else .bad) := by
  refine impE (pe_lst h) fun σ H Q h => ?_
  obtain ⟨env, as, S, lr, so, po⟩ := h
  refine ⟨env, as, S, lr, so, po.bind fun x S1 v as1 H1 w1 so1 rx po1 => ?_⟩
  obtain ⟨hl, po1⟩ := of_ite po1
  exact ⟨by rw [Reps.length rx]; exact len_le hl, post_lst so1 rx po1⟩
theorem si_neg {a : Expr} {m : Env → Sto → Out D} (h : PE X a (tE X.K W m)) : PE X (.UnaryOp .USub a pos) (tE X.K W fun env S => (m env S).bind fun x S => negD x S) := by
  refine impE (pe_un un_neg h) fun σ H Q h => ?_
  obtain ⟨env, as, S, lr, so, po⟩ := h
  refine ⟨env, as, S, lr, so, po.bind fun x S1 v as1 H1 w1 so1 rx po1 => ?_⟩
  cases rx with
  | int i => exact ⟨_, rfl, po1.here so1 (.int _)⟩
  | _ => exact (show False from po1).elim
theorem si_ix {a b : Expr} {ma mb : Env → Sto → Out D} (hp : plainIx b = true) (ha : PE X a (tE X.K W ma)) (hb : PE X b (tE X.K W mb)) : PE X (.Subscript a b pos) (tE X.K W (bind2 ma mb ixD)) := impE (pe_ix or_ix ha hb (ix_of hp)) fun _ _ _ => tOp_of do_ix
theorem si_sl {a : Expr} {l h : Option Expr} {p2 : Pos} {ma : Env → Sto → Out D} {ml mh : Env → Sto → Out (Option Int)} (ha : PE X a (tE X.K W ma)) (hl : PO X l (tOp' X.K W ml)) (hh : PO X h (tOp' X.K W mh)) :
    PE X (.Subscript a (.Slice l h none p2) pos) (tE X.K W fun env S => (ma env S).bind fun x S => (ml env S).bind fun l S => (mh env S).bind fun h S => slD x l h S) := by
  refine impE (pe_slice or_sl ha hl hh) fun σ H Q h => ?_
  obtain ⟨env, as, S, lr, so, po⟩ := h
  refine ⟨env, as, S, lr, so, po.bind fun x S1 v as1 H1 w1 so1 rx po1 => ⟨env, as1, S1, lr.mono w1, so1, po1.bind fun o S2 o' as2 H2 w2 so2 ro po2 => ⟨env, as2, S2, (lr.mono w1).mono w2, so2, po2.bind fun u S3 u' as3 H3 w3 so3 ru po3 => ?_⟩⟩⟩
  have ro : o' = o := ro
  have ru : u' = u := ru
  subst ro ru
  exact do_sl so3 ((Rep.mono w2 rx).mono w3) po3
theorem si_rev {a : Expr} {k' : Nat} {p1 p2 p3 : Pos} {ma : Env → Sto → Out D} (ha : PE X a (tE X.K W ma)) : PE X (.Subscript a (.Slice none none (some (.UnaryOp .USub (.Constant (.int 1) k' p1) p2)) p3) pos) (tE X.K W fun env S => (ma env S).bind fun x S => revD x S) := by
  refine impE (pe_revT ha) fun σ H Q h => ?_
  obtain ⟨env, as, S, lr, so, po⟩ := h
  refine ⟨env, as, S, lr, so, po.bind fun x S1 v as1 H1 w1 so1 rx po1 => ?_⟩
  cases rx with
  | tup ht hr => exact ⟨_, _, rfl, ht, post_tup so1 hr.reverse po1⟩
  | _ => exact (show False from po1).elim
theorem bltNames_mem (b : Bi) : biName b ∈ bltNames := by cases b <;> decide +kernel
theorem biName_ne (b : Bi) : biName b ≠ "__name__" := by cases b <;> decide +kernel
theorem b_abs : bootBuiltins "abs" = some (.builtin "abs") := by decide +kernel
theorem b_max : bootBuiltins "max" = some (.builtin "max") := by decide +kernel
theorem b_min : bootBuiltins "min" = some (.builtin "min") := by decide +kernel
theorem b_all : bootBuiltins "all" = some (.builtin "all") := by decide +kernel
theorem b_isi : bootBuiltins "isinstance" = some (.builtin "isinstance") := by decide +kernel
theorem b_list : bootBuiltins "list" = some (.type "list") := by decide +kernel
theorem b_tuple : bootBuiltins "tuple" = some (.type "tuple") := by decide +kernel
theorem b_int : bootBuiltins "int" = some (.type "int") := by decide +kernel
theorem b_len : bootBuiltins "len" = some (.builtin "len") := by decide +kernel
theorem si_bi {b : Bi} {p : Pos} {ma : Env → Sto → Out (List D)} (C : Cok T cf X W) (hg : glB X.env.scope (biName b) = true) (ha : PA X (e :: es) (tA X.K W ma)) (hs : (e :: es).all noStar = true) :
    PE X (.Call (.Name (biName b) p) (e :: es) [] pos) (tE X.K W fun env S => (ma env S).bind fun ds S => biD b ds S) := by
  cases b with
  | len => exact si_callB C call_len do_len (bltNames_mem .len) b_len (biName_ne .len) hg ha hs
  | abs => exact si_callB C call_abs do_abs (bltNames_mem .abs) b_abs (biName_ne .abs) hg ha hs
  | max2 => exact si_callB C (call_max2 C.calm) do_max (bltNames_mem .max2) b_max (biName_ne .max2) hg ha hs
  | min2 => exact si_callB C (call_min2 C.calm) do_min (bltNames_mem .min2) b_min (biName_ne .min2) hg ha hs
  | list => exact si_callTy C call_list_of do_list (bltNames_mem .list) b_list (biName_ne .list) hg ha hs
  | tuple => exact si_callTy C call_tuple_of do_tuple (bltNames_mem .tuple) b_tuple (biName_ne .tuple) hg ha hs
  | int => exact si_callTy C call_int1 do_int (bltNames_mem .int) b_int (biName_ne .int) hg ha hs
  | all => exact si_callB C (cr_all C.calm) do_all (bltNames_mem .all) b_all (biName_ne .all) hg ha hs
  | isinst => exact si_callB C cr_isi do_isi (bltNames_mem .isinst) b_isi (biName_ne .isinst) hg ha hs
theorem si_call {f : Str} {p : Pos} {a : A} (C : Cok T cf X W) (hg : glB X.env.scope f = true) (hm : T.may f a.len = true) (ha : PA X es (tA X.K W (evA cf a))) (hs : es.all noStar = true) (hlen : es.length = a.len) :
    PE X (.Call (.Name f p) es [] pos) (tE X.K W fun env S => (evA cf a env S).bind fun ds S => cf.F f ds S) := by
  unfold Tab.may at hm
  cases hf : T.get f with
  | none => rw [hf] at hm; cases hm
  | some fc =>
    rw [hf] at hm
    obtain ⟨h1, h2⟩ := band hm
    obtain ⟨ad, fd, ps, dvs, dsv, q1, q2, q3, q4, q5, q6⟩ := C.fns f fc a.len hf (of_decide_eq_true h1) (of_decide_eq_true h2)
    cases es with
    | nil =>
      cases a with
      | nil =>
        refine impE (pe_callSD0 q3 C.room (gl_of hg).1 q1 q2 q4 q5 (fun σ => C.pass σ) (gl_of hg).2) fun σ H Q h => ?_
        have t := tCall_of (X := X) (W := W) (cf := cf) (a := .nil) C.fl hf (of_decide_eq_true h1) (of_decide_eq_true h2) q6 σ H Q h
        obtain ⟨env, as, S, lr, so, po⟩ := t
        have po : PostG X.K W (RA X.K) as H σ (.ok [] S) _ := po
        exact po.here so .nil
      | cons e a => cases hlen
    | cons e es => exact impE (pe_callSD q3 C.room (gl_of hg).1 q1 q2 q4 q5 (fun σ => C.pass σ) ha (gl_of hg).2 (star_of (band hs).1) (noStars pos (band hs).2)) (tCall_of C.fl hf (of_decide_eq_true h1) (of_decide_eq_true h2) q6)
/-! ### tests -/
theorem si_val {ma : Env → Sto → Out D} (hp : plainT e = true) (ha : PE X e (tE X.K W ma)) : PT X e (tQ X.K W fun env S => (ma env S).bind fun x S => tru x S) := by
  refine impT (pt_truth ha (truth_of hp)) fun σ H Q h => ?_
  obtain ⟨env, as, S, lr, so, po⟩ := h
  refine ⟨env, as, S, lr, so, po.bind fun x S1 v as1 H1 w1 so1 rx po1 => ?_⟩
  unfold tru at po1
  split at po1
  · rename_i b e
    exact ⟨b, tru_of so1 rx e, po1.here so1 rfl⟩
  · exact po1.elim
theorem si_valC {a b : Expr} {op : CmpOp} {r : R2} {f : D → D → Sto → Out D} {m1 m2 : Env → Sto → Out D} (ho : OpR X (compareOp op) r) (d : Does2 X.K W r f) (hm : behindInMarks op b = false) (hf : ∀ x y S d S', f x y S = .ok d S' → ∃ k, d = .bl k) (ha : PE X a (tE X.K W m1)) (hb : PE X b (tE X.K W m2)) :
    PT X (.Compare a [op] [b] pos) (tQ X.K W fun env S => (bind2 m1 m2 f env S).bind fun x S => tru x S) := by
  refine impT (pt_cmpR ho ha hb hm) fun σ H Q h => ?_
  obtain ⟨env, as, S, lr, so, po⟩ := h
  refine tOp_of d ⟨env, as, S, lr, so, ?_⟩
  refine PostG.bindE po fun x S1 v as1 H1 he w1 so1 rx po1 => ?_
  have hx : ∃ k, x = .bl k := by
    have key : ∀ (o1 : Out D) (S1 : Sto) (x : D), (o1.bind fun a S => (m2 env S).bind fun b S => f a b S) = .ok x S1 → ∃ k, x = .bl k := by
      intro o1 S1 x h
      cases o1 with
      | ok a S2 =>
        have h : ((m2 env S2).bind fun b S => f a b S) = .ok x S1 := h
        cases e2 : m2 env S2 with
        | ok b S3 => rw [e2] at h; exact hf a b S3 x S1 h
        | ex y S3 => rw [e2] at h; cases h
        | bad => rw [e2] at h; cases h
      | ex y S2 => cases h
      | bad => cases h
    exact key _ S1 x he
  obtain ⟨c, rfl⟩ := hx
  cases rx
  exact ⟨c, rfl, po1.here so1 rfl⟩
theorem cmp_bl (o : Cop) : ∀ x y S d S', cmpD o x y S = .ok d S' → ∃ k, d = .bl k := by
  intro x y S d S' h
  unfold cmpD at h
  split at h <;> first | (cases h; exact ⟨_, rfl⟩) | (split at h <;> first | (cases h; exact ⟨_, rfl⟩) | cases h) | cases h
theorem si_qand {a b : Expr} {rest : List Expr} {ma mb : Env → Sto → Out Bool} (ha : PT X a (tQ X.K W ma)) (hb : PW X (.BoolOp .And (b :: rest) pos) (tQ X.K W mb)) : PW X (.BoolOp .And (a :: b :: rest) pos) (tQ X.K W fun env S => (ma env S).bind fun k S => if k = true then mb env S else .ok false S) := by
  refine impW (pw_and ha hb) fun σ H Q h => ?_
  obtain ⟨env, as, S, lr, so, po⟩ := h
  refine ⟨env, as, S, lr, so, po.bind fun x S1 v as1 H1 w1 so1 rx po1 => ?_⟩
  have rx : v = x := rx
  subst rx
  cases v with
  | true => exact ⟨env, as1, S1, lr.mono w1, so1, po1⟩
  | false => exact PostG.here po1 so1 rfl
theorem si_qor {a b : Expr} {rest : List Expr} {ma mb : Env → Sto → Out Bool} (ha : PT X a (tQ X.K W ma)) (hb : PW X (.BoolOp .Or (b :: rest) pos) (tQ X.K W mb)) : PW X (.BoolOp .Or (a :: b :: rest) pos) (tQ X.K W fun env S => (ma env S).bind fun k S => if k = true then .ok true S else mb env S) := by
  refine impW (pw_or ha hb) fun σ H Q h => ?_
  obtain ⟨env, as, S, lr, so, po⟩ := h
  refine ⟨env, as, S, lr, so, po.bind fun x S1 v as1 H1 w1 so1 rx po1 => ?_⟩
  have rx : v = x := rx
  subst rx
  cases v with
  | false => exact ⟨env, as1, S1, lr.mono w1, so1, po1⟩
  | true => exact PostG.here po1 so1 rfl
theorem si_qnot {a : Expr} {ma : Env → Sto → Out Bool} (ha : PT X a (tQ X.K W ma)) : PT X (.UnaryOp .Not a pos) (tQ X.K W fun env S => (ma env S).bind fun k S => .ok (!k) S) := by
  refine impT (pt_not ha) fun σ H Q h => ?_
  obtain ⟨env, as, S, lr, so, po⟩ := h
  refine ⟨env, as, S, lr, so, po.bind fun x S1 v as1 H1 w1 so1 rx po1 => ?_⟩
  have rx : v = x := rx
  subst rx
  exact PostG.here po1 so1 rfl
/-! ### arguments -/
theorem si_cons {m : Env → Sto → Out D} {mr : Env → Sto → Out (List D)} (hs : noStar e = true) (he : PE X e (tE X.K W m)) (hr : PA X es (tA X.K W mr)) : PA X (e :: es) (tA X.K W fun env S => (m env S).bind fun x S => (mr env S).bind fun xs S => .ok (x :: xs) S) := by
  refine impA (pa_cons he hr (star_of hs)) fun σ H Q h => ?_
  obtain ⟨env, as, S, lr, so, po⟩ := h
  refine ⟨env, as, S, lr, so, po.bind fun x S1 v as1 H1 w1 so1 rx po1 => ⟨env, as1, S1, lr.mono w1, so1, po1.bind fun xs S2 vs as2 H2 w2 so2 rs po2 => ?_⟩⟩
  exact PostG.here po2 so2 (.cons (Rep.mono w2 rx) rs)
theorem si_nil : PA X [] (tA X.K W fun _ S => .ok [] S) := by
  refine impA pa_nil fun σ H Q h => ?_
  obtain ⟨env, as, S, lr, so, po⟩ := h
  exact PostG.here po so .nil
theorem si_no : PO X none (tOp' X.K W fun _ S => .ok none S) := by
  refine impO po_none fun σ H Q h => ?_
  obtain ⟨env, as, S, lr, so, po⟩ := h
  exact PostG.here po so rfl
theorem si_ex {m : Env → Sto → Out D} (h : PE X e (tE X.K W m)) : PO X (some e) (tOp' X.K W fun env S => (m env S).bind fun x S => match x with
    | .int i => .ok (some i) S
    | _ => .bad) := by
  refine impO (po_some h) fun σ H Q h => ?_
  obtain ⟨env, as, S, lr, so, po⟩ := h
  refine ⟨env, as, S, lr, so, po.bind fun x S1 v as1 H1 w1 so1 rx po1 => ?_⟩
  cases rx with
  | int i => exact ⟨i, rfl, PostG.here po1 so1 rfl⟩
  | _ => exact (show False from po1).elim
/-! ### what is walked -/
theorem PostI.here {K : PySem.W.Frag} {as : List Addr} {H : Hp} {σ : L2.St} {s : Src} {S : Sto} {R : L2.It → Hp → Prop} {J : L2.It} (h : PostI K W as H σ (.ok s S) R) (so : StOk K as H S) (wk : WalkS K as H s J) : R J H := h J as H (Wx.refl _ _ _) so wk
theorem si_iof {tg : Expr} {m : Env → Sto → Out D} (h : PE X e (tE X.K W m)) : PI X tg e (tI X.K W fun env S => (m env S).bind fun x S => match srcOf x S with
    | some s => .ok s S
    | none => .bad) := by
  refine impPI (orPI (pi_list h) (orPI (pi_tup h) (pi_str h))) fun σ H R h => ?_
  obtain ⟨env, as, S, lr, so, po⟩ := h
  have po : PostI X.K W as H σ ((m env S).bind fun x S => match srcOf x S with
    | some s => .ok s S
    | none => .bad) R := po
  cases e0 : m env S with
  | ex x S1 =>
    rw [e0] at po
    exact .inl ⟨env, as, S, lr, so, by rw [e0]; exact po⟩
  | bad => rw [e0] at po; exact po.elim
  | ok x S1 =>
    rw [e0] at po
    have po : PostI X.K W as H σ (match srcOf x S1 with
      | some s => .ok s S1
      | none => .bad) R := po
    cases x with
    | ref n =>
      refine .inl ⟨env, as, S, lr, so, ?_⟩
      rw [e0]
      intro v as1 H1 w1 so1 rx
      cases rx with
      | ref ha =>
        cases e1 : srcOf (.ref n) S1 with
        | none => rw [e1] at po; exact po.elim
        | some s =>
          rw [e1] at po
          have po : PostI X.K W as H σ (.ok s S1) R := po
          simp only [srcOf] at e1
          split at e1
          · rename_i ds e2
            cases e1
            obtain ⟨vs, h1, h2⟩ := so1.seq ha (.inl e2)
            exact ⟨_, rfl, ⟨vs, h1⟩, po _ as1 H1 w1 so1 (walk_live ha)⟩
          · rename_i ds e2
            cases e1
            obtain ⟨vs, h1, h2⟩ := so1.seq ha (.inr e2)
            exact ⟨_, rfl, ⟨vs, h1⟩, po _ as1 H1 w1 so1 (walk_live ha)⟩
          · cases e1
    | tup ds =>
      refine .inr (.inl ⟨env, as, S, lr, so, ?_⟩)
      rw [e0]
      intro v as1 H1 w1 so1 rx
      cases rx with
      | tup ht hr => exact ⟨_, rfl, ⟨_, ht⟩, po _ as1 H1 w1 so1 (walk_tup ht hr)⟩
    | str z =>
      refine .inr (.inr ⟨env, as, S, lr, so, ?_⟩)
      rw [e0]
      intro v as1 H1 w1 so1 rx
      cases rx with
      | str =>
        have po : PostI X.K W as H σ (match (if z.length ≤ LEN then some (Src.its (z.cps.toList.map fun c => D.str ⟨#[c]⟩)) else none) with
          | some s => .ok s S1
          | none => .bad) R := po
        by_cases hl : z.length ≤ LEN
        · rw [if_pos hl] at po
          exact ⟨_, rfl, po _ as1 H1 w1 so1 walk_str⟩
        · rw [if_neg hl] at po; exact po.elim
    | _ => exact (show False from po).elim
theorem si_enum {elts : List Expr} {kk : Nat} {tpos p : Pos} {m : Env → Sto → Out D} (C : Cok T cf X W) (hg : glB X.env.scope "enumerate" = true) (hs : noStar e = true) (h : PE X e (tE X.K W m)) :
    PI X (.Tuple elts kk tpos) (.Call (.Name "enumerate" p) [e] [] pos) (tI X.K W fun env S => (m env S).bind fun x S => match enumD x S with
    | some s => .ok s S
    | none => .bad) := by
  have hb : X.mg "enumerate" = none := C.blt _ (by decide +kernel)
  have ha : PA X [e] (tCons (tE X.K W m) tNil) := pa_cons h pa_nil (star_of hs)
  refine impPI (orPI (pi_enum (gl_of hg).1 hb ha (star_of hs)) (pi_enumT (gl_of hg).1 hb ha (star_of hs))) fun σ H R h => ?_
  obtain ⟨env, as, S, lr, so, po⟩ := h
  have po : PostI X.K W as H σ ((m env S).bind fun x S => match enumD x S with
    | some s => .ok s S
    | none => .bad) R := po
  cases e0 : m env S with
  | ex x S1 =>
    rw [e0] at po
    exact .inl ⟨env, as, S, lr, so, by rw [e0]; exact po⟩
  | bad => rw [e0] at po; exact po.elim
  | ok x S1 =>
    rw [e0] at po
    have po : PostI X.K W as H σ (match enumD x S1 with
      | some s => .ok s S1
      | none => .bad) R := po
    cases x with
    | ref n =>
      refine .inl ⟨env, as, S, lr, so, ?_⟩
      rw [e0]
      intro v as1 H1 w1 so1 rx
      cases rx with
      | ref ha =>
        cases e1 : enumD (.ref n) S1 with
        | none => rw [e1] at po; exact po.elim
        | some s =>
          rw [e1] at po
          have po : PostI X.K W as H σ (.ok s S1) R := po
          simp only [enumD] at e1
          split at e1
          · rename_i ds e2
            cases e1
            obtain ⟨vs, h1, h2⟩ := so1.seq ha (.inl e2)
            exact ⟨_, vs, rfl, h1, po _ as1 H1 w1 so1 (walk_liveE ha)⟩
          · rename_i ds e2
            cases e1
            obtain ⟨vs, h1, h2⟩ := so1.seq ha (.inr e2)
            exact ⟨_, vs, rfl, h1, po _ as1 H1 w1 so1 (walk_liveE ha)⟩
          · cases e1
    | tup ds =>
      refine .inr ⟨env, as, S, lr, so, ?_⟩
      rw [e0]
      intro v as1 H1 w1 so1 rx
      cases rx with
      | tup ht hr => exact ⟨_, _, rfl, ht, po _ as1 H1 w1 so1 (walk_tupE ht hr)⟩
    | _ => exact (show False from po).elim
theorem si_rng1 {tg : Expr} {p : Pos} {m : Env → Sto → Out D} (C : Cok T cf X W) (hg : glB X.env.scope "range" = true) (hs : noStar e = true) (h : PE X e (tE X.K W m)) :
    PI X tg (.Call (.Name "range" p) [e] [] pos) (tI X.K W fun env S => (m env S).bind fun x S => match x with
    | .int i => match rngD 0 i 1 with
      | some s => .ok s S
      | none => .bad
    | _ => .bad) := by
  have hb : X.mg "range" = none := C.blt _ (by decide +kernel)
  refine impPI (pi_range1 (gl_of hg).1 hb (pa_cons h pa_nil (star_of hs)) (star_of hs)) fun σ H R h => ?_
  obtain ⟨env, as, S, lr, so, po⟩ := h
  refine ⟨env, as, S, lr, so, PostG.src po fun x S1 v as1 H1 w1 so1 rx po1 => ?_⟩
  cases rx with
  | int i =>
    have po1 : PostI X.K W as1 H1 σ (match rngD 0 i 1 with
      | some s => .ok s S1
      | none => .bad) R := po1
    unfold rngD at po1
    by_cases hc : -1000000 ≤ (0 : Int) ∧ (0 : Int) ≤ 1000000 ∧ -1000000 ≤ i ∧ i ≤ 1000000 ∧ ((1 : Int) = 1 ∨ (1 : Int) = -1)
    · rw [if_pos hc, if_pos rfl] at po1
      have wk := walk_rng (K := X.K) (as := as1) (H := H1) (lo := 0) (hi := i)
      have e1 : (i - 0).toNat = i.toNat := by rw [Int.sub_zero]
      rw [e1] at wk po1
      exact ⟨i, rfl, by omega, by omega, po1 _ as1 H1 (Wx.refl _ _ _) so1 wk⟩
    · rw [if_neg hc] at po1; exact po1.elim
  | _ => exact (show False from po1).elim
theorem si_rng2 {tg a b : Expr} {p : Pos} {m m' : Env → Sto → Out D} (C : Cok T cf X W) (hg : glB X.env.scope "range" = true) (hs : noStar a = true) (hs' : noStar b = true) (h : PE X a (tE X.K W m)) (h' : PE X b (tE X.K W m')) :
    PI X tg (.Call (.Name "range" p) [a, b] [] pos) (tI X.K W fun env S => (m env S).bind fun x S => (m' env S).bind fun y S => match x, y with
    | .int i, .int j => match rngD i j 1 with
      | some s => .ok s S
      | none => .bad
    | _, _ => .bad) := by
  have hb : X.mg "range" = none := C.blt _ (by decide +kernel)
  refine impPI (pi_range2 (gl_of hg).1 hb (pa_cons h (pa_cons h' pa_nil (star_of hs')) (star_of hs)) (by rw [star_of hs, star_of hs']; rfl) (by rw [star_of hs']; rfl)) fun σ H R h => ?_
  obtain ⟨env, as, S, lr, so, po⟩ := h
  refine ⟨env, as, S, lr, so, PostG.src po fun x S1 v as1 H1 w1 so1 rx po1 => ⟨env, as1, S1, lr.mono w1, so1, PostG.src po1 fun y S2 u as2 H2 w2 so2 ry po2 => ?_⟩⟩
  cases rx with
  | int i =>
    cases ry with
    | int j =>
      have po2 : PostI X.K W as2 H2 σ (match rngD i j 1 with
        | some s => .ok s S2
        | none => .bad) R := po2
      unfold rngD at po2
      by_cases hc : -1000000 ≤ i ∧ i ≤ 1000000 ∧ -1000000 ≤ j ∧ j ≤ 1000000 ∧ ((1 : Int) = 1 ∨ (1 : Int) = -1)
      · rw [if_pos hc, if_pos rfl] at po2
        exact ⟨i, j, rfl, by omega, po2 _ as2 H2 (Wx.refl _ _ _) so2 (walk_rng (K := X.K) (as := as2) (H := H2) (lo := i) (hi := j))⟩
      · rw [if_neg hc] at po2; exact po2.elim
    | _ => exact (show False from po2).elim
  | _ => cases ry <;> exact (show False from po2).elim
theorem si_rng3 {tg a b c : Expr} {p : Pos} {m m' m'' : Env → Sto → Out D} (C : Cok T cf X W) (hg : glB X.env.scope "range" = true) (hs : noStar a = true) (hs' : noStar b = true) (hs'' : noStar c = true) (h : PE X a (tE X.K W m)) (h' : PE X b (tE X.K W m')) (h'' : PE X c (tE X.K W m'')) :
    PI X tg (.Call (.Name "range" p) [a, b, c] [] pos) (tI X.K W fun env S => (m env S).bind fun x S => (m' env S).bind fun y S => (m'' env S).bind fun z S => match x, y, z with
    | .int i, .int j, .int k => match rngD i j k with
      | some s => .ok s S
      | none => .bad
    | _, _, _ => .bad) := by
  have hb : X.mg "range" = none := C.blt _ (by decide +kernel)
  refine impPI (pi_range3 (gl_of hg).1 hb (pa_cons h (pa_cons h' (pa_cons h'' pa_nil (star_of hs'')) (star_of hs')) (star_of hs)) (star_of hs) (noStars pos (by show (noStar b && (noStar c && true)) = true; rw [hs', hs'']; rfl))) fun σ H R h => ?_
  obtain ⟨env, as, S, lr, so, po⟩ := h
  refine ⟨env, as, S, lr, so, PostG.src po fun x S1 v as1 H1 w1 so1 rx po1 => ⟨env, as1, S1, lr.mono w1, so1, PostG.src po1 fun y S2 u as2 H2 w2 so2 ry po2 => ⟨env, as2, S2, (lr.mono w1).mono w2, so2, PostG.src po2 fun z S3 w as3 H3 w3 so3 rz po3 => ?_⟩⟩⟩
  cases rx with
  | int i =>
    cases ry with
    | int j =>
      cases rz with
      | int l =>
        have po3 : PostI X.K W as3 H3 σ (match rngD i j l with
          | some s => .ok s S3
          | none => .bad) R := po3
        unfold rngD at po3
        by_cases hc : -1000000 ≤ i ∧ i ≤ 1000000 ∧ -1000000 ≤ j ∧ j ≤ 1000000 ∧ (l = 1 ∨ l = -1)
        · rw [if_pos hc] at po3
          by_cases hl : l = 1
          · subst hl
            rw [if_pos rfl] at po3
            exact ⟨i, j, 1, (j - i).toNat, rfl, ⟨by decide, by decide, small_one (by omega) (by omega) (by omega) (by omega), by rw [rangeSize_one]; split <;> omega⟩, po3 _ as3 H3 (Wx.refl _ _ _) so3 walk_rngC⟩
          · have hl2 : l = -1 := by omega
            subst hl2
            rw [if_neg (by decide)] at po3
            exact ⟨i, j, -1, (i - j).toNat, rfl, RgC.neg (by omega) (by omega) (by omega) (by omega), po3 _ as3 H3 (Wx.refl _ _ _) so3 walk_rngC⟩
        · rw [if_neg hc] at po3; exact po3.elim
      | _ => exact (show False from po3).elim
    | _ => cases rz <;> exact (show False from po3).elim
  | _ => cases ry <;> cases rz <;> exact (show False from po3).elim
/-! ### comprehensions -/
theorem tGs_weak {Q1 Q2 : L2.St → Hp → Prop} (hQ : ∀ σ H, Q1 σ H → Q2 σ H) : ∀ (is : List Nat) (vs : List V) (τ : L2.St) (H : Hp), (is.foldr (fun i t => gCons (gName i) t) gNil) vs τ H Q1 → (is.foldr (fun i t => gCons (gName i) t) gNil) vs τ H Q2
  | [], _, _, _, h => ⟨h.1, hQ _ _ h.2⟩
  | i :: is, _, _, _, h => by
    obtain ⟨v, r, h1, h2⟩ := h
    exact ⟨v, r, h1, tGs_weak hQ is _ _ _ h2⟩
theorem tT_weak {K : PySem.W.Frag} {Q1 Q2 : L2.St → Hp → Prop} (hQ : ∀ σ H, Q1 σ H → Q2 σ H) {t : DI.T} {v : V} {τ : L2.St} {H : Hp} (h : tT K t v τ H Q1) : tT K t v τ H Q2 := by
  cases t with
  | nm i => exact hQ _ _ h
  | tp is =>
    obtain ⟨a, xs, e1, e2, e3, e4⟩ := h
    exact ⟨a, xs, e1, e2, e3, tGs_weak hQ is _ _ _ e4⟩
theorem si_lcIf {elt tg iter q : Expr} {scope : Scope} {own : List (Str × Nat)} {t : DI.T} {mi : Env → Sto → Out Src} {mq : Env → Sto → Out Bool} {me : Env → Sto → Out D} (C : Cok T cf X W) (hi : PI X tg iter (tI X.K W mi)) (ok : blkC X.N X.env.scope scope own = true) (hf : noSet iter = true)
    (ht : chkT X.N (fun x => isK scope x .local || isK scope x .cell) t tg = true) (hs : ∀ i ∈ t.slots, i ∈ own.map (·.2))
    (hq : ∀ (s : Shared) (H : Hp) (Ca : Addr) (cl : List (Str × Addr)) (fp : List Addr), PT (X.blk s H scope (compEnvC scope cl Ca X.env) fp) q (tQ X.K W0 mq)) (he : ∀ (s : Shared) (H : Hp) (Ca : Addr) (cl : List (Str × Addr)) (fp : List Addr), PE (X.blk s H scope (compEnvC scope cl Ca X.env) fp) elt (tE X.K W0 me)) :
    PE X (.ListComp elt [⟨tg, iter, [q], 0⟩] scope pos) (tE X.K W fun env S => (mi env S).bind fun s S => if s.len < LEN then (mapO s (fun d S => match setT t d (wipeE env (own.map (·.2))) with
      | some env' => (mq env' S).noex.bind fun k S => if k = true then (me env' S).noex.bind fun v S => .ok [v] S else .ok [] S
      | none => .bad) s.len 0 S).bind fun ds S => .ok (.ref S.length) (S ++ [.lst ds]) else .bad) := by
  refine impE (pe_lc (own := own) (g := tT X.K t) C.calm C.nd hi (blkOk_by ok) (fun s H Ca cl fp => tg_of (X := X.blk s H scope (compEnvC scope cl Ca X.env) fp) (fun x hx => blk_st s H Ca cl fp x hx) C.nd C.calm ht) (fun s H Ca cl fp => pts_one (hq s H Ca cl fp)) he (fun x => fold_of hf)) fun σ H Q h => ?_
  obtain ⟨env, as, S, lr, so, po⟩ := h
  refine ⟨env, as, S, lr, so, PostI.bind po fun s S1 J as1 H1 w1 so1 wk po1 => ?_⟩
  by_cases hl : s.len < LEN
  · rw [if_pos hl] at po1
    exact fun p hp => lc_turns wk (lr.mono w1) so1 hl hs hp po1
  · rw [if_neg hl] at po1; exact po1.elim
theorem si_lc {elt tg iter : Expr} {scope : Scope} {own : List (Str × Nat)} {t : DI.T} {mi : Env → Sto → Out Src} {me : Env → Sto → Out D} (C : Cok T cf X W) (hi : PI X tg iter (tI X.K W mi)) (ok : blkC X.N X.env.scope scope own = true) (hf : noSet iter = true)
    (ht : chkT X.N (fun x => isK scope x .local || isK scope x .cell) t tg = true) (hs : ∀ i ∈ t.slots, i ∈ own.map (·.2))
    (he : ∀ (s : Shared) (H : Hp) (Ca : Addr) (cl : List (Str × Addr)) (fp : List Addr), PE (X.blk s H scope (compEnvC scope cl Ca X.env) fp) elt (tE X.K W0 me)) :
    PE X (.ListComp elt [⟨tg, iter, [], 0⟩] scope pos) (tE X.K W fun env S => (mi env S).bind fun s S => if s.len < LEN then (mapO s (fun d S => match setT t d (wipeE env (own.map (·.2))) with
      | some env' => (me env' S).noex.bind fun v S => .ok [v] S
      | none => .bad) s.len 0 S).bind fun ds S => .ok (.ref S.length) (S ++ [.lst ds]) else .bad) := by
  refine impE (pe_lc (own := own) (g := tT X.K t) C.calm C.nd hi (blkOk_by ok) (fun s H Ca cl fp => tg_of (X := X.blk s H scope (compEnvC scope cl Ca X.env) fp) (fun x hx => blk_st s H Ca cl fp x hx) C.nd C.calm ht)
    (fun s H Ca cl fp => pts_nil (X := X.blk s H scope (compEnvC scope cl Ca X.env) fp)) he (fun x => fold_of hf)) fun σ H Q h => ?_
  obtain ⟨env, as, S, lr, so, po⟩ := h
  refine ⟨env, as, S, lr, so, PostI.bind po fun s S1 J as1 H1 w1 so1 wk po1 => ?_⟩
  by_cases hl : s.len < LEN
  · rw [if_pos hl] at po1
    intro p hp
    obtain ⟨Wm, h0, h1⟩ := lc_turns (q := fun _ S => .ok true S) wk (lr.mono w1) so1 hl hs hp po1
    refine ⟨Wm, h0, fun i mm H2 hw => ?_⟩
    rcases h1 i mm H2 hw with h | ⟨h, Nx, hn, hy⟩
    · exact .inl h
    · refine .inr ⟨h, Nx, hn, fun x H' y => ?_⟩
      have key := hy x H' y
      refine tT_weak (fun σ2 H2 hk => ⟨hk.1, ?_⟩) key
      obtain ⟨env2, as2, S2, lr2, so2, po2⟩ := hk.2
      exact po2 true as2 H2 (Wx.refl _ _ _) so2 rfl
  · rw [if_neg hl] at po1; exact po1.elim
end
end DI

/-! DI11: the theorem for expressions, by the term. -/
namespace DI
open PySem PySem.Spec PyProof.Rows L2

theorem nn_of {x : Str} (h : (!(x == ("__name__" : Str))) = true) : x ≠ "__name__" := fun z => by
  subst z
  exact absurd h (by decide +kernel)
theorem slots_of {t : DI.T} {own : List (Str × Nat)} (h : (t.slots.all fun i => (own.map (·.2)).contains i) = true) : ∀ i ∈ t.slots, i ∈ own.map (·.2) := fun i hi => by
  have := List.all_eq_true.mp h i hi
  exact List.contains_iff_mem.mp this
theorem isTup_of {tg : Expr} (h : isTupE tg = true) : ∃ es k p, tg = .Tuple es k p := by
  cases tg with
  | Tuple es k p => exact ⟨_, _, _, rfl⟩
  | _ => cases h
def isBoolX : Expr → Bool
  | .BoolOp .. => true
  | _ => false
theorem tE_mono {K : PySem.W.Frag} {W W' : WX} {m : Env → Sto → Out D} {σ : L2.St} {H : Hp} {Q Q' : VK} (hw : ∀ cls d τ H, W cls d τ H → W' cls d τ H) (hq : ∀ v H, Q v H → Q' v H) (h : tE K W m σ H Q) : tE K W' m σ H Q' := by
  obtain ⟨env, as, S, lr, so, po⟩ := h
  refine ⟨env, as, S, lr, so, ?_⟩
  cases e : m env S with
  | ok d S1 => rw [e] at po; exact fun v as' H' w s r => hq _ _ (po v as' H' w s r)
  | ex x S1 => rw [e] at po; exact fun c d as' H' w s r => hw _ _ _ _ (po c d as' H' w s r)
  | bad => rw [e] at po; exact po.elim
theorem noArgs_of {ps : Arguments} (h : noArgs ps = true) : ps = ⟨[], [], none, [], [], none, []⟩ := by
  unfold noArgs at h
  split at h
  · rfl
  · cases h
theorem wx_ext {K : PySem.W.Frag} {as : List Addr} {H H1 : Hp} (e : LamX.ExtN H H1) : Wx K as H as H1 := ⟨List.prefix_refl _, fun _ h => .inl h, fun b o h _ ht => e b o h ht, fun a c q => q.keep fun u hu hi => e a u hu fun ps z => by
  rw [z] at hi
  rcases hi with ⟨_, z⟩ | ⟨_, _, z⟩ <;> cases z⟩
theorem so_ext {K : PySem.W.Frag} {as : List Addr} {H H1 : Hp} {S : Sto} (so : StOk K as H S) (e : LamX.ExtN H H1) (t : LamX.Tabs (tabsOf K) H1) : StOk K as H1 S := ⟨so.len, so.nd, fun n o ho => by
  obtain ⟨a, ha, r⟩ := so.ob n o ho
  refine ⟨a, ha, ?_⟩
  cases o with
  | lst ds => obtain ⟨vs, h, q⟩ := r; exact ⟨vs, e _ _ h (fun _ z => nomatch z), q.mono (wx_ext e)⟩
  | rol ds => obtain ⟨vs, ob, h, q⟩ := r; exact ⟨vs, ob, e _ _ h (fun _ z => nomatch z), q.mono (wx_ext e)⟩
  | dct kvs => exact r.elim
  | ins c fs => exact r.elim, t⟩
theorem wx_grow {K : PySem.W.Frag} {as : List Addr} {H H1 : Hp} (g : DX.Grow H H1) : Wx K as H as H1 := by
  induction g with
  | refl => exact Wx.refl _ _ _
  | step _ hp ih => exact ih.trans (Wx.newT hp)
theorem so_grow {K : PySem.W.Frag} {as : List Addr} {H H1 : Hp} {S : Sto} (so : StOk K as H S) (g : DX.Grow H H1) : StOk K as H1 S := by
  induction g with
  | refl => exact so
  | step _ hp ih => exact ih.newT hp
theorem names_in : ∀ p ∈ fldL, ∀ n ∈ p.2.names, n ∈ excFld := by decide +kernel
theorem names_in2 : ∀ n ∈ fldLast.names, n ∈ excFld := by decide +kernel
/-- the answer of the def that tries -/
theorem tryEx_of {K : PySem.W.Frag} {W : WX} {as : List Addr} {H : Hp} {σ : L2.St} {S : Sto} {Q : VK} {x : Exn} {cls : Value} {dx : Option Addr} (kn : known K excBase = true) (so : StOk K as H S) (er : ExR K as H cls dx x)
    (po : PostG K W (RE K) as H σ (match tryRes x with
      | some ds => Out.ok (D.tup ds) S
      | none => .bad) Q) : DX.tryEx K (He.ga K excBase) fldL fldLast Q cls dx H := by
  obtain ⟨d, fs, ec, ed, hd, CO, e1, e2⟩ := er
  cases et : tryRes x with
  | none => rw [et] at po; exact po.elim
  | some ds =>
    rw [et] at po
    unfold tryRes at et
    split at et
    · rename_i z ez
      obtain ⟨v0, l0, r0⟩ := flds_of e1 e2 ez
      cases r0
      refine ⟨_, d, fs, z, ec, ed, hd, ⟨CO.xf, CO.no _ (by decide +kernel), fun p hp n hn => CO.no n (names_in p hp n hn), fun n hn => CO.no n (names_in2 n hn), CO.exm _ List.mem_cons_self kn⟩, l0, fun H2 gr => ?_⟩
      have w2 : Wx K as H as H2 := wx_grow gr
      have so2 := so_grow so gr
      cases ev : evC z fldLast fldL with
      | none =>
        rw [ev] at et
        cases et
        refine ⟨.non, rfl, ?_⟩
        exact post_tup so2 (.cons (.str z) (.cons .non .nil)) (PostG.mono w2 po)
      | some n =>
        rw [ev] at et
        obtain ⟨dv, g1, g2⟩ := Option.map_eq_some_iff.mp et
        cases g2
        obtain ⟨v, l1, r1⟩ := flds_of e1 e2 g1
        refine ⟨v, l1, ?_⟩
        exact post_tup so2 (.cons (.str z) (.cons (r1.mono w2) .nil)) (PostG.mono w2 po)
    · cases et
section
variable (T : Tab)
mutual
theorem sndE : ∀ (c : E) {cf : Cfg} {X : Cx} {W : WX} (C : Cok T cf X W) (e : Expr), chkE T X.N c X.env.scope e = true → PE X e (tE X.K W (evE cf c))
  | .var i, cf, X, W, C, e, h => by
    cases e with
    | Name x pos =>
      obtain ⟨h1, h2⟩ := band h
      obtain ⟨h2, h3⟩ := band h2
      obtain ⟨d1, d2⟩ := plain_of h3
      refine impE (pe_var (of_decide_eq_true h1) (vis_of h2) d1 d2) fun σ H Q q => ?_
      obtain ⟨env, as, S, lr, so, po⟩ := q
      have po : PostG X.K W (RE X.K) as H σ (match env[i]? with
        | some (some d) => .ok d S
        | _ => .bad) Q := po
      split at po
      · rename_i d e1
        obtain ⟨v, g1, g2⟩ := lr.at_ i d e1
        exact ⟨v, g1, po.here so g2⟩
      · exact po.elim
    | _ => exact Bool.noConfusion h
  | .glo x, cf, X, W, C, e, h => by
    cases e with
    | Name y pos =>
      obtain ⟨h1, h0⟩ := band h
      obtain ⟨h2, h3⟩ := band h0
      clear h h0
      cases of_decide_eq_true h1
      cases e1 : T.G x with
      | none => rw [e1] at h3; cases h3
      | some d =>
        obtain ⟨v, u, g1, g2, g3⟩ := C.glo x d e1
        refine impE (pe_glob (gl_of h2).1 g1 g2 (gl_of h2).2) fun σ H Q q => ?_
        obtain ⟨env, as, S, lr, so, po⟩ := q
        have po : PostG X.K W (RE X.K) as H σ (match cf.G x with
          | some d => .ok d S
          | none => .bad) Q := po
        rw [C.g, e1] at po
        exact po.here so (g3 as H)
    | _ => exact Bool.noConfusion h
  | .bt x n, cf, X, W, C, e, h => by
    cases e with
    | Name y pos =>
      obtain ⟨h1, g1⟩ := band h
      obtain ⟨h2, g2⟩ := band g1
      obtain ⟨h3, g3⟩ := band g2
      obtain ⟨h4, h5⟩ := band g3
      clear h g1 g2 g3
      cases of_decide_eq_true h1
      unfold btOk at h3
      split at h3
      · rename_i m e1
        have e2 : m = n := of_decide_eq_true h3
        subst e2
        refine impE (pe_bltn (v := .ty m) (gl_of h2).1 (C.blt x (List.contains_iff_mem.mp h4)) e1 rfl (nn_of h5) (gl_of h2).2) fun σ H Q q => ?_
        obtain ⟨env, as, S, lr, so, po⟩ := q
        exact PostG.here po so (.bty m)
      · cases h3
    | _ => exact Bool.noConfusion h
  | .int i, cf, X, W, C, e, h => by
    cases e with
    | Constant v kk pos =>
      cases v with
      | int j =>
        cases of_decide_eq_true h
        refine impE pe_int fun σ H Q q => ?_
        obtain ⟨env, as, S, lr, so, po⟩ := q
        exact PostG.here po so (.int i)
      | _ => exact Bool.noConfusion h
    | _ => exact Bool.noConfusion h
  | .str i, cf, X, W, C, e, h => by
    cases e with
    | Constant v kk pos =>
      cases v with
      | str j =>
        cases of_decide_eq_true h
        refine impE pe_str fun σ H Q q => ?_
        obtain ⟨env, as, S, lr, so, po⟩ := q
        exact PostG.here po so (.str i)
      | _ => exact Bool.noConfusion h
    | _ => exact Bool.noConfusion h
  | .bl i, cf, X, W, C, e, h => by
    cases e with
    | Constant v kk pos =>
      cases v with
      | bool j =>
        cases of_decide_eq_true h
        refine impE pe_bl fun σ H Q q => ?_
        obtain ⟨env, as, S, lr, so, po⟩ := q
        exact PostG.here po so (.bl i)
      | _ => exact Bool.noConfusion h
    | _ => exact Bool.noConfusion h
  | .non, cf, X, W, C, e, h => by
    cases e with
    | Constant v kk pos =>
      cases v with
      | none =>
        refine impE pe_non fun σ H Q q => ?_
        obtain ⟨env, as, S, lr, so, po⟩ := q
        exact PostG.here po so .non
      | _ => exact Bool.noConfusion h
    | _ => exact Bool.noConfusion h
  | .bin o a b, cf, X, W, C, e, h => by
    cases e with
    | BinOp x op y pos =>
      obtain ⟨h1, h2⟩ := band h
      obtain ⟨h2, h3⟩ := band h2
      cases of_decide_eq_true h1
      have ha := sndE a C x h2
      have hb := sndE b C y h3
      cases o with
      | add => exact si_bin or_add do_add ha hb
      | sub => exact si_bin op_sub do_sub ha hb
      | mul => exact si_bin or_mul do_mul ha hb
      | fdiv => exact si_bin op_fdivWN do_fdiv ha hb
      | mod => exact si_bin op_modN do_mod ha hb
      | pow => exact si_bin op_pow do_pow ha hb
    | _ => exact Bool.noConfusion h
  | .neg a, cf, X, W, C, e, h => by
    cases e with
    | UnaryOp op x pos =>
      cases op with
      | USub => exact si_neg (sndE a C x h)
      | _ => exact Bool.noConfusion h
    | _ => exact Bool.noConfusion h
  | .cmp o a b, cf, X, W, C, e, h => by
    cases e with
    | Compare x ops ys pos =>
      match ops, ys, h with
      | [op], [y], h =>
        obtain ⟨h1, h2⟩ := band h
        obtain ⟨h2, h3⟩ := band h2
        obtain ⟨h3, h4⟩ := band h3
        cases of_decide_eq_true h1
        have ha := sndE a C x h3
        have hb := sndE b C y h4
        have hm : ∀ op, behindInMarks op y = false := fun op => marks_of h2
        cases o with
        | eq => exact si_cmp (op_eqD C.room.units) do_eq (hm _) ha hb
        | ne => exact si_cmp (op_neD C.room.units) do_ne (hm _) ha hb
        | lt => exact si_cmp op_lt do_lt (hm _) ha hb
        | le => exact si_cmp op_le do_le (hm _) ha hb
        | gt => exact si_cmp op_gt do_gt (hm _) ha hb
        | ge => exact si_cmp op_ge do_ge (hm _) ha hb
        | is_ => exact si_cmp op_isN do_is (hm _) ha hb
        | isNot => exact si_cmp op_notN do_isNot (hm _) ha hb
        | isIn => exact si_cmp (r := fun _ _ _ _ => False) (fun pins s σ H x y v u Q I rx ry z => z.elim) (fun as H σ S x y v u Q so rx ry po => (show PostG X.K W (RE X.K) as H σ (.bad : Out D) Q by cases x <;> cases y <;> exact po).elim) (hm _) ha hb
        | notIn => exact si_cmp (r := fun _ _ _ _ => False) (fun pins s σ H x y v u Q I rx ry z => z.elim) (fun as H σ S x y v u Q so rx ry po => (show PostG X.K W (RE X.K) as H σ (.bad : Out D) Q by cases x <;> cases y <;> exact po).elim) (hm _) ha hb
      | [], ys, h => cases ys <;> exact Bool.noConfusion h
      | [op], [], h => exact Bool.noConfusion h
      | [op], y :: z :: r, h => exact Bool.noConfusion h
      | op :: op2 :: r, ys, h => cases ys <;> exact Bool.noConfusion h
    | _ => exact Bool.noConfusion h
  | .andV a b, cf, X, W, C, e, h => by
    cases e with
    | BoolOp op es pos =>
      cases op with
      | And =>
        match es, h with
        | x :: y :: [], h =>
          obtain ⟨h1, h2⟩ := band h
          exact si_and (sndE a C x h1) (pe_one (sndE b C y h2))
        | x :: y :: z :: r, h =>
          obtain ⟨h1, h2⟩ := band h
          exact si_and (sndE a C x h1) (sndE b C _ h2)
        | [x], h => exact Bool.noConfusion h
        | [], h => exact Bool.noConfusion h
      | Or => exact Bool.noConfusion h
    | _ => exact Bool.noConfusion h
  | .orV a b, cf, X, W, C, e, h => by
    cases e with
    | BoolOp op es pos =>
      cases op with
      | Or =>
        match es, h with
        | x :: y :: [], h =>
          obtain ⟨h1, h2⟩ := band h
          exact si_or (sndE a C x h1) (pe_one (sndE b C y h2))
        | x :: y :: z :: r, h =>
          obtain ⟨h1, h2⟩ := band h
          exact si_or (sndE a C x h1) (sndE b C _ h2)
        | [x], h => exact Bool.noConfusion h
        | [], h => exact Bool.noConfusion h
      | And => exact Bool.noConfusion h
    | _ => exact Bool.noConfusion h
  | .notV a, cf, X, W, C, e, h => by
    cases e with
    | UnaryOp op x pos =>
      cases op with
      | Not => exact si_not (sndE a C x h)
      | _ => exact Bool.noConfusion h
    | _ => exact Bool.noConfusion h
  | .ite t a b, cf, X, W, C, e, h => by
    cases e with
    | IfExp c x y pos =>
      obtain ⟨h1, h2⟩ := band h
      obtain ⟨h2, h3⟩ := band h2
      exact si_ite (sndQ t C c h1).1 (sndE a C x h2) (sndE b C y h3)
    | _ => exact Bool.noConfusion h
  | .tup a, cf, X, W, C, e, h => by
    cases e with
    | Tuple es kk pos => exact si_tup (sndA a C es h)
    | _ => exact Bool.noConfusion h
  | .lst a, cf, X, W, C, e, h => by
    cases e with
    | List es pos => exact si_lst (sndA a C es h)
    | _ => exact Bool.noConfusion h
  | .call f a, cf, X, W, C, e, h => by
    cases e with
    | Call fn es ks pos =>
      cases fn with
      | Name g p =>
        cases ks with
        | nil =>
          obtain ⟨h1, h2⟩ := band h
          obtain ⟨h2, h3⟩ := band h2
          obtain ⟨h3, h4⟩ := band h3
          cases of_decide_eq_true h1
          exact si_call C h2 h3 (sndA a C es h4) (chkA_star h4) (chkA_len h4)
        | cons k r => exact Bool.noConfusion h
      | _ => exact Bool.noConfusion h
    | _ => exact Bool.noConfusion h
  | .bi b a, cf, X, W, C, e, h => by
    cases e with
    | Call fn es ks pos =>
      cases fn with
      | Name g p =>
        match es, ks, h with
        | e :: es, [], h =>
          obtain ⟨h1, h2⟩ := band h
          obtain ⟨h2, h3⟩ := band h2
          cases of_decide_eq_true h1
          exact si_bi C h2 (sndA a C _ h3) (chkA_star h3)
        | [], ks, h => cases ks <;> exact Bool.noConfusion h
        | e :: es, kk :: r, h => exact Bool.noConfusion h
      | _ => exact Bool.noConfusion h
    | _ => exact Bool.noConfusion h
  | .me m o a, cf, X, W, C, e, h => by
    cases e with
    | Call fn es ks pos =>
      cases fn with
      | Attribute x name apos =>
        cases ks with
        | nil =>
          obtain ⟨h1, g1⟩ := band h
          obtain ⟨h2, g2⟩ := band g1
          obtain ⟨h3, g3⟩ := band g2
          obtain ⟨h4, g4⟩ := band g3
          obtain ⟨h5, h6⟩ := band g4
          clear h g1 g2 g3 g4
          cases of_decide_eq_true h1
          have ho := sndE o C x h5
          have ha := sndA a C es h6
          cases es with
          | nil =>
            cases a with
            | nil =>
              cases m with
              | append => exact si_me0 (mm := .append) PySem.F.plainAttrs_list PySem.F.slot_list_append PySem.F.type_list_append mt_append do_append me_list ho h3 (of_decide_eq_true h2)
              | pop => exact si_me0 (mm := .pop) PySem.F.plainAttrs_list PySem.F.slot_list_pop PySem.F.type_list_pop mt_pop do_pop me_list ho h3 (of_decide_eq_true h2)
            | cons e a => exact Bool.noConfusion h6
          | cons e es =>
            cases m with
            | append => exact si_me (mm := .append) PySem.F.plainAttrs_list PySem.F.slot_list_append PySem.F.type_list_append mt_append do_append me_list ho h3 (of_decide_eq_true h2) ha (chkA_star h6) (of_decide_eq_true h4)
            | pop => exact si_me (mm := .pop) PySem.F.plainAttrs_list PySem.F.slot_list_pop PySem.F.type_list_pop mt_pop do_pop me_list ho h3 (of_decide_eq_true h2) ha (chkA_star h6) (of_decide_eq_true h4)
        | cons k r => exact Bool.noConfusion h
      | _ => exact Bool.noConfusion h
    | _ => exact Bool.noConfusion h
  | .ix a i, cf, X, W, C, e, h => by
    cases e with
    | Subscript x y pos =>
      obtain ⟨h1, h2⟩ := band h
      obtain ⟨h2, h3⟩ := band h2
      exact si_ix h1 (sndE a C x h2) (sndE i C y h3)
    | _ => exact Bool.noConfusion h
  | .sl a lo hi, cf, X, W, C, e, h => by
    cases e with
    | Subscript x y pos =>
      cases y with
      | Slice l u st p2 =>
        cases st with
        | none =>
          obtain ⟨h1, h2⟩ := band h
          obtain ⟨h2, h3⟩ := band h2
          exact si_sl (sndE a C x h1) (sndO lo C l h2) (sndO hi C u h3)
        | some s => exact Bool.noConfusion h
      | _ => exact Bool.noConfusion h
    | _ => exact Bool.noConfusion h
  | .rev a, cf, X, W, C, e, h => by
    cases e with
    | Subscript x y pos =>
      cases y with
      | Slice l u st p2 =>
        cases l with
        | some l => exact Bool.noConfusion h
        | none =>
        cases u with
        | some l => exact Bool.noConfusion h
        | none =>
        cases st with
        | none => exact Bool.noConfusion h
        | some z =>
        cases z with
        | UnaryOp op z p4 =>
          cases op with
          | USub =>
            cases z with
            | Constant v k1 p3 =>
              cases v with
              | int i =>
                obtain ⟨h1, h2⟩ := band h
                clear h
                cases of_decide_eq_true h1
                exact si_rev (sndE a C x h2)
              | _ => exact Bool.noConfusion h
            | _ => exact Bool.noConfusion h
          | _ => exact Bool.noConfusion h
        | _ => exact Bool.noConfusion h
      | _ => exact Bool.noConfusion h
    | _ => exact Bool.noConfusion h
  | .lc own t i elt, cf, X, W, C, e, h => by
    cases e with
    | ListComp el gens scope pos =>
      match gens, h with
      | [], h => exact Bool.noConfusion h
      | ⟨g1, gi, gf, ga⟩ :: g2 :: gr, h =>
        cases gf with
        | nil => exact Bool.noConfusion h
        | cons c cs => cases cs <;> exact Bool.noConfusion h
      | [⟨tg, iter, c :: cs, n⟩], h => exact Bool.noConfusion h
      | [⟨tg, iter, [], n⟩], h =>
        obtain ⟨h0, hh⟩ := band h
        clear h
        cases of_decide_eq_true h0
        obtain ⟨h1, h2⟩ := band hh
        obtain ⟨h2, h3⟩ := band h2
        obtain ⟨h3, h4⟩ := band h3
        obtain ⟨h4, h5⟩ := band h4
        obtain ⟨h5, h6⟩ := band h5
        exact si_lc C (sndI i C iter tg h5) h1 h2 h3 (slots_of h4) fun s H Ca cl fp => sndE elt (C.blk s H scope cl Ca fp) el h6
    | _ => exact Bool.noConfusion h
  | .lcIf own t i q elt, cf, X, W, C, e, h => by
    cases e with
    | ListComp el gens scope pos =>
      match gens, h with
      | [], h => exact Bool.noConfusion h
      | ⟨g1, gi, gf, ga⟩ :: g2 :: gr, h =>
        cases gf with
        | nil => exact Bool.noConfusion h
        | cons c cs => cases cs <;> exact Bool.noConfusion h
      | [⟨tg, iter, [], n⟩], h => exact Bool.noConfusion h
      | [⟨tg, iter, c :: d :: cs, n⟩], h => exact Bool.noConfusion h
      | [⟨tg, iter, [c], n⟩], h =>
        obtain ⟨h0, hh⟩ := band h
        clear h
        cases of_decide_eq_true h0
        obtain ⟨h1, h2⟩ := band hh
        obtain ⟨h2, h3⟩ := band h2
        obtain ⟨h3, h4⟩ := band h3
        obtain ⟨h4, h5⟩ := band h4
        obtain ⟨h5, h6⟩ := band h5
        obtain ⟨h6, h7⟩ := band h6
        exact si_lcIf C (sndI i C iter tg h5) h1 h2 h3 (slots_of h4) (fun s H Ca cl fp => (sndQ q (C.blk s H scope cl Ca fp) c h6).1) fun s H Ca cl fp => sndE elt (C.blk s H scope cl Ca fp) el h7
    | _ => exact Bool.noConfusion h
  | .tryL c, cf, X, W, C, e, h => by
    cases e with
    | Call fn es ks pos =>
      cases fn with
      | Name g p =>
        match es, ks, h with
        | [x], [], h =>
          obtain ⟨h1, h0⟩ := band h
          obtain ⟨h2, h3⟩ := band h0
          clear h h0
          have h1 := of_decide_eq_true h1
          subst h1
          cases hl : cf.low with
          | none =>
            refine ⟨fun pins s σ H Q I q => ?_⟩
            obtain ⟨env, as, S, lr, so, po⟩ := q
            have po : PostG X.K W (RE X.K) as H σ (match cf.low with
              | some c' => (match evE c' c env S with
                | .ok d S => .ok (.tup [.str "value", d]) S
                | .ex x S => (match tryRes x with
                  | some ds => .ok (.tup ds) S
                  | none => .bad)
                | .bad => .bad)
              | none => .bad) Q := po
            rw [hl] at po
            exact po.elim
          | some c' =>
            cases x with
            | Lambda ps body scope lpos =>
              obtain ⟨k1, k0⟩ := band h3
              obtain ⟨k2, k3⟩ := band k0
              have L := C.lam c' hl
              obtain ⟨ga, fd, hm, TD⟩ := L.try_
              obtain ⟨cc, P, hcode, TB, hmT⟩ := L.tab
              cases noArgs_of k2
              refine impE (DX.pe_try (k := lev c'.lv) (tb := fun E => tE X.K (fun cls d _ H => E cls d H) (evE c' c)) TD h2 hm TB hcode hmT (fun p hp e => L.uniq p hp _ hmT e) L.room (LamX.lamS_by k1) rfl (fun _ _ _ _ _ => rfl)
                (fun A outer s H E f c2 hr2 => sndE c (L.cok C hr2) body k3) (fun E E' σ H Q Q' hE hQ t => tE_mono (fun cls d _ H z => hE cls d H z) hQ t)) fun σ H Q q => ?_
              obtain ⟨env, as, S, lr, so, po⟩ := q
              have po : PostG X.K W (RE X.K) as H σ (match cf.low with
                | some c' => (match evE c' c env S with
                  | .ok d S => .ok (.tup [.str "value", d]) S
                  | .ex x S => (match tryRes x with
                    | some ds => .ok (.tup ds) S
                    | none => .bad)
                  | .bad => .bad)
                | none => .bad) Q := po
              rw [hl] at po
              refine ⟨so.tabs, fun H1 eN T1 => ?_⟩
              have w1 : Wx X.K as H as H1 := wx_ext eN
              refine ⟨env, as, S, lr.mono w1, so_ext so eN T1, ?_⟩
              have po := PostG.mono w1 po
              cases e0 : evE c' c env S with
              | ok d S1 =>
                have po : PostG X.K W (RE X.K) as H1 σ (match evE c' c env S with
                  | .ok d S => Out.ok (D.tup [.str "value", d]) S
                  | .ex x S => (match tryRes x with
                    | some ds => .ok (.tup ds) S
                    | none => .bad)
                  | .bad => .bad) Q := po
                rw [e0] at po
                exact fun v as' H' w s r => post_tup s (.cons (.str _) (.cons r .nil)) (PostG.mono w po)
              | ex y S1 =>
                have po : PostG X.K W (RE X.K) as H1 σ (match evE c' c env S with
                  | .ok d S => Out.ok (D.tup [.str "value", d]) S
                  | .ex x S => (match tryRes x with
                    | some ds => .ok (.tup ds) S
                    | none => .bad)
                  | .bad => .bad) Q := po
                rw [e0] at po
                exact fun cls dx as' H' w s r => tryEx_of L.knw s r (PostG.mono w po)
              | bad =>
                have po : PostG X.K W (RE X.K) as H1 σ (match evE c' c env S with
                  | .ok d S => Out.ok (D.tup [.str "value", d]) S
                  | .ex x S => (match tryRes x with
                    | some ds => .ok (.tup ds) S
                    | none => .bad)
                  | .bad => .bad) Q := po
                rw [e0] at po
                exact po.elim
            | _ => exact Bool.noConfusion h3
        | [], ks, h => cases ks <;> exact Bool.noConfusion h
        | [x], kk :: r, h => exact Bool.noConfusion h
        | x :: y :: r, ks, h => cases ks <;> exact Bool.noConfusion h
      | _ => exact Bool.noConfusion h
    | _ => exact Bool.noConfusion h
theorem sndQ : ∀ (c : Q) {cf : Cfg} {X : Cx} {W : WX} (C : Cok T cf X W) (e : Expr), chkQ T X.N c X.env.scope e = true → PT X e (tQ X.K W (evQ cf c)) ∧ (isBoolX e = true → PW X e (tQ X.K W (evQ cf c)))
  | .val c, cf, X, W, C, e, h => by
    obtain ⟨h1, h2⟩ := band h
    have he := sndE c C e h2
    refine ⟨?_, fun hb => ?_⟩
    rotate_left
    · exfalso
      cases e with
      | BoolOp op es pos =>
        have h1 : isCmpE c = true := h1
        cases c with
        | cmp o a b => exact Bool.noConfusion h2
        | _ => cases h1
      | _ => cases hb
    by_cases hp : plainT e = true
    · exact si_val hp he
    · have hc : isCmpE c = true := by
        rcases Bool.or_eq_true_iff.mp h1 with h | h
        · exact absurd h hp
        · exact h
      cases c with
      | cmp o a b =>
        cases e with
        | Compare x ops ys pos =>
          match ops, ys, h2 with
          | [op], [y], h2 =>
            obtain ⟨g1, g2⟩ := band h2
            obtain ⟨g2, g3⟩ := band g2
            obtain ⟨g3, g4⟩ := band g3
            cases of_decide_eq_true g1
            have ha := sndE a C x g3
            have hb := sndE b C y g4
            have hm : ∀ op, behindInMarks op y = false := fun op => marks_of g2
            cases o with
            | eq => exact si_valC (op_eqD C.room.units) do_eq (hm _) (cmp_bl .eq) ha hb
            | ne => exact si_valC (op_neD C.room.units) do_ne (hm _) (cmp_bl .ne) ha hb
            | lt => exact si_valC op_lt do_lt (hm _) (cmp_bl .lt) ha hb
            | le => exact si_valC op_le do_le (hm _) (cmp_bl .le) ha hb
            | gt => exact si_valC op_gt do_gt (hm _) (cmp_bl .gt) ha hb
            | ge => exact si_valC op_ge do_ge (hm _) (cmp_bl .ge) ha hb
            | is_ => exact si_valC op_isN do_is (hm _) (cmp_bl .is_) ha hb
            | isNot => exact si_valC op_notN do_isNot (hm _) (cmp_bl .isNot) ha hb
            | isIn => exact si_valC (r := fun _ _ _ _ => False) (fun pins s σ H x y v u Q I rx ry z => z.elim) (fun as H σ S x y v u Q so rx ry po => (show PostG X.K W (RE X.K) as H σ (.bad : Out D) Q by cases x <;> cases y <;> exact po).elim) (hm _) (cmp_bl .isIn) ha hb
            | notIn => exact si_valC (r := fun _ _ _ _ => False) (fun pins s σ H x y v u Q I rx ry z => z.elim) (fun as H σ S x y v u Q so rx ry po => (show PostG X.K W (RE X.K) as H σ (.bad : Out D) Q by cases x <;> cases y <;> exact po).elim) (hm _) (cmp_bl .notIn) ha hb
          | [], ys, h => cases ys <;> exact Bool.noConfusion h
          | [op], [], h => exact Bool.noConfusion h
          | [op], y :: z :: r, h => exact Bool.noConfusion h
          | op :: op2 :: r, ys, h => cases ys <;> exact Bool.noConfusion h
        | _ => exact Bool.noConfusion h2
      | _ => cases hc
  | .and_ a b, cf, X, W, C, e, h => by
    cases e with
    | BoolOp op es pos =>
      cases op with
      | And =>
        match es, h with
        | x :: y :: [], h =>
          obtain ⟨h1, h2⟩ := band h
          have w := si_qand (pos := pos) (sndQ a C x h1).1 (pw_and1 (sndQ b C y h2).1)
          exact ⟨PW.pt w, fun _ => w⟩
        | x :: y :: z :: r, h =>
          obtain ⟨h1, h2⟩ := band h
          have w := si_qand (pos := pos) (sndQ a C x h1).1 ((sndQ b C _ h2).2 rfl)
          exact ⟨PW.pt w, fun _ => w⟩
        | [x], h => exact Bool.noConfusion h
        | [], h => exact Bool.noConfusion h
      | Or => exact Bool.noConfusion h
    | _ => exact Bool.noConfusion h
  | .or_ a b, cf, X, W, C, e, h => by
    cases e with
    | BoolOp op es pos =>
      cases op with
      | Or =>
        match es, h with
        | x :: y :: [], h =>
          obtain ⟨h1, h2⟩ := band h
          have w := si_qor (pos := pos) (sndQ a C x h1).1 (pw_or1 (sndQ b C y h2).1)
          exact ⟨PW.pt w, fun _ => w⟩
        | x :: y :: z :: r, h =>
          obtain ⟨h1, h2⟩ := band h
          have w := si_qor (pos := pos) (sndQ a C x h1).1 ((sndQ b C _ h2).2 rfl)
          exact ⟨PW.pt w, fun _ => w⟩
        | [x], h => exact Bool.noConfusion h
        | [], h => exact Bool.noConfusion h
      | And => exact Bool.noConfusion h
    | _ => exact Bool.noConfusion h
  | .not_ a, cf, X, W, C, e, h => by
    cases e with
    | UnaryOp op x pos =>
      cases op with
      | Not => exact ⟨si_qnot (sndQ a C x h).1, fun hb => Bool.noConfusion hb⟩
      | _ => exact Bool.noConfusion h
    | _ => exact Bool.noConfusion h
theorem sndA : ∀ (c : A) {cf : Cfg} {X : Cx} {W : WX} (C : Cok T cf X W) (es : List Expr), chkA T X.N c X.env.scope es = true → PA X es (tA X.K W (evA cf c))
  | .nil, cf, X, W, C, es, h => by
    cases es with
    | nil => exact si_nil
    | cons e es => exact Bool.noConfusion h
  | .cons c a, cf, X, W, C, es, h => by
    cases es with
    | nil => exact Bool.noConfusion h
    | cons e es =>
      obtain ⟨h1, h2⟩ := band h
      obtain ⟨h2, h3⟩ := band h2
      exact si_cons h1 (sndE c C e h2) (sndA a C es h3)
theorem sndO : ∀ (c : DI.Op) {cf : Cfg} {X : Cx} {W : WX} (C : Cok T cf X W) (e : Option Expr), chkO T X.N c X.env.scope e = true → PO X e (tOp' X.K W (evO cf c))
  | .no, cf, X, W, C, e, h => by
    cases e with
    | none => exact si_no
    | some e => exact Bool.noConfusion h
  | .ex c, cf, X, W, C, e, h => by
    cases e with
    | none => exact Bool.noConfusion h
    | some e => exact si_ex (sndE c C e h)
theorem sndI : ∀ (c : DI.It) {cf : Cfg} {X : Cx} {W : WX} (C : Cok T cf X W) (e tg : Expr), chkI T X.N c X.env.scope e (isTupE tg) = true → PI X tg e (tI X.K W (evI cf c))
  | .of c, cf, X, W, C, e, tg, h => si_iof (sndE c C e h)
  | .rng1 a, cf, X, W, C, e, tg, h => by
    cases e with
    | Call fn es ks pos =>
      cases fn with
      | Name g p =>
        match es, ks, h with
        | [x], [], h =>
          obtain ⟨h1, h2⟩ := band h
          obtain ⟨h2, h3⟩ := band h2
          obtain ⟨h3, h4⟩ := band h3
          cases of_decide_eq_true h1
          exact si_rng1 C h2 h3 (sndE a C x h4)
        | [], ks, h => exact Bool.noConfusion h
        | [x], kk :: r, h => exact Bool.noConfusion h
        | x :: y :: r, ks, h => exact Bool.noConfusion h
      | _ => exact Bool.noConfusion h
    | _ => exact Bool.noConfusion h
  | .rng2 a b, cf, X, W, C, e, tg, h => by
    cases e with
    | Call fn es ks pos =>
      cases fn with
      | Name g p =>
        match es, ks, h with
        | [x, y], [], h =>
          obtain ⟨h1, h2⟩ := band h
          obtain ⟨h2, h3⟩ := band h2
          obtain ⟨h3, h4⟩ := band h3
          obtain ⟨h4, h5⟩ := band h4
          obtain ⟨h5, h6⟩ := band h5
          cases of_decide_eq_true h1
          exact si_rng2 C h2 h3 h4 (sndE a C x h5) (sndE b C y h6)
        | [], ks, h => exact Bool.noConfusion h
        | [x], ks, h => exact Bool.noConfusion h
        | [x, y], kk :: r, h => exact Bool.noConfusion h
        | x :: y :: z :: r, ks, h => exact Bool.noConfusion h
      | _ => exact Bool.noConfusion h
    | _ => exact Bool.noConfusion h
  | .rng3 a b d, cf, X, W, C, e, tg, h => by
    cases e with
    | Call fn es ks pos =>
      cases fn with
      | Name g p =>
        match es, ks, h with
        | [x, y, z], [], h =>
          obtain ⟨h1, h2⟩ := band h
          obtain ⟨h2, h3⟩ := band h2
          obtain ⟨h3, h4⟩ := band h3
          obtain ⟨h4, h5⟩ := band h4
          obtain ⟨h5, h6⟩ := band h5
          obtain ⟨h6, h7⟩ := band h6
          obtain ⟨h7, h8⟩ := band h7
          cases of_decide_eq_true h1
          exact si_rng3 C h2 h3 h4 h5 (sndE a C x h6) (sndE b C y h7) (sndE d C z h8)
        | [], ks, h => exact Bool.noConfusion h
        | [x], ks, h => exact Bool.noConfusion h
        | [x, y], ks, h => exact Bool.noConfusion h
        | [x, y, z], kk :: r, h => exact Bool.noConfusion h
        | x :: y :: z :: u :: r, ks, h => exact Bool.noConfusion h
      | _ => exact Bool.noConfusion h
    | _ => exact Bool.noConfusion h
  | .enum a, cf, X, W, C, e, tg, h => by
    cases e with
    | Call fn es ks pos =>
      cases fn with
      | Name g p =>
        match es, ks, h with
        | [x], [], h =>
          obtain ⟨h1, g1⟩ := band h
          obtain ⟨h2, g2⟩ := band g1
          obtain ⟨h3, g3⟩ := band g2
          obtain ⟨h4, h5⟩ := band g3
          clear h g1 g2 g3
          cases of_decide_eq_true h1
          obtain ⟨es, kk, tp, rfl⟩ := isTup_of h2
          exact si_enum C h3 h4 (sndE a C x h5)
        | [], ks, h => exact Bool.noConfusion h
        | [x], kk :: r, h => exact Bool.noConfusion h
        | x :: y :: r, ks, h => exact Bool.noConfusion h
      | _ => exact Bool.noConfusion h
    | _ => exact Bool.noConfusion h
end
end
end DI

/-! DI12: statements. -/
namespace DI
open PySem PySem.Spec PyProof.Rows L2

/-! ### the check -/
def stN (sc : Scope) (x : Str) : Bool := isK sc x .local || isK sc x .cell
def noTup : Expr → Bool
  | .Tuple .. => false
  | _ => true
def allFold : Expr → Bool
  | .Tuple vs _ _ => vs.all (foldedForSure 8)
  | _ => false
def cellIn (sc : Scope) (ts : List Expr) : Bool := ts.any fun | .Name x _ => !isK sc x .local | _ => false
def lcTo (sc : Scope) (x : Str) (p : Pos) : Expr → Bool
  | .ListComp _ _ scope pos => isK sc x .local && ((p.line == pos.line) && !(scope.names.any fun (n, k) => n == x && (k == .local || k == .cell)))
  | _ => false
def parOk (N : List Str) (sc : Scope) (is : List Nat) (ts vs : List Expr) (a : A) : Bool := match is, ts, vs, a with
  | [i, j], [.Name x px, .Name y py], [u, w], .cons _ (.cons _ .nil) => decide (N[i]? = some x) && (decide (N[j]? = some y) && (isK sc x .local && (isK sc y .local && (decide (x ≠ y) && ((py.line == px.line) && (noStar u && (noStar w && (![u, w].all (foldedForSure 8) && ![u, w].all (constantsAlone 8)))))))))
  | [i, j, l], [.Name x px, .Name y py, .Name z pz], [u, w, t], .cons _ (.cons _ (.cons _ .nil)) => decide (N[i]? = some x) && (decide (N[j]? = some y) && (decide (N[l]? = some z) && (isK sc x .local && (isK sc y .local && (isK sc z .local && (decide (x ≠ y) && (decide (x ≠ z) && (decide (y ≠ z) && ((py.line == px.line) && ((pz.line == px.line) && (noStar u && (noStar w && (noStar t && (![u, w, t].all (foldedForSure 8) && ![u, w, t].all (constantsAlone 8)))))))))))))))
  | _, _, _, _ => false
/-- what a suite returns -/
def chkHE : HE → Expr → Bool
  | .non, .Constant .none _ _ => true
  | .bl b, .Constant (.bool k) _ _ => decide (b = k)
  | .str s, .Constant (.str z) _ _ => decide (s = z)
  | .tup ss, .Tuple es _ _ => DX.chkSs ss es && decide (ss.length ≤ 20)
  | _, _ => false
def chkH (T : Tab) (sc : Scope) (h : Str) (e : HE) : ExceptHandler → Bool
  | .ExceptHandler (some x) none st _ => decide (DX.nameE x = some h) && (glB sc h && ((decide (h = excBase) && !T.excs.isEmpty || T.excs.contains h) && DX.retIs (chkHE e) st))
  | _ => false
def chkHs (T : Tab) (sc : Scope) : List (Str × HE) → List ExceptHandler → Bool
  | [], [] => true
  | p :: r, h :: hds => chkH T sc p.1 p.2 h && chkHs T sc r hds
  | _, _ => false
section
variable (T : Tab) (N : List Str)
mutual
def chkS : St → Scope → Stmt → Bool
  | .asg (.nm i) e, sc, .Assign [.Name x p] v _ => decide (N[i]? = some x) && (stN sc x && (chkE T N e sc v && (noComp v || lcTo sc x p v)))
  | .asg (.tp is) e, sc, .Assign [.Tuple ts k pt] v _ => noComp v && (chkE T N e sc v && ((chkT N (stN sc) (.tp is) (.Tuple ts k pt) && (noTup v || (allFold v || cellIn sc ts))) || (match v, e with
    | .Tuple vs _ _, .tup a => parOk N sc is ts vs a
    | _, _ => false)))
  | .setIx o i e, sc, .Assign [.Subscript x y _] v _ => noComp v && (plainIx y && (chkE T N e sc v && (chkE T N o sc x && chkE T N i sc y)))
  | .pas, _, .Expr (.Constant (.str _) _ _) _ => true
  | .pas, _, .Pass _ => true
  | .aug i o e, sc, .AugAssign (.Name x _) op v _ => decide (opOf o = op) && ((o == .add || o == .sub) && (decide (N[i]? = some x) && (stN sc x && chkE T N e sc v)))
  | .expr e, sc, .Expr v _ => noComp v && chkE T N e sc v
  | .ret e, sc, .Return (some v) _ => chkE T N e sc v
  | .retN, _, .Return none _ => true
  | .ite q a b, sc, .If c x y _ => chkQ T N q sc c && (chkB a sc x && chkB b sc y)
  | .whl q b, sc, .While c x [] _ => chkQ T N q sc c && chkB b sc x
  | .for_ t i b, sc, .For tg iter x [] _ => noSet iter && (chkT N (stN sc) t tg && (chkI T N i sc iter (isTupE tg) && chkB b sc x))
  | .brk, _, .Break _ => true
  | .cnt, _, .Continue _ => true
  | .never, _, _ => true
  | .raise_ cl a, sc, .Raise (some x) none _ => (match x with
    | .Call (.Name g _) es [] _ => decide (g = cl) && (glB sc cl && (T.excs.contains cl && chkA T N a sc es))
    | _ => false)
  | .try_ b hs, sc, .Try body hds o f _ => o.isEmpty && (f.isEmpty && (!hds.isEmpty && (chkHs T sc hs hds && chkB b sc body)))
  | _, _, _ => false
def chkB : B → Scope → List Stmt → Bool
  | .nil, _, [] => true
  | .cons s b, sc, x :: xs => chkS s sc x && chkB b sc xs
  | _, _, _ => false
end
end

/-! ### stores -/
section
variable {X : Cx} {W : WX} {T : Tab} {Wf k : Nat} {pos : Pos} {e v : Expr}
theorem sole_of {tg : Expr} {l : Nat} {env : PySem.Env} (h : noComp v = true) : swapsWithSole [tg] v l env = pure false := swaps_of h
theorem stores_noTup {tg : List Expr} {env : PySem.Env} (h : noTup v = true) : swappedStores tg v env = pure none := by
  cases v with
  | Tuple vs k p => cases h
  | _ =>
    cases tg with
    | nil => rfl
    | cons t ts =>
      cases ts with
      | nil => cases t <;> rfl
      | cons u us => cases t <;> rfl
theorem stores_fold {ts vs : List Expr} {k1 k2 : Nat} {p1 p2 : Pos} {env : PySem.Env} (h : vs.all (foldedForSure 8) = true) : swappedStores [.Tuple ts k1 p1] (.Tuple vs k2 p2) env = pure none := by
  unfold swappedStores
  simp only [h]
  split
  · rfl
  · split
    · rfl
    · split
      · rfl
      · rfl
theorem fm_len {α β : Type} {f : α → Option β} : ∀ {l : List α}, (∃ a ∈ l, f a = none) → (l.filterMap f).length < l.length
  | [], h => by obtain ⟨_, h, _⟩ := h; cases h
  | a :: l, h => by
    have hle : (l.filterMap f).length ≤ l.length := List.length_filterMap_le _ _
    cases e : f a with
    | none => rw [List.filterMap_cons, e]; exact Nat.lt_succ_of_le hle
    | some b =>
      obtain ⟨c, hc, e2⟩ := h
      have : c ∈ l := by
        rcases List.mem_cons.mp hc with z | z
        · rw [z, e] at e2; cases e2
        · exact z
      rw [List.filterMap_cons, e]
      exact Nat.succ_lt_succ (fm_len ⟨c, this, e2⟩)
theorem stores_cell {ts vs : List Expr} {k1 k2 : Nat} {p1 p2 : Pos} {env : PySem.Env} (h : cellIn env.scope ts = true) : swappedStores [.Tuple ts k1 p1] (.Tuple vs k2 p2) env = pure none := by
  obtain ⟨t, ht, hc⟩ := List.any_eq_true.mp h
  unfold swappedStores
  simp only []
  split
  · rfl
  · split
    · rfl
    · split
      · rfl
      · rename_i hne
        exfalso
        simp only [Bool.or_eq_true, bne_iff_ne, ne_eq, not_or, Decidable.not_not] at hne
        refine absurd hne.1 (Nat.ne_of_lt (fm_len ⟨t, ht, ?_⟩))
        cases t with
        | Name x p =>
          have hc : (!isK env.scope x .local) = true := hc
          have e : (env.kindOf x == some NameKind.local) = false := by
            cases q : (env.kindOf x == some NameKind.local) with
            | false => rfl
            | true =>
              have : env.scope.names.lookup x = some .local := eq_of_beq q
              unfold isK at hc
              rw [this] at hc
              simp at hc
          simp [e]
        | _ => cases hc
theorem star_no : ∀ (e : Expr), noStar e = true → (match e with | .Starred .. => true | _ => false) = false := by
  intro e h
  cases e <;> first | rfl | cases h
theorem stores_par {x y : Str} {px py pt p2 : Pos} {kt k2 : Nat} {a b : Expr} {env : PySem.Env} (hb : env.blockKind = .function) (hx : env.kindOf x = some .local) (hy : env.kindOf y = some .local) (hne : x ≠ y) (hl : (py.line == px.line) = true) (ha : noStar a = true) (hb2 : noStar b = true)
    (h1 : [a, b].all (foldedForSure 8) = false) (h2 : [a, b].all (constantsAlone 8) = false) : swappedStores [.Tuple [.Name x px, .Name y py] kt pt] (.Tuple [a, b] k2 p2) env = pure (some [x, y]) := by
  unfold swappedStores
  have e1 := star_no a ha
  have e2 := star_no b hb2
  have hl2 : py.line = px.line := by simpa using hl
  have h3 : (y == x) = false := by simpa using Ne.symm hne
  simp [hb, hx, hy, hl2, e1, e2, h1, h2, Expr.pos, hne, List.eraseDups_cons, h3]
  rintro (hh | hh)
  · exact Bool.noConfusion (e1.symm.trans hh)
  · exact Bool.noConfusion (e2.symm.trans hh)
theorem stores_par3 {x y z : Str} {px py pz pt p2 : Pos} {kt k2 : Nat} {a b c : Expr} {env : PySem.Env} (hb : env.blockKind = .function) (hx : env.kindOf x = some .local) (hy : env.kindOf y = some .local) (hz : env.kindOf z = some .local) (hne : x ≠ y) (hn2 : x ≠ z) (hn3 : y ≠ z) (hl : (py.line == px.line) = true) (hl3 : (pz.line == px.line) = true) (ha : noStar a = true) (hb2 : noStar b = true) (hc2 : noStar c = true)
    (h1 : [a, b, c].all (foldedForSure 8) = false) (h2 : [a, b, c].all (constantsAlone 8) = false) : swappedStores [.Tuple [.Name x px, .Name y py, .Name z pz] kt pt] (.Tuple [a, b, c] k2 p2) env = pure (some [x, y, z]) := by
  unfold swappedStores
  have e1 := star_no a ha
  have e2 := star_no b hb2
  have e3 := star_no c hc2
  have hl2 : py.line = px.line := by simpa using hl
  have hl4 : pz.line = px.line := by simpa using hl3
  have g1 : (y == x) = false := by simpa using Ne.symm hne
  have g2 : (z == x) = false := by simpa using Ne.symm hn2
  have g3 : (z == y) = false := by simpa using Ne.symm hn3
  simp [hb, hx, hy, hz, hl2, hl4, e1, e2, e3, h1, h2, Expr.pos, List.eraseDups_cons, g1, g2, g3]
  rintro (hh | hh | hh)
  · exact Bool.noConfusion (e1.symm.trans hh)
  · exact Bool.noConfusion (e2.symm.trans hh)
  · exact Bool.noConfusion (e3.symm.trans hh)
end

/-! ### the theorem -/
theorem go_bind {α β : Type} (o : Out α) (f : α → Sto → Out β) (env : Env) (g : β → Sto → SOut) : (o.bind f).go env g = o.go env fun a S => (f a S).go env g := by cases o <;> rfl
theorem ite_go {α : Type} {c : Prop} [Decidable c] (o : Out α) (env : Env) (g : α → Sto → SOut) : (if c then o else .bad).go env g = if c then o.go env g else .bad := by split <;> rfl
section
variable {K : PySem.W.Frag} {W : WX} {as : List Addr} {H : Hp} {D0 : Ends}
theorem of_iteS {c : Prop} [Decidable c] {o : SOut} (h : PostS K W D0 as H (if c then o else .bad)) : c ∧ PostS K W D0 as H o := by
  by_cases hc : c
  · rw [if_pos hc] at h; exact ⟨hc, h⟩
  · rw [if_neg hc] at h; exact h.elim
theorem PostS.hereN {σ : L2.St} {env : Env} {S : Sto} (h : PostS K W D0 as H (.nx env S)) (so : StOk K as H S) (lr : LR K as H σ env) : D0.nx σ H := h σ as H (Wx.refl _ _ _) so lr
end
/-- a target takes a value, then the statement goes on -/
theorem set_go {K : PySem.W.Frag} {W : WX} {as : List Addr} {H : Hp} {D0 : Ends} {σ : L2.St} {t : DI.T} {d : D} {v : V} {env : Env} {S : Sto} (h : PostS K W D0 as H (setO t d env fun env => .nx env S)) (lr : LR K as H σ env) (so : StOk K as H S) (r : Rep K as H v d) : tT K t v σ H D0.nx := by
  unfold setO at h
  cases e : setT t d env with
  | none => rw [e] at h; exact h.elim
  | some env' =>
    rw [e] at h
    exact setT_of e lr r fun σ' lr' => PostS.hereN h so lr'
section
variable {X : Cx} {W : WX} {own : List (Str × Nat)} {t : DI.T} {mi : Env → Sto → Out Src} {mq : Env → Sto → Out Bool} {me : Env → Sto → Out D}
theorem lcIf_imp {σ : L2.St} {H : Hp} {Q : VK} (hs : ∀ i ∈ t.slots, i ∈ own.map (·.2)) (h : tE X.K W (fun env S => (mi env S).bind fun s S => if s.len < LEN then (mapO s (fun d S => match setT t d (wipeE env (own.map (·.2))) with
      | some env' => (mq env' S).noex.bind fun k S => if k = true then (me env' S).noex.bind fun v S => .ok [v] S else .ok [] S
      | none => .bad) s.len 0 S).bind fun ds S => .ok (.ref S.length) (S ++ [.lst ds]) else .bad) σ H Q) : tLc (tI X.K W mi) (tT X.K t) (tQ X.K W0 mq) (tE X.K W0 me) (own.map (·.2)) σ H Q := by
  obtain ⟨env, as, S, lr, so, po⟩ := h
  refine ⟨env, as, S, lr, so, PostI.bind po fun s S1 J as1 H1 w1 so1 wk po1 => ?_⟩
  by_cases hl : s.len < LEN
  · rw [if_pos hl] at po1
    exact fun p hp => lc_turns wk (lr.mono w1) so1 hl hs hp po1
  · rw [if_neg hl] at po1; exact po1.elim
theorem lc_imp {σ : L2.St} {H : Hp} {Q : VK} (hs : ∀ i ∈ t.slots, i ∈ own.map (·.2)) (h : tE X.K W (fun env S => (mi env S).bind fun s S => if s.len < LEN then (mapO s (fun d S => match setT t d (wipeE env (own.map (·.2))) with
      | some env' => (me env' S).noex.bind fun v S => .ok [v] S
      | none => .bad) s.len 0 S).bind fun ds S => .ok (.ref S.length) (S ++ [.lst ds]) else .bad) σ H Q) : tLc (tI X.K W mi) (tT X.K t) tYes (tE X.K W0 me) (own.map (·.2)) σ H Q := by
  obtain ⟨env, as, S, lr, so, po⟩ := h
  refine ⟨env, as, S, lr, so, PostI.bind po fun s S1 J as1 H1 w1 so1 wk po1 => ?_⟩
  by_cases hl : s.len < LEN
  · rw [if_pos hl] at po1
    intro p hp
    obtain ⟨Wm, h0, h1⟩ := lc_turns (q := fun _ S => .ok true S) wk (lr.mono w1) so1 hl hs hp po1
    refine ⟨Wm, h0, fun i mm H2 hw => ?_⟩
    rcases h1 i mm H2 hw with h | ⟨h, Nx, hn, hy⟩
    · exact .inl h
    · refine .inr ⟨h, Nx, hn, fun x H' y => ?_⟩
      have key := hy x H' y
      refine tT_weak (fun σ2 H2 hk => ⟨hk.1, ?_⟩) key
      obtain ⟨env2, as2, S2, lr2, so2, po2⟩ := hk.2
      exact po2 true as2 H2 (Wx.refl _ _ _) so2 rfl
  · rw [if_neg hl] at po1; exact po1.elim
end
section
/-- what a def's body is given -/
structure Bok (T : Tab) (cf : Cfg) (X : Cx) (W : WX) : Prop extends Cok T cf X W where
  tk : L2N.Takes X W
  stk : X.stack = X.env :: X.outer
  frm : X.env.frame = some X.env.locals
  own : PassesOwn (model X.prog X.w) X.A X.env X.xe
  kind : X.env.scope.kind = .function
  st : ∀ x, stN X.env.scope x = true → Loc X.env.scope x ∧ (X.fn x = true ∨ X.env.scope.names.lookup x = some .local)
variable (T : Tab) (Wf : Nat) {cf : Cfg}
theorem Bok.bk {X : Cx} {W : WX} (C : Bok T cf X W) : X.env.blockKind = .function := by unfold Env.blockKind; rw [C.kind]; rfl
theorem lcTo_of {X : Cx} {x : Str} {p : Pos} {el : Expr} {gs : List Comprehension} {scope : Scope} {pos : Pos} {l : Nat} (hk : X.env.scope.kind = .function) (h : lcTo X.env.scope x p (.ListComp el gs scope pos) = true) : X.env.scope.names.lookup x = some .local ∧ swapsWith (.ListComp el gs scope pos) (some (.Name x p)) l X.env = pure true := by
  obtain ⟨h1, h2⟩ := band h
  obtain ⟨h2, h3⟩ := band h2
  have e := of_decide_eq_true h1
  refine ⟨e, sw_true hk e h2 ?_⟩
  simpa using h3
/-- a, b = x, y -/
theorem par_go {K : PySem.W.Frag} {W : WX} {as : List Addr} {H : Hp} {D0 : Ends} {σ : L2.St} {i j : Nat} {ds : List D} {vs : List V} {env : Env} {S : Sto} (h : PostS K W D0 as H ((if ds.length ≤ LEN then (Out.ok (D.tup ds) S : Out D) else .bad).go env fun d S => setO (.tp [i, j]) d env fun env => .nx env S)) (lr : LR K as H σ env) (so : StOk K as H S) (r : Reps K as H vs ds) :
    ∃ v w, vs = [v, w] ∧ D0.nx ((σ.set i (some v)).set j (some w)) H := by
  rw [ite_go] at h
  obtain ⟨_, h⟩ := of_iteS h
  have h : PostS K W D0 as H (setO (.tp [i, j]) (.tup ds) env fun env => .nx env S) := h
  unfold setO at h
  cases e : setT (.tp [i, j]) (.tup ds) env with
  | none => rw [e] at h; exact h.elim
  | some env' =>
    rw [e] at h
    simp only [setT] at e
    split at e
    · rename_i hc
      cases e
      obtain ⟨hl, _⟩ := hc
      match ds, vs, r, hl, h with
      | [a, b], _, .cons (v := v) ra (.cons (v := w) rb .nil), _, h => exact ⟨v, w, rfl, PostS.hereN h so ((lr.set i ra).set j rb)⟩
    · cases e
theorem par_go3 {K : PySem.W.Frag} {W : WX} {as : List Addr} {H : Hp} {D0 : Ends} {σ : L2.St} {i j l : Nat} {ds : List D} {vs : List V} {env : Env} {S : Sto} (h : PostS K W D0 as H ((if ds.length ≤ LEN then (Out.ok (D.tup ds) S : Out D) else .bad).go env fun d S => setO (.tp [i, j, l]) d env fun env => .nx env S)) (lr : LR K as H σ env) (so : StOk K as H S) (r : Reps K as H vs ds) :
    ∃ u v w, vs = [u, v, w] ∧ D0.nx (((σ.set i (some u)).set j (some v)).set l (some w)) H := by
  rw [ite_go] at h
  obtain ⟨_, h⟩ := of_iteS h
  have h : PostS K W D0 as H (setO (.tp [i, j, l]) (.tup ds) env fun env => .nx env S) := h
  unfold setO at h
  cases e : setT (.tp [i, j, l]) (.tup ds) env with
  | none => rw [e] at h; exact h.elim
  | some env' =>
    rw [e] at h
    simp only [setT] at e
    split at e
    · rename_i hc
      cases e
      obtain ⟨hl, _⟩ := hc
      match ds, vs, r, hl, h with
      | [a, b, c], _, .cons (v := u) ra (.cons (v := v) rb (.cons (v := w) rc .nil)), _, h => exact ⟨u, v, w, rfl, PostS.hereN h so (((lr.set i ra).set j rb).set l rc)⟩
    · cases e
theorem ne_ix {N : List Str} {i j : Nat} {x y : Str} (hi : N[i]? = some x) (hj : N[j]? = some y) (h : x ≠ y) : i ≠ j := fun e => by
  subst e
  rw [hi] at hj
  exact h (Option.some.inj hj)
theorem not_of {b : Bool} (h : (!b) = true) : b = false := by cases b <;> first | rfl | cases h
theorem sndAsgN (c : E) {i : Nat} {x : Str} {p : Pos} {v : Expr} {pos : Pos} {X : Cx} {W : WX} (C : Bok T cf X W) (h : chkS T X.N (.asg (.nm i) c) X.env.scope (.Assign [.Name x p] v pos) = true) : PS X (.Assign [.Name x p] v pos) (tS X.K W (exS cf Wf (.asg (.nm i) c))) := by
  obtain ⟨h1, g1⟩ := band h
  obtain ⟨h2, g2⟩ := band g1
  obtain ⟨h3, h4⟩ := band g2
  have hi := of_decide_eq_true h1
  obtain ⟨q1, q2⟩ := C.st x h2
  have fin : ∀ (D0 : Ends) (σ : L2.St) (H : Hp), tS X.K W (exS cf Wf (.asg (.nm i) c)) D0 σ H → tE X.K W (evE cf c) σ H (fun v H1 => gName i v σ H1 D0.nx) := by
    intro D0 σ H q
    obtain ⟨env, as, S, lr, so, po⟩ := q
    exact ⟨env, as, S, lr, so, PostS.go lr po fun d S1 v as1 H1 w1 so1 r po1 => set_go (t := .nm i) po1 (lr.mono w1) so1 r⟩
  cases hn : noComp v with
  | true => exact impS (ps_set C.nd hi q1 (sndE T c C.toCok v h3) (swaps_of hn) q2) fin
  | false =>
    rw [hn] at h4
    have h4 : lcTo X.env.scope x p v = true := h4
    cases v with
    | ListComp el gens scope lpos =>
      obtain ⟨e1, e2⟩ := lcTo_of (l := pos.line) C.kind h4
      cases c with
      | lc own t ic elt =>
        match gens, h3, e2 with
        | [], h, _ => exact Bool.noConfusion h
        | ⟨g1, gi, gf, ga⟩ :: g2 :: gr, h, _ =>
          cases gf with
          | nil => exact Bool.noConfusion h
          | cons c cs => cases cs <;> exact Bool.noConfusion h
        | [⟨tg, iter, c :: cs, n⟩], h, _ => exact Bool.noConfusion h
        | [⟨tg, iter, [], n⟩], hh, e2 =>
          obtain ⟨h0, hx⟩ := band hh
          clear hh h
          cases of_decide_eq_true h0
          obtain ⟨b1, hx⟩ := band hx
          obtain ⟨b2, hx⟩ := band hx
          obtain ⟨b3, hx⟩ := band hx
          obtain ⟨b4, hx⟩ := band hx
          obtain ⟨b5, b6⟩ := band hx
          refine impS (ps_setLc (own := own) (g := tT X.K t) (te := tE X.K W0 (evE cf elt)) C.calm C.nd hi e1 e2 (sndI T ic C.toCok iter tg b5) (blkOk_by b1) (fun s H Ca cl fp => tg_of (X := X.blk s H scope (compEnvC scope cl Ca X.env) fp) (fun x hx => blk_st s H Ca cl fp x hx) C.nd C.calm b3)
            (fun s H Ca cl fp => pts_nil (X := X.blk s H scope (compEnvC scope cl Ca X.env) fp)) (fun s H Ca cl fp => sndE T elt (C.toCok.blk s H scope cl Ca fp) el b6) (fun x => fold_of b2)) fun D0 σ H q => lc_imp (slots_of b4) (fin D0 σ H q)
      | lcIf own t ic q elt =>
        match gens, h3, e2 with
        | [], h, _ => exact Bool.noConfusion h
        | ⟨g1, gi, gf, ga⟩ :: g2 :: gr, h, _ =>
          cases gf with
          | nil => exact Bool.noConfusion h
          | cons c cs => cases cs <;> exact Bool.noConfusion h
        | [⟨tg, iter, [], n⟩], h, _ => exact Bool.noConfusion h
        | [⟨tg, iter, c :: d :: cs, n⟩], h, _ => exact Bool.noConfusion h
        | [⟨tg, iter, [c], n⟩], hh, e2 =>
          obtain ⟨h0, hx⟩ := band hh
          clear hh h
          cases of_decide_eq_true h0
          obtain ⟨b1, hx⟩ := band hx
          obtain ⟨b2, hx⟩ := band hx
          obtain ⟨b3, hx⟩ := band hx
          obtain ⟨b4, hx⟩ := band hx
          obtain ⟨b5, hx⟩ := band hx
          obtain ⟨b6, b7⟩ := band hx
          refine impS (ps_setLc (own := own) (g := tT X.K t) (te := tE X.K W0 (evE cf elt)) C.calm C.nd hi e1 e2 (sndI T ic C.toCok iter tg b5) (blkOk_by b1) (fun s H Ca cl fp => tg_of (X := X.blk s H scope (compEnvC scope cl Ca X.env) fp) (fun x hx => blk_st s H Ca cl fp x hx) C.nd C.calm b3)
            (fun s H Ca cl fp => pts_one (sndQ T q (C.toCok.blk s H scope cl Ca fp) c b6).1) (fun s H Ca cl fp => sndE T elt (C.toCok.blk s H scope cl Ca fp) el b7) (fun x => fold_of b2)) fun D0 σ H q => lcIf_imp (slots_of b4) (fin D0 σ H q)
      | _ => exact Bool.noConfusion h3
    | _ => exact Bool.noConfusion h4
theorem sndAsgT (c : E) {is : List Nat} {ts : List Expr} {kt : Nat} {pt : Pos} {v : Expr} {pos : Pos} {X : Cx} {W : WX} (C : Bok T cf X W) (h : chkS T X.N (.asg (.tp is) c) X.env.scope (.Assign [.Tuple ts kt pt] v pos) = true) : PS X (.Assign [.Tuple ts kt pt] v pos) (tS X.K W (exS cf Wf (.asg (.tp is) c))) := by
  obtain ⟨h1, g1⟩ := band h
  obtain ⟨h3, h4⟩ := band g1
  rcases Bool.or_eq_true_iff.mp h4 with h4 | h4
  · obtain ⟨h4, h5⟩ := band h4
    have hw : swappedStores [.Tuple ts kt pt] v X.env = pure none := by
      rcases Bool.or_eq_true_iff.mp h5 with h5 | h5
      · exact stores_noTup h5
      · cases v with
        | Tuple vs k2 p2 =>
          rcases Bool.or_eq_true_iff.mp h5 with h5 | h5
          · exact stores_fold h5
          · exact stores_cell h5
        | _ => exact stores_noTup rfl
    refine impS (ps_asg (sndE T c C.toCok v h3) (tg_of C.st C.nd C.calm h4) (sole_of h1) hw) fun D0 σ H q => ?_
    obtain ⟨env, as, S, lr, so, po⟩ := q
    exact ⟨env, as, S, lr, so, PostS.go lr po fun d S1 v as1 H1 w1 so1 r po1 => set_go po1 (lr.mono w1) so1 r⟩
  · cases v with
    | Tuple vs k2 p2 =>
      cases c with
      | tup a =>
        have h4 : parOk X.N X.env.scope is ts vs a = true := h4
        unfold parOk at h4
        split at h4
        · rename_i i j x px y py u w c1 c2 _ _
          obtain ⟨b1, h4⟩ := band h4
          obtain ⟨b2, h4⟩ := band h4
          obtain ⟨b3, h4⟩ := band h4
          obtain ⟨b4, h4⟩ := band h4
          obtain ⟨b5, h4⟩ := band h4
          obtain ⟨b6, h4⟩ := band h4
          obtain ⟨b7, h4⟩ := band h4
          obtain ⟨b8, h4⟩ := band h4
          obtain ⟨b9, b10⟩ := band h4
          have i1 := of_decide_eq_true b1
          have i2 := of_decide_eq_true b2
          have l1 := of_decide_eq_true b3
          have l2 := of_decide_eq_true b4
          have hne : x ≠ y := of_decide_eq_true b5
          refine impS (ps_par C.calm C.nd i1 i2 (ne_ix i1 i2 hne) l1 l2 (sndA T _ C.toCok _ h3) (stores_par C.bk l1 l2 hne b6 b7 b8 (not_of b9) (not_of b10)) (sole_of h1)) fun D0 σ H q => ?_
          obtain ⟨env, as, S, lr, so, po⟩ := q
          have po : PostS X.K W D0 as H (((evA cf (.cons c1 (.cons c2 .nil)) env S).bind fun ds S => if ds.length ≤ LEN then .ok (.tup ds) S else .bad).go env fun d S => setO (.tp [i, j]) d env fun env => .nx env S) := po
          rw [go_bind] at po
          exact ⟨env, as, S, lr, so, PostS.go lr po fun ds S1 vs as1 H1 w1 so1 r po1 => par_go po1 (lr.mono w1) so1 r⟩
        · rename_i i j l x px y py z pz u w t c1 c2 c3 _ _
          obtain ⟨b1, h4⟩ := band h4
          obtain ⟨b2, h4⟩ := band h4
          obtain ⟨bz, h4⟩ := band h4
          obtain ⟨b3, h4⟩ := band h4
          obtain ⟨b4, h4⟩ := band h4
          obtain ⟨b4', h4⟩ := band h4
          obtain ⟨b5, h4⟩ := band h4
          obtain ⟨b51, h4⟩ := band h4
          obtain ⟨b52, h4⟩ := band h4
          obtain ⟨b6, h4⟩ := band h4
          obtain ⟨b61, h4⟩ := band h4
          obtain ⟨b7, h4⟩ := band h4
          obtain ⟨b8, h4⟩ := band h4
          obtain ⟨b81, h4⟩ := band h4
          obtain ⟨b9, b10⟩ := band h4
          have i1 := of_decide_eq_true b1
          have i2 := of_decide_eq_true b2
          have i3 := of_decide_eq_true bz
          have l1 := of_decide_eq_true b3
          have l2 := of_decide_eq_true b4
          have l3 := of_decide_eq_true b4'
          have n1 : x ≠ y := of_decide_eq_true b5
          have n2 : x ≠ z := of_decide_eq_true b51
          have n3 : y ≠ z := of_decide_eq_true b52
          refine impS (ps_par3 C.calm C.nd i1 i2 i3 (ne_ix i1 i2 n1) (ne_ix i1 i3 n2) (ne_ix i2 i3 n3) l1 l2 l3 (sndA T _ C.toCok _ h3) (stores_par3 C.bk l1 l2 l3 n1 n2 n3 b6 b61 b7 b8 b81 (not_of b9) (not_of b10)) (sole_of h1)) fun D0 σ H q => ?_
          obtain ⟨env, as, S, lr, so, po⟩ := q
          have po : PostS X.K W D0 as H (((evA cf (.cons c1 (.cons c2 (.cons c3 .nil))) env S).bind fun ds S => if ds.length ≤ LEN then .ok (.tup ds) S else .bad).go env fun d S => setO (.tp [i, j, l]) d env fun env => .nx env S) := po
          rw [go_bind] at po
          exact ⟨env, as, S, lr, so, PostS.go lr po fun ds S1 vs as1 H1 w1 so1 r po1 => par_go3 po1 (lr.mono w1) so1 r⟩
        · cases h4
      | _ => exact Bool.noConfusion h4
    | _ => exact Bool.noConfusion h4
theorem sub_assign {o i : Expr} {pos : Pos} {env : PySem.Env} (h : plainIx i = true) : ∀ v, assign (.Subscript o i pos) env v = (do
      let ov ← holding [v] (eval o env)
      let iv ← holding [v, ov] (eval i env)
      standAt pos
      holding [v, ov, iv] (setItem ov iv v)
      release [v, ov, iv] []) := by
  intro v
  cases i <;> first | rfl | cases h
theorem aug_go {K : PySem.W.Frag} {W : WX} {i : Nat} {o : Bop} {me : Env → Sto → Out D} {ip : TIp} {D0 : Ends} {σ : L2.St} {H : Hp} (d : ∀ (as : List Addr) (H : Hp) (S : Sto) (so : StOk K as H S) (x y : D) (v u : V) (Q : VK), Rep K as H v x → Rep K as H u y → PostG K W (RE K) as H σ (augD o x y S) Q → ip v u H Q)
    (h : tS K W (fun env S => match env[i]? with
      | some (some x) => (me env S).go env fun y S => (augD o x y S).go env fun z S => .nx (env.set i (some z)) S
      | _ => .bad) D0 σ H) : tAug i (tE K W me) ip D0 σ H := by
  obtain ⟨env, as, S, lr, so, po⟩ := h
  have po : PostS K W D0 as H (match env[i]? with
      | some (some x) => (me env S).go env fun y S => (augD o x y S).go env fun z S => .nx (env.set i (some z)) S
      | _ => .bad) := po
  split at po
  · rename_i x e1
    obtain ⟨v, g1, g2⟩ := lr.at_ i x e1
    refine ⟨v, g1, env, as, S, lr, so, PostS.go lr po fun y S1 u as1 H1 w1 so1 ry po1 => d as1 H1 S1 so1 x y v u _ (g2.mono w1) ry (PostS.go (lr.mono w1) po1 fun z S2 zv as2 H2 w2 so2 rz po2 => ?_)⟩
    exact PostS.hereN po2 so2 (((lr.mono w1).mono w2).set i rz)
  · exact po.elim
/-- a constant that a suite returns -/
def tHE (K : PySem.W.Frag) : HE → TS
  | .non => fun D _ H => D.rt .non H
  | .bl b => fun D _ H => D.rt (.bl b) H
  | .str s => fun D _ H => D.rt (.str s) H
  | .tup ss => fun D _ H => ∀ p, H p = none → D.rt (.ref p) (upd H p (.tup (ss.map V.str)))
  | .fld _ => fun _ _ _ => True
theorem pss_he {X : Cx} {e : HE} {st : List Stmt} (h : DX.retIs (chkHE e) st = true) : PSs X st (tHE X.K e) := by
  obtain ⟨x, p, rfl, h1⟩ := DX.retIs_of h
  cases e with
  | non =>
    cases x with
    | Constant v k q =>
      cases v with
      | none => exact pss_one (ps_ret pe_non)
      | _ => cases h1
    | _ => cases h1
  | bl b =>
    cases x with
    | Constant v k q =>
      cases v with
      | bool z =>
        have h1 : b = z := of_decide_eq_true h1
        subst h1
        exact pss_one (ps_ret pe_bl)
      | _ => cases h1
    | _ => cases h1
  | str s =>
    cases x with
    | Constant v k q =>
      cases v with
      | str z =>
        have h1 : s = z := of_decide_eq_true h1
        subst h1
        exact pss_one (ps_ret pe_str)
      | _ => cases h1
    | _ => cases h1
  | tup ss =>
    cases x with
    | Tuple es k q =>
      obtain ⟨g1, g2⟩ := band h1
      obtain ⟨pa, hl⟩ := DX.pa_strs (X := X) g1
      have g3 := of_decide_eq_true g2
      refine impB (pss_one (ps_ret (pe_tup pa))) fun D σ H q => ⟨by rw [List.length_map, sizeLine_eq]; omega, q⟩
    | _ => cases h1
  | fld n => cases x <;> cases h1
theorem strs_reps {K : PySem.W.Frag} {as : List Addr} {H : Hp} : ∀ ss : List Str, Reps K as H (ss.map V.str) (ss.map D.str)
  | [] => .nil
  | s :: r => .cons (.str s) (strs_reps r)
theorem he_post {K : PySem.W.Frag} {W : WX} {D0 : Ends} {as : List Addr} {H : Hp} {S : Sto} {x : Exn} {e : HE} {σ : L2.St} (so : StOk K as H S) (po : PostS K W D0 as H (match hdV x e with
      | some d => .rt d S
      | none => .bad)) : tHE K e D0 σ H := by
  cases e with
  | non => exact po .non as H (Wx.refl _ _ _) so .non
  | bl b => exact po _ as H (Wx.refl _ _ _) so (.bl b)
  | str s => exact po _ as H (Wx.refl _ _ _) so (.str s)
  | tup ss => exact fun p hp => po (.ref p) as _ (Wx.newT hp) (so.newT hp) (.tup (.inl (.inl upd_same)) ((strs_reps ss).mono (Wx.newT hp)))
  | fld n => trivial
def hdsL (K : PySem.W.Frag) (hs : List (Str × HE)) : List (Value × (Addr → Value → Option Addr → TS)) := hs.map fun p => (.ref (He.ga K p.1), fun _ _ _ => tHE K p.2)
theorem chkH_of {T : Tab} {sc : Scope} {h : Str} {e : HE} {hd : ExceptHandler} (c : chkH T sc h e hd = true) : ∃ p st q, hd = .ExceptHandler (some (.Name h p)) none st q ∧ glB sc h = true ∧ ((h = excBase ∧ T.excs ≠ []) ∨ h ∈ T.excs) ∧ DX.retIs (chkHE e) st = true := by
  cases hd with
  | ExceptHandler ty nm st q =>
    cases ty with
    | none => cases nm <;> cases c
    | some x =>
      cases nm with
      | some n => cases c
      | none =>
        obtain ⟨h1, k1⟩ := band c
        obtain ⟨h2, k2⟩ := band k1
        obtain ⟨h3, h4⟩ := band k2
        obtain ⟨p, rfl⟩ := DX.nameE_of (of_decide_eq_true h1)
        refine ⟨p, st, q, rfl, h2, ?_, h4⟩
        rcases Bool.or_eq_true_iff.mp h3 with h | h
        · obtain ⟨a, b⟩ := band h
          refine .inl ⟨of_decide_eq_true a, fun z => ?_⟩
          rw [z] at b
          cases b
        · exact .inr (List.contains_iff_mem.mp h)
theorem excFlds : excTab.all (fun p => match p.2 with | some f => decide (f ∈ excFld) | none => true) = true := by decide +kernel
theorem excFld_mem {x f : Str} (h : excTab.lookup x = some (some f)) : f ∈ excFld := by
  have := List.all_eq_true.mp excFlds _ (PySem.mem_of_lookup h)
  exact of_decide_eq_true this
theorem excMem {x : Str} {fo : Option Str} (h : excTab.lookup x = some fo) : x ∈ excTab.map (·.1) := List.mem_map.mpr ⟨_, PySem.mem_of_lookup h, rfl⟩
theorem hds_ok {T : Tab} {X : Cx} {W : WX} (C : Cok T cf X W) : ∀ {hs : List (Str × HE)} {hds : List ExceptHandler}, chkHs T X.env.scope hs hds = true → L2N.HdsOk X hds (hdsL X.K hs) ∧ ∀ p ∈ hs, known X.K p.1 = true ∧ p.1 ∈ excBase :: excTab.map (·.1)
  | [], [], _ => ⟨.nil, fun _ h => nomatch h⟩
  | [], _ :: _, h => by cases h
  | _ :: _, [], h => by cases h
  | p :: r, hd :: hds, h => by
    obtain ⟨h1, h2⟩ := band h
    obtain ⟨g1, g2⟩ := hds_ok C h2
    obtain ⟨q, st, q2, rfl, hg, hm, hr⟩ := chkH_of h1
    have key : X.mg p.1 = some (.ref (He.ga X.K p.1)) ∧ known X.K p.1 = true ∧ p.1 ∈ excBase :: excTab.map (·.1) := by
      rcases hm with ⟨e, ne⟩ | hm
      · obtain ⟨b1, b2⟩ := C.bas ne
        rw [e]
        exact ⟨b1, b2, List.mem_cons_self⟩
      · obtain ⟨fo, fI, fd, e1, e2, e3, _⟩ := C.exc p.1 hm
        exact ⟨e3, e2, List.mem_cons_of_mem _ (excMem e1)⟩
    obtain ⟨b0, st0, rfl⟩ : ∃ b0 st0, st = b0 :: st0 := by
      obtain ⟨e, p, rfl, _⟩ := DX.retIs_of hr
      exact ⟨_, _, rfl⟩
    refine ⟨.cons ⟨(gl_of hg).1, (gl_of hg).2, .inl key.1⟩ (fun a oe cls d pn _ _ => pss_he hr) g1, fun x hx => ?_⟩
    rcases List.mem_cons.mp hx with z | z
    · rw [z]; exact key.2
    · exact g2 x z
theorem many_post {K : PySem.W.Frag} {W : WX} {D0 : Ends} {as : List Addr} {H : Hp} {S : Sto} {x : Exn} {cls : Value} {dx : Option Addr} {σ : L2.St} {env : Env} (so : StOk K as H S) (er : ExR K as H cls dx x) (lr : LR K as H σ env) : ∀ (hs : List (Str × HE)), (∀ p ∈ hs, known K p.1 = true ∧ p.1 ∈ excBase :: excTab.map (·.1)) →
    PostS K W D0 as H (match hdF x hs with
      | some e => (match hdV x e with
        | some d => .rt d S
        | none => .bad)
      | none => .ex x env S) → wMany K W D0 (hdsL K hs) cls dx σ H
  | [], _, po => po cls dx σ as H (Wx.refl _ _ _) so er lr
  | p :: r, hk, po => by
    obtain ⟨d, fs, ec, ed, hd, CO, e1, e2⟩ := id er
    have hx := CO.exm p.1 (hk p List.mem_cons_self).2 (hk p List.mem_cons_self).1
    refine ⟨catches p.1 x.cls, by rw [ec]; exact hx, fun hb a _ => ?_, fun hb => ?_⟩
    · have e : hdF x (p :: r) = some p.2 := by
        show (if catches p.1 x.cls = true then some p.2 else hdF x r) = _
        rw [if_pos hb]
      rw [e] at po
      exact he_post so po
    · have e : hdF x (p :: r) = hdF x r := by
        show (if catches p.1 x.cls = true then some p.2 else hdF x r) = _
        rw [hb]; rfl
      rw [e] at po
      exact many_post so er lr r (fun q hq => hk q (List.mem_cons_of_mem _ hq)) po
theorem Bok.tr {T : Tab} {X : Cx} {W W' : WX} {pn : List (Addr × Obj)} {xe : Value → Shared → Prop} (C : Bok T cf X W) (tk : L2N.Takes (X.tr pn xe) W') (own : PassesOwn (model X.prog X.w) X.A X.env xe) : Bok T cf (X.tr pn xe) W' where
  g := C.g
  calm := C.calm
  nd := C.nd
  room := C.room
  fns := C.fns
  fl := C.fl
  glo := C.glo
  blt := C.blt
  exc := C.exc
  bas := C.bas
  pass := fun σ => L2N.passAt tk σ
  lam := fun c' h => let L := C.lam c' h; ⟨L.low, L.g, L.room, L.fns, L.fl, L.try_, L.knw, L.tab, L.uniq⟩
  tk := tk
  stk := C.stk
  frm := C.frm
  own := own
  kind := C.kind
  st := C.st
/-- raise c(..): what is left behind the making of it -/
theorem made_post {K : PySem.W.Frag} {W : WX} {D0 : Ends} {as : List Addr} {H : Hp} {S : Sto} {x : Exn} {σ : L2.St} {env : Env} {a d : Addr} {C : Addr} {fs : List (Str × V)} (so : StOk K as H S) (lr : LR K as H σ env) (ec : C = He.ga K x.cls) (CO : ClsOk K x.cls) (na : H a = none) (nd : H d = none) (hda : d ≠ a) {H2 : Hp}
    (e2 : del H2 a = H ∨ ∀ b, b ≠ a → b ≠ d → H2 b = H b) (ef : fs.map (·.1) = x.fs.map (·.1)) (rf : Reps K as H (fs.map (·.2)) (x.fs.map (·.2))) (po : PostS K W D0 as H (.ex x env S)) : W (.ref C) (some d) σ (upd (del H2 a) d (.xd fs)) := by
  have e : upd (del H2 a) d (.xd fs) = upd H d (.xd fs) := by
    funext b
    by_cases hb : b = d
    · rw [hb, upd_same, upd_same]
    · rw [upd_ne hb, upd_ne hb]
      by_cases hb2 : b = a
      · rw [hb2, del_same, na]
      · rw [del_ne hb2]
        rcases e2 with e2 | e2
        · rw [← e2, del_ne hb2]
        · exact e2 b hb2 hb
  rw [e, ec]
  exact po _ _ σ as _ (Wx.newT nd) (so.newT nd) ⟨d, fs, rfl, rfl, upd_same, CO, ef, rf.mono (Wx.newT nd)⟩ (lr.mono (Wx.newT nd))
theorem lev_le (k : Nat) : k ≤ lev k := Nat.le_add_right _ _
theorem passesNo {X : Cx} {E : XK} : Passes DX.CXno X E := fun _ _ _ _ _ _ _ z => z.elim
theorem snd_raise {X : Cx} {W : WX} {cl : Str} {a : A} {es : List Expr} {p p2 pos : Pos} (C : Bok T cf X W) (hg : glB X.env.scope cl = true) (hm : cl ∈ T.excs) (ha : PA X es (tA X.K W (evA cf a))) (hs : es.all noStar = true) (hl : es.length = a.len) :
    PS X (.Raise (some (.Call (.Name cl p) es [] p2)) none pos) (tS X.K W (exS cf Wf (.raise_ cl a))) := by
  by_cases hlv : ¬ 3 ≤ cf.lv
  · refine ⟨fun pins s σ H D I q => ?_⟩
    obtain ⟨env, as, S, lr, so, po⟩ := q
    have po : PostS X.K W D as H (if 3 ≤ cf.lv then (evA cf a env S).go env fun ds S => match mkExn cl ds with
      | some x => .ex x env S
      | none => .bad
      else .bad) := po
    rw [if_neg hlv] at po
    exact po.elim
  have hlv : 3 ≤ cf.lv := Nat.le_of_not_lt fun z => hlv (Nat.not_le_of_lt z)
  have hr : Room 3 X.A := C.room.mono (Nat.le_trans hlv (lev_le _))
  obtain ⟨fo, fI, fd, e1, e2, e3, e4, e5, e6, e7, e8⟩ := C.exc cl hm
  have rd : ∀ (D0 : Ends) (σ : L2.St) (H : Hp), tS X.K W (exS cf Wf (.raise_ cl a)) D0 σ H → ∀ R : List V → Hp → Prop, (∀ vs H1 (as : List Addr) (S : Sto) (env : Env) (ds : List D) (x : Exn), mkExn cl ds = some x → ds.length = a.len → StOk X.K as H1 S → Reps X.K as H1 vs ds → LR X.K as H1 σ env → PostS X.K W D0 as H1 (.ex x env S) → R vs H1) →
      tA X.K W (evA cf a) σ H R := by
    intro D0 σ H q R hR
    obtain ⟨env, as, S, lr, so, po⟩ := q
    have po : PostS X.K W D0 as H (if 3 ≤ cf.lv then (evA cf a env S).go env fun ds S => match mkExn cl ds with
      | some x => .ex x env S
      | none => .bad
      else .bad) := po
    rw [if_pos hlv] at po
    refine ⟨env, as, S, lr, so, ?_⟩
    cases e0 : evA cf a env S with
    | bad => rw [e0] at po; exact po.elim
    | ex x S1 => rw [e0] at po; exact fun c d as' H' w s r => po c d σ as' H' w s r (lr.mono w)
    | ok ds S1 =>
      rw [e0] at po
      intro vs as1 H1 w1 so1 rs
      have po : PostS X.K W D0 as H (match mkExn cl ds with
        | some x => .ex x env S1
        | none => .bad) := po
      cases em : mkExn cl ds with
      | none => rw [em] at po; exact po.elim
      | some x =>
        rw [em] at po
        exact hR vs H1 as1 S1 env ds x em (evA_len a env S ds S1 e0) so1 rs (lr.mono w1) (PostS.mono w1 po)
  cases fo with
  | some f =>
    obtain ⟨F1, hb⟩ := e8
    have key : ∀ (D0 : Ends) (σ : L2.St) (H : Hp), tS X.K W (exS cf Wf (.raise_ cl a)) D0 σ H → DX.tNew (He.ga X.K cl) (DX.spT1 X.K cl f) (tA X.K W (evA cf a)) σ H fun cls d H' => W cls d σ H' := by
      intro D0 σ H q
      refine rd D0 σ H q _ fun vs H1 as S env ds x em hlen so rs lr po => ?_
      unfold mkExn at em
      rw [e1] at em
      match ds, em, rs with
      | [u], em, rs =>
        cases em
        obtain ⟨v, rfl, rv⟩ := reps1 rs
        refine ⟨by show 1 ≤ 1000; decide, fun b nb => ⟨b, He.ga X.K cl, v, rfl, e4, e5.no _ (by decide +kernel), e5.no _ (excFld_mem e1), upd_same, fun dx n ne => ⟨rfl, dx, _, ?_, upd_same, ?_, ?_⟩⟩⟩
        · rw [upd_ne (Ne.symm ne), upd_same]
        · rw [upd_ne ne] at n; exact n
        · have nd : H1 dx = none := by rw [upd_ne ne] at n; exact n
          refine made_post (x := ⟨cl, [(f, u), (("class_name" : Str), .str cl)]⟩) (fs := [(f, v), (("class_name" : Str), .str cl)]) so lr rfl e5 nb nd ne (.inr fun c h1 h2 => ?_) rfl (.cons rv (.cons (.str cl) .nil)) po
          rw [upd_ne h2, upd_ne h1, upd_ne h2, upd_ne h1]
      | [], em, _ => cases em
      | _ :: _ :: _, em, _ => cases em
    cases es with
    | nil =>
      refine impS (L2N.ps_raise C.calm C.tk (DX.pmk_new0 e4 e6 e7 F1 hr hb passesNo hg e3)) fun D0 σ H q => ?_
      have := key D0 σ H q
      obtain ⟨env, as, S, lr, so, po⟩ := this
      cases a with
      | cons _ _ => cases hl
      | nil => exact PostG.here (show PostG X.K W (RA X.K) as H σ (.ok [] S) _ from po) so .nil
    | cons e es => exact impS (L2N.ps_raise C.calm C.tk (DX.pmk_new e4 e6 e7 F1 hr hb passesNo hg e3 ha hs)) key
  | none =>
    obtain ⟨F1, hb⟩ := e8
    have key : ∀ (D0 : Ends) (σ : L2.St) (H : Hp), tS X.K W (exS cf Wf (.raise_ cl a)) D0 σ H → DX.tNew (He.ga X.K cl) (DX.spT2 X.K cl) (tA X.K W (evA cf a)) σ H fun cls d H' => W cls d σ H' := by
      intro D0 σ H q
      refine rd D0 σ H q _ fun vs H1 as S env ds x em hlen so rs lr po => ?_
      unfold mkExn at em
      rw [e1] at em
      match ds, em, rs with
      | [], em, rs =>
        cases em
        have e0 := reps0 rs
        subst e0
        refine ⟨by show 0 ≤ 1000; decide, fun b nb => ⟨b, He.ga X.K cl, rfl, e4, e5.no _ (by decide +kernel), upd_same, fun dx n ne => ⟨rfl, dx, [(("class_name" : Str), .str cl)], upd_same, ?_, ?_, ?_⟩⟩⟩
        · rw [upd_ne ne, upd_same]
        · rw [upd_ne ne] at n; exact n
        · have nd : H1 dx = none := by rw [upd_ne ne] at n; exact n
          refine made_post (x := ⟨cl, [(("class_name" : Str), .str cl)]⟩) so lr rfl e5 nb nd ne (.inr fun c h1 h2 => ?_) rfl (.cons (.str cl) .nil) po
          rw [upd_ne h1, upd_ne h2, upd_ne h1]
      | _ :: _, em, _ => cases em
    cases es with
    | nil =>
      refine impS (L2N.ps_raise C.calm C.tk (DX.pmk_new0 e4 e6 e7 F1 hr hb passesNo hg e3)) fun D0 σ H q => ?_
      have := key D0 σ H q
      obtain ⟨env, as, S, lr, so, po⟩ := this
      cases a with
      | cons _ _ => cases hl
      | nil => exact PostG.here (show PostG X.K W (RA X.K) as H σ (.ok [] S) _ from po) so .nil
    | cons e es => exact impS (L2N.ps_raise C.calm C.tk (DX.pmk_new e4 e6 e7 F1 hr hb passesNo hg e3 ha hs)) key
mutual
theorem sndS : ∀ (c : DI.St) {X : Cx} {W : WX} (C : Bok T cf X W) (st : Stmt), chkS T X.N c X.env.scope st = true → PS X st (tS X.K W (exS cf Wf c))
  | .asg (.nm i) e, X, W, C, st, h => by
    cases st with
    | Assign tgs v pos =>
      match tgs, h with
      | [], h => exact Bool.noConfusion h
      | t :: u :: r, h => cases t <;> exact Bool.noConfusion h
      | [tg], h =>
        cases tg with
        | Name x p => exact sndAsgN T Wf e C h
        | _ => exact Bool.noConfusion h
    | _ => exact Bool.noConfusion h
  | .asg (.tp is) e, X, W, C, st, h => by
    cases st with
    | Assign tgs v pos =>
      match tgs, h with
      | [], h => exact Bool.noConfusion h
      | t :: u :: r, h => cases t <;> exact Bool.noConfusion h
      | [tg], h =>
        cases tg with
        | Tuple ts kt pt => exact sndAsgT T Wf e C h
        | _ => exact Bool.noConfusion h
    | _ => exact Bool.noConfusion h
  | .setIx o i e, X, W, C, st, h => by
    cases st with
    | Assign tgs v pos =>
      match tgs, h with
      | [], h => exact Bool.noConfusion h
      | t :: u :: r, h => cases t <;> exact Bool.noConfusion h
      | [tg], h =>
        cases tg with
        | Subscript x y p =>
          obtain ⟨h1, h⟩ := band h
          obtain ⟨h2, h⟩ := band h
          obtain ⟨h3, h⟩ := band h
          obtain ⟨h4, h5⟩ := band h
          refine impS (ps_asg (sndE T e C.toCok v h3) (pg_sub (sndE T o C.toCok x h4) (sndE T i C.toCok y h5) set_list (sub_assign h2)) (sole_of h1) ?_) fun D0 σ H q => ?_
          · cases v <;> rfl
          · obtain ⟨env, as, S, lr, so, po⟩ := q
            refine ⟨env, as, S, lr, so, PostS.go lr po fun d S1 v as1 H1 w1 so1 r po1 => ⟨env, as1, S1, lr.mono w1, so1, PostS.go (lr.mono w1) po1 fun x S2 xv as2 H2 w2 so2 rx po2 => ⟨env, as2, S2, (lr.mono w1).mono w2, so2, PostS.go ((lr.mono w1).mono w2) po2 fun y S3 yv as3 H3 w3 so3 ry po3 => ?_⟩⟩⟩
            cases e1 : setIx x y d S3 with
            | none => rw [e1] at po3; exact po3.elim
            | some S4 =>
              rw [e1] at po3
              have po3 : PostS X.K W D0 as3 H3 (.nx env S4) := po3
              have rx3 := Rep.mono w3 rx
              have rd3 := Rep.mono w3 (Rep.mono w2 r)
              unfold setIx at e1
              split at e1
              · rename_i n kx
                split at e1
                · rename_i ds e2
                  split at e1
                  · rename_i j e3
                    cases e1
                    cases rx3 with
                    | ref ha =>
                      cases ry
                      obtain ⟨vs, g1, g2⟩ := so3.at ha e2
                      refine ⟨_, vs, kx, j, rfl, rfl, g1, by rw [g2.length]; exact e3, ?_⟩
                      exact po3 σ as3 _ (Wx.write g1 (List.mem_of_getElem? ha)) (so3.write ha g1 (Reps.set rd3 j g2)) ((((lr.mono w1).mono w2).mono w3).mono (Wx.write g1 (List.mem_of_getElem? ha)))
                  · cases e1
                · cases e1
              · cases e1
        | _ => exact Bool.noConfusion h
    | _ => exact Bool.noConfusion h
  | .pas, X, W, C, st, h => by
    cases st with
    | Expr v pos =>
      cases v with
      | Constant z kk p2 =>
        cases z with
        | str z =>
          refine impS ps_doc fun D0 σ H q => ?_
          obtain ⟨env, as, S, lr, so, po⟩ := q
          exact PostS.hereN po so lr
        | _ => exact Bool.noConfusion h
      | _ => exact Bool.noConfusion h
    | Pass pos =>
      refine impS ps_pass fun D0 σ H q => ?_
      obtain ⟨env, as, S, lr, so, po⟩ := q
      exact PostS.hereN po so lr
    | _ => exact Bool.noConfusion h
  | .expr e, X, W, C, st, h => by
    cases st with
    | Expr v pos =>
      obtain ⟨h1, h2⟩ := band h
      refine impS (ps_expr (sndE T e C.toCok v h2) (swaps_of h1)) fun D0 σ H q => ?_
      obtain ⟨env, as, S, lr, so, po⟩ := q
      exact ⟨env, as, S, lr, so, PostS.go lr po fun d S1 v as1 H1 w1 so1 r po1 => PostS.hereN po1 so1 (lr.mono w1)⟩
    | _ => exact Bool.noConfusion h
  | .ret e, X, W, C, st, h => by
    cases st with
    | Return v pos =>
      cases v with
      | none => exact Bool.noConfusion h
      | some v =>
        refine impS (ps_ret (sndE T e C.toCok v h)) fun D0 σ H q => ?_
        obtain ⟨env, as, S, lr, so, po⟩ := q
        exact ⟨env, as, S, lr, so, PostS.go lr po fun d S1 v as1 H1 w1 so1 r po1 => po1 v as1 H1 (Wx.refl _ _ _) so1 r⟩
    | _ => exact Bool.noConfusion h
  | .retN, X, W, C, st, h => by
    cases st with
    | Return v pos =>
      cases v with
      | some v => exact Bool.noConfusion h
      | none =>
        refine impS ps_retN fun D0 σ H q => ?_
        obtain ⟨env, as, S, lr, so, po⟩ := q
        exact po .non as H (Wx.refl _ _ _) so .non
    | _ => exact Bool.noConfusion h
  | .ite t a b, X, W, C, st, h => by
    cases st with
    | If c x y pos =>
      obtain ⟨h1, h⟩ := band h
      obtain ⟨h2, h3⟩ := band h
      refine impS (ps_if (sndQ T t C.toCok c h1).1 (sndB a C x h2) (sndB b C y h3)) fun D0 σ H q => ?_
      obtain ⟨env, as, S, lr, so, po⟩ := q
      refine ⟨env, as, S, lr, so, PostS.go lr po fun d S1 v as1 H1 w1 so1 r po1 => ?_⟩
      have r : v = d := r
      subst r
      cases v with
      | true => exact ⟨env, as1, S1, lr.mono w1, so1, po1⟩
      | false => exact ⟨env, as1, S1, lr.mono w1, so1, po1⟩
    | _ => exact Bool.noConfusion h
  | .whl t b, X, W, C, st, h => by
    cases st with
    | While c x y pos =>
      cases y with
      | nil =>
        obtain ⟨h1, h2⟩ := band h
        exact impS (ps_while C.own (sndQ T t C.toCok c h1).1 (sndB b C x h2)) fun D0 σ H q => tWhile_of q
      | cons y ys => exact Bool.noConfusion h
    | _ => exact Bool.noConfusion h
  | .for_ t i b, X, W, C, st, h => by
    cases st with
    | For tg iter x y pos =>
      cases y with
      | nil =>
        obtain ⟨h1, h⟩ := band h
        obtain ⟨h2, h⟩ := band h
        obtain ⟨h3, h4⟩ := band h
        exact impS (ps_for C.own C.calm (sndI T i C.toCok iter tg h3) (tg_of C.st C.nd C.calm h2) (sndB b C x h4) (fun x => fold_of h1)) fun D0 σ H q => tFor_of q
      | cons y ys => exact Bool.noConfusion h
    | _ => exact Bool.noConfusion h
  | .brk, X, W, C, st, h => by
    cases st with
    | Break pos =>
      refine impS ps_break fun D0 σ H q => ?_
      obtain ⟨env, as, S, lr, so, po⟩ := q
      exact po σ as H (Wx.refl _ _ _) so lr
    | _ => exact Bool.noConfusion h
  | .cnt, X, W, C, st, h => by
    cases st with
    | Continue pos =>
      refine impS ps_continue fun D0 σ H q => ?_
      obtain ⟨env, as, S, lr, so, po⟩ := q
      exact po σ as H (Wx.refl _ _ _) so lr
    | _ => exact Bool.noConfusion h
  | .never, X, W, C, st, h => impS ps_never fun D0 σ H q => by
      obtain ⟨env, as, S, lr, so, po⟩ := q
      exact po
  | .aug i o e, X, W, C, st, h => by
    cases st with
    | AugAssign tg op v pos =>
      cases tg with
      | Name x p =>
        obtain ⟨h1, g⟩ := band h
        obtain ⟨h2, g⟩ := band g
        obtain ⟨h3, g⟩ := band g
        obtain ⟨h4, h5⟩ := band g
        clear h
        cases of_decide_eq_true h1
        obtain ⟨q1, q2⟩ := C.st x h4
        have hi := of_decide_eq_true h3
        have he := sndE T e C.toCok v h5
        cases o with
        | add => exact impS (ps_aug C.nd hi q1 he (orOpR iop_add iop_add_str) q2) fun D0 σ H q => aug_go (fun as H S so x y v u Q rx ry po => by
            cases rx with
            | int i =>
              cases ry with
              | int j => exact .inl ⟨i, j, rfl, rfl, po.here so (.int _)⟩
              | _ => exact (show False from po).elim
            | str a =>
              cases ry with
              | str b =>
                obtain ⟨hl, po⟩ := of_ite po
                exact .inr ⟨a, b, rfl, rfl, len_le hl, po.here so (.str _)⟩
              | _ => exact (show False from po).elim
            | _ => exact (show False from po).elim) q
        | sub => exact impS (ps_aug C.nd hi q1 he iop_sub q2) fun D0 σ H q => aug_go (fun as H S so x y v u Q rx ry po => by
            cases rx with
            | int i =>
              cases ry with
              | int j => exact ⟨i, j, rfl, rfl, po.here so (.int _)⟩
              | _ => exact (show False from po).elim
            | _ => exact (show False from po).elim) q
        | _ => exact Bool.noConfusion h2
      | _ => exact Bool.noConfusion h
    | _ => exact Bool.noConfusion h
  | .raise_ cl a, X, W, C, st, h => by
    cases st with
    | Raise x cz pos =>
      cases x with
      | none => exact Bool.noConfusion h
      | some x =>
        cases cz with
        | some _ => exact Bool.noConfusion h
        | none =>
          cases x with
          | Call fn es ks p2 =>
            cases fn with
            | Name g p =>
              cases ks with
              | cons _ _ => exact Bool.noConfusion h
              | nil =>
                obtain ⟨h1, k1⟩ := band h
                obtain ⟨h2, k2⟩ := band k1
                obtain ⟨h3, h4⟩ := band k2
                clear h k1 k2
                have h1 := of_decide_eq_true h1
                subst h1
                exact snd_raise T Wf C h2 (List.contains_iff_mem.mp h3) (sndA T a C.toCok es h4) (chkA_star h4) (chkA_len h4)
            | _ => exact Bool.noConfusion h
          | _ => exact Bool.noConfusion h
    | _ => exact Bool.noConfusion h
  | .try_ b hs, X, W, C, st, h => by
    cases st with
    | Try body hds o f pos =>
      obtain ⟨h1, k1⟩ := band h
      obtain ⟨h2, k2⟩ := band k1
      obtain ⟨h3, k3⟩ := band k2
      obtain ⟨h4, h5⟩ := band k3
      clear h k1 k2 k3
      cases List.isEmpty_iff.mp h1
      cases List.isEmpty_iff.mp h2
      obtain ⟨g1, g2⟩ := hds_ok C.toCok h4
      cases hds with
      | nil => cases h3
      | cons hd hds =>
        refine impS (L2N.ps_try_many (tb := fun W' => tS X.K W' (exB cf Wf b)) C.stk C.frm C.tk (fun W' pn xe tk own => sndB b (C.tr tk own) body h5) g1) fun D0 σ H q => ?_
        obtain ⟨env, as, S, lr, so, po⟩ := q
        have po : PostS X.K W D0 as H (match exB cf Wf b env S with
          | .ex x env S => (match hdF x hs with
            | some e => (match hdV x e with
              | some d => .rt d S
              | none => .bad)
            | none => .ex x env S)
          | o => o) := po
        refine ⟨env, as, S, lr, so, ?_⟩
        cases e0 : exB cf Wf b env S with
        | ex x env1 S1 =>
          rw [e0] at po
          exact fun cls dx σ' as' H' w' so' er lr' => many_post so' er lr' hs g2 (PostS.mono w' po)
        | nx env1 S1 => rw [e0] at po; exact po
        | rt d S1 => rw [e0] at po; exact po
        | bk env1 S1 => rw [e0] at po; exact po
        | ct env1 S1 => rw [e0] at po; exact po
        | bad => rw [e0] at po; exact po
    | _ => exact Bool.noConfusion h
theorem sndB : ∀ (c : DI.B) {X : Cx} {W : WX} (C : Bok T cf X W) (st : List Stmt), chkB T X.N c X.env.scope st = true → PSs X st (tS X.K W (exB cf Wf c))
  | .nil, X, W, C, st, h => by
    cases st with
    | nil =>
      refine impB pss_nil fun D0 σ H q => ?_
      obtain ⟨env, as, S, lr, so, po⟩ := q
      exact PostS.hereN po so lr
    | cons x xs => exact Bool.noConfusion h
  | .cons s b, X, W, C, st, h => by
    cases st with
    | nil => exact Bool.noConfusion h
    | cons x xs =>
      obtain ⟨h1, h2⟩ := band h
      refine impB (pss_cons (sndS s C x h1) (sndB b C xs h2)) fun D0 σ H q => ?_
      obtain ⟨env, as, S, lr, so, po⟩ := q
      have po : PostS X.K W D0 as H (match exS cf Wf s env S with
        | .nx env S => exB cf Wf b env S
        | o => o) := po
      refine ⟨env, as, S, lr, so, ?_⟩
      cases e1 : exS cf Wf s env S with
      | nx env1 S1 =>
        rw [e1] at po
        exact fun σ1 as1 H1 w1 so1 lr1 => ⟨env1, as1, S1, lr1, so1, PostS.mono w1 po⟩
      | rt d S1 => rw [e1] at po; exact po
      | bk env1 S1 => rw [e1] at po; exact po
      | ct env1 S1 => rw [e1] at po; exact po
      | ex y env1 S1 => rw [e1] at po; exact po
      | bad => rw [e1] at po; exact po
end
end
end DI

/-! DI13: every def keeps its promise, by the level. -/
namespace DI
open PySem PySem.Spec PyProof.Rows L2

/-- what the head tells of a def -/
structure FnF (K : PySem.W.Frag) (T : Tab) (fc : Fc) (a : Addr) (fd : FuncData) : Prop where
  ex : ∃ (nm qual : Str) (params : Arguments) (body : List Stmt) (scope : Scope) (dvs : List V), FunD K nm qual params body scope dvs [] a fd ∧ FnScope fc.names (fc.names.take fc.np) scope ∧ fc.np ≤ fc.names.length ∧ chkB T fc.names fc.body scope body = true ∧
    (∀ as H, Reps K as H dvs fc.dfl) ∧ (∀ m, m ≤ fc.np → fc.np - m ≤ fc.dfl.length → ∃ dsv, Vals (dvs.drop (fc.dfl.length - (fc.np - m))) dsv ∧ Binds K fd (fc.names.take fc.np) dsv)
  kp : PySem.W.keepIn K (.ref a) = true
  at_ : ∃ d, d ∈ T.fns.map (·.1) ∧ a = He.ga K d
  tab : ∀ c, fd.code = .ref c → (He.tabOf K c, fd.qualname ++ ".<locals>." ++ "<lambda>") ∈ tabsOf K
/-- what the head tells of an exception class -/
def ExcS (K : PySem.W.Frag) (mg : Str → Option Value) (x : Str) : Prop := ∃ (fo : Option Str) (fI : Addr) (fd : FuncData) (nm qual : Str) (params : Arguments) (body : List Stmt) (scope : Scope), excTab.lookup x = some fo ∧ known K x = true ∧ mg x = some (.ref (He.ga K x)) ∧ DX.ExcC K (He.ga K x) ∧ ClsOk K x ∧
  PySem.W.findIn K (.ref (He.ga K x)) "__init__" = some (some (.ref fI)) ∧ PySem.W.typeIn K (.ref fI) = some (.type "function") ∧ FunD K nm qual params body scope [] [] fI fd ∧ glB scope "TraceError" = true ∧
  (match fo with
  | some f => FnScope ["self", f] ["self", f] scope ∧ DX.isT1 x f body = true ∧ Binds K fd ["self", f] [] ∧ plainN f = true
  | none => FnScope ["self"] ["self"] scope ∧ DX.isT2 x body = true ∧ Binds K fd ["self"] [])
/-- .. of the base class -/
def BasS (K : PySem.W.Frag) (mg : Str → Option Value) : Prop := ∃ (f0 : Addr) (fd : FuncData) (nm qual : Str) (params : Arguments) (body : List Stmt) (scope : Scope), known K excBase = true ∧ DX.BaseC K mg (He.ga K excBase) f0 ∧ FunD K nm qual params body scope [] [] f0 fd ∧
  FnScope ["self", "class_name"] ["self", "class_name"] scope ∧ DX.isT0 body = true ∧ glB scope "Exception" = true ∧ mg "Exception" = none ∧ Binds K fd ["self", "class_name"] []
structure Says (K : PySem.W.Frag) (mg : Str → Option Value) (T : Tab) : Prop where
  fns : ∀ (f : Str) (fc : Fc), T.get f = some fc → ∃ a fd, mg f = some (.ref a) ∧ FnF K T fc a fd
  glo : ∀ (x : Str) (d : D), T.G x = some d → ∃ v u, mg x = some u ∧ RelV v u ∧ ∀ as H, Rep K as H v d
  blt : ∀ x ∈ bltNames, mg x = none
  exc : ∀ x ∈ T.excs, ExcS K mg x
  bas : T.excs ≠ [] → BasS K mg
  try_ : T.lam = true → known K excBase = true ∧ ∃ g fd, mg "_law_try" = some (.ref g) ∧ DX.TryD K mg fldL fldLast (He.ga K excBase) g fd
  uniq : ∀ p ∈ tabsOf K, ∀ q ∈ tabsOf K, p.1 = q.1 → p.2 = q.2
theorem start_LR {K : PySem.W.Frag} {as : List Addr} {H : Hp} {fc : Fc} {vs : List V} {ds : List D} (r : Reps K as H vs ds) : LR K as H (L2.start fc.names vs) (start fc ds) := by
  have hl := r.length
  refine ⟨by simp [L2.start, start, hl], fun i d e => ?_⟩
  unfold start at e
  by_cases hi : i < ds.length
  · rw [List.getElem?_append_left (by simpa using hi), List.getElem?_map] at e
    cases e2 : ds[i]? with
    | none => rw [e2] at e; cases e
    | some d' =>
      rw [e2] at e
      cases e
      obtain ⟨v, h1, h2⟩ := r.getD e2
      refine ⟨v, ?_, h2⟩
      unfold L2.start
      rw [List.getElem?_append_left (by simpa [hl] using hi), List.getElem?_map, h1]
      rfl
  · rw [List.getElem?_append_right (by simpa using hi), List.getElem?_replicate] at e
    split at e <;> cases e
section
variable {P : Program} {w : World} {K : PySem.W.Frag} {mg : Str → Option Value} {base : Heap} {T : Tab} {Wf : Nat}
theorem xcls_of (Sy : Says K mg T) {X : Cx} (hP : X.prog = P) (hw : X.w = w) (hK : X.K = K) (hm : X.mg = mg) {x : Str} (hx : x ∈ T.excs) : XCls X x := by
  subst hP hw hK hm
  obtain ⟨fo, fI, fd, nm, qual, params, body, scope, h1, h2, h3, h4, h5, h6, h7, h8, h9, h10⟩ := Sy.exc x hx
  obtain ⟨f0, fd0, nm0, qual0, params0, body0, scope0, g1, g2, g3, g4, g5, g6, g7, g8⟩ := Sy.bas (fun z => by rw [z] at hx; cases hx)
  have F0 : FnOk X.prog X.w X.K X.mg X.base DX.CXno 1 f0 fd0 ["self", "class_name"] (DX.spT0 X.K) := DX.fn_T0 g3 g4 g5 g6 g7
  refine ⟨fo, fI, fd, h1, h2, h3, h4, h5, h6, h7, ?_⟩
  cases fo with
  | some f =>
    obtain ⟨k1, k2, k3, k4⟩ := h10
    obtain ⟨d1, d2⟩ := plain_of k4
    exact ⟨DX.fn_T1 h8 k1 k2 h9 g2 F0 g8 d1 d2 (fun _ _ => passesNo), k3⟩
  | none =>
    obtain ⟨k1, k2, k3⟩ := h10
    exact ⟨DX.fn_T2 h8 k1 k2 h9 g2 F0 g8 (fun _ _ => passesNo), k3⟩
theorem fn_ok (Sy : Says K mg T) (HT : ∀ d ∈ T.fns.map (·.1), LamX.TabB base mg (He.cT K (d, none)).1 (He.cT K (d, none)).2) : ∀ (k : Nat) (f : Str) (fc : Fc) (a : Addr) (fd : FuncData), T.get f = some fc → FnF K T fc a fd → FnOk P w K mg base (L2N.CX P w) (lev k) a fd (fc.names.take fc.np) (spF K (runF T Wf k) fc.np f) := by
  intro k
  induction k using Nat.strongRecOn with
  | ind k ih =>
  intro f fc a fd hf F
  cases k with
  | zero =>
    have no : ∀ vs H Q E, ¬ spF K (runF T Wf 0) fc.np f vs H Q E := by
      rintro vs H Q E ⟨as, S, ds, so, r, hl, po⟩
      exact po
    exact ⟨fun vs H Q E h => (no vs H Q E h).elim, fun A outer s H args us vs Q E hr he hb hv h => (no vs H Q E h).elim⟩
  | succ k =>
    obtain ⟨nm, qual, params, body, scope, dvs, FD, S, hnp, hc, _, _⟩ := F.ex
    have hpl : (fc.names.take fc.np).length = fc.np := by rw [List.length_take]; omega
    obtain ⟨kk, ek⟩ : ∃ kk, lev (k + 1) = kk + 1 := ⟨lev (k + 1) - 1, by have := lev_le (k + 1); omega⟩
    have hkk : lev k ≤ kk := by unfold lev at ek ⊢; omega
    have hk2 : 90 ≤ k → lev 89 + 2 ≤ kk := fun h => by unfold lev at ek ⊢; omega
    obtain ⟨oc, od, dV, kV, doc, pm, an, cdv, ct, osl, rfl, lk, hcd, _, _⟩ := FD.ex
    obtain ⟨cc, rfl⟩ := He.codeIn_ref hcd
    rw [ek]
    refine fn_of lk hcd S (fun vs H Q E h => ?_) fun A outer s H vs Q E hr h => ⟨tS K (fun cls d _ H => E cls d H) (exB (cfg T Wf k) Wf fc.body), ?_, ?_⟩
    · obtain ⟨as, S, ds, so, r, hl, po⟩ := h
      rw [r.length, hl, hpl]
    · let X := cxOf (L2N.CX P w) P w K mg base fc.names qual scope a (.ref cc) A outer s H E
      have tk : L2N.Takes X (fun cls d _ H => E cls d H) := L2N.takes_of rfl rfl rfl rfl
      have fns : ∀ j, j < k + 1 → ∀ c : Cfg, c.lv = j → c.F = runF T Wf j → FnsOk T c X := fun j hj c e1 e2 g gc m hg h1 h2 => by
        obtain ⟨b, bd, hm, Fb⟩ := Sy.fns g gc hg
        obtain ⟨nm', qual', params', body', scope', dvs', FD', S', hnp', hc', hr', hb'⟩ := Fb.ex
        obtain ⟨dsv, q1, q2⟩ := hb' m h1 h2
        refine ⟨b, bd, _, _, dsv, hm, Fb.kp, ?_, q2, q1, fun as H => (hr' as H).drop _⟩
        rw [e1, e2]
        exact ih j hj g gc b bd hg Fb
      have C : Bok T (cfg T Wf k) X (fun cls d _ H => E cls d H) := {
        g := rfl
        calm := rfl
        nd := S.nd
        room := hr.mono hkk
        fns := fns k (Nat.lt_succ_self k) _ rfl rfl
        fl := fillOk_run T Wf k
        glo := Sy.glo
        blt := Sy.blt
        exc := fun x hx => xcls_of Sy rfl rfl rfl rfl hx
        bas := fun ne => by
          obtain ⟨f0, fd0, nm0, qual0, params0, body0, scope0, g1, g2, _⟩ := Sy.bas ne
          exact ⟨g2.at_, g1⟩
        pass := fun σ => L2N.passAt tk σ
        lam := fun c' h => by
          have h : lowOf T Wf k = some c' := h
          unfold lowOf at h
          by_cases hk : 90 ≤ k
          · rw [if_pos hk] at h
            by_cases hl : T.lam = true
            · rw [if_pos hl] at h
              cases h
              obtain ⟨kn, g, fdg, hmg, TD⟩ := Sy.try_ hl
              obtain ⟨d, hd, ea⟩ := F.at_
              have eT : (He.cT K (d, none)) = (cc, He.tabOf K cc) := by
                have lk2 : K.lookup (He.fAd K (d, none)) = some ⟨oc, od, .func (PySem.W.fnOf nm qual params body scope dV kV doc pm an (.ref cc) ct), osl⟩ := by
                  show K.lookup (He.ga K d) = _
                  rw [← ea]; exact lk
                have := He.codeOf_eq lk2 (c := cc) rfl
                unfold He.cT
                rw [this]
              have tb := HT d hd
              rw [eT] at tb
              exact ⟨rfl, rfl, hr.mono (hk2 hk), fns 89 (by omega) _ rfl rfl, fillOk_run T Wf 89, ⟨g, fdg, hmg, TD⟩, kn, ⟨cc, He.tabOf K cc, rfl, tb, F.tab cc rfl⟩, Sy.uniq⟩
            · rw [if_neg hl] at h; cases h
          · rw [if_neg hk] at h; cases h
        tk := tk
        stk := rfl
        frm := rfl
        own := passes_of rfl
        kind := S.kind
        st := fun x hx => ⟨by
          rcases Bool.or_eq_true_iff.mp hx with h | h
          · exact .inl (of_decide_eq_true h)
          · exact .inr (of_decide_eq_true h), .inl rfl⟩ }
      exact sndB T Wf fc.body C body hc
    · obtain ⟨as, S0, ds, so, r, hl, po⟩ := h
      have hfill : fill fc ds = ds := by
        unfold fill
        rw [hl, Nat.sub_self, Nat.sub_zero, List.drop_length, List.append_nil]
      have e : runF T Wf (k + 1) f ds S0 = (exB (cfg T Wf k) Wf fc.body (start fc ds) S0).out := by
        rw [runF_succ]
        unfold runB
        rw [hf]
        show (if (fill fc ds).length = fc.np then (exB (cfg T Wf k) Wf fc.body (start fc (fill fc ds)) S0).out else .bad) = _
        rw [hfill, if_pos hl]
      rw [e] at po
      refine ⟨start fc ds, as, S0, start_LR r, so, ?_⟩
      cases e2 : exB (cfg T Wf k) Wf fc.body (start fc ds) S0 with
      | nx env S1 =>
        rw [e2] at po
        exact fun σ' as' H' w' so' lr' => po .non as' H' w' so' .non
      | rt d S1 =>
        rw [e2] at po
        exact po
      | bk env S1 => rw [e2] at po; exact po.elim
      | ct env S1 => rw [e2] at po; exact po.elim
      | ex x env S1 =>
        rw [e2] at po
        exact fun cls dx σ' as' H' w' so' x' lr' => po cls dx as' H' w' so' x'
      | bad => rw [e2] at po; exact po.elim
end
end DI

/-! DI14: the head. -/
namespace DI
open PySem PySem.Spec PyProof.Rows L2

/-! ### constants of the module -/
section
variable (K : PySem.W.Frag)
mutual
def cstB : Value → D → Bool
  | .none, .non => true
  | .bool b, .bl c => b == c
  | .int i _, .int j => decide (i = j)
  | .str s _, .str t => decide (s = t)
  | .ref a, .tup ds => (match K.lookup a with
    | some ⟨.type c, _, .seq its _, _⟩ => decide (c = "tuple") && (decide (its.size ≤ sizeLine) && cstsB its.toList ds)
    | _ => false)
  | .ref a, .kls ds => (match K.lookup a with
    | some ⟨.type c, none, .seq its _, _⟩ => decide (c = "list") && (decide (its.size ≤ sizeLine) && cstsB its.toList ds)
    | _ => false)
  | _, _ => false
termination_by structural _ d => d
def cstsB : List Value → List D → Bool
  | [], [] => true
  | v :: vs, d :: ds => cstB v d && cstsB vs ds
  | _, _ => false
termination_by structural _ ds => ds
end
end
section
variable {K : PySem.W.Frag} {as : List Addr} {H : Hp}
mutual
theorem cstB_ok : ∀ (u : Value) (d : D), cstB K u d = true → ∃ v, RelV v u ∧ ∀ as H, Rep K as H v d
  | u, .non, h => by cases u <;> first | exact ⟨.non, rfl, fun _ _ => .non⟩ | cases h
  | u, .bl c, h => by
    cases u with
    | bool b => exact ⟨.bl b, rfl, fun _ _ => by rw [eq_of_beq (show (b == c) = true from h)]; exact .bl c⟩
    | _ => cases h
  | u, .int j, h => by
    cases u with
    | int i t => exact ⟨.int i, ⟨t, rfl⟩, fun _ _ => by rw [of_decide_eq_true (show decide (i = j) = true from h)]; exact .int j⟩
    | _ => cases h
  | u, .str j, h => by
    cases u with
    | str i t => exact ⟨.str i, ⟨t, rfl⟩, fun _ _ => by rw [of_decide_eq_true (show decide (i = j) = true from h)]; exact .str j⟩
    | _ => cases h
  | u, .tup ds, h => by
    cases u with
    | ref a =>
      have h : (match K.lookup a with
        | some ⟨.type c, _, .seq its _, _⟩ => decide (c = "tuple") && (decide (its.size ≤ sizeLine) && cstsB K its.toList ds)
        | _ => false) = true := h
      split at h
      · rename_i c od its n sl q
        obtain ⟨h1, h⟩ := band h
        obtain ⟨h2, h3⟩ := band h
        obtain ⟨vs, g1, g2⟩ := cstsB_ok its.toList ds h3
        exact ⟨.ref a, rfl, fun as H => .tup (.inr ⟨_, its, n, q, congrArg Value.type (of_decide_eq_true h1), rfl, of_decide_eq_true h2, g1⟩) (g2 as H)⟩
      · cases h
    | _ => cases h
  | u, .kls ds, h => by
    cases u with
    | ref a =>
      have h : (match K.lookup a with
        | some ⟨.type c, none, .seq its _, _⟩ => decide (c = "list") && (decide (its.size ≤ sizeLine) && cstsB K its.toList ds)
        | _ => false) = true := h
      split at h
      · rename_i c its n sl q
        obtain ⟨h1, h⟩ := band h
        obtain ⟨h2, h3⟩ := band h
        obtain ⟨vs, g1, g2⟩ := cstsB_ok its.toList ds h3
        exact ⟨.ref a, rfl, fun as H => .kls (.inr ⟨_, its, n, q, congrArg Value.type (of_decide_eq_true h1), rfl, rfl, of_decide_eq_true h2, g1⟩) (g2 as H)⟩
      · cases h
    | _ => cases h
  | u, .ref n, h => by cases u <;> cases h
  | u, .bty n, h => by cases u <;> cases h
theorem cstsB_ok : ∀ (us : List Value) (ds : List D), cstsB K us ds = true → ∃ vs, Vals vs us ∧ ∀ as H, Reps K as H vs ds
  | us, [], h => by
    cases us with
    | nil => exact ⟨[], .nil, fun _ _ => .nil⟩
    | cons u us => cases h
  | us, d :: ds, h => by
    cases us with
    | nil => cases h
    | cons u us =>
      obtain ⟨h1, h2⟩ := band h
      obtain ⟨v, g1, g2⟩ := cstB_ok u d h1
      obtain ⟨vs, g3, g4⟩ := cstsB_ok us ds h2
      exact ⟨v :: vs, .cons g1 g3, fun as H => .cons (g2 as H) (g4 as H)⟩
end
end
def gloB (K : PySem.W.Frag) (q : Str × D) : Bool := match PySem.W.nsIn K mainGlobals q.1 with
  | some (some u) => cstB K u q.2
  | _ => false

/-! ### defs -/
structure Df where
  dd : He.DefD
  fc : Fc
def dvB : He.Dv → D → Bool
  | .non, .non => true
  | .bl b, .bl c => b == c
  | .int i, .int j => decide (i = j)
  | .str i, .str j => decide (i = j)
  | _, _ => false
def dvsB : List He.Dv → List D → Bool
  | [], [] => true
  | v :: vs, d :: ds => dvB v d && dvsB vs ds
  | _, _ => false
theorem dvB_ok {K : PySem.W.Frag} {as : List Addr} {H : Hp} {v : He.Dv} {d : D} (h : dvB v d = true) : Rep K as H (v.v K) d := by
  cases v <;> cases d <;> first | cases h | skip
  · exact .non
  · rename_i b c
    rw [eq_of_beq (show (b == c) = true from h)]; exact .bl c
  · rename_i b c
    rw [of_decide_eq_true (show decide (b = c) = true from h)]; exact .int c
  · rename_i b c
    rw [of_decide_eq_true (show decide (b = c) = true from h)]; exact .str c
theorem dvsB_ok {K : PySem.W.Frag} {as : List Addr} {H : Hp} : ∀ {vs : List He.Dv} {ds : List D}, dvsB vs ds = true → Reps K as H (vs.map (He.Dv.v K)) ds
  | [], [], _ => .nil
  | [], _ :: _, h => by cases h
  | _ :: _, [], h => by cases h
  | v :: vs, d :: ds, h => by
    obtain ⟨h1, h2⟩ := band h
    exact .cons (dvB_ok h1) (dvsB_ok h2)
theorem dvsB_len : ∀ {vs : List He.Dv} {ds : List D}, dvsB vs ds = true → vs.length = ds.length
  | [], [], _ => rfl
  | [], _ :: _, h => by cases h
  | _ :: _, [], h => by cases h
  | v :: vs, d :: ds, h => congrArg (· + 1) (dvsB_len (band h).2)
/-- the scope is a plain def's -/
def scB (N P : List Str) (sc : Scope) : Bool := decide (sc.kind = .function) && (!sc.isCoroutine && (!sc.isGenerator && (decide N.Nodup && ((P.all fun x => isK sc x .local || isK sc x .cell) && (sc.names.all fun y => decide (y.2 ≠ .free))))))
theorem scB_ok {N : List Str} {sc : Scope} {n : Nat} (h : scB N (N.take n) sc = true) (hn : n ≤ N.length) : FnScope N (N.take n) sc := by
  obtain ⟨h1, h⟩ := band h
  obtain ⟨h2, h⟩ := band h
  obtain ⟨h3, h⟩ := band h
  obtain ⟨h4, h⟩ := band h
  obtain ⟨h5, h6⟩ := band h
  refine ⟨of_decide_eq_true h1, not_of h2, not_of h3, of_decide_eq_true h4, ?_, fun x hx => ?_, fun y hy => of_decide_eq_true (List.all_eq_true.mp h6 y hy)⟩
  · rw [List.length_take, Nat.min_eq_left hn]
  · rcases Bool.or_eq_true_iff.mp (List.all_eq_true.mp h5 x hx) with h | h
    · exact .inl (of_decide_eq_true h)
    · exact .inr (of_decide_eq_true h)
def Df.okB (T : Tab) (d : Df) : Bool := decide (d.dd.at_ = (d.dd.name, none)) && (d.dd.kwd.isEmpty && (decide (d.fc.np ≤ d.fc.names.length) && (scB d.fc.names (d.fc.names.take d.fc.np) d.dd.scope && (dvsB d.dd.dfl d.fc.dfl && chkB T d.fc.names d.fc.body d.dd.scope d.dd.body))))
/-- how its parameters are bound -/
def Df.bi (d : Df) : Prop := match d.dd.dfl with
  | [] => ∀ (kV doc pm : Value) (an : Option Addr) (cdv ct : Value) (us : List Value), us.length = (d.fc.names.take d.fc.np).length → bindArgs (PySem.W.fnOf d.dd.name d.dd.qual d.dd.params d.dd.body d.dd.scope .none kV doc pm an cdv ct) ⟨us, []⟩ = pure ((d.fc.names.take d.fc.np).zip us)
  | _ => ∀ m, m ≤ d.fc.np → d.fc.np - m ≤ d.dd.dfl.length → ∀ (T : Addr) (kV doc pm : Value) (an : Option Addr) (cdv ct : Value) (us its : List Value), us.length = m → its.length = d.dd.dfl.length →
      ∃ k, bindArgs (PySem.W.fnOf d.dd.name d.dd.qual d.dd.params d.dd.body d.dd.scope (.ref T) kV doc pm an cdv ct) ⟨us, []⟩ = seqItems? (.ref T) >>= k ∧ k (some its.toArray) = pure ((d.fc.names.take d.fc.np).zip (us ++ its.drop (d.dd.dfl.length - (d.fc.np - m))))
theorem Df.fnF {K : PySem.W.Frag} {T : Tab} {d : Df} {fd : FuncData} (ok : d.okB T = true) (bi : d.bi) (F : FunD K d.dd.name d.dd.qual d.dd.params d.dd.body d.dd.scope (d.dd.dvs K) (d.dd.kws K) (He.fAd K d.dd.at_) fd) (im : d.dd.name ∈ T.fns.map (·.1)) (tb : ∀ cc, fd.code = .ref cc → (He.tabOf K cc, fd.qualname ++ ".<locals>." ++ "<lambda>") ∈ tabsOf K) : FnF K T d.fc (He.ga K d.dd.name) fd := by
  obtain ⟨h1, h⟩ := band ok
  obtain ⟨h2, h⟩ := band h
  obtain ⟨h3, h⟩ := band h
  obtain ⟨h4, h⟩ := band h
  obtain ⟨h5, h6⟩ := band h
  have e1 := of_decide_eq_true h1
  have e2 : d.dd.kwd = [] := List.isEmpty_iff.mp h2
  have e3 : d.dd.kws K = [] := by unfold He.DefD.kws; rw [e2]; rfl
  have e4 : He.fAd K d.dd.at_ = He.ga K d.dd.name := by rw [e1]; rfl
  rw [e3, e4] at F
  have hn := of_decide_eq_true h3
  have hl := dvsB_len h5
  have hpl : (d.fc.names.take d.fc.np).length = d.fc.np := by rw [List.length_take, Nat.min_eq_left hn]
  refine ⟨⟨_, _, _, _, _, _, F, scB_ok h4 hn, hn, h6, fun as H => dvsB_ok h5, fun m m1 m2 => ?_⟩, F.kp, ⟨_, im, rfl⟩, tb⟩
  unfold Df.bi at bi
  cases e5 : d.dd.dfl with
  | nil =>
    rw [e5] at bi
    have e6 : d.dd.dvs K = [] := by unfold He.DefD.dvs; rw [e5]; rfl
    rw [e6] at F ⊢
    refine ⟨[], ?_, FunD.bindsN F fun kV doc pm an cdv ct us hl => bi kV doc pm an cdv ct us hl⟩
    rw [List.drop_nil]
    exact .nil
  | cons v vs =>
    rw [e5] at bi
    have e6 : (d.dd.dvs K).length = d.dd.dfl.length := by unfold He.DefD.dvs; rw [List.length_map]
    have ed : d.fc.dfl.length = (v :: vs).length := by rw [← hl, e5]
    refine FunD.binds1 F m (d.fc.dfl.length - (d.fc.np - m)) (fun z => ?_) ?_ fun T kV doc pm an cdv ct us its l1 l2 => ?_
    · rw [z, e5] at e6; cases e6
    · rw [e6, hl, hpl]; omega
    · rw [ed]
      refine bi m m1 (by rw [← ed]; exact m2) T kV doc pm an cdv ct us its l1 ?_
      rw [l2, e6, e5]

/-! ### exception classes -/
/-- an exception class: its name, its field, its __init__ -/
structure Xd where
  x : Str
  fo : Option Str
  dd : He.DefD
def Xd.ps (x : Xd) : List Str := "self" :: (match x.fo with
  | some f => [f]
  | none => [])
/-- how the parameters of a def without defaults are bound -/
def bindD (d : He.DefD) (ps : List Str) : Prop := ∀ (kV doc pm : Value) (an : Option Addr) (cdv ct : Value) (us : List Value), us.length = ps.length → bindArgs (PySem.W.fnOf d.name d.qual d.params d.body d.scope .none kV doc pm an cdv ct) ⟨us, []⟩ = pure (ps.zip us)
def plainD (d : He.DefD) : Bool := d.dfl.isEmpty && d.kwd.isEmpty
def Xd.okB (x : Xd) : Bool := decide (x.dd.at_ = ((x.x, some ("__init__" : Str)) : Str × Option Str)) && (plainD x.dd && (decide (excTab.lookup x.x = some x.fo) && (scB x.ps x.ps x.dd.scope && (glB x.dd.scope "TraceError" && (match x.fo with
  | some f => DX.isT1 x.x f x.dd.body && plainN f
  | none => DX.isT2 x.x x.dd.body)))))
def basOk (d : He.DefD) : Bool := decide (d.at_ = ((excBase, some ("__init__" : Str)) : Str × Option Str)) && (plainD d && (scB ["self", "class_name"] ["self", "class_name"] d.scope && (DX.isT0 d.body && glB d.scope "Exception")))
def tryOk (d : He.DefD) : Bool := decide (d.at_ = (("_law_try", none) : Str × Option Str) ∧ d.name = "_law_try") && (plainD d && (decide (d.qual = d.name) && (scB ["_law_ask", "_law_e"] ["_law_ask"] d.scope && (DX.tryBody "_law_field" d.body && (glB d.scope "TraceError" && (glB d.scope "_law_field" && isK d.scope "_law_e" .local))))))
def fldOk (d : He.DefD) : Bool := decide (d.at_ = (("_law_field", none) : Str × Option Str) ∧ d.name = "_law_field") && (plainD d && (scB ["_law_e", "_law_word"] ["_law_e", "_law_word"] d.scope && DX.chkFC "_law_e" "_law_word" fldLast fldL d.body))
theorem plain_fun {K : PySem.W.Frag} {d : He.DefD} {ps : List Str} {fd : FuncData} (h : plainD d = true) (bi : bindD d ps) (F : FunD K d.name d.qual d.params d.body d.scope (d.dvs K) (d.kws K) (He.fAd K d.at_) fd) : FunD K d.name d.qual d.params d.body d.scope [] [] (He.fAd K d.at_) fd ∧ Binds K fd ps [] := by
  obtain ⟨h1, h2⟩ := band h
  have e1 : d.dfl = [] := List.isEmpty_iff.mp h1
  have e2 : d.kwd = [] := List.isEmpty_iff.mp h2
  have e3 : d.kws K = [] := by unfold He.DefD.kws; rw [e2]; rfl
  have e4 : d.dvs K = [] := by unfold He.DefD.dvs; rw [e1]; rfl
  rw [e3, e4] at F
  exact ⟨F, FunD.bindsN F fun kV doc pm an cdv ct us hl => bi kV doc pm an cdv ct us hl⟩
/-! what the written part says of the classes -/
def clsDict (K : PySem.W.Frag) (C : Addr) : Bool := match K.lookup C with
  | some ⟨_, _, .cls cd, _⟩ => cd.hasDict
  | _ => false
def exClsB (K : PySem.W.Frag) (x : Str) : Bool :=
  known K x && (PySem.W.excInitIn K (He.ga K x) DX.exB "Exception.__new__" && (clsDict K (He.ga K x) && (He.eqO (PySem.W.findIn K (.ref (He.ga K x)) "__setattr__") (some (some (.builtin "object.__setattr__"))) &&
  (decide (PySem.W.subIn K (.ref (He.ga K x)) (.type "BaseException") = some true) && (decide (PySem.W.typeIn K (.ref (He.ga K x)) = some (.type "type")) && (PySem.W.keepIn K (.ref (He.ga K x)) && (xfB K (He.ga K x) &&
  (excFld.all (fun n => He.eqO (PySem.W.findIn K (.ref (He.ga K x)) n) (some none)) && ((excBase :: excTab.map (·.1)).all (fun h => !known K h || decide (PySem.W.exmOne K (.ref (He.ga K x)) (.ref (He.ga K h)) = some (catches h x))) &&
  (He.eqO (PySem.W.findIn K (.ref (He.ga K x)) "__init__") (some (some (.ref (He.ma K (He.ga K x) "__init__")))) && decide (PySem.W.typeIn K (.ref (He.ma K (He.ga K x) "__init__")) = some (.type "function"))))))))))))
theorem excObj_of {K : PySem.W.Frag} {C : Addr} (q : PySem.W.excInitIn K C DX.exB "Exception.__new__" = true) (hd : clsDict K C = true) : ∃ nm q N bs bm sn sub ab col dd k0 k1 k2 k3 k5, K.lookup C = some (excClassObj nm q C N bs bm true sn sub ab col dd k0 k1 k2 k3 k5 "Exception.__new__") ∧ PySem.W.excTail DX.exB bm = true := by
  unfold PySem.W.excInitIn at q
  unfold clsDict at hd
  split at q
  · rename_i dd cd sl ho
    rw [ho] at hd
    have hd : cd.hasDict = true := hd
    split at q
    · rename_i C' bm k0 k1 k2 k3 n k5 hm hs
      simp only [Bool.and_eq_true, beq_iff_eq, Bool.not_eq_true'] at q
      obtain ⟨⟨⟨q1, q2⟩, q3⟩, q4⟩ := q
      subst q1 q2
      obtain ⟨nm, bs, mro, ns, qn, hdc, sn, sub, ab, col, del⟩ := cd
      dsimp only at hm q3 hd
      subst hm q3 hd
      have es : sl = #[k0, k1, k2, k3, some (.builtin "Exception.__new__"), k5] := by
        obtain ⟨l⟩ := sl
        exact congrArg Array.mk hs
      subst es
      exact ⟨nm, qn, ns, bs, bm, sn, sub, ab, col, dd, k0, k1, k2, k3, k5, ho, q4⟩
    · cases q
  · cases q
structure ExCls (K : PySem.W.Frag) (x : Str) : Prop where
  knw : known K x = true
  exc : DX.ExcC K (He.ga K x)
  ok : ClsOk K x
  ini : PySem.W.findIn K (.ref (He.ga K x)) "__init__" = some (some (.ref (He.ma K (He.ga K x) "__init__")))
  ty : PySem.W.typeIn K (.ref (He.ma K (He.ga K x) "__init__")) = some (.type "function")
theorem exCls_of {K : PySem.W.Frag} {x : Str} (h : exClsB K x = true) : ExCls K x := by
  obtain ⟨h1, h⟩ := band h
  obtain ⟨h2, h⟩ := band h
  obtain ⟨h3, h⟩ := band h
  obtain ⟨h4, h⟩ := band h
  obtain ⟨h5, h⟩ := band h
  obtain ⟨h6, h⟩ := band h
  obtain ⟨h7, h⟩ := band h
  obtain ⟨h8, h⟩ := band h
  obtain ⟨h9, h⟩ := band h
  obtain ⟨h10, h⟩ := band h
  obtain ⟨h11, h12⟩ := band h
  refine ⟨h1, ⟨excObj_of h2 h3, He.eqO_ok h4, of_decide_eq_true h5, of_decide_eq_true h6, h7⟩, ⟨xfB_ok h8, fun n hn => He.eqO_ok (List.all_eq_true.mp h9 n hn), fun y hy hk => ?_⟩, He.eqO_ok h11, of_decide_eq_true h12⟩
  have := List.all_eq_true.mp h10 y hy
  rw [hk] at this
  exact of_decide_eq_true this
def basB (K : PySem.W.Frag) : Bool := known K excBase && (PySem.W.readsIn K (He.ga K excBase) (.type "type") && (He.eqO (PySem.W.specialIn K (.ref (He.ga K excBase)) "__getattribute__") (some (some (.builtin "type.__getattribute__"))) && ((match PySem.W.findCls K (.ref (He.ga K excBase)) (.type "type") "__init__" with
  | some (.val (.ref f)) => decide (f = He.ma K (He.ga K excBase) "__init__")
  | _ => false) && (PySem.W.keepIn K (.ref (He.ma K (He.ga K excBase) "__init__")) && He.eqO (PySem.W.nsIn K mainGlobals "Exception") (some none)))))
theorem bas_of {K : PySem.W.Frag} {h : Heap} {mg : Str → Option Value} (X : K.In h) (G : h.Ns mainGlobals mg) (b : basB K = true) : known K excBase = true ∧ DX.BaseC K mg (He.ga K excBase) (He.ma K (He.ga K excBase) "__init__") ∧ mg "Exception" = none := by
  obtain ⟨h1, b⟩ := band b
  obtain ⟨h2, b⟩ := band b
  obtain ⟨h3, b⟩ := band b
  obtain ⟨h4, b⟩ := band b
  obtain ⟨h5, h6⟩ := band b
  refine ⟨h1, ⟨He.glo_ok X G (x := excBase) h1, ⟨h2, He.eqO_ok h3⟩, ?_, h5⟩, PySem.W.mg_none_of X G (He.eqO_ok h6)⟩
  split at h4
  · rename_i f e
    rw [e, of_decide_eq_true h4]
  · cases h4

/-! ### the hook: what the module's names reach, and the class of all statics -/
def partY (g : Addr → Option Obj) (n : Nat) : PySem.W.Frag := He.frT g (He.asD g n ++ [cStatics])
def obsY (n : Nat) (fa : List He.Fa) (fn : List He.DefD) (tf : List He.Defn) (ex : PySem.W.Frag → Bool) (g : Addr → Option Obj) : He.AlX := (He.obsT fa fn [] (partY g n), ex (partY g n) && He.tabsB g tf (partY g n))
theorem saysY_of {n : Nat} {fa : List He.Fa} {fn : List He.DefD} {tf : List He.Defn} {ex : PySem.W.Frag → Bool} {w : World} {h : Heap} (e : obsY n fa fn tf ex h.get? = He.valX fn [] w) : He.SaysX fa fn [] tf ex w h (partY h.get? n) := by
  obtain ⟨h1, h2⟩ := band (congrArg (fun z : He.AlX => z.2) e)
  have key : ∀ p ∈ tf, PySem.W.codeHdIn (partY h.get? n) (He.cT (partY h.get? n) p).1 (He.cT (partY h.get? n) p).2 = true ∧ ∃ o, h.get? (He.cT (partY h.get? n) p).2 = some o ∧ He.emptyTab o = true := by
    intro p hp
    obtain ⟨a1, a2⟩ := band (List.all_eq_true.mp h2 p hp)
    cases q : h.get? (He.cT (partY h.get? n) p).2 with
    | none => rw [q] at a2; cases a2
    | some o => rw [q] at a2; exact ⟨a1, o, rfl, a2⟩
  refine ⟨congrArg (fun z : He.AlX => z.1) e, h1, fun p hp => (key p hp).1, fun p hp => ?_, fun p hp => ?_⟩
  · obtain ⟨_, o, q, z⟩ := key p hp
    exact He.frT_none q z
  · obtain ⟨_, o, q, z⟩ := key p hp
    rw [q, He.emptyTab_eq z]
def hookY (n : Nat) (fa : List He.Fa) (fn : List He.DefD) (tf : List He.Defn) (ex : PySem.W.Frag → Bool) : PySem.W.Hook where
  α := He.AlX
  obs := fun s => obsY n fa fn tf ex s.heap.get?
  val := fun w => He.valX fn [] w
  says := fun w h => ∃ K : PySem.W.Frag, K.In h ∧ He.SaysX fa fn [] tf ex w h K
  of := fun _ _ e => ⟨_, He.frT_in, saysY_of e⟩
  keeps := fun _ _ _ ⟨K, hK, c⟩ k => ⟨K, PySem.W.Frag.In.keeps hK k, ⟨c.t, c.more, c.hd, c.out, fun p hp => k _ _ (c.empty p hp)⟩⟩
theorem obsY_eq {n : Nat} {fa : List He.Fa} {fn : List He.DefD} {tf : List He.Defn} {ex : PySem.W.Frag → Bool} {g : Addr → Option Obj} {s : Shared} (h : ∀ a, g a = s.heap.get? a) : obsY n fa fn tf ex g = (hookY n fa fn tf ex).obs s := by
  have e : g = s.heap.get? := funext h
  rw [e]
  rfl

/-! ### the law -/
/-- what the generator prints of a law's text -/
structure Hd where
  Ds : List Df
  gl : List (Str × D)
  Xs : List Xd
  b0 : Option He.DefD
  lt : Option (He.DefD × He.DefD)
section
variable (L : Hd)
def tabOf : Tab := ⟨L.Ds.map fun d => (d.dd.name, d.fc), fun x => L.gl.lookup x, L.Xs.map (·.x), L.lt.isSome⟩
/-- the defs of the module -/
def mods : List He.DefD := L.Ds.map (·.dd) ++ (match L.lt with
  | some p => [p.1, p.2]
  | none => [])
def fas : List He.Fa := ((mods L).map fun d => He.Fa.glo d.name) ++ bltNames.map He.Fa.free
def fds : List He.DefD := mods L ++ (L.Xs.map (·.dd) ++ L.b0.toList)
def tfs : List He.Defn := (mods L).map fun d => (d.name, none)
def tq (K : PySem.W.Frag) (d : He.DefD) : Addr × Str := ((He.cT K (d.name, none)).2, d.qual ++ ".<locals>." ++ "<lambda>")
def tabChk (K : PySem.W.Frag) : Bool := (tabsOf K).all (fun p => ((mods L).map (tq K)).contains p) && ((mods L).all (fun d => (tabsOf K).contains (tq K d)) && (tabsOf K).all fun p => (tabsOf K).all fun q => !(p.1 == q.1) || (p.2 == q.2))
def moreB : PySem.W.Frag → Bool := fun K => L.gl.all (gloB K) && (L.Xs.all (fun x => exClsB K x.x) && ((L.Xs.isEmpty && L.lt.isNone || basB K) && tabChk L K))
abbrev hkOf : PySem.W.Hook := hookY 5 (fas L) (fds L) (tfs L) (moreB L)
def obOf (s : PySem.W.SharedT) : He.AlX := obsY 5 (fas L) (fds L) (tfs L) (moreB L) (HandSHeadRun.getT s)
theorem obOf_eq (s : PySem.W.SharedT) : obOf L s = (hkOf L).obs s.abs := obsY_eq (HandSHeadRun.getT_eq s)
/-- the checks by the text alone -/
structure HdOk : Prop where
  oks : (L.Ds.all fun d => d.okB (tabOf L)) = true
  bis : ∀ d ∈ L.Ds, d.bi
  xok : (L.Xs.all Xd.okB) = true
  xbi : ∀ x ∈ L.Xs, bindD x.dd x.ps
  bok : ∀ d ∈ L.b0, basOk d = true ∧ bindD d ["self", "class_name"]
  bne : L.Xs ≠ [] → ∃ d, L.b0 = some d
  lok : ∀ p ∈ L.lt, tryOk p.1 = true ∧ fldOk p.2 = true ∧ bindD p.1 ["_law_ask"] ∧ bindD p.2 ["_law_e", "_law_word"]
end
theorem look_map {Ds : List Df} {f : Str} {fc : Fc} (h : (Ds.map fun d => (d.dd.name, d.fc)).lookup f = some fc) : ∃ d ∈ Ds, d.dd.name = f ∧ d.fc = fc := by
  induction Ds with
  | nil => cases h
  | cons d Ds ih =>
    have h : (match f == d.dd.name with | true => some d.fc | false => (Ds.map fun d => (d.dd.name, d.fc)).lookup f) = some fc := h
    cases e : f == d.dd.name with
    | true =>
      rw [e] at h
      exact ⟨d, List.mem_cons_self, (eq_of_beq e).symm, Option.some.inj h⟩
    | false =>
      rw [e] at h
      obtain ⟨d', m, q⟩ := ih h
      exact ⟨d', List.mem_cons_of_mem _ m, q⟩
theorem look_mem {gl : List (Str × D)} {x : Str} {d : D} (h : gl.lookup x = some d) : (x, d) ∈ gl := PySem.mem_of_lookup h
theorem says_of {L : Hd} {w : World} {h h2 : Heap} {K : PySem.W.Frag} {mg : Str → Option Value} (X : K.In h) (G : h.Ns mainGlobals mg) (c : He.SaysX (fas L) (fds L) [] (tfs L) (moreB L) w h2 K) (O : HdOk L) : Says K mg (tabOf L) := by
  obtain ⟨m1, mm⟩ := band (show (L.gl.all (gloB K) && (L.Xs.all (fun x => exClsB K x.x) && ((L.Xs.isEmpty && L.lt.isNone || basB K) && tabChk L K))) = true from c.more)
  obtain ⟨m2, mm⟩ := band mm
  obtain ⟨m3, m4⟩ := band mm
  obtain ⟨t1, tt⟩ := band m4
  obtain ⟨t2, t3⟩ := band tt
  have inM : ∀ d ∈ L.Ds, d.dd ∈ mods L := fun d hd => List.mem_append_left _ (List.mem_map.mpr ⟨d, hd, rfl⟩)
  have glo : ∀ d ∈ mods L, mg d.name = some (.ref (He.ga K d.name)) := fun d hd => He.glo_ok X G (c.t.d.facts (f := .glo d.name) (List.mem_append_left _ (List.mem_map.mpr ⟨d, hd, rfl⟩)))
  have tabM : ∀ d ∈ mods L, d.at_ = (d.name, none) → ∀ (fd : FuncData) (dvs : List V) (kws : List (Str × V)), FunD K d.name d.qual d.params d.body d.scope dvs kws (He.fAd K d.at_) fd → ∀ cc, fd.code = .ref cc → (He.tabOf K cc, fd.qualname ++ ".<locals>." ++ "<lambda>") ∈ tabsOf K := fun d hd e fd dvs kws F cc ec => by
    have h1 := List.contains_iff_mem.mp (List.all_eq_true.mp t2 d hd)
    obtain ⟨oc, od, dV, kV, doc, pm, an, cdv, ct, osl, rfl, lk, hcd, _, _⟩ := F.ex
    have ec : cdv = .ref cc := ec
    subst ec
    rw [e] at lk
    have e2 := He.codeOf_eq lk (c := cc) rfl
    unfold tq He.cT at h1
    rw [e2] at h1
    exact h1
  exact {
    fns := fun f fc hf => by
      obtain ⟨d, hd, rfl, rfl⟩ := look_map hf
      obtain ⟨fd, F⟩ := c.t.d.defs (d := d.dd) (List.mem_append_left _ (inM d hd))
      have okd := List.all_eq_true.mp O.oks d hd
      have e1 := of_decide_eq_true (band okd).1
      exact ⟨_, fd, glo _ (inM d hd), Df.fnF okd (O.bis d hd) F (List.mem_map.mpr ⟨_, List.mem_map.mpr ⟨d, hd, rfl⟩, rfl⟩) (tabM _ (inM d hd) e1 fd _ _ F)⟩
    glo := fun x d hx => by
      have h1 := List.all_eq_true.mp m1 _ (look_mem hx)
      unfold gloB at h1
      split at h1
      · rename_i u e
        obtain ⟨v, g1, g2⟩ := cstB_ok u d h1
        exact ⟨v, u, PySem.W.mg_of X G e, g1, g2⟩
      · cases h1
    blt := fun x hx => He.free_ok X G (c.t.d.facts (f := .free x) (List.mem_append_right _ (List.mem_map.mpr ⟨x, hx, rfl⟩)))
    exc := fun x hx => by
      obtain ⟨y, hy, rfl⟩ := List.mem_map.mp hx
      have E := exCls_of (List.all_eq_true.mp m2 y hy)
      obtain ⟨k1, kk⟩ := band (List.all_eq_true.mp O.xok y hy)
      obtain ⟨k2, kk⟩ := band kk
      obtain ⟨k3, kk⟩ := band kk
      obtain ⟨k4, kk⟩ := band kk
      obtain ⟨k5, k6⟩ := band kk
      obtain ⟨fd, F⟩ := c.t.d.defs (d := y.dd) (List.mem_append_right _ (List.mem_append_left _ (List.mem_map.mpr ⟨y, hy, rfl⟩)))
      obtain ⟨F1, B1⟩ := plain_fun k2 (O.xbi y hy) F
      have ea : He.fAd K y.dd.at_ = He.ma K (He.ga K y.x) "__init__" := by rw [of_decide_eq_true k1]; rfl
      rw [ea] at F1
      have S := scB_ok (n := y.ps.length) (by rw [List.take_length]; exact k4) (Nat.le_refl _)
      rw [List.take_length] at S
      refine ⟨y.fo, _, fd, _, _, _, _, _, of_decide_eq_true k3, E.knw, He.glo_ok X G (x := y.x) E.knw, E.exc, E.ok, E.ini, E.ty, F1, k5, ?_⟩
      unfold Xd.ps at S B1
      cases e : y.fo with
      | some f =>
        rw [e] at k6 S B1
        obtain ⟨g1, g2⟩ := band k6
        exact ⟨S, g1, B1, g2⟩
      | none =>
        rw [e] at k6 S B1
        exact ⟨S, k6, B1⟩
    bas := fun ne => by
      have nx : L.Xs ≠ [] := fun z => ne (by show L.Xs.map (·.x) = []; rw [z]; rfl)
      obtain ⟨d, e0⟩ := O.bne nx
      have hd : d ∈ L.b0 := by rw [e0]; rfl
      obtain ⟨k0, bi⟩ := O.bok d hd
      have bb : basB K = true := by
        rcases Bool.or_eq_true_iff.mp m3 with z | z
        · exact absurd (List.isEmpty_iff.mp (band z).1) nx
        · exact z
      obtain ⟨b1, b2, b3⟩ := bas_of X G bb
      obtain ⟨k1, kk⟩ := band k0
      obtain ⟨k2, kk⟩ := band kk
      obtain ⟨k3, kk⟩ := band kk
      obtain ⟨k4, k5⟩ := band kk
      obtain ⟨fd, F⟩ := c.t.d.defs (d := d) (List.mem_append_right _ (List.mem_append_right _ (by rw [e0]; exact List.mem_singleton.mpr rfl)))
      obtain ⟨F1, B1⟩ := plain_fun k2 bi F
      have ea : He.fAd K d.at_ = He.ma K (He.ga K excBase) "__init__" := by rw [of_decide_eq_true k1]; rfl
      rw [ea] at F1
      exact ⟨_, fd, _, _, _, _, _, b1, b2, F1, scB_ok (n := 2) k3 (Nat.le_refl _), k4, k5, b3, B1⟩
    try_ := fun hl => by
      cases e : L.lt with
      | none =>
        have hl : L.lt.isSome = true := hl
        rw [e] at hl; cases hl
      | some p =>
        obtain ⟨o1, o2, bi1, bi2⟩ := O.lok p (by rw [e]; rfl)
        have bb : basB K = true := by
          rcases Bool.or_eq_true_iff.mp m3 with z | z
          · have := (band z).2
            rw [e] at this; cases this
          · exact z
        obtain ⟨b1, b2, b3⟩ := bas_of X G bb
        have i1 : p.1 ∈ mods L := List.mem_append_right _ (by rw [e]; exact List.mem_cons_self)
        have i2 : p.2 ∈ mods L := List.mem_append_right _ (by rw [e]; exact List.mem_cons_of_mem _ List.mem_cons_self)
        obtain ⟨k1, kk⟩ := band o1
        obtain ⟨k2, kk⟩ := band kk
        obtain ⟨k3, kk⟩ := band kk
        obtain ⟨k4, kk⟩ := band kk
        obtain ⟨k5, kk⟩ := band kk
        obtain ⟨k6, kk⟩ := band kk
        obtain ⟨k7, k8⟩ := band kk
        obtain ⟨q1, qq⟩ := band o2
        obtain ⟨q2, qq⟩ := band qq
        obtain ⟨q3, q4⟩ := band qq
        obtain ⟨fd, F⟩ := c.t.d.defs (d := p.1) (List.mem_append_left _ i1)
        obtain ⟨ff, G2⟩ := c.t.d.defs (d := p.2) (List.mem_append_left _ i2)
        obtain ⟨F1, B1⟩ := plain_fun k2 bi1 F
        obtain ⟨F2, B2⟩ := plain_fun q2 bi2 G2
        obtain ⟨e1, n1⟩ := of_decide_eq_true k1
        obtain ⟨e2, n2⟩ := of_decide_eq_true q1
        have a1 : He.fAd K p.1.at_ = He.ga K "_law_try" := by rw [e1]; rfl
        have a2 : He.fAd K p.2.at_ = He.ga K "_law_field" := by rw [e2]; rfl
        rw [a1] at F1
        rw [a2] at F2
        rw [of_decide_eq_true k3] at F1
        refine ⟨b1, _, fd, ?_, ⟨_, _, _, _, F1, scB_ok (n := 1) k4 (by decide), k5, k6, k7, of_decide_eq_true k8⟩, B1, ⟨_, ff, ?_, ⟨_, _, _, _, _, F2, scB_ok (n := 2) q3 (Nat.le_refl _), q4⟩, B2, by decide +kernel, by decide +kernel⟩, b2.at_⟩
        · have := glo p.1 i1
          rw [n1] at this
          exact this
        · have := glo p.2 i2
          rw [n2] at this
          exact this
    uniq := fun p hp q hq e => by
      have := List.all_eq_true.mp (List.all_eq_true.mp t3 p hp) q hq
      rcases Bool.or_eq_true_iff.mp this with z | z
      · rw [beq_iff_eq.mpr e] at z; cases z
      · exact beq_iff_eq.mp z }
/-- the pure law: what the law's def means, at every script -/
def PureLaw (T : Tab) (Wf k : Nat) (f : Str) (n : Nat) : Prop := ∀ ns : List Int, ns.length ≤ n → (∀ z ∈ ns, Builtin.Int.intBits z ≤ 1048576) → ∃ S, runF T Wf k f [.kls (ns.map .int)] [] = .ok (.bl true) S
theorem ints_reps {K : PySem.W.Frag} {as : List Addr} {H : Hp} : ∀ ns : List Int, Reps K as H (ns.map V.int) (ns.map .int)
  | [] => .nil
  | n :: ns => .cons (.int n) (ints_reps ns)
/-- the script's list stands locked, or it may be locked -/
def spZ (K : PySem.W.Frag) (F : Str → List D → Sto → Out D) (f : Str) : Sp := fun vs H Q E => (E = fun _ _ _ => False) ∧ ∃ (a : Addr) (xs : List V), vs = [.ref a] ∧ ((SqF K H a xs ∧ spF K F 1 f vs H Q E) ∨ (H a = some (.lst xs) ∧ ∀ o, spF K F 1 f vs (upd H a (.frz o (.lst xs))) Q E))
theorem fnZ {P : Program} {w : World} {K : PySem.W.Frag} {mg : Str → Option Value} {base : Heap} {k : Nat} {fa : Addr} {fd : FuncData} {x f : Str} {F : Str → List D → Sto → Out D} (FO : FnOk P w K mg base (L2N.CX P w) k fa fd [x] (spF K F 1 f)) : FnOk P w K mg base (L2N.CX P w) k fa fd [x] (spZ K F f) where
  len := fun vs H Q E h => by
    obtain ⟨_, a, xs, rfl, _⟩ := h
    rfl
  run := fun A outer s H args us vs Q E hr e0 hb hv h => by
    obtain ⟨eE, a, xs, rfl, h | h⟩ := h
    · exact FO.run A outer s H args us _ Q E hr e0 hb hv h.2
    · obtain ⟨hH, hs⟩ := h
      obtain ⟨hl, its, n, hvs, hg⟩ := (show xs.length ≤ sizeLine ∧ ∃ (its : List Value) (n : Nat), Vals xs its ∧ s.heap.get? a = some { cls := .type "list", data := .seq its.toArray n } from e0.hok a _ hH)
      let o : Obj := { cls := .type "list", data := .seq its.toArray n }
      let H2 := upd H a (.frz o (.lst xs))
      have nz : ∀ {b}, H b = none → H2 b = none := fun {b} z => by
        show upd H a _ b = none
        rw [upd_ne fun q => by rw [q, hH] at z; cases z]
        exact z
      have ne : ∀ {b u}, H b = some u → (∀ ys, u ≠ .lst ys) → H2 b = some u := fun {b u} z y => by
        show upd H a _ b = some u
        rw [upd_ne fun q => by rw [q, hH] at z; exact y xs (Option.some.inj z).symm]
        exact z
      have ok2 : HOk P w H2 s.heap := fun b u z => by
        by_cases hb : b = a
        · subst hb
          have z : upd H b (.frz o (.lst xs)) b = some u := z
          rw [upd_same] at z
          cases z
          exact ⟨hg, hl, its, n, hvs, hg⟩
        · have z : upd H a (.frz o (.lst xs)) b = some u := z
          rw [upd_ne hb] at z
          exact (e0.hok b u z).stay (fun c v _ e => e) (fun c hc => ne hc (fun _ q => nomatch q)) (fun c ys hc => ne hc (fun _ q => nomatch q))
      have e2 : Env0 P w K mg base A outer s H2 := ⟨e0.frames, e0.mod, fun b o' e => ⟨(e0.bs b o' e).1, nz (e0.bs b o' e).2⟩, e0.bsz, e0.funs, fun b hb => nz (e0.frf b hb), ok2, e0.bare⟩
      refine codeAny_mono (FO.run A outer s H2 args us _ Q E hr e2 hb hv (hs o)) fun r s' hq => ?_
      cases r with
      | error e =>
        rw [eE] at hq
        obtain ⟨_, _, _, _, _, _, _, _, _, _, _, _, z⟩ := hq
        exact z.elim
      | ok fl =>
        cases fl with
        | ret u =>
          obtain ⟨v, H', os, bare, un, hok', rv, q⟩ := hq
          refine ⟨v, H', os, bare, ⟨fun b o' e z => un.keep b o' e (nz z), fun b o' e z => un.slot b o' e (nz z), fun b o' e z => un.free b o' e (nz z), un.there, fun b ys z => un.tups b ys (ne z (fun _ q => nomatch q)), fun b o' u z => un.frzs b o' u (ne z (fun _ q => nomatch q)), fun b ps z => un.tbls b ps (ne z (fun _ q => nomatch q))⟩, hok', rv, q⟩
        | next => exact hq
        | brk => exact hq
        | cont => exact hq
theorem walk_of {l : PySem.W.OpenLaw} {n k Wf : Nat} {q : Program} {loose : List Str} {XP : (Str → Option Value) → Heap → Prop} {d : DefRec} {x : Str} {L : Hd} (dl : Df) (O : HdOk L)
    (hn : l.most = some n) (hn2 : n ≤ sizeLine) (hdf : d.params.defaults = []) (hr : Room (lev k) callerA) (hdl : dl ∈ L.Ds) (hname : d.name = dl.dd.name) (hget : (tabOf L).get dl.dd.name = some dl.fc) (hnames : dl.fc.names.take dl.fc.np = [x]) (hnp : dl.fc.np = 1) (hd0 : dl.dd.dfl = [])
    (pure_ : PureLaw (tabOf L) Wf k dl.dd.name n) : PySem.W.WalkO q loose XP (hkOf L).says l.row.toRowW d [] (fun f vs => PySem.call f vs) := by
  refine Att.attach_callB hn hdf fun w s₀ s₁ mg mb fa o pm cd doc a vs ns G Y ho hd hcd hmg hobj hints hlen hbits hg => ?_
  obtain ⟨K, KX, c⟩ := Y
  have Sy := says_of KX G.T.g c O
  obtain ⟨a', fd, h1, F⟩ := Sy.fns _ _ hget
  have e : fa = a' := by
    rw [hname, h1] at hmg
    cases hmg
    rfl
  subst e
  have okd := List.all_eq_true.mp O.oks dl hdl
  have hb : ∀ (s : Shared) (u : Value), BindsTo s fd ⟨[u], []⟩ [(x, u)] := by
    intro s u
    obtain ⟨fd2, F2⟩ := c.t.d.defs (d := dl.dd) (List.mem_append_left _ (List.mem_append_left _ (List.mem_map.mpr ⟨dl, hdl, rfl⟩)))
    obtain ⟨q1, okd⟩ := band okd
    obtain ⟨q2, okd⟩ := band okd
    have e1 := of_decide_eq_true q1
    have e2 : dl.dd.kwd = [] := List.isEmpty_iff.mp q2
    have e3 : dl.dd.kws K = [] := by unfold He.DefD.kws; rw [e2]; rfl
    have e6 : dl.dd.dvs K = [] := by unfold He.DefD.dvs; rw [hd0]; rfl
    have e4 : He.fAd K dl.dd.at_ = He.ga K dl.dd.name := by rw [e1]; rfl
    have e5 : mg dl.dd.name = some (.ref (He.ga K dl.dd.name)) := He.glo_ok KX G.T.g (c.t.d.facts (f := .glo dl.dd.name) (List.mem_append_left _ (List.mem_map.mpr ⟨dl.dd, List.mem_append_left _ (List.mem_map.mpr ⟨dl, hdl, rfl⟩), rfl⟩)))
    rw [h1] at e5
    cases e5
    rw [e3, e4, e6] at F2
    obtain ⟨_, _, _, _, _, _, F1, _⟩ := F.ex
    have efd : fd2 = fd := by
      obtain ⟨_, _, _, _, _, _, _, _, _, _, _, lk2, _⟩ := F2.ex
      obtain ⟨_, _, _, _, _, _, _, _, _, _, _, lk1, _⟩ := F1.ex
      rw [lk2] at lk1
      cases lk1
      rfl
    subst efd
    have b := O.bis dl hdl
    unfold Df.bi at b
    rw [hd0] at b
    have := FunD.bindsA (ps := [x]) F2 (fun kV doc pm an cdv ct us hl => by
      have := b kV doc pm an cdv ct us (by rw [hnames]; exact hl)
      rw [hnames] at this
      exact this) s [u] rfl
    exact this
  have mem_of : ∀ p ∈ (tfs L).map (He.cT K), ∃ t ∈ tfs L, p = He.cT K t := fun p hp => by
    obtain ⟨t, ht, e⟩ := List.mem_map.mp hp
    exact ⟨t, ht, e.symm⟩
  have tabT : ∀ p ∈ tabsOf K, ∃ r ∈ (tfs L).map (He.cT K), p.1 = r.2 := fun p hp => by
    obtain ⟨m1, mm⟩ := band (show (L.gl.all (gloB K) && (L.Xs.all (fun x => exClsB K x.x) && ((L.Xs.isEmpty && L.lt.isNone || basB K) && tabChk L K))) = true from c.more)
    obtain ⟨m2, mm⟩ := band mm
    obtain ⟨m3, m4⟩ := band mm
    obtain ⟨t1, _⟩ := band m4
    have := List.contains_iff_mem.mp (List.all_eq_true.mp t1 p hp)
    obtain ⟨d, hd, e⟩ := List.mem_map.mp this
    exact ⟨He.cT K (d.name, none), List.mem_map.mpr ⟨_, List.mem_map.mpr ⟨d, hd, rfl⟩, rfl⟩, by rw [← e]; rfl⟩
  refine LamX.law_callTs (CX := L2N.CX l.prog w) (k := lev k) (cs := (tfs L).map (He.cT K)) (sp := spZ K (runF (tabOf L) Wf k) dl.dd.name) (x := x) KX G.T.g G.T.b G.T.builtins G.T.nolimit hg ?_ ?_ ?_ G.T.bmain hobj hints (Nat.le_trans hlen hn2) hr (fun base hb1 hb2 HT => ?_) hb (fun H hT hS => ?_) fun H e s' hc => ?_
  · intro p hp
    obtain ⟨t, ht, rfl⟩ := mem_of p hp
    exact c.empty t ht
  · intro p hp
    obtain ⟨t, ht, rfl⟩ := mem_of p hp
    exact c.out t ht
  · intro p hp
    obtain ⟨t, ht, rfl⟩ := mem_of p hp
    exact PySem.W.codeHd_of_K KX (c.hd t ht)
  · have := fn_ok (P := l.prog) (w := w) (base := base) (Wf := Wf) Sy (fun dn hdn => HT _ (List.mem_map.mpr ⟨(dn, none), by
      obtain ⟨p, hp, rfl⟩ := List.mem_map.mp hdn
      obtain ⟨d0, hd0', rfl⟩ := List.mem_map.mp (show p ∈ L.Ds.map fun d => (d.dd.name, d.fc) from hp)
      exact List.mem_map.mpr ⟨d0.dd, List.mem_append_left _ (List.mem_map.mpr ⟨d0, hd0', rfl⟩), rfl⟩, rfl⟩)) k dl.dd.name dl.fc fa fd hget F
    rw [hnames, hnp] at this
    exact fnZ this
  · obtain ⟨S, hS2⟩ := pure_ ns hlen hbits
    have tb : ∀ H2 : Hp, (∀ p ∈ (tfs L).map (He.cT K), H2 p.2 = some (.tbl #[])) → LamX.Tabs (tabsOf K) H2 := fun H2 h p hp => by
      obtain ⟨r, hr, e⟩ := tabT p hp
      rw [e]
      exact LamX.TabS.nil (h r hr)
    have fin : ∀ H2 : Hp, SqF K H2 a (ns.map V.int) → (∀ p ∈ (tfs L).map (He.cT K), H2 p.2 = some (.tbl #[])) → spF K (runF (tabOf L) Wf k) 1 dl.dd.name [.ref a] H2 (fun v _ => v = .bl true) fun _ _ _ => False := fun H2 hF ht => by
      refine ⟨[], [], [.kls (ns.map .int)], ⟨rfl, List.nodup_nil, (fun n o e => by simp at e), tb H2 ht⟩, .cons (.kls hF (ints_reps ns)) .nil, rfl, ?_⟩
      rw [hS2]
      intro v as' H' w' so' r'
      cases r'
      rfl
    refine ⟨rfl, a, ns.map V.int, rfl, ?_⟩
    rcases hS with (hS | ⟨ob, hS⟩) | hS
    · refine .inr ⟨hS, fun ob => fin _ (.inl ⟨ob, upd_same⟩) fun p hp => ?_⟩
      rw [upd_ne fun q => by have := hT p hp; rw [q, hS] at this; cases this]
      exact hT p hp
    · exact .inl ⟨.inl ⟨ob, hS⟩, fin H (.inl ⟨ob, hS⟩) hT⟩
    · exact .inl ⟨.inr hS, fin H (.inr hS) hT⟩
  · obtain ⟨_, _, _, _, _, _, _, _, _, _, _, _, z⟩ := hc
    exact z.elim
end DI

/-! P1: what a text means, step by step. -/
namespace DI
open PySem

/-- a result in Q, or an exception in X -/
def OkX {α : Type} (X : Exn → Sto → Prop) (o : Out α) (Q : α → Sto → Prop) : Prop := match o with
  | .ok a S => Q a S
  | .ex x S => X x S
  | .bad => False
abbrev Ok {α : Type} (o : Out α) (Q : α → Sto → Prop) : Prop := OkX (fun _ _ => False) o Q
@[simp] theorem Ok_ok {α : Type} {X : Exn → Sto → Prop} (a : α) (S : Sto) (Q : α → Sto → Prop) : OkX X (.ok a S) Q ↔ Q a S := Iff.rfl
@[simp] theorem Ok_ex {α : Type} {X : Exn → Sto → Prop} (x : Exn) (S : Sto) (Q : α → Sto → Prop) : OkX X (.ex x S) Q ↔ X x S := Iff.rfl
@[simp] theorem Ok_bad {α : Type} {X : Exn → Sto → Prop} (Q : α → Sto → Prop) : OkX X (.bad : Out α) Q ↔ False := Iff.rfl
theorem Ok_bind {α β : Type} {X : Exn → Sto → Prop} (o : Out α) (f : α → Sto → Out β) (Q : β → Sto → Prop) : OkX X (o.bind f) Q ↔ OkX X o fun a S => OkX X (f a S) Q := by cases o <;> exact Iff.rfl
theorem Ok_noex {α : Type} {X : Exn → Sto → Prop} (o : Out α) (Q : α → Sto → Prop) : OkX X o.noex Q ↔ Ok o Q := by cases o <;> exact Iff.rfl
theorem OkX.mono {α : Type} {X : Exn → Sto → Prop} {o : Out α} {Q Q' : α → Sto → Prop} (h : OkX X o Q) (k : ∀ a S, Q a S → Q' a S) : OkX X o Q' := by
  cases o with
  | ok a S => exact k a S h
  | ex x S => exact h
  | bad => exact h
theorem OkX.mono2 {α : Type} {X X' : Exn → Sto → Prop} {o : Out α} {Q Q' : α → Sto → Prop} (h : OkX X o Q) (k : ∀ a S, Q a S → Q' a S) (kx : ∀ x S, X x S → X' x S) : OkX X' o Q' := by
  cases o with
  | ok a S => exact k a S h
  | ex x S => exact kx x S h
  | bad => exact h
theorem Ok.mono {α : Type} {X : Exn → Sto → Prop} {o : Out α} {Q Q' : α → Sto → Prop} (h : Ok o Q) (k : ∀ a S, Q a S → Q' a S) : OkX X o Q' := OkX.mono2 h k fun _ _ h => h.elim
theorem Ok.up {α : Type} {X : Exn → Sto → Prop} {o : Out α} {Q : α → Sto → Prop} (h : Ok o Q) : OkX X o Q := Ok.mono h fun _ _ h => h
theorem Ok.eq {α : Type} {o : Out α} {Q : α → Sto → Prop} (h : Ok o Q) : ∃ a S, o = .ok a S ∧ Q a S := by
  cases o with
  | ok a S => exact ⟨a, S, rfl, h⟩
  | ex x S => exact False.elim h
  | bad => exact False.elim h
theorem Ok_ite {α : Type} {X : Exn → Sto → Prop} {c : Prop} [Decidable c] (o : Out α) (Q : α → Sto → Prop) : OkX X (if c then o else .bad) Q ↔ c ∧ OkX X o Q := by
  by_cases h : c <;> simp [h]
theorem Ok_if {α : Type} {X : Exn → Sto → Prop} {c : Prop} [Decidable c] (o p : Out α) (Q : α → Sto → Prop) : OkX X (if c then o else p) Q ↔ (c → OkX X o Q) ∧ (¬ c → OkX X p Q) := by
  by_cases h : c <;> simp [h]

structure Wn where
  nx : Env → Sto → Prop := fun _ _ => False
  rt : D → Sto → Prop := fun _ _ => False
  bk : Env → Sto → Prop := fun _ _ => False
  ct : Env → Sto → Prop := fun _ _ => False
  ex : Exn → Env → Sto → Prop := fun _ _ _ => False
def OkS (o : SOut) (w : Wn) : Prop := match o with
  | .nx e S => w.nx e S
  | .rt d S => w.rt d S
  | .bk e S => w.bk e S
  | .ct e S => w.ct e S
  | .ex x e S => w.ex x e S
  | .bad => False
@[simp] theorem OkS_nx (e : Env) (S : Sto) (w : Wn) : OkS (.nx e S) w ↔ w.nx e S := Iff.rfl
@[simp] theorem OkS_rt (e : D) (S : Sto) (w : Wn) : OkS (.rt e S) w ↔ w.rt e S := Iff.rfl
@[simp] theorem OkS_bk (e : Env) (S : Sto) (w : Wn) : OkS (.bk e S) w ↔ w.bk e S := Iff.rfl
@[simp] theorem OkS_ct (e : Env) (S : Sto) (w : Wn) : OkS (.ct e S) w ↔ w.ct e S := Iff.rfl
@[simp] theorem OkS_ex (x : Exn) (e : Env) (S : Sto) (w : Wn) : OkS (.ex x e S) w ↔ w.ex x e S := Iff.rfl
@[simp] theorem OkS_bad (w : Wn) : OkS .bad w ↔ False := Iff.rfl
theorem OkS_go {α : Type} (o : Out α) (env : Env) (f : α → Sto → SOut) (w : Wn) : OkS (o.go env f) w ↔ OkX (fun x S => w.ex x env S) o fun a S => OkS (f a S) w := by cases o <;> exact Iff.rfl
theorem OkS_ite {c : Prop} [Decidable c] (o : SOut) (w : Wn) : OkS (if c then o else .bad) w ↔ c ∧ OkS o w := by
  by_cases h : c <;> simp [h]
theorem OkS_if {c : Prop} [Decidable c] (o p : SOut) (w : Wn) : OkS (if c then o else p) w ↔ (c → OkS o w) ∧ (¬ c → OkS p w) := by
  by_cases h : c <;> simp [h]
theorem Ok_out {X : Exn → Sto → Prop} (o : SOut) (Q : D → Sto → Prop) : OkX X o.out Q ↔ OkS o { nx := fun _ S => Q .non S, rt := Q, ex := fun x _ S => X x S } := by cases o <;> exact Iff.rfl
theorem OkS.mono {o : SOut} {w w' : Wn} (h : OkS o w) (k1 : ∀ e S, w.nx e S → w'.nx e S) (k2 : ∀ e S, w.rt e S → w'.rt e S) (k3 : ∀ e S, w.bk e S → w'.bk e S) (k4 : ∀ e S, w.ct e S → w'.ct e S) (k5 : ∀ x e S, w.ex x e S → w'.ex x e S := by exact fun _ _ _ h => h) : OkS o w' := by
  cases o with
  | nx e S => exact k1 e S h
  | rt e S => exact k2 e S h
  | bk e S => exact k3 e S h
  | ct e S => exact k4 e S h
  | ex x e S => exact k5 x e S h
  | bad => exact h
theorem OkS_set (t : T) (d : D) (env : Env) (f : Env → SOut) (w : Wn) : OkS (setO t d env f) w ↔ ∃ e, setT t d env = some e ∧ OkS (f e) w := by
  unfold setO
  cases setT t d env <;> simp

/-! ### terms -/
section
variable {X : Exn → Sto → Prop} (c : Cfg) (env : Env) (S : Sto) (Q : D → Sto → Prop)
theorem w_var (i : Nat) : OkX X (evE c (.var i) env S) Q ↔ ∃ d, env[i]? = some (some d) ∧ Q d S := by
  show OkX X (match env[i]? with | some (some d) => .ok d S | _ => .bad) Q ↔ _
  split
  · rename_i d e; simp [e]
  · rename_i h
    simp only [Ok_bad, false_iff, not_exists, not_and]
    intro d e
    exact absurd e (h d)
theorem w_glo (x : Str) : OkX X (evE c (.glo x) env S) Q ↔ ∃ d, c.G x = some d ∧ Q d S := by
  show OkX X (match c.G x with | some d => .ok d S | none => .bad) Q ↔ _
  cases c.G x <;> simp
theorem w_bt (x : Str) (n : String) : OkX X (evE c (.bt x n) env S) Q ↔ Q (.bty n) S := Iff.rfl
theorem w_int (i : Int) : OkX X (evE c (.int i) env S) Q ↔ Q (.int i) S := Iff.rfl
theorem w_str (i : Str) : OkX X (evE c (.str i) env S) Q ↔ Q (.str i) S := Iff.rfl
theorem w_bl (i : Bool) : OkX X (evE c (.bl i) env S) Q ↔ Q (.bl i) S := Iff.rfl
theorem w_non : OkX X (evE c .non env S) Q ↔ Q .non S := Iff.rfl
theorem w_bin (o : Bop) (a b : E) : OkX X (evE c (.bin o a b) env S) Q ↔ OkX X (evE c a env S) fun x S => OkX X (evE c b env S) fun y S => OkX X (binD o x y S) Q := by
  show OkX X ((evE c a env S).bind fun x S => (evE c b env S).bind fun y S => binD o x y S) Q ↔ _
  simp only [Ok_bind]
theorem w_neg (a : E) : OkX X (evE c (.neg a) env S) Q ↔ OkX X (evE c a env S) fun x S => OkX X (negD x S) Q := Ok_bind _ _ _
theorem w_cmp (o : Cop) (a b : E) : OkX X (evE c (.cmp o a b) env S) Q ↔ OkX X (evE c a env S) fun x S => OkX X (evE c b env S) fun y S => OkX X (cmpD o x y S) Q := by
  show OkX X ((evE c a env S).bind fun x S => (evE c b env S).bind fun y S => cmpD o x y S) Q ↔ _
  simp only [Ok_bind]
theorem w_andV (a b : E) : OkX X (evE c (.andV a b) env S) Q ↔ OkX X (evE c a env S) fun x S => ∃ k, x = .bl k ∧ (k = true → OkX X (evE c b env S) Q) ∧ (k = false → Q (.bl false) S) := by
  show OkX X ((evE c a env S).bind fun x S => match x with
    | .bl true => evE c b env S
    | .bl false => .ok (.bl false) S
    | _ => .bad) Q ↔ _
  rw [Ok_bind]
  constructor
  all_goals
    refine fun h => h.mono fun x S h => ?_
  · cases x with
    | bl k => refine ⟨k, rfl, ?_⟩; cases k <;> simpa using h
    | _ => exact h.elim
  · obtain ⟨k, rfl, h1, h2⟩ := h
    cases k
    · exact h2 rfl
    · exact h1 rfl
theorem w_orV (a b : E) : OkX X (evE c (.orV a b) env S) Q ↔ OkX X (evE c a env S) fun x S => ∃ k, x = .bl k ∧ (k = true → Q (.bl true) S) ∧ (k = false → OkX X (evE c b env S) Q) := by
  show OkX X ((evE c a env S).bind fun x S => match x with
    | .bl true => .ok (.bl true) S
    | .bl false => evE c b env S
    | _ => .bad) Q ↔ _
  rw [Ok_bind]
  constructor
  all_goals
    refine fun h => h.mono fun x S h => ?_
  · cases x with
    | bl k => refine ⟨k, rfl, ?_⟩; cases k <;> simpa using h
    | _ => exact h.elim
  · obtain ⟨k, rfl, h1, h2⟩ := h
    cases k
    · exact h2 rfl
    · exact h1 rfl
theorem w_notV (a : E) : OkX X (evE c (.notV a) env S) Q ↔ OkX X (evE c a env S) fun x S => ∃ k, x = .bl k ∧ Q (.bl !k) S := by
  show OkX X ((evE c a env S).bind fun x S => match x with
    | .bl b => .ok (.bl (!b)) S
    | _ => .bad) Q ↔ _
  rw [Ok_bind]
  constructor
  all_goals
    refine fun h => h.mono fun x S h => ?_
  · cases x with
    | bl k => exact ⟨k, rfl, h⟩
    | _ => exact h.elim
  · obtain ⟨k, rfl, h⟩ := h
    exact h
theorem w_ite (t : DI.Q) (a b : E) : OkX X (evE c (.ite t a b) env S) Q ↔ OkX X (evQ c t env S) fun k S => (k = true → OkX X (evE c a env S) Q) ∧ (k = false → OkX X (evE c b env S) Q) := by
  show OkX X ((evQ c t env S).bind fun k S => if k = true then evE c a env S else evE c b env S) Q ↔ _
  simp only [Ok_bind, Ok_if, Bool.not_eq_true]
theorem w_tup (a : A) : OkX X (evE c (.tup a) env S) Q ↔ OkX X (evA c a env S) fun ds S => ds.length ≤ LEN ∧ Q (.tup ds) S := by
  show OkX X ((evA c a env S).bind fun ds S => if ds.length ≤ LEN then .ok (.tup ds) S else .bad) Q ↔ _
  simp only [Ok_bind, Ok_ite, Ok_ok]
theorem w_lst (a : A) : OkX X (evE c (.lst a) env S) Q ↔ OkX X (evA c a env S) fun ds S => ds.length ≤ LEN ∧ Q (.ref S.length) (S ++ [.lst ds]) := by
  show OkX X ((evA c a env S).bind fun ds S => if ds.length ≤ LEN then .ok (.ref S.length) (S ++ [.lst ds]) else .bad) Q ↔ _
  simp only [Ok_bind, Ok_ite, Ok_ok]
theorem w_call (f : Str) (a : A) : OkX X (evE c (.call f a) env S) Q ↔ OkX X (evA c a env S) fun ds S => OkX X (c.F f ds S) Q := Ok_bind _ _ _
theorem w_bi (b : Bi) (a : A) : OkX X (evE c (.bi b a) env S) Q ↔ OkX X (evA c a env S) fun ds S => OkX X (biD b ds S) Q := Ok_bind _ _ _
theorem w_me (m : Me) (o : E) (a : A) : OkX X (evE c (.me m o a) env S) Q ↔ OkX X (evE c o env S) fun x S => meTy m x S = true ∧ OkX X (evA c a env S) fun ds S => OkX X (meD m x ds S) Q := by
  show OkX X ((evE c o env S).bind fun x S => if meTy m x S = true then (evA c a env S).bind fun ds S => meD m x ds S else .bad) Q ↔ _
  simp only [Ok_bind, Ok_ite, Ok_ok]
theorem w_ix (a b : E) : OkX X (evE c (.ix a b) env S) Q ↔ OkX X (evE c a env S) fun x S => OkX X (evE c b env S) fun y S => OkX X (ixD x y S) Q := by
  show OkX X ((evE c a env S).bind fun x S => (evE c b env S).bind fun y S => ixD x y S) Q ↔ _
  simp only [Ok_bind]
theorem w_sl (a : E) (l h : Op) : OkX X (evE c (.sl a l h) env S) Q ↔ OkX X (evE c a env S) fun x S => OkX X (evO c l env S) fun l S => OkX X (evO c h env S) fun h S => OkX X (slD x l h S) Q := by
  show OkX X ((evE c a env S).bind fun x S => (evO c l env S).bind fun l S => (evO c h env S).bind fun h S => slD x l h S) Q ↔ _
  simp only [Ok_bind]
theorem w_rev (a : E) : OkX X (evE c (.rev a) env S) Q ↔ OkX X (evE c a env S) fun x S => OkX X (revD x S) Q := Ok_bind _ _ _
/-- a comprehension's turn -/
def lcB (c : Cfg) (env : Env) (t : T) (e : E) : D → Sto → Out (List D) := fun d S => match setT t d env with
      | some env' => (evE c e env' S).noex.bind fun v S => .ok [v] S
      | none => .bad
def lcBI (c : Cfg) (env : Env) (t : T) (q : DI.Q) (e : E) : D → Sto → Out (List D) := fun d S => match setT t d env with
      | some env' => (evQ c q env' S).noex.bind fun k S => if k = true then (evE c e env' S).noex.bind fun v S => .ok [v] S else .ok [] S
      | none => .bad
theorem w_lcB (t : T) (e : E) (d : D) (I : List D → Sto → Prop) : OkX X (lcB c env t e d S) I ↔ ∃ env', setT t d env = some env' ∧ Ok (evE c e env' S) fun v S => I [v] S := by
  unfold lcB
  cases setT t d env with
  | none => simp
  | some env' =>
    simp only [Ok_bind, Ok_noex, Ok_ok]
    exact ⟨fun h => ⟨env', rfl, h⟩, fun ⟨e', h1, h2⟩ => by cases h1; exact h2⟩
theorem w_lcBI (t : T) (q : DI.Q) (e : E) (d : D) (I : List D → Sto → Prop) : OkX X (lcBI c env t q e d S) I ↔ ∃ env', setT t d env = some env' ∧ Ok (evQ c q env' S) fun k S => (k = true → Ok (evE c e env' S) fun v S => I [v] S) ∧ (k = false → I [] S) := by
  unfold lcBI
  cases setT t d env with
  | none => simp
  | some env' =>
    simp only [Ok_bind, Ok_noex, Ok_ok, Ok_if, Bool.not_eq_true]
    exact ⟨fun h => ⟨env', rfl, h⟩, fun ⟨e', h1, h2⟩ => by cases h1; exact h2⟩
theorem w_lc (own : List (Str × Nat)) (t : T) (i : It) (e : E) : OkX X (evE c (.lc own t i e) env S) Q ↔ OkX X (evI c i env S) fun s S => s.len < LEN ∧ OkX X (mapO s (lcB c (wipeE env (own.map (·.2))) t e) s.len 0 S) fun ds S => Q (.ref S.length) (S ++ [.lst ds]) := by
  show OkX X ((evI c i env S).bind fun s S => if s.len < LEN then (mapO s (fun d S => match setT t d (wipeE env (own.map (·.2))) with
      | some env' => (evE c e env' S).noex.bind fun v S => .ok [v] S
      | none => .bad) s.len 0 S).bind fun ds S => .ok (.ref S.length) (S ++ [.lst ds]) else .bad) Q ↔ _
  simp only [Ok_bind, Ok_ite, Ok_ok]
  exact Iff.rfl
theorem w_lcIf (own : List (Str × Nat)) (t : T) (i : It) (q : DI.Q) (e : E) : OkX X (evE c (.lcIf own t i q e) env S) Q ↔ OkX X (evI c i env S) fun s S => s.len < LEN ∧ OkX X (mapO s (lcBI c (wipeE env (own.map (·.2))) t q e) s.len 0 S) fun ds S => Q (.ref S.length) (S ++ [.lst ds]) := by
  show OkX X ((evI c i env S).bind fun s S => if s.len < LEN then (mapO s (fun d S => match setT t d (wipeE env (own.map (·.2))) with
      | some env' => (evQ c q env' S).noex.bind fun k S => if k = true then (evE c e env' S).noex.bind fun v S => .ok [v] S else .ok [] S
      | none => .bad) s.len 0 S).bind fun ds S => .ok (.ref S.length) (S ++ [.lst ds]) else .bad) Q ↔ _
  simp only [Ok_bind, Ok_ite, Ok_ok]
  exact Iff.rfl
/-- `_law_try(lambda: e)` -/
theorem w_tryL (e : E) : OkX X (evE c (.tryL e) env S) Q ↔ ∃ c', c.low = some c' ∧ OkX (fun x S => ∃ ds, tryRes x = some ds ∧ Q (.tup ds) S) (evE c' e env S) fun d S => Q (.tup [.str "value", d]) S := by
  show OkX X (match c.low with
    | some c' => (match evE c' e env S with
      | .ok d S => .ok (.tup [.str "value", d]) S
      | .ex x S => (match tryRes x with
        | some ds => .ok (.tup ds) S
        | none => .bad)
      | .bad => .bad)
    | none => .bad) Q ↔ _
  cases c.low with
  | none => simp
  | some c' =>
    simp only [Option.some.injEq, exists_eq_left']
    cases evE c' e env S with
    | ok d S => exact Iff.rfl
    | bad => exact Iff.rfl
    | ex x S => cases h : tryRes x <;> simp [h]
variable (P : Bool → Sto → Prop)
theorem w_tru (x : D) : OkX X (tru x S) P ↔ ∃ b, truD x S = some b ∧ P b S := by
  unfold tru
  cases truD x S <;> simp
theorem w_val (e : E) : OkX X (evQ c (.val e) env S) P ↔ OkX X (evE c e env S) fun x S => OkX X (tru x S) P := Ok_bind _ _ _
theorem w_qand (a b : DI.Q) : OkX X (evQ c (.and_ a b) env S) P ↔ OkX X (evQ c a env S) fun k S => (k = true → OkX X (evQ c b env S) P) ∧ (k = false → P false S) := by
  show OkX X ((evQ c a env S).bind fun k S => if k = true then evQ c b env S else .ok false S) P ↔ _
  simp only [Ok_bind, Ok_if, Bool.not_eq_true, Ok_ok]
theorem w_qor (a b : DI.Q) : OkX X (evQ c (.or_ a b) env S) P ↔ OkX X (evQ c a env S) fun k S => (k = true → P true S) ∧ (k = false → OkX X (evQ c b env S) P) := by
  show OkX X ((evQ c a env S).bind fun k S => if k = true then .ok true S else evQ c b env S) P ↔ _
  simp only [Ok_bind, Ok_if, Bool.not_eq_true, Ok_ok]
theorem w_qnot (a : DI.Q) : OkX X (evQ c (.not_ a) env S) P ↔ OkX X (evQ c a env S) fun k S => P (!k) S := by
  show OkX X ((evQ c a env S).bind fun k S => .ok (!k) S) P ↔ _
  simp only [Ok_bind, Ok_ok]
variable (R : List D → Sto → Prop)
theorem w_nil : OkX X (evA c .nil env S) R ↔ R [] S := Iff.rfl
theorem w_cons (e : E) (a : A) : OkX X (evA c (.cons e a) env S) R ↔ OkX X (evE c e env S) fun x S => OkX X (evA c a env S) fun xs S => R (x :: xs) S := by
  show OkX X ((evE c e env S).bind fun x S => (evA c a env S).bind fun xs S => .ok (x :: xs) S) R ↔ _
  simp only [Ok_bind, Ok_ok]
variable (U : Option Int → Sto → Prop)
theorem w_no : OkX X (evO c .no env S) U ↔ U none S := Iff.rfl
theorem w_ex (e : E) : OkX X (evO c (.ex e) env S) U ↔ OkX X (evE c e env S) fun x S => ∃ i, x = .int i ∧ U (some i) S := by
  show OkX X ((evE c e env S).bind fun x S => match x with
    | .int i => .ok (some i) S
    | _ => .bad) U ↔ _
  rw [Ok_bind]
  constructor
  all_goals
    refine fun h => h.mono fun x S h => ?_
  · cases x with
    | int k => exact ⟨k, rfl, h⟩
    | _ => exact h.elim
  · obtain ⟨k, rfl, h⟩ := h
    exact h
variable (V : Src → Sto → Prop)
theorem ok_opt {α β : Type} (o : Option α) (f : α → Out β) (Z : β → Sto → Prop) : OkX X (match o with | some s => f s | none => .bad) Z ↔ ∃ s, o = some s ∧ OkX X (f s) Z := by
  cases o <;> simp
theorem w_of (e : E) : OkX X (evI c (.of e) env S) V ↔ OkX X (evE c e env S) fun x S => ∃ s, srcOf x S = some s ∧ V s S := by
  show OkX X ((evE c e env S).bind fun x S => match srcOf x S with
    | some s => .ok s S
    | none => .bad) V ↔ _
  rw [Ok_bind]
  constructor
  all_goals
    refine fun h => h.mono fun x S h => ?_
  · cases e : srcOf x S with
    | none => rw [e] at h; exact h.elim
    | some s => rw [e] at h; exact ⟨s, rfl, h⟩
  · obtain ⟨s, e, h⟩ := h
    rw [e]
    exact h
theorem w_enum (e : E) : OkX X (evI c (.enum e) env S) V ↔ OkX X (evE c e env S) fun x S => ∃ s, enumD x S = some s ∧ V s S := by
  show OkX X ((evE c e env S).bind fun x S => match enumD x S with
    | some s => .ok s S
    | none => .bad) V ↔ _
  rw [Ok_bind]
  constructor
  all_goals
    refine fun h => h.mono fun x S h => ?_
  · cases e : enumD x S with
    | none => rw [e] at h; exact h.elim
    | some s => rw [e] at h; exact ⟨s, rfl, h⟩
  · obtain ⟨s, e, h⟩ := h
    rw [e]
    exact h
theorem w_rng1 (a : E) : OkX X (evI c (.rng1 a) env S) V ↔ OkX X (evE c a env S) fun x S => ∃ i, x = .int i ∧ ∃ s, rngD 0 i 1 = some s ∧ V s S := by
  show OkX X ((evE c a env S).bind fun x S => match x with
    | .int i => match rngD 0 i 1 with
      | some s => .ok s S
      | none => .bad
    | _ => .bad) V ↔ _
  rw [Ok_bind]
  constructor
  all_goals
    refine fun h => h.mono fun x S h => ?_
  · cases x with
    | int k =>
      have h : OkX X (match rngD 0 k 1 with
        | some s => .ok s S
        | none => .bad) V := h
      cases e : rngD 0 k 1 with
      | none => rw [e] at h; exact h.elim
      | some s => rw [e] at h; exact ⟨k, rfl, s, e, h⟩
    | _ => exact h.elim
  · obtain ⟨k, rfl, s, e, h⟩ := h
    show OkX X (match rngD 0 k 1 with
        | some s => .ok s S
        | none => .bad) V
    rw [e]
    exact h
theorem w_rng2 (a b : E) : OkX X (evI c (.rng2 a b) env S) V ↔ OkX X (evE c a env S) fun x S => OkX X (evE c b env S) fun y S => ∃ i, x = .int i ∧ ∃ j, y = .int j ∧ ∃ s, rngD i j 1 = some s ∧ V s S := by
  show OkX X ((evE c a env S).bind fun x S => (evE c b env S).bind fun y S => match x, y with
    | .int i, .int j => match rngD i j 1 with
      | some s => .ok s S
      | none => .bad
    | _, _ => .bad) V ↔ _
  simp only [Ok_bind]
  constructor
  all_goals
    refine fun h => h.mono fun x S h => h.mono fun y S h => ?_
  · cases x with
    | int k =>
      cases y with
      | int l =>
        have h : OkX X (match rngD k l 1 with
          | some s => .ok s S
          | none => .bad) V := h
        cases e : rngD k l 1 with
        | none => rw [e] at h; exact h.elim
        | some s => rw [e] at h; exact ⟨k, rfl, l, rfl, s, e, h⟩
      | _ => exact h.elim
    | _ => cases y <;> exact h.elim
  · obtain ⟨k, rfl, l, rfl, s, e, h⟩ := h
    show OkX X (match rngD k l 1 with
        | some s => .ok s S
        | none => .bad) V
    rw [e]
    exact h
theorem w_rng3 (a b d : E) : OkX X (evI c (.rng3 a b d) env S) V ↔ OkX X (evE c a env S) fun x S => OkX X (evE c b env S) fun y S => OkX X (evE c d env S) fun z S => ∃ i, x = .int i ∧ ∃ j, y = .int j ∧ ∃ l, z = .int l ∧ ∃ s, rngD i j l = some s ∧ V s S := by
  show OkX X ((evE c a env S).bind fun x S => (evE c b env S).bind fun y S => (evE c d env S).bind fun z S => match x, y, z with
    | .int i, .int j, .int k => match rngD i j k with
      | some s => .ok s S
      | none => .bad
    | _, _, _ => .bad) V ↔ _
  simp only [Ok_bind]
  constructor
  all_goals
    refine fun h => h.mono fun x S h => h.mono fun y S h => h.mono fun z S h => ?_
  · cases x with
    | int k =>
      cases y with
      | int l =>
        cases z with
        | int m =>
          have h : OkX X (match rngD k l m with
            | some s => .ok s S
            | none => .bad) V := h
          cases e : rngD k l m with
          | none => rw [e] at h; exact h.elim
          | some s => rw [e] at h; exact ⟨k, rfl, l, rfl, m, rfl, s, e, h⟩
        | _ => exact h.elim
      | _ => cases z <;> exact h.elim
    | _ => cases y <;> cases z <;> exact h.elim
  · obtain ⟨k, rfl, l, rfl, m, rfl, s, e, h⟩ := h
    show OkX X (match rngD k l m with
        | some s => .ok s S
        | none => .bad) V
    rw [e]
    exact h
end
theorem wipe_nil (env : Env) : wipeE env [] = env := rfl
theorem wipe_cons (env : Env) (v : Nat) (vs : List Nat) : wipeE env (v :: vs) = (wipeE env vs).set v none := rfl
/-! ### statements -/
section
variable (c : Cfg) (W : Nat) (env : Env) (S : Sto) (w : Wn)
theorem s_nil : OkS (exB c W .nil env S) w ↔ w.nx env S := Iff.rfl
theorem s_cons (s : St) (b : B) : OkS (exB c W (.cons s b) env S) w ↔ OkS (exS c W s env S) { w with nx := fun env S => OkS (exB c W b env S) w } := by
  show OkS (match exS c W s env S with
    | .nx env S => exB c W b env S
    | o => o) w ↔ _
  cases exS c W s env S <;> exact Iff.rfl
theorem s_asg (t : T) (e : E) : OkS (exS c W (.asg t e) env S) w ↔ OkX (fun x S => w.ex x env S) (evE c e env S) fun d S => ∃ e, setT t d env = some e ∧ w.nx e S := by
  show OkS ((evE c e env S).go env fun d S => setO t d env fun env => .nx env S) w ↔ _
  simp only [OkS_go, OkS_set, OkS_nx]
theorem s_setIx (o i e : E) : OkS (exS c W (.setIx o i e) env S) w ↔ OkX (fun x S => w.ex x env S) (evE c e env S) fun v S => OkX (fun x S => w.ex x env S) (evE c o env S) fun x S => OkX (fun x S => w.ex x env S) (evE c i env S) fun y S => ∃ S', setIx x y v S = some S' ∧ w.nx env S' := by
  show OkS ((evE c e env S).go env fun v S => (evE c o env S).go env fun x S => (evE c i env S).go env fun y S => match setIx x y v S with
    | some S => .nx env S
    | none => .bad) w ↔ _
  simp only [OkS_go]
  constructor
  all_goals
    refine fun h => h.mono fun x S h => h.mono fun y S h => h.mono fun z S h => ?_
  · cases e : setIx y z x S with
    | none => rw [e] at h; exact h.elim
    | some S' => rw [e] at h; exact ⟨S', rfl, h⟩
  · obtain ⟨S', e, h⟩ := h
    rw [e]
    exact h
theorem s_aug (i : Nat) (o : Bop) (e : E) : OkS (exS c W (.aug i o e) env S) w ↔ ∃ x, env[i]? = some (some x) ∧ OkX (fun x S => w.ex x env S) (evE c e env S) fun y S => OkX (fun x S => w.ex x env S) (augD o x y S) fun z S => w.nx (env.set i (some z)) S := by
  show OkS (match env[i]? with
    | some (some x) => (evE c e env S).go env fun y S => (augD o x y S).go env fun z S => .nx (env.set i (some z)) S
    | _ => .bad) w ↔ _
  split
  · rename_i d e; simp [e, OkS_go]
  · rename_i h
    simp only [OkS_bad, false_iff, not_exists, not_and]
    intro d e
    exact absurd e (h d)
theorem s_expr (e : E) : OkS (exS c W (.expr e) env S) w ↔ OkX (fun x S => w.ex x env S) (evE c e env S) fun _ S => w.nx env S := OkS_go _ _ _ _
theorem s_ret (e : E) : OkS (exS c W (.ret e) env S) w ↔ OkX (fun x S => w.ex x env S) (evE c e env S) w.rt := OkS_go _ _ _ _
theorem s_retN : OkS (exS c W .retN env S) w ↔ w.rt .non S := Iff.rfl
theorem s_ite (t : DI.Q) (a b : B) : OkS (exS c W (.ite t a b) env S) w ↔ OkX (fun x S => w.ex x env S) (evQ c t env S) fun k S => (k = true → OkS (exB c W a env S) w) ∧ (k = false → OkS (exB c W b env S) w) := by
  show OkS ((evQ c t env S).go env fun k S => if k = true then exB c W a env S else exB c W b env S) w ↔ _
  simp only [OkS_go, OkS_if, Bool.not_eq_true]
theorem s_whl (t : DI.Q) (b : B) : OkS (exS c W (.whl t b) env S) w ↔ OkS (whlO (evQ c t) (exB c W b) W env S) w := Iff.rfl
theorem s_for (t : T) (i : It) (b : B) : OkS (exS c W (.for_ t i b) env S) w ↔ OkX (fun x S => w.ex x env S) (evI c i env S) fun s S => s.len < LEN ∧ OkS (forO s (fun d env S => setO t d env fun env => exB c W b env S) s.len 0 env S) w := by
  show OkS ((evI c i env S).go env fun s S => if s.len < LEN then forO s (fun d env S => setO t d env fun env => exB c W b env S) s.len 0 env S else .bad) w ↔ _
  simp only [OkS_go, OkS_ite]
theorem s_raise (cl : Str) (a : A) : OkS (exS c W (.raise_ cl a) env S) w ↔ 3 ≤ c.lv ∧ OkX (fun x S => w.ex x env S) (evA c a env S) fun ds S => ∃ x, mkExn cl ds = some x ∧ w.ex x env S := by
  show OkS (if 3 ≤ c.lv then (evA c a env S).go env fun ds S => match mkExn cl ds with
    | some x => .ex x env S
    | none => .bad
    else .bad) w ↔ _
  simp only [OkS_ite, OkS_go]
  refine and_congr Iff.rfl ?_
  constructor
  all_goals
    refine fun h => h.mono fun ds S h => ?_
  · cases e : mkExn cl ds with
    | none => rw [e] at h; exact h.elim
    | some x => rw [e] at h; exact ⟨x, rfl, h⟩
  · obtain ⟨x, e, h⟩ := h
    rw [e]
    exact h
/-- what the suites make of an exception -/
def hdW (w : Wn) (hs : List (Str × HE)) (x : Exn) (env : Env) (S : Sto) : Prop := (∃ e d, hdF x hs = some e ∧ hdV x e = some d ∧ w.rt d S) ∨ (hdF x hs = none ∧ w.ex x env S)
theorem s_try (b : B) (hs : List (Str × HE)) : OkS (exS c W (.try_ b hs) env S) w ↔ OkS (exB c W b env S) { w with ex := hdW w hs } := by
  show OkS (match exB c W b env S with
    | .ex x env S => (match hdF x hs with
      | some e => (match hdV x e with
        | some d => .rt d S
        | none => .bad)
      | none => .ex x env S)
    | o => o) w ↔ _
  cases exB c W b env S with
  | ex x env S =>
    show OkS (match hdF x hs with
      | some e => (match hdV x e with
        | some d => .rt d S
        | none => .bad)
      | none => .ex x env S) w ↔ hdW w hs x env S
    unfold hdW
    cases h1 : hdF x hs with
    | none => simp
    | some e => cases h2 : hdV x e <;> simp [h2]
  | _ => exact Iff.rfl
theorem s_brk : OkS (exS c W .brk env S) w ↔ w.bk env S := Iff.rfl
theorem s_cnt : OkS (exS c W .cnt env S) w ↔ w.ct env S := Iff.rfl
theorem s_pas : OkS (exS c W .pas env S) w ↔ w.nx env S := Iff.rfl
theorem s_never : OkS (exS c W .never env S) w ↔ False := Iff.rfl
end
/-! ### loops -/
/-- one more turn of while -/
theorem whl_step (t : Env → Sto → Out Bool) (b : Env → Sto → SOut) (n : Nat) (env : Env) (S : Sto) (w : Wn) : OkS (whlO t b (n + 1) env S) w ↔ OkX (fun x S => w.ex x env S) (t env S) fun k S => (k = true → OkS (b env S) { w with nx := fun env S => OkS (whlO t b n env S) w, ct := fun env S => OkS (whlO t b n env S) w, bk := w.nx }) ∧ (k = false → w.nx env S) := by
  show OkS ((t env S).go env fun k S => if k = true then match b env S with
      | .nx env S => whlO t b n env S
      | .ct env S => whlO t b n env S
      | .bk env S => .nx env S
      | o => o
    else .nx env S) w ↔ _
  simp only [OkS_go, OkS_if, Bool.not_eq_true, OkS_nx]
  constructor
  all_goals
    refine fun h => h.mono fun k S h => ⟨fun hk => ?_, h.2⟩
    have h1 := h.1 hk
    cases e : b env S <;> rw [e] at h1 <;> exact h1
/-- while: an invariant with its measure -/
theorem whl_inv {t : Env → Sto → Out Bool} {b : Env → Sto → SOut} {w : Wn} (I : Nat → Env → Sto → Prop)
    (step : ∀ m env S, I m env S → OkX (fun x S => w.ex x env S) (t env S) fun k S => (k = true → OkS (b env S) { w with nx := fun env S => ∃ m', m' < m ∧ I m' env S, ct := fun env S => ∃ m', m' < m ∧ I m' env S, bk := w.nx }) ∧ (k = false → w.nx env S)) :
    ∀ (m : Nat) (env : Env) (S : Sto) (n : Nat), I m env S → m < n → OkS (whlO t b n env S) w := by
  intro m
  induction m using Nat.strongRecOn with
  | ind m ih =>
    intro env S n h hn
    obtain ⟨n, rfl⟩ : ∃ k, n = k + 1 := ⟨n - 1, by omega⟩
    rw [whl_step]
    refine (step m env S h).mono fun k S h => ⟨fun hk => (h.1 hk).mono (fun env S ⟨m', h1, h2⟩ => ih m' h1 env S n h2 (by omega)) (fun _ _ h => h) (fun _ _ h => h) (fun env S ⟨m', h1, h2⟩ => ih m' h1 env S n h2 (by omega)), h.2⟩
/-- for: an invariant by the place -/
theorem for_inv {s : Src} {b : D → Env → Sto → SOut} {w : Wn} (I : Nat → Env → Sto → Prop)
    (fin : ∀ env S, I s.len env S → s.fin S = true ∧ w.nx env S)
    (step : ∀ i env S, i < s.len → I i env S → ∃ d, s.at S i = some d ∧ OkS (b d env S) { w with nx := I (i + 1), ct := I (i + 1), bk := w.nx }) :
    ∀ (m i : Nat) (env : Env) (S : Sto), m + i = s.len → I i env S → OkS (forO s b m i env S) w := by
  intro m
  induction m with
  | zero =>
    intro i env S hm h
    have e : i = s.len := by omega
    subst e
    obtain ⟨h1, h2⟩ := fin env S h
    show OkS (if s.fin S = true then .nx env S else .bad) w
    rw [if_pos h1]
    exact h2
  | succ m ih =>
    intro i env S hm h
    obtain ⟨d, e, h2⟩ := step i env S (by omega) h
    show OkS (match s.at S i with
    | some d => match b d env S with
      | .nx env S => forO s b m (i + 1) env S
      | .ct env S => forO s b m (i + 1) env S
      | .bk env S => .nx env S
      | o => o
    | none => .bad) w
    rw [e]
    show OkS (match b d env S with
      | .nx env S => forO s b m (i + 1) env S
      | .ct env S => forO s b m (i + 1) env S
      | .bk env S => .nx env S
      | o => o) w
    cases e2 : b d env S with
    | nx e3 S3 => rw [e2] at h2; exact ih (i + 1) e3 S3 (by omega) h2
    | ct e3 S3 => rw [e2] at h2; exact ih (i + 1) e3 S3 (by omega) h2
    | bk e3 S3 => rw [e2] at h2; exact h2
    | rt d S3 => rw [e2] at h2; exact h2
    | ex x e3 S3 => rw [e2] at h2; exact h2
    | bad => rw [e2] at h2; exact h2
/-- a comprehension: an invariant by the place and what was gathered -/
theorem map_inv {X : Exn → Sto → Prop} {s : Src} {f : D → Sto → Out (List D)} {Q : List D → Sto → Prop} (I : Nat → List D → Sto → Prop)
    (fin : ∀ ds S, I s.len ds S → s.fin S = true ∧ Q ds S)
    (step : ∀ i ds S, i < s.len → I i ds S → ∃ d, s.at S i = some d ∧ OkX X (f d S) fun ys S => I (i + 1) (ds ++ ys) S) :
    ∀ (m i : Nat) (acc : List D) (S : Sto), m + i = s.len → I i acc S → OkX X (mapO s f m i S) fun ds S => Q (acc ++ ds) S := by
  intro m
  induction m with
  | zero =>
    intro i acc S hm h
    have e : i = s.len := by omega
    subst e
    obtain ⟨h1, h2⟩ := fin acc S h
    show OkX X (if s.fin S = true then .ok [] S else .bad) _
    rw [if_pos h1]
    show Q (acc ++ []) S
    rw [List.append_nil]
    exact h2
  | succ m ih =>
    intro i acc S hm h
    obtain ⟨d, e, h2⟩ := step i acc S (by omega) h
    show OkX X (match s.at S i with
    | some d => (f d S).bind fun ys S => (mapO s f m (i + 1) S).bind fun zs S => .ok (ys ++ zs) S
    | none => .bad) _
    rw [e]
    simp only [Ok_bind, Ok_ok]
    refine h2.mono fun ys S h3 => ?_
    refine (ih (i + 1) (acc ++ ys) S (by omega) h3).mono fun zs S h4 => ?_
    rw [List.append_assoc] at h4
    exact h4
/-- the same, what is to be shown of a turn's end kept apart -/
theorem whl {t : Env → Sto → Out Bool} {b : Env → Sto → SOut} {w : Wn} (J : Nat → Env → Sto → Prop)
    (step : ∀ (I : Env → Sto → Prop) (m : Nat) (env : Env) (S : Sto), (∀ m' e S, m' < m → J m' e S → I e S) → J m env S → OkX (fun x S => w.ex x env S) (t env S) fun k S => (k = true → OkS (b env S) { w with nx := I, ct := I, bk := w.nx }) ∧ (k = false → w.nx env S))
    (m : Nat) {env : Env} {S : Sto} {n : Nat} (h : J m env S) (hn : m < n) : OkS (whlO t b n env S) w :=
  whl_inv J (fun m env S h => step (fun env S => ∃ m', m' < m ∧ J m' env S) m env S (fun m' e S h1 h2 => ⟨m', h1, h2⟩) h) m env S n h hn
theorem forL {s : Src} {b : D → Env → Sto → SOut} {w : Wn} (J : Nat → Env → Sto → Prop)
    (step : ∀ (I : Env → Sto → Prop) (i : Nat) (env : Env) (S : Sto), (∀ e S, J (i + 1) e S → I e S) → i < s.len → J i env S → ∃ d, s.at S i = some d ∧ OkS (b d env S) { w with nx := I, ct := I, bk := w.nx })
    (fin : ∀ env S, J s.len env S → s.fin S = true ∧ w.nx env S) {env : Env} {S : Sto} (h : J 0 env S) : OkS (forO s b s.len 0 env S) w :=
  for_inv J fin (fun i env S hi h => step (J (i + 1)) i env S (fun _ _ h => h) hi h) s.len 0 env S (Nat.add_zero _) h
theorem mapL {X : Exn → Sto → Prop} {s : Src} {f : D → Sto → Out (List D)} {Q : List D → Sto → Prop} (J : Nat → List D → Sto → Prop)
    (step : ∀ (I : List D → Sto → Prop) (i : Nat) (ds : List D) (S : Sto), (∀ ys S, J (i + 1) (ds ++ ys) S → I ys S) → i < s.len → J i ds S → ∃ d, s.at S i = some d ∧ OkX X (f d S) I)
    (fin : ∀ ds S, J s.len ds S → s.fin S = true ∧ Q ds S) {S : Sto} (h : J 0 [] S) : OkX X (mapO s f s.len 0 S) Q :=
  (map_inv J fin (fun i ds S hi h => step (fun ys S => J (i + 1) (ds ++ ys) S) i ds S (fun _ _ h => h) hi h) s.len 0 [] S (Nat.add_zero _) h).mono fun _ _ h => h
/-! ### defs -/
theorem w_run {T : Tab} {W k : Nat} {f : Str} {X : Exn → Sto → Prop} (fc : Fc) {ds : List D} (env : Env) {S : Sto} {Q : D → Sto → Prop} (h : T.get f = some fc) (hl : (fill fc ds).length = fc.np) (he : start fc (fill fc ds) = env) (q : OkS (exB (cfg T W k) W fc.body env S) { nx := fun _ S => Q .non S, rt := Q, ex := fun x _ S => X x S }) : OkX X (runF T W (k + 1) f ds S) Q := by
  subst he
  rw [runF_succ]
  unfold runB
  rw [h]
  show OkX X (if (fill fc ds).length = fc.np then _ else .bad) Q
  rw [if_pos hl, Ok_out]
  exact q
theorem cfg_F (T : Tab) (W k : Nat) : (cfg T W k).F = runF T W k := rfl
theorem cfg_G (T : Tab) (W k : Nat) : (cfg T W k).G = T.G := rfl
theorem cfg_lv (T : Tab) (W k : Nat) : (cfg T W k).lv = k := rfl
theorem cfg_low {T : Tab} (W : Nat) {k : Nat} (hk : 90 ≤ k) (h : T.lam = true) : (cfg T W k).low = some (cfg T W 89) := by
  show lowOf T W k = _
  unfold lowOf
  rw [if_pos hk, if_pos h]
  rfl
end DI

/-! P2: numbers, fractions, data. -/
namespace DI
open PySem

/-! ### operations of ints -/
section
variable (i j : Int) (S : Sto) (Q : D → Sto → Prop)
theorem p_add {X : Exn → Sto → Prop} : OkX X (binD .add (.int i) (.int j) S) Q ↔ Q (.int (i + j)) S := Iff.rfl
theorem p_sub {X : Exn → Sto → Prop} : OkX X (binD .sub (.int i) (.int j) S) Q ↔ Q (.int (i - j)) S := Iff.rfl
def MulOk (i j : Int) : Prop := i.natAbs.log2 + j.natAbs.log2 < 1000000
theorem p_mul {X : Exn → Sto → Prop} : OkX X (binD .mul (.int i) (.int j) S) Q ↔ MulOk i j ∧ Q (.int (i * j)) S := Ok_ite _ _
def DivOk (j : Int) : Prop := j ≠ 0 ∧ j.natAbs.log2 < 9000
theorem p_fdiv {X : Exn → Sto → Prop} : OkX X (binD .fdiv (.int i) (.int j) S) Q ↔ DivOk j ∧ Q (.int (i.fdiv j)) S := Ok_ite _ _
theorem p_mod {X : Exn → Sto → Prop} : OkX X (binD .mod (.int i) (.int j) S) Q ↔ j ≠ 0 ∧ Q (.int (i.fmod j)) S := Ok_ite _ _
theorem p_pow {X : Exn → Sto → Prop} : OkX X (binD .pow (.int i) (.int j) S) Q ↔ (0 ≤ j ∧ j ≤ 1000000 ∧ i.natAbs < 2 ^ 64) ∧ Q (.int (i ^ j.toNat)) S := Ok_ite _ _
theorem p_tadd {X : Exn → Sto → Prop} (a b : List D) : OkX X (binD .add (.tup a) (.tup b) S) Q ↔ a.length + b.length ≤ LEN ∧ Q (.tup (a ++ b)) S := Ok_ite _ _
theorem p_sadd {X : Exn → Sto → Prop} (a b : Str) : OkX X (binD .add (.str a) (.str b) S) Q ↔ a.length + b.length ≤ LEN ∧ Q (.str (a ++ b)) S := Ok_ite _ _
theorem p_lt {X : Exn → Sto → Prop} : OkX X (cmpD .lt (.int i) (.int j) S) Q ↔ Q (.bl (decide (i < j))) S := Iff.rfl
theorem p_le {X : Exn → Sto → Prop} : OkX X (cmpD .le (.int i) (.int j) S) Q ↔ Q (.bl (decide (i ≤ j))) S := Iff.rfl
theorem p_gt {X : Exn → Sto → Prop} : OkX X (cmpD .gt (.int i) (.int j) S) Q ↔ Q (.bl (decide (j < i))) S := Iff.rfl
theorem p_ge {X : Exn → Sto → Prop} : OkX X (cmpD .ge (.int i) (.int j) S) Q ↔ Q (.bl (decide (j ≤ i))) S := Iff.rfl
theorem p_neg {X : Exn → Sto → Prop} : OkX X (negD (.int i) S) Q ↔ Q (.int (-i)) S := Iff.rfl
theorem p_abs {X : Exn → Sto → Prop} : OkX X (biD .abs [.int i] S) Q ↔ Q (.int (if i < 0 then -i else i)) S := Iff.rfl
theorem p_max {X : Exn → Sto → Prop} : OkX X (biD .max2 [.int i, .int j] S) Q ↔ Q (.int (if j > i then j else i)) S := Iff.rfl
theorem p_min {X : Exn → Sto → Prop} : OkX X (biD .min2 [.int i, .int j] S) Q ↔ Q (.int (if j < i then j else i)) S := Iff.rfl
theorem p_lenT {X : Exn → Sto → Prop} (ds : List D) : OkX X (biD .len [.tup ds] S) Q ↔ Q (.int ds.length) S := Iff.rfl
theorem p_tupT {X : Exn → Sto → Prop} (ds : List D) : OkX X (biD .tuple [.tup ds] S) Q ↔ Q (.tup ds) S := Iff.rfl
theorem p_listT {X : Exn → Sto → Prop} (ds : List D) : OkX X (biD .list [.tup ds] S) Q ↔ Q (.ref S.length) (S ++ [.lst ds]) := Iff.rfl
theorem p_augA {X : Exn → Sto → Prop} : OkX X (augD .add (.int i) (.int j) S) Q ↔ Q (.int (i + j)) S := Iff.rfl
theorem p_augS {X : Exn → Sto → Prop} : OkX X (augD .sub (.int i) (.int j) S) Q ↔ Q (.int (i - j)) S := Iff.rfl
theorem p_trB {X : Exn → Sto → Prop} (b : Bool) (P : Bool → Sto → Prop) : OkX X (tru (.bl b) S) P ↔ P b S := Iff.rfl
end
theorem p_ixT {X : Exn → Sto → Prop} {ds : List D} {i : Int} {S : Sto} {Q : D → Sto → Prop} {d : D} (h : L2.atI ds i = some d) : OkX X (ixD (.tup ds) (.int i) S) Q ↔ Q d S := by
  show OkX X (match L2.atI ds i with
    | some d => .ok d S
    | none => .bad) Q ↔ _
  rw [h]; exact Iff.rfl
theorem p_ixL {X : Exn → Sto → Prop} {n : Nat} {ds : List D} {i : Int} {S : Sto} {Q : D → Sto → Prop} {d : D} (h0 : S[n]? = some (.lst ds)) (h : L2.atI ds i = some d) : OkX X (ixD (.ref n) (.int i) S) Q ↔ Q d S := by
  show OkX X (match S[n]? with
    | some (.lst ds) => match L2.atI ds i with
      | some d => .ok d S
      | none => .bad
    | some (.rol ds) => match L2.atI ds i with
      | some d => .ok d S
      | none => .bad
    | _ => .bad) Q ↔ _
  rw [h0]
  show OkX X (match L2.atI ds i with
      | some d => .ok d S
      | none => .bad) Q ↔ _
  rw [h]; exact Iff.rfl
theorem p_lenL {X : Exn → Sto → Prop} {n : Nat} {ds : List D} {S : Sto} {Q : D → Sto → Prop} (h0 : S[n]? = some (.lst ds)) : OkX X (biD .len [.ref n] S) Q ↔ Q (.int ds.length) S := by
  show OkX X (match S[n]? with
    | some (.lst ds) => .ok (.int ds.length) S
    | some (.rol ds) => .ok (.int ds.length) S
    | _ => .bad) Q ↔ _
  rw [h0]; exact Iff.rfl
theorem p_tupL {X : Exn → Sto → Prop} {n : Nat} {ds : List D} {S : Sto} {Q : D → Sto → Prop} (h0 : S[n]? = some (.lst ds)) : OkX X (biD .tuple [.ref n] S) Q ↔ Q (.tup ds) S := by
  show OkX X (match S[n]? with
    | some (.lst ds) => .ok (.tup ds) S
    | some (.rol ds) => .ok (.tup ds) S
    | _ => .bad) Q ↔ _
  rw [h0]; exact Iff.rfl
theorem p_listL {X : Exn → Sto → Prop} {n : Nat} {ds : List D} {S : Sto} {Q : D → Sto → Prop} (h0 : S[n]? = some (.lst ds)) : OkX X (biD .list [.ref n] S) Q ↔ Q (.ref S.length) (S ++ [.lst ds]) := by
  show OkX X (match S[n]? with
    | some (.lst ds) => .ok (.ref S.length) (S ++ [.lst ds])
    | some (.rol ds) => .ok (.ref S.length) (S ++ [.lst ds])
    | _ => .bad) Q ↔ _
  rw [h0]; exact Iff.rfl
theorem ixN_nat {n i : Nat} (h : i < n) : L2.ixN n (i : Int) = some i := by
  unfold L2.ixN
  rw [if_pos (by omega), if_pos (by omega)]
  simp
theorem atI_nat {α : Type} {l : List α} {i : Nat} {d : α} (h : l[i]? = some d) : L2.atI l (i : Int) = some d := by
  have hl := (List.getElem?_eq_some_iff.mp h).1
  unfold L2.atI
  rw [ixN_nat hl]
  exact h
theorem atI_last {α : Type} {l : List α} {d : α} (h : l[l.length - 1]? = some d) : L2.atI l (-1) = some d := by
  have hl := (List.getElem?_eq_some_iff.mp h).1
  unfold L2.atI L2.ixN
  rw [if_neg (by omega), if_pos (by omega)]
  show l[((-1 : Int) + l.length).toNat]? = some d
  have : ((-1 : Int) + l.length).toNat = l.length - 1 := by omega
  rw [this]; exact h

/-! ### equality of data -/
mutual
inductive PD : Nat → D → PyData → Prop
  | int {n : Nat} (i : Int) : PD n (.int i) (.int i)
  | str {n : Nat} {s : Str} (h : (PyData.str s).canLay0 = true) : PD n (.str s) (.str s)
  | tup {n : Nat} {ds : List D} {ps : List PyData} : PDs n ds ps → PD (n + 1) (.tup ds) (.tuple ps)
inductive PDs : Nat → List D → List PyData → Prop
  | nil {n : Nat} : PDs n [] []
  | cons {n : Nat} {d : D} {ds : List D} {p : PyData} {ps : List PyData} : PD n d p → PDs n ds ps → PDs n (d :: ds) (p :: ps)
end
mutual
theorem PD.toP {S : Sto} : ∀ {n : Nat} {d : D} {p : PyData}, PD n d p → ∀ m, n ≤ m → DI.toP S m d = some p
  | _, _, _, .int i, m, _ => by cases m <;> rfl
  | _, _, _, .str h, m, _ => by cases m <;> rfl
  | _, _, _, .tup (n := n) h, m, hm => by
    obtain ⟨m, rfl⟩ : ∃ k, m = k + 1 := ⟨m - 1, by omega⟩
    show ((_ : List D).mapM (DI.toP S m)).map PyData.tuple = _
    rw [PDs.toPs h m (by omega)]
    rfl
theorem PDs.toPs {S : Sto} : ∀ {n : Nat} {d : List D} {p : List PyData}, PDs n d p → ∀ m, n ≤ m → d.mapM (DI.toP S m) = some p
  | _, _, _, .nil, m, _ => rfl
  | _, _, _, .cons h t, m, hm => by
    rw [List.mapM_cons, PD.toP h m hm, PDs.toPs t m hm]
    rfl
end
mutual
theorem PD.lay : ∀ {n : Nat} {d : D} {p : PyData}, PD n d p → p.canLay0 = true ∧ p.depth ≤ n
  | _, _, _, .int i => ⟨rfl, Nat.zero_le _⟩
  | _, _, _, .str h => ⟨h, Nat.zero_le _⟩
  | _, _, _, .tup h => ⟨(PDs.lays h).1, Nat.succ_le_succ (PDs.lays h).2⟩
theorem PDs.lays : ∀ {n : Nat} {d : List D} {p : List PyData}, PDs n d p → PyData.canLayAll0 p = true ∧ PyData.depthAll p ≤ n
  | _, _, _, .nil => ⟨rfl, Nat.zero_le _⟩
  | _, _, _, .cons h t => ⟨Bool.and_eq_true_iff.mpr ⟨(PD.lay h).1, (PDs.lays t).1⟩, Nat.max_le.mpr ⟨(PD.lay h).2, (PDs.lays t).2⟩⟩
end
mutual
theorem PD.eqv : ∀ {n m : Nat} {d e : D} {p q : PyData}, PD n d p → PD m e q → (PyData.eqv p q = true ↔ d = e)
  | _, _, _, _, _, _, .int i, .int j => by
    show (i == j) = true ↔ _
    rw [beq_iff_eq]
    constructor
    · rintro rfl; rfl
    · intro h; exact D.int.inj h
  | _, _, _, _, _, _, .str (s := s) _, .str (s := t) _ => by
    show (s == t) = true ↔ _
    rw [beq_iff_eq]
    constructor
    · rintro rfl; rfl
    · intro h; exact D.str.inj h
  | _, _, _, _, _, _, .tup h, .tup k => by
    show PyData.eqvAll _ _ = true ↔ _
    rw [PDs.eqvs h k]
    constructor
    · rintro rfl; rfl
    · intro h; exact D.tup.inj h
  | _, _, _, _, _, _, .int i, .str _ => ⟨fun h => Bool.noConfusion h, fun h => D.noConfusion h⟩
  | _, _, _, _, _, _, .int i, .tup _ => ⟨fun h => Bool.noConfusion h, fun h => D.noConfusion h⟩
  | _, _, _, _, _, _, .str _, .int _ => ⟨fun h => Bool.noConfusion h, fun h => D.noConfusion h⟩
  | _, _, _, _, _, _, .str _, .tup _ => ⟨fun h => Bool.noConfusion h, fun h => D.noConfusion h⟩
  | _, _, _, _, _, _, .tup _, .int _ => ⟨fun h => Bool.noConfusion h, fun h => D.noConfusion h⟩
  | _, _, _, _, _, _, .tup _, .str _ => ⟨fun h => Bool.noConfusion h, fun h => D.noConfusion h⟩
theorem PDs.eqvs : ∀ {n m : Nat} {d e : List D} {p q : List PyData}, PDs n d p → PDs m e q → (PyData.eqvAll p q = true ↔ d = e)
  | _, _, _, _, _, _, .nil, .nil => ⟨fun _ => rfl, fun _ => rfl⟩
  | _, _, _, _, _, _, .nil, .cons _ _ => ⟨fun h => Bool.noConfusion h, fun h => by cases h⟩
  | _, _, _, _, _, _, .cons _ _, .nil => ⟨fun h => Bool.noConfusion h, fun h => by cases h⟩
  | _, _, _, _, _, _, .cons h t, .cons k u => by
    show (PyData.eqv _ _ && PyData.eqvAll _ _) = true ↔ _
    rw [Bool.and_eq_true_iff, PD.eqv h k, PDs.eqvs t u, List.cons.injEq]
end
theorem eqD_PD {S : Sto} {n m : Nat} {d e : D} {p q : PyData} (h : PD n d p) (k : PD m e q) (hn : n ≤ 64) (hm : m ≤ 64) : ∃ b, eqD S d e = some b ∧ (b = true ↔ d = e) := by
  unfold eqD
  rw [h.toP 64 hn, k.toP 64 hm]
  have s1 : shaped p = true := Bool.and_eq_true_iff.mpr ⟨h.lay.1, decide_eq_true (Nat.le_trans h.lay.2 hn)⟩
  have s2 : shaped q = true := Bool.and_eq_true_iff.mpr ⟨k.lay.1, decide_eq_true (Nat.le_trans k.lay.2 hm)⟩
  refine ⟨PyData.eqv p q, ?_, h.eqv k⟩
  show (if (shaped p && shaped q) = true then _ else _) = _
  rw [s1, s2]
  rfl
/-- data of ints and texts, n deep -/
def Dt (n : Nat) (d : D) : Prop := ∃ p, PD n d p
theorem p_eq {X : Exn → Sto → Prop} {S : Sto} {Q : D → Sto → Prop} {n m : Nat} {d e : D} (h : Dt n d) (k : Dt m e) (q : ∀ b, (b = true ↔ d = e) → Q (.bl b) S) (hn : n ≤ 64 := by decide) (hm : m ≤ 64 := by decide) : OkX X (cmpD .eq d e S) Q := by
  obtain ⟨p, h⟩ := h
  obtain ⟨q', k⟩ := k
  obtain ⟨b, e1, e2⟩ := eqD_PD (S := S) h k hn hm
  show OkX X (match eqD S d e with
    | some b => .ok (.bl b) S
    | none => .bad) Q
  rw [e1]
  exact q b e2
theorem p_ne {X : Exn → Sto → Prop} {S : Sto} {Q : D → Sto → Prop} {n m : Nat} {d e : D} (h : Dt n d) (k : Dt m e) (q : ∀ b, (b = true ↔ d ≠ e) → Q (.bl b) S) (hn : n ≤ 64 := by decide) (hm : m ≤ 64 := by decide) : OkX X (cmpD .ne d e S) Q := by
  obtain ⟨p, h⟩ := h
  obtain ⟨q', k⟩ := k
  obtain ⟨b, e1, e2⟩ := eqD_PD (S := S) h k hn hm
  show OkX X (match eqD S d e with
    | some b => .ok (.bl (!b)) S
    | none => .bad) Q
  rw [e1]
  refine q (!b) ?_
  rw [Ne, ← e2]
  cases b <;> simp
theorem Dt.int (n : Nat) (i : Int) : Dt n (.int i) := ⟨_, .int i⟩
theorem Dt.tup {n : Nat} {ds : List D} (h : ∀ d ∈ ds, Dt n d) : Dt (n + 1) (.tup ds) := by
  have : ∃ ps, PDs n ds ps := by
    induction ds with
    | nil => exact ⟨[], .nil⟩
    | cons d ds ih =>
      obtain ⟨p, hp⟩ := h d List.mem_cons_self
      obtain ⟨ps, hps⟩ := ih fun e he => h e (List.mem_cons_of_mem _ he)
      exact ⟨p :: ps, .cons hp hps⟩
  obtain ⟨ps, h⟩ := this
  exact ⟨_, .tup h⟩
theorem eqD_int (S : Sto) (i j : Int) : eqD S (.int i) (.int j) = some (i == j) := by
  unfold eqD
  rfl
theorem p_eqI {X : Exn → Sto → Prop} (i j : Int) (S : Sto) (Q : D → Sto → Prop) : OkX X (cmpD .eq (.int i) (.int j) S) Q ↔ Q (.bl (i == j)) S := by
  show OkX X (match eqD S (.int i) (.int j) with
    | some b => .ok (.bl b) S
    | none => .bad) Q ↔ _
  rw [eqD_int]; exact Iff.rfl
theorem p_neI {X : Exn → Sto → Prop} (i j : Int) (S : Sto) (Q : D → Sto → Prop) : OkX X (cmpD .ne (.int i) (.int j) S) Q ↔ Q (.bl (!(i == j))) S := by
  show OkX X (match eqD S (.int i) (.int j) with
    | some b => .ok (.bl (!b)) S
    | none => .bad) Q ↔ _
  rw [eqD_int]; exact Iff.rfl
theorem eqD_bl (S : Sto) (i j : Bool) : eqD S (.bl i) (.bl j) = some (i == j) := by
  unfold eqD
  rfl
theorem p_eqB {X : Exn → Sto → Prop} (i j : Bool) (S : Sto) (Q : D → Sto → Prop) : OkX X (cmpD .eq (.bl i) (.bl j) S) Q ↔ Q (.bl (i == j)) S := by
  show OkX X (match eqD S (.bl i) (.bl j) with
    | some b => .ok (.bl b) S
    | none => .bad) Q ↔ _
  rw [eqD_bl]; exact Iff.rfl
theorem p_neB {X : Exn → Sto → Prop} (i j : Bool) (S : Sto) (Q : D → Sto → Prop) : OkX X (cmpD .ne (.bl i) (.bl j) S) Q ↔ Q (.bl (!(i == j))) S := by
  show OkX X (match eqD S (.bl i) (.bl j) with
    | some b => .ok (.bl (!b)) S
    | none => .bad) Q ↔ _
  rw [eqD_bl]; exact Iff.rfl

/-! ### sizes -/
/-- i has fewer than n bits -/
def Bi' (n : Nat) (i : Int) : Prop := i.natAbs < 2 ^ n
theorem log2_lt_of {a n : Nat} (h : a < 2 ^ n) (hn : 0 < n) : a.log2 < n := by
  by_cases h0 : a = 0
  · subst h0; simpa using hn
  · exact (Nat.log2_lt h0).mpr h
theorem MulOk.of {i j : Int} {n m : Nat} (h1 : Bi' n i) (h2 : Bi' m j) (h : n + m < 999990) : MulOk i j := by
  unfold MulOk
  have a := log2_lt_of (Nat.lt_of_lt_of_le h1 (Nat.pow_le_pow_right (by decide) (Nat.le_succ n))) (Nat.succ_pos _)
  have b := log2_lt_of (Nat.lt_of_lt_of_le h2 (Nat.pow_le_pow_right (by decide) (Nat.le_succ m))) (Nat.succ_pos _)
  omega
theorem DivOk.of {j : Int} {n : Nat} (h0 : j ≠ 0) (h1 : Bi' n j) (h : n < 8990) : DivOk j := by
  refine ⟨h0, ?_⟩
  have a := log2_lt_of (Nat.lt_of_lt_of_le h1 (Nat.pow_le_pow_right (by decide) (Nat.le_succ n))) (Nat.succ_pos _)
  omega
theorem Bi'.mono {n m : Nat} {i : Int} (h : Bi' n i) (hm : n ≤ m) : Bi' m i := Nat.lt_of_lt_of_le h (Nat.pow_le_pow_right (by decide) hm)
theorem Bi'.mul {n m : Nat} {i j : Int} (h : Bi' n i) (k : Bi' m j) : Bi' (n + m) (i * j) := by
  unfold Bi' at *
  rw [Int.natAbs_mul, Nat.pow_add]
  exact Nat.mul_lt_mul'' h k
theorem Bi'.add {n m : Nat} {i j : Int} (h : Bi' n i) (k : Bi' m j) : Bi' (max n m + 1) (i + j) := by
  have h := h.mono (Nat.le_max_left n m)
  have k := k.mono (Nat.le_max_right n m)
  unfold Bi' at *
  rw [Nat.pow_succ]
  omega
theorem Bi'.sub {n m : Nat} {i j : Int} (h : Bi' n i) (k : Bi' m j) : Bi' (max n m + 1) (i - j) := by
  have h := h.mono (Nat.le_max_left n m)
  have k := k.mono (Nat.le_max_right n m)
  unfold Bi' at *
  rw [Nat.pow_succ]
  omega
theorem Bi'.neg {n : Nat} {i : Int} (h : Bi' n i) : Bi' n (-i) := by
  unfold Bi' at *
  rw [Int.natAbs_neg]; exact h

/-! ### fractions -/
def fr (x : Rat) : D := .tup [.int x.num, .int x.den]
theorem fr_inj {x y : Rat} (h : fr x = fr y) : x = y := by
  have h := D.tup.inj h
  have h1 : D.int x.num = D.int y.num := (List.cons.inj h).1
  have h2 : D.int x.den = D.int y.den := (List.cons.inj (List.cons.inj h).2).1
  exact Rat.ext (D.int.inj h1) (by have := D.int.inj h2; omega)
theorem Dt.fr (x : Rat) : Dt 1 (DI.fr x) := Dt.tup (n := 0) fun d hd => by
  rcases List.mem_cons.mp hd with rfl | hd
  · exact .int _ _
  · rcases List.mem_cons.mp hd with rfl | hd
    · exact .int _ _
    · cases hd
def Bt (n : Nat) (x : Rat) : Prop := Bi' n x.num ∧ Bi' n x.den
theorem Bt.mono {n m : Nat} {x : Rat} (h : Bt n x) (hm : n ≤ m) : Bt m x := ⟨h.1.mono hm, h.2.mono hm⟩
theorem div_abs (a b : Int) : (Rat.divInt a b).num.natAbs ≤ a.natAbs := by
  rw [Rat.num_divInt]
  refine Nat.le_trans (Int.natAbs_ediv_le_natAbs _ _) ?_
  rw [Int.natAbs_mul]
  have : b.sign.natAbs ≤ 1 := by
    rw [Int.natAbs_sign]; split <;> decide
  exact Nat.le_trans (Nat.mul_le_mul_right _ this) (by rw [Nat.one_mul]; exact Nat.le_refl _)
theorem div_den (a b : Int) (hb : b ≠ 0) : (Rat.divInt a b).den ≤ b.natAbs := by
  rw [Rat.den_divInt, if_neg hb]
  exact Nat.div_le_self _ _
theorem Bt.div {n : Nat} {a b : Int} (ha : Bi' n a) (hb : Bi' n b) (h0 : b ≠ 0) : Bt n (Rat.divInt a b) :=
  ⟨Nat.lt_of_le_of_lt (div_abs a b) ha, by
    show (((Rat.divInt a b).den : Nat) : Int).natAbs < _
    rw [Int.natAbs_natCast]
    exact Nat.lt_of_le_of_lt (div_den a b h0) hb⟩
/-! ### targets -/
theorem set_nm (i : Nat) (d : D) (env : Env) (P : Env → Prop) : (∃ e, setT (.nm i) d env = some e ∧ P e) ↔ i < env.length ∧ P (env.set i (some d)) := by
  show (∃ e, (if i < env.length then some (env.set i (some d)) else none) = some e ∧ P e) ↔ _
  by_cases h : i < env.length <;> simp [h]
theorem set_tp (is : List Nat) (ds : List D) (env : Env) (P : Env → Prop) : (∃ e, setT (.tp is) (.tup ds) env = some e ∧ P e) ↔ (is.length = ds.length ∧ is.all (· < env.length) = true) ∧ P ((is.zip ds).foldl (fun e p => e.set p.1 (some p.2)) env) := by
  show (∃ e, (if is.length = ds.length ∧ is.all (· < env.length) = true then some ((is.zip ds).foldl (fun e p => e.set p.1 (some p.2)) env) else none) = some e ∧ P e) ↔ _
  by_cases h : is.length = ds.length ∧ is.all (· < env.length) = true
  · rw [if_pos h]
    constructor
    · rintro ⟨e, h1, h2⟩
      cases h1
      exact ⟨h, h2⟩
    · intro h
      exact ⟨_, rfl, h.2⟩
  · rw [if_neg h]
    constructor
    · rintro ⟨e, h1, h2⟩
      cases h1
    · intro h2
      exact (h h2.1).elim
theorem fr_ix0 {X : Exn → Sto → Prop} (x : Rat) (S : Sto) (Q : D → Sto → Prop) : OkX X (ixD (fr x) (.int 0) S) Q ↔ Q (.int x.num) S := p_ixT rfl
theorem fr_ix1 {X : Exn → Sto → Prop} (x : Rat) (S : Sto) (Q : D → Sto → Prop) : OkX X (ixD (fr x) (.int 1) S) Q ↔ Q (.int x.den) S := p_ixT rfl
end DI

/-! P3: fractions, polynomials as lists of fractions, walks. -/
namespace DI
open PySem

theorem rat_add (x y : Rat) : Rat.divInt (x.num * y.den + y.num * x.den) (x.den * y.den) = x + y := by
  have h := Rat.divInt_add_divInt x.num y.num (d₁ := x.den) (d₂ := y.den) (by have := x.den_pos; omega) (by have := y.den_pos; omega)
  rw [Rat.num_divInt_den, Rat.num_divInt_den] at h
  exact h.symm
theorem rat_sub (x y : Rat) : Rat.divInt (x.num * y.den - y.num * x.den) (x.den * y.den) = x - y := by
  rw [Rat.sub_def', ← Rat.divInt_ofNat, Int.natCast_mul]
theorem rat_mul (x y : Rat) : Rat.divInt (x.num * y.num) (x.den * y.den) = x * y := by
  have h := Rat.divInt_mul_divInt x.num y.num (d₁ := x.den) (d₂ := y.den)
  rw [Rat.num_divInt_den, Rat.num_divInt_den] at h
  exact h.symm
theorem rat_div (x y : Rat) : Rat.divInt (x.num * y.den) (x.den * y.num) = x / y := by
  rw [Rat.div_def, Rat.inv_def]
  have h := Rat.divInt_mul_divInt x.num y.den (d₁ := x.den) (d₂ := y.num)
  rw [Rat.num_divInt_den] at h
  exact h.symm
theorem den_ne (x : Rat) : (x.den : Int) ≠ 0 := by have := x.den_pos; omega
theorem den_mul_ne (x y : Rat) : (x.den : Int) * y.den ≠ 0 := Int.mul_ne_zero (den_ne x) (den_ne y)
theorem Bt.num {n : Nat} {x : Rat} (h : Bt n x) : Bi' n x.num := h.1
theorem Bt.den {n : Nat} {x : Rat} (h : Bt n x) : Bi' n x.den := h.2
theorem Bt.add {n m : Nat} {x y : Rat} (h : Bt n x) (k : Bt m y) : Bt (n + m + 1) (x + y) := by
  rw [← rat_add]
  refine Bt.div (((h.num.mul k.den).add (k.num.mul h.den)).mono (by omega)) ((h.den.mul k.den).mono (by omega)) (den_mul_ne x y)
theorem Bt.sub {n m : Nat} {x y : Rat} (h : Bt n x) (k : Bt m y) : Bt (n + m + 1) (x - y) := by
  rw [← rat_sub]
  refine Bt.div (((h.num.mul k.den).sub (k.num.mul h.den)).mono (by omega)) ((h.den.mul k.den).mono (by omega)) (den_mul_ne x y)
theorem Bt.mul {n m : Nat} {x y : Rat} (h : Bt n x) (k : Bt m y) : Bt (n + m) (x * y) := by
  rw [← rat_mul]
  exact Bt.div (h.num.mul k.num) (h.den.mul k.den) (den_mul_ne x y)
theorem num_ne {x : Rat} (h : x ≠ 0) : x.num ≠ 0 := fun z => h (Rat.num_eq_zero.mp z)
theorem Bt.divR {n m : Nat} {x y : Rat} (h : Bt n x) (k : Bt m y) (h0 : y ≠ 0) : Bt (n + m) (x / y) := by
  rw [← rat_div]
  exact Bt.div (h.num.mul k.den) (h.den.mul k.num) (Int.mul_ne_zero (den_ne x) (num_ne h0))
theorem Bt.neg {n : Nat} {x : Rat} (h : Bt n x) : Bt n (-x) := ⟨by rw [Rat.neg_num]; exact h.1.neg, h.2⟩
theorem fr_neg (x : Rat) : fr (-x) = .tup [.int (-x.num), .int x.den] := by
  unfold fr
  rw [Rat.neg_num]
  rfl
theorem fr_zero : fr 0 = .tup [.int 0, .int 1] := rfl
theorem fr_one : fr 1 = .tup [.int 1, .int 1] := rfl
theorem fr_int (i : Int) : fr (i : Rat) = .tup [.int i, .int 1] := rfl
theorem Bt.int {n : Nat} {i : Int} (h : Bi' n i) (hn : 0 < n) : Bt n (i : Rat) := ⟨h, by
  show (1 : Int).natAbs < 2 ^ n
  exact Nat.one_lt_two_pow (by omega)⟩
theorem Bt.zero {n : Nat} (hn : 0 < n) : Bt n 0 := Bt.int (i := 0) (by show (0 : Int).natAbs < _; exact Nat.two_pow_pos n) hn

/-! ### polynomials -/
def po (p : List Rat) : D := .tup (p.map fr)
theorem fr_map_inj : ∀ {p q : List Rat}, p.map fr = q.map fr → p = q
  | [], [], _ => rfl
  | [], _ :: _, h => by cases h
  | _ :: _, [], h => by cases h
  | x :: p, y :: q, h => by
    obtain ⟨h1, h2⟩ := List.cons.inj h
    rw [fr_inj h1, fr_map_inj h2]
theorem po_inj {p q : List Rat} (h : po p = po q) : p = q := fr_map_inj (D.tup.inj h)
theorem Dt.po (p : List Rat) : Dt 2 (DI.po p) := Dt.tup (n := 1) fun d hd => by
  obtain ⟨x, _, rfl⟩ := List.mem_map.mp hd
  exact .fr x
/-- without the zeros at the end -/
def trim : List Rat → List Rat
  | [] => []
  | x :: p => match trim p with
    | [] => if x = 0 then [] else [x]
    | q => x :: q
theorem trim_cons (x : Rat) (p : List Rat) : trim (x :: p) = if trim p = [] then (if x = 0 then [] else [x]) else x :: trim p := by
  show (match trim p with | [] => if x = 0 then [] else [x] | q => x :: q) = _
  cases h : trim p with
  | nil => simp
  | cons a b => simp
theorem trim_snoc0 : ∀ p : List Rat, trim (p ++ [0]) = trim p
  | [] => by simp [trim]
  | x :: p => by rw [List.cons_append, trim_cons, trim_cons, trim_snoc0 p]
theorem trim_snoc (x : Rat) (hx : x ≠ 0) : ∀ p : List Rat, trim (p ++ [x]) = p ++ [x]
  | [] => by simp [trim, hx]
  | y :: p => by
    rw [List.cons_append, trim_cons, trim_snoc x hx p]
    simp
theorem trim_last {p : List Rat} (h : ∀ x, p.getLast? = some x → x ≠ 0) : trim p = p := by
  rcases List.eq_nil_or_concat p with rfl | ⟨q, x, rfl⟩
  · rfl
  · rw [List.concat_eq_append] at h ⊢
    exact trim_snoc x (h x (by simp)) q
theorem trim_ne0 : ∀ {p : List Rat} {x : Rat}, (trim p).getLast? = some x → x ≠ 0
  | [], x, h => by simp [trim] at h
  | y :: p, x, h => by
    rw [trim_cons] at h
    by_cases h1 : trim p = []
    · rw [if_pos h1] at h
      by_cases h2 : y = 0
      · rw [if_pos h2] at h; simp at h
      · rw [if_neg h2] at h
        simp at h; rw [← h]; exact h2
    · rw [if_neg h1] at h
      refine trim_ne0 (p := p) ?_
      rw [← h]
      cases q : trim p with
      | nil => exact absurd q h1
      | cons a b => simp
theorem trim_len : ∀ p : List Rat, (trim p).length ≤ p.length
  | [] => Nat.le_refl _
  | x :: p => by
    rw [trim_cons]
    have := trim_len p
    split
    · split <;> simp
    · simp; exact this
theorem trim_mem : ∀ {p : List Rat} {x : Rat}, x ∈ trim p → x ∈ p
  | [], x, h => h
  | y :: p, x, h => by
    rw [trim_cons] at h
    split at h
    · split at h
      · cases h
      · rcases List.mem_cons.mp h with rfl | h
        · exact List.mem_cons_self
        · cases h
    · rcases List.mem_cons.mp h with rfl | h
      · exact List.mem_cons_self
      · exact List.mem_cons_of_mem _ (trim_mem h)

/-! ### walks -/
theorem rng0 {n : Nat} (h : n ≤ 1000000) : rngD 0 n 1 = some (.its ((List.range n).map fun k : Nat => .int (k : Nat))) := by
  unfold rngD
  rw [if_pos (by omega), if_pos rfl]
  simp
theorem rngI {lo : Int} {n : Nat} (h1 : -1000000 ≤ lo) (h2 : lo + n ≤ 1000000) (h3 : lo ≤ 1000000) : rngD lo (lo + n) 1 = some (.its ((List.range n).map fun k : Nat => .int (lo + k))) := by
  unfold rngD
  rw [if_pos (by omega), if_pos rfl]
  have : (lo + n - lo).toNat = n := by omega
  rw [this]
  simp
/-- a comprehension over written items, the store left as it is -/
theorem map_its {X : Exn → Sto → Prop} {xs : List D} {f : D → Sto → Out (List D)} {g : D → D} {S : Sto} {Q : List D → Sto → Prop} (h : ∀ x ∈ xs, OkX X (f x S) fun ys S' => ys = [g x] ∧ S' = S) (q : Q (xs.map g) S) : OkX X (mapO (.its xs) f (Src.its xs).len 0 S) Q := by
  have := map_inv (s := .its xs) (f := f) (Q := fun ds S' => Q ds S') (fun i ds S' => ds = (xs.take i).map g ∧ S' = S) (fun ds S' hh => by
    obtain ⟨rfl, rfl⟩ := hh
    refine ⟨rfl, ?_⟩
    have : xs.take (Src.its xs).len = xs := List.take_length
    rw [this]; exact q) (fun i ds S' hi hh => by
    obtain ⟨rfl, rfl⟩ := hh
    have hi : i < xs.length := hi
    refine ⟨xs[i], List.getElem?_eq_getElem hi, (h xs[i] (List.getElem_mem hi)).mono fun ys S'' hy => ?_⟩
    obtain ⟨rfl, rfl⟩ := hy
    refine ⟨?_, rfl⟩
    rw [List.take_succ_eq_append_getElem hi, List.map_append]
    rfl) (Src.its xs).len 0 [] S (Nat.add_zero _) ⟨rfl, rfl⟩
  exact this.mono fun ds S' h => h
/-- a comprehension over a range -/
theorem map_rng {X : Exn → Sto → Prop} {n : Nat} {lo : Int} {f : D → Sto → Out (List D)} {g : Nat → D} {S : Sto} {Q : List D → Sto → Prop} (h : ∀ k, k < n → OkX X (f (.int (lo + k)) S) fun ys S' => ys = [g k] ∧ S' = S) (q : Q ((List.range n).map g) S) : OkX X (mapO (.its ((List.range n).map fun k : Nat => .int (lo + k))) f (Src.its ((List.range n).map fun k : Nat => D.int (lo + k))).len 0 S) Q := by
  have := map_inv (s := .its ((List.range n).map fun k : Nat => .int (lo + k))) (f := f) (Q := fun ds S' => Q ds S') (fun i ds S' => ds = ((List.range n).take i).map g ∧ S' = S) (fun ds S' hh => by
    obtain ⟨rfl, rfl⟩ := hh
    refine ⟨rfl, ?_⟩
    have e : (Src.its ((List.range n).map fun k : Nat => D.int (lo + k))).len = n := by show ((List.range n).map _).length = n; simp
    rw [e, List.take_of_length_le (by simp)]; exact q) (fun i ds S' hi hh => by
    obtain ⟨rfl, rfl⟩ := hh
    have hi : i < n := by have : i < ((List.range n).map fun k : Nat => D.int (lo + k)).length := hi; simpa using this
    refine ⟨.int (lo + i), by show ((List.range n).map _)[i]? = _; simp [hi], (h i hi).mono fun ys S'' hy => ?_⟩
    obtain ⟨rfl, rfl⟩ := hy
    refine ⟨?_, rfl⟩
    rw [List.take_succ_eq_append_getElem (by simpa using hi), List.map_append]
    simp) (Src.its ((List.range n).map fun k : Nat => D.int (lo + k))).len 0 [] S (Nat.add_zero _) ⟨rfl, rfl⟩
  exact this.mono fun ds S' h => h
end DI

/-! P4: the store, the draws. -/
namespace DI
open PySem

theorem q_ixT {X : Exn → Sto → Prop} (ds : List D) (i : Int) (S : Sto) (Q : D → Sto → Prop) : OkX X (ixD (.tup ds) (.int i) S) Q ↔ ∃ d, L2.atI ds i = some d ∧ Q d S := by
  show OkX X (match L2.atI ds i with
    | some d => .ok d S
    | none => .bad) Q ↔ _
  cases L2.atI ds i <;> simp
theorem q_ixL {X : Exn → Sto → Prop} {n : Nat} {ds : List D} {S : Sto} (h0 : S[n]? = some (.lst ds)) (i : Int) (Q : D → Sto → Prop) : OkX X (ixD (.ref n) (.int i) S) Q ↔ ∃ d, L2.atI ds i = some d ∧ Q d S := by
  show OkX X (match S[n]? with
    | some (.lst ds) => match L2.atI ds i with
      | some d => .ok d S
      | none => .bad
    | some (.rol ds) => match L2.atI ds i with
      | some d => .ok d S
      | none => .bad
    | _ => .bad) Q ↔ _
  rw [h0]
  show OkX X (match L2.atI ds i with
      | some d => .ok d S
      | none => .bad) Q ↔ _
  cases L2.atI ds i <;> simp
theorem q_ixLs {X : Exn → Sto → Prop} {n : Nat} {o : SO} {S : Sto} (h0 : S[n]? = some o) (ds : List D) (i : Int) (Q : D → Sto → Prop) : OkX X (ixD (.ref n) (.int i) (S.set n (.lst ds))) Q ↔ ∃ d, L2.atI ds i = some d ∧ Q d (S.set n (.lst ds)) := q_ixL (List.getElem?_set_self (List.getElem?_eq_some_iff.mp h0).1) i Q
theorem q_set {n : Nat} {ds : List D} {S : Sto} (h0 : S[n]? = some (.lst ds)) (k : Int) (v : D) (P : Sto → Prop) : (∃ S', setIx (.ref n) (.int k) v S = some S' ∧ P S') ↔ ∃ j, L2.ixN ds.length k = some j ∧ P (S.set n (.lst (ds.set j v))) := by
  have e : setIx (.ref n) (.int k) v S = (L2.ixN ds.length k).map fun j => S.set n (.lst (ds.set j v)) := by
    unfold setIx
    simp only [h0]
    cases L2.ixN ds.length k <;> rfl
  rw [e]
  cases L2.ixN ds.length k <;> simp
theorem q_sets {n : Nat} {o : SO} {S : Sto} (h0 : S[n]? = some o) (ds : List D) (k : Int) (v : D) (P : Sto → Prop) : (∃ S', setIx (.ref n) (.int k) v (S.set n (.lst ds)) = some S' ∧ P S') ↔ ∃ j, L2.ixN ds.length k = some j ∧ P (S.set n (.lst (ds.set j v))) := by
  rw [q_set (List.getElem?_set_self (List.getElem?_eq_some_iff.mp h0).1)]
  simp only [List.set_set]
theorem set_ix {n : Nat} {ds : List D} {k : Int} {j : Nat} {S : Sto} {v : D} (h0 : S[n]? = some (.lst ds)) (hj : L2.ixN ds.length k = some j) (P : Sto → Prop) : (∃ S', setIx (.ref n) (.int k) v S = some S' ∧ P S') ↔ P (S.set n (.lst (ds.set j v))) := by
  have e : setIx (.ref n) (.int k) v S = some (S.set n (.lst (ds.set j v))) := by
    unfold setIx
    simp only [h0, hj]
  rw [e]
  exact ⟨fun ⟨S', h1, h2⟩ => by cases h1; exact h2, fun h => ⟨_, rfl, h⟩⟩
theorem get_set {n : Nat} {S : Sto} {o u : SO} (h : S[n]? = some o) : (S.set n u)[n]? = some u := List.getElem?_set_self (List.getElem?_eq_some_iff.mp h).1
theorem get_set_ne {n m : Nat} {S : Sto} {u : SO} (h : m ≠ n) : (S.set n u)[m]? = S[m]? := List.getElem?_set_ne (Ne.symm h)
/-- the store, but for n, goes on -/
structure Ext (n : Nat) (S S' : Sto) : Prop where
  len : S.length ≤ S'.length
  get : ∀ i, i < S.length → i ≠ n → S'[i]? = S[i]?
theorem Ext.refl (n : Nat) (S : Sto) : Ext n S S := ⟨Nat.le_refl _, fun _ _ _ => rfl⟩
theorem Ext.trans {n : Nat} {S S' S'' : Sto} (a : Ext n S S') (b : Ext n S' S'') : Ext n S S'' := ⟨Nat.le_trans a.len b.len, fun i h1 h2 => by rw [b.get i (Nat.lt_of_lt_of_le h1 a.len) h2, a.get i h1 h2]⟩
theorem Ext.set (n : Nat) (S : Sto) (o : SO) : Ext n S (S.set n o) := ⟨by simp, fun i _ h => get_set_ne h⟩
theorem Ext.app (n : Nat) (S J : Sto) : Ext n S (S ++ J) := ⟨by simp, fun i h _ => List.getElem?_append_left h⟩
theorem Ext.at {n : Nat} {S S' : Sto} (a : Ext n S S') {i : Nat} {o : SO} (h : S[i]? = some o) (hn : i ≠ n) : S'[i]? = some o := by
  rw [a.get i (List.getElem?_eq_some_iff.mp h).1 hn]; exact h
theorem app_at {S : Sto} {i : Nat} {o : SO} (J : Sto) (h : S[i]? = some o) : (S ++ J)[i]? = some o := by
  rw [List.getElem?_append_left (List.getElem?_eq_some_iff.mp h).1]; exact h
theorem app_new (S : Sto) (o : SO) : (S ++ [o])[S.length]? = some o := by simp
/-- the drawing state at n -/
def Rng (S : Sto) (n : Nat) : Prop := ∃ (m : Nat) (cs : List Int) (i b c : Int), S[n]? = some (.lst [.ref m, .int i, .int b, .int c]) ∧ S[m]? = some (.lst (cs.map D.int)) ∧ m ≠ n ∧ 0 ≤ i ∧ 0 ≤ b ∧ 0 ≤ c ∧ c < 2147483647
theorem Rng.app {S : Sto} {n : Nat} (J : Sto) (r : Rng S n) : Rng (S ++ J) n := by
  obtain ⟨m, cs, i, b, c, h1, h2, h3⟩ := r
  exact ⟨m, cs, i, b, c, app_at J h1, app_at J h2, h3⟩
theorem Rng.lt {S : Sto} {n : Nat} (r : Rng S n) : n < S.length := by
  obtain ⟨m, cs, i, b, c, h1, _⟩ := r
  exact (List.getElem?_eq_some_iff.mp h1).1
theorem fmod_in {x y : Int} (hy : 0 < y) : 0 ≤ x.fmod y ∧ x.fmod y < y := by
  rw [Int.fmod_eq_emod_of_nonneg _ (Int.le_of_lt hy)]
  exact ⟨Int.emod_nonneg _ (by omega), Int.emod_lt_of_pos _ hy⟩
theorem fdiv_in {x y : Int} (hx : 0 ≤ x) (hy : 0 < y) : 0 ≤ x.fdiv y ∧ x.fdiv y ≤ x := by
  rw [Int.fdiv_eq_ediv_of_nonneg _ (Int.le_of_lt hy)]
  exact ⟨Int.ediv_nonneg hx (by omega), Int.ediv_le_self _ hx⟩
theorem atI_0 {α : Type} (l : List α) : L2.atI l 0 = l[0]? := by
  unfold L2.atI L2.ixN
  rw [if_pos (by decide)]
  split
  · rfl
  · rw [List.getElem?_eq_none (by omega)]; rfl
theorem ixN_0 (n : Nat) : L2.ixN n 0 = if 0 < n then some 0 else none := by
  unfold L2.ixN
  rw [if_pos (by decide)]
  by_cases h : 0 < n
  · rw [if_pos h, if_pos (by omega)]; rfl
  · rw [if_neg h, if_neg (by omega)]
theorem atI_1 {α : Type} (l : List α) : L2.atI l 1 = l[1]? := by
  unfold L2.atI L2.ixN
  rw [if_pos (by decide)]
  split
  · rfl
  · rw [List.getElem?_eq_none (by omega)]; rfl
theorem ixN_1 (n : Nat) : L2.ixN n 1 = if 1 < n then some 1 else none := by
  unfold L2.ixN
  rw [if_pos (by decide)]
  by_cases h : 1 < n
  · rw [if_pos h, if_pos (by omega)]; rfl
  · rw [if_neg h, if_neg (by omega)]
theorem atI_2 {α : Type} (l : List α) : L2.atI l 2 = l[2]? := by
  unfold L2.atI L2.ixN
  rw [if_pos (by decide)]
  split
  · rfl
  · rw [List.getElem?_eq_none (by omega)]; rfl
theorem ixN_2 (n : Nat) : L2.ixN n 2 = if 2 < n then some 2 else none := by
  unfold L2.ixN
  rw [if_pos (by decide)]
  by_cases h : 2 < n
  · rw [if_pos h, if_pos (by omega)]; rfl
  · rw [if_neg h, if_neg (by omega)]
theorem atI_3 {α : Type} (l : List α) : L2.atI l 3 = l[3]? := by
  unfold L2.atI L2.ixN
  rw [if_pos (by decide)]
  split
  · rfl
  · rw [List.getElem?_eq_none (by omega)]; rfl
theorem ixN_3 (n : Nat) : L2.ixN n 3 = if 3 < n then some 3 else none := by
  unfold L2.ixN
  rw [if_pos (by decide)]
  by_cases h : 3 < n
  · rw [if_pos h, if_pos (by omega)]; rfl
  · rw [if_neg h, if_neg (by omega)]
theorem atI_4 {α : Type} (l : List α) : L2.atI l 4 = l[4]? := by
  unfold L2.atI L2.ixN
  rw [if_pos (by decide)]
  split
  · rfl
  · rw [List.getElem?_eq_none (by omega)]; rfl
theorem ixN_4 (n : Nat) : L2.ixN n 4 = if 4 < n then some 4 else none := by
  unfold L2.ixN
  rw [if_pos (by decide)]
  by_cases h : 4 < n
  · rw [if_pos h, if_pos (by omega)]; rfl
  · rw [if_neg h, if_neg (by omega)]
theorem atI_5 {α : Type} (l : List α) : L2.atI l 5 = l[5]? := by
  unfold L2.atI L2.ixN
  rw [if_pos (by decide)]
  split
  · rfl
  · rw [List.getElem?_eq_none (by omega)]; rfl
theorem ixN_5 (n : Nat) : L2.ixN n 5 = if 5 < n then some 5 else none := by
  unfold L2.ixN
  rw [if_pos (by decide)]
  by_cases h : 5 < n
  · rw [if_pos h, if_pos (by omega)]; rfl
  · rw [if_neg h, if_neg (by omega)]
theorem atI_6 {α : Type} (l : List α) : L2.atI l 6 = l[6]? := by
  unfold L2.atI L2.ixN
  rw [if_pos (by decide)]
  split
  · rfl
  · rw [List.getElem?_eq_none (by omega)]; rfl
theorem ixN_6 (n : Nat) : L2.ixN n 6 = if 6 < n then some 6 else none := by
  unfold L2.ixN
  rw [if_pos (by decide)]
  by_cases h : 6 < n
  · rw [if_pos h, if_pos (by omega)]; rfl
  · rw [if_neg h, if_neg (by omega)]
theorem atI_7 {α : Type} (l : List α) : L2.atI l 7 = l[7]? := by
  unfold L2.atI L2.ixN
  rw [if_pos (by decide)]
  split
  · rfl
  · rw [List.getElem?_eq_none (by omega)]; rfl
theorem ixN_7 (n : Nat) : L2.ixN n 7 = if 7 < n then some 7 else none := by
  unfold L2.ixN
  rw [if_pos (by decide)]
  by_cases h : 7 < n
  · rw [if_pos h, if_pos (by omega)]; rfl
  · rw [if_neg h, if_neg (by omega)]
theorem atI_8 {α : Type} (l : List α) : L2.atI l 8 = l[8]? := by
  unfold L2.atI L2.ixN
  rw [if_pos (by decide)]
  split
  · rfl
  · rw [List.getElem?_eq_none (by omega)]; rfl
theorem ixN_8 (n : Nat) : L2.ixN n 8 = if 8 < n then some 8 else none := by
  unfold L2.ixN
  rw [if_pos (by decide)]
  by_cases h : 8 < n
  · rw [if_pos h, if_pos (by omega)]; rfl
  · rw [if_neg h, if_neg (by omega)]
theorem atI_9 {α : Type} (l : List α) : L2.atI l 9 = l[9]? := by
  unfold L2.atI L2.ixN
  rw [if_pos (by decide)]
  split
  · rfl
  · rw [List.getElem?_eq_none (by omega)]; rfl
theorem ixN_9 (n : Nat) : L2.ixN n 9 = if 9 < n then some 9 else none := by
  unfold L2.ixN
  rw [if_pos (by decide)]
  by_cases h : 9 < n
  · rw [if_pos h, if_pos (by omega)]; rfl
  · rw [if_neg h, if_neg (by omega)]
theorem dk {j : Int} (h0 : j ≠ 0) (h : j.natAbs < 2 ^ 64) : DivOk j := DivOk.of (n := 64) h0 h (by decide)
theorem mk {i j : Int} (h : i.natAbs < 2 ^ 400000) (h' : j.natAbs < 2 ^ 64) : MulOk i j := MulOk.of (n := 400000) (m := 64) h h' (by decide)
theorem mk64 {i j : Int} (h : i.natAbs < 18446744073709551616) (h' : j.natAbs < 18446744073709551616) : MulOk i j := MulOk.of (n := 64) (m := 64) h h' (by decide)
theorem beq_tt : (true == true) = true := rfl
theorem beq_tf : (true == false) = false := rfl
theorem beq_ft : (false == true) = false := rfl
theorem beq_ff : (false == false) = true := rfl
theorem Bi'.small {n : Nat} {i : Int} (h : i.natAbs < 18446744073709551616) (hn : 64 ≤ n) : Bi' n i := Bi'.mono (n := 64) h hn
theorem Bi'.of {n : Nat} {i : Int} (h : i.natAbs < 2 ^ n) : Bi' n i := h
end DI

/-! P5: isinstance, same data, slices of lists. -/
namespace DI
open PySem
theorem kit_int_dict : L2.kitB "int" "dict" = some false := by decide +kernel
theorem kit_int_tuple : L2.kitB "int" "tuple" = some false := by decide +kernel
theorem kit_int_list : L2.kitB "int" "list" = some false := by decide +kernel
theorem kit_int_bool : L2.kitB "int" "bool" = some false := by decide +kernel
theorem kit_str_dict : L2.kitB "str" "dict" = some false := by decide +kernel
theorem kit_str_tuple : L2.kitB "str" "tuple" = some false := by decide +kernel
theorem kit_str_list : L2.kitB "str" "list" = some false := by decide +kernel
theorem kit_str_bool : L2.kitB "str" "bool" = some false := by decide +kernel
theorem kit_bool_dict : L2.kitB "bool" "dict" = some false := by decide +kernel
theorem kit_bool_tuple : L2.kitB "bool" "tuple" = some false := by decide +kernel
theorem kit_bool_list : L2.kitB "bool" "list" = some false := by decide +kernel
theorem kit_bool_bool : L2.kitB "bool" "bool" = some true := by decide +kernel
theorem kit_NoneType_dict : L2.kitB "NoneType" "dict" = some false := by decide +kernel
theorem kit_NoneType_tuple : L2.kitB "NoneType" "tuple" = some false := by decide +kernel
theorem kit_NoneType_list : L2.kitB "NoneType" "list" = some false := by decide +kernel
theorem kit_NoneType_bool : L2.kitB "NoneType" "bool" = some false := by decide +kernel
theorem kit_tuple_dict : L2.kitB "tuple" "dict" = some false := by decide +kernel
theorem kit_tuple_tuple : L2.kitB "tuple" "tuple" = some true := by decide +kernel
theorem kit_tuple_list : L2.kitB "tuple" "list" = some false := by decide +kernel
theorem kit_tuple_bool : L2.kitB "tuple" "bool" = some false := by decide +kernel
theorem kit_list_dict : L2.kitB "list" "dict" = some false := by decide +kernel
theorem kit_list_tuple : L2.kitB "list" "tuple" = some false := by decide +kernel
theorem kit_list_list : L2.kitB "list" "list" = some true := by decide +kernel
theorem kit_list_bool : L2.kitB "list" "bool" = some false := by decide +kernel

theorem p_isi {X : Exn → Sto → Prop} (x : D) (n : String) (S : Sto) (Q : D → Sto → Prop) : OkX X (biD .isinst [x, .bty n] S) Q ↔ ∃ a, tyN S x = some a ∧ ∃ b, L2.kitB a n = some b ∧ Q (.bl b) S := by
  show OkX X (match (tyN S x).bind fun a => L2.kitB a n with
    | some b => .ok (.bl b) S
    | none => .bad) Q ↔ _
  cases tyN S x with
  | none => simp
  | some a =>
    show OkX X (match L2.kitB a n with
    | some b => .ok (.bl b) S
    | none => .bad) Q ↔ ∃ a_1, some a = some a_1 ∧ _
    constructor
    · intro h
      refine ⟨a, rfl, ?_⟩
      cases e : L2.kitB a n with
      | none => rw [e] at h; exact h.elim
      | some b => rw [e] at h; exact ⟨b, rfl, h⟩
    · rintro ⟨a', e', b, e, h⟩
      cases e'
      rw [e]
      exact h
theorem p_isis {X : Exn → Sto → Prop} (x : D) (cs : List D) (S : Sto) (Q : D → Sto → Prop) : OkX X (biD .isinst [x, .tup cs] S) Q ↔ ∃ a, tyN S x = some a ∧ ∃ b, isAny a cs = some b ∧ Q (.bl b) S := by
  show OkX X (match (tyN S x).bind fun a => isAny a cs with
    | some b => .ok (.bl b) S
    | none => .bad) Q ↔ _
  cases tyN S x with
  | none => simp
  | some a =>
    show OkX X (match isAny a cs with
    | some b => .ok (.bl b) S
    | none => .bad) Q ↔ ∃ a_1, some a = some a_1 ∧ _
    constructor
    · intro h
      refine ⟨a, rfl, ?_⟩
      cases e : isAny a cs with
      | none => rw [e] at h; exact h.elim
      | some b => rw [e] at h; exact ⟨b, rfl, h⟩
    · rintro ⟨a', e', b, e, h⟩
      cases e'
      rw [e]
      exact h
theorem isAny_nil (a : String) : isAny a [] = some false := rfl
theorem isAny_cons {a n : String} {r : List D} {b : Bool} (h : L2.kitB a n = some b) : isAny a (.bty n :: r) = if b then (isAny a r).map fun _ => true else isAny a r := by
  show (match L2.kitB a n with
    | some true => (isAny a r).map fun _ => true
    | some false => isAny a r
    | none => none) = _
  rw [h]
  cases b <;> rfl
theorem any_int : isAny "int" [.bty "tuple", .bty "list"] = some false := by rw [isAny_cons kit_int_tuple, isAny_cons kit_int_list]; rfl
theorem any_str : isAny "str" [.bty "tuple", .bty "list"] = some false := by rw [isAny_cons kit_str_tuple, isAny_cons kit_str_list]; rfl
theorem any_bool : isAny "bool" [.bty "tuple", .bty "list"] = some false := by rw [isAny_cons kit_bool_tuple, isAny_cons kit_bool_list]; rfl
theorem any_non : isAny "NoneType" [.bty "tuple", .bty "list"] = some false := by rw [isAny_cons kit_NoneType_tuple, isAny_cons kit_NoneType_list]; rfl
theorem any_tuple : isAny "tuple" [.bty "tuple", .bty "list"] = some true := by rw [isAny_cons kit_tuple_tuple, isAny_cons kit_tuple_list]; rfl
theorem any_list : isAny "list" [.bty "tuple", .bty "list"] = some true := by rw [isAny_cons kit_list_tuple, isAny_cons kit_list_list]; rfl
theorem ty_list {S : Sto} {n : Nat} {ds : List D} (h : S[n]? = some (.lst ds)) : tyN S (.ref n) = some "list" := by
  show (match S[n]? with
    | some (.lst _) => some "list"
    | some (.rol _) => some "list"
    | _ => none) = _
  rw [h]
theorem p_slK {X : Exn → Sto → Prop} (ds : List D) (lo hi : Option Int) (S : Sto) (Q : D → Sto → Prop) : OkX X (slD (.kls ds) lo hi S) Q ↔ Q (.ref S.length) (S ++ [.lst (cutD ds lo hi)]) := Iff.rfl
theorem p_slT {X : Exn → Sto → Prop} (ds : List D) (lo hi : Option Int) (S : Sto) (Q : D → Sto → Prop) : OkX X (slD (.tup ds) lo hi S) Q ↔ Q (.tup (cutD ds lo hi)) S := Iff.rfl
theorem p_slL {X : Exn → Sto → Prop} {n : Nat} {ds : List D} {S : Sto} (h : S[n]? = some (.lst ds)) (lo hi : Option Int) (Q : D → Sto → Prop) : OkX X (slD (.ref n) lo hi S) Q ↔ Q (.ref S.length) (S ++ [.lst (cutD ds lo hi)]) := by
  show OkX X (match S[n]? with
    | some (.lst ds) => .ok (.ref S.length) (S ++ [.lst (cutD ds lo hi)])
    | some (.rol ds) => .ok (.ref S.length) (S ++ [.lst (cutD ds lo hi)])
    | _ => .bad) Q ↔ _
  rw [h]; exact Iff.rfl
theorem p_revT {X : Exn → Sto → Prop} (ds : List D) (S : Sto) (Q : D → Sto → Prop) : OkX X (revD (.tup ds) S) Q ↔ Q (.tup ds.reverse) S := Iff.rfl
theorem cutD_map {α : Type} (f : α → D) (l : List α) (lo hi : Option Int) : cutD (l.map f) lo hi = (cutD l lo hi).map f := by
  unfold cutD
  rw [List.length_map, List.map_take, List.map_drop]
theorem cutD_len {α : Type} (l : List α) (lo hi : Option Int) : (cutD l lo hi).length ≤ l.length := by
  unfold cutD
  rw [List.length_take, List.length_drop]
  omega
theorem cutD_to {α : Type} (l : List α) (n : Nat) (h : n ≤ l.length) : cutD l none (some (n : Int)) = l.take n := by
  unfold cutD
  rw [HT.sIx_none, HT.sIx_nat, Nat.sub_zero, List.drop_zero, Nat.min_eq_left h]
theorem src_lst {S : Sto} {n : Nat} {ds : List D} (h : S[n]? = some (.lst ds)) (P : Src → Prop) : (∃ s, srcOf (.ref n) S = some s ∧ P s) ↔ P (Src.live n ds.length false) := by
  have : srcOf (.ref n) S = some (Src.live n ds.length false) := by
    show (match S[n]? with
    | some (.lst ds) | some (.rol ds) => some (Src.live n ds.length false)
    | _ => none) = _
    rw [h]
  rw [this]
  simp
theorem src_tup (S : Sto) (ds : List D) (P : Src → Prop) : (∃ s, srcOf (.tup ds) S = some s ∧ P s) ↔ P (Src.its ds) := by
  show (∃ s, some (Src.its ds) = some s ∧ P s) ↔ _
  simp
theorem live_at {S : Sto} {n k i : Nat} {ds : List D} (h : S[n]? = some (.lst ds)) (hk : ds.length = k) : (Src.live n k false).at S i = ds[i]? := by
  show (match S[n]? with
    | some (.lst ds) | some (.rol ds) => if ds.length = k then ds[i]?.map fun d => if false = true then D.tup [.int (i : Nat), d] else d else none
    | _ => none) = _
  rw [h]
  show (if ds.length = k then ds[i]?.map fun d => if false = true then D.tup [.int (i : Nat), d] else d else none) = _
  rw [if_pos hk]
  simp
theorem live_fin {S : Sto} {n k : Nat} {ds : List D} {b : Bool} (h : S[n]? = some (.lst ds)) (hk : ds.length = k) : (Src.live n k b).fin S = true := by
  show (match S[n]? with
    | some (.lst ds) | some (.rol ds) => decide (ds.length = k)
    | _ => false) = true
  rw [h]
  exact decide_eq_true hk
theorem p_all {X : Exn → Sto → Prop} {S : Sto} {n : Nat} {ds : List D} {b : Bool} (h : S[n]? = some (.lst ds)) (hb : allD ds = some b) (Q : D → Sto → Prop) : OkX X (biD .all [.ref n] S) Q ↔ Q (.bl b) S := by
  show OkX X (match S[n]? with
    | some (.lst ds) => match allD ds with
      | some b => .ok (.bl b) S
      | none => .bad
    | _ => .bad) Q ↔ _
  rw [h]
  show OkX X (match allD ds with
      | some b => .ok (.bl b) S
      | none => .bad) Q ↔ _
  rw [hb]
  exact Iff.rfl
theorem all_true : ∀ n, allD (List.replicate n (.bl true)) = some true
  | 0 => rfl
  | n + 1 => by
    rw [List.replicate_succ]
    show (allD (List.replicate n (.bl true))).map (fun q => true && q) = _
    rw [all_true n]
    rfl
/-! ### same data -/
mutual
inductive Same (S : Sto) : Nat → D → D → Prop
  | int {n : Nat} (i : Int) : Same S n (.int i) (.int i)
  | bl {n : Nat} (i : Bool) : Same S n (.bl i) (.bl i)
  | non {n : Nat} : Same S n .non .non
  | str {n : Nat} {s : Str} (h : (PyData.str s).canLay0 = true) : Same S n (.str s) (.str s)
  | tup {n : Nat} {ds es : List D} : es.length ≤ 1000 → Sames S n ds es → Same S (n + 1) (.tup ds) (.tup es)
  | ref {n a b : Nat} {ds es : List D} : S[a]? = some (.lst ds) → S[b]? = some (.lst es) → es.length ≤ 1000 → Sames S n ds es → Same S (n + 1) (.ref a) (.ref b)
inductive Sames (S : Sto) : Nat → List D → List D → Prop
  | nil {n : Nat} : Sames S n [] []
  | cons {n : Nat} {d e : D} {ds es : List D} : Same S n d e → Sames S n ds es → Sames S n (d :: ds) (e :: es)
end
mutual
theorem Same.app {S : Sto} (J : Sto) : ∀ {n : Nat} {d e : D}, Same S n d e → Same (S ++ J) n d e
  | _, _, _, .int i => .int i
  | _, _, _, .bl i => .bl i
  | _, _, _, .non => .non
  | _, _, _, .str h => .str h
  | _, _, _, .tup l h => .tup l (Sames.app J h)
  | _, _, _, .ref h1 h2 l h => .ref (app_at J h1) (app_at J h2) l (Sames.app J h)
theorem Sames.app {S : Sto} (J : Sto) : ∀ {n : Nat} {d e : List D}, Sames S n d e → Sames (S ++ J) n d e
  | _, _, _, .nil => .nil
  | _, _, _, .cons h t => .cons (Same.app J h) (Sames.app J t)
end
theorem Sames.len {S : Sto} : ∀ {n : Nat} {d e : List D}, Sames S n d e → d.length = e.length
  | _, _, _, .nil => rfl
  | _, _, _, .cons _ t => congrArg (· + 1) t.len
theorem Sames.get {S : Sto} : ∀ {n : Nat} {d e : List D} {i : Nat} (h : Sames S n d e) (hi : i < e.length), ∃ x y, d[i]? = some x ∧ e[i]? = some y ∧ Same S n x y
  | _, _, _, _, .nil, hi => by simp at hi
  | _, _, _, 0, .cons h _, hi => ⟨_, _, rfl, rfl, h⟩
  | _, _, _, i + 1, .cons _ t, hi => by
    obtain ⟨x, y, h1, h2, h3⟩ := t.get (i := i) (by simpa using hi)
    exact ⟨x, y, by simpa using h1, by simpa using h2, h3⟩
theorem Same.fr {S : Sto} (x : Rat) : Same S 1 (DI.fr x) (DI.fr x) := .tup (by show 2 ≤ 1000; decide) (.cons (.int _) (.cons (.int _) .nil))
theorem Sames.of {S : Sto} {α : Type} {f g : α → D} {n : Nat} (h : ∀ x, Same S n (f x) (g x)) : ∀ l : List α, Sames S n (l.map f) (l.map g)
  | [] => .nil
  | x :: l => .cons (h x) (Sames.of h l)
theorem Same.po {S : Sto} (p : List Rat) (hl : p.length ≤ 1000) : Same S 2 (DI.po p) (DI.po p) := .tup (by rw [List.length_map]; exact hl) (Sames.of (n := 1) (fun x => Same.fr x) p)
mutual
theorem Same.up {S : Sto} : ∀ {n m : Nat} {d e : D}, Same S n d e → n ≤ m → Same S m d e
  | _, _, _, _, .int i, _ => .int i
  | _, _, _, _, .bl i, _ => .bl i
  | _, _, _, _, .non, _ => .non
  | _, _, _, _, .str h, _ => .str h
  | _, m, _, _, .tup l h, hm => by
    obtain ⟨m, rfl⟩ : ∃ k, m = k + 1 := ⟨m - 1, by omega⟩
    exact .tup l (Sames.up h (by omega))
  | _, m, _, _, .ref h1 h2 l h, hm => by
    obtain ⟨m, rfl⟩ : ∃ k, m = k + 1 := ⟨m - 1, by omega⟩
    exact .ref h1 h2 l (Sames.up h (by omega))
theorem Sames.up {S : Sto} : ∀ {n m : Nat} {d e : List D}, Sames S n d e → n ≤ m → Sames S m d e
  | _, _, _, _, .nil, _ => .nil
  | _, _, _, _, .cons h t, hm => .cons (Same.up h hm) (Sames.up t hm)
end
end DI

/-! P6: polynomials, plainly. -/
namespace DI
open PySem

theorem rngG {lo hi : Int} (h1 : -1000000 ≤ lo) (h2 : lo ≤ 1000000) (h3 : -1000000 ≤ hi) (h4 : hi ≤ 1000000) : rngD lo hi 1 = some (.its ((List.range (hi - lo).toNat).map fun k : Nat => .int (lo + k))) := by
  unfold rngD
  rw [if_pos (by omega), if_pos rfl]
  simp
/-- a comprehension over a range, the store left as it is -/
theorem mapR {X : Exn → Sto → Prop} {n : Nat} {lo : Int} {f : D → Sto → Out (List D)} {g : Nat → D} {S : Sto} {Q : List D → Sto → Prop} (h : ∀ (k : Nat) (I : List D → Sto → Prop), k < n → I [g k] S → OkX X (f (.int (lo + k)) S) I) (q : Q ((List.range n).map g) S) : OkX X (mapO (.its ((List.range n).map fun k : Nat => .int (lo + k))) f (Src.its ((List.range n).map fun k : Nat => D.int (lo + k))).len 0 S) Q :=
  map_rng (g := g) (fun k hk => h k _ hk ⟨rfl, rfl⟩) q
theorem mapR0 {X : Exn → Sto → Prop} {n : Nat} {f : D → Sto → Out (List D)} {g : Nat → D} {S : Sto} {Q : List D → Sto → Prop} (h : ∀ (k : Nat) (I : List D → Sto → Prop), k < n → I [g k] S → OkX X (f (.int (k : Nat)) S) I) (q : Q ((List.range n).map g) S) : OkX X (mapO (.its ((List.range n).map fun k : Nat => .int (k : Nat))) f (Src.its ((List.range n).map fun k : Nat => D.int (k : Nat))).len 0 S) Q := by
  have e : (fun k : Nat => D.int (k : Nat)) = fun k : Nat => D.int ((0 : Int) + k) := by funext k; simp
  rw [e]
  exact mapR (lo := 0) (fun k I hk hI => by have := h k I hk hI; simpa using this) q
/-- over written items -/
theorem mapT {X : Exn → Sto → Prop} {α : Type} {enc : α → D} {l : List α} {f : D → Sto → Out (List D)} {g : α → D} {S : Sto} {Q : List D → Sto → Prop} (h : ∀ (x : α) (I : List D → Sto → Prop), x ∈ l → I [g x] S → OkX X (f (enc x) S) I) (q : Q (l.map g) S) : OkX X (mapO (.its (l.map enc)) f (Src.its (l.map enc)).len 0 S) Q := by
  refine mapL (fun i acc S' => acc = (l.take i).map g ∧ S' = S) ?_ ?_ ⟨rfl, rfl⟩
  · rintro I i acc S' hI hi ⟨rfl, rfl⟩
    have hi : i < l.length := by
      have : i < (l.map enc).length := hi
      simpa using this
    refine ⟨enc l[i], by show (l.map enc)[i]? = _; simp [hi], h l[i] I (List.getElem_mem hi) (hI _ _ ⟨?_, rfl⟩)⟩
    rw [List.take_succ_eq_append_getElem hi, List.map_append]
    rfl
  · rintro acc S' ⟨rfl, rfl⟩
    refine ⟨rfl, ?_⟩
    have e : (Src.its (l.map enc)).len = l.length := List.length_map _
    rw [e, List.take_length]
    exact q
/-- lists are compared -/
theorem toP_lst {S : Sto} {a n : Nat} {ds : List D} {ps : List PyData} (h : S[a]? = some (.lst ds)) (p : PDs n ds ps) (hn : n ≤ 63) : toP S 64 (.ref a) = some (.list ps) := by
  show (match S[a]? with
    | some (.lst ds) => (ds.mapM (toP S 63)).map PyData.list
    | some (.rol ds) => (ds.mapM (toP S 63)).map PyData.list
    | _ => none) = _
  rw [h]
  show (ds.mapM (toP S 63)).map PyData.list = _
  rw [p.toPs 63 hn]
  rfl
theorem Dts {n : Nat} {ds : List D} (h : ∀ d ∈ ds, Dt n d) : ∃ ps, PDs n ds ps := by
  obtain ⟨p, h⟩ := Dt.tup h
  cases h with
  | tup h => exact ⟨_, h⟩
theorem eqD_lst {S : Sto} {a b n m : Nat} {ds es : List D} (ha : S[a]? = some (.lst ds)) (hb : S[b]? = some (.lst es)) (h1 : ∀ d ∈ ds, Dt n d) (h2 : ∀ d ∈ es, Dt m d) (hn : n ≤ 63) (hm : m ≤ 63) : ∃ c, eqD S (.ref a) (.ref b) = some c ∧ (c = true ↔ ds = es) := by
  obtain ⟨ps, h1⟩ := Dts h1
  obtain ⟨qs, h2⟩ := Dts h2
  unfold eqD
  rw [toP_lst ha h1 hn, toP_lst hb h2 hm]
  have s1 : shaped (PyData.list ps) = true := Bool.and_eq_true_iff.mpr ⟨h1.lays.1, decide_eq_true (Nat.succ_le_succ (Nat.le_trans h1.lays.2 hn))⟩
  have s2 : shaped (PyData.list qs) = true := Bool.and_eq_true_iff.mpr ⟨h2.lays.1, decide_eq_true (Nat.succ_le_succ (Nat.le_trans h2.lays.2 hm))⟩
  refine ⟨PyData.eqv (.list ps) (.list qs), ?_, ?_⟩
  · show (if (shaped (PyData.list ps) && shaped (PyData.list qs)) = true then _ else _) = _
    rw [s1, s2]
    rfl
  · show PyData.eqvAll ps qs = true ↔ _
    exact h1.eqvs h2
theorem p_neL {X : Exn → Sto → Prop} {S : Sto} {Q : D → Sto → Prop} {a b n m : Nat} {ds es : List D} (ha : S[a]? = some (.lst ds)) (hb : S[b]? = some (.lst es)) (h1 : ∀ d ∈ ds, Dt n d) (h2 : ∀ d ∈ es, Dt m d) (q : ∀ c, (c = true ↔ ds ≠ es) → Q (.bl c) S) (hn : n ≤ 63 := by decide) (hm : m ≤ 63 := by decide) : OkX X (cmpD .ne (.ref a) (.ref b) S) Q := by
  obtain ⟨c, e1, e2⟩ := eqD_lst ha hb h1 h2 hn hm
  show OkX X (match eqD S (.ref a) (.ref b) with
    | some b => .ok (.bl (!b)) S
    | none => .bad) Q
  rw [e1]
  refine q (!c) ?_
  rw [Ne, ← e2]
  cases c <;> simp
theorem p_eqL {X : Exn → Sto → Prop} {S : Sto} {Q : D → Sto → Prop} {a b n m : Nat} {ds es : List D} (ha : S[a]? = some (.lst ds)) (hb : S[b]? = some (.lst es)) (h1 : ∀ d ∈ ds, Dt n d) (h2 : ∀ d ∈ es, Dt m d) (q : ∀ c, (c = true ↔ ds = es) → Q (.bl c) S) (hn : n ≤ 63 := by decide) (hm : m ≤ 63 := by decide) : OkX X (cmpD .eq (.ref a) (.ref b) S) Q := by
  obtain ⟨c, e1, e2⟩ := eqD_lst ha hb h1 h2 hn hm
  show OkX X (match eqD S (.ref a) (.ref b) with
    | some b => .ok (.bl b) S
    | none => .bad) Q
  rw [e1]
  exact q c e2
theorem p_pop {X : Exn → Sto → Prop} {S : Sto} {n : Nat} {ds : List D} {v : D} {Q : D → Sto → Prop} (h : S[n]? = some (.lst ds)) (hv : ds[ds.length - 1]? = some v) : OkX X (meD .pop (.ref n) [] S) Q ↔ Q v (S.set n (.lst ds.dropLast)) := by
  show OkX X (match S[n]? with
    | some (.lst ds) => match ds[ds.length - 1]? with
      | some v => .ok v (S.set n (.lst ds.dropLast))
      | none => .bad
    | _ => .bad) Q ↔ _
  rw [h]
  show OkX X (match ds[ds.length - 1]? with
      | some v => .ok v (S.set n (.lst ds.dropLast))
      | none => .bad) Q ↔ _
  rw [hv]; exact Iff.rfl
theorem p_push {X : Exn → Sto → Prop} {S : Sto} {n : Nat} {ds : List D} {v : D} {Q : D → Sto → Prop} (h : S[n]? = some (.lst ds)) : OkX X (meD .append (.ref n) [v] S) Q ↔ ds.length < LEN ∧ Q .non (S.set n (.lst (ds ++ [v]))) := by
  show OkX X (match S[n]? with
    | some (.lst ds) => if ds.length < LEN then .ok .non (S.set n (.lst (ds ++ [v]))) else .bad
    | _ => .bad) Q ↔ _
  rw [h]; exact Ok_ite _ _
theorem me_ty {S : Sto} {n : Nat} {ds : List D} {m : Me} (h : S[n]? = some (.lst ds)) : meTy m (.ref n) S = true := by
  show (match S[n]? with
    | some (.lst _) => true
    | _ => false) = true
  rw [h]
theorem p_ladd {X : Exn → Sto → Prop} {S : Sto} {a b : Nat} {xs ys : List D} {Q : D → Sto → Prop} (ha : S[a]? = some (.lst xs)) (hb : S[b]? = some (.lst ys)) : OkX X (binD .add (.ref a) (.ref b) S) Q ↔ xs.length + ys.length ≤ LEN ∧ Q (.ref S.length) (S ++ [.lst (xs ++ ys)]) := by
  show OkX X (match S[a]?, S[b]? with
    | some (.lst xs), some (.lst ys) => if xs.length + ys.length ≤ LEN then .ok (.ref S.length) (S ++ [.lst (xs ++ ys)]) else .bad
    | _, _ => .bad) Q ↔ _
  rw [ha, hb]; exact Ok_ite _ _
theorem p_lrep {X : Exn → Sto → Prop} {S : Sto} {a : Nat} {k : Int} {xs : List D} {Q : D → Sto → Prop} (ha : S[a]? = some (.lst xs)) : OkX X (binD .mul (.ref a) (.int k) S) Q ↔ (-1000000 ≤ k ∧ k ≤ 1000000 ∧ xs.length * k.toNat ≤ LEN) ∧ Q (.ref S.length) (S ++ [.lst (List.replicate k.toNat xs).flatten]) := by
  show OkX X (match S[a]? with
    | some (.lst xs) => if -1000000 ≤ k ∧ k ≤ 1000000 ∧ xs.length * k.toNat ≤ LEN then .ok (.ref S.length) (S ++ [.lst (List.replicate k.toNat xs).flatten]) else .bad
    | _ => .bad) Q ↔ _
  rw [ha]; exact Ok_ite _ _
theorem set_app {S J : Sto} {j : Nat} (o : SO) : (S ++ J).set (S.length + j) o = S ++ J.set j o := by
  have := List.set_append_right (s := S) (t := J) (S.length + j) o (by omega)
  rw [show S.length + j - S.length = j by omega] at this
  exact this
theorem get_app {S J : Sto} {j : Nat} : (S ++ J)[S.length + j]? = J[j]? := by
  rw [List.getElem?_append_right (by omega)]
  simp
theorem get_app0 {S J : Sto} : (S ++ J)[S.length]? = J[0]? := get_app (j := 0)
theorem set_app0 {S J : Sto} (o : SO) : (S ++ J).set S.length o = S ++ J.set 0 o := set_app (j := 0) o

/-! ### polynomials -/
def padd (a b : List Rat) : List Rat := (List.range (max a.length b.length)).map fun k => a.getD k 0 + b.getD k 0
def psub (a b : List Rat) : List Rat := (List.range (max a.length b.length)).map fun k => a.getD k 0 - b.getD k 0
def pneg (a : List Rat) : List Rat := a.map (- ·)
def pder (a : List Rat) : List Rat := (List.range (a.length - 1)).map fun k => ((k + 1 : Nat) : Int) * a.getD (k + 1) 0
def pval (a : List Rat) (v : Rat) : Rat := a.reverse.foldl (fun r x => r * v + x) 0
def pmI (a b : List Rat) (j : Nat) (l : List Rat) (k : Nat) : List Rat := (List.range k).foldl (fun l k => l.set (j + k) (l.getD (j + k) 0 + a.getD j 0 * b.getD k 0)) l
def pmO (a b : List Rat) (j : Nat) : List Rat := (List.range j).foldl (fun l j => pmI a b j l b.length) (List.replicate (a.length + b.length) 0)
def pmul (a b : List Rat) : List Rat := pmO a b a.length
theorem getD_neg (b : List Rat) (k : Nat) : (pneg b).getD k 0 = - b.getD k 0 := by
  unfold pneg
  rw [List.getD_eq_getElem?_getD, List.getD_eq_getElem?_getD, List.getElem?_map]
  cases b[k]? with
  | none => simp
  | some x => simp
theorem padd_neg (a b : List Rat) : padd a (pneg b) = psub a b := by
  unfold padd psub
  have : (pneg b).length = b.length := List.length_map _
  rw [this]
  refine List.map_congr_left fun k _ => ?_
  rw [getD_neg]
  grind
theorem pmI_succ (a b : List Rat) (j : Nat) (l : List Rat) (k : Nat) : pmI a b j l (k + 1) = (pmI a b j l k).set (j + k) ((pmI a b j l k).getD (j + k) 0 + a.getD j 0 * b.getD k 0) := by
  unfold pmI
  rw [List.range_succ, List.foldl_append]
  rfl
theorem pmI_len (a b : List Rat) (j : Nat) (l : List Rat) : ∀ k, (pmI a b j l k).length = l.length := by
  intro k
  induction k with
  | zero => rfl
  | succ k ih => rw [pmI_succ, List.length_set, ih]
theorem pmO_succ (a b : List Rat) (j : Nat) : pmO a b (j + 1) = pmI a b j (pmO a b j) b.length := by
  unfold pmO
  rw [List.range_succ, List.foldl_append]
  rfl
theorem pmO_len (a b : List Rat) : ∀ j, (pmO a b j).length = a.length + b.length := by
  intro j
  induction j with
  | zero => simp [pmO]
  | succ j ih => rw [pmO_succ, pmI_len, ih]
theorem fr_at {p : List Rat} {i : Nat} (h : i < p.length) : L2.atI (p.map fr) (i : Nat) = some (fr p[i]) := atI_nat (by rw [List.getElem?_map, List.getElem?_eq_getElem h]; rfl)
theorem fr_tk {p : List Rat} {e : Nat} (h : e < p.length) : ((p.take (e + 1)).map fr)[e]? = some (fr p[e]) := by
  rw [List.getElem?_map, List.getElem?_take, if_pos (by omega), List.getElem?_eq_getElem h]; rfl
/-- all coefficients have fewer than n bits -/
def PB (n : Nat) (p : List Rat) : Prop := ∀ x ∈ p, Bt n x
theorem PB.get {n : Nat} {p : List Rat} (h : PB n p) (hn : 0 < n) (k : Nat) : Bt n (p.getD k 0) := by
  rw [List.getD_eq_getElem?_getD]
  cases e : p[k]? with
  | none => exact Bt.zero hn
  | some x => exact h x (List.mem_of_getElem? e)
theorem PB.mono {n m : Nat} {p : List Rat} (h : PB n p) (hm : n ≤ m) : PB m p := fun x hx => (h x hx).mono hm
theorem PB.trim {n : Nat} {p : List Rat} (h : PB n p) : PB n (DI.trim p) := fun x hx => h x (trim_mem hx)
theorem PB.set {n : Nat} {p : List Rat} {x : Rat} (h : PB n p) (hx : Bt n x) (i : Nat) : PB n (p.set i x) := fun y hy => by
  rcases List.mem_or_eq_of_mem_set hy with h1 | h1
  · exact h y h1
  · rw [h1]; exact hx
theorem PB.rep {n k : Nat} (hn : 0 < n) : PB n (List.replicate k 0) := fun x hx => by
  rw [(List.mem_replicate.mp hx).2]; exact Bt.zero hn
theorem pmI_bits {B m : Nat} {a b l : List Rat} (ha : PB B a) (hb : PB B b) (hB : 0 < B) (hm : 0 < m) (hl : PB m l) (j : Nat) : ∀ t, PB (m + t * (2 * B + 1)) (pmI a b j l t) := by
  intro t
  induction t with
  | zero => rw [Nat.zero_mul]; exact hl
  | succ t ih =>
    rw [pmI_succ]
    have e : m + (t + 1) * (2 * B + 1) = (m + t * (2 * B + 1)) + (B + B) + 1 := by rw [Nat.add_mul]; omega
    rw [e]
    refine (ih.mono (by omega)).set ?_ _
    exact (ih.get (by omega) _).add ((ha.get hB _).mul (hb.get hB _))
theorem pmO_bits {B : Nat} {a b : List Rat} (ha : PB B a) (hb : PB B b) (hB : 0 < B) : ∀ j, PB (1 + j * (b.length * (2 * B + 1))) (pmO a b j) := by
  intro j
  induction j with
  | zero => rw [Nat.zero_mul]; exact PB.rep (by decide)
  | succ j ih =>
    rw [pmO_succ]
    have := pmI_bits ha hb hB (by omega) ih j b.length
    refine this.mono ?_
    rw [Nat.add_mul]; omega
theorem pm_fit {a b : List Rat} (ha : PB 15 a) (hb : PB 15 b) (la : a.length ≤ 10) (lb : b.length ≤ 10) (j t : Nat) (hj : j < a.length) (ht : t ≤ b.length) : PB 4000 (pmI a b j (pmO a b j) t) := by
  refine (pmI_bits ha hb (by decide) (by omega) (pmO_bits ha hb (by decide) j) j t).mono ?_
  have h1 : j * (b.length * (2 * 15 + 1)) ≤ 10 * (10 * 31) := Nat.mul_le_mul (by omega) (Nat.mul_le_mul lb (Nat.le_refl _))
  have h2 : t * (2 * 15 + 1) ≤ 10 * 31 := Nat.mul_le_mul (by omega) (Nat.le_refl _)
  omega
def pvI (p : List Rat) (v : Rat) (i : Nat) : Rat := (p.reverse.take i).foldl (fun r x => r * v + x) 0
theorem pvI_succ {p : List Rat} {v : Rat} {i : Nat} (h : i < p.reverse.length) : pvI p v (i + 1) = pvI p v i * v + p.reverse[i] := by
  unfold pvI
  rw [List.take_succ_eq_append_getElem h, List.foldl_append]
  rfl
theorem pvI_end (p : List Rat) (v : Rat) : pvI p v p.reverse.length = pval p v := by
  unfold pvI pval
  rw [List.take_length]
theorem pvI_bits {B V : Nat} {p : List Rat} {v : Rat} (hp : PB B p) (hv : Bt V v) : ∀ i, i ≤ p.reverse.length → Bt (1 + i * (V + B + 1)) (pvI p v i) := by
  intro i
  induction i with
  | zero => intro _; rw [Nat.zero_mul]; exact Bt.zero (by decide)
  | succ i ih =>
    intro hi
    rw [pvI_succ (by omega)]
    have := ((ih (by omega)).mul hv).add (hp (p.reverse[i]) (List.mem_reverse.mp (List.getElem_mem _)))
    refine this.mono ?_
    rw [Nat.add_mul]; omega
theorem Ext.toApp {n : Nat} {S S' : Sto} (e : Ext n S S') (J : Sto) : Ext n S (S' ++ J) := e.trans (Ext.app _ _ _)
theorem Bt.one {n : Nat} (hn : 0 < n) : Bt n 1 := Bt.int (i := 1) (show (1 : Int).natAbs < 2 ^ n from Nat.one_lt_two_pow (by omega)) hn
end DI

/-! P7: polynomials by their coefficients. -/
namespace DI
open PySem

/-! ### sums -/
def sm : Nat → (Nat → Rat) → Rat
  | 0, _ => 0
  | n + 1, f => sm n f + f n
theorem sm_congr {f g : Nat → Rat} : ∀ {n : Nat}, (∀ i, i < n → f i = g i) → sm n f = sm n g
  | 0, _ => rfl
  | n + 1, h => by
    show sm n f + f n = sm n g + g n
    rw [sm_congr (fun i hi => h i (by omega)), h n (by omega)]
theorem sm_zero {f : Nat → Rat} {n : Nat} (h : ∀ i, i < n → f i = 0) : sm n f = 0 := by
  induction n with
  | zero => rfl
  | succ n ih =>
    show sm n f + f n = 0
    rw [ih (fun i hi => h i (by omega)), h n (by omega)]; grind
theorem sm_add (f g : Nat → Rat) : ∀ n, sm n (fun i => f i + g i) = sm n f + sm n g
  | 0 => by show (0 : Rat) = 0 + 0; grind
  | n + 1 => by
    show sm n _ + (f n + g n) = (sm n f + f n) + (sm n g + g n)
    rw [sm_add f g n]; grind
theorem sm_mul (c : Rat) (f : Nat → Rat) : ∀ n, sm n (fun i => c * f i) = c * sm n f
  | 0 => by show (0 : Rat) = c * 0; grind
  | n + 1 => by
    show sm n _ + c * f n = c * (sm n f + f n)
    rw [sm_mul c f n]; grind
theorem sm_front (f : Nat → Rat) : ∀ n, sm (n + 1) f = f 0 + sm n (fun i => f (i + 1))
  | 0 => by show sm 0 f + f 0 = f 0 + 0; show (0 : Rat) + f 0 = f 0 + 0; grind
  | n + 1 => by
    show sm (n + 1) f + f (n + 1) = f 0 + (sm n (fun i => f (i + 1)) + f (n + 1))
    rw [sm_front f n]; grind
theorem sm_one {f : Nat → Rat} {n m : Nat} (hm : m < n) (h : ∀ i, i < n → i ≠ m → f i = 0) : sm n f = f m := by
  induction n with
  | zero => omega
  | succ n ih =>
    show sm n f + f n = f m
    by_cases e : m = n
    · subst e
      rw [sm_zero fun i hi => h i (by omega) (by omega)]; grind
    · rw [ih (by omega) fun i hi => h i (by omega), h n (by omega) (fun z => e z.symm)]; grind
theorem sm_more {f : Nat → Rat} {n m : Nat} (h : ∀ i, n ≤ i → f i = 0) (hm : n ≤ m) : sm m f = sm n f := by
  induction m with
  | zero => rw [show n = 0 by omega]
  | succ m ih =>
    by_cases e : n = m + 1
    · rw [e]
    · show sm m f + f m = sm n f
      rw [ih (by omega), h m (by omega)]; grind
theorem sm_flip (f : Nat → Rat) : ∀ n, sm (n + 1) f = sm (n + 1) fun i => f (n - i)
  | 0 => by show (0 : Rat) + f 0 = 0 + f (0 - 0); rfl
  | n + 1 => by
    rw [sm_front (fun i => f (n + 1 - i))]
    show sm (n + 1) f + f (n + 1) = f (n + 1 - 0) + sm (n + 1) fun i => f (n + 1 - (i + 1))
    rw [sm_flip f n]
    have : (fun i => f (n + 1 - (i + 1))) = fun i => f (n - i) := by funext i; congr 1; omega
    rw [this, Nat.sub_zero]; grind

/-! ### coefficients -/
def cf (p : List Rat) (n : Nat) : Rat := p.getD n 0
theorem cf_nil (n : Nat) : cf [] n = 0 := by simp [cf]
theorem cf_cons0 (x : Rat) (p : List Rat) : cf (x :: p) 0 = x := by simp [cf]
theorem cf_cons (x : Rat) (p : List Rat) (n : Nat) : cf (x :: p) (n + 1) = cf p n := by simp [cf]
theorem cf_lt {p : List Rat} {n : Nat} (h : n < p.length) : cf p n = p[n] := by
  unfold cf
  rw [List.getD_eq_getElem?_getD, List.getElem?_eq_getElem h]; rfl
theorem cf_ge {p : List Rat} {n : Nat} (h : p.length ≤ n) : cf p n = 0 := by
  unfold cf
  rw [List.getD_eq_getElem?_getD, List.getElem?_eq_none h]; rfl
theorem cf_trim : ∀ (p : List Rat) (n : Nat), cf (trim p) n = cf p n
  | [], n => rfl
  | x :: p, n => by
    rw [trim_cons]
    by_cases h : trim p = []
    · rw [if_pos h]
      have h0 : ∀ m, cf p m = 0 := fun m => by rw [← cf_trim p m, h, cf_nil]
      by_cases hx : x = 0
      · rw [if_pos hx, cf_nil]
        cases n with
        | zero => rw [cf_cons0, hx]
        | succ n => rw [cf_cons, h0]
      · rw [if_neg hx]
        cases n with
        | zero => rw [cf_cons0, cf_cons0]
        | succ n => rw [cf_cons, cf_cons, h0, cf_nil]
    · rw [if_neg h]
      cases n with
      | zero => rw [cf_cons0, cf_cons0]
      | succ n => rw [cf_cons, cf_cons, cf_trim p n]
theorem trim_nil {p : List Rat} (h : ∀ n, cf p n = 0) : trim p = [] := by
  induction p with
  | nil => rfl
  | cons x p ih =>
    rw [trim_cons, if_pos (ih fun n => by have := h (n + 1); rwa [cf_cons] at this)]
    have := h 0
    rw [cf_cons0] at this
    rw [if_pos this]
theorem trim_ext : ∀ {p q : List Rat}, (∀ n, cf p n = cf q n) → trim p = trim q
  | [], q, h => by
    rw [trim_nil (p := q) fun n => by rw [← h n, cf_nil]]; rfl
  | x :: p, [], h => by
    rw [trim_nil (p := x :: p) fun n => by rw [h n, cf_nil]]; rfl
  | x :: p, y :: q, h => by
    have e : x = y := by have := h 0; rwa [cf_cons0, cf_cons0] at this
    rw [trim_cons, trim_cons, trim_ext (p := p) (q := q) fun n => by have := h (n + 1); rwa [cf_cons, cf_cons] at this, e]
theorem cf_range (f : Nat → Rat) (m n : Nat) : cf ((List.range m).map f) n = if n < m then f n else 0 := by
  by_cases h : n < m
  · rw [if_pos h, cf_lt (by simpa using h)]; simp
  · rw [if_neg h, cf_ge (by simp; omega)]
theorem cf_padd (a b : List Rat) (n : Nat) : cf (padd a b) n = cf a n + cf b n := by
  unfold padd
  rw [cf_range]
  by_cases h : n < max a.length b.length
  · rw [if_pos h]; rfl
  · rw [if_neg h, cf_ge (p := a) (by omega), cf_ge (p := b) (by omega)]; grind
theorem cf_psub (a b : List Rat) (n : Nat) : cf (psub a b) n = cf a n - cf b n := by
  unfold psub
  rw [cf_range]
  by_cases h : n < max a.length b.length
  · rw [if_pos h]; rfl
  · rw [if_neg h, cf_ge (p := a) (by omega), cf_ge (p := b) (by omega)]; grind
theorem cf_map0 {f : Rat → Rat} (hf : f 0 = 0) (a : List Rat) (n : Nat) : cf (a.map f) n = f (cf a n) := by
  by_cases h : n < a.length
  · rw [cf_lt h, cf_lt (by simpa using h)]; simp
  · rw [cf_ge (p := a) (by omega), cf_ge (by simp; omega), hf]
theorem cf_pneg (a : List Rat) (n : Nat) : cf (pneg a) n = - cf a n := cf_map0 (f := (- ·)) (by rfl) a n
theorem cf_pder (a : List Rat) (n : Nat) : cf (pder a) n = ((n + 1 : Nat) : Int) * cf a (n + 1) := by
  unfold pder
  rw [cf_range]
  by_cases h : n < a.length - 1
  · rw [if_pos h]; rfl
  · rw [if_neg h, cf_ge (p := a) (by omega)]; grind
theorem cf_set {l : List Rat} {i : Nat} (x : Rat) (h : i < l.length) (n : Nat) : cf (l.set i x) n = if n = i then x else cf l n := by
  unfold cf
  rw [List.getD_eq_getElem?_getD, List.getD_eq_getElem?_getD, List.getElem?_set]
  by_cases e : n = i
  · subst e
    rw [if_pos rfl, if_pos h, if_pos rfl]; rfl
  · rw [if_neg (fun z => e z.symm), if_neg e]
/-- the product's coefficients -/
def cv (f g : Nat → Rat) (n : Nat) : Rat := sm (n + 1) fun i => f i * g (n - i)
theorem cf_pmI {a b : List Rat} {j : Nat} {l : List Rat} (hj : j < a.length) (hl : l.length = a.length + b.length) : ∀ k, k ≤ b.length → ∀ n, cf (pmI a b j l k) n = cf l n + (if j ≤ n ∧ n - j < k then cf a j * cf b (n - j) else 0) := by
  intro k
  induction k with
  | zero =>
    intro _ n
    rw [if_neg (by omega)]
    show cf l n = cf l n + 0
    grind
  | succ k ih =>
    intro hk n
    have hlen : j + k < (pmI a b j l k).length := by rw [pmI_len, hl]; omega
    have e : (pmI a b j l k).getD (j + k) 0 = cf (pmI a b j l k) (j + k) := rfl
    have e2 : b.getD k 0 = cf b k := rfl
    have e3 : a.getD j 0 = cf a j := rfl
    rw [pmI_succ, cf_set _ hlen, e, e2, e3]
    have h1 := ih (by omega) (j + k)
    have h2 := ih (by omega) n
    rw [if_neg (by omega)] at h1
    by_cases h : n = j + k
    · rw [if_pos h, h1, h, if_pos (by omega), show j + k - j = k by omega]
      grind
    · rw [if_neg h, h2]
      by_cases h3 : j ≤ n ∧ n - j < k
      · rw [if_pos h3, if_pos (by omega)]
      · rw [if_neg h3, if_neg (by omega)]
theorem cf_pmO (a b : List Rat) : ∀ j, j ≤ a.length → ∀ n, cf (pmO a b j) n = sm j fun i => if i ≤ n then cf a i * cf b (n - i) else 0 := by
  intro j
  induction j with
  | zero =>
    intro _ n
    show cf (List.replicate (a.length + b.length) 0) n = 0
    unfold cf
    rw [List.getD_eq_getElem?_getD, List.getElem?_replicate]
    split <;> rfl
  | succ j ih =>
    intro hj n
    rw [pmO_succ, cf_pmI (by omega) (pmO_len a b j) _ (Nat.le_refl _), ih (by omega)]
    show _ = sm j _ + _
    congr 1
    show (if j ≤ n ∧ n - j < b.length then cf a j * cf b (n - j) else 0) = if j ≤ n then cf a j * cf b (n - j) else 0
    by_cases h : j ≤ n
    · rw [if_pos h]
      by_cases h2 : n - j < b.length
      · rw [if_pos ⟨h, h2⟩]
      · rw [if_neg (by omega), cf_ge (p := b) (by omega)]; grind
    · rw [if_neg h, if_neg (by omega)]
theorem cf_pmul (a b : List Rat) (n : Nat) : cf (pmul a b) n = cv (cf a) (cf b) n := by
  unfold pmul cv
  rw [cf_pmO a b _ (Nat.le_refl _)]
  have e1 : sm a.length (fun i => if i ≤ n then cf a i * cf b (n - i) else 0) = sm (max a.length (n + 1)) (fun i => if i ≤ n then cf a i * cf b (n - i) else 0) := by
    rw [sm_more (n := a.length) (m := max a.length (n + 1)) (fun i hi => ?_) (by omega)]
    split
    · rw [cf_ge hi]; grind
    · rfl
  have e2 : sm (n + 1) (fun i => cf a i * cf b (n - i)) = sm (n + 1) (fun i => if i ≤ n then cf a i * cf b (n - i) else 0) := sm_congr fun i hi => by rw [if_pos (by omega)]
  rw [e1, e2, sm_more (n := n + 1) (m := max a.length (n + 1)) (fun i hi => if_neg (by omega)) (by omega)]
/-! ### the algebra of cv -/
theorem cv_comm (f g : Nat → Rat) (n : Nat) : cv f g n = cv g f n := by
  unfold cv
  rw [sm_flip]
  exact sm_congr fun i hi => by rw [show n - (n - i) = i by omega]; grind
theorem cv_congr {f f' g g' : Nat → Rat} (h1 : ∀ n, f n = f' n) (h2 : ∀ n, g n = g' n) (n : Nat) : cv f g n = cv f' g' n := sm_congr fun i _ => by rw [h1, h2]
theorem cv_addL (f f' g : Nat → Rat) (n : Nat) : cv (fun i => f i + f' i) g n = cv f g n + cv f' g n := by
  unfold cv
  rw [← sm_add]
  exact sm_congr fun i _ => by grind
theorem cv_mulL (c : Rat) (f g : Nat → Rat) (n : Nat) : cv (fun i => c * f i) g n = c * cv f g n := by
  unfold cv
  rw [← sm_mul]
  exact sm_congr fun i _ => by grind
theorem cv_addR (f g g' : Nat → Rat) (n : Nat) : cv f (fun i => g i + g' i) n = cv f g n + cv f g' n := by
  rw [cv_comm, cv_addL, cv_comm g, cv_comm g']
theorem cv_zeroL {f g : Nat → Rat} (h : ∀ n, f n = 0) (n : Nat) : cv f g n = 0 := sm_zero fun i _ => by rw [h]; grind
/-- shifted by one -/
def sh (f : Nat → Rat) : Nat → Rat
  | 0 => 0
  | n + 1 => f n
theorem cv_shL (f g : Nat → Rat) (n : Nat) : cv (sh f) g n = sh (cv f g) n := by
  cases n with
  | zero =>
    show (0 : Rat) + sh f 0 * g (0 - 0) = 0
    show (0 : Rat) + 0 * g 0 = 0
    grind
  | succ n =>
    unfold cv
    rw [sm_front]
    show (0 : Rat) * g (n + 1 - 0) + sm (n + 1) (fun i => f i * g (n + 1 - (i + 1))) = sm (n + 1) fun i => f i * g (n - i)
    have : (fun i => f i * g (n + 1 - (i + 1))) = fun i => f i * g (n - i) := by funext i; rw [show n + 1 - (i + 1) = n - i by omega]
    rw [this]; grind
theorem cv_zeroR {f g : Nat → Rat} (h : ∀ n, g n = 0) (n : Nat) : cv f g n = 0 := sm_zero fun i _ => by rw [h]; grind
theorem cf_eq_cons (x : Rat) (p : List Rat) (n : Nat) : cf (x :: p) n = x * (if n = 0 then 1 else 0) + sh (cf p) n := by
  cases n with
  | zero => rw [cf_cons0, if_pos rfl]; show x = x * 1 + 0; grind
  | succ n => rw [cf_cons, if_neg (by omega)]; show cf p n = x * 0 + cf p n; grind
def one_ (n : Nat) : Rat := if n = 0 then 1 else 0
theorem cv_one (g : Nat → Rat) (n : Nat) : cv one_ g n = g n := by
  unfold cv
  rw [sm_front, sm_zero]
  · show (if 0 = 0 then (1 : Rat) else 0) * g (n - 0) + 0 = g n
    rw [if_pos rfl, Nat.sub_zero]; grind
  · intro i _
    show (if i + 1 = 0 then (1 : Rat) else 0) * g (n - (i + 1)) = 0
    rw [if_neg (by omega)]; grind
theorem cv_consL (x : Rat) (p : List Rat) (g : Nat → Rat) (n : Nat) : cv (cf (x :: p)) g n = x * g n + sh (cv (cf p) g) n := by
  rw [cv_congr (f' := fun i => x * one_ i + sh (cf p) i) (g' := g) (fun i => cf_eq_cons x p i) (fun _ => rfl), cv_addL, cv_mulL, cv_one, cv_shL]
theorem sh_congr {f g : Nat → Rat} (h : ∀ n, f n = g n) (n : Nat) : sh f n = sh g n := match n with
  | 0 => rfl
  | n + 1 => h n
theorem sh_add (f g : Nat → Rat) (n : Nat) : sh (fun i => f i + g i) n = sh f n + sh g n := match n with
  | 0 => by show (0 : Rat) = 0 + 0; grind
  | n + 1 => rfl
theorem sh_mul (c : Rat) (f : Nat → Rat) (n : Nat) : sh (fun i => c * f i) n = c * sh f n := match n with
  | 0 => by show (0 : Rat) = c * 0; grind
  | n + 1 => rfl
/-- a product of three (the first a list) -/
theorem cv_assoc : ∀ (a : List Rat) (g h : Nat → Rat) (n : Nat), cv (cv (cf a) g) h n = cv (cf a) (cv g h) n
  | [], g, h, n => by
    rw [cv_zeroL fun m => cv_zeroL cf_nil m, cv_zeroL cf_nil]
  | x :: a, g, h, n => by
    rw [cv_consL, cv_congr (f' := fun i => x * g i + sh (cv (cf a) g) i) (g' := h) (fun i => cv_consL x a g i) (fun _ => rfl), cv_addL, cv_mulL, cv_shL]
    rw [sh_congr (fun m => cv_assoc a g h m)]

/-! ### values -/
theorem pval_nil (v : Rat) : pval [] v = 0 := rfl
theorem pval_cons (x : Rat) (p : List Rat) (v : Rat) : pval (x :: p) v = pval p v * v + x := by
  unfold pval
  rw [List.reverse_cons, List.foldl_append]
  rfl
theorem pval_congr : ∀ {p q : List Rat} (v : Rat), (∀ n, cf p n = cf q n) → pval p v = pval q v
  | [], [], v, _ => rfl
  | [], y :: q, v, h => by
    have h0 : y = 0 := by have := h 0; rw [cf_nil, cf_cons0] at this; exact this.symm
    rw [pval_cons, ← pval_congr (p := []) (q := q) v fun n => by have := h (n + 1); rw [cf_cons, cf_nil] at this; rw [cf_nil]; exact this, h0, pval_nil]; grind
  | x :: p, [], v, h => by
    have h0 : x = 0 := by have := h 0; rw [cf_nil, cf_cons0] at this; exact this
    rw [pval_cons, pval_congr (p := p) (q := []) v fun n => by have := h (n + 1); rw [cf_cons, cf_nil] at this; rw [cf_nil]; exact this, h0, pval_nil]; grind
  | x :: p, y :: q, v, h => by
    have h0 : x = y := by have := h 0; rwa [cf_cons0, cf_cons0] at this
    rw [pval_cons, pval_cons, pval_congr (p := p) (q := q) v fun n => by have := h (n + 1); rwa [cf_cons, cf_cons] at this, h0]
/-- sums by recursion -/
def addR : List Rat → List Rat → List Rat
  | [], q => q
  | p, [] => p
  | x :: p, y :: q => (x + y) :: addR p q
theorem cf_addR : ∀ (p q : List Rat) (n : Nat), cf (addR p q) n = cf p n + cf q n
  | [], q, n => by rw [cf_nil]; show cf q n = 0 + cf q n; grind
  | x :: p, [], n => by rw [cf_nil]; show cf (x :: p) n = cf (x :: p) n + 0; grind
  | x :: p, y :: q, 0 => by rw [cf_cons0, cf_cons0]; rfl
  | x :: p, y :: q, n + 1 => by
    show cf ((x + y) :: addR p q) (n + 1) = _
    rw [cf_cons, cf_cons, cf_cons, cf_addR p q n]
theorem pval_addR (v : Rat) : ∀ (p q : List Rat), pval (addR p q) v = pval p v + pval q v
  | [], q => by rw [pval_nil]; show pval q v = 0 + pval q v; grind
  | x :: p, [] => by rw [pval_nil]; show pval (x :: p) v = pval (x :: p) v + 0; grind
  | x :: p, y :: q => by
    show pval ((x + y) :: addR p q) v = _
    rw [pval_cons, pval_cons, pval_cons, pval_addR v p q]; grind
theorem pval_smul (v c : Rat) : ∀ p : List Rat, pval (p.map (c * ·)) v = c * pval p v
  | [] => by rw [List.map_nil, pval_nil]; grind
  | x :: p => by rw [List.map_cons, pval_cons, pval_cons, pval_smul v c p]; grind
/-- products by recursion -/
def mulR : List Rat → List Rat → List Rat
  | [], _ => []
  | x :: p, q => addR (q.map (x * ·)) (0 :: mulR p q)
theorem cf_sh (p : List Rat) (n : Nat) : cf (0 :: p) n = sh (cf p) n := match n with
  | 0 => cf_cons0 0 p
  | n + 1 => cf_cons 0 p n
theorem cf_mulR : ∀ (p q : List Rat) (n : Nat), cf (mulR p q) n = cv (cf p) (cf q) n
  | [], q, n => by show cf [] n = _; rw [cf_nil, cv_zeroL cf_nil]
  | x :: p, q, n => by
    show cf (addR (q.map (x * ·)) (0 :: mulR p q)) n = _
    rw [cf_addR, cv_consL, cf_map0 (f := (x * ·)) (by show x * 0 = 0; grind), cf_sh, sh_congr fun m => cf_mulR p q m]
theorem pval_mulR (v : Rat) : ∀ (p q : List Rat), pval (mulR p q) v = pval p v * pval q v
  | [], q => by show pval [] v = pval [] v * _; rw [pval_nil]; grind
  | x :: p, q => by
    show pval (addR (q.map (x * ·)) (0 :: mulR p q)) v = _
    rw [pval_addR, pval_smul, pval_cons, pval_cons, pval_mulR v p q]; grind
theorem pval_trim (p : List Rat) (v : Rat) : pval (trim p) v = pval p v := pval_congr v fun n => cf_trim p n
theorem pval_padd (p q : List Rat) (v : Rat) : pval (padd p q) v = pval p v + pval q v := by
  rw [← pval_addR]
  exact pval_congr v fun n => by rw [cf_padd, cf_addR]
theorem pval_pmul (p q : List Rat) (v : Rat) : pval (pmul p q) v = pval p v * pval q v := by
  rw [← pval_mulR]
  exact pval_congr v fun n => by rw [cf_pmul, cf_mulR]

/-! ### derivatives -/
def dv (f : Nat → Rat) (n : Nat) : Rat := ((n + 1 : Nat) : Int) * f (n + 1)
theorem dv_congr {f g : Nat → Rat} (h : ∀ n, f n = g n) (n : Nat) : dv f n = dv g n := by unfold dv; rw [h]
theorem dv_add (f g : Nat → Rat) (n : Nat) : dv (fun i => f i + g i) n = dv f n + dv g n := by unfold dv; grind
theorem dv_mul (c : Rat) (f : Nat → Rat) (n : Nat) : dv (fun i => c * f i) n = c * dv f n := by unfold dv; grind
theorem dv_sh (f : Nat → Rat) (n : Nat) : dv (sh f) n = f n + sh (dv f) n := by
  unfold dv
  cases n with
  | zero =>
    show (((0 + 1 : Nat) : Int) : Rat) * f 0 = f 0 + 0
    show (1 : Rat) * f 0 = f 0 + 0
    grind
  | succ n =>
    show (((n + 1 + 1 : Nat) : Int) : Rat) * f (n + 1) = f (n + 1) + (((n + 1 : Nat) : Int) : Rat) * f (n + 1)
    have : (((n + 1 + 1 : Nat) : Int) : Rat) = (((n + 1 : Nat) : Int) : Rat) + 1 := by
      rw [Int.natCast_add, Rat.intCast_add]; rfl
    rw [this]; grind
/-- the product rule -/
theorem dv_cv : ∀ (a : List Rat) (g : Nat → Rat) (n : Nat), dv (cv (cf a) g) n = cv (dv (cf a)) g n + cv (cf a) (dv g) n
  | [], g, n => by
    have e1 : ∀ m, cv (cf []) g m = 0 := fun m => cv_zeroL cf_nil m
    have e2 : ∀ m, dv (cf []) m = 0 := fun m => by unfold dv; rw [cf_nil]; grind
    rw [cv_zeroL e2, cv_zeroL cf_nil]
    unfold dv
    rw [e1]; grind
  | x :: a, g, n => by
    have e1 : ∀ m, dv (cf (x :: a)) m = cf a m + sh (dv (cf a)) m := fun m => by
      have : ∀ i, cf (x :: a) i = x * one_ i + sh (cf a) i := cf_eq_cons x a
      rw [dv_congr this, dv_add, dv_mul, dv_sh]
      have : dv one_ m = 0 := by unfold dv one_; rw [if_neg (by omega)]; grind
      rw [this]; grind
    rw [dv_congr (fun m => cv_consL x a g m), dv_add, dv_mul, dv_sh, cv_consL, sh_congr (fun m => dv_cv a g m), sh_add, cv_congr (g' := g) e1 (fun _ => rfl), cv_addL, cv_shL]
    grind
theorem cf_pder' (a : List Rat) (n : Nat) : cf (pder a) n = dv (cf a) n := cf_pder a n
theorem product_rule (a b : List Rat) : trim (pder (trim (pmul a b))) = trim (padd (trim (pmul (trim (pder a)) b)) (trim (pmul a (trim (pder b))))) := by
  refine trim_ext fun n => ?_
  rw [cf_padd, cf_trim, cf_trim, cf_pmul, cf_pmul, cf_pder', dv_congr (fun m => (cf_trim (pmul a b) m).trans (cf_pmul a b m)), dv_cv]
  congr 1
  · exact cv_congr (fun m => by rw [cf_trim, cf_pder']) (fun _ => rfl) n
  · exact cv_congr (fun _ => rfl) (fun m => by rw [cf_trim, cf_pder']) n
end DI

/-! P8: division with remainder. -/
namespace DI
open PySem

/-- f * b is taken from r at place s, k coefficients of it -/
def dI (b : List Rat) (f : Rat) (s : Nat) (r : List Rat) (k : Nat) : List Rat := (List.range k).foldl (fun r k => r.set (s + k) (r.getD (s + k) 0 - f * b.getD k 0)) r
theorem dI_succ (b : List Rat) (f : Rat) (s : Nat) (r : List Rat) (k : Nat) : dI b f s r (k + 1) = (dI b f s r k).set (s + k) ((dI b f s r k).getD (s + k) 0 - f * b.getD k 0) := by
  unfold dI
  rw [List.range_succ, List.foldl_append]
  rfl
theorem dI_len (b : List Rat) (f : Rat) (s : Nat) (r : List Rat) : ∀ k, (dI b f s r k).length = r.length := by
  intro k
  induction k with
  | zero => rfl
  | succ k ih => rw [dI_succ, List.length_set, ih]
theorem cf_dI {b : List Rat} {f : Rat} {s : Nat} {r : List Rat} : ∀ k, s + k ≤ r.length → ∀ n, cf (dI b f s r k) n = cf r n - (if s ≤ n ∧ n - s < k then f * cf b (n - s) else 0) := by
  intro k
  induction k with
  | zero =>
    intro _ n
    rw [if_neg (by omega)]
    show cf r n = cf r n - 0
    grind
  | succ k ih =>
    intro hk n
    have hlen : s + k < (dI b f s r k).length := by rw [dI_len]; omega
    have e : (dI b f s r k).getD (s + k) 0 = cf (dI b f s r k) (s + k) := rfl
    have e2 : b.getD k 0 = cf b k := rfl
    rw [dI_succ, cf_set _ hlen, e, e2]
    have h1 := ih (by omega) (s + k)
    have h2 := ih (by omega) n
    rw [if_neg (by omega)] at h1
    by_cases h : n = s + k
    · rw [if_pos h, h1, h, if_pos (by omega), show s + k - s = k by omega]
      grind
    · rw [if_neg h, h2]
      by_cases h3 : s ≤ n ∧ n - s < k
      · rw [if_pos h3, if_pos (by omega)]
      · rw [if_neg h3, if_neg (by omega)]
/-- the factor of a step -/
def dF (b : List Rat) (s : Nat) (r : List Rat) : Rat := r.getD (s + b.length - 1) 0 / b.getD (b.length - 1) 0
/-- behind t steps (m: the first place): the result, the rest -/
def dS (a b : List Rat) (m : Nat) : Nat → List Rat × List Rat
  | 0 => (List.replicate (m + 1) 0, a)
  | t + 1 => ((dS a b m t).1.set (m - t) (dF b (m - t) (dS a b m t).2), dI b (dF b (m - t) (dS a b m t).2) (m - t) (dS a b m t).2 b.length)
theorem dS_len (a b : List Rat) (m : Nat) : ∀ t, (dS a b m t).1.length = m + 1 ∧ (dS a b m t).2.length = a.length := by
  intro t
  induction t with
  | zero => exact ⟨List.length_replicate, rfl⟩
  | succ t ih =>
    refine ⟨?_, ?_⟩
    · show ((dS a b m t).1.set _ _).length = _
      rw [List.length_set]; exact ih.1
    · show (dI b _ _ (dS a b m t).2 b.length).length = _
      rw [dI_len]; exact ih.2
theorem cv_delta (s : Nat) (f : Rat) (g : Nat → Rat) (n : Nat) : cv (fun i => if i = s then f else 0) g n = if s ≤ n then f * g (n - s) else 0 := by
  by_cases h : s ≤ n
  · rw [if_pos h]
    have : cv (fun i => if i = s then f else 0) g n = (if s = s then f else 0) * g (n - s) := by
      refine sm_one (f := fun i => (if i = s then f else 0) * g (n - i)) (m := s) (by omega) fun i _ hi => ?_
      show (if i = s then f else 0) * g (n - i) = 0
      rw [if_neg hi]; grind
    rw [this, if_pos rfl]
  · rw [if_neg h]
    refine sm_zero fun i hi => ?_
    show (if i = s then f else 0) * g (n - i) = 0
    rw [if_neg (by omega)]; grind
theorem cf_rep (k n : Nat) : cf (List.replicate k 0) n = 0 := by
  unfold cf
  rw [List.getD_eq_getElem?_getD, List.getElem?_replicate]
  split <;> rfl
/-- the rest at the end, what was taken, what is still to be set -/
theorem dS_inv {a b : List Rat} {m : Nat} (hb : b ≠ []) (hl : cf b (b.length - 1) ≠ 0) (hm : m + b.length = a.length) : ∀ t, t ≤ m + 1 → (∀ n, cf a n = cf (dS a b m t).2 n + cv (cf (dS a b m t).1) (cf b) n) ∧ (∀ n, n + t ≤ m → cf (dS a b m t).1 n = 0) ∧ (∀ n, a.length ≤ n + t → cf (dS a b m t).2 n = 0) := by
  have hpos : 0 < b.length := List.length_pos_iff.mpr hb
  intro t
  induction t with
  | zero =>
    intro _
    refine ⟨fun n => ?_, fun n _ => cf_rep _ _, fun n hn => cf_ge (p := a) (by omega)⟩
    show cf a n = cf a n + cv (cf (List.replicate (m + 1) 0)) (cf b) n
    rw [cv_zeroL (cf_rep _)]; grind
  | succ t ih =>
    intro ht
    obtain ⟨h1, h2, h3⟩ := ih (by omega)
    have l1 := (dS_len a b m t).1
    have l2 := (dS_len a b m t).2
    have e1 : (dS a b m (t + 1)).1 = (dS a b m t).1.set (m - t) (dF b (m - t) (dS a b m t).2) := rfl
    have e2 : (dS a b m (t + 1)).2 = dI b (dF b (m - t) (dS a b m t).2) (m - t) (dS a b m t).2 b.length := rfl
    rw [e1, e2]
    have hf : dF b (m - t) (dS a b m t).2 = cf (dS a b m t).2 (m - t + b.length - 1) / cf b (b.length - 1) := rfl
    generalize dF b (m - t) (dS a b m t).2 = f at hf ⊢
    generalize (dS a b m t).1 = q at *
    generalize (dS a b m t).2 = r at *
    have cr := cf_dI (b := b) (f := f) (s := m - t) (r := r) b.length (by omega)
    have cq := cf_set (l := q) (i := m - t) f (by omega)
    refine ⟨fun n => ?_, fun n hn => ?_, fun n hn => ?_⟩
    · have cq2 : ∀ i, cf (q.set (m - t) f) i = cf q i + (if i = m - t then f else 0) := fun i => by
        rw [cq]
        by_cases h : i = m - t
        · rw [if_pos h, if_pos h, h, h2 _ (by omega)]; grind
        · rw [if_neg h, if_neg h]; grind
      rw [cr, cv_congr (g' := cf b) cq2 (fun _ => rfl), cv_addL, cv_delta, h1 n]
      by_cases h : m - t ≤ n
      · rw [if_pos h]
        by_cases h5 : n - (m - t) < b.length
        · rw [if_pos ⟨h, h5⟩]; grind
        · rw [if_neg (by omega), cf_ge (p := b) (by omega)]; grind
      · rw [if_neg h, if_neg (by omega)]; grind
    · rw [cq, if_neg (by omega)]
      exact h2 n (by omega)
    · rw [cr]
      by_cases h : n = m - t + b.length - 1
      · rw [if_pos (by omega), h, show m - t + b.length - 1 - (m - t) = b.length - 1 by omega, hf]
        grind
      · rw [h3 n (by omega)]
        by_cases h5 : m - t ≤ n ∧ n - (m - t) < b.length
        · omega
        · rw [if_neg h5]; grind
/-- quotient, remainder -/
def pdiv (a b : List Rat) : List Rat × List Rat := if a.length < b.length then ([], a) else dS a b (a.length - b.length) (a.length - b.length + 1)
theorem pdiv_eq {a b : List Rat} (hb : b ≠ []) (hl : cf b (b.length - 1) ≠ 0) : (∀ n, cf a n = cf (pdiv a b).2 n + cv (cf (pdiv a b).1) (cf b) n) ∧ (∀ n, b.length ≤ n + 1 → cf (pdiv a b).2 n = 0) := by
  unfold pdiv
  by_cases h : a.length < b.length
  · rw [if_pos h]
    refine ⟨fun n => ?_, fun n hn => cf_ge (p := a) (by omega)⟩
    show cf a n = cf a n + cv (cf []) (cf b) n
    rw [cv_zeroL cf_nil]; grind
  · rw [if_neg h]
    obtain ⟨h1, _, h3⟩ := dS_inv (a := a) hb hl (m := a.length - b.length) (by omega) (a.length - b.length + 1) (Nat.le_refl _)
    exact ⟨h1, fun n hn => h3 n (by omega)⟩
theorem trim_len_lt {p : List Rat} {d : Nat} (h : ∀ n, d ≤ n → cf p n = 0) : (trim p).length ≤ d := by
  refine Nat.le_of_not_lt fun hlt => ?_
  have hne : trim p ≠ [] := fun z => by rw [z] at hlt; simp at hlt
  have h1 : (trim p).getLast hne ≠ 0 := trim_ne0 (p := p) (List.getLast?_eq_some_getLast hne)
  refine h1 ?_
  rw [List.getLast_eq_getElem, ← cf_lt, cf_trim]
  exact h _ (by have := List.length_pos_iff.mpr hne; omega)

/-! ### divisors -/
/-- g divides p, by coefficients -/
def Dv (g p : List Rat) : Prop := ∃ h : List Rat, ∀ n, cf p n = cv (cf h) (cf g) n
theorem Dv.zero {g p : List Rat} (h : ∀ n, cf p n = 0) : Dv g p := ⟨[], fun n => by rw [h, cv_zeroL cf_nil]⟩
theorem Dv.refl (g : List Rat) : Dv g g := ⟨[1], fun n => by
  rw [cv_consL, sh_congr (g := fun _ => 0) fun m => cv_zeroL cf_nil m]
  cases n with
  | zero => show cf g 0 = 1 * cf g 0 + 0; grind
  | succ n => show cf g (n + 1) = 1 * cf g (n + 1) + 0; grind⟩
theorem Dv.congr {g p q : List Rat} (h : Dv g p) (e : ∀ n, cf p n = cf q n) : Dv g q := by
  obtain ⟨r, hr⟩ := h
  exact ⟨r, fun n => by rw [← e, hr]⟩
theorem Dv.add {g p q r : List Rat} (h : Dv g p) (k : Dv g q) (e : ∀ n, cf r n = cf p n + cf q n) : Dv g r := by
  obtain ⟨a, ha⟩ := h
  obtain ⟨b, hb⟩ := k
  exact ⟨addR a b, fun n => by rw [e, ha, hb, ← cv_addL]; exact cv_congr (fun i => (cf_addR a b i).symm) (fun _ => rfl) n⟩
theorem Dv.smul {g p q : List Rat} (c : Rat) (h : Dv g p) (e : ∀ n, cf q n = c * cf p n) : Dv g q := by
  obtain ⟨a, ha⟩ := h
  exact ⟨a.map (c * ·), fun n => by rw [e, ha, ← cv_mulL]; exact cv_congr (fun i => (cf_map0 (f := (c * ·)) (by show c * 0 = 0; grind) a i).symm) (fun _ => rfl) n⟩
theorem Dv.mul {g p r : List Rat} (q : List Rat) (h : Dv g p) (e : ∀ n, cf r n = cv (cf q) (cf p) n) : Dv g r := by
  obtain ⟨a, ha⟩ := h
  refine ⟨mulR q a, fun n => ?_⟩
  rw [e, cv_congr (f' := cf q) (fun _ => rfl) ha, ← cv_assoc]
  exact cv_congr (fun i => (cf_mulR q a i).symm) (fun _ => rfl) n
/-- g's own multiples of g -/
theorem Dv.unit {g p k : List Rat} {c : Rat} (hc : c ≠ 0) (h : Dv g p) (e : ∀ n, cf g n = c * cf k n) : Dv k p := by
  obtain ⟨a, ha⟩ := h
  refine ⟨a.map (c * ·), fun n => ?_⟩
  rw [ha, cv_congr (f' := cf a) (fun _ => rfl) e]
  rw [cv_comm, cv_mulL, cv_comm, ← cv_mulL]
  exact cv_congr (fun i => (cf_map0 (f := (c * ·)) (by show c * 0 = 0; grind) a i).symm) (fun _ => rfl) n
/-- a multiple of g below g's degree is zero -/
theorem Dv.low {g p : List Rat} {d : Nat} (h : Dv g p) (hd : cf g d ≠ 0) (hz : ∀ n, d < n → cf g n = 0) (hp : ∀ n, d ≤ n → cf p n = 0) : ∀ n, cf p n = 0 := by
  obtain ⟨a, ha⟩ := h
  by_cases hne : trim a = []
  · intro n
    rw [ha]
    exact cv_zeroL (fun i => by rw [← cf_trim, hne, cf_nil]) n
  · exfalso
    have h1 : (trim a).getLast hne ≠ 0 := trim_ne0 (p := a) (List.getLast?_eq_some_getLast hne)
    have hpos : 0 < (trim a).length := List.length_pos_iff.mpr hne
    rw [List.getLast_eq_getElem, ← cf_lt, cf_trim] at h1
    have h2 := hp ((trim a).length - 1 + d) (by omega)
    rw [ha] at h2
    unfold cv at h2
    rw [sm_one (m := (trim a).length - 1) (by omega) fun i hi hne2 => ?_] at h2
    · rw [show (trim a).length - 1 + d - ((trim a).length - 1) = d by omega] at h2
      rcases Rat.mul_eq_zero.mp h2 with z | z
      · exact h1 z
      · exact hd z
    · by_cases hi2 : i < (trim a).length - 1
      · rw [hz _ (by omega)]; grind
      · rw [← cf_trim a i, cf_ge (p := trim a) (by omega)]; grind
end DI

/-! P9: primitive parts, Euclid. -/
namespace DI
open PySem

def lcL : Nat → List Rat → Nat
  | L, [] => L
  | L, x :: p => lcL (Nat.lcm L x.den) p
def gcL : Nat → List Int → Nat
  | t, [] => t
  | t, n :: l => gcL (Nat.gcd t n.natAbs) l
theorem lcL_snoc (x : Rat) : ∀ (p : List Rat) (L : Nat), lcL L (p ++ [x]) = Nat.lcm (lcL L p) x.den
  | [], L => rfl
  | y :: p, L => lcL_snoc x p _
theorem gcL_snoc (n : Int) : ∀ (l : List Int) (t : Nat), gcL t (l ++ [n]) = Nat.gcd (gcL t l) n.natAbs
  | [], t => rfl
  | m :: l, t => gcL_snoc n l _
theorem lcL_dvd {D : Nat} : ∀ {p : List Rat} {L : Nat}, (∀ x ∈ p, x.den ∣ D) → L ∣ D → lcL L p ∣ D
  | [], L, _, h => h
  | x :: p, L, hp, h => lcL_dvd (p := p) (fun y hy => hp y (List.mem_cons_of_mem _ hy)) (Nat.lcm_dvd h (hp x List.mem_cons_self))
theorem dvd_lcL : ∀ {p : List Rat} {L : Nat}, L ∣ lcL L p
  | [], L => Nat.dvd_refl _
  | x :: p, L => Nat.dvd_trans (Nat.dvd_lcm_left L x.den) (dvd_lcL (p := p))
theorem den_lcL : ∀ {p : List Rat} {L : Nat} {x : Rat}, x ∈ p → x.den ∣ lcL L p
  | y :: p, L, x, h => by
    rcases List.mem_cons.mp h with rfl | h
    · exact Nat.dvd_trans (Nat.dvd_lcm_right L x.den) (dvd_lcL (p := p))
    · exact den_lcL (p := p) h
theorem lcL_pos {p : List Rat} : ∀ {L : Nat}, 0 < L → 0 < lcL L p := by
  induction p with
  | nil => intro L h; exact h
  | cons x p ih => intro L h; exact ih (Nat.lcm_pos h x.den_pos)
theorem gcL_dvd0 : ∀ {l : List Int} {t : Nat}, gcL t l ∣ t
  | [], t => Nat.dvd_refl _
  | n :: l, t => Nat.dvd_trans (gcL_dvd0 (l := l)) (Nat.gcd_dvd_left t n.natAbs)
theorem gcL_dvd : ∀ {l : List Int} {t : Nat} {n : Int}, n ∈ l → gcL t l ∣ n.natAbs
  | m :: l, t, n, h => by
    rcases List.mem_cons.mp h with rfl | h
    · exact Nat.dvd_trans (gcL_dvd0 (l := l)) (Nat.gcd_dvd_right t n.natAbs)
    · exact gcL_dvd (l := l) h
/-- the whole number x * L -/
def nm (L : Nat) (x : Rat) : Int := x.num * ((L / x.den : Nat) : Int)
def prT (p : List Rat) : Nat := gcL 0 (p.map (nm (lcL 1 p)))
def prim (p : List Rat) : List Rat := p.map fun x => ((nm (lcL 1 p) x / (prT p : Int) : Int) : Rat)
theorem mul_den (x : Rat) : x * (x.den : Rat) = (x.num : Rat) := by
  have h1 : (x.den : Rat) ≠ 0 := by
    have := x.den_pos
    intro z
    have : x.den = 0 := by exact_mod_cast z
    omega
  have h2 := Rat.num_divInt_den x
  rw [Rat.divInt_eq_div] at h2
  have h3 : ((x.den : Int) : Rat) = (x.den : Rat) := rfl
  rw [h3] at h2
  have h4 : x = (x.num : Rat) / (x.den : Rat) := h2.symm
  grind
theorem nm_eq {L : Nat} {x : Rat} (h : x.den ∣ L) : (nm L x : Rat) = x * (L : Rat) := by
  obtain ⟨e, rfl⟩ := h
  unfold nm
  rw [Nat.mul_div_cancel_left _ x.den_pos, Rat.intCast_mul]
  have h1 : ((x.den * e : Nat) : Rat) = (x.den : Rat) * (e : Rat) := by rw [Rat.natCast_mul]
  have h2 := mul_den x
  rw [h1, ← h2]
  have h3 : (((e : Nat) : Int) : Rat) = (e : Rat) := rfl
  rw [h3]; grind
theorem nm_zero {L : Nat} {x : Rat} (h : x.den ∣ L) (hL : 0 < L) (z : nm L x = 0) : x = 0 := by
  have h1 := nm_eq h
  rw [z] at h1
  have h2 : (L : Rat) ≠ 0 := by
    intro z
    have : L = 0 := by exact_mod_cast z
    omega
  have h3 : (0 : Rat) = x * (L : Rat) := h1
  grind
theorem prT_ne {p : List Rat} {x : Rat} (hx : x ∈ p) (h0 : x ≠ 0) : prT p ≠ 0 := fun z => by
  have h1 : prT p ∣ (nm (lcL 1 p) x).natAbs := gcL_dvd (List.mem_map.mpr ⟨x, hx, rfl⟩)
  rw [z] at h1
  have h2 : nm (lcL 1 p) x = 0 := by have := Nat.eq_zero_of_zero_dvd h1; omega
  exact h0 (nm_zero (den_lcL hx) (lcL_pos (by decide)) h2)
/-- primitive p = c * p -/
theorem prim_eq {p : List Rat} {x0 : Rat} (hx0 : x0 ∈ p) (h0 : x0 ≠ 0) : ∃ c : Rat, c ≠ 0 ∧ prim p = p.map (c * ·) := by
  have hT := prT_ne hx0 h0
  have hL : 0 < lcL 1 p := lcL_pos (by decide)
  have hTr : (prT p : Rat) ≠ 0 := by
    intro z
    have : prT p = 0 := by exact_mod_cast z
    exact hT this
  have hLr : (lcL 1 p : Rat) ≠ 0 := by
    intro z
    have : lcL 1 p = 0 := by exact_mod_cast z
    omega
  refine ⟨(lcL 1 p : Rat) / (prT p : Rat), by grind, ?_⟩
  refine List.map_congr_left fun x hx => ?_
  have h1 : (prT p : Int) ∣ nm (lcL 1 p) x := Int.natAbs_dvd_natAbs.mp (by rw [Int.natAbs_natCast]; exact gcL_dvd (List.mem_map.mpr ⟨x, hx, rfl⟩))
  obtain ⟨e, he⟩ := h1
  have h2 := nm_eq (den_lcL (L := 1) hx)
  rw [he] at h2 ⊢
  rw [Int.mul_ediv_cancel_left _ (by omega)]
  rw [Rat.intCast_mul] at h2
  have h3 : (((prT p : Nat) : Int) : Rat) = (prT p : Rat) := rfl
  rw [h3] at h2
  grind
/-- a common denominator D, numerators of fewer than B bits -/
def Cd (D : Nat) (B : Nat) (p : List Rat) : Prop := 0 < D ∧ ∀ x ∈ p, ∃ N : Int, x * (D : Rat) = (N : Rat) ∧ Bi' B N
theorem Cd.den {D B : Nat} {p : List Rat} (h : Cd D B p) {x : Rat} (hx : x ∈ p) : x.den ∣ D := by
  obtain ⟨N, h1, _⟩ := h.2 x hx
  have h2 := mul_den x
  have hd : (x.den : Rat) ≠ 0 := by
    have := x.den_pos
    intro z
    have : x.den = 0 := by exact_mod_cast z
    omega
  have h3 : (x.num : Rat) * (D : Rat) = (N : Rat) * (x.den : Rat) := by grind
  have h4 : x.num * (D : Int) = N * (x.den : Int) := by exact_mod_cast h3
  have h5 : x.den ∣ x.num.natAbs * D := by
    have : (x.den : Int) ∣ x.num * (D : Int) := ⟨N, by rw [h4, Int.mul_comm]⟩
    have := Int.natAbs_dvd_natAbs.mpr this
    rw [Int.natAbs_mul] at this
    simpa using this
  exact Nat.Coprime.dvd_of_dvd_mul_left x.reduced.symm h5
theorem Cd.lc {D B : Nat} {p : List Rat} (h : Cd D B p) : lcL 1 p ∣ D := lcL_dvd (fun x hx => h.den hx) (Nat.one_dvd _)
theorem Cd.nm {D B : Nat} {p : List Rat} (h : Cd D B p) {x : Rat} (hx : x ∈ p) : Bi' B (DI.nm (lcL 1 p) x) := by
  obtain ⟨N, h1, h2⟩ := h.2 x hx
  obtain ⟨e, he⟩ := h.lc
  have h3 := nm_eq (den_lcL (L := 1) hx)
  have he0 : e ≠ 0 := fun z => by rw [z] at he; have := h.1; omega
  have h4 : ((DI.nm (lcL 1 p) x * (e : Int) : Int) : Rat) = (N : Rat) := by
    rw [Rat.intCast_mul, h3, ← h1, he, Rat.natCast_mul]
    have : (((e : Nat) : Int) : Rat) = (e : Rat) := rfl
    rw [this]; grind
  have h5 : DI.nm (lcL 1 p) x * (e : Int) = N := by exact_mod_cast h4
  unfold Bi' at *
  rw [← h5, Int.natAbs_mul] at h2
  refine Nat.lt_of_le_of_lt ?_ h2
  simp only [Int.natAbs_natCast]
  exact Nat.le_mul_of_pos_right _ (Nat.pos_of_ne_zero he0)
/-- whole coefficients of fewer than B bits -/
def Wh (B : Nat) (p : List Rat) : Prop := ∀ x ∈ p, ∃ N : Int, x = (N : Rat) ∧ Bi' B N
theorem Wh.cd {B : Nat} {p : List Rat} (h : Wh B p) : Cd 1 B p := ⟨by decide, fun x hx => by
  obtain ⟨N, h1, h2⟩ := h x hx
  exact ⟨N, by rw [h1]; show (N : Rat) * (1 : Rat) = (N : Rat); grind, h2⟩⟩
theorem Wh.mono {B C : Nat} {p : List Rat} (h : Wh B p) (hm : B ≤ C) : Wh C p := fun x hx => by
  obtain ⟨N, h1, h2⟩ := h x hx
  exact ⟨N, h1, h2.mono hm⟩
theorem Wh.pb {B : Nat} {p : List Rat} (h : Wh B p) (hB : 0 < B) : PB B p := fun x hx => by
  obtain ⟨N, h1, h2⟩ := h x hx
  rw [h1]; exact Bt.int h2 hB
theorem prim_wh {D B : Nat} {p : List Rat} (h : Cd D B p) : Wh B (prim p) := fun y hy => by
  obtain ⟨x, hx, rfl⟩ := List.mem_map.mp hy
  exact ⟨_, rfl, Nat.lt_of_le_of_lt (Int.natAbs_ediv_le_natAbs _ _) (h.nm hx)⟩
theorem prim_len (p : List Rat) : (prim p).length = p.length := List.length_map _
theorem cf_last {p : List Rat} (h : p = trim p) (hne : p ≠ []) : cf p (p.length - 1) ≠ 0 := by
  have h1 : p.getLast hne ≠ 0 := by
    refine trim_ne0 (p := p) ?_
    rw [← h, List.getLast?_eq_some_getLast hne]
  rwa [List.getLast_eq_getElem, ← cf_lt] at h1
theorem trim_of_last {p : List Rat} (h : p ≠ [] → cf p (p.length - 1) ≠ 0) : p = trim p := by
  refine (trim_last fun x hx => ?_).symm
  have hne : p ≠ [] := fun z => by rw [z] at hx; simp at hx
  have := h hne
  have hp := List.length_pos_iff.mpr hne
  rw [List.getLast?_eq_some_getLast hne, List.getLast_eq_getElem] at hx
  rw [← Option.some.inj hx, ← cf_lt]; exact this
theorem last_mem {p : List Rat} (h : p = trim p) (hne : p ≠ []) : ∃ x ∈ p, x ≠ 0 := by
  have h1 := cf_last h hne
  have hp := List.length_pos_iff.mpr hne
  rw [cf_lt (by omega)] at h1
  exact ⟨_, List.getElem_mem _, h1⟩
theorem cf_smul (c : Rat) (p : List Rat) (n : Nat) : cf (p.map (c * ·)) n = c * cf p n := cf_map0 (f := (c * ·)) (by show c * 0 = 0; grind) p n
theorem prim_cf {p : List Rat} (h : p = trim p) (hne : p ≠ []) : ∃ c : Rat, c ≠ 0 ∧ ∀ n, cf (prim p) n = c * cf p n := by
  obtain ⟨x, hx, h0⟩ := last_mem h hne
  obtain ⟨c, hc, e⟩ := prim_eq hx h0
  exact ⟨c, hc, fun n => by rw [e, cf_smul]⟩
theorem prim_trim {p : List Rat} (h : p = trim p) : prim p = trim (prim p) := by
  refine trim_of_last fun hne => ?_
  have hp : p ≠ [] := fun z => hne (by rw [z]; rfl)
  obtain ⟨c, hc, e⟩ := prim_cf h hp
  rw [e, prim_len]
  have := cf_last h hp
  grind
/-! ### sizes in a division of whole polynomials -/
theorem pow_ne {l : Int} (h : l ≠ 0) (t : Nat) : l ^ t ≠ 0 := by
  induction t with
  | zero => rw [Int.pow_zero]; decide
  | succ t ih => rw [Int.pow_succ]; exact Int.mul_ne_zero ih h
theorem Bi'.pow {l : Int} {B : Nat} (h : Bi' B l) : ∀ t, 0 < t → Bi' (t * B) (l ^ t)
  | 1, _ => by rw [Int.pow_succ, Int.pow_zero, Int.one_mul, Nat.one_mul]; exact h
  | t + 2, _ => by
    rw [Int.pow_succ, Nat.add_mul (t + 1) 1 B, Nat.one_mul]
    exact (Bi'.pow h (t + 1) (by omega)).mul h
/-- N / l^t -/
def Fx (l : Int) (B t : Nat) (p : List Rat) : Prop := ∀ x ∈ p, ∃ N : Int, x * ((l ^ t : Int) : Rat) = (N : Rat) ∧ Bi' B N
theorem Fx.mono {l : Int} {B C t : Nat} {p : List Rat} (h : Fx l B t p) (hm : B ≤ C) : Fx l C t p := fun x hx => by
  obtain ⟨N, h1, h2⟩ := h x hx
  exact ⟨N, h1, h2.mono hm⟩
theorem Fx.up {l : Int} {B C t : Nat} {p : List Rat} (h : Fx l B t p) (hl : Bi' C l) : Fx l (B + C) (t + 1) p := fun x hx => by
  obtain ⟨N, h1, h2⟩ := h x hx
  refine ⟨N * l, ?_, h2.mul hl⟩
  rw [Int.pow_succ, Rat.intCast_mul, Rat.intCast_mul, ← h1]; grind
theorem bt_of {x : Rat} {L N : Int} {B : Nat} (h : x * (L : Rat) = (N : Rat)) (hL : L ≠ 0) (h1 : Bi' B N) (h2 : Bi' B L) : Bt B x := by
  have hr : (L : Rat) ≠ 0 := by
    intro z
    exact hL (by exact_mod_cast z)
  have e : x = Rat.divInt N L := by
    rw [Rat.divInt_eq_div, ← h]; grind
  rw [e]
  exact Bt.div h1 h2 hL
theorem Bi'.powS {l : Int} {B : Nat} (h : Bi' B l) (t : Nat) : Bi' (t * B + 1) (l ^ t) := by
  cases t with
  | zero => rw [Int.pow_zero, Nat.zero_mul]; exact Bi'.of (by decide)
  | succ t => exact (h.pow (t + 1) (by omega)).mono (by omega)
theorem Fx.pb {l : Int} {B C t : Nat} {p : List Rat} (h : Fx l B t p) (hl : l ≠ 0) (hC : Bi' C l) (hm : t * C + 1 ≤ B) : PB B p := fun x hx => by
  obtain ⟨N, h1, h2⟩ := h x hx
  exact bt_of h1 (pow_ne hl t) h2 ((hC.powS t).mono hm)
theorem Fx.get {l : Int} {B t : Nat} {p : List Rat} (h : Fx l B t p) (n : Nat) : ∃ N : Int, cf p n * ((l ^ t : Int) : Rat) = (N : Rat) ∧ Bi' B N := by
  by_cases hn : n < p.length
  · rw [cf_lt hn]; exact h _ (List.getElem_mem hn)
  · rw [cf_ge (by omega)]
    exact ⟨0, by show (0 : Rat) * _ = ((0 : Int) : Rat); rw [Rat.zero_mul]; rfl, Nat.two_pow_pos _⟩
theorem Fx.set {l : Int} {B t : Nat} {p : List Rat} {x : Rat} (h : Fx l B t p) (hx : ∃ N : Int, x * ((l ^ t : Int) : Rat) = (N : Rat) ∧ Bi' B N) (i : Nat) : Fx l B t (p.set i x) := fun y hy => by
  rcases List.mem_or_eq_of_mem_set hy with h1 | h1
  · exact h y h1
  · rw [h1]; exact hx
theorem Wh.get {B : Nat} {p : List Rat} (h : Wh B p) (n : Nat) : ∃ N : Int, cf p n = (N : Rat) ∧ Bi' B N := by
  by_cases hn : n < p.length
  · rw [cf_lt hn]; exact h _ (List.getElem_mem hn)
  · rw [cf_ge (by omega)]; exact ⟨0, rfl, Nat.two_pow_pos _⟩
/-- one step -/
theorem dI_fx {b r : List Rat} {l : Int} {B C t s : Nat} (hb : Wh C b) (hl : cf b (b.length - 1) = (l : Rat)) (hl0 : l ≠ 0) (hC : Bi' C l) (hr : Fx l B t r) : ∀ k, Fx l (B + C + 1) (t + 1) (dI b (dF b s r) s r k) := by
  have hlr : (l : Rat) ≠ 0 := by
    intro z
    exact hl0 (by exact_mod_cast z)
  obtain ⟨N0, n1, n2⟩ := hr.get (s + b.length - 1)
  have hf : dF b s r = cf r (s + b.length - 1) / cf b (b.length - 1) := rfl
  intro k
  induction k with
  | zero => exact (hr.up hC).mono (by omega)
  | succ k ih =>
    rw [dI_succ]
    refine ih.set ?_ _
    by_cases hk : ∃ y, y = (dI b (dF b s r) s r k).getD (s + k) 0 ∧ y = cf r (s + k)
    · obtain ⟨y, e1, e2⟩ := hk
      obtain ⟨N1, m1, m2⟩ := hr.get (s + k)
      obtain ⟨K, k1, k2⟩ := hb.get k
      have e3 : b.getD k 0 = cf b k := rfl
      rw [← e1, e2, e3, k1]
      refine ⟨N1 * l - N0 * K, ?_, ((m2.mul hC).sub (n2.mul k2)).mono (by omega)⟩
      rw [hf, hl, Int.pow_succ, Rat.intCast_mul, Rat.intCast_sub, Rat.intCast_mul, Rat.intCast_mul, ← m1, ← n1]
      generalize ((l ^ t : Int) : Rat) = L at *
      grind
    · exfalso
      refine hk ⟨_, rfl, ?_⟩
      show cf (dI b (dF b s r) s r k) (s + k) = cf r (s + k)
      have key : ∀ j, j ≤ k → cf (dI b (dF b s r) s r j) (s + k) = cf r (s + k) := by
        intro j
        induction j with
        | zero => intro _; rfl
        | succ j ihj =>
          intro hj
          rw [dI_succ]
          by_cases hlen : s + j < (dI b (dF b s r) s r j).length
          · rw [cf_set _ hlen, if_neg (by omega)]; exact ihj (by omega)
          · rw [List.set_eq_of_length_le (by omega)]; exact ihj (by omega)
      exact key k (Nat.le_refl _)
theorem dS_fx {a b : List Rat} {l : Int} {B C m : Nat} (ha : Wh B a) (hb : Wh C b) (hl : cf b (b.length - 1) = (l : Rat)) (hl0 : l ≠ 0) (hC : Bi' C l) : ∀ t, Fx l (B + t * (C + 1)) t (dS a b m t).2 := by
  intro t
  induction t with
  | zero =>
    intro x hx
    obtain ⟨N, h1, h2⟩ := ha x hx
    exact ⟨N, by rw [h1, Int.pow_zero]; show (N : Rat) * 1 = N; grind, h2.mono (by omega)⟩
  | succ t ih =>
    have := dI_fx (s := m - t) hb hl hl0 hC ih b.length
    exact this.mono (by rw [Nat.add_mul]; omega)
theorem dF_bt {a b : List Rat} {l : Int} {B C m : Nat} (ha : Wh B a) (hb : Wh C b) (hl : cf b (b.length - 1) = (l : Rat)) (hl0 : l ≠ 0) (hC : Bi' C l) (t : Nat) (hB : 0 < B) : Bt (B + (t + 1) * (C + 1)) (dF b (m - t) (dS a b m t).2) := by
  have hlr : (l : Rat) ≠ 0 := by
    intro z
    exact hl0 (by exact_mod_cast z)
  obtain ⟨N0, n1, n2⟩ := (dS_fx (m := m) ha hb hl hl0 hC t).get (m - t + b.length - 1)
  have hf : dF b (m - t) (dS a b m t).2 = cf (dS a b m t).2 (m - t + b.length - 1) / cf b (b.length - 1) := rfl
  refine bt_of (L := l ^ (t + 1)) (N := N0) ?_ (pow_ne hl0 _) (n2.mono (by rw [Nat.add_mul]; omega)) ((hC.powS (t + 1)).mono (by rw [Nat.mul_add]; omega))
  rw [hf, hl, Int.pow_succ, Rat.intCast_mul, ← n1]
  generalize ((l ^ t : Int) : Rat) = L at *
  grind
/-- the rest of a division of whole polynomials -/
theorem pdiv_cd {a b : List Rat} {B C : Nat} (ha : Wh B a) (hb : Wh C b) (hne : b ≠ []) (hl : cf b (b.length - 1) ≠ 0) : ∃ D, Cd D (B + (a.length + 1 - b.length) * (C + 1)) (pdiv a b).2 := by
  obtain ⟨l, h1, h2⟩ := hb.get (b.length - 1)
  have hl0 : l ≠ 0 := fun z => hl (by rw [h1, z]; rfl)
  unfold pdiv
  by_cases h : a.length < b.length
  · rw [if_pos h]
    exact ⟨1, (ha.mono (by omega)).cd⟩
  · rw [if_neg h]
    have hf := dS_fx (m := a.length - b.length) ha hb h1 hl0 h2 (a.length - b.length + 1)
    refine ⟨(l ^ (a.length - b.length + 1)).natAbs, ?_, fun x hx => ?_⟩
    · have := pow_ne hl0 (a.length - b.length + 1)
      omega
    · obtain ⟨N, e1, e2⟩ := hf x hx
      rw [show a.length + 1 - b.length = a.length - b.length + 1 by omega]
      generalize l ^ (a.length - b.length + 1) = L at *
      rcases Int.natAbs_eq L with z | z
      · refine ⟨N, ?_, e2⟩
        rw [z] at e1
        rw [← e1]; rfl
      · refine ⟨-N, ?_, e2.neg⟩
        rw [z, Rat.intCast_neg] at e1
        rw [Rat.intCast_neg, ← e1]
        have : (((L.natAbs : Nat) : Int) : Rat) = (L.natAbs : Rat) := rfl
        rw [this]; grind
/-- what f_divided asks -/
theorem div_fit {a b : List Rat} {B C : Nat} (ha : Wh B a) (hb : Wh C b) (hl : cf b (b.length - 1) ≠ 0) (hB : 0 < B) (hM : B + (a.length + 1 - b.length) * (C + 1) ≤ 2000) :
    (∀ t, t ≤ a.length - b.length → b.length ≤ a.length → Bt 2000 (dF b (a.length - b.length - t) (dS a b (a.length - b.length) t).2)) ∧
    (∀ t i, t ≤ a.length - b.length → b.length ≤ a.length → i ≤ b.length → PB 2000 (dI b (dF b (a.length - b.length - t) (dS a b (a.length - b.length) t).2) (a.length - b.length - t) (dS a b (a.length - b.length) t).2 i)) := by
  obtain ⟨l, h1, h2⟩ := hb.get (b.length - 1)
  have hl0 : l ≠ 0 := fun z => hl (by rw [h1, z]; rfl)
  have key : ∀ t, t ≤ a.length - b.length → b.length ≤ a.length → B + (t + 1) * (C + 1) ≤ 2000 := fun t ht hle => by
    have : (t + 1) * (C + 1) ≤ (a.length + 1 - b.length) * (C + 1) := Nat.mul_le_mul (by omega) (Nat.le_refl _)
    omega
  refine ⟨fun t ht hle => (dF_bt (m := a.length - b.length) ha hb h1 hl0 h2 t hB).mono (key t ht hle), fun t i ht hle hi => ?_⟩
  have hf := dI_fx (s := a.length - b.length - t) hb h1 hl0 h2 (dS_fx (m := a.length - b.length) ha hb h1 hl0 h2 t) i
  have hk := key t ht hle
  refine (hf.pb hl0 h2 ?_).mono ?_
  · rw [Nat.add_mul t 1 C, Nat.mul_add]; omega
  · rw [Nat.add_mul] at hk; omega
/-- the sizes in Euclid's loop -/
def gz : Nat → Nat
  | 0 => 7 | 1 => 15 | 2 => 39 | 3 => 95 | 4 => 231 | 5 => 559 | _ => 1351
theorem gz_step : ∀ lx, lx < 7 → ∀ ly, ly < 7 → 1 ≤ ly → ly < lx → gz (6 - lx) + (lx + 1 - ly) * (gz (7 - lx) + 1) ≤ gz (7 - ly) := by decide
theorem gz_first : ∀ lx, lx < 7 → ∀ ly, ly < 7 → 1 ≤ ly → 7 + (lx + 1 - ly) * (7 + 1) ≤ gz (7 - ly) := by decide
theorem gz_le : ∀ i, i < 8 → ∀ j, j < 8 → i ≤ j → gz i ≤ gz j := by decide
theorem gz_big : ∀ i, i < 8 → gz i ≤ 1351 := by decide
structure Eu (Bx By lx ly : Nat) : Prop where
  hx : lx ≤ 6
  hy : ly ≤ 6
  b : (Bx = 7 ∧ By = 7) ∨ (ly < lx ∧ Bx = gz (6 - lx) ∧ By = gz (7 - lx))
theorem Eu.pos {Bx By lx ly : Nat} (h : Eu Bx By lx ly) : 0 < Bx := by
  rcases h.b with ⟨h, _⟩ | ⟨_, h, _⟩
  · omega
  · have := gz_le 0 (by decide) (6 - lx) (by omega) (by omega)
    have e : gz 0 = 7 := rfl
    omega
theorem Eu.fit {Bx By lx ly : Nat} (h : Eu Bx By lx ly) (hy : 1 ≤ ly) : Bx + (lx + 1 - ly) * (By + 1) ≤ gz (7 - ly) ∧ By ≤ gz (6 - ly) := by
  have h1 := h.hx
  have h2 := h.hy
  rcases h.b with ⟨h3, h4⟩ | ⟨h3, h4, h5⟩
  · subst h3 h4
    exact ⟨gz_first lx (by omega) ly (by omega) hy, gz_le 0 (by decide) _ (by omega) (by omega)⟩
  · subst h4 h5
    exact ⟨gz_step lx (by omega) ly (by omega) hy h3, gz_le _ (by omega) _ (by omega) (by omega)⟩
theorem Cd.pb {D B : Nat} {p : List Rat} (h : Cd D B p) (hD : Bi' B (D : Int)) : PB B p := fun x hx => by
  obtain ⟨N, h1, h2⟩ := h.2 x hx
  exact bt_of (L := (D : Int)) h1 (by have := h.1; omega) h2 hD
theorem Cd.mono {D B C : Nat} {p : List Rat} (h : Cd D B p) (hm : B ≤ C) : Cd D C p := ⟨h.1, fun x hx => by
  obtain ⟨N, h1, h2⟩ := h.2 x hx
  exact ⟨N, h1, h2.mono hm⟩⟩
theorem Cd.trim {D B : Nat} {p : List Rat} (h : Cd D B p) : Cd D B (DI.trim p) := ⟨h.1, fun x hx => h.2 x (trim_mem hx)⟩
/-- the rest, its denominator's size too -/
theorem pdiv_cdD {a b : List Rat} {B C : Nat} (ha : Wh B a) (hb : Wh C b) (hl : cf b (b.length - 1) ≠ 0) (hB : 0 < B) : ∃ D : Nat, Cd D (B + (a.length + 1 - b.length) * (C + 1)) (pdiv a b).2 ∧ Bi' (B + (a.length + 1 - b.length) * (C + 1)) (D : Int) := by
  obtain ⟨l, h1, h2⟩ := hb.get (b.length - 1)
  have hl0 : l ≠ 0 := fun z => hl (by rw [h1, z]; rfl)
  unfold pdiv
  by_cases h : a.length < b.length
  · rw [if_pos h]
    refine ⟨1, (ha.mono (by omega)).cd, Bi'.mono (n := 1) (Bi'.of (by decide)) (by omega)⟩
  · rw [if_neg h]
    have hf := dS_fx (m := a.length - b.length) ha hb h1 hl0 h2 (a.length - b.length + 1)
    have hp := h2.powS (a.length - b.length + 1)
    refine ⟨(l ^ (a.length - b.length + 1)).natAbs, ⟨?_, fun x hx => ?_⟩, ?_⟩
    · have := pow_ne hl0 (a.length - b.length + 1)
      omega
    · obtain ⟨N, e1, e2⟩ := hf x hx
      rw [show a.length + 1 - b.length = a.length - b.length + 1 by omega]
      generalize l ^ (a.length - b.length + 1) = L at *
      rcases Int.natAbs_eq L with z | z
      · refine ⟨N, ?_, e2⟩
        rw [z] at e1
        rw [← e1]; rfl
      · refine ⟨-N, ?_, e2.neg⟩
        rw [z, Rat.intCast_neg] at e1
        rw [Rat.intCast_neg, ← e1]
        have : (((L.natAbs : Nat) : Int) : Rat) = (L.natAbs : Rat) := rfl
        rw [this]; grind
    · rw [show a.length + 1 - b.length = a.length - b.length + 1 by omega]
      refine Bi'.mono (n := (a.length - b.length + 1) * C + 1) ?_ (by rw [Nat.mul_add]; omega)
      unfold Bi' at hp ⊢
      rwa [Int.natAbs_natCast]
theorem prim_dv {g p : List Rat} (h : p = trim p) (hd : Dv g (prim p)) : Dv g p := by
  by_cases hne : p = []
  · rw [hne]; exact Dv.zero cf_nil
  · obtain ⟨c, hc, e⟩ := prim_cf h hne
    exact hd.smul (1 / c) fun n => by rw [e]; grind
theorem trim_trim (p : List Rat) : trim p = trim (trim p) := trim_ext fun n => (cf_trim p n).symm
end DI

/-! P10: walks over lists of the store. -/
namespace DI
open PySem
/-- a comprehension over a list of the store that stays -/
theorem mapV {X : Exn → Sto → Prop} {α : Type} {enc : α → D} {l : List α} {r : Nat} {f : D → Sto → Out (List D)} {g : α → D} {S : Sto} {Q : List D → Sto → Prop} (hS : S[r]? = some (.lst (l.map enc))) (h : ∀ (x : α) (I : List D → Sto → Prop), x ∈ l → I [g x] S → OkX X (f (enc x) S) I) (q : Q (l.map g) S) : OkX X (mapO (.live r (l.map enc).length false) f (Src.live r (l.map enc).length false).len 0 S) Q := by
  refine mapL (fun i acc S' => acc = (l.take i).map g ∧ S' = S) ?_ ?_ ⟨rfl, rfl⟩
  · rintro I i acc S' hI hi ⟨rfl, rfl⟩
    have hi : i < l.length := by
      have : i < (l.map enc).length := hi
      simpa using this
    refine ⟨enc l[i], ?_, h l[i] I (List.getElem_mem hi) (hI _ _ ⟨?_, rfl⟩)⟩
    · rw [live_at hS rfl]; simp [hi]
    rw [List.take_succ_eq_append_getElem hi, List.map_append]
    rfl
  · rintro acc S' ⟨rfl, rfl⟩
    refine ⟨live_fin hS rfl, ?_⟩
    have e : (Src.live r (l.map enc).length false).len = l.length := List.length_map _
    rw [e, List.take_length]
    exact q
/-- a loop over a list of the store that stays -/
theorem forV {α : Type} {enc : α → D} {l : List α} {r : Nat} {b : D → Env → Sto → SOut} {w : Wn} {S : Sto} (J : Nat → Env → Prop) (hS : S[r]? = some (.lst (l.map enc)))
    (step : ∀ (I : Env → Sto → Prop) (i : Nat) (env : Env) (hi : i < l.length), (∀ e, J (i + 1) e → I e S) → J i env → OkS (b (enc l[i]) env S) { w with nx := I, ct := I, bk := w.nx })
    (fin : ∀ env, J l.length env → w.nx env S) {env : Env} (h : J 0 env) : OkS (forO (.live r (l.map enc).length false) b (Src.live r (l.map enc).length false).len 0 env S) w := by
  refine forL (fun i env S' => S' = S ∧ J i env) ?_ ?_ ⟨rfl, h⟩
  · rintro I i env S' hI hi ⟨rfl, hj⟩
    have hi : i < l.length := by
      have : i < (l.map enc).length := hi
      simpa using this
    exact ⟨enc l[i], by rw [live_at hS rfl]; simp [hi], step I i env hi (fun e he => hI e _ ⟨rfl, he⟩) hj⟩
  · rintro env S' ⟨rfl, hj⟩
    refine ⟨live_fin hS rfl, fin env ?_⟩
    have e : (Src.live r (l.map enc).length false).len = l.length := List.length_map _
    rw [e] at hj; exact hj
/-- a loop over written items, the store left as it is -/
theorem forT {α : Type} {enc : α → D} {l : List α} {b : D → Env → Sto → SOut} {w : Wn} {S : Sto} (J : Nat → Env → Prop)
    (step : ∀ (I : Env → Sto → Prop) (i : Nat) (env : Env) (hi : i < l.length), (∀ e, J (i + 1) e → I e S) → J i env → OkS (b (enc l[i]) env S) { w with nx := I, ct := I, bk := w.nx })
    (fin : ∀ env, J l.length env → w.nx env S) {env : Env} (h : J 0 env) : OkS (forO (.its (l.map enc)) b (Src.its (l.map enc)).len 0 env S) w := by
  refine forL (fun i env S' => S' = S ∧ J i env) ?_ ?_ ⟨rfl, h⟩
  · rintro I i env S' hI hi ⟨rfl, hj⟩
    have hi : i < l.length := by
      have : i < (l.map enc).length := hi
      simpa using this
    exact ⟨enc l[i], by show (l.map enc)[i]? = _; simp [hi], step I i env hi (fun e he => hI e _ ⟨rfl, he⟩) hj⟩
  · rintro env S' ⟨rfl, hj⟩
    refine ⟨rfl, fin env ?_⟩
    have e : (Src.its (l.map enc)).len = l.length := List.length_map _
    rw [e] at hj; exact hj
theorem lcm_step (L d : Nat) : ((L : Int).fdiv ((Int.gcd (L : Int) (d : Int) : Nat) : Int)) * (d : Int) = ((Nat.lcm L d : Nat) : Int) := by
  have e : Int.gcd (L : Int) (d : Int) = Nat.gcd L d := rfl
  rw [e, Int.fdiv_eq_ediv_of_nonneg _ (by omega), ← Int.natCast_ediv, ← Int.natCast_mul]
  congr 1
  unfold Nat.lcm
  rw [Nat.div_mul_right_comm (Nat.gcd_dvd_left L d)]
theorem nat_fdiv (a b : Nat) : (a : Int).fdiv (b : Int) = ((a / b : Nat) : Int) := by
  rw [Int.fdiv_eq_ediv_of_nonneg _ (by omega), Int.natCast_ediv]
theorem gcd_nat (t : Nat) (n : Int) : Int.gcd (t : Int) n = Nat.gcd t n.natAbs := rfl
theorem Bi'.nat {n a : Nat} (h : a < 2 ^ n) : Bi' n (a : Int) := by
  show ((a : Nat) : Int).natAbs < 2 ^ n
  rw [Int.natAbs_natCast]; exact h
theorem Bi'.natle {n a b : Nat} (h : Bi' n (b : Int)) (hle : a ≤ b) : Bi' n (a : Int) := Bi'.nat (Nat.lt_of_le_of_lt hle (by unfold Bi' at h; rwa [Int.natAbs_natCast] at h))
end DI

/-! P11: division by a polynomial that was made monic. -/
namespace DI
open PySem
/-- N / (E * l^t) -/
def Gx (E l : Int) (B t : Nat) (p : List Rat) : Prop := ∀ x ∈ p, ∃ N : Int, x * ((E * l ^ t : Int) : Rat) = (N : Rat) ∧ Bi' B N
theorem Gx.mono {E l : Int} {B C t : Nat} {p : List Rat} (h : Gx E l B t p) (hm : B ≤ C) : Gx E l C t p := fun x hx => by
  obtain ⟨N, h1, h2⟩ := h x hx
  exact ⟨N, h1, h2.mono hm⟩
theorem pow_up (E l : Int) (t : Nat) : E * l ^ (t + 1) = (E * l ^ t) * l := by rw [Int.pow_succ, Int.mul_assoc]
theorem Gx.up {E l : Int} {B C t : Nat} {p : List Rat} (h : Gx E l B t p) (hl : Bi' C l) : Gx E l (B + C) (t + 1) p := fun x hx => by
  obtain ⟨N, h1, h2⟩ := h x hx
  refine ⟨N * l, ?_, h2.mul hl⟩
  rw [pow_up]
  generalize E * l ^ t = L at *
  rw [Rat.intCast_mul, Rat.intCast_mul, ← h1]; grind
theorem Gx.get {E l : Int} {B t : Nat} {p : List Rat} (h : Gx E l B t p) (n : Nat) : ∃ N : Int, cf p n * ((E * l ^ t : Int) : Rat) = (N : Rat) ∧ Bi' B N := by
  by_cases hn : n < p.length
  · rw [cf_lt hn]; exact h _ (List.getElem_mem hn)
  · rw [cf_ge (by omega)]
    exact ⟨0, by rw [Rat.zero_mul]; rfl, Nat.two_pow_pos _⟩
theorem Gx.set {E l : Int} {B t : Nat} {p : List Rat} {x : Rat} (h : Gx E l B t p) (hx : ∃ N : Int, x * ((E * l ^ t : Int) : Rat) = (N : Rat) ∧ Bi' B N) (i : Nat) : Gx E l B t (p.set i x) := fun y hy => by
  rcases List.mem_or_eq_of_mem_set hy with h1 | h1
  · exact h y h1
  · rw [h1]; exact hx
theorem Gx.pb {E l : Int} {B C e t : Nat} {p : List Rat} (h : Gx E l B t p) (hl : l ≠ 0) (hE : E ≠ 0) (hC : Bi' C l) (he : Bi' e E) (hm : e + (t * C + 1) ≤ B) : PB B p := fun x hx => by
  obtain ⟨N, h1, h2⟩ := h x hx
  exact bt_of h1 (Int.mul_ne_zero hE (pow_ne hl t)) h2 ((he.mul (hC.powS t)).mono hm)
theorem dI_keep (b r : List Rat) (f : Rat) (s k : Nat) : ∀ j, j ≤ k → cf (dI b f s r j) (s + k) = cf r (s + k) := by
  intro j
  induction j with
  | zero => intro _; rfl
  | succ j ihj =>
    intro hj
    rw [dI_succ]
    by_cases hlen : s + j < (dI b f s r j).length
    · rw [cf_set _ hlen, if_neg (by omega)]; exact ihj (by omega)
    · rw [List.set_eq_of_length_le (by omega)]; exact ihj (by omega)
theorem dI_gx {b r : List Rat} {E l : Int} {B C t s : Nat} (hb : Wh C b) (hl : cf b (b.length - 1) = (l : Rat)) (hl0 : l ≠ 0) (hC : Bi' C l) (hr : Gx E l B t r) : ∀ k, Gx E l (B + C + 1) (t + 1) (dI b (dF b s r) s r k) := by
  have hlr : (l : Rat) ≠ 0 := by
    intro z
    exact hl0 (by exact_mod_cast z)
  obtain ⟨N0, n1, n2⟩ := hr.get (s + b.length - 1)
  have hf : dF b s r = cf r (s + b.length - 1) / cf b (b.length - 1) := rfl
  intro k
  induction k with
  | zero => exact (hr.up hC).mono (by omega)
  | succ k ih =>
    rw [dI_succ]
    refine ih.set ?_ _
    have e1 : (dI b (dF b s r) s r k).getD (s + k) 0 = cf r (s + k) := dI_keep b r _ s k k (Nat.le_refl _)
    obtain ⟨N1, m1, m2⟩ := hr.get (s + k)
    obtain ⟨K, k1, k2⟩ := hb.get k
    have e3 : b.getD k 0 = cf b k := rfl
    rw [e1, e3, k1]
    refine ⟨N1 * l - N0 * K, ?_, ((m2.mul hC).sub (n2.mul k2)).mono (by omega)⟩
    rw [hf, hl, pow_up]
    generalize E * l ^ t = L at *
    rw [Rat.intCast_mul, Rat.intCast_sub, Rat.intCast_mul, Rat.intCast_mul, ← m1, ← n1]
    grind
theorem dS_gx {a b : List Rat} {E l : Int} {B C m : Nat} (ha : Gx E l B 0 a) (hb : Wh C b) (hl : cf b (b.length - 1) = (l : Rat)) (hl0 : l ≠ 0) (hC : Bi' C l) : ∀ t, Gx E l (B + t * (C + 1)) t (dS a b m t).2 := by
  intro t
  induction t with
  | zero => rw [Nat.zero_mul]; exact ha
  | succ t ih =>
    have := dI_gx (s := m - t) hb hl hl0 hC ih b.length
    exact this.mono (by rw [Nat.add_mul]; omega)
/-- by b / l as by b -/
theorem mon_len (b : List Rat) (l : Rat) : (b.map (· / l)).length = b.length := List.length_map _
theorem mon_cf (b : List Rat) (l : Rat) (n : Nat) : cf (b.map (· / l)) n = cf b n / l := cf_map0 (f := (· / l)) (by show 0 / l = 0; grind) b n
theorem dF_mon {b r : List Rat} {c : Rat} (hl : cf b (b.length - 1) ≠ 0) (h0 : c ≠ 0) (s : Nat) : dF (b.map (· / c)) s r = dF b s r * c := by
  have e1 : dF (b.map (· / c)) s r = cf r (s + (b.map (· / c)).length - 1) / cf (b.map (· / c)) ((b.map (· / c)).length - 1) := rfl
  have e2 : dF b s r = cf r (s + b.length - 1) / cf b (b.length - 1) := rfl
  rw [e1, e2, mon_len, mon_cf]
  generalize cf b (b.length - 1) = y at *
  generalize cf r (s + b.length - 1) = x at *
  grind
theorem dI_mon {b r : List Rat} {c : Rat} (hl : cf b (b.length - 1) ≠ 0) (h0 : c ≠ 0) (s : Nat) : ∀ k, dI (b.map (· / c)) (dF (b.map (· / c)) s r) s r k = dI b (dF b s r) s r k := by
  intro k
  induction k with
  | zero => rfl
  | succ k ih =>
    rw [dI_succ, dI_succ, ih, dF_mon hl h0]
    have e1 : (b.map (· / c)).getD k 0 = cf b k / c := mon_cf b c k
    have e2 : b.getD k 0 = cf b k := rfl
    rw [e1, e2]
    congr 1
    grind
theorem dS_mon {a b : List Rat} {c : Rat} (hl : cf b (b.length - 1) ≠ 0) (h0 : c ≠ 0) (m : Nat) : ∀ t, (dS a (b.map (· / c)) m t).2 = (dS a b m t).2 := by
  intro t
  induction t with
  | zero => rfl
  | succ t ih =>
    show dI _ (dF _ _ (dS a (b.map (· / c)) m t).2) _ (dS a (b.map (· / c)) m t).2 (b.map (· / c)).length = dI b (dF b _ (dS a b m t).2) _ (dS a b m t).2 b.length
    rw [ih, mon_len, dI_mon hl h0]
/-- what f_divided asks, for b / c, b whole -/
theorem div_fitM {a b : List Rat} {E : Int} {c : Rat} {B C e k : Nat} (ha : ∀ l, Gx E l B 0 a) (hb : Wh C b) (hl : cf b (b.length - 1) ≠ 0) (h0 : c ≠ 0) (hE : E ≠ 0) (he : Bi' e E) (heB : e + 1 ≤ B)
    (hk : Bt k (cf b (b.length - 1) / c)) (hM : B + (a.length + 1 - b.length) * (C + 1) + k ≤ 2000) :
    (∀ t, t ≤ a.length - (b.map (· / c)).length → (b.map (· / c)).length ≤ a.length → Bt 2000 (dF (b.map (· / c)) (a.length - (b.map (· / c)).length - t) (dS a (b.map (· / c)) (a.length - (b.map (· / c)).length) t).2)) ∧
    (∀ t i, t ≤ a.length - (b.map (· / c)).length → (b.map (· / c)).length ≤ a.length → i ≤ (b.map (· / c)).length → PB 2000 (dI (b.map (· / c)) (dF (b.map (· / c)) (a.length - (b.map (· / c)).length - t) (dS a (b.map (· / c)) (a.length - (b.map (· / c)).length) t).2) (a.length - (b.map (· / c)).length - t) (dS a (b.map (· / c)) (a.length - (b.map (· / c)).length) t).2 i)) := by
  obtain ⟨l, h1, h2⟩ := hb.get (b.length - 1)
  have hl0 : l ≠ 0 := fun z => hl (by rw [h1, z]; rfl)
  rw [mon_len]
  have key : ∀ t, t ≤ a.length - b.length → b.length ≤ a.length → B + (t + 1) * (C + 1) + k ≤ 2000 := fun t ht hle => by
    have : (t + 1) * (C + 1) ≤ (a.length + 1 - b.length) * (C + 1) := Nat.mul_le_mul (by omega) (Nat.le_refl _)
    omega
  have hS := dS_gx (m := a.length - b.length) (ha l) hb h1 hl0 h2
  refine ⟨fun t ht hle => ?_, fun t i ht hle hi => ?_⟩
  · have hk2 := key t ht hle
    rw [dS_mon hl h0]
    have hp := (hS t).pb hl0 hE h2 he (by rw [Nat.mul_add]; omega)
    have hB : 0 < B + t * (C + 1) := by omega
    have e1 : dF (b.map (· / c)) (a.length - b.length - t) (dS a b (a.length - b.length) t).2 = cf (dS a b (a.length - b.length) t).2 (a.length - b.length - t + (b.map (· / c)).length - 1) / cf (b.map (· / c)) ((b.map (· / c)).length - 1) := rfl
    rw [e1, mon_len, mon_cf]
    have hne : cf b (b.length - 1) / c ≠ 0 := by
      generalize cf b (b.length - 1) = y at *
      grind
    refine ((hp.get hB _).divR hk hne).mono ?_
    rw [Nat.add_mul] at hk2; omega
  · have hk2 := key t ht hle
    rw [dS_mon hl h0, dI_mon hl h0]
    have hf := dI_gx (s := a.length - b.length - t) hb h1 hl0 h2 (hS t) i
    refine (hf.pb hl0 hE h2 he ?_).mono ?_
    · rw [Nat.add_mul t 1 C, Nat.mul_add]; omega
    · rw [Nat.add_mul] at hk2; omega
/-- a primitive part of one coefficient is 1 or -1 -/
theorem prim_one {y : Rat} (h : y ≠ 0) : Wh 1 (prim [y]) := fun z hz => by
  obtain ⟨x, hx, rfl⟩ := List.mem_map.mp hz
  have hx : x = y := by simpa using hx
  subst hx
  refine ⟨_, rfl, ?_⟩
  have hT : prT [x] = (nm (lcL 1 [x]) x).natAbs := by
    show Nat.gcd 0 _ = _
    rw [Nat.gcd_zero_left]
  have h0 : nm (lcL 1 [x]) x ≠ 0 := fun z => h (nm_zero (L := lcL 1 [x]) (den_lcL (by simp)) (lcL_pos (by decide)) z)
  rw [hT]
  generalize nm (lcL 1 [x]) x = n at *
  show (n / (n.natAbs : Int)).natAbs < 2 ^ 1
  rcases Int.natAbs_eq n with e | e
  · have : n / (n.natAbs : Int) = 1 := by rw [← e]; exact Int.ediv_self h0
    rw [this]; decide
  · have h2 : (n.natAbs : Int) = -n := by omega
    have : n / (n.natAbs : Int) = -1 := by rw [h2, Int.ediv_neg, Int.ediv_self h0]
    rw [this]; decide
end DI

/-! P12: sizes of products, of quotients. -/
namespace DI
open PySem
theorem Cd.get {D B : Nat} {p : List Rat} (h : Cd D B p) (n : Nat) : ∃ N : Int, cf p n * (D : Rat) = (N : Rat) ∧ Bi' B N := by
  by_cases hn : n < p.length
  · rw [cf_lt hn]; exact h.2 _ (List.getElem_mem hn)
  · rw [cf_ge (by omega)]
    exact ⟨0, by rw [Rat.zero_mul]; rfl, Nat.two_pow_pos _⟩
/-- the product's coefficients over D * F -/
theorem cv_cd {D F B C : Nat} : ∀ {a : List Rat} {b : List Rat}, (∀ x ∈ a, ∃ N : Int, x * (D : Rat) = (N : Rat) ∧ Bi' B N) → (∀ n, ∃ N : Int, cf b n * (F : Rat) = (N : Rat) ∧ Bi' C N) → ∀ n, ∃ N : Int, cv (cf a) (cf b) n * ((D : Rat) * (F : Rat)) = (N : Rat) ∧ Bi' (B + C + a.length) N
  | [], b, _, _, n => ⟨0, by rw [cv_zeroL cf_nil, Rat.zero_mul]; rfl, Nat.two_pow_pos _⟩
  | x :: a, b, ha, hb, n => by
    obtain ⟨N1, n1, n2⟩ := ha x List.mem_cons_self
    obtain ⟨N2, m1, m2⟩ := hb n
    have ih := cv_cd (a := a) (b := b) (fun y hy => ha y (List.mem_cons_of_mem _ hy)) hb
    have h3 : ∃ N : Int, sh (cv (cf a) (cf b)) n * ((D : Rat) * (F : Rat)) = (N : Rat) ∧ Bi' (B + C + a.length) N := by
      cases n with
      | zero => exact ⟨0, by show (0 : Rat) * _ = _; rw [Rat.zero_mul]; rfl, Nat.two_pow_pos _⟩
      | succ n => exact ih n
    obtain ⟨N3, k1, k2⟩ := h3
    refine ⟨N1 * N2 + N3, ?_, ((n2.mul m2).add k2).mono ?_⟩
    · rw [cv_consL, Rat.intCast_add, Rat.intCast_mul, ← n1, ← m1, ← k1]
      generalize sh (cv (cf a) (cf b)) n = z
      generalize cf b n = w
      grind
    · rw [List.length_cons]; omega
theorem pmul_cd {D F B C : Nat} {a b : List Rat} (ha : Cd D B a) (hb : Cd F C b) : Cd (D * F) (B + C + a.length) (pmul a b) := by
  refine ⟨Nat.mul_pos ha.1 hb.1, fun x hx => ?_⟩
  obtain ⟨n, hn, rfl⟩ := List.mem_iff_getElem.mp hx
  obtain ⟨N, h1, h2⟩ := cv_cd ha.2 (fun n => hb.get n) n
  refine ⟨N, ?_, h2⟩
  rw [← cf_lt, cf_pmul, Rat.natCast_mul]; exact h1
/-- what f_divided asks, and the sizes of its results: b / c, b whole -/
theorem div_sizes {a b : List Rat} {E : Int} {c : Rat} {B C e k M : Nat} (ha : ∀ l, Gx E l B 0 a) (hb : Wh C b) (hl : cf b (b.length - 1) ≠ 0) (h0 : c ≠ 0) (hE : E ≠ 0) (he : Bi' e E) (heB : e + 1 ≤ B)
    (hk : Bt k (cf b (b.length - 1) / c)) (hM : B + (a.length + 1 - b.length) * (C + 1) + k ≤ M) :
    PB M (pdiv a (b.map (· / c))).1 ∧ PB M (pdiv a (b.map (· / c))).2 := by
  obtain ⟨l, h1, h2⟩ := hb.get (b.length - 1)
  have hl0 : l ≠ 0 := fun z => hl (by rw [h1, z]; rfl)
  unfold pdiv
  rw [mon_len]
  by_cases hlt : a.length < b.length
  · rw [if_pos hlt]
    refine ⟨fun x hx => (nomatch hx), ?_⟩
    have := (ha 1).pb (C := 1) (by decide) hE (Bi'.of (by decide)) he (by omega)
    exact this.mono (by omega)
  · rw [if_neg hlt]
    have key : ∀ t, t ≤ a.length - b.length → B + (t + 1) * (C + 1) + k ≤ M := fun t ht => by
      have : (t + 1) * (C + 1) ≤ (a.length + 1 - b.length) * (C + 1) := Nat.mul_le_mul (by omega) (Nat.le_refl _)
      omega
    have hS := dS_gx (m := a.length - b.length) (ha l) hb h1 hl0 h2
    have hF : ∀ t, t ≤ a.length - b.length → Bt M (dF (b.map (· / c)) (a.length - b.length - t) (dS a b (a.length - b.length) t).2) := fun t ht => by
      have hk2 := key t ht
      have hp := (hS t).pb hl0 hE h2 he (by rw [Nat.mul_add]; omega)
      have hB : 0 < B + t * (C + 1) := by omega
      have e1 : dF (b.map (· / c)) (a.length - b.length - t) (dS a b (a.length - b.length) t).2 = cf (dS a b (a.length - b.length) t).2 (a.length - b.length - t + (b.map (· / c)).length - 1) / cf (b.map (· / c)) ((b.map (· / c)).length - 1) := rfl
      rw [e1, mon_len, mon_cf]
      have hne : cf b (b.length - 1) / c ≠ 0 := by
        generalize cf b (b.length - 1) = y at *
        grind
      refine ((hp.get hB _).divR hk hne).mono ?_
      rw [Nat.add_mul] at hk2; omega
    constructor
    · have hMp : 0 < M := by have := key 0 (by omega); omega
      have hq : ∀ t, t ≤ a.length - b.length + 1 → PB M (dS a (b.map (· / c)) (a.length - b.length) t).1 := by
        intro t
        induction t with
        | zero => intro _; exact PB.rep hMp
        | succ t ih =>
          intro ht
          show PB M ((dS a (b.map (· / c)) (a.length - b.length) t).1.set _ (dF (b.map (· / c)) _ (dS a (b.map (· / c)) (a.length - b.length) t).2))
          rw [dS_mon hl h0]
          exact (ih (by omega)).set (hF t (by omega)) _
      exact hq _ (Nat.le_refl _)
    · rw [dS_mon hl h0]
      have hk2 := key (a.length - b.length) (Nat.le_refl _)
      refine ((hS (a.length - b.length + 1)).pb hl0 hE h2 he (by rw [Nat.mul_add]; omega)).mono (by omega)
end DI

/-! P13: the remainder by a divisor. -/
namespace DI
open PySem
/-- x / c leaves nothing of its multiples -/
theorem rem_zero {p x : List Rat} {c : Rat} (hc : c ≠ 0) (hx : x ≠ []) (hl : cf x (x.length - 1) ≠ 0) (hd : Dv x p) : trim (pdiv p (x.map (· / c))).2 = [] := by
  have hpos := List.length_pos_iff.mpr hx
  have hne : x.map (· / c) ≠ [] := fun z => hx (List.map_eq_nil_iff.mp z)
  have hl2 : cf (x.map (· / c)) ((x.map (· / c)).length - 1) ≠ 0 := by
    rw [mon_len, mon_cf]
    generalize cf x (x.length - 1) = y at *
    grind
  obtain ⟨h1, h2⟩ := pdiv_eq (a := p) hne hl2
  rw [mon_len] at h2
  refine trim_nil ?_
  have d1 : Dv x (mulR (pdiv p (x.map (· / c))).1 (x.map (· / c))) := by
    have g : Dv x (x.map (· / c)) := (Dv.refl x).smul (1 / c) fun n => by rw [mon_cf]; grind
    exact g.mul (pdiv p (x.map (· / c))).1 fun n => cf_mulR _ _ n
  have d2 : Dv x (pdiv p (x.map (· / c))).2 := by
    refine (hd.add (d1.smul (q := (mulR (pdiv p (x.map (· / c))).1 (x.map (· / c))).map (-1 * ·)) (-1) fun n => cf_smul _ _ n)) fun n => ?_
    rw [cf_smul, cf_mulR, h1]; grind
  exact d2.low (d := x.length - 1) hl (fun n hn => cf_ge (by omega)) fun n hn => h2 n (by omega)
/-- a whole, primitive x: sizes by its length -/
theorem wh_small {x : List Rat} (w : Wh (gz (6 - x.length)) x) (hx : x ≠ []) (lx : x.length ≤ 6) (z : ∃ y, x = prim y ∧ y = trim y) : ∃ C, Wh C x ∧ C ≤ 559 ∧ (∀ la, la ≤ 6 → 7 + (la + 1 - x.length) * (C + 1) + 1 ≤ 2000) := by
  have hpos := List.length_pos_iff.mpr hx
  by_cases h1 : x.length = 1
  · obtain ⟨y, rfl, ty⟩ := z
    rw [prim_len] at h1
    obtain ⟨u, rfl⟩ := List.length_eq_one_iff.mp h1
    have hu : u ≠ 0 := fun h => by
      have := cf_last ty (by simp)
      rw [h] at this
      exact this rfl
    exact ⟨1, prim_one hu, by decide, fun la hla => by rw [prim_len]; show 7 + (la + 1 - 1) * 2 + 1 ≤ 2000; omega⟩
  · refine ⟨gz (6 - x.length), w, ?_, fun la hla => ?_⟩
    · exact gz_le (6 - x.length) (by omega) 5 (by decide) (by omega)
    · have key : ∀ lx, lx < 7 → 2 ≤ lx → ∀ la, la < 7 → 7 + (la + 1 - lx) * (gz (6 - lx) + 1) + 1 ≤ 2000 := by decide
      exact key _ (by omega) (by omega) _ (by omega)
end DI

/-! P14: cuts of a block, exceptions, more operations. -/
namespace DI
open PySem

def B.take : Nat → B → B
  | 0, _ => .nil
  | _ + 1, .nil => .nil
  | n + 1, .cons s b => .cons s (B.take n b)
def B.drop : Nat → B → B
  | 0, b => b
  | _ + 1, .nil => .nil
  | n + 1, .cons _ b => B.drop n b
theorem s_split (c : Cfg) (W : Nat) (w : Wn) : ∀ (n : Nat) (b : B) (env : Env) (S : Sto), OkS (exB c W b env S) w ↔ OkS (exB c W (b.take n) env S) { w with nx := fun env S => OkS (exB c W (b.drop n) env S) w }
  | 0, b, env, S => Iff.rfl
  | _ + 1, .nil, env, S => Iff.rfl
  | n + 1, .cons s b, env, S => by
    show _ ↔ OkS (exB c W (.cons s (B.take n b)) env S) _
    rw [s_cons, s_cons]
    constructor
    · intro h
      exact h.mono (fun e S h => (s_split c W w n b e S).mp h) (fun _ _ h => h) (fun _ _ h => h) (fun _ _ h => h)
    · intro h
      exact h.mono (fun e S h => (s_split c W w n b e S).mpr h) (fun _ _ h => h) (fun _ _ h => h) (fun _ _ h => h)
/-- the first n statements bring I; from I the rest -/
theorem s_cut {c : Cfg} {W : Nat} {b : B} {env : Env} {S : Sto} {w : Wn} (n : Nat) (I : Env → Sto → Prop) (h1 : OkS (exB c W (b.take n) env S) { w with nx := I }) (h2 : ∀ env S, I env S → OkS (exB c W (b.drop n) env S) w) : OkS (exB c W b env S) w := by
  rw [s_split c W w n]
  exact h1.mono h2 (fun _ _ h => h) (fun _ _ h => h) (fun _ _ h => h)
/-- division by zero -/
def dbz (d : D) : Exn := ⟨"DivisionByZero", [("dividend", d), ("class_name", .str "DivisionByZero")]⟩
theorem mk_dbz (d : D) : mkExn "DivisionByZero" [d] = some (dbz d) := rfl
theorem try_dbz (d : D) : tryRes (dbz d) = some [.str "DivisionByZero", d] := rfl
theorem p_intI {X : Exn → Sto → Prop} (i : Int) (S : Sto) (Q : D → Sto → Prop) : OkX X (biD .int [.int i] S) Q ↔ Q (.int i) S := Iff.rfl
theorem p_intB {X : Exn → Sto → Prop} (i : Bool) (S : Sto) (Q : D → Sto → Prop) : OkX X (biD .int [.bl i] S) Q ↔ Q (.int (if i then 1 else 0)) S := Iff.rfl
theorem fr_lt (x y : Rat) : (x.num * y.den < y.num * x.den) ↔ x < y := (Rat.lt_iff x y).symm
theorem fr_num0 (x : Rat) : x.num = 0 ↔ x = 0 := Rat.num_eq_zero
theorem Same.val {S : Sto} {n : Nat} {d e : D} (h : Same S n d e) : Same S (n + 1) (.tup [.str "value", d]) (.tup [.str "value", e]) := .tup (by show 2 ≤ 1000; decide) (.cons (.str (by decide +kernel)) (.cons h .nil))
theorem Same.dbz {S : Sto} {n : Nat} {d e : D} (h : Same S n d e) : Same S (n + 1) (.tup [.str "DivisionByZero", d]) (.tup [.str "DivisionByZero", e]) := .tup (by show 2 ≤ 1000; decide) (.cons (.str (by decide +kernel)) (.cons h .nil))
end DI

/-! P15: sizes for k04. -/
namespace DI
open PySem
theorem pm_fitG {a b : List Rat} {B M : Nat} (ha : PB B a) (hb : PB B b) (hB : 0 < B) (hM : 1 + a.length * (b.length * (2 * B + 1)) ≤ M) (j t : Nat) (hj : j < a.length) (ht : t ≤ b.length) : PB M (pmI a b j (pmO a b j) t) := by
  refine (pmI_bits ha hb hB (by omega) (pmO_bits ha hb hB j) j t).mono ?_
  have h1 : (j + 1) * (b.length * (2 * B + 1)) ≤ a.length * (b.length * (2 * B + 1)) := Nat.mul_le_mul (by omega) (Nat.le_refl _)
  have h2 : t * (2 * B + 1) ≤ b.length * (2 * B + 1) := Nat.mul_le_mul ht (Nat.le_refl _)
  rw [Nat.add_mul] at h1
  omega
theorem Cd.scale {D B e : Nat} {p : List Rat} (h : Cd D B p) (m : Nat) (hm : 0 < m) (he : Bi' e (m : Int)) : Cd (D * m) (B + e) p := ⟨Nat.mul_pos h.1 hm, fun x hx => by
  obtain ⟨N, h1, h2⟩ := h.2 x hx
  refine ⟨N * m, ?_, h2.mul he⟩
  rw [Rat.natCast_mul, Rat.intCast_mul, ← h1, Rat.mul_assoc]
  rfl⟩
theorem pmul_len (a b : List Rat) : (pmul a b).length = a.length + b.length := by unfold pmul; rw [pmO_len]
theorem Cd.gx {E B : Nat} {p : List Rat} (h : Cd E B p) (l : Int) : Gx (E : Int) l B 0 p := fun x hx => by
  obtain ⟨N, h1, h2⟩ := h.2 x hx
  refine ⟨N, ?_, h2⟩
  rw [Int.pow_zero, ← h1, Int.mul_one]
  rfl
theorem pdiv_len (a b : List Rat) : (pdiv a b).1.length ≤ a.length + 1 - b.length ∧ (pdiv a b).2.length ≤ a.length := by
  unfold pdiv
  split
  · exact ⟨Nat.zero_le _, Nat.le_refl _⟩
  · obtain ⟨u1, u2⟩ := dS_len a b (a.length - b.length) (a.length - b.length + 1)
    exact ⟨by rw [u1]; omega, by rw [u2]; exact Nat.le_refl _⟩
/-- the division puts together again -/
theorem pdiv_back {a b : List Rat} (ta : a = trim a) (hb : b ≠ []) (hl : cf b (b.length - 1) ≠ 0) : trim (padd (trim (pmul (trim (pdiv a b).1) b)) (trim (pdiv a b).2)) = a := by
  refine Eq.trans (trim_ext fun n => ?_) ta.symm
  have h := (pdiv_eq (a := a) hb hl).1 n
  rw [cf_padd, cf_trim, cf_trim, cf_pmul, cv_congr (cf_trim _) (fun _ => rfl), h, Rat.add_comm]
theorem p_lenPo {X : Exn → Sto → Prop} (p : List Rat) (S : Sto) (Q : D → Sto → Prop) : OkX X (biD .len [po p] S) Q ↔ Q (.int p.length) S := by
  unfold po
  rw [p_lenT, List.length_map]
end DI

set_option autoImplicit true
namespace K_k04
open PySem DI
def c_divisor_of : Fc := ⟨["one", "other"], 2, [], (.cons (.asg (.tp [0, 1]) (.tup (.cons (.bi .abs (.cons (.var 0) .nil)) (.cons (.bi .abs (.cons (.var 1) .nil)) .nil)))) (.cons (.whl (.val (.cmp .gt (.var 1) (.int 0))) (.cons (.asg (.tp [0, 1]) (.tup (.cons (.var 1) (.cons (.bin .mod (.var 0) (.var 1)) .nil)))) .nil)) (.cons (.ret (.var 0)) .nil)))⟩
def c_reduced : Fc := ⟨["top", "below", "by"], 2, [], (.cons (.asg (.nm 2) (.call "divisor_of" (.cons (.var 0) (.cons (.var 1) .nil)))) (.cons (.ite (.val (.cmp .lt (.var 1) (.int 0))) (.cons (.asg (.nm 2) (.neg (.var 2))) .nil) .nil) (.cons (.ret (.tup (.cons (.bin .fdiv (.var 0) (.var 2)) (.cons (.bin .fdiv (.var 1) (.var 2)) .nil)))) .nil)))⟩
def c_subtract : Fc := ⟨["one", "other"], 2, [], (.cons (.ret (.call "reduced" (.cons (.bin .sub (.bin .mul (.ix (.var 0) (.int 0)) (.ix (.var 1) (.int 1))) (.bin .mul (.ix (.var 1) (.int 0)) (.ix (.var 0) (.int 1)))) (.cons (.bin .mul (.ix (.var 0) (.int 1)) (.ix (.var 1) (.int 1))) .nil)))) .nil)⟩
def c_multiply : Fc := ⟨["one", "other"], 2, [], (.cons (.ret (.call "reduced" (.cons (.bin .mul (.ix (.var 0) (.int 0)) (.ix (.var 1) (.int 0))) (.cons (.bin .mul (.ix (.var 0) (.int 1)) (.ix (.var 1) (.int 1))) .nil)))) .nil)⟩
def c_divide : Fc := ⟨["one", "other"], 2, [], (.cons (.ite (.val (.cmp .eq (.ix (.var 1) (.int 0)) (.int 0))) (.cons (.raise_ "DivisionByZero" (.cons (.var 0) .nil)) .nil) .nil) (.cons (.ret (.call "reduced" (.cons (.bin .mul (.ix (.var 0) (.int 0)) (.ix (.var 1) (.int 1))) (.cons (.bin .mul (.ix (.var 0) (.int 1)) (.ix (.var 1) (.int 0))) .nil)))) .nil))⟩
def c_trimmed : Fc := ⟨["row", "end"], 1, [], (.cons (.asg (.nm 1) (.bi .len (.cons (.var 0) .nil))) (.cons (.whl (.and_ (.val (.cmp .gt (.var 1) (.int 0))) (.val (.cmp .eq (.ix (.var 0) (.bin .sub (.var 1) (.int 1))) (.glo "ZERO")))) (.cons (.aug 1 .sub (.int 1)) .nil)) (.cons (.ret (.bi .tuple (.cons (.sl (.var 0) .no (.ex (.var 1))) .nil))) .nil)))⟩
def c_divided : Fc := ⟨["one", "other", "at", "rest", "result", "factor", "k", "each"], 2, [], (.cons (.ite (.val (.cmp .eq (.var 1) (.glo "NOTHING"))) (.cons (.raise_ "DivisionByZero" (.cons (.var 0) .nil)) .nil) .nil) (.cons (.asg (.tp [3, 4]) (.tup (.cons (.bi .list (.cons (.var 0) .nil)) (.cons (.bin .mul (.lst (.cons (.glo "ZERO") .nil)) (.bi .max2 (.cons (.int 0) (.cons (.bin .add (.bin .sub (.bi .len (.cons (.var 0) .nil)) (.bi .len (.cons (.var 1) .nil))) (.int 1)) .nil)))) .nil)))) (.cons (.for_ (.nm 2) (.rng3 (.bin .sub (.bi .len (.cons (.var 0) .nil)) (.bi .len (.cons (.var 1) .nil))) (.neg (.int 1)) (.neg (.int 1))) (.cons (.asg (.nm 5) (.call "divide" (.cons (.ix (.var 3) (.bin .sub (.bin .add (.var 2) (.bi .len (.cons (.var 1) .nil))) (.int 1))) (.cons (.ix (.var 1) (.neg (.int 1))) .nil)))) (.cons (.setIx (.var 4) (.var 2) (.var 5)) (.cons (.for_ (.tp [6, 7]) (.enum (.var 1)) (.cons (.setIx (.var 3) (.bin .add (.var 2) (.var 6)) (.call "subtract" (.cons (.ix (.var 3) (.bin .add (.var 2) (.var 6))) (.cons (.call "multiply" (.cons (.var 5) (.cons (.var 7) .nil))) .nil)))) .nil)) .nil)))) (.cons (.ret (.tup (.cons (.call "trimmed" (.cons (.var 4) .nil)) (.cons (.call "trimmed" (.cons (.var 3) .nil)) .nil)))) .nil))))⟩
def c__law_draws : Fc := ⟨["_law_script", "_law_salt", "_law_cell"], 1, [], (.cons (.asg (.nm 1) (.int 9493)) (.cons (.for_ (.nm 2) (.of (.sl (.var 0) .no (.ex (.int 63)))) (.cons (.asg (.nm 1) (.bin .mod (.bin .add (.bin .add (.bin .mul (.var 1) (.int 48271)) (.bin .mod (.var 2) (.int 2147483587))) (.int 29)) (.int 2147483647))) .nil)) (.cons (.ret (.lst (.cons (.bi .list (.cons (.sl (.var 0) .no (.ex (.int 63))) .nil)) (.cons (.int 0) (.cons (.int 0) (.cons (.var 1) .nil)))))) .nil)))⟩
def c__law_draw : Fc := ⟨["_law_rng", "_law_amount", "_law_seed", "_law_cell", "_law_got"], 2, [], (.cons (.ite (.and_ (.val (.cmp .eq (.ix (.var 0) (.int 2)) (.int 0))) (.val (.cmp .lt (.ix (.var 0) (.int 1)) (.bi .len (.cons (.ix (.var 0) (.int 0)) .nil))))) (.cons (.asg (.nm 3) (.ix (.ix (.var 0) (.int 0)) (.ix (.var 0) (.int 1)))) (.cons (.setIx (.var 0) (.int 1) (.bin .add (.ix (.var 0) (.int 1)) (.int 1))) (.cons (.ite (.val (.cmp .ge (.var 3) (.bin .pow (.int 10) (.int 18)))) (.cons (.setIx (.var 0) (.int 2) (.var 3)) .nil) (.cons (.setIx (.var 0) (.int 3) (.bin .mod (.bin .add (.bin .add (.bin .mul (.ix (.var 0) (.int 3)) (.int 40692)) (.bin .mul (.bin .mod (.var 3) (.int 2147483587)) (.int 69621))) (.int 11)) (.int 2147483647))) .nil)) .nil))) .nil) (.cons (.ite (.val (.cmp .gt (.ix (.var 0) (.int 2)) (.int 0))) (.cons (.asg (.nm 4) (.bin .mod (.ix (.var 0) (.int 2)) (.var 1))) (.cons (.setIx (.var 0) (.int 2) (.bin .fdiv (.ix (.var 0) (.int 2)) (.var 1))) (.cons (.ret (.var 4)) .nil))) .nil) (.cons (.asg (.nm 2) (.ix (.var 0) (.int 3))) (.cons (.setIx (.var 0) (.int 3) (.bin .mod (.bin .add (.bin .add (.bin .mul (.var 2) (.int 62089)) (.bin .mul (.bin .fdiv (.var 2) (.int 65539)) (.int 31))) (.int 1013904223)) (.int 2147483647))) (.cons (.ret (.bin .mod (.bin .add (.bin .fdiv (.ix (.var 0) (.int 3)) (.int 97)) (.bin .mul (.bin .mod (.ix (.var 0) (.int 3)) (.int 8191)) (.int 67))) (.var 1))) .nil)))))⟩
def c__law_pick : Fc := ⟨["_law_rng", "_law_things"], 2, [], (.cons (.ret (.ix (.var 1) (.call "_law_draw" (.cons (.var 0) (.cons (.bi .len (.cons (.var 1) .nil)) .nil))))) .nil)⟩
def c__law_same : Fc := ⟨["_law_result", "_law_expected", "_law_k"], 2, [], (.cons (.ite (.val (.bi .isinst (.cons (.var 1) (.cons (.bt "dict" "dict") .nil)))) (.cons .never .nil) .nil) (.cons (.ite (.or_ (.val (.cmp .ne (.bi .isinst (.cons (.var 1) (.cons (.bt "tuple" "tuple") .nil))) (.bi .isinst (.cons (.var 0) (.cons (.bt "tuple" "tuple") .nil))))) (.val (.cmp .ne (.bi .isinst (.cons (.var 1) (.cons (.bt "list" "list") .nil))) (.bi .isinst (.cons (.var 0) (.cons (.bt "list" "list") .nil)))))) (.cons (.ret (.bl false)) .nil) .nil) (.cons (.ite (.not_ (.val (.bi .isinst (.cons (.var 1) (.cons (.tup (.cons (.bt "tuple" "tuple") (.cons (.bt "list" "list") .nil))) .nil))))) (.cons (.ret (.andV (.cmp .eq (.bi .isinst (.cons (.var 0) (.cons (.bt "bool" "bool") .nil))) (.bi .isinst (.cons (.var 1) (.cons (.bt "bool" "bool") .nil)))) (.cmp .eq (.var 0) (.var 1)))) .nil) .nil) (.cons (.ret (.andV (.cmp .eq (.bi .len (.cons (.var 0) .nil)) (.bi .len (.cons (.var 1) .nil))) (.bi .all (.cons (.lc [("_law_k", 2)] (.nm 2) (.rng1 (.bi .len (.cons (.var 1) .nil))) (.call "_law_same" (.cons (.ix (.var 0) (.var 2)) (.cons (.ix (.var 1) (.var 2)) .nil)))) .nil)))) .nil))))⟩
def c__law_gcd : Fc := ⟨["_law_one", "_law_two"], 2, [], (.cons (.asg (.tp [0, 1]) (.tup (.cons (.bi .abs (.cons (.var 0) .nil)) (.cons (.bi .abs (.cons (.var 1) .nil)) .nil)))) (.cons (.whl (.val (.cmp .ne (.var 1) (.int 0))) (.cons (.asg (.tp [0, 1]) (.tup (.cons (.var 1) (.cons (.bin .mod (.var 0) (.var 1)) .nil)))) .nil)) (.cons (.ret (.var 0)) .nil)))⟩
def c__law_low : Fc := ⟨["_law_over", "_law_under", "_law_by"], 2, [], (.cons (.asg (.nm 2) (.call "_law_gcd" (.cons (.var 0) (.cons (.var 1) .nil)))) (.cons (.asg (.nm 2) (.ite (.val (.cmp .gt (.var 1) (.int 0))) (.var 2) (.bin .sub (.int 0) (.var 2)))) (.cons (.ret (.tup (.cons (.bin .fdiv (.var 0) (.var 2)) (.cons (.bin .fdiv (.var 1) (.var 2)) .nil)))) .nil)))⟩
def c__law_add : Fc := ⟨["_law_one", "_law_two"], 2, [], (.cons (.ret (.call "_law_low" (.cons (.bin .add (.bin .mul (.ix (.var 0) (.int 0)) (.ix (.var 1) (.int 1))) (.bin .mul (.ix (.var 1) (.int 0)) (.ix (.var 0) (.int 1)))) (.cons (.bin .mul (.ix (.var 0) (.int 1)) (.ix (.var 1) (.int 1))) .nil)))) .nil)⟩
def c__law_mul : Fc := ⟨["_law_one", "_law_two"], 2, [], (.cons (.ret (.call "_law_low" (.cons (.bin .mul (.ix (.var 0) (.int 0)) (.ix (.var 1) (.int 0))) (.cons (.bin .mul (.ix (.var 0) (.int 1)) (.ix (.var 1) (.int 1))) .nil)))) .nil)⟩
def c__law_trim : Fc := ⟨["_law_row", "_law_kept"], 1, [], (.cons (.asg (.nm 1) (.bi .list (.cons (.var 0) .nil))) (.cons (.whl (.and_ (.val (.cmp .ne (.var 1) (.lst .nil))) (.val (.cmp .eq (.ix (.var 1) (.neg (.int 1))) (.tup (.cons (.int 0) (.cons (.int 1) .nil)))))) (.cons (.expr (.me .pop (.var 1) .nil)) .nil)) (.cons (.ret (.bi .tuple (.cons (.var 1) .nil))) .nil)))⟩
def c__law_at : Fc := ⟨["_law_poly_here", "_law_power"], 2, [], (.cons (.ret (.ite (.val (.cmp .lt (.var 1) (.bi .len (.cons (.var 0) .nil)))) (.ix (.var 0) (.var 1)) (.tup (.cons (.int 0) (.cons (.int 1) .nil))))) .nil)⟩
def c__law_padd : Fc := ⟨["_law_one", "_law_two", "_law_k"], 2, [], (.cons (.ret (.call "_law_trim" (.cons (.lc [("_law_k", 2)] (.nm 2) (.rng1 (.bi .max2 (.cons (.bi .len (.cons (.var 0) .nil)) (.cons (.bi .len (.cons (.var 1) .nil)) .nil)))) (.call "_law_add" (.cons (.call "_law_at" (.cons (.var 0) (.cons (.var 2) .nil))) (.cons (.call "_law_at" (.cons (.var 1) (.cons (.var 2) .nil))) .nil)))) .nil))) .nil)⟩
def c__law_pmul : Fc := ⟨["_law_one", "_law_two", "_law_result", "_law_j", "_law_k"], 2, [], (.cons (.asg (.nm 2) (.bin .mul (.lst (.cons (.tup (.cons (.int 0) (.cons (.int 1) .nil))) .nil)) (.bin .add (.bi .len (.cons (.var 0) .nil)) (.bi .len (.cons (.var 1) .nil))))) (.cons (.for_ (.nm 3) (.rng1 (.bi .len (.cons (.var 0) .nil))) (.cons (.for_ (.nm 4) (.rng1 (.bi .len (.cons (.var 1) .nil))) (.cons (.setIx (.var 2) (.bin .add (.var 3) (.var 4)) (.call "_law_add" (.cons (.ix (.var 2) (.bin .add (.var 3) (.var 4))) (.cons (.call "_law_mul" (.cons (.ix (.var 0) (.var 3)) (.cons (.ix (.var 1) (.var 4)) .nil))) .nil)))) .nil)) .nil)) (.cons (.ret (.call "_law_trim" (.cons (.var 2) .nil))) .nil)))⟩
def c__law_small : Fc := ⟨["_law_rng"], 1, [], (.cons (.ret (.call "_law_low" (.cons (.bin .sub (.call "_law_draw" (.cons (.var 0) (.cons (.int 21) .nil))) (.int 10)) (.cons (.bin .add (.int 1) (.call "_law_draw" (.cons (.var 0) (.cons (.int 4) .nil)))) .nil)))) .nil)⟩
def c__law_poly : Fc := ⟨["_law_rng", "_law_most", "_law_k"], 2, [], (.cons (.ret (.call "_law_trim" (.cons (.lc [("_law_k", 2)] (.nm 2) (.rng1 (.call "_law_draw" (.cons (.var 0) (.cons (.bin .add (.var 1) (.int 1)) .nil)))) (.call "_law_pick" (.cons (.var 0) (.cons (.lst (.cons (.call "_law_small" (.cons (.var 0) .nil)) (.cons (.tup (.cons (.int 0) (.cons (.int 1) .nil))) (.cons (.tup (.cons (.int 1) (.cons (.int 1) .nil))) .nil)))) .nil)))) .nil))) .nil)⟩
def c_law_b0 : B := (.cons (.asg (.nm 3) (.call "_law_poly" (.cons (.var 1) (.cons (.int 4) .nil)))) (.cons (.asg (.nm 4) (.call "_law_pick" (.cons (.var 1) (.cons (.lst (.cons (.call "_law_poly" (.cons (.var 1) (.cons (.int 8) .nil))) (.cons (.call "_law_pmul" (.cons (.var 3) (.cons (.call "_law_poly" (.cons (.var 1) (.cons (.int 4) .nil))) .nil))) .nil))) .nil)))) (.cons (.asg (.nm 5) (.tryL (.call "divided" (.cons (.var 4) (.cons (.var 3) .nil))))) (.cons (.ite (.val (.cmp .eq (.var 3) (.tup .nil))) (.cons (.ite (.not_ (.val (.call "_law_same" (.cons (.var 5) (.cons (.tup (.cons (.str "DivisionByZero") (.cons (.var 4) .nil))) .nil))))) (.cons (.ret (.bl false)) .nil) .nil) .nil) (.cons (.asg (.tp [6, 7]) (.ix (.var 5) (.int 1))) (.cons (.ite (.or_ (.not_ (.val (.bi .isinst (.cons (.ix (.var 5) (.int 1)) (.cons (.bt "tuple" "tuple") .nil))))) (.or_ (.val (.cmp .ge (.bi .len (.cons (.var 7) .nil)) (.bi .len (.cons (.var 3) .nil)))) (.or_ (.val (.cmp .ne (.var 7) (.call "_law_trim" (.cons (.var 7) .nil)))) (.val (.cmp .ne (.var 6) (.call "_law_trim" (.cons (.var 6) .nil))))))) (.cons (.ret (.bl false)) .nil) .nil) (.cons (.ite (.val (.cmp .ne (.call "_law_padd" (.cons (.call "_law_pmul" (.cons (.var 6) (.cons (.var 3) .nil))) (.cons (.var 7) .nil))) (.var 4))) (.cons (.ret (.bl false)) .nil) .nil) .nil)))) .nil))))
def c_law : Fc := ⟨["_law_script", "_law_rng", "_law_turn", "_law_two", "_law_one", "_law_result", "_law_whole", "_law_rest"], 1, [], (.cons (.asg (.nm 1) (.call "_law_draws" (.cons (.var 0) .nil))) (.cons (.for_ (.nm 2) (.rng1 (.int 5)) c_law_b0) (.cons (.ret (.bl true)) .nil)))⟩
def fns : List (Str × Fc) := [(("divisor_of" : Str), c_divisor_of), (("reduced" : Str), c_reduced), (("subtract" : Str), c_subtract), (("multiply" : Str), c_multiply), (("divide" : Str), c_divide), (("trimmed" : Str), c_trimmed), (("divided" : Str), c_divided), (("_law_draws" : Str), c__law_draws), (("_law_draw" : Str), c__law_draw), (("_law_pick" : Str), c__law_pick), (("_law_same" : Str), c__law_same), (("_law_gcd" : Str), c__law_gcd), (("_law_low" : Str), c__law_low), (("_law_add" : Str), c__law_add), (("_law_mul" : Str), c__law_mul), (("_law_trim" : Str), c__law_trim), (("_law_at" : Str), c__law_at), (("_law_padd" : Str), c__law_padd), (("_law_pmul" : Str), c__law_pmul), (("_law_small" : Str), c__law_small), (("_law_poly" : Str), c__law_poly), (("law" : Str), c_law)]
def gl : List (Str × D) := [(("ZERO" : Str), .tup [.int 0, .int 1]), (("NOTHING" : Str), .tup [])]
abbrev TB : Tab := ⟨fns, fun x => gl.lookup x, [("DivisionByZero" : Str)], true⟩
section
variable {W : Nat} (hW : 2 ^ 9000 ≤ W)
theorem natAbs_if (a : Int) : (if a < 0 then -a else a) = (a.natAbs : Int) := by split <;> omega
theorem gcd_step (x y : Int) (hx : 0 ≤ x) (hy : 0 < y) : Int.gcd y (x.fmod y) = Int.gcd x y := by
  rw [Int.fmod_eq_emod_of_nonneg _ (Int.le_of_lt hy)]
  obtain ⟨m, rfl⟩ := Int.eq_ofNat_of_zero_le hx
  obtain ⟨n, rfl⟩ := Int.eq_ofNat_of_zero_le (Int.le_of_lt hy)
  show Nat.gcd n (((m : Int) % n).natAbs) = Nat.gcd m n
  have : ((m : Int) % n).natAbs = m % n := by omega
  rw [this, Nat.gcd_comm n, ← Nat.gcd_rec, Nat.gcd_comm]
theorem fmod_lt {x y : Int} (hy : 0 < y) : 0 ≤ x.fmod y ∧ x.fmod y < y := by
  rw [Int.fmod_eq_emod_of_nonneg _ (Int.le_of_lt hy)]
  exact ⟨Int.emod_nonneg _ (by omega), Int.emod_lt_of_pos _ hy⟩
theorem gcd_le {a b : Int} (hb : b ≠ 0) {n : Nat} (h : Bi' n b) : Bi' n (Int.gcd a b) ∧ (Int.gcd a b : Int) ≠ 0 ∧ 0 < (Int.gcd a b : Int) := by
  have h1 : Int.gcd a b ≤ b.natAbs := by
    rw [Int.gcd_comm]
    exact Nat.le_of_dvd (by omega) (Nat.gcd_dvd_left _ _)
  have h2 : 0 < Int.gcd a b := Nat.pos_of_ne_zero fun z => hb (Int.gcd_eq_zero_iff.mp z).2
  refine ⟨?_, by omega, by omega⟩
  show ((Int.gcd a b : Nat) : Int).natAbs < _
  rw [Int.natAbs_natCast]
  exact Nat.lt_of_le_of_lt h1 h
theorem red_eq {a b : Int} (hb : b ≠ 0) : D.tup [.int (a.fdiv (if b < 0 then -(Int.gcd a b : Int) else Int.gcd a b)), .int (b.fdiv (if b < 0 then -(Int.gcd a b : Int) else Int.gcd a b))] = fr (Rat.divInt a b) := by
  have da : ((Int.gcd a b : Nat) : Int) ∣ a := Int.gcd_dvd_left a b
  have db : ((Int.gcd a b : Nat) : Int) ∣ b := Int.gcd_dvd_right a b
  unfold fr
  rw [Rat.num_divInt, Rat.den_divInt, if_neg hb, Int.gcd_comm b a]
  by_cases h : b < 0
  · rw [if_pos h, Int.fdiv_eq_ediv_of_dvd ((Int.neg_dvd).mpr da), Int.fdiv_eq_ediv_of_dvd ((Int.neg_dvd).mpr db), Int.ediv_neg, Int.ediv_neg, Int.sign_eq_neg_one_of_neg h]
    have e1 : -(a / (Int.gcd a b : Int)) = -1 * a / (Int.gcd a b : Int) := by
      rw [Int.neg_mul, Int.one_mul, Int.neg_ediv_of_dvd da]
    have e2 : -(b / (Int.gcd a b : Int)) = ((b.natAbs / Int.gcd a b : Nat) : Int) := by
      rw [← Int.neg_ediv_of_dvd db, Int.natCast_ediv]
      congr 1
      omega
    rw [e1, e2]
  · rw [if_neg h, Int.fdiv_eq_ediv_of_dvd da, Int.fdiv_eq_ediv_of_dvd db, Int.sign_eq_one_of_pos (by omega), Int.one_mul]
    have e2 : b / (Int.gcd a b : Int) = ((b.natAbs / Int.gcd a b : Nat) : Int) := by
      rw [Int.natCast_ediv]
      congr 1
      omega
    rw [e2]
include hW
theorem fuel {n : Int} (h : Bi' 9000 n) : n.natAbs < W := Nat.lt_of_lt_of_le h hW
/-- the program's -/
theorem f_divisor_of {X : Exn → Sto → Prop} (k : Nat) (a b : Int) (S : Sto) (Q : D → Sto → Prop) (hb : Bi' 8900 b) (q : Q (.int (Int.gcd a b)) S) : OkX X (runF TB W (k + 1) "divisor_of" [.int a, .int b] S) Q := by
  refine w_run c_divisor_of [some (.int a), some (.int b)] rfl rfl rfl ?_
  simp only [c_divisor_of, cfg_F, cfg_G, cfg_lv, w_tryL, s_raise, p_intI, p_intB, w_var, w_glo, w_bt, w_int, w_str, w_bl, w_non, w_bin, w_neg, w_cmp, w_ite, w_tup, w_lst, w_call, w_bi, w_me, w_ix, w_sl, w_rev, w_val, w_qand, w_qor, w_qnot, w_nil, w_cons, w_no, w_ex, w_of, w_enum, w_rng1, w_rng2, w_rng3, w_lc, w_lcIf, w_lcB, w_lcBI, wipe_nil, wipe_cons, List.map_cons, List.map_nil, OkS_set, s_nil, s_cons, s_asg, s_setIx, s_aug, s_expr, s_ret, s_retN, s_ite, s_whl, s_for, s_brk, s_cnt, s_pas, s_never, p_add, p_sub, p_mul, p_fdiv, p_mod, p_pow, p_lt, p_le, p_gt, p_ge, p_neg, p_abs, p_max, p_min, p_lenT, p_tupT, p_listT, p_augA, p_augS, p_trB, p_eqI, p_neI, set_nm, set_tp, exists_eq_left', exists_eq_left, Option.some.injEq, D.int.injEq, List.getElem?_cons_zero, List.getElem?_cons_succ, List.set_cons_zero, List.set_cons_succ, List.length_cons, List.length_nil, List.zip_cons_cons, List.zip_nil_left, List.zip_nil_right, List.foldl_cons, List.foldl_nil, List.all_cons, List.all_nil, decide_eq_true_eq, Bool.and_true, Bool.and_eq_true, decide_eq_false_iff_not, Nat.zero_add, Nat.reduceAdd, Nat.reduceLT, Nat.reduceLeDiff, true_and, and_true, Ok_ok, fr_ix0, fr_ix1, decide_true, List.getElem?_nil, w_andV, w_orV, w_notV, beq_tt, beq_tf, beq_ft, beq_ff, beq_self_eq_true, ne_eq, not_true_eq_false, not_false_eq_true, Bool.not_true, Bool.not_false, Bool.not_not, Bool.false_eq_true, Bool.true_eq_false, false_implies, true_implies, implies_true, and_self, reduceCtorEq, D.bl.injEq, p_isi, p_isis, p_slK, p_slT, p_revT, src_tup, p_eqB, p_neB, kit_int_dict, kit_int_tuple, kit_int_list, kit_int_bool, kit_str_dict, kit_str_tuple, kit_str_list, kit_str_bool, kit_bool_dict, kit_bool_tuple, kit_bool_list, kit_bool_bool, kit_NoneType_dict, kit_NoneType_tuple, kit_NoneType_list, kit_NoneType_bool, kit_tuple_dict, kit_tuple_tuple, kit_tuple_list, kit_tuple_bool, kit_list_dict, kit_list_tuple, kit_list_list, kit_list_bool, any_int, any_str, any_bool, any_non, any_tuple, any_list, beq_iff_eq, beq_eq_false_iff_ne, ↓reduceIte, atI_0, ixN_0, atI_1, ixN_1, atI_2, ixN_2, atI_3, ixN_3, atI_4, ixN_4, atI_5, ixN_5, atI_6, ixN_6, atI_7, ixN_7, atI_8, ixN_8, atI_9, ixN_9, q_ixT]
  refine ⟨by decide, ?_⟩
  refine whl (fun m env S' => S' = S ∧ ∃ x y : Int, env = [some (.int x), some (.int y)] ∧ 0 ≤ x ∧ 0 ≤ y ∧ Int.gcd x y = Int.gcd a b ∧ y.toNat = m) ?_ b.natAbs ⟨rfl, a.natAbs, b.natAbs, by rw [natAbs_if, natAbs_if], by omega, by omega, by simp [Int.gcd], by omega⟩ (fuel hW (hb.mono (by decide)))
  clear hW
  rintro I m env S' hI ⟨rfl, x, y, rfl, hx, hy, hg, hm⟩
  simp only [cfg_F, cfg_G, cfg_lv, w_tryL, s_raise, p_intI, p_intB, w_var, w_glo, w_bt, w_int, w_str, w_bl, w_non, w_bin, w_neg, w_cmp, w_ite, w_tup, w_lst, w_call, w_bi, w_me, w_ix, w_sl, w_rev, w_val, w_qand, w_qor, w_qnot, w_nil, w_cons, w_no, w_ex, w_of, w_enum, w_rng1, w_rng2, w_rng3, w_lc, w_lcIf, w_lcB, w_lcBI, wipe_nil, wipe_cons, List.map_cons, List.map_nil, OkS_set, s_nil, s_cons, s_asg, s_setIx, s_aug, s_expr, s_ret, s_retN, s_ite, s_whl, s_for, s_brk, s_cnt, s_pas, s_never, p_add, p_sub, p_mul, p_fdiv, p_mod, p_pow, p_lt, p_le, p_gt, p_ge, p_neg, p_abs, p_max, p_min, p_lenT, p_tupT, p_listT, p_augA, p_augS, p_trB, p_eqI, p_neI, set_nm, set_tp, exists_eq_left', exists_eq_left, Option.some.injEq, D.int.injEq, List.getElem?_cons_zero, List.getElem?_cons_succ, List.set_cons_zero, List.set_cons_succ, List.length_cons, List.length_nil, List.zip_cons_cons, List.zip_nil_left, List.zip_nil_right, List.foldl_cons, List.foldl_nil, List.all_cons, List.all_nil, decide_eq_true_eq, Bool.and_true, Bool.and_eq_true, decide_eq_false_iff_not, Nat.zero_add, Nat.reduceAdd, Nat.reduceLT, Nat.reduceLeDiff, true_and, and_true, Ok_ok, fr_ix0, fr_ix1, decide_true, List.getElem?_nil, w_andV, w_orV, w_notV, beq_tt, beq_tf, beq_ft, beq_ff, beq_self_eq_true, ne_eq, not_true_eq_false, not_false_eq_true, Bool.not_true, Bool.not_false, Bool.not_not, Bool.false_eq_true, Bool.true_eq_false, false_implies, true_implies, implies_true, and_self, reduceCtorEq, D.bl.injEq, p_isi, p_isis, p_slK, p_slT, p_revT, src_tup, p_eqB, p_neB, kit_int_dict, kit_int_tuple, kit_int_list, kit_int_bool, kit_str_dict, kit_str_tuple, kit_str_list, kit_str_bool, kit_bool_dict, kit_bool_tuple, kit_bool_list, kit_bool_bool, kit_NoneType_dict, kit_NoneType_tuple, kit_NoneType_list, kit_NoneType_bool, kit_tuple_dict, kit_tuple_tuple, kit_tuple_list, kit_tuple_bool, kit_list_dict, kit_list_tuple, kit_list_list, kit_list_bool, any_int, any_str, any_bool, any_non, any_tuple, any_list, beq_iff_eq, beq_eq_false_iff_ne, ↓reduceIte, atI_0, ixN_0, atI_1, ixN_1, atI_2, ixN_2, atI_3, ixN_3, atI_4, ixN_4, atI_5, ixN_5, atI_6, ixN_6, atI_7, ixN_7, atI_8, ixN_8, atI_9, ixN_9, q_ixT]
  refine ⟨fun h => ?_, fun h => ?_⟩
  · obtain ⟨l1, l2⟩ := fmod_lt (x := x) h
    refine ⟨by omega, by decide, hI (x.fmod y).toNat _ _ (by omega) ⟨rfl, y, x.fmod y, rfl, hy, l1, ?_, rfl⟩⟩
    rw [gcd_step x y hx h]; exact hg
  · have : y = 0 := by omega
    subst this
    have e : (Int.gcd a b : Int) = x := by rw [← hg]; simp [Int.gcd]; omega
    rw [← e]; exact q
theorem f_reduced {X : Exn → Sto → Prop} (k : Nat) (a b : Int) (S : Sto) (Q : D → Sto → Prop) (h0 : b ≠ 0) (hb : Bi' 8900 b) (q : Q (fr (Rat.divInt a b)) S) : OkX X (runF TB W (k + 2) "reduced" [.int a, .int b] S) Q := by
  refine w_run c_reduced [some (.int a), some (.int b), none] rfl rfl rfl ?_
  simp only [c_reduced, cfg_F, cfg_G, cfg_lv, w_tryL, s_raise, p_intI, p_intB, w_var, w_glo, w_bt, w_int, w_str, w_bl, w_non, w_bin, w_neg, w_cmp, w_ite, w_tup, w_lst, w_call, w_bi, w_me, w_ix, w_sl, w_rev, w_val, w_qand, w_qor, w_qnot, w_nil, w_cons, w_no, w_ex, w_of, w_enum, w_rng1, w_rng2, w_rng3, w_lc, w_lcIf, w_lcB, w_lcBI, wipe_nil, wipe_cons, List.map_cons, List.map_nil, OkS_set, s_nil, s_cons, s_asg, s_setIx, s_aug, s_expr, s_ret, s_retN, s_ite, s_whl, s_for, s_brk, s_cnt, s_pas, s_never, p_add, p_sub, p_mul, p_fdiv, p_mod, p_pow, p_lt, p_le, p_gt, p_ge, p_neg, p_abs, p_max, p_min, p_lenT, p_tupT, p_listT, p_augA, p_augS, p_trB, p_eqI, p_neI, set_nm, set_tp, exists_eq_left', exists_eq_left, Option.some.injEq, D.int.injEq, List.getElem?_cons_zero, List.getElem?_cons_succ, List.set_cons_zero, List.set_cons_succ, List.length_cons, List.length_nil, List.zip_cons_cons, List.zip_nil_left, List.zip_nil_right, List.foldl_cons, List.foldl_nil, List.all_cons, List.all_nil, decide_eq_true_eq, Bool.and_true, Bool.and_eq_true, decide_eq_false_iff_not, Nat.zero_add, Nat.reduceAdd, Nat.reduceLT, Nat.reduceLeDiff, true_and, and_true, Ok_ok, fr_ix0, fr_ix1, decide_true, List.getElem?_nil, w_andV, w_orV, w_notV, beq_tt, beq_tf, beq_ft, beq_ff, beq_self_eq_true, ne_eq, not_true_eq_false, not_false_eq_true, Bool.not_true, Bool.not_false, Bool.not_not, Bool.false_eq_true, Bool.true_eq_false, false_implies, true_implies, implies_true, and_self, reduceCtorEq, D.bl.injEq, p_isi, p_isis, p_slK, p_slT, p_revT, src_tup, p_eqB, p_neB, kit_int_dict, kit_int_tuple, kit_int_list, kit_int_bool, kit_str_dict, kit_str_tuple, kit_str_list, kit_str_bool, kit_bool_dict, kit_bool_tuple, kit_bool_list, kit_bool_bool, kit_NoneType_dict, kit_NoneType_tuple, kit_NoneType_list, kit_NoneType_bool, kit_tuple_dict, kit_tuple_tuple, kit_tuple_list, kit_tuple_bool, kit_list_dict, kit_list_tuple, kit_list_list, kit_list_bool, any_int, any_str, any_bool, any_non, any_tuple, any_list, beq_iff_eq, beq_eq_false_iff_ne, ↓reduceIte, atI_0, ixN_0, atI_1, ixN_1, atI_2, ixN_2, atI_3, ixN_3, atI_4, ixN_4, atI_5, ixN_5, atI_6, ixN_6, atI_7, ixN_7, atI_8, ixN_8, atI_9, ixN_9, q_ixT]
  refine f_divisor_of hW k a b S _ hb ?_
  obtain ⟨g1, g2, g3⟩ := gcd_le (a := a) h0 hb
  rw [← red_eq h0] at q
  simp only [cfg_F, cfg_G, cfg_lv, w_tryL, s_raise, p_intI, p_intB, w_var, w_glo, w_bt, w_int, w_str, w_bl, w_non, w_bin, w_neg, w_cmp, w_ite, w_tup, w_lst, w_call, w_bi, w_me, w_ix, w_sl, w_rev, w_val, w_qand, w_qor, w_qnot, w_nil, w_cons, w_no, w_ex, w_of, w_enum, w_rng1, w_rng2, w_rng3, w_lc, w_lcIf, w_lcB, w_lcBI, wipe_nil, wipe_cons, List.map_cons, List.map_nil, OkS_set, s_nil, s_cons, s_asg, s_setIx, s_aug, s_expr, s_ret, s_retN, s_ite, s_whl, s_for, s_brk, s_cnt, s_pas, s_never, p_add, p_sub, p_mul, p_fdiv, p_mod, p_pow, p_lt, p_le, p_gt, p_ge, p_neg, p_abs, p_max, p_min, p_lenT, p_tupT, p_listT, p_augA, p_augS, p_trB, p_eqI, p_neI, set_nm, set_tp, exists_eq_left', exists_eq_left, Option.some.injEq, D.int.injEq, List.getElem?_cons_zero, List.getElem?_cons_succ, List.set_cons_zero, List.set_cons_succ, List.length_cons, List.length_nil, List.zip_cons_cons, List.zip_nil_left, List.zip_nil_right, List.foldl_cons, List.foldl_nil, List.all_cons, List.all_nil, decide_eq_true_eq, Bool.and_true, Bool.and_eq_true, decide_eq_false_iff_not, Nat.zero_add, Nat.reduceAdd, Nat.reduceLT, Nat.reduceLeDiff, true_and, and_true, Ok_ok, fr_ix0, fr_ix1, decide_true, List.getElem?_nil, w_andV, w_orV, w_notV, beq_tt, beq_tf, beq_ft, beq_ff, beq_self_eq_true, ne_eq, not_true_eq_false, not_false_eq_true, Bool.not_true, Bool.not_false, Bool.not_not, Bool.false_eq_true, Bool.true_eq_false, false_implies, true_implies, implies_true, and_self, reduceCtorEq, D.bl.injEq, p_isi, p_isis, p_slK, p_slT, p_revT, src_tup, p_eqB, p_neB, kit_int_dict, kit_int_tuple, kit_int_list, kit_int_bool, kit_str_dict, kit_str_tuple, kit_str_list, kit_str_bool, kit_bool_dict, kit_bool_tuple, kit_bool_list, kit_bool_bool, kit_NoneType_dict, kit_NoneType_tuple, kit_NoneType_list, kit_NoneType_bool, kit_tuple_dict, kit_tuple_tuple, kit_tuple_list, kit_tuple_bool, kit_list_dict, kit_list_tuple, kit_list_list, kit_list_bool, any_int, any_str, any_bool, any_non, any_tuple, any_list, beq_iff_eq, beq_eq_false_iff_ne, ↓reduceIte, atI_0, ixN_0, atI_1, ixN_1, atI_2, ixN_2, atI_3, ixN_3, atI_4, ixN_4, atI_5, ixN_5, atI_6, ixN_6, atI_7, ixN_7, atI_8, ixN_8, atI_9, ixN_9, q_ixT]
  refine ⟨fun h => ?_, fun h => ?_⟩
  · rw [if_pos h] at q
    exact ⟨DivOk.of (by omega) g1.neg (by decide), DivOk.of (by omega) g1.neg (by decide), by decide, q⟩
  · rw [if_neg h] at q
    exact ⟨DivOk.of (by omega) g1 (by decide), DivOk.of (by omega) g1 (by decide), by decide, q⟩
section
variable (k : Nat) (x y : Rat) (S : Sto) (Q : D → Sto → Prop) (hx : Bt 4000 x) (hy : Bt 4000 y)
theorem mulok {i j : Int} (h1 : Bi' 4000 i) (h2 : Bi' 4000 j) : MulOk i j := MulOk.of h1 h2 (by decide)
include hx hy
theorem f_subtract {X : Exn → Sto → Prop} (q : Q (fr (x - y)) S) : OkX X (runF TB W (k + 3) "subtract" [fr x, fr y] S) Q := by
  refine w_run c_subtract [some (fr x), some (fr y)] rfl rfl rfl ?_
  simp only [c_subtract, cfg_F, cfg_G, cfg_lv, w_tryL, s_raise, p_intI, p_intB, w_var, w_glo, w_bt, w_int, w_str, w_bl, w_non, w_bin, w_neg, w_cmp, w_ite, w_tup, w_lst, w_call, w_bi, w_me, w_ix, w_sl, w_rev, w_val, w_qand, w_qor, w_qnot, w_nil, w_cons, w_no, w_ex, w_of, w_enum, w_rng1, w_rng2, w_rng3, w_lc, w_lcIf, w_lcB, w_lcBI, wipe_nil, wipe_cons, List.map_cons, List.map_nil, OkS_set, s_nil, s_cons, s_asg, s_setIx, s_aug, s_expr, s_ret, s_retN, s_ite, s_whl, s_for, s_brk, s_cnt, s_pas, s_never, p_add, p_sub, p_mul, p_fdiv, p_mod, p_pow, p_lt, p_le, p_gt, p_ge, p_neg, p_abs, p_max, p_min, p_lenT, p_tupT, p_listT, p_augA, p_augS, p_trB, p_eqI, p_neI, set_nm, set_tp, exists_eq_left', exists_eq_left, Option.some.injEq, D.int.injEq, List.getElem?_cons_zero, List.getElem?_cons_succ, List.set_cons_zero, List.set_cons_succ, List.length_cons, List.length_nil, List.zip_cons_cons, List.zip_nil_left, List.zip_nil_right, List.foldl_cons, List.foldl_nil, List.all_cons, List.all_nil, decide_eq_true_eq, Bool.and_true, Bool.and_eq_true, decide_eq_false_iff_not, Nat.zero_add, Nat.reduceAdd, Nat.reduceLT, Nat.reduceLeDiff, true_and, and_true, Ok_ok, fr_ix0, fr_ix1, decide_true, List.getElem?_nil, w_andV, w_orV, w_notV, beq_tt, beq_tf, beq_ft, beq_ff, beq_self_eq_true, ne_eq, not_true_eq_false, not_false_eq_true, Bool.not_true, Bool.not_false, Bool.not_not, Bool.false_eq_true, Bool.true_eq_false, false_implies, true_implies, implies_true, and_self, reduceCtorEq, D.bl.injEq, p_isi, p_isis, p_slK, p_slT, p_revT, src_tup, p_eqB, p_neB, kit_int_dict, kit_int_tuple, kit_int_list, kit_int_bool, kit_str_dict, kit_str_tuple, kit_str_list, kit_str_bool, kit_bool_dict, kit_bool_tuple, kit_bool_list, kit_bool_bool, kit_NoneType_dict, kit_NoneType_tuple, kit_NoneType_list, kit_NoneType_bool, kit_tuple_dict, kit_tuple_tuple, kit_tuple_list, kit_tuple_bool, kit_list_dict, kit_list_tuple, kit_list_list, kit_list_bool, any_int, any_str, any_bool, any_non, any_tuple, any_list, beq_iff_eq, beq_eq_false_iff_ne, ↓reduceIte, atI_0, ixN_0, atI_1, ixN_1, atI_2, ixN_2, atI_3, ixN_3, atI_4, ixN_4, atI_5, ixN_5, atI_6, ixN_6, atI_7, ixN_7, atI_8, ixN_8, atI_9, ixN_9, q_ixT]
  refine ⟨MulOk.of hx.1 hy.2 (by decide), MulOk.of hy.1 hx.2 (by decide), MulOk.of hx.2 hy.2 (by decide), ?_⟩
  refine f_reduced hW k _ _ S _ (den_mul_ne x y) ((hx.2.mul hy.2).mono (by decide)) ?_
  rw [rat_sub]; exact q
theorem f_multiply {X : Exn → Sto → Prop} (q : Q (fr (x * y)) S) : OkX X (runF TB W (k + 3) "multiply" [fr x, fr y] S) Q := by
  refine w_run c_multiply [some (fr x), some (fr y)] rfl rfl rfl ?_
  simp only [c_multiply, cfg_F, cfg_G, cfg_lv, w_tryL, s_raise, p_intI, p_intB, w_var, w_glo, w_bt, w_int, w_str, w_bl, w_non, w_bin, w_neg, w_cmp, w_ite, w_tup, w_lst, w_call, w_bi, w_me, w_ix, w_sl, w_rev, w_val, w_qand, w_qor, w_qnot, w_nil, w_cons, w_no, w_ex, w_of, w_enum, w_rng1, w_rng2, w_rng3, w_lc, w_lcIf, w_lcB, w_lcBI, wipe_nil, wipe_cons, List.map_cons, List.map_nil, OkS_set, s_nil, s_cons, s_asg, s_setIx, s_aug, s_expr, s_ret, s_retN, s_ite, s_whl, s_for, s_brk, s_cnt, s_pas, s_never, p_add, p_sub, p_mul, p_fdiv, p_mod, p_pow, p_lt, p_le, p_gt, p_ge, p_neg, p_abs, p_max, p_min, p_lenT, p_tupT, p_listT, p_augA, p_augS, p_trB, p_eqI, p_neI, set_nm, set_tp, exists_eq_left', exists_eq_left, Option.some.injEq, D.int.injEq, List.getElem?_cons_zero, List.getElem?_cons_succ, List.set_cons_zero, List.set_cons_succ, List.length_cons, List.length_nil, List.zip_cons_cons, List.zip_nil_left, List.zip_nil_right, List.foldl_cons, List.foldl_nil, List.all_cons, List.all_nil, decide_eq_true_eq, Bool.and_true, Bool.and_eq_true, decide_eq_false_iff_not, Nat.zero_add, Nat.reduceAdd, Nat.reduceLT, Nat.reduceLeDiff, true_and, and_true, Ok_ok, fr_ix0, fr_ix1, decide_true, List.getElem?_nil, w_andV, w_orV, w_notV, beq_tt, beq_tf, beq_ft, beq_ff, beq_self_eq_true, ne_eq, not_true_eq_false, not_false_eq_true, Bool.not_true, Bool.not_false, Bool.not_not, Bool.false_eq_true, Bool.true_eq_false, false_implies, true_implies, implies_true, and_self, reduceCtorEq, D.bl.injEq, p_isi, p_isis, p_slK, p_slT, p_revT, src_tup, p_eqB, p_neB, kit_int_dict, kit_int_tuple, kit_int_list, kit_int_bool, kit_str_dict, kit_str_tuple, kit_str_list, kit_str_bool, kit_bool_dict, kit_bool_tuple, kit_bool_list, kit_bool_bool, kit_NoneType_dict, kit_NoneType_tuple, kit_NoneType_list, kit_NoneType_bool, kit_tuple_dict, kit_tuple_tuple, kit_tuple_list, kit_tuple_bool, kit_list_dict, kit_list_tuple, kit_list_list, kit_list_bool, any_int, any_str, any_bool, any_non, any_tuple, any_list, beq_iff_eq, beq_eq_false_iff_ne, ↓reduceIte, atI_0, ixN_0, atI_1, ixN_1, atI_2, ixN_2, atI_3, ixN_3, atI_4, ixN_4, atI_5, ixN_5, atI_6, ixN_6, atI_7, ixN_7, atI_8, ixN_8, atI_9, ixN_9, q_ixT]
  refine ⟨MulOk.of hx.1 hy.1 (by decide), MulOk.of hx.2 hy.2 (by decide), ?_⟩
  refine f_reduced hW k _ _ S _ (den_mul_ne x y) ((hx.2.mul hy.2).mono (by decide)) ?_
  rw [rat_mul]; exact q
theorem f_divide {X : Exn → Sto → Prop} (h0 : y ≠ 0) (q : Q (fr (x / y)) S) : OkX X (runF TB W (k + 3) "divide" [fr x, fr y] S) Q := by
  refine w_run c_divide [some (fr x), some (fr y)] rfl rfl rfl ?_
  simp only [c_divide, cfg_F, cfg_G, cfg_lv, w_tryL, s_raise, p_intI, p_intB, w_var, w_glo, w_bt, w_int, w_str, w_bl, w_non, w_bin, w_neg, w_cmp, w_ite, w_tup, w_lst, w_call, w_bi, w_me, w_ix, w_sl, w_rev, w_val, w_qand, w_qor, w_qnot, w_nil, w_cons, w_no, w_ex, w_of, w_enum, w_rng1, w_rng2, w_rng3, w_lc, w_lcIf, w_lcB, w_lcBI, wipe_nil, wipe_cons, List.map_cons, List.map_nil, OkS_set, s_nil, s_cons, s_asg, s_setIx, s_aug, s_expr, s_ret, s_retN, s_ite, s_whl, s_for, s_brk, s_cnt, s_pas, s_never, p_add, p_sub, p_mul, p_fdiv, p_mod, p_pow, p_lt, p_le, p_gt, p_ge, p_neg, p_abs, p_max, p_min, p_lenT, p_tupT, p_listT, p_augA, p_augS, p_trB, p_eqI, p_neI, set_nm, set_tp, exists_eq_left', exists_eq_left, Option.some.injEq, D.int.injEq, List.getElem?_cons_zero, List.getElem?_cons_succ, List.set_cons_zero, List.set_cons_succ, List.length_cons, List.length_nil, List.zip_cons_cons, List.zip_nil_left, List.zip_nil_right, List.foldl_cons, List.foldl_nil, List.all_cons, List.all_nil, decide_eq_true_eq, Bool.and_true, Bool.and_eq_true, decide_eq_false_iff_not, Nat.zero_add, Nat.reduceAdd, Nat.reduceLT, Nat.reduceLeDiff, true_and, and_true, Ok_ok, fr_ix0, fr_ix1, decide_true, List.getElem?_nil, w_andV, w_orV, w_notV, beq_tt, beq_tf, beq_ft, beq_ff, beq_self_eq_true, ne_eq, not_true_eq_false, not_false_eq_true, Bool.not_true, Bool.not_false, Bool.not_not, Bool.false_eq_true, Bool.true_eq_false, false_implies, true_implies, implies_true, and_self, reduceCtorEq, D.bl.injEq, p_isi, p_isis, p_slK, p_slT, p_revT, src_tup, p_eqB, p_neB, kit_int_dict, kit_int_tuple, kit_int_list, kit_int_bool, kit_str_dict, kit_str_tuple, kit_str_list, kit_str_bool, kit_bool_dict, kit_bool_tuple, kit_bool_list, kit_bool_bool, kit_NoneType_dict, kit_NoneType_tuple, kit_NoneType_list, kit_NoneType_bool, kit_tuple_dict, kit_tuple_tuple, kit_tuple_list, kit_tuple_bool, kit_list_dict, kit_list_tuple, kit_list_list, kit_list_bool, any_int, any_str, any_bool, any_non, any_tuple, any_list, beq_iff_eq, beq_eq_false_iff_ne, ↓reduceIte, atI_0, ixN_0, atI_1, ixN_1, atI_2, ixN_2, atI_3, ixN_3, atI_4, ixN_4, atI_5, ixN_5, atI_6, ixN_6, atI_7, ixN_7, atI_8, ixN_8, atI_9, ixN_9, q_ixT]
  refine ⟨fun h => (num_ne h0 (by simpa using h)).elim, fun _ => ?_⟩
  refine ⟨MulOk.of hx.1 hy.2 (by decide), MulOk.of hx.2 hy.1 (by decide), ?_⟩
  refine f_reduced hW k _ _ S _ (Int.mul_ne_zero (den_ne x) (num_ne h0)) ((hx.2.mul hy.1).mono (by decide)) ?_
  rw [rat_div]; exact q
omit hy
end
/-- the law's own -/
theorem f_law_gcd {X : Exn → Sto → Prop} (k : Nat) (a b : Int) (S : Sto) (Q : D → Sto → Prop) (hb : Bi' 8900 b) (q : Q (.int (Int.gcd a b)) S) : OkX X (runF TB W (k + 1) "_law_gcd" [.int a, .int b] S) Q := by
  refine w_run c__law_gcd [some (.int a), some (.int b)] rfl rfl rfl ?_
  simp only [c__law_gcd, cfg_F, cfg_G, cfg_lv, w_tryL, s_raise, p_intI, p_intB, w_var, w_glo, w_bt, w_int, w_str, w_bl, w_non, w_bin, w_neg, w_cmp, w_ite, w_tup, w_lst, w_call, w_bi, w_me, w_ix, w_sl, w_rev, w_val, w_qand, w_qor, w_qnot, w_nil, w_cons, w_no, w_ex, w_of, w_enum, w_rng1, w_rng2, w_rng3, w_lc, w_lcIf, w_lcB, w_lcBI, wipe_nil, wipe_cons, List.map_cons, List.map_nil, OkS_set, s_nil, s_cons, s_asg, s_setIx, s_aug, s_expr, s_ret, s_retN, s_ite, s_whl, s_for, s_brk, s_cnt, s_pas, s_never, p_add, p_sub, p_mul, p_fdiv, p_mod, p_pow, p_lt, p_le, p_gt, p_ge, p_neg, p_abs, p_max, p_min, p_lenT, p_tupT, p_listT, p_augA, p_augS, p_trB, p_eqI, p_neI, set_nm, set_tp, exists_eq_left', exists_eq_left, Option.some.injEq, D.int.injEq, List.getElem?_cons_zero, List.getElem?_cons_succ, List.set_cons_zero, List.set_cons_succ, List.length_cons, List.length_nil, List.zip_cons_cons, List.zip_nil_left, List.zip_nil_right, List.foldl_cons, List.foldl_nil, List.all_cons, List.all_nil, decide_eq_true_eq, Bool.and_true, Bool.and_eq_true, decide_eq_false_iff_not, Nat.zero_add, Nat.reduceAdd, Nat.reduceLT, Nat.reduceLeDiff, true_and, and_true, Ok_ok, fr_ix0, fr_ix1, decide_true, List.getElem?_nil, w_andV, w_orV, w_notV, beq_tt, beq_tf, beq_ft, beq_ff, beq_self_eq_true, ne_eq, not_true_eq_false, not_false_eq_true, Bool.not_true, Bool.not_false, Bool.not_not, Bool.false_eq_true, Bool.true_eq_false, false_implies, true_implies, implies_true, and_self, reduceCtorEq, D.bl.injEq, p_isi, p_isis, p_slK, p_slT, p_revT, src_tup, p_eqB, p_neB, kit_int_dict, kit_int_tuple, kit_int_list, kit_int_bool, kit_str_dict, kit_str_tuple, kit_str_list, kit_str_bool, kit_bool_dict, kit_bool_tuple, kit_bool_list, kit_bool_bool, kit_NoneType_dict, kit_NoneType_tuple, kit_NoneType_list, kit_NoneType_bool, kit_tuple_dict, kit_tuple_tuple, kit_tuple_list, kit_tuple_bool, kit_list_dict, kit_list_tuple, kit_list_list, kit_list_bool, any_int, any_str, any_bool, any_non, any_tuple, any_list, beq_iff_eq, beq_eq_false_iff_ne, ↓reduceIte, atI_0, ixN_0, atI_1, ixN_1, atI_2, ixN_2, atI_3, ixN_3, atI_4, ixN_4, atI_5, ixN_5, atI_6, ixN_6, atI_7, ixN_7, atI_8, ixN_8, atI_9, ixN_9, q_ixT]
  refine ⟨by decide, ?_⟩
  refine whl (fun m env S' => S' = S ∧ ∃ x y : Int, env = [some (.int x), some (.int y)] ∧ 0 ≤ x ∧ 0 ≤ y ∧ Int.gcd x y = Int.gcd a b ∧ y.toNat = m) ?_ b.natAbs ⟨rfl, a.natAbs, b.natAbs, by rw [natAbs_if, natAbs_if], by omega, by omega, by simp [Int.gcd], by omega⟩ (fuel hW (hb.mono (by decide)))
  clear hW
  rintro I m env S' hI ⟨rfl, x, y, rfl, hx, hy, hg, hm⟩
  simp only [cfg_F, cfg_G, cfg_lv, w_tryL, s_raise, p_intI, p_intB, w_var, w_glo, w_bt, w_int, w_str, w_bl, w_non, w_bin, w_neg, w_cmp, w_ite, w_tup, w_lst, w_call, w_bi, w_me, w_ix, w_sl, w_rev, w_val, w_qand, w_qor, w_qnot, w_nil, w_cons, w_no, w_ex, w_of, w_enum, w_rng1, w_rng2, w_rng3, w_lc, w_lcIf, w_lcB, w_lcBI, wipe_nil, wipe_cons, List.map_cons, List.map_nil, OkS_set, s_nil, s_cons, s_asg, s_setIx, s_aug, s_expr, s_ret, s_retN, s_ite, s_whl, s_for, s_brk, s_cnt, s_pas, s_never, p_add, p_sub, p_mul, p_fdiv, p_mod, p_pow, p_lt, p_le, p_gt, p_ge, p_neg, p_abs, p_max, p_min, p_lenT, p_tupT, p_listT, p_augA, p_augS, p_trB, p_eqI, p_neI, set_nm, set_tp, exists_eq_left', exists_eq_left, Option.some.injEq, D.int.injEq, List.getElem?_cons_zero, List.getElem?_cons_succ, List.set_cons_zero, List.set_cons_succ, List.length_cons, List.length_nil, List.zip_cons_cons, List.zip_nil_left, List.zip_nil_right, List.foldl_cons, List.foldl_nil, List.all_cons, List.all_nil, decide_eq_true_eq, Bool.and_true, Bool.and_eq_true, decide_eq_false_iff_not, Nat.zero_add, Nat.reduceAdd, Nat.reduceLT, Nat.reduceLeDiff, true_and, and_true, Ok_ok, fr_ix0, fr_ix1, decide_true, List.getElem?_nil, w_andV, w_orV, w_notV, beq_tt, beq_tf, beq_ft, beq_ff, beq_self_eq_true, ne_eq, not_true_eq_false, not_false_eq_true, Bool.not_true, Bool.not_false, Bool.not_not, Bool.false_eq_true, Bool.true_eq_false, false_implies, true_implies, implies_true, and_self, reduceCtorEq, D.bl.injEq, p_isi, p_isis, p_slK, p_slT, p_revT, src_tup, p_eqB, p_neB, kit_int_dict, kit_int_tuple, kit_int_list, kit_int_bool, kit_str_dict, kit_str_tuple, kit_str_list, kit_str_bool, kit_bool_dict, kit_bool_tuple, kit_bool_list, kit_bool_bool, kit_NoneType_dict, kit_NoneType_tuple, kit_NoneType_list, kit_NoneType_bool, kit_tuple_dict, kit_tuple_tuple, kit_tuple_list, kit_tuple_bool, kit_list_dict, kit_list_tuple, kit_list_list, kit_list_bool, any_int, any_str, any_bool, any_non, any_tuple, any_list, beq_iff_eq, beq_eq_false_iff_ne, ↓reduceIte, atI_0, ixN_0, atI_1, ixN_1, atI_2, ixN_2, atI_3, ixN_3, atI_4, ixN_4, atI_5, ixN_5, atI_6, ixN_6, atI_7, ixN_7, atI_8, ixN_8, atI_9, ixN_9, q_ixT]
  refine ⟨fun h => ?_, fun h => ?_⟩
  · have h : 0 < y := by
      have : y ≠ 0 := by simpa using h
      omega
    obtain ⟨l1, l2⟩ := fmod_lt (x := x) h
    refine ⟨by omega, by decide, hI (x.fmod y).toNat _ _ (by omega) ⟨rfl, y, x.fmod y, rfl, hy, l1, ?_, rfl⟩⟩
    rw [gcd_step x y hx h]; exact hg
  · have : y = 0 := by simpa using h
    subst this
    have e : (Int.gcd a b : Int) = x := by rw [← hg]; simp [Int.gcd]; omega
    rw [← e]; exact q
theorem f_law_low {X : Exn → Sto → Prop} (k : Nat) (a b : Int) (S : Sto) (Q : D → Sto → Prop) (h0 : b ≠ 0) (hb : Bi' 8900 b) (q : Q (fr (Rat.divInt a b)) S) : OkX X (runF TB W (k + 2) "_law_low" [.int a, .int b] S) Q := by
  refine w_run c__law_low [some (.int a), some (.int b), none] rfl rfl rfl ?_
  simp only [c__law_low, cfg_F, cfg_G, cfg_lv, w_tryL, s_raise, p_intI, p_intB, w_var, w_glo, w_bt, w_int, w_str, w_bl, w_non, w_bin, w_neg, w_cmp, w_ite, w_tup, w_lst, w_call, w_bi, w_me, w_ix, w_sl, w_rev, w_val, w_qand, w_qor, w_qnot, w_nil, w_cons, w_no, w_ex, w_of, w_enum, w_rng1, w_rng2, w_rng3, w_lc, w_lcIf, w_lcB, w_lcBI, wipe_nil, wipe_cons, List.map_cons, List.map_nil, OkS_set, s_nil, s_cons, s_asg, s_setIx, s_aug, s_expr, s_ret, s_retN, s_ite, s_whl, s_for, s_brk, s_cnt, s_pas, s_never, p_add, p_sub, p_mul, p_fdiv, p_mod, p_pow, p_lt, p_le, p_gt, p_ge, p_neg, p_abs, p_max, p_min, p_lenT, p_tupT, p_listT, p_augA, p_augS, p_trB, p_eqI, p_neI, set_nm, set_tp, exists_eq_left', exists_eq_left, Option.some.injEq, D.int.injEq, List.getElem?_cons_zero, List.getElem?_cons_succ, List.set_cons_zero, List.set_cons_succ, List.length_cons, List.length_nil, List.zip_cons_cons, List.zip_nil_left, List.zip_nil_right, List.foldl_cons, List.foldl_nil, List.all_cons, List.all_nil, decide_eq_true_eq, Bool.and_true, Bool.and_eq_true, decide_eq_false_iff_not, Nat.zero_add, Nat.reduceAdd, Nat.reduceLT, Nat.reduceLeDiff, true_and, and_true, Ok_ok, fr_ix0, fr_ix1, decide_true, List.getElem?_nil, w_andV, w_orV, w_notV, beq_tt, beq_tf, beq_ft, beq_ff, beq_self_eq_true, ne_eq, not_true_eq_false, not_false_eq_true, Bool.not_true, Bool.not_false, Bool.not_not, Bool.false_eq_true, Bool.true_eq_false, false_implies, true_implies, implies_true, and_self, reduceCtorEq, D.bl.injEq, p_isi, p_isis, p_slK, p_slT, p_revT, src_tup, p_eqB, p_neB, kit_int_dict, kit_int_tuple, kit_int_list, kit_int_bool, kit_str_dict, kit_str_tuple, kit_str_list, kit_str_bool, kit_bool_dict, kit_bool_tuple, kit_bool_list, kit_bool_bool, kit_NoneType_dict, kit_NoneType_tuple, kit_NoneType_list, kit_NoneType_bool, kit_tuple_dict, kit_tuple_tuple, kit_tuple_list, kit_tuple_bool, kit_list_dict, kit_list_tuple, kit_list_list, kit_list_bool, any_int, any_str, any_bool, any_non, any_tuple, any_list, beq_iff_eq, beq_eq_false_iff_ne, ↓reduceIte, atI_0, ixN_0, atI_1, ixN_1, atI_2, ixN_2, atI_3, ixN_3, atI_4, ixN_4, atI_5, ixN_5, atI_6, ixN_6, atI_7, ixN_7, atI_8, ixN_8, atI_9, ixN_9, q_ixT]
  refine f_law_gcd hW k a b S _ hb ?_
  obtain ⟨g1, g2, g3⟩ := gcd_le (a := a) h0 hb
  rw [← red_eq h0] at q
  simp only [cfg_F, cfg_G, cfg_lv, w_tryL, s_raise, p_intI, p_intB, w_var, w_glo, w_bt, w_int, w_str, w_bl, w_non, w_bin, w_neg, w_cmp, w_ite, w_tup, w_lst, w_call, w_bi, w_me, w_ix, w_sl, w_rev, w_val, w_qand, w_qor, w_qnot, w_nil, w_cons, w_no, w_ex, w_of, w_enum, w_rng1, w_rng2, w_rng3, w_lc, w_lcIf, w_lcB, w_lcBI, wipe_nil, wipe_cons, List.map_cons, List.map_nil, OkS_set, s_nil, s_cons, s_asg, s_setIx, s_aug, s_expr, s_ret, s_retN, s_ite, s_whl, s_for, s_brk, s_cnt, s_pas, s_never, p_add, p_sub, p_mul, p_fdiv, p_mod, p_pow, p_lt, p_le, p_gt, p_ge, p_neg, p_abs, p_max, p_min, p_lenT, p_tupT, p_listT, p_augA, p_augS, p_trB, p_eqI, p_neI, set_nm, set_tp, exists_eq_left', exists_eq_left, Option.some.injEq, D.int.injEq, List.getElem?_cons_zero, List.getElem?_cons_succ, List.set_cons_zero, List.set_cons_succ, List.length_cons, List.length_nil, List.zip_cons_cons, List.zip_nil_left, List.zip_nil_right, List.foldl_cons, List.foldl_nil, List.all_cons, List.all_nil, decide_eq_true_eq, Bool.and_true, Bool.and_eq_true, decide_eq_false_iff_not, Nat.zero_add, Nat.reduceAdd, Nat.reduceLT, Nat.reduceLeDiff, true_and, and_true, Ok_ok, fr_ix0, fr_ix1, decide_true, List.getElem?_nil, w_andV, w_orV, w_notV, beq_tt, beq_tf, beq_ft, beq_ff, beq_self_eq_true, ne_eq, not_true_eq_false, not_false_eq_true, Bool.not_true, Bool.not_false, Bool.not_not, Bool.false_eq_true, Bool.true_eq_false, false_implies, true_implies, implies_true, and_self, reduceCtorEq, D.bl.injEq, p_isi, p_isis, p_slK, p_slT, p_revT, src_tup, p_eqB, p_neB, kit_int_dict, kit_int_tuple, kit_int_list, kit_int_bool, kit_str_dict, kit_str_tuple, kit_str_list, kit_str_bool, kit_bool_dict, kit_bool_tuple, kit_bool_list, kit_bool_bool, kit_NoneType_dict, kit_NoneType_tuple, kit_NoneType_list, kit_NoneType_bool, kit_tuple_dict, kit_tuple_tuple, kit_tuple_list, kit_tuple_bool, kit_list_dict, kit_list_tuple, kit_list_list, kit_list_bool, any_int, any_str, any_bool, any_non, any_tuple, any_list, beq_iff_eq, beq_eq_false_iff_ne, ↓reduceIte, atI_0, ixN_0, atI_1, ixN_1, atI_2, ixN_2, atI_3, ixN_3, atI_4, ixN_4, atI_5, ixN_5, atI_6, ixN_6, atI_7, ixN_7, atI_8, ixN_8, atI_9, ixN_9, q_ixT]
  refine ⟨fun h => ?_, fun h => ?_⟩
  · rw [if_neg (by omega)] at q
    exact ⟨DivOk.of (by omega) g1 (by decide), DivOk.of (by omega) g1 (by decide), by decide, q⟩
  · rw [if_pos (by omega)] at q
    have e : (0 : Int) - (Int.gcd a b : Int) = -(Int.gcd a b : Int) := by omega
    rw [e]
    exact ⟨DivOk.of (by omega) g1.neg (by decide), DivOk.of (by omega) g1.neg (by decide), by decide, q⟩
section
variable (k : Nat) (x y : Rat) (S : Sto) (Q : D → Sto → Prop) (hx : Bt 4000 x) (hy : Bt 4000 y)
include hx hy
theorem f_law_add {X : Exn → Sto → Prop} (q : Q (fr (x + y)) S) : OkX X (runF TB W (k + 3) "_law_add" [fr x, fr y] S) Q := by
  refine w_run c__law_add [some (fr x), some (fr y)] rfl rfl rfl ?_
  simp only [c__law_add, cfg_F, cfg_G, cfg_lv, w_tryL, s_raise, p_intI, p_intB, w_var, w_glo, w_bt, w_int, w_str, w_bl, w_non, w_bin, w_neg, w_cmp, w_ite, w_tup, w_lst, w_call, w_bi, w_me, w_ix, w_sl, w_rev, w_val, w_qand, w_qor, w_qnot, w_nil, w_cons, w_no, w_ex, w_of, w_enum, w_rng1, w_rng2, w_rng3, w_lc, w_lcIf, w_lcB, w_lcBI, wipe_nil, wipe_cons, List.map_cons, List.map_nil, OkS_set, s_nil, s_cons, s_asg, s_setIx, s_aug, s_expr, s_ret, s_retN, s_ite, s_whl, s_for, s_brk, s_cnt, s_pas, s_never, p_add, p_sub, p_mul, p_fdiv, p_mod, p_pow, p_lt, p_le, p_gt, p_ge, p_neg, p_abs, p_max, p_min, p_lenT, p_tupT, p_listT, p_augA, p_augS, p_trB, p_eqI, p_neI, set_nm, set_tp, exists_eq_left', exists_eq_left, Option.some.injEq, D.int.injEq, List.getElem?_cons_zero, List.getElem?_cons_succ, List.set_cons_zero, List.set_cons_succ, List.length_cons, List.length_nil, List.zip_cons_cons, List.zip_nil_left, List.zip_nil_right, List.foldl_cons, List.foldl_nil, List.all_cons, List.all_nil, decide_eq_true_eq, Bool.and_true, Bool.and_eq_true, decide_eq_false_iff_not, Nat.zero_add, Nat.reduceAdd, Nat.reduceLT, Nat.reduceLeDiff, true_and, and_true, Ok_ok, fr_ix0, fr_ix1, decide_true, List.getElem?_nil, w_andV, w_orV, w_notV, beq_tt, beq_tf, beq_ft, beq_ff, beq_self_eq_true, ne_eq, not_true_eq_false, not_false_eq_true, Bool.not_true, Bool.not_false, Bool.not_not, Bool.false_eq_true, Bool.true_eq_false, false_implies, true_implies, implies_true, and_self, reduceCtorEq, D.bl.injEq, p_isi, p_isis, p_slK, p_slT, p_revT, src_tup, p_eqB, p_neB, kit_int_dict, kit_int_tuple, kit_int_list, kit_int_bool, kit_str_dict, kit_str_tuple, kit_str_list, kit_str_bool, kit_bool_dict, kit_bool_tuple, kit_bool_list, kit_bool_bool, kit_NoneType_dict, kit_NoneType_tuple, kit_NoneType_list, kit_NoneType_bool, kit_tuple_dict, kit_tuple_tuple, kit_tuple_list, kit_tuple_bool, kit_list_dict, kit_list_tuple, kit_list_list, kit_list_bool, any_int, any_str, any_bool, any_non, any_tuple, any_list, beq_iff_eq, beq_eq_false_iff_ne, ↓reduceIte, atI_0, ixN_0, atI_1, ixN_1, atI_2, ixN_2, atI_3, ixN_3, atI_4, ixN_4, atI_5, ixN_5, atI_6, ixN_6, atI_7, ixN_7, atI_8, ixN_8, atI_9, ixN_9, q_ixT]
  refine ⟨MulOk.of hx.1 hy.2 (by decide), MulOk.of hy.1 hx.2 (by decide), MulOk.of hx.2 hy.2 (by decide), ?_⟩
  refine f_law_low hW k _ _ S _ (den_mul_ne x y) ((hx.2.mul hy.2).mono (by decide)) ?_
  rw [rat_add]; exact q
theorem f_law_mul {X : Exn → Sto → Prop} (q : Q (fr (x * y)) S) : OkX X (runF TB W (k + 3) "_law_mul" [fr x, fr y] S) Q := by
  refine w_run c__law_mul [some (fr x), some (fr y)] rfl rfl rfl ?_
  simp only [c__law_mul, cfg_F, cfg_G, cfg_lv, w_tryL, s_raise, p_intI, p_intB, w_var, w_glo, w_bt, w_int, w_str, w_bl, w_non, w_bin, w_neg, w_cmp, w_ite, w_tup, w_lst, w_call, w_bi, w_me, w_ix, w_sl, w_rev, w_val, w_qand, w_qor, w_qnot, w_nil, w_cons, w_no, w_ex, w_of, w_enum, w_rng1, w_rng2, w_rng3, w_lc, w_lcIf, w_lcB, w_lcBI, wipe_nil, wipe_cons, List.map_cons, List.map_nil, OkS_set, s_nil, s_cons, s_asg, s_setIx, s_aug, s_expr, s_ret, s_retN, s_ite, s_whl, s_for, s_brk, s_cnt, s_pas, s_never, p_add, p_sub, p_mul, p_fdiv, p_mod, p_pow, p_lt, p_le, p_gt, p_ge, p_neg, p_abs, p_max, p_min, p_lenT, p_tupT, p_listT, p_augA, p_augS, p_trB, p_eqI, p_neI, set_nm, set_tp, exists_eq_left', exists_eq_left, Option.some.injEq, D.int.injEq, List.getElem?_cons_zero, List.getElem?_cons_succ, List.set_cons_zero, List.set_cons_succ, List.length_cons, List.length_nil, List.zip_cons_cons, List.zip_nil_left, List.zip_nil_right, List.foldl_cons, List.foldl_nil, List.all_cons, List.all_nil, decide_eq_true_eq, Bool.and_true, Bool.and_eq_true, decide_eq_false_iff_not, Nat.zero_add, Nat.reduceAdd, Nat.reduceLT, Nat.reduceLeDiff, true_and, and_true, Ok_ok, fr_ix0, fr_ix1, decide_true, List.getElem?_nil, w_andV, w_orV, w_notV, beq_tt, beq_tf, beq_ft, beq_ff, beq_self_eq_true, ne_eq, not_true_eq_false, not_false_eq_true, Bool.not_true, Bool.not_false, Bool.not_not, Bool.false_eq_true, Bool.true_eq_false, false_implies, true_implies, implies_true, and_self, reduceCtorEq, D.bl.injEq, p_isi, p_isis, p_slK, p_slT, p_revT, src_tup, p_eqB, p_neB, kit_int_dict, kit_int_tuple, kit_int_list, kit_int_bool, kit_str_dict, kit_str_tuple, kit_str_list, kit_str_bool, kit_bool_dict, kit_bool_tuple, kit_bool_list, kit_bool_bool, kit_NoneType_dict, kit_NoneType_tuple, kit_NoneType_list, kit_NoneType_bool, kit_tuple_dict, kit_tuple_tuple, kit_tuple_list, kit_tuple_bool, kit_list_dict, kit_list_tuple, kit_list_list, kit_list_bool, any_int, any_str, any_bool, any_non, any_tuple, any_list, beq_iff_eq, beq_eq_false_iff_ne, ↓reduceIte, atI_0, ixN_0, atI_1, ixN_1, atI_2, ixN_2, atI_3, ixN_3, atI_4, ixN_4, atI_5, ixN_5, atI_6, ixN_6, atI_7, ixN_7, atI_8, ixN_8, atI_9, ixN_9, q_ixT]
  refine ⟨MulOk.of hx.1 hy.1 (by decide), MulOk.of hx.2 hy.2 (by decide), ?_⟩
  refine f_law_low hW k _ _ S _ (den_mul_ne x y) ((hx.2.mul hy.2).mono (by decide)) ?_
  rw [rat_mul]; exact q
end
end

section
variable {W : Nat}
theorem f_law_draw {X : Exn → Sto → Prop} (k n : Nat) (amt : Int) (S : Sto) (Q : D → Sto → Prop) (hr : Rng S n) (ha : 0 < amt) (hb : Bi' 8000 amt) (q : ∀ r S', 0 ≤ r → r < amt → Rng S' n → Ext n S S' → S'.length = S.length → Q (.int r) S') : OkX X (runF TB W (k + 1) "_law_draw" [.ref n, .int amt] S) Q := by
  obtain ⟨m, cs, i, b, c, h1, h2, hmn, hi, hbb, hc, hc2⟩ := hr
  refine w_run c__law_draw [some (.ref n), some (.int amt), none, none, none] rfl rfl rfl ?_
  -- the second half
  have key : ∀ (S1 : Sto) (x : Option D) (i b c : Int), S1[n]? = some (.lst [.ref m, .int i, .int b, .int c]) → S1[m]? = some (.lst (cs.map D.int)) → 0 ≤ i → 0 ≤ b → 0 ≤ c → c < 2147483647 → Ext n S S1 → S1.length = S.length →
      OkS (exB (cfg TB W k) W (match c__law_draw.body with | .cons _ b => b | b => b) [some (.ref n), some (.int amt), none, x, none] S1) { nx := fun _ S => Q .non S, rt := Q, ex := fun x _ S => X x S } := by
    intro S1 x i b c h1 h2 hi hbb hc hc2 ex hl
    have dm : DivOk amt := DivOk.of (by omega) hb (by decide)
    simp only [c__law_draw, q_ixL h1, q_ixLs h1, q_set h1, q_sets h1, cfg_F, cfg_G, cfg_lv, w_tryL, s_raise, p_intI, p_intB, w_var, w_glo, w_bt, w_int, w_str, w_bl, w_non, w_bin, w_neg, w_cmp, w_ite, w_tup, w_lst, w_call, w_bi, w_me, w_ix, w_sl, w_rev, w_val, w_qand, w_qor, w_qnot, w_nil, w_cons, w_no, w_ex, w_of, w_enum, w_rng1, w_rng2, w_rng3, w_lc, w_lcIf, w_lcB, w_lcBI, wipe_nil, wipe_cons, List.map_cons, List.map_nil, OkS_set, s_nil, s_cons, s_asg, s_setIx, s_aug, s_expr, s_ret, s_retN, s_ite, s_whl, s_for, s_brk, s_cnt, s_pas, s_never, p_add, p_sub, p_mul, p_fdiv, p_mod, p_pow, p_lt, p_le, p_gt, p_ge, p_neg, p_abs, p_max, p_min, p_lenT, p_tupT, p_listT, p_augA, p_augS, p_trB, p_eqI, p_neI, set_nm, set_tp, exists_eq_left', exists_eq_left, Option.some.injEq, D.int.injEq, List.getElem?_cons_zero, List.getElem?_cons_succ, List.set_cons_zero, List.set_cons_succ, List.length_cons, List.length_nil, List.zip_cons_cons, List.zip_nil_left, List.zip_nil_right, List.foldl_cons, List.foldl_nil, List.all_cons, List.all_nil, decide_eq_true_eq, Bool.and_true, Bool.and_eq_true, decide_eq_false_iff_not, Nat.zero_add, Nat.reduceAdd, Nat.reduceLT, Nat.reduceLeDiff, true_and, and_true, Ok_ok, fr_ix0, fr_ix1, decide_true, List.getElem?_nil, w_andV, w_orV, w_notV, beq_tt, beq_tf, beq_ft, beq_ff, beq_self_eq_true, ne_eq, not_true_eq_false, not_false_eq_true, Bool.not_true, Bool.not_false, Bool.not_not, Bool.false_eq_true, Bool.true_eq_false, false_implies, true_implies, implies_true, and_self, reduceCtorEq, D.bl.injEq, p_isi, p_isis, p_slK, p_slT, p_revT, src_tup, p_eqB, p_neB, kit_int_dict, kit_int_tuple, kit_int_list, kit_int_bool, kit_str_dict, kit_str_tuple, kit_str_list, kit_str_bool, kit_bool_dict, kit_bool_tuple, kit_bool_list, kit_bool_bool, kit_NoneType_dict, kit_NoneType_tuple, kit_NoneType_list, kit_NoneType_bool, kit_tuple_dict, kit_tuple_tuple, kit_tuple_list, kit_tuple_bool, kit_list_dict, kit_list_tuple, kit_list_list, kit_list_bool, any_int, any_str, any_bool, any_non, any_tuple, any_list, beq_iff_eq, beq_eq_false_iff_ne, ↓reduceIte, atI_0, ixN_0, atI_1, ixN_1, atI_2, ixN_2, atI_3, ixN_3, atI_4, ixN_4, atI_5, ixN_5, atI_6, ixN_6, atI_7, ixN_7, atI_8, ixN_8, atI_9, ixN_9, q_ixT]
    obtain ⟨a1, a2⟩ := fmod_in (x := b) ha
    obtain ⟨a3, a4⟩ := fdiv_in hbb ha
    refine ⟨fun h => ⟨by omega, dm, q _ _ a1 a2 ⟨m, cs, i, b.fdiv amt, c, get_set h1, by rw [get_set_ne hmn]; exact h2, hmn, hi, a3, hc, hc2⟩ (ex.trans (Ext.set _ _ _)) (by simpa using hl)⟩, fun h => ?_⟩
    obtain ⟨d1, d2⟩ := fdiv_in (x := c) (y := 65539) hc (by decide)
    obtain ⟨e1, e2⟩ := fmod_in (x := c * 62089 + c.fdiv 65539 * 31 + 1013904223) (y := 2147483647) (by decide)
    refine ⟨mk64 (by omega) (by decide), dk (by decide) (by decide), mk64 (by omega) (by decide), by decide, dk (by decide) (by decide), by decide, ?_, by omega, ?_⟩
    all_goals generalize (c * 62089 + c.fdiv 65539 * 31 + 1013904223).fmod 2147483647 = c' at e1 e2 ⊢
    · obtain ⟨e3, e4⟩ := fmod_in (x := c') (y := 8191) (by decide)
      exact mk64 (by omega) (by decide)
    · obtain ⟨b1, b2⟩ := fmod_in (x := c'.fdiv 97 + c'.fmod 8191 * 67) ha
      exact q _ _ b1 b2 ⟨m, cs, i, b, c', get_set h1, by rw [get_set_ne hmn]; exact h2, hmn, hi, hbb, e1, e2⟩ (ex.trans (Ext.set _ _ _)) (by simpa using hl)
  -- the first half
  show OkS (exB _ W (.cons (match c__law_draw.body with | .cons s _ => s | _ => .pas) (match c__law_draw.body with | .cons _ b => b | b => b)) _ S) _
  rw [s_cons]
  generalize (match c__law_draw.body with | .cons _ b => b | b => b) = rest at key ⊢
  have key2 : ∀ (S1 : Sto) (x : Option D) (i b c : Int), S1[n]? = some (.lst [.ref m, .int i, .int b, .int c]) → S1[m]? = some (.lst (cs.map D.int)) → 0 ≤ i → 0 ≤ b → 0 ≤ c → c < 2147483647 → Ext n S S1 → S1.length = S.length →
      (fun env S => OkS (exB (cfg TB W k) W rest env S) { nx := fun _ S => Q .non S, rt := Q, ex := fun x _ S => X x S }) [some (.ref n), some (.int amt), none, x, none] S1 := key
  generalize (fun env S => OkS (exB (cfg TB W k) W rest env S) { nx := fun _ S => Q .non S, rt := Q, ex := fun x _ S => X x S }) = NX at key2 ⊢
  simp only [c__law_draw, q_ixL h1, q_ixL h2, q_ixLs h1, q_set h1, q_sets h1, p_lenL h2, List.length_map, cfg_F, cfg_G, cfg_lv, w_tryL, s_raise, p_intI, p_intB, w_var, w_glo, w_bt, w_int, w_str, w_bl, w_non, w_bin, w_neg, w_cmp, w_ite, w_tup, w_lst, w_call, w_bi, w_me, w_ix, w_sl, w_rev, w_val, w_qand, w_qor, w_qnot, w_nil, w_cons, w_no, w_ex, w_of, w_enum, w_rng1, w_rng2, w_rng3, w_lc, w_lcIf, w_lcB, w_lcBI, wipe_nil, wipe_cons, List.map_cons, List.map_nil, OkS_set, s_nil, s_cons, s_asg, s_setIx, s_aug, s_expr, s_ret, s_retN, s_ite, s_whl, s_for, s_brk, s_cnt, s_pas, s_never, p_add, p_sub, p_mul, p_fdiv, p_mod, p_pow, p_lt, p_le, p_gt, p_ge, p_neg, p_abs, p_max, p_min, p_lenT, p_tupT, p_listT, p_augA, p_augS, p_trB, p_eqI, p_neI, set_nm, set_tp, exists_eq_left', exists_eq_left, Option.some.injEq, D.int.injEq, List.getElem?_cons_zero, List.getElem?_cons_succ, List.set_cons_zero, List.set_cons_succ, List.length_cons, List.length_nil, List.zip_cons_cons, List.zip_nil_left, List.zip_nil_right, List.foldl_cons, List.foldl_nil, List.all_cons, List.all_nil, decide_eq_true_eq, Bool.and_true, Bool.and_eq_true, decide_eq_false_iff_not, Nat.zero_add, Nat.reduceAdd, Nat.reduceLT, Nat.reduceLeDiff, true_and, and_true, Ok_ok, fr_ix0, fr_ix1, decide_true, List.getElem?_nil, w_andV, w_orV, w_notV, beq_tt, beq_tf, beq_ft, beq_ff, beq_self_eq_true, ne_eq, not_true_eq_false, not_false_eq_true, Bool.not_true, Bool.not_false, Bool.not_not, Bool.false_eq_true, Bool.true_eq_false, false_implies, true_implies, implies_true, and_self, reduceCtorEq, D.bl.injEq, p_isi, p_isis, p_slK, p_slT, p_revT, src_tup, p_eqB, p_neB, kit_int_dict, kit_int_tuple, kit_int_list, kit_int_bool, kit_str_dict, kit_str_tuple, kit_str_list, kit_str_bool, kit_bool_dict, kit_bool_tuple, kit_bool_list, kit_bool_bool, kit_NoneType_dict, kit_NoneType_tuple, kit_NoneType_list, kit_NoneType_bool, kit_tuple_dict, kit_tuple_tuple, kit_tuple_list, kit_tuple_bool, kit_list_dict, kit_list_tuple, kit_list_list, kit_list_bool, any_int, any_str, any_bool, any_non, any_tuple, any_list, beq_iff_eq, beq_eq_false_iff_ne, ↓reduceIte, atI_0, ixN_0, atI_1, ixN_1, atI_2, ixN_2, atI_3, ixN_3, atI_4, ixN_4, atI_5, ixN_5, atI_6, ixN_6, atI_7, ixN_7, atI_8, ixN_8, atI_9, ixN_9, q_ixT]
  refine ⟨fun hb0 => ⟨fun hlt => ?_, fun _ => key2 S none i b c h1 h2 hi hbb hc hc2 (Ext.refl _ _) rfl⟩, fun hb0 => key2 S none i b c h1 h2 hi hbb hc hc2 (Ext.refl _ _) rfl⟩
  obtain ⟨j, rfl⟩ := Int.eq_ofNat_of_zero_le hi
  have hj : j < cs.length := by omega
  refine ⟨.int cs[j], atI_nat (by simp [hj]), ?_⟩
  simp only [q_ixLs h1, q_sets h1, cfg_F, cfg_G, cfg_lv, w_tryL, s_raise, p_intI, p_intB, w_var, w_glo, w_bt, w_int, w_str, w_bl, w_non, w_bin, w_neg, w_cmp, w_ite, w_tup, w_lst, w_call, w_bi, w_me, w_ix, w_sl, w_rev, w_val, w_qand, w_qor, w_qnot, w_nil, w_cons, w_no, w_ex, w_of, w_enum, w_rng1, w_rng2, w_rng3, w_lc, w_lcIf, w_lcB, w_lcBI, wipe_nil, wipe_cons, List.map_cons, List.map_nil, OkS_set, s_nil, s_cons, s_asg, s_setIx, s_aug, s_expr, s_ret, s_retN, s_ite, s_whl, s_for, s_brk, s_cnt, s_pas, s_never, p_add, p_sub, p_mul, p_fdiv, p_mod, p_pow, p_lt, p_le, p_gt, p_ge, p_neg, p_abs, p_max, p_min, p_lenT, p_tupT, p_listT, p_augA, p_augS, p_trB, p_eqI, p_neI, set_nm, set_tp, exists_eq_left', exists_eq_left, Option.some.injEq, D.int.injEq, List.getElem?_cons_zero, List.getElem?_cons_succ, List.set_cons_zero, List.set_cons_succ, List.length_cons, List.length_nil, List.zip_cons_cons, List.zip_nil_left, List.zip_nil_right, List.foldl_cons, List.foldl_nil, List.all_cons, List.all_nil, decide_eq_true_eq, Bool.and_true, Bool.and_eq_true, decide_eq_false_iff_not, Nat.zero_add, Nat.reduceAdd, Nat.reduceLT, Nat.reduceLeDiff, true_and, and_true, Ok_ok, fr_ix0, fr_ix1, decide_true, List.getElem?_nil, w_andV, w_orV, w_notV, beq_tt, beq_tf, beq_ft, beq_ff, beq_self_eq_true, ne_eq, not_true_eq_false, not_false_eq_true, Bool.not_true, Bool.not_false, Bool.not_not, Bool.false_eq_true, Bool.true_eq_false, false_implies, true_implies, implies_true, and_self, reduceCtorEq, D.bl.injEq, p_isi, p_isis, p_slK, p_slT, p_revT, src_tup, p_eqB, p_neB, kit_int_dict, kit_int_tuple, kit_int_list, kit_int_bool, kit_str_dict, kit_str_tuple, kit_str_list, kit_str_bool, kit_bool_dict, kit_bool_tuple, kit_bool_list, kit_bool_bool, kit_NoneType_dict, kit_NoneType_tuple, kit_NoneType_list, kit_NoneType_bool, kit_tuple_dict, kit_tuple_tuple, kit_tuple_list, kit_tuple_bool, kit_list_dict, kit_list_tuple, kit_list_list, kit_list_bool, any_int, any_str, any_bool, any_non, any_tuple, any_list, beq_iff_eq, beq_eq_false_iff_ne, ↓reduceIte, atI_0, ixN_0, atI_1, ixN_1, atI_2, ixN_2, atI_3, ixN_3, atI_4, ixN_4, atI_5, ixN_5, atI_6, ixN_6, atI_7, ixN_7, atI_8, ixN_8, atI_9, ixN_9, q_ixT]
  obtain ⟨u1, u2⟩ := fmod_in (x := cs[j]) (y := 2147483587) (by decide)
  refine ⟨by decide, fun hge => ?_, fun hlt => ⟨mk64 (by omega) (by decide), by decide, mk64 (by omega) (by decide), by decide, ?_⟩⟩
  · have h10 : (0 : Int) ≤ 10 ^ Int.toNat 18 := by decide
    exact key2 _ _ ((j : Int) + 1) cs[j] c (get_set h1) (by rw [get_set_ne hmn]; exact h2) (by omega) (Int.le_trans h10 hge) hc hc2 (Ext.set _ _ _) (by simp)
  · obtain ⟨v1, v2⟩ := fmod_in (x := c * 40692 + cs[j].fmod 2147483587 * 69621 + 11) (y := 2147483647) (by decide)
    exact key2 _ _ ((j : Int) + 1) b _ (get_set h1) (by rw [get_set_ne hmn]; exact h2) (by omega) hbb v1 v2 (Ext.set _ _ _) (by simp)
theorem f_law_pick {X : Exn → Sto → Prop} (k n : Nat) (ds : List D) (l : Nat) (S : Sto) (Q : D → Sto → Prop) (hr : Rng S n) (hl : S[l]? = some (.lst ds)) (hln : l ≠ n) (h0 : ds ≠ []) (h1 : ds.length < 1000) (q : ∀ d S', d ∈ ds → Rng S' n → Ext n S S' → S'.length = S.length → Q d S') : OkX X (runF TB W (k + 2) "_law_pick" [.ref n, .ref l] S) Q := by
  refine w_run c__law_pick [some (.ref n), some (.ref l)] rfl rfl rfl ?_
  simp only [c__law_pick, p_lenL hl, cfg_F, cfg_G, cfg_lv, w_tryL, s_raise, p_intI, p_intB, w_var, w_glo, w_bt, w_int, w_str, w_bl, w_non, w_bin, w_neg, w_cmp, w_ite, w_tup, w_lst, w_call, w_bi, w_me, w_ix, w_sl, w_rev, w_val, w_qand, w_qor, w_qnot, w_nil, w_cons, w_no, w_ex, w_of, w_enum, w_rng1, w_rng2, w_rng3, w_lc, w_lcIf, w_lcB, w_lcBI, wipe_nil, wipe_cons, List.map_cons, List.map_nil, OkS_set, s_nil, s_cons, s_asg, s_setIx, s_aug, s_expr, s_ret, s_retN, s_ite, s_whl, s_for, s_brk, s_cnt, s_pas, s_never, p_add, p_sub, p_mul, p_fdiv, p_mod, p_pow, p_lt, p_le, p_gt, p_ge, p_neg, p_abs, p_max, p_min, p_lenT, p_tupT, p_listT, p_augA, p_augS, p_trB, p_eqI, p_neI, set_nm, set_tp, exists_eq_left', exists_eq_left, Option.some.injEq, D.int.injEq, List.getElem?_cons_zero, List.getElem?_cons_succ, List.set_cons_zero, List.set_cons_succ, List.length_cons, List.length_nil, List.zip_cons_cons, List.zip_nil_left, List.zip_nil_right, List.foldl_cons, List.foldl_nil, List.all_cons, List.all_nil, decide_eq_true_eq, Bool.and_true, Bool.and_eq_true, decide_eq_false_iff_not, Nat.zero_add, Nat.reduceAdd, Nat.reduceLT, Nat.reduceLeDiff, true_and, and_true, Ok_ok, fr_ix0, fr_ix1, decide_true, List.getElem?_nil, w_andV, w_orV, w_notV, beq_tt, beq_tf, beq_ft, beq_ff, beq_self_eq_true, ne_eq, not_true_eq_false, not_false_eq_true, Bool.not_true, Bool.not_false, Bool.not_not, Bool.false_eq_true, Bool.true_eq_false, false_implies, true_implies, implies_true, and_self, reduceCtorEq, D.bl.injEq, p_isi, p_isis, p_slK, p_slT, p_revT, src_tup, p_eqB, p_neB, kit_int_dict, kit_int_tuple, kit_int_list, kit_int_bool, kit_str_dict, kit_str_tuple, kit_str_list, kit_str_bool, kit_bool_dict, kit_bool_tuple, kit_bool_list, kit_bool_bool, kit_NoneType_dict, kit_NoneType_tuple, kit_NoneType_list, kit_NoneType_bool, kit_tuple_dict, kit_tuple_tuple, kit_tuple_list, kit_tuple_bool, kit_list_dict, kit_list_tuple, kit_list_list, kit_list_bool, any_int, any_str, any_bool, any_non, any_tuple, any_list, beq_iff_eq, beq_eq_false_iff_ne, ↓reduceIte, atI_0, ixN_0, atI_1, ixN_1, atI_2, ixN_2, atI_3, ixN_3, atI_4, ixN_4, atI_5, ixN_5, atI_6, ixN_6, atI_7, ixN_7, atI_8, ixN_8, atI_9, ixN_9, q_ixT]
  have hpos : 0 < ds.length := List.length_pos_iff.mpr h0
  refine f_law_draw k n _ S _ hr (by omega) (Bi'.small (by omega) (by decide)) ?_
  intro r S' r1 r2 hr' ex hlen
  simp only [q_ixL (ex.at hl hln), cfg_F, cfg_G, cfg_lv, w_tryL, s_raise, p_intI, p_intB, w_var, w_glo, w_bt, w_int, w_str, w_bl, w_non, w_bin, w_neg, w_cmp, w_ite, w_tup, w_lst, w_call, w_bi, w_me, w_ix, w_sl, w_rev, w_val, w_qand, w_qor, w_qnot, w_nil, w_cons, w_no, w_ex, w_of, w_enum, w_rng1, w_rng2, w_rng3, w_lc, w_lcIf, w_lcB, w_lcBI, wipe_nil, wipe_cons, List.map_cons, List.map_nil, OkS_set, s_nil, s_cons, s_asg, s_setIx, s_aug, s_expr, s_ret, s_retN, s_ite, s_whl, s_for, s_brk, s_cnt, s_pas, s_never, p_add, p_sub, p_mul, p_fdiv, p_mod, p_pow, p_lt, p_le, p_gt, p_ge, p_neg, p_abs, p_max, p_min, p_lenT, p_tupT, p_listT, p_augA, p_augS, p_trB, p_eqI, p_neI, set_nm, set_tp, exists_eq_left', exists_eq_left, Option.some.injEq, D.int.injEq, List.getElem?_cons_zero, List.getElem?_cons_succ, List.set_cons_zero, List.set_cons_succ, List.length_cons, List.length_nil, List.zip_cons_cons, List.zip_nil_left, List.zip_nil_right, List.foldl_cons, List.foldl_nil, List.all_cons, List.all_nil, decide_eq_true_eq, Bool.and_true, Bool.and_eq_true, decide_eq_false_iff_not, Nat.zero_add, Nat.reduceAdd, Nat.reduceLT, Nat.reduceLeDiff, true_and, and_true, Ok_ok, fr_ix0, fr_ix1, decide_true, List.getElem?_nil, w_andV, w_orV, w_notV, beq_tt, beq_tf, beq_ft, beq_ff, beq_self_eq_true, ne_eq, not_true_eq_false, not_false_eq_true, Bool.not_true, Bool.not_false, Bool.not_not, Bool.false_eq_true, Bool.true_eq_false, false_implies, true_implies, implies_true, and_self, reduceCtorEq, D.bl.injEq, p_isi, p_isis, p_slK, p_slT, p_revT, src_tup, p_eqB, p_neB, kit_int_dict, kit_int_tuple, kit_int_list, kit_int_bool, kit_str_dict, kit_str_tuple, kit_str_list, kit_str_bool, kit_bool_dict, kit_bool_tuple, kit_bool_list, kit_bool_bool, kit_NoneType_dict, kit_NoneType_tuple, kit_NoneType_list, kit_NoneType_bool, kit_tuple_dict, kit_tuple_tuple, kit_tuple_list, kit_tuple_bool, kit_list_dict, kit_list_tuple, kit_list_list, kit_list_bool, any_int, any_str, any_bool, any_non, any_tuple, any_list, beq_iff_eq, beq_eq_false_iff_ne, ↓reduceIte, atI_0, ixN_0, atI_1, ixN_1, atI_2, ixN_2, atI_3, ixN_3, atI_4, ixN_4, atI_5, ixN_5, atI_6, ixN_6, atI_7, ixN_7, atI_8, ixN_8, atI_9, ixN_9, q_ixT]
  obtain ⟨j, rfl⟩ := Int.eq_ofNat_of_zero_le r1
  have hj : j < ds.length := by omega
  exact ⟨ds[j], atI_nat (List.getElem?_eq_getElem hj), q _ _ (List.getElem_mem hj) hr' ex hlen⟩
end

section
variable {W : Nat}
/-- the comprehension of _law_same -/
theorem same_all {X : Exn → Sto → Prop} {f : D → Sto → Out (List D)} {ds es : List D} {n : Nat} {S : Sto} {Q : D → Sto → Prop} (h : Sames S n ds es) (hl : es.length ≤ 1000)
    (step : ∀ (i : Nat) (x y : D) (J : Sto) (I : List D → Sto → Prop), ds[i]? = some x → es[i]? = some y → Same S n x y → (∀ J', I [.bl true] ((S ++ J) ++ J')) → OkX X (f (.int (i : Nat)) (S ++ J)) I)
    (q : ∀ J, Q (.bl true) (S ++ J)) : OkX X (mapO (.its ((List.range es.length).map fun k : Nat => .int (k : Nat))) f (Src.its ((List.range es.length).map fun k : Nat => D.int (k : Nat))).len 0 S) fun ds S => OkX X (biD .all [.ref S.length] (S ++ [.lst ds])) Q := by
  refine mapL (fun i acc S' => acc = List.replicate i (.bl true) ∧ ∃ J, S' = S ++ J) ?_ ?_ ⟨rfl, [], by simp⟩
  · rintro I i acc S' hI hi ⟨rfl, J, rfl⟩
    have hi : i < es.length := by
      have : i < ((List.range es.length).map fun k : Nat => D.int (k : Nat)).length := hi
      simpa using this
    obtain ⟨x, y, h1, h2, h3⟩ := h.get hi
    refine ⟨.int (i : Nat), by show ((List.range es.length).map _)[i]? = _; simp [hi], ?_⟩
    refine step i x y J I h1 h2 h3 fun J' => hI _ _ ⟨?_, J ++ J', by simp⟩
    rw [List.replicate_succ']
  · rintro acc S' ⟨rfl, J, rfl⟩
    refine ⟨rfl, ?_⟩
    rw [p_all (app_new _ _) (all_true _)]
    have := q (J ++ [SO.lst (List.replicate (Src.its ((List.range es.length).map fun k : Nat => D.int (k : Nat))).len (.bl true))])
    rw [← List.append_assoc] at this
    exact this
theorem f_law_same : ∀ (n : Nat) {X : Exn → Sto → Prop} (k : Nat) (d e : D) (S : Sto) (Q : D → Sto → Prop), Same S n d e → (∀ J, Q (.bl true) (S ++ J)) → OkX X (runF TB W (k + n + 1) "_law_same" [d, e] S) Q := by
  intro n
  induction n with
  | zero =>
    intro X k d e S Q h q
    have q0 : Q (.bl true) S := by have := q []; rwa [List.append_nil] at this
    refine w_run c__law_same [some d, some e, none] rfl rfl rfl ?_
    cases h with
    | int i =>
      simp only [c__law_same, show tyN S (.int i) = some "int" from rfl, cfg_F, cfg_G, cfg_lv, w_tryL, s_raise, p_intI, p_intB, w_var, w_glo, w_bt, w_int, w_str, w_bl, w_non, w_bin, w_neg, w_cmp, w_ite, w_tup, w_lst, w_call, w_bi, w_me, w_ix, w_sl, w_rev, w_val, w_qand, w_qor, w_qnot, w_nil, w_cons, w_no, w_ex, w_of, w_enum, w_rng1, w_rng2, w_rng3, w_lc, w_lcIf, w_lcB, w_lcBI, wipe_nil, wipe_cons, List.map_cons, List.map_nil, OkS_set, s_nil, s_cons, s_asg, s_setIx, s_aug, s_expr, s_ret, s_retN, s_ite, s_whl, s_for, s_brk, s_cnt, s_pas, s_never, p_add, p_sub, p_mul, p_fdiv, p_mod, p_pow, p_lt, p_le, p_gt, p_ge, p_neg, p_abs, p_max, p_min, p_lenT, p_tupT, p_listT, p_augA, p_augS, p_trB, p_eqI, p_neI, set_nm, set_tp, exists_eq_left', exists_eq_left, Option.some.injEq, D.int.injEq, List.getElem?_cons_zero, List.getElem?_cons_succ, List.set_cons_zero, List.set_cons_succ, List.length_cons, List.length_nil, List.zip_cons_cons, List.zip_nil_left, List.zip_nil_right, List.foldl_cons, List.foldl_nil, List.all_cons, List.all_nil, decide_eq_true_eq, Bool.and_true, Bool.and_eq_true, decide_eq_false_iff_not, Nat.zero_add, Nat.reduceAdd, Nat.reduceLT, Nat.reduceLeDiff, true_and, and_true, Ok_ok, fr_ix0, fr_ix1, decide_true, List.getElem?_nil, w_andV, w_orV, w_notV, beq_tt, beq_tf, beq_ft, beq_ff, beq_self_eq_true, ne_eq, not_true_eq_false, not_false_eq_true, Bool.not_true, Bool.not_false, Bool.not_not, Bool.false_eq_true, Bool.true_eq_false, false_implies, true_implies, implies_true, and_self, reduceCtorEq, D.bl.injEq, p_isi, p_isis, p_slK, p_slT, p_revT, src_tup, p_eqB, p_neB, kit_int_dict, kit_int_tuple, kit_int_list, kit_int_bool, kit_str_dict, kit_str_tuple, kit_str_list, kit_str_bool, kit_bool_dict, kit_bool_tuple, kit_bool_list, kit_bool_bool, kit_NoneType_dict, kit_NoneType_tuple, kit_NoneType_list, kit_NoneType_bool, kit_tuple_dict, kit_tuple_tuple, kit_tuple_list, kit_tuple_bool, kit_list_dict, kit_list_tuple, kit_list_list, kit_list_bool, any_int, any_str, any_bool, any_non, any_tuple, any_list, beq_iff_eq, beq_eq_false_iff_ne, ↓reduceIte, atI_0, ixN_0, atI_1, ixN_1, atI_2, ixN_2, atI_3, ixN_3, atI_4, ixN_4, atI_5, ixN_5, atI_6, ixN_6, atI_7, ixN_7, atI_8, ixN_8, atI_9, ixN_9, q_ixT]
      exact ⟨by decide, q0⟩
    | bl i =>
      simp only [c__law_same, show tyN S (.bl i) = some "bool" from rfl, cfg_F, cfg_G, cfg_lv, w_tryL, s_raise, p_intI, p_intB, w_var, w_glo, w_bt, w_int, w_str, w_bl, w_non, w_bin, w_neg, w_cmp, w_ite, w_tup, w_lst, w_call, w_bi, w_me, w_ix, w_sl, w_rev, w_val, w_qand, w_qor, w_qnot, w_nil, w_cons, w_no, w_ex, w_of, w_enum, w_rng1, w_rng2, w_rng3, w_lc, w_lcIf, w_lcB, w_lcBI, wipe_nil, wipe_cons, List.map_cons, List.map_nil, OkS_set, s_nil, s_cons, s_asg, s_setIx, s_aug, s_expr, s_ret, s_retN, s_ite, s_whl, s_for, s_brk, s_cnt, s_pas, s_never, p_add, p_sub, p_mul, p_fdiv, p_mod, p_pow, p_lt, p_le, p_gt, p_ge, p_neg, p_abs, p_max, p_min, p_lenT, p_tupT, p_listT, p_augA, p_augS, p_trB, p_eqI, p_neI, set_nm, set_tp, exists_eq_left', exists_eq_left, Option.some.injEq, D.int.injEq, List.getElem?_cons_zero, List.getElem?_cons_succ, List.set_cons_zero, List.set_cons_succ, List.length_cons, List.length_nil, List.zip_cons_cons, List.zip_nil_left, List.zip_nil_right, List.foldl_cons, List.foldl_nil, List.all_cons, List.all_nil, decide_eq_true_eq, Bool.and_true, Bool.and_eq_true, decide_eq_false_iff_not, Nat.zero_add, Nat.reduceAdd, Nat.reduceLT, Nat.reduceLeDiff, true_and, and_true, Ok_ok, fr_ix0, fr_ix1, decide_true, List.getElem?_nil, w_andV, w_orV, w_notV, beq_tt, beq_tf, beq_ft, beq_ff, beq_self_eq_true, ne_eq, not_true_eq_false, not_false_eq_true, Bool.not_true, Bool.not_false, Bool.not_not, Bool.false_eq_true, Bool.true_eq_false, false_implies, true_implies, implies_true, and_self, reduceCtorEq, D.bl.injEq, p_isi, p_isis, p_slK, p_slT, p_revT, src_tup, p_eqB, p_neB, kit_int_dict, kit_int_tuple, kit_int_list, kit_int_bool, kit_str_dict, kit_str_tuple, kit_str_list, kit_str_bool, kit_bool_dict, kit_bool_tuple, kit_bool_list, kit_bool_bool, kit_NoneType_dict, kit_NoneType_tuple, kit_NoneType_list, kit_NoneType_bool, kit_tuple_dict, kit_tuple_tuple, kit_tuple_list, kit_tuple_bool, kit_list_dict, kit_list_tuple, kit_list_list, kit_list_bool, any_int, any_str, any_bool, any_non, any_tuple, any_list, beq_iff_eq, beq_eq_false_iff_ne, ↓reduceIte, atI_0, ixN_0, atI_1, ixN_1, atI_2, ixN_2, atI_3, ixN_3, atI_4, ixN_4, atI_5, ixN_5, atI_6, ixN_6, atI_7, ixN_7, atI_8, ixN_8, atI_9, ixN_9, q_ixT]
      exact ⟨by decide, q0⟩
    | non =>
      simp only [c__law_same, show tyN S .non = some "NoneType" from rfl, cfg_F, cfg_G, cfg_lv, w_tryL, s_raise, p_intI, p_intB, w_var, w_glo, w_bt, w_int, w_str, w_bl, w_non, w_bin, w_neg, w_cmp, w_ite, w_tup, w_lst, w_call, w_bi, w_me, w_ix, w_sl, w_rev, w_val, w_qand, w_qor, w_qnot, w_nil, w_cons, w_no, w_ex, w_of, w_enum, w_rng1, w_rng2, w_rng3, w_lc, w_lcIf, w_lcB, w_lcBI, wipe_nil, wipe_cons, List.map_cons, List.map_nil, OkS_set, s_nil, s_cons, s_asg, s_setIx, s_aug, s_expr, s_ret, s_retN, s_ite, s_whl, s_for, s_brk, s_cnt, s_pas, s_never, p_add, p_sub, p_mul, p_fdiv, p_mod, p_pow, p_lt, p_le, p_gt, p_ge, p_neg, p_abs, p_max, p_min, p_lenT, p_tupT, p_listT, p_augA, p_augS, p_trB, p_eqI, p_neI, set_nm, set_tp, exists_eq_left', exists_eq_left, Option.some.injEq, D.int.injEq, List.getElem?_cons_zero, List.getElem?_cons_succ, List.set_cons_zero, List.set_cons_succ, List.length_cons, List.length_nil, List.zip_cons_cons, List.zip_nil_left, List.zip_nil_right, List.foldl_cons, List.foldl_nil, List.all_cons, List.all_nil, decide_eq_true_eq, Bool.and_true, Bool.and_eq_true, decide_eq_false_iff_not, Nat.zero_add, Nat.reduceAdd, Nat.reduceLT, Nat.reduceLeDiff, true_and, and_true, Ok_ok, fr_ix0, fr_ix1, decide_true, List.getElem?_nil, w_andV, w_orV, w_notV, beq_tt, beq_tf, beq_ft, beq_ff, beq_self_eq_true, ne_eq, not_true_eq_false, not_false_eq_true, Bool.not_true, Bool.not_false, Bool.not_not, Bool.false_eq_true, Bool.true_eq_false, false_implies, true_implies, implies_true, and_self, reduceCtorEq, D.bl.injEq, p_isi, p_isis, p_slK, p_slT, p_revT, src_tup, p_eqB, p_neB, kit_int_dict, kit_int_tuple, kit_int_list, kit_int_bool, kit_str_dict, kit_str_tuple, kit_str_list, kit_str_bool, kit_bool_dict, kit_bool_tuple, kit_bool_list, kit_bool_bool, kit_NoneType_dict, kit_NoneType_tuple, kit_NoneType_list, kit_NoneType_bool, kit_tuple_dict, kit_tuple_tuple, kit_tuple_list, kit_tuple_bool, kit_list_dict, kit_list_tuple, kit_list_list, kit_list_bool, any_int, any_str, any_bool, any_non, any_tuple, any_list, beq_iff_eq, beq_eq_false_iff_ne, ↓reduceIte, atI_0, ixN_0, atI_1, ixN_1, atI_2, ixN_2, atI_3, ixN_3, atI_4, ixN_4, atI_5, ixN_5, atI_6, ixN_6, atI_7, ixN_7, atI_8, ixN_8, atI_9, ixN_9, q_ixT]
      exact ⟨by decide, q0⟩
    | str h =>
      simp only [c__law_same, show ∀ i, tyN S (.str i) = some "str" from fun _ => rfl, cfg_F, cfg_G, cfg_lv, w_tryL, s_raise, p_intI, p_intB, w_var, w_glo, w_bt, w_int, w_str, w_bl, w_non, w_bin, w_neg, w_cmp, w_ite, w_tup, w_lst, w_call, w_bi, w_me, w_ix, w_sl, w_rev, w_val, w_qand, w_qor, w_qnot, w_nil, w_cons, w_no, w_ex, w_of, w_enum, w_rng1, w_rng2, w_rng3, w_lc, w_lcIf, w_lcB, w_lcBI, wipe_nil, wipe_cons, List.map_cons, List.map_nil, OkS_set, s_nil, s_cons, s_asg, s_setIx, s_aug, s_expr, s_ret, s_retN, s_ite, s_whl, s_for, s_brk, s_cnt, s_pas, s_never, p_add, p_sub, p_mul, p_fdiv, p_mod, p_pow, p_lt, p_le, p_gt, p_ge, p_neg, p_abs, p_max, p_min, p_lenT, p_tupT, p_listT, p_augA, p_augS, p_trB, p_eqI, p_neI, set_nm, set_tp, exists_eq_left', exists_eq_left, Option.some.injEq, D.int.injEq, List.getElem?_cons_zero, List.getElem?_cons_succ, List.set_cons_zero, List.set_cons_succ, List.length_cons, List.length_nil, List.zip_cons_cons, List.zip_nil_left, List.zip_nil_right, List.foldl_cons, List.foldl_nil, List.all_cons, List.all_nil, decide_eq_true_eq, Bool.and_true, Bool.and_eq_true, decide_eq_false_iff_not, Nat.zero_add, Nat.reduceAdd, Nat.reduceLT, Nat.reduceLeDiff, true_and, and_true, Ok_ok, fr_ix0, fr_ix1, decide_true, List.getElem?_nil, w_andV, w_orV, w_notV, beq_tt, beq_tf, beq_ft, beq_ff, beq_self_eq_true, ne_eq, not_true_eq_false, not_false_eq_true, Bool.not_true, Bool.not_false, Bool.not_not, Bool.false_eq_true, Bool.true_eq_false, false_implies, true_implies, implies_true, and_self, reduceCtorEq, D.bl.injEq, p_isi, p_isis, p_slK, p_slT, p_revT, src_tup, p_eqB, p_neB, kit_int_dict, kit_int_tuple, kit_int_list, kit_int_bool, kit_str_dict, kit_str_tuple, kit_str_list, kit_str_bool, kit_bool_dict, kit_bool_tuple, kit_bool_list, kit_bool_bool, kit_NoneType_dict, kit_NoneType_tuple, kit_NoneType_list, kit_NoneType_bool, kit_tuple_dict, kit_tuple_tuple, kit_tuple_list, kit_tuple_bool, kit_list_dict, kit_list_tuple, kit_list_list, kit_list_bool, any_int, any_str, any_bool, any_non, any_tuple, any_list, beq_iff_eq, beq_eq_false_iff_ne, ↓reduceIte, atI_0, ixN_0, atI_1, ixN_1, atI_2, ixN_2, atI_3, ixN_3, atI_4, ixN_4, atI_5, ixN_5, atI_6, ixN_6, atI_7, ixN_7, atI_8, ixN_8, atI_9, ixN_9, q_ixT]
      refine ⟨by decide, p_eq (n := 0) (m := 0) ⟨_, .str h⟩ ⟨_, .str h⟩ fun b hb => ?_⟩
      rw [hb.mpr rfl]; exact q0
  | succ n ih =>
    intro X k d e S Q h q
    have q0 : Q (.bl true) S := by have := q []; rwa [List.append_nil] at this
    refine w_run c__law_same [some d, some e, none] rfl rfl rfl ?_
    cases h with
    | int i =>
      simp only [c__law_same, show tyN S (.int i) = some "int" from rfl, cfg_F, cfg_G, cfg_lv, w_tryL, s_raise, p_intI, p_intB, w_var, w_glo, w_bt, w_int, w_str, w_bl, w_non, w_bin, w_neg, w_cmp, w_ite, w_tup, w_lst, w_call, w_bi, w_me, w_ix, w_sl, w_rev, w_val, w_qand, w_qor, w_qnot, w_nil, w_cons, w_no, w_ex, w_of, w_enum, w_rng1, w_rng2, w_rng3, w_lc, w_lcIf, w_lcB, w_lcBI, wipe_nil, wipe_cons, List.map_cons, List.map_nil, OkS_set, s_nil, s_cons, s_asg, s_setIx, s_aug, s_expr, s_ret, s_retN, s_ite, s_whl, s_for, s_brk, s_cnt, s_pas, s_never, p_add, p_sub, p_mul, p_fdiv, p_mod, p_pow, p_lt, p_le, p_gt, p_ge, p_neg, p_abs, p_max, p_min, p_lenT, p_tupT, p_listT, p_augA, p_augS, p_trB, p_eqI, p_neI, set_nm, set_tp, exists_eq_left', exists_eq_left, Option.some.injEq, D.int.injEq, List.getElem?_cons_zero, List.getElem?_cons_succ, List.set_cons_zero, List.set_cons_succ, List.length_cons, List.length_nil, List.zip_cons_cons, List.zip_nil_left, List.zip_nil_right, List.foldl_cons, List.foldl_nil, List.all_cons, List.all_nil, decide_eq_true_eq, Bool.and_true, Bool.and_eq_true, decide_eq_false_iff_not, Nat.zero_add, Nat.reduceAdd, Nat.reduceLT, Nat.reduceLeDiff, true_and, and_true, Ok_ok, fr_ix0, fr_ix1, decide_true, List.getElem?_nil, w_andV, w_orV, w_notV, beq_tt, beq_tf, beq_ft, beq_ff, beq_self_eq_true, ne_eq, not_true_eq_false, not_false_eq_true, Bool.not_true, Bool.not_false, Bool.not_not, Bool.false_eq_true, Bool.true_eq_false, false_implies, true_implies, implies_true, and_self, reduceCtorEq, D.bl.injEq, p_isi, p_isis, p_slK, p_slT, p_revT, src_tup, p_eqB, p_neB, kit_int_dict, kit_int_tuple, kit_int_list, kit_int_bool, kit_str_dict, kit_str_tuple, kit_str_list, kit_str_bool, kit_bool_dict, kit_bool_tuple, kit_bool_list, kit_bool_bool, kit_NoneType_dict, kit_NoneType_tuple, kit_NoneType_list, kit_NoneType_bool, kit_tuple_dict, kit_tuple_tuple, kit_tuple_list, kit_tuple_bool, kit_list_dict, kit_list_tuple, kit_list_list, kit_list_bool, any_int, any_str, any_bool, any_non, any_tuple, any_list, beq_iff_eq, beq_eq_false_iff_ne, ↓reduceIte, atI_0, ixN_0, atI_1, ixN_1, atI_2, ixN_2, atI_3, ixN_3, atI_4, ixN_4, atI_5, ixN_5, atI_6, ixN_6, atI_7, ixN_7, atI_8, ixN_8, atI_9, ixN_9, q_ixT]
      exact ⟨by decide, q0⟩
    | bl i =>
      simp only [c__law_same, show tyN S (.bl i) = some "bool" from rfl, cfg_F, cfg_G, cfg_lv, w_tryL, s_raise, p_intI, p_intB, w_var, w_glo, w_bt, w_int, w_str, w_bl, w_non, w_bin, w_neg, w_cmp, w_ite, w_tup, w_lst, w_call, w_bi, w_me, w_ix, w_sl, w_rev, w_val, w_qand, w_qor, w_qnot, w_nil, w_cons, w_no, w_ex, w_of, w_enum, w_rng1, w_rng2, w_rng3, w_lc, w_lcIf, w_lcB, w_lcBI, wipe_nil, wipe_cons, List.map_cons, List.map_nil, OkS_set, s_nil, s_cons, s_asg, s_setIx, s_aug, s_expr, s_ret, s_retN, s_ite, s_whl, s_for, s_brk, s_cnt, s_pas, s_never, p_add, p_sub, p_mul, p_fdiv, p_mod, p_pow, p_lt, p_le, p_gt, p_ge, p_neg, p_abs, p_max, p_min, p_lenT, p_tupT, p_listT, p_augA, p_augS, p_trB, p_eqI, p_neI, set_nm, set_tp, exists_eq_left', exists_eq_left, Option.some.injEq, D.int.injEq, List.getElem?_cons_zero, List.getElem?_cons_succ, List.set_cons_zero, List.set_cons_succ, List.length_cons, List.length_nil, List.zip_cons_cons, List.zip_nil_left, List.zip_nil_right, List.foldl_cons, List.foldl_nil, List.all_cons, List.all_nil, decide_eq_true_eq, Bool.and_true, Bool.and_eq_true, decide_eq_false_iff_not, Nat.zero_add, Nat.reduceAdd, Nat.reduceLT, Nat.reduceLeDiff, true_and, and_true, Ok_ok, fr_ix0, fr_ix1, decide_true, List.getElem?_nil, w_andV, w_orV, w_notV, beq_tt, beq_tf, beq_ft, beq_ff, beq_self_eq_true, ne_eq, not_true_eq_false, not_false_eq_true, Bool.not_true, Bool.not_false, Bool.not_not, Bool.false_eq_true, Bool.true_eq_false, false_implies, true_implies, implies_true, and_self, reduceCtorEq, D.bl.injEq, p_isi, p_isis, p_slK, p_slT, p_revT, src_tup, p_eqB, p_neB, kit_int_dict, kit_int_tuple, kit_int_list, kit_int_bool, kit_str_dict, kit_str_tuple, kit_str_list, kit_str_bool, kit_bool_dict, kit_bool_tuple, kit_bool_list, kit_bool_bool, kit_NoneType_dict, kit_NoneType_tuple, kit_NoneType_list, kit_NoneType_bool, kit_tuple_dict, kit_tuple_tuple, kit_tuple_list, kit_tuple_bool, kit_list_dict, kit_list_tuple, kit_list_list, kit_list_bool, any_int, any_str, any_bool, any_non, any_tuple, any_list, beq_iff_eq, beq_eq_false_iff_ne, ↓reduceIte, atI_0, ixN_0, atI_1, ixN_1, atI_2, ixN_2, atI_3, ixN_3, atI_4, ixN_4, atI_5, ixN_5, atI_6, ixN_6, atI_7, ixN_7, atI_8, ixN_8, atI_9, ixN_9, q_ixT]
      exact ⟨by decide, q0⟩
    | non =>
      simp only [c__law_same, show tyN S .non = some "NoneType" from rfl, cfg_F, cfg_G, cfg_lv, w_tryL, s_raise, p_intI, p_intB, w_var, w_glo, w_bt, w_int, w_str, w_bl, w_non, w_bin, w_neg, w_cmp, w_ite, w_tup, w_lst, w_call, w_bi, w_me, w_ix, w_sl, w_rev, w_val, w_qand, w_qor, w_qnot, w_nil, w_cons, w_no, w_ex, w_of, w_enum, w_rng1, w_rng2, w_rng3, w_lc, w_lcIf, w_lcB, w_lcBI, wipe_nil, wipe_cons, List.map_cons, List.map_nil, OkS_set, s_nil, s_cons, s_asg, s_setIx, s_aug, s_expr, s_ret, s_retN, s_ite, s_whl, s_for, s_brk, s_cnt, s_pas, s_never, p_add, p_sub, p_mul, p_fdiv, p_mod, p_pow, p_lt, p_le, p_gt, p_ge, p_neg, p_abs, p_max, p_min, p_lenT, p_tupT, p_listT, p_augA, p_augS, p_trB, p_eqI, p_neI, set_nm, set_tp, exists_eq_left', exists_eq_left, Option.some.injEq, D.int.injEq, List.getElem?_cons_zero, List.getElem?_cons_succ, List.set_cons_zero, List.set_cons_succ, List.length_cons, List.length_nil, List.zip_cons_cons, List.zip_nil_left, List.zip_nil_right, List.foldl_cons, List.foldl_nil, List.all_cons, List.all_nil, decide_eq_true_eq, Bool.and_true, Bool.and_eq_true, decide_eq_false_iff_not, Nat.zero_add, Nat.reduceAdd, Nat.reduceLT, Nat.reduceLeDiff, true_and, and_true, Ok_ok, fr_ix0, fr_ix1, decide_true, List.getElem?_nil, w_andV, w_orV, w_notV, beq_tt, beq_tf, beq_ft, beq_ff, beq_self_eq_true, ne_eq, not_true_eq_false, not_false_eq_true, Bool.not_true, Bool.not_false, Bool.not_not, Bool.false_eq_true, Bool.true_eq_false, false_implies, true_implies, implies_true, and_self, reduceCtorEq, D.bl.injEq, p_isi, p_isis, p_slK, p_slT, p_revT, src_tup, p_eqB, p_neB, kit_int_dict, kit_int_tuple, kit_int_list, kit_int_bool, kit_str_dict, kit_str_tuple, kit_str_list, kit_str_bool, kit_bool_dict, kit_bool_tuple, kit_bool_list, kit_bool_bool, kit_NoneType_dict, kit_NoneType_tuple, kit_NoneType_list, kit_NoneType_bool, kit_tuple_dict, kit_tuple_tuple, kit_tuple_list, kit_tuple_bool, kit_list_dict, kit_list_tuple, kit_list_list, kit_list_bool, any_int, any_str, any_bool, any_non, any_tuple, any_list, beq_iff_eq, beq_eq_false_iff_ne, ↓reduceIte, atI_0, ixN_0, atI_1, ixN_1, atI_2, ixN_2, atI_3, ixN_3, atI_4, ixN_4, atI_5, ixN_5, atI_6, ixN_6, atI_7, ixN_7, atI_8, ixN_8, atI_9, ixN_9, q_ixT]
      exact ⟨by decide, q0⟩
    | str h =>
      simp only [c__law_same, show ∀ i, tyN S (.str i) = some "str" from fun _ => rfl, cfg_F, cfg_G, cfg_lv, w_tryL, s_raise, p_intI, p_intB, w_var, w_glo, w_bt, w_int, w_str, w_bl, w_non, w_bin, w_neg, w_cmp, w_ite, w_tup, w_lst, w_call, w_bi, w_me, w_ix, w_sl, w_rev, w_val, w_qand, w_qor, w_qnot, w_nil, w_cons, w_no, w_ex, w_of, w_enum, w_rng1, w_rng2, w_rng3, w_lc, w_lcIf, w_lcB, w_lcBI, wipe_nil, wipe_cons, List.map_cons, List.map_nil, OkS_set, s_nil, s_cons, s_asg, s_setIx, s_aug, s_expr, s_ret, s_retN, s_ite, s_whl, s_for, s_brk, s_cnt, s_pas, s_never, p_add, p_sub, p_mul, p_fdiv, p_mod, p_pow, p_lt, p_le, p_gt, p_ge, p_neg, p_abs, p_max, p_min, p_lenT, p_tupT, p_listT, p_augA, p_augS, p_trB, p_eqI, p_neI, set_nm, set_tp, exists_eq_left', exists_eq_left, Option.some.injEq, D.int.injEq, List.getElem?_cons_zero, List.getElem?_cons_succ, List.set_cons_zero, List.set_cons_succ, List.length_cons, List.length_nil, List.zip_cons_cons, List.zip_nil_left, List.zip_nil_right, List.foldl_cons, List.foldl_nil, List.all_cons, List.all_nil, decide_eq_true_eq, Bool.and_true, Bool.and_eq_true, decide_eq_false_iff_not, Nat.zero_add, Nat.reduceAdd, Nat.reduceLT, Nat.reduceLeDiff, true_and, and_true, Ok_ok, fr_ix0, fr_ix1, decide_true, List.getElem?_nil, w_andV, w_orV, w_notV, beq_tt, beq_tf, beq_ft, beq_ff, beq_self_eq_true, ne_eq, not_true_eq_false, not_false_eq_true, Bool.not_true, Bool.not_false, Bool.not_not, Bool.false_eq_true, Bool.true_eq_false, false_implies, true_implies, implies_true, and_self, reduceCtorEq, D.bl.injEq, p_isi, p_isis, p_slK, p_slT, p_revT, src_tup, p_eqB, p_neB, kit_int_dict, kit_int_tuple, kit_int_list, kit_int_bool, kit_str_dict, kit_str_tuple, kit_str_list, kit_str_bool, kit_bool_dict, kit_bool_tuple, kit_bool_list, kit_bool_bool, kit_NoneType_dict, kit_NoneType_tuple, kit_NoneType_list, kit_NoneType_bool, kit_tuple_dict, kit_tuple_tuple, kit_tuple_list, kit_tuple_bool, kit_list_dict, kit_list_tuple, kit_list_list, kit_list_bool, any_int, any_str, any_bool, any_non, any_tuple, any_list, beq_iff_eq, beq_eq_false_iff_ne, ↓reduceIte, atI_0, ixN_0, atI_1, ixN_1, atI_2, ixN_2, atI_3, ixN_3, atI_4, ixN_4, atI_5, ixN_5, atI_6, ixN_6, atI_7, ixN_7, atI_8, ixN_8, atI_9, ixN_9, q_ixT]
      refine ⟨by decide, p_eq (n := 0) (m := 0) ⟨_, .str h⟩ ⟨_, .str h⟩ fun b hb => ?_⟩
      rw [hb.mpr rfl]; exact q0
    | tup hl hs =>
      rename_i ds es
      simp only [c__law_same, show ∀ i, tyN S (.tup i) = some "tuple" from fun _ => rfl, hs.len, cfg_F, cfg_G, cfg_lv, w_tryL, s_raise, p_intI, p_intB, w_var, w_glo, w_bt, w_int, w_str, w_bl, w_non, w_bin, w_neg, w_cmp, w_ite, w_tup, w_lst, w_call, w_bi, w_me, w_ix, w_sl, w_rev, w_val, w_qand, w_qor, w_qnot, w_nil, w_cons, w_no, w_ex, w_of, w_enum, w_rng1, w_rng2, w_rng3, w_lc, w_lcIf, w_lcB, w_lcBI, wipe_nil, wipe_cons, List.map_cons, List.map_nil, OkS_set, s_nil, s_cons, s_asg, s_setIx, s_aug, s_expr, s_ret, s_retN, s_ite, s_whl, s_for, s_brk, s_cnt, s_pas, s_never, p_add, p_sub, p_mul, p_fdiv, p_mod, p_pow, p_lt, p_le, p_gt, p_ge, p_neg, p_abs, p_max, p_min, p_lenT, p_tupT, p_listT, p_augA, p_augS, p_trB, p_eqI, p_neI, set_nm, set_tp, exists_eq_left', exists_eq_left, Option.some.injEq, D.int.injEq, List.getElem?_cons_zero, List.getElem?_cons_succ, List.set_cons_zero, List.set_cons_succ, List.length_cons, List.length_nil, List.zip_cons_cons, List.zip_nil_left, List.zip_nil_right, List.foldl_cons, List.foldl_nil, List.all_cons, List.all_nil, decide_eq_true_eq, Bool.and_true, Bool.and_eq_true, decide_eq_false_iff_not, Nat.zero_add, Nat.reduceAdd, Nat.reduceLT, Nat.reduceLeDiff, true_and, and_true, Ok_ok, fr_ix0, fr_ix1, decide_true, List.getElem?_nil, w_andV, w_orV, w_notV, beq_tt, beq_tf, beq_ft, beq_ff, beq_self_eq_true, ne_eq, not_true_eq_false, not_false_eq_true, Bool.not_true, Bool.not_false, Bool.not_not, Bool.false_eq_true, Bool.true_eq_false, false_implies, true_implies, implies_true, and_self, reduceCtorEq, D.bl.injEq, p_isi, p_isis, p_slK, p_slT, p_revT, src_tup, p_eqB, p_neB, kit_int_dict, kit_int_tuple, kit_int_list, kit_int_bool, kit_str_dict, kit_str_tuple, kit_str_list, kit_str_bool, kit_bool_dict, kit_bool_tuple, kit_bool_list, kit_bool_bool, kit_NoneType_dict, kit_NoneType_tuple, kit_NoneType_list, kit_NoneType_bool, kit_tuple_dict, kit_tuple_tuple, kit_tuple_list, kit_tuple_bool, kit_list_dict, kit_list_tuple, kit_list_list, kit_list_bool, any_int, any_str, any_bool, any_non, any_tuple, any_list, beq_iff_eq, beq_eq_false_iff_ne, ↓reduceIte, atI_0, ixN_0, atI_1, ixN_1, atI_2, ixN_2, atI_3, ixN_3, atI_4, ixN_4, atI_5, ixN_5, atI_6, ixN_6, atI_7, ixN_7, atI_8, ixN_8, atI_9, ixN_9, q_ixT]
      refine ⟨by decide, _, rng0 (by omega), by show (List.map _ _).length < 100000; simp; omega, ?_⟩
      refine same_all hs hl (fun i x y J I h1 h2 h3 hI => ?_) q
      simp only [cfg_F, cfg_G, cfg_lv, w_tryL, s_raise, p_intI, p_intB, w_var, w_glo, w_bt, w_int, w_str, w_bl, w_non, w_bin, w_neg, w_cmp, w_ite, w_tup, w_lst, w_call, w_bi, w_me, w_ix, w_sl, w_rev, w_val, w_qand, w_qor, w_qnot, w_nil, w_cons, w_no, w_ex, w_of, w_enum, w_rng1, w_rng2, w_rng3, w_lc, w_lcIf, w_lcB, w_lcBI, wipe_nil, wipe_cons, List.map_cons, List.map_nil, OkS_set, s_nil, s_cons, s_asg, s_setIx, s_aug, s_expr, s_ret, s_retN, s_ite, s_whl, s_for, s_brk, s_cnt, s_pas, s_never, p_add, p_sub, p_mul, p_fdiv, p_mod, p_pow, p_lt, p_le, p_gt, p_ge, p_neg, p_abs, p_max, p_min, p_lenT, p_tupT, p_listT, p_augA, p_augS, p_trB, p_eqI, p_neI, set_nm, set_tp, exists_eq_left', exists_eq_left, Option.some.injEq, D.int.injEq, List.getElem?_cons_zero, List.getElem?_cons_succ, List.set_cons_zero, List.set_cons_succ, List.length_cons, List.length_nil, List.zip_cons_cons, List.zip_nil_left, List.zip_nil_right, List.foldl_cons, List.foldl_nil, List.all_cons, List.all_nil, decide_eq_true_eq, Bool.and_true, Bool.and_eq_true, decide_eq_false_iff_not, Nat.zero_add, Nat.reduceAdd, Nat.reduceLT, Nat.reduceLeDiff, true_and, and_true, Ok_ok, fr_ix0, fr_ix1, decide_true, List.getElem?_nil, w_andV, w_orV, w_notV, beq_tt, beq_tf, beq_ft, beq_ff, beq_self_eq_true, ne_eq, not_true_eq_false, not_false_eq_true, Bool.not_true, Bool.not_false, Bool.not_not, Bool.false_eq_true, Bool.true_eq_false, false_implies, true_implies, implies_true, and_self, reduceCtorEq, D.bl.injEq, p_isi, p_isis, p_slK, p_slT, p_revT, src_tup, p_eqB, p_neB, kit_int_dict, kit_int_tuple, kit_int_list, kit_int_bool, kit_str_dict, kit_str_tuple, kit_str_list, kit_str_bool, kit_bool_dict, kit_bool_tuple, kit_bool_list, kit_bool_bool, kit_NoneType_dict, kit_NoneType_tuple, kit_NoneType_list, kit_NoneType_bool, kit_tuple_dict, kit_tuple_tuple, kit_tuple_list, kit_tuple_bool, kit_list_dict, kit_list_tuple, kit_list_list, kit_list_bool, any_int, any_str, any_bool, any_non, any_tuple, any_list, beq_iff_eq, beq_eq_false_iff_ne, ↓reduceIte, atI_0, ixN_0, atI_1, ixN_1, atI_2, ixN_2, atI_3, ixN_3, atI_4, ixN_4, atI_5, ixN_5, atI_6, ixN_6, atI_7, ixN_7, atI_8, ixN_8, atI_9, ixN_9, q_ixT]
      exact ⟨x, atI_nat h1, y, atI_nat h2, ih k x y (S ++ J) _ (h3.app J) hI⟩
    | ref e1 e2 hl hs =>
      rename_i a b ds es
      simp only [c__law_same, ty_list e1, ty_list e2, p_lenL e1, p_lenL e2, hs.len, cfg_F, cfg_G, cfg_lv, w_tryL, s_raise, p_intI, p_intB, w_var, w_glo, w_bt, w_int, w_str, w_bl, w_non, w_bin, w_neg, w_cmp, w_ite, w_tup, w_lst, w_call, w_bi, w_me, w_ix, w_sl, w_rev, w_val, w_qand, w_qor, w_qnot, w_nil, w_cons, w_no, w_ex, w_of, w_enum, w_rng1, w_rng2, w_rng3, w_lc, w_lcIf, w_lcB, w_lcBI, wipe_nil, wipe_cons, List.map_cons, List.map_nil, OkS_set, s_nil, s_cons, s_asg, s_setIx, s_aug, s_expr, s_ret, s_retN, s_ite, s_whl, s_for, s_brk, s_cnt, s_pas, s_never, p_add, p_sub, p_mul, p_fdiv, p_mod, p_pow, p_lt, p_le, p_gt, p_ge, p_neg, p_abs, p_max, p_min, p_lenT, p_tupT, p_listT, p_augA, p_augS, p_trB, p_eqI, p_neI, set_nm, set_tp, exists_eq_left', exists_eq_left, Option.some.injEq, D.int.injEq, List.getElem?_cons_zero, List.getElem?_cons_succ, List.set_cons_zero, List.set_cons_succ, List.length_cons, List.length_nil, List.zip_cons_cons, List.zip_nil_left, List.zip_nil_right, List.foldl_cons, List.foldl_nil, List.all_cons, List.all_nil, decide_eq_true_eq, Bool.and_true, Bool.and_eq_true, decide_eq_false_iff_not, Nat.zero_add, Nat.reduceAdd, Nat.reduceLT, Nat.reduceLeDiff, true_and, and_true, Ok_ok, fr_ix0, fr_ix1, decide_true, List.getElem?_nil, w_andV, w_orV, w_notV, beq_tt, beq_tf, beq_ft, beq_ff, beq_self_eq_true, ne_eq, not_true_eq_false, not_false_eq_true, Bool.not_true, Bool.not_false, Bool.not_not, Bool.false_eq_true, Bool.true_eq_false, false_implies, true_implies, implies_true, and_self, reduceCtorEq, D.bl.injEq, p_isi, p_isis, p_slK, p_slT, p_revT, src_tup, p_eqB, p_neB, kit_int_dict, kit_int_tuple, kit_int_list, kit_int_bool, kit_str_dict, kit_str_tuple, kit_str_list, kit_str_bool, kit_bool_dict, kit_bool_tuple, kit_bool_list, kit_bool_bool, kit_NoneType_dict, kit_NoneType_tuple, kit_NoneType_list, kit_NoneType_bool, kit_tuple_dict, kit_tuple_tuple, kit_tuple_list, kit_tuple_bool, kit_list_dict, kit_list_tuple, kit_list_list, kit_list_bool, any_int, any_str, any_bool, any_non, any_tuple, any_list, beq_iff_eq, beq_eq_false_iff_ne, ↓reduceIte, atI_0, ixN_0, atI_1, ixN_1, atI_2, ixN_2, atI_3, ixN_3, atI_4, ixN_4, atI_5, ixN_5, atI_6, ixN_6, atI_7, ixN_7, atI_8, ixN_8, atI_9, ixN_9, q_ixT]
      refine ⟨by decide, _, rng0 (by omega), by show (List.map _ _).length < 100000; simp; omega, ?_⟩
      refine same_all hs hl (fun i x y J I h1 h2 h3 hI => ?_) q
      simp only [q_ixL (app_at J e1), q_ixL (app_at J e2), cfg_F, cfg_G, cfg_lv, w_tryL, s_raise, p_intI, p_intB, w_var, w_glo, w_bt, w_int, w_str, w_bl, w_non, w_bin, w_neg, w_cmp, w_ite, w_tup, w_lst, w_call, w_bi, w_me, w_ix, w_sl, w_rev, w_val, w_qand, w_qor, w_qnot, w_nil, w_cons, w_no, w_ex, w_of, w_enum, w_rng1, w_rng2, w_rng3, w_lc, w_lcIf, w_lcB, w_lcBI, wipe_nil, wipe_cons, List.map_cons, List.map_nil, OkS_set, s_nil, s_cons, s_asg, s_setIx, s_aug, s_expr, s_ret, s_retN, s_ite, s_whl, s_for, s_brk, s_cnt, s_pas, s_never, p_add, p_sub, p_mul, p_fdiv, p_mod, p_pow, p_lt, p_le, p_gt, p_ge, p_neg, p_abs, p_max, p_min, p_lenT, p_tupT, p_listT, p_augA, p_augS, p_trB, p_eqI, p_neI, set_nm, set_tp, exists_eq_left', exists_eq_left, Option.some.injEq, D.int.injEq, List.getElem?_cons_zero, List.getElem?_cons_succ, List.set_cons_zero, List.set_cons_succ, List.length_cons, List.length_nil, List.zip_cons_cons, List.zip_nil_left, List.zip_nil_right, List.foldl_cons, List.foldl_nil, List.all_cons, List.all_nil, decide_eq_true_eq, Bool.and_true, Bool.and_eq_true, decide_eq_false_iff_not, Nat.zero_add, Nat.reduceAdd, Nat.reduceLT, Nat.reduceLeDiff, true_and, and_true, Ok_ok, fr_ix0, fr_ix1, decide_true, List.getElem?_nil, w_andV, w_orV, w_notV, beq_tt, beq_tf, beq_ft, beq_ff, beq_self_eq_true, ne_eq, not_true_eq_false, not_false_eq_true, Bool.not_true, Bool.not_false, Bool.not_not, Bool.false_eq_true, Bool.true_eq_false, false_implies, true_implies, implies_true, and_self, reduceCtorEq, D.bl.injEq, p_isi, p_isis, p_slK, p_slT, p_revT, src_tup, p_eqB, p_neB, kit_int_dict, kit_int_tuple, kit_int_list, kit_int_bool, kit_str_dict, kit_str_tuple, kit_str_list, kit_str_bool, kit_bool_dict, kit_bool_tuple, kit_bool_list, kit_bool_bool, kit_NoneType_dict, kit_NoneType_tuple, kit_NoneType_list, kit_NoneType_bool, kit_tuple_dict, kit_tuple_tuple, kit_tuple_list, kit_tuple_bool, kit_list_dict, kit_list_tuple, kit_list_list, kit_list_bool, any_int, any_str, any_bool, any_non, any_tuple, any_list, beq_iff_eq, beq_eq_false_iff_ne, ↓reduceIte, atI_0, ixN_0, atI_1, ixN_1, atI_2, ixN_2, atI_3, ixN_3, atI_4, ixN_4, atI_5, ixN_5, atI_6, ixN_6, atI_7, ixN_7, atI_8, ixN_8, atI_9, ixN_9, q_ixT]
      exact ⟨x, atI_nat h1, y, atI_nat h2, ih k x y (S ++ J) _ (h3.app J) hI⟩
/-- the drawing state of a script -/
theorem f_law_draws {X : Exn → Sto → Prop} (k : Nat) (cs : List Int) (S : Sto) (Q : D → Sto → Prop) (hl : cs.length ≤ 63) (q : ∀ n J, Rng (S ++ J) n → Q (.ref n) (S ++ J)) : OkX X (runF TB W (k + 1) "_law_draws" [.kls (cs.map .int)] S) Q := by
  refine w_run c__law_draws [some (.kls (cs.map .int)), none, none] rfl rfl rfl ?_
  simp only [c__law_draws, cfg_F, cfg_G, cfg_lv, w_tryL, s_raise, p_intI, p_intB, w_var, w_glo, w_bt, w_int, w_str, w_bl, w_non, w_bin, w_neg, w_cmp, w_ite, w_tup, w_lst, w_call, w_bi, w_me, w_ix, w_sl, w_rev, w_val, w_qand, w_qor, w_qnot, w_nil, w_cons, w_no, w_ex, w_of, w_enum, w_rng1, w_rng2, w_rng3, w_lc, w_lcIf, w_lcB, w_lcBI, wipe_nil, wipe_cons, List.map_cons, List.map_nil, OkS_set, s_nil, s_cons, s_asg, s_setIx, s_aug, s_expr, s_ret, s_retN, s_ite, s_whl, s_for, s_brk, s_cnt, s_pas, s_never, p_add, p_sub, p_mul, p_fdiv, p_mod, p_pow, p_lt, p_le, p_gt, p_ge, p_neg, p_abs, p_max, p_min, p_lenT, p_tupT, p_listT, p_augA, p_augS, p_trB, p_eqI, p_neI, set_nm, set_tp, exists_eq_left', exists_eq_left, Option.some.injEq, D.int.injEq, List.getElem?_cons_zero, List.getElem?_cons_succ, List.set_cons_zero, List.set_cons_succ, List.length_cons, List.length_nil, List.zip_cons_cons, List.zip_nil_left, List.zip_nil_right, List.foldl_cons, List.foldl_nil, List.all_cons, List.all_nil, decide_eq_true_eq, Bool.and_true, Bool.and_eq_true, decide_eq_false_iff_not, Nat.zero_add, Nat.reduceAdd, Nat.reduceLT, Nat.reduceLeDiff, true_and, and_true, Ok_ok, fr_ix0, fr_ix1, decide_true, List.getElem?_nil, w_andV, w_orV, w_notV, beq_tt, beq_tf, beq_ft, beq_ff, beq_self_eq_true, ne_eq, not_true_eq_false, not_false_eq_true, Bool.not_true, Bool.not_false, Bool.not_not, Bool.false_eq_true, Bool.true_eq_false, false_implies, true_implies, implies_true, and_self, reduceCtorEq, D.bl.injEq, p_isi, p_isis, p_slK, p_slT, p_revT, src_tup, p_eqB, p_neB, kit_int_dict, kit_int_tuple, kit_int_list, kit_int_bool, kit_str_dict, kit_str_tuple, kit_str_list, kit_str_bool, kit_bool_dict, kit_bool_tuple, kit_bool_list, kit_bool_bool, kit_NoneType_dict, kit_NoneType_tuple, kit_NoneType_list, kit_NoneType_bool, kit_tuple_dict, kit_tuple_tuple, kit_tuple_list, kit_tuple_bool, kit_list_dict, kit_list_tuple, kit_list_list, kit_list_bool, any_int, any_str, any_bool, any_non, any_tuple, any_list, beq_iff_eq, beq_eq_false_iff_ne, ↓reduceIte, atI_0, ixN_0, atI_1, ixN_1, atI_2, ixN_2, atI_3, ixN_3, atI_4, ixN_4, atI_5, ixN_5, atI_6, ixN_6, atI_7, ixN_7, atI_8, ixN_8, atI_9, ixN_9, q_ixT]
  rw [cutD_map, src_lst (app_new _ _)]
  have hc : (cutD cs none (some 63)).length ≤ 63 := Nat.le_trans (cutD_len _ _ _) hl
  generalize hcs : cutD cs none (some 63) = ds at hc ⊢
  refine ⟨by show (List.map D.int ds).length < 100000; simp; omega, ?_⟩
  refine forL (fun i env S' => S' = S ++ [SO.lst (ds.map D.int)] ∧ ∃ (salt : Int) (x : Option D), env = [some (.kls (cs.map D.int)), some (.int salt), x] ∧ 0 ≤ salt ∧ salt < 2147483647) ?_ ?_ ⟨rfl, 9493, none, rfl, by decide, by decide⟩
  · rintro I i env S' hI hi ⟨rfl, salt, x, rfl, h1, h2⟩
    have hi : i < ds.length := by
      have : i < (List.map D.int ds).length := hi
      simpa using this
    refine ⟨.int ds[i], ?_, ?_⟩
    · rw [live_at (app_new _ _) rfl]; simp [hi]
    · simp only [cfg_F, cfg_G, cfg_lv, w_tryL, s_raise, p_intI, p_intB, w_var, w_glo, w_bt, w_int, w_str, w_bl, w_non, w_bin, w_neg, w_cmp, w_ite, w_tup, w_lst, w_call, w_bi, w_me, w_ix, w_sl, w_rev, w_val, w_qand, w_qor, w_qnot, w_nil, w_cons, w_no, w_ex, w_of, w_enum, w_rng1, w_rng2, w_rng3, w_lc, w_lcIf, w_lcB, w_lcBI, wipe_nil, wipe_cons, List.map_cons, List.map_nil, OkS_set, s_nil, s_cons, s_asg, s_setIx, s_aug, s_expr, s_ret, s_retN, s_ite, s_whl, s_for, s_brk, s_cnt, s_pas, s_never, p_add, p_sub, p_mul, p_fdiv, p_mod, p_pow, p_lt, p_le, p_gt, p_ge, p_neg, p_abs, p_max, p_min, p_lenT, p_tupT, p_listT, p_augA, p_augS, p_trB, p_eqI, p_neI, set_nm, set_tp, exists_eq_left', exists_eq_left, Option.some.injEq, D.int.injEq, List.getElem?_cons_zero, List.getElem?_cons_succ, List.set_cons_zero, List.set_cons_succ, List.length_cons, List.length_nil, List.zip_cons_cons, List.zip_nil_left, List.zip_nil_right, List.foldl_cons, List.foldl_nil, List.all_cons, List.all_nil, decide_eq_true_eq, Bool.and_true, Bool.and_eq_true, decide_eq_false_iff_not, Nat.zero_add, Nat.reduceAdd, Nat.reduceLT, Nat.reduceLeDiff, true_and, and_true, Ok_ok, fr_ix0, fr_ix1, decide_true, List.getElem?_nil, w_andV, w_orV, w_notV, beq_tt, beq_tf, beq_ft, beq_ff, beq_self_eq_true, ne_eq, not_true_eq_false, not_false_eq_true, Bool.not_true, Bool.not_false, Bool.not_not, Bool.false_eq_true, Bool.true_eq_false, false_implies, true_implies, implies_true, and_self, reduceCtorEq, D.bl.injEq, p_isi, p_isis, p_slK, p_slT, p_revT, src_tup, p_eqB, p_neB, kit_int_dict, kit_int_tuple, kit_int_list, kit_int_bool, kit_str_dict, kit_str_tuple, kit_str_list, kit_str_bool, kit_bool_dict, kit_bool_tuple, kit_bool_list, kit_bool_bool, kit_NoneType_dict, kit_NoneType_tuple, kit_NoneType_list, kit_NoneType_bool, kit_tuple_dict, kit_tuple_tuple, kit_tuple_list, kit_tuple_bool, kit_list_dict, kit_list_tuple, kit_list_list, kit_list_bool, any_int, any_str, any_bool, any_non, any_tuple, any_list, beq_iff_eq, beq_eq_false_iff_ne, ↓reduceIte, atI_0, ixN_0, atI_1, ixN_1, atI_2, ixN_2, atI_3, ixN_3, atI_4, ixN_4, atI_5, ixN_5, atI_6, ixN_6, atI_7, ixN_7, atI_8, ixN_8, atI_9, ixN_9, q_ixT]
      obtain ⟨u1, u2⟩ := fmod_in (x := ds[i]) (y := 2147483587) (by decide)
      obtain ⟨v1, v2⟩ := fmod_in (x := salt * 48271 + ds[i].fmod 2147483587 + 29) (y := 2147483647) (by decide)
      exact ⟨mk64 (by omega) (by decide), by decide, by decide, hI _ _ ⟨rfl, _, _, rfl, v1, v2⟩⟩
  · rintro env S' ⟨rfl, salt, x, rfl, h1, h2⟩
    refine ⟨live_fin (app_new _ _) rfl, ?_⟩
    simp only [cfg_F, cfg_G, cfg_lv, w_tryL, s_raise, p_intI, p_intB, w_var, w_glo, w_bt, w_int, w_str, w_bl, w_non, w_bin, w_neg, w_cmp, w_ite, w_tup, w_lst, w_call, w_bi, w_me, w_ix, w_sl, w_rev, w_val, w_qand, w_qor, w_qnot, w_nil, w_cons, w_no, w_ex, w_of, w_enum, w_rng1, w_rng2, w_rng3, w_lc, w_lcIf, w_lcB, w_lcBI, wipe_nil, wipe_cons, List.map_cons, List.map_nil, OkS_set, s_nil, s_cons, s_asg, s_setIx, s_aug, s_expr, s_ret, s_retN, s_ite, s_whl, s_for, s_brk, s_cnt, s_pas, s_never, p_add, p_sub, p_mul, p_fdiv, p_mod, p_pow, p_lt, p_le, p_gt, p_ge, p_neg, p_abs, p_max, p_min, p_lenT, p_tupT, p_listT, p_augA, p_augS, p_trB, p_eqI, p_neI, set_nm, set_tp, exists_eq_left', exists_eq_left, Option.some.injEq, D.int.injEq, List.getElem?_cons_zero, List.getElem?_cons_succ, List.set_cons_zero, List.set_cons_succ, List.length_cons, List.length_nil, List.zip_cons_cons, List.zip_nil_left, List.zip_nil_right, List.foldl_cons, List.foldl_nil, List.all_cons, List.all_nil, decide_eq_true_eq, Bool.and_true, Bool.and_eq_true, decide_eq_false_iff_not, Nat.zero_add, Nat.reduceAdd, Nat.reduceLT, Nat.reduceLeDiff, true_and, and_true, Ok_ok, fr_ix0, fr_ix1, decide_true, List.getElem?_nil, w_andV, w_orV, w_notV, beq_tt, beq_tf, beq_ft, beq_ff, beq_self_eq_true, ne_eq, not_true_eq_false, not_false_eq_true, Bool.not_true, Bool.not_false, Bool.not_not, Bool.false_eq_true, Bool.true_eq_false, false_implies, true_implies, implies_true, and_self, reduceCtorEq, D.bl.injEq, p_isi, p_isis, p_slK, p_slT, p_revT, src_tup, p_eqB, p_neB, kit_int_dict, kit_int_tuple, kit_int_list, kit_int_bool, kit_str_dict, kit_str_tuple, kit_str_list, kit_str_bool, kit_bool_dict, kit_bool_tuple, kit_bool_list, kit_bool_bool, kit_NoneType_dict, kit_NoneType_tuple, kit_NoneType_list, kit_NoneType_bool, kit_tuple_dict, kit_tuple_tuple, kit_tuple_list, kit_tuple_bool, kit_list_dict, kit_list_tuple, kit_list_list, kit_list_bool, any_int, any_str, any_bool, any_non, any_tuple, any_list, beq_iff_eq, beq_eq_false_iff_ne, ↓reduceIte, atI_0, ixN_0, atI_1, ixN_1, atI_2, ixN_2, atI_3, ixN_3, atI_4, ixN_4, atI_5, ixN_5, atI_6, ixN_6, atI_7, ixN_7, atI_8, ixN_8, atI_9, ixN_9, q_ixT]
    rw [p_listL (app_new _ _), cutD_map, hcs]
    refine ⟨by decide, ?_⟩
    have := q (S.length + 3) [SO.lst (ds.map D.int), SO.lst (ds.map D.int), SO.lst (ds.map D.int), SO.lst [.ref (S.length + 2), .int 0, .int 0, .int salt]] ⟨S.length + 2, ds, 0, 0, salt, by simp, by simp, by omega, by decide, by decide, h1, h2⟩
    simpa using this
end

theorem glo_ZERO : List.lookup ("ZERO" : Str) gl = some (fr 0) := rfl
section
variable {W : Nat} (hW : 2 ^ 9000 ≤ W)
theorem f_law_at {X : Exn → Sto → Prop} (k : Nat) (p : List Rat) (i : Nat) (S : Sto) (Q : D → Sto → Prop) (q : Q (fr (p.getD i 0)) S) : OkX X (runF TB W (k + 1) "_law_at" [po p, .int i] S) Q := by
  refine w_run c__law_at [some (po p), some (.int i)] rfl rfl rfl ?_
  simp only [c__law_at, po, List.length_map, cfg_F, cfg_G, cfg_lv, w_tryL, s_raise, p_intI, p_intB, w_var, w_glo, w_bt, w_int, w_str, w_bl, w_non, w_bin, w_neg, w_cmp, w_ite, w_tup, w_lst, w_call, w_bi, w_me, w_ix, w_sl, w_rev, w_val, w_qand, w_qor, w_qnot, w_nil, w_cons, w_no, w_ex, w_of, w_enum, w_rng1, w_rng2, w_rng3, w_lc, w_lcIf, w_lcB, w_lcBI, wipe_nil, wipe_cons, List.map_cons, List.map_nil, OkS_set, s_nil, s_cons, s_asg, s_setIx, s_aug, s_expr, s_ret, s_retN, s_ite, s_whl, s_for, s_brk, s_cnt, s_pas, s_never, p_add, p_sub, p_mul, p_fdiv, p_mod, p_pow, p_lt, p_le, p_gt, p_ge, p_neg, p_abs, p_max, p_min, p_lenT, p_tupT, p_listT, p_augA, p_augS, p_trB, p_eqI, p_neI, set_nm, set_tp, exists_eq_left', exists_eq_left, Option.some.injEq, D.int.injEq, List.getElem?_cons_zero, List.getElem?_cons_succ, List.set_cons_zero, List.set_cons_succ, List.length_cons, List.length_nil, List.zip_cons_cons, List.zip_nil_left, List.zip_nil_right, List.foldl_cons, List.foldl_nil, List.all_cons, List.all_nil, decide_eq_true_eq, Bool.and_true, Bool.and_eq_true, decide_eq_false_iff_not, Nat.zero_add, Nat.reduceAdd, Nat.reduceLT, Nat.reduceLeDiff, true_and, and_true, Ok_ok, fr_ix0, fr_ix1, decide_true, List.getElem?_nil, w_andV, w_orV, w_notV, beq_tt, beq_tf, beq_ft, beq_ff, beq_self_eq_true, ne_eq, not_true_eq_false, not_false_eq_true, Bool.not_true, Bool.not_false, Bool.not_not, Bool.false_eq_true, Bool.true_eq_false, false_implies, true_implies, implies_true, and_self, reduceCtorEq, D.bl.injEq, p_isi, p_isis, p_slK, p_slT, p_revT, src_tup, p_eqB, p_neB, kit_int_dict, kit_int_tuple, kit_int_list, kit_int_bool, kit_str_dict, kit_str_tuple, kit_str_list, kit_str_bool, kit_bool_dict, kit_bool_tuple, kit_bool_list, kit_bool_bool, kit_NoneType_dict, kit_NoneType_tuple, kit_NoneType_list, kit_NoneType_bool, kit_tuple_dict, kit_tuple_tuple, kit_tuple_list, kit_tuple_bool, kit_list_dict, kit_list_tuple, kit_list_list, kit_list_bool, any_int, any_str, any_bool, any_non, any_tuple, any_list, beq_iff_eq, beq_eq_false_iff_ne, ↓reduceIte, atI_0, ixN_0, atI_1, ixN_1, atI_2, ixN_2, atI_3, ixN_3, atI_4, ixN_4, atI_5, ixN_5, atI_6, ixN_6, atI_7, ixN_7, atI_8, ixN_8, atI_9, ixN_9, q_ixT]
  rw [List.getD_eq_getElem?_getD] at q
  refine ⟨fun h => ⟨fr p[i], fr_at (by omega), ?_⟩, fun h => ⟨by decide, ?_⟩⟩
  · rw [List.getElem?_eq_getElem (by omega)] at q; exact q
  · rw [List.getElem?_eq_none (by omega)] at q; exact q
theorem take_last {p : List Rat} {e : Nat} (he : e + 1 ≤ p.length) : p.take (e + 1) = p.take e ++ [p[e]] := List.take_succ_eq_append_getElem he
include hW
theorem f_trimmed {X : Exn → Sto → Prop} (k : Nat) (p : List Rat) (r : Nat) (S : Sto) (Q : D → Sto → Prop) (h0 : S[r]? = some (.lst (p.map fr))) (hl : p.length ≤ 1000) (q : ∀ J, Q (po (trim p)) (S ++ J)) : OkX X (runF TB W (k + 1) "trimmed" [.ref r] S) Q := by
  refine w_run c_trimmed [some (.ref r), none] rfl rfl rfl ?_
  have hWl : p.length < W := by
    have h1 : (2 : Nat) ^ 10 ≤ 2 ^ 9000 := Nat.pow_le_pow_right (by decide) (by decide)
    have h2 : (2 : Nat) ^ 10 = 1024 := rfl
    generalize (2 : Nat) ^ 9000 = z at *
    omega
  clear hW
  simp only [c_trimmed, p_lenL h0, List.length_map, cfg_F, cfg_G, cfg_lv, w_tryL, s_raise, p_intI, p_intB, w_var, w_glo, w_bt, w_int, w_str, w_bl, w_non, w_bin, w_neg, w_cmp, w_ite, w_tup, w_lst, w_call, w_bi, w_me, w_ix, w_sl, w_rev, w_val, w_qand, w_qor, w_qnot, w_nil, w_cons, w_no, w_ex, w_of, w_enum, w_rng1, w_rng2, w_rng3, w_lc, w_lcIf, w_lcB, w_lcBI, wipe_nil, wipe_cons, List.map_cons, List.map_nil, OkS_set, s_nil, s_cons, s_asg, s_setIx, s_aug, s_expr, s_ret, s_retN, s_ite, s_whl, s_for, s_brk, s_cnt, s_pas, s_never, p_add, p_sub, p_mul, p_fdiv, p_mod, p_pow, p_lt, p_le, p_gt, p_ge, p_neg, p_abs, p_max, p_min, p_lenT, p_tupT, p_listT, p_augA, p_augS, p_trB, p_eqI, p_neI, set_nm, set_tp, exists_eq_left', exists_eq_left, Option.some.injEq, D.int.injEq, List.getElem?_cons_zero, List.getElem?_cons_succ, List.set_cons_zero, List.set_cons_succ, List.length_cons, List.length_nil, List.zip_cons_cons, List.zip_nil_left, List.zip_nil_right, List.foldl_cons, List.foldl_nil, List.all_cons, List.all_nil, decide_eq_true_eq, Bool.and_true, Bool.and_eq_true, decide_eq_false_iff_not, Nat.zero_add, Nat.reduceAdd, Nat.reduceLT, Nat.reduceLeDiff, true_and, and_true, Ok_ok, fr_ix0, fr_ix1, decide_true, List.getElem?_nil, w_andV, w_orV, w_notV, beq_tt, beq_tf, beq_ft, beq_ff, beq_self_eq_true, ne_eq, not_true_eq_false, not_false_eq_true, Bool.not_true, Bool.not_false, Bool.not_not, Bool.false_eq_true, Bool.true_eq_false, false_implies, true_implies, implies_true, and_self, reduceCtorEq, D.bl.injEq, p_isi, p_isis, p_slK, p_slT, p_revT, src_tup, p_eqB, p_neB, kit_int_dict, kit_int_tuple, kit_int_list, kit_int_bool, kit_str_dict, kit_str_tuple, kit_str_list, kit_str_bool, kit_bool_dict, kit_bool_tuple, kit_bool_list, kit_bool_bool, kit_NoneType_dict, kit_NoneType_tuple, kit_NoneType_list, kit_NoneType_bool, kit_tuple_dict, kit_tuple_tuple, kit_tuple_list, kit_tuple_bool, kit_list_dict, kit_list_tuple, kit_list_list, kit_list_bool, any_int, any_str, any_bool, any_non, any_tuple, any_list, beq_iff_eq, beq_eq_false_iff_ne, ↓reduceIte, atI_0, ixN_0, atI_1, ixN_1, atI_2, ixN_2, atI_3, ixN_3, atI_4, ixN_4, atI_5, ixN_5, atI_6, ixN_6, atI_7, ixN_7, atI_8, ixN_8, atI_9, ixN_9, q_ixT]
  refine whl (fun m env S' => S' = S ∧ m ≤ p.length ∧ env = [some (.ref r), some (.int (m : Nat))] ∧ trim (p.take m) = trim p) ?_ p.length ⟨rfl, Nat.le_refl _, rfl, by rw [List.take_length]⟩ hWl
  rintro I m env S' hI ⟨rfl, hm, rfl, ht⟩
  have fin : trim (p.take m) = p.take m → OkX X (slD (D.ref r) none (some (m : Int)) S') fun x S => OkX X (biD Bi.tuple [x] S) Q := fun e => by
    rw [p_slL h0, p_tupL (app_new _ _)]
    have e2 : cutD (p.map fr) none (some (m : Int)) = (p.take m).map fr := by rw [cutD_to _ _ (by rw [List.length_map]; exact hm), List.map_take]
    rw [e2]
    have := q [SO.lst ((p.take m).map fr)]
    rw [← ht, e] at this
    exact this
  simp only [glo_ZERO, q_ixL h0, cfg_F, cfg_G, cfg_lv, w_tryL, s_raise, p_intI, p_intB, w_var, w_glo, w_bt, w_int, w_str, w_bl, w_non, w_bin, w_neg, w_cmp, w_ite, w_tup, w_lst, w_call, w_bi, w_me, w_ix, w_sl, w_rev, w_val, w_qand, w_qor, w_qnot, w_nil, w_cons, w_no, w_ex, w_of, w_enum, w_rng1, w_rng2, w_rng3, w_lc, w_lcIf, w_lcB, w_lcBI, wipe_nil, wipe_cons, List.map_cons, List.map_nil, OkS_set, s_nil, s_cons, s_asg, s_setIx, s_aug, s_expr, s_ret, s_retN, s_ite, s_whl, s_for, s_brk, s_cnt, s_pas, s_never, p_add, p_sub, p_mul, p_fdiv, p_mod, p_pow, p_lt, p_le, p_gt, p_ge, p_neg, p_abs, p_max, p_min, p_lenT, p_tupT, p_listT, p_augA, p_augS, p_trB, p_eqI, p_neI, set_nm, set_tp, exists_eq_left', exists_eq_left, Option.some.injEq, D.int.injEq, List.getElem?_cons_zero, List.getElem?_cons_succ, List.set_cons_zero, List.set_cons_succ, List.length_cons, List.length_nil, List.zip_cons_cons, List.zip_nil_left, List.zip_nil_right, List.foldl_cons, List.foldl_nil, List.all_cons, List.all_nil, decide_eq_true_eq, Bool.and_true, Bool.and_eq_true, decide_eq_false_iff_not, Nat.zero_add, Nat.reduceAdd, Nat.reduceLT, Nat.reduceLeDiff, true_and, and_true, Ok_ok, fr_ix0, fr_ix1, decide_true, List.getElem?_nil, w_andV, w_orV, w_notV, beq_tt, beq_tf, beq_ft, beq_ff, beq_self_eq_true, ne_eq, not_true_eq_false, not_false_eq_true, Bool.not_true, Bool.not_false, Bool.not_not, Bool.false_eq_true, Bool.true_eq_false, false_implies, true_implies, implies_true, and_self, reduceCtorEq, D.bl.injEq, p_isi, p_isis, p_slK, p_slT, p_revT, src_tup, p_eqB, p_neB, kit_int_dict, kit_int_tuple, kit_int_list, kit_int_bool, kit_str_dict, kit_str_tuple, kit_str_list, kit_str_bool, kit_bool_dict, kit_bool_tuple, kit_bool_list, kit_bool_bool, kit_NoneType_dict, kit_NoneType_tuple, kit_NoneType_list, kit_NoneType_bool, kit_tuple_dict, kit_tuple_tuple, kit_tuple_list, kit_tuple_bool, kit_list_dict, kit_list_tuple, kit_list_list, kit_list_bool, any_int, any_str, any_bool, any_non, any_tuple, any_list, beq_iff_eq, beq_eq_false_iff_ne, ↓reduceIte, atI_0, ixN_0, atI_1, ixN_1, atI_2, ixN_2, atI_3, ixN_3, atI_4, ixN_4, atI_5, ixN_5, atI_6, ixN_6, atI_7, ixN_7, atI_8, ixN_8, atI_9, ixN_9, q_ixT]
  refine ⟨fun hpos => ?_, fun h => ?_⟩
  · obtain ⟨e, rfl⟩ : ∃ e, m = e + 1 := ⟨m - 1, by omega⟩
    refine ⟨fr p[e], ?_, p_eq (n := 1) (m := 1) (.fr _) (.fr _) fun b hb => ?_⟩
    · have : ((e + 1 : Nat) : Int) - 1 = (e : Nat) := by omega
      rw [this]; exact fr_at (by omega)
    · simp only [cfg_F, cfg_G, cfg_lv, w_tryL, s_raise, p_intI, p_intB, w_var, w_glo, w_bt, w_int, w_str, w_bl, w_non, w_bin, w_neg, w_cmp, w_ite, w_tup, w_lst, w_call, w_bi, w_me, w_ix, w_sl, w_rev, w_val, w_qand, w_qor, w_qnot, w_nil, w_cons, w_no, w_ex, w_of, w_enum, w_rng1, w_rng2, w_rng3, w_lc, w_lcIf, w_lcB, w_lcBI, wipe_nil, wipe_cons, List.map_cons, List.map_nil, OkS_set, s_nil, s_cons, s_asg, s_setIx, s_aug, s_expr, s_ret, s_retN, s_ite, s_whl, s_for, s_brk, s_cnt, s_pas, s_never, p_add, p_sub, p_mul, p_fdiv, p_mod, p_pow, p_lt, p_le, p_gt, p_ge, p_neg, p_abs, p_max, p_min, p_lenT, p_tupT, p_listT, p_augA, p_augS, p_trB, p_eqI, p_neI, set_nm, set_tp, exists_eq_left', exists_eq_left, Option.some.injEq, D.int.injEq, List.getElem?_cons_zero, List.getElem?_cons_succ, List.set_cons_zero, List.set_cons_succ, List.length_cons, List.length_nil, List.zip_cons_cons, List.zip_nil_left, List.zip_nil_right, List.foldl_cons, List.foldl_nil, List.all_cons, List.all_nil, decide_eq_true_eq, Bool.and_true, Bool.and_eq_true, decide_eq_false_iff_not, Nat.zero_add, Nat.reduceAdd, Nat.reduceLT, Nat.reduceLeDiff, true_and, and_true, Ok_ok, fr_ix0, fr_ix1, decide_true, List.getElem?_nil, w_andV, w_orV, w_notV, beq_tt, beq_tf, beq_ft, beq_ff, beq_self_eq_true, ne_eq, not_true_eq_false, not_false_eq_true, Bool.not_true, Bool.not_false, Bool.not_not, Bool.false_eq_true, Bool.true_eq_false, false_implies, true_implies, implies_true, and_self, reduceCtorEq, D.bl.injEq, p_isi, p_isis, p_slK, p_slT, p_revT, src_tup, p_eqB, p_neB, kit_int_dict, kit_int_tuple, kit_int_list, kit_int_bool, kit_str_dict, kit_str_tuple, kit_str_list, kit_str_bool, kit_bool_dict, kit_bool_tuple, kit_bool_list, kit_bool_bool, kit_NoneType_dict, kit_NoneType_tuple, kit_NoneType_list, kit_NoneType_bool, kit_tuple_dict, kit_tuple_tuple, kit_tuple_list, kit_tuple_bool, kit_list_dict, kit_list_tuple, kit_list_list, kit_list_bool, any_int, any_str, any_bool, any_non, any_tuple, any_list, beq_iff_eq, beq_eq_false_iff_ne, ↓reduceIte, atI_0, ixN_0, atI_1, ixN_1, atI_2, ixN_2, atI_3, ixN_3, atI_4, ixN_4, atI_5, ixN_5, atI_6, ixN_6, atI_7, ixN_7, atI_8, ixN_8, atI_9, ixN_9, q_ixT]
      refine ⟨fun hbt => ?_, fun hbf => fin ?_⟩
      · have hz : p[e] = 0 := fr_inj (hb.mp hbt)
        have : ((e + 1 : Nat) : Int) - 1 = (e : Nat) := by omega
        rw [this]
        refine hI e _ _ (by omega) ⟨rfl, by omega, rfl, ?_⟩
        rw [← ht, take_last hm, hz, trim_snoc0]
      · have hz : p[e] ≠ 0 := fun z => by
          have := hb.mpr (by rw [z])
          rw [hbf] at this; cases this
        rw [take_last hm, trim_snoc _ hz]
  · have : m = 0 := by omega
    subst this
    exact fin rfl
theorem f_law_trimG {X : Exn → Sto → Prop} (k : Nat) (p : List Rat) (d0 : D) (S : Sto) (Q : D → Sto → Prop) (h0 : ∀ (X : Exn → Sto → Prop) (Q : D → Sto → Prop), OkX X (biD .list [d0] S) Q ↔ Q (.ref S.length) (S ++ [.lst (p.map fr)])) (hl : p.length ≤ 1000) (q : ∀ J, Q (po (trim p)) (S ++ J)) : OkX X (runF TB W (k + 1) "_law_trim" [d0] S) Q := by
  refine w_run c__law_trim [some d0, none] rfl rfl rfl ?_
  have hWl : p.length < W := by
    have h1 : (2 : Nat) ^ 10 ≤ 2 ^ 9000 := Nat.pow_le_pow_right (by decide) (by decide)
    have h2 : (2 : Nat) ^ 10 = 1024 := rfl
    generalize (2 : Nat) ^ 9000 = z at *
    omega
  clear hW
  simp only [c__law_trim, h0, cfg_F, cfg_G, cfg_lv, w_tryL, s_raise, p_intI, p_intB, w_var, w_glo, w_bt, w_int, w_str, w_bl, w_non, w_bin, w_neg, w_cmp, w_ite, w_tup, w_lst, w_call, w_bi, w_me, w_ix, w_sl, w_rev, w_val, w_qand, w_qor, w_qnot, w_nil, w_cons, w_no, w_ex, w_of, w_enum, w_rng1, w_rng2, w_rng3, w_lc, w_lcIf, w_lcB, w_lcBI, wipe_nil, wipe_cons, List.map_cons, List.map_nil, OkS_set, s_nil, s_cons, s_asg, s_setIx, s_aug, s_expr, s_ret, s_retN, s_ite, s_whl, s_for, s_brk, s_cnt, s_pas, s_never, p_add, p_sub, p_mul, p_fdiv, p_mod, p_pow, p_lt, p_le, p_gt, p_ge, p_neg, p_abs, p_max, p_min, p_lenT, p_tupT, p_listT, p_augA, p_augS, p_trB, p_eqI, p_neI, set_nm, set_tp, exists_eq_left', exists_eq_left, Option.some.injEq, D.int.injEq, List.getElem?_cons_zero, List.getElem?_cons_succ, List.set_cons_zero, List.set_cons_succ, List.length_cons, List.length_nil, List.zip_cons_cons, List.zip_nil_left, List.zip_nil_right, List.foldl_cons, List.foldl_nil, List.all_cons, List.all_nil, decide_eq_true_eq, Bool.and_true, Bool.and_eq_true, decide_eq_false_iff_not, Nat.zero_add, Nat.reduceAdd, Nat.reduceLT, Nat.reduceLeDiff, true_and, and_true, Ok_ok, fr_ix0, fr_ix1, decide_true, List.getElem?_nil, w_andV, w_orV, w_notV, beq_tt, beq_tf, beq_ft, beq_ff, beq_self_eq_true, ne_eq, not_true_eq_false, not_false_eq_true, Bool.not_true, Bool.not_false, Bool.not_not, Bool.false_eq_true, Bool.true_eq_false, false_implies, true_implies, implies_true, and_self, reduceCtorEq, D.bl.injEq, p_isi, p_isis, p_slK, p_slT, p_revT, src_tup, p_eqB, p_neB, kit_int_dict, kit_int_tuple, kit_int_list, kit_int_bool, kit_str_dict, kit_str_tuple, kit_str_list, kit_str_bool, kit_bool_dict, kit_bool_tuple, kit_bool_list, kit_bool_bool, kit_NoneType_dict, kit_NoneType_tuple, kit_NoneType_list, kit_NoneType_bool, kit_tuple_dict, kit_tuple_tuple, kit_tuple_list, kit_tuple_bool, kit_list_dict, kit_list_tuple, kit_list_list, kit_list_bool, any_int, any_str, any_bool, any_non, any_tuple, any_list, beq_iff_eq, beq_eq_false_iff_ne, ↓reduceIte, atI_0, ixN_0, atI_1, ixN_1, atI_2, ixN_2, atI_3, ixN_3, atI_4, ixN_4, atI_5, ixN_5, atI_6, ixN_6, atI_7, ixN_7, atI_8, ixN_8, atI_9, ixN_9, q_ixT]
  refine whl (fun m env S' => m ≤ p.length ∧ env = [some d0, some (.ref S.length)] ∧ trim (p.take m) = trim p ∧ ∃ J, S' = S ++ J ∧ J[0]? = some (.lst ((p.take m).map fr))) ?_ p.length ⟨Nat.le_refl _, rfl, by rw [List.take_length], _, rfl, by rw [List.take_length]; rfl⟩ hWl
  rintro I m env S' hI ⟨hm, rfl, ht, J, rfl, hJ⟩
  have h1 : (S ++ J)[S.length]? = some (.lst ((p.take m).map fr)) := by rw [get_app0]; exact hJ
  have h2 : ((S ++ J) ++ [SO.lst []])[S.length]? = some (.lst ((p.take m).map fr)) := app_at _ h1
  have e0 : (S ++ J) ++ [SO.lst []] = S ++ (J ++ [SO.lst []]) := List.append_assoc _ _ _
  have fin : trim (p.take m) = p.take m → OkX X (biD Bi.tuple [D.ref S.length] ((S ++ J) ++ [SO.lst []])) Q := fun e => by
    rw [p_tupL h2]
    have := q (J ++ [SO.lst []])
    rw [← ht, e, ← e0] at this
    exact this
  simp only [cfg_F, cfg_G, cfg_lv, w_tryL, s_raise, p_intI, p_intB, w_var, w_glo, w_bt, w_int, w_str, w_bl, w_non, w_bin, w_neg, w_cmp, w_ite, w_tup, w_lst, w_call, w_bi, w_me, w_ix, w_sl, w_rev, w_val, w_qand, w_qor, w_qnot, w_nil, w_cons, w_no, w_ex, w_of, w_enum, w_rng1, w_rng2, w_rng3, w_lc, w_lcIf, w_lcB, w_lcBI, wipe_nil, wipe_cons, List.map_cons, List.map_nil, OkS_set, s_nil, s_cons, s_asg, s_setIx, s_aug, s_expr, s_ret, s_retN, s_ite, s_whl, s_for, s_brk, s_cnt, s_pas, s_never, p_add, p_sub, p_mul, p_fdiv, p_mod, p_pow, p_lt, p_le, p_gt, p_ge, p_neg, p_abs, p_max, p_min, p_lenT, p_tupT, p_listT, p_augA, p_augS, p_trB, p_eqI, p_neI, set_nm, set_tp, exists_eq_left', exists_eq_left, Option.some.injEq, D.int.injEq, List.getElem?_cons_zero, List.getElem?_cons_succ, List.set_cons_zero, List.set_cons_succ, List.length_cons, List.length_nil, List.zip_cons_cons, List.zip_nil_left, List.zip_nil_right, List.foldl_cons, List.foldl_nil, List.all_cons, List.all_nil, decide_eq_true_eq, Bool.and_true, Bool.and_eq_true, decide_eq_false_iff_not, Nat.zero_add, Nat.reduceAdd, Nat.reduceLT, Nat.reduceLeDiff, true_and, and_true, Ok_ok, fr_ix0, fr_ix1, decide_true, List.getElem?_nil, w_andV, w_orV, w_notV, beq_tt, beq_tf, beq_ft, beq_ff, beq_self_eq_true, ne_eq, not_true_eq_false, not_false_eq_true, Bool.not_true, Bool.not_false, Bool.not_not, Bool.false_eq_true, Bool.true_eq_false, false_implies, true_implies, implies_true, and_self, reduceCtorEq, D.bl.injEq, p_isi, p_isis, p_slK, p_slT, p_revT, src_tup, p_eqB, p_neB, kit_int_dict, kit_int_tuple, kit_int_list, kit_int_bool, kit_str_dict, kit_str_tuple, kit_str_list, kit_str_bool, kit_bool_dict, kit_bool_tuple, kit_bool_list, kit_bool_bool, kit_NoneType_dict, kit_NoneType_tuple, kit_NoneType_list, kit_NoneType_bool, kit_tuple_dict, kit_tuple_tuple, kit_tuple_list, kit_tuple_bool, kit_list_dict, kit_list_tuple, kit_list_list, kit_list_bool, any_int, any_str, any_bool, any_non, any_tuple, any_list, beq_iff_eq, beq_eq_false_iff_ne, ↓reduceIte, atI_0, ixN_0, atI_1, ixN_1, atI_2, ixN_2, atI_3, ixN_3, atI_4, ixN_4, atI_5, ixN_5, atI_6, ixN_6, atI_7, ixN_7, atI_8, ixN_8, atI_9, ixN_9, q_ixT]
  refine ⟨by decide, p_neL (n := 1) (m := 1) h2 (app_new _ _) (fun d hd => by
    obtain ⟨x, _, rfl⟩ := List.mem_map.mp hd
    exact .fr x) (fun d hd => by cases hd) fun b hb => ?_⟩
  simp only [q_ixL h2, cfg_F, cfg_G, cfg_lv, w_tryL, s_raise, p_intI, p_intB, w_var, w_glo, w_bt, w_int, w_str, w_bl, w_non, w_bin, w_neg, w_cmp, w_ite, w_tup, w_lst, w_call, w_bi, w_me, w_ix, w_sl, w_rev, w_val, w_qand, w_qor, w_qnot, w_nil, w_cons, w_no, w_ex, w_of, w_enum, w_rng1, w_rng2, w_rng3, w_lc, w_lcIf, w_lcB, w_lcBI, wipe_nil, wipe_cons, List.map_cons, List.map_nil, OkS_set, s_nil, s_cons, s_asg, s_setIx, s_aug, s_expr, s_ret, s_retN, s_ite, s_whl, s_for, s_brk, s_cnt, s_pas, s_never, p_add, p_sub, p_mul, p_fdiv, p_mod, p_pow, p_lt, p_le, p_gt, p_ge, p_neg, p_abs, p_max, p_min, p_lenT, p_tupT, p_listT, p_augA, p_augS, p_trB, p_eqI, p_neI, set_nm, set_tp, exists_eq_left', exists_eq_left, Option.some.injEq, D.int.injEq, List.getElem?_cons_zero, List.getElem?_cons_succ, List.set_cons_zero, List.set_cons_succ, List.length_cons, List.length_nil, List.zip_cons_cons, List.zip_nil_left, List.zip_nil_right, List.foldl_cons, List.foldl_nil, List.all_cons, List.all_nil, decide_eq_true_eq, Bool.and_true, Bool.and_eq_true, decide_eq_false_iff_not, Nat.zero_add, Nat.reduceAdd, Nat.reduceLT, Nat.reduceLeDiff, true_and, and_true, Ok_ok, fr_ix0, fr_ix1, decide_true, List.getElem?_nil, w_andV, w_orV, w_notV, beq_tt, beq_tf, beq_ft, beq_ff, beq_self_eq_true, ne_eq, not_true_eq_false, not_false_eq_true, Bool.not_true, Bool.not_false, Bool.not_not, Bool.false_eq_true, Bool.true_eq_false, false_implies, true_implies, implies_true, and_self, reduceCtorEq, D.bl.injEq, p_isi, p_isis, p_slK, p_slT, p_revT, src_tup, p_eqB, p_neB, kit_int_dict, kit_int_tuple, kit_int_list, kit_int_bool, kit_str_dict, kit_str_tuple, kit_str_list, kit_str_bool, kit_bool_dict, kit_bool_tuple, kit_bool_list, kit_bool_bool, kit_NoneType_dict, kit_NoneType_tuple, kit_NoneType_list, kit_NoneType_bool, kit_tuple_dict, kit_tuple_tuple, kit_tuple_list, kit_tuple_bool, kit_list_dict, kit_list_tuple, kit_list_list, kit_list_bool, any_int, any_str, any_bool, any_non, any_tuple, any_list, beq_iff_eq, beq_eq_false_iff_ne, ↓reduceIte, atI_0, ixN_0, atI_1, ixN_1, atI_2, ixN_2, atI_3, ixN_3, atI_4, ixN_4, atI_5, ixN_5, atI_6, ixN_6, atI_7, ixN_7, atI_8, ixN_8, atI_9, ixN_9, q_ixT]
  refine ⟨fun hbt => ?_, fun hbf => ?_⟩
  · have hne : (p.take m).map fr ≠ [] := hb.mp hbt
    obtain ⟨e, rfl⟩ : ∃ e, m = e + 1 := ⟨m - 1, by
      have : m ≠ 0 := fun z => hne (by subst z; rfl)
      omega⟩
    have hlast : ((p.take (e + 1)).map fr)[((p.take (e + 1)).map fr).length - 1]? = some (fr p[e]) := by
      have : ((p.take (e + 1)).map fr).length - 1 = e := by simp; omega
      rw [this]; exact fr_tk (by omega)
    refine ⟨fr p[e], atI_last hlast, by decide, p_eq (n := 1) (m := 1) (.fr _) (.fr 0) fun c hc => ?_⟩
    simp only [cfg_F, cfg_G, cfg_lv, w_tryL, s_raise, p_intI, p_intB, w_var, w_glo, w_bt, w_int, w_str, w_bl, w_non, w_bin, w_neg, w_cmp, w_ite, w_tup, w_lst, w_call, w_bi, w_me, w_ix, w_sl, w_rev, w_val, w_qand, w_qor, w_qnot, w_nil, w_cons, w_no, w_ex, w_of, w_enum, w_rng1, w_rng2, w_rng3, w_lc, w_lcIf, w_lcB, w_lcBI, wipe_nil, wipe_cons, List.map_cons, List.map_nil, OkS_set, s_nil, s_cons, s_asg, s_setIx, s_aug, s_expr, s_ret, s_retN, s_ite, s_whl, s_for, s_brk, s_cnt, s_pas, s_never, p_add, p_sub, p_mul, p_fdiv, p_mod, p_pow, p_lt, p_le, p_gt, p_ge, p_neg, p_abs, p_max, p_min, p_lenT, p_tupT, p_listT, p_augA, p_augS, p_trB, p_eqI, p_neI, set_nm, set_tp, exists_eq_left', exists_eq_left, Option.some.injEq, D.int.injEq, List.getElem?_cons_zero, List.getElem?_cons_succ, List.set_cons_zero, List.set_cons_succ, List.length_cons, List.length_nil, List.zip_cons_cons, List.zip_nil_left, List.zip_nil_right, List.foldl_cons, List.foldl_nil, List.all_cons, List.all_nil, decide_eq_true_eq, Bool.and_true, Bool.and_eq_true, decide_eq_false_iff_not, Nat.zero_add, Nat.reduceAdd, Nat.reduceLT, Nat.reduceLeDiff, true_and, and_true, Ok_ok, fr_ix0, fr_ix1, decide_true, List.getElem?_nil, w_andV, w_orV, w_notV, beq_tt, beq_tf, beq_ft, beq_ff, beq_self_eq_true, ne_eq, not_true_eq_false, not_false_eq_true, Bool.not_true, Bool.not_false, Bool.not_not, Bool.false_eq_true, Bool.true_eq_false, false_implies, true_implies, implies_true, and_self, reduceCtorEq, D.bl.injEq, p_isi, p_isis, p_slK, p_slT, p_revT, src_tup, p_eqB, p_neB, kit_int_dict, kit_int_tuple, kit_int_list, kit_int_bool, kit_str_dict, kit_str_tuple, kit_str_list, kit_str_bool, kit_bool_dict, kit_bool_tuple, kit_bool_list, kit_bool_bool, kit_NoneType_dict, kit_NoneType_tuple, kit_NoneType_list, kit_NoneType_bool, kit_tuple_dict, kit_tuple_tuple, kit_tuple_list, kit_tuple_bool, kit_list_dict, kit_list_tuple, kit_list_list, kit_list_bool, any_int, any_str, any_bool, any_non, any_tuple, any_list, beq_iff_eq, beq_eq_false_iff_ne, ↓reduceIte, atI_0, ixN_0, atI_1, ixN_1, atI_2, ixN_2, atI_3, ixN_3, atI_4, ixN_4, atI_5, ixN_5, atI_6, ixN_6, atI_7, ixN_7, atI_8, ixN_8, atI_9, ixN_9, q_ixT]
    refine ⟨fun hct => ?_, fun hcf => fin ?_⟩
    · have hz : p[e] = 0 := fr_inj (hc.mp hct)
      rw [p_pop h2 hlast]
      refine ⟨me_ty h2, ?_⟩
      rw [e0, set_app0]
      refine hI e _ _ (by omega) ⟨by omega, rfl, ?_, _, rfl, ?_⟩
      · rw [← ht, take_last hm, hz, trim_snoc0]
      · have hd : ((p.take (e + 1)).map fr).dropLast = (p.take e).map fr := by rw [take_last hm, List.map_append]; simp
        rw [hd]
        have : 0 < (J ++ [SO.lst []]).length := by simp
        rw [List.getElem?_set_self this]
    · have hz : p[e] ≠ 0 := fun z => by
        have := hc.mpr (by rw [z]; rfl)
        rw [hcf] at this; cases this
      rw [take_last hm, trim_snoc _ hz]
  · have : (p.take m).map fr = [] := by
      refine Classical.byContradiction fun z => ?_
      have := hb.mpr z
      rw [hbf] at this; cases this
    refine fin ?_
    have e : p.take m = [] := List.map_eq_nil_iff.mp this
    rw [e]; rfl
theorem f_law_trim {X : Exn → Sto → Prop} (k : Nat) (p : List Rat) (r : Nat) (S : Sto) (Q : D → Sto → Prop) (h0 : S[r]? = some (.lst (p.map fr))) (hl : p.length ≤ 1000) (q : ∀ J, Q (po (trim p)) (S ++ J)) : OkX X (runF TB W (k + 1) "_law_trim" [.ref r] S) Q := f_law_trimG hW k p _ S Q (fun _ _ => p_listL h0) hl q
theorem f_law_trimT {X : Exn → Sto → Prop} (k : Nat) (p : List Rat) (S : Sto) (Q : D → Sto → Prop) (hl : p.length ≤ 1000) (q : ∀ J, Q (po (trim p)) (S ++ J)) : OkX X (runF TB W (k + 1) "_law_trim" [po p] S) Q := f_law_trimG hW k p _ S Q (fun _ Q => p_listT S Q _) hl q
end

section
variable {W : Nat} (hW : 2 ^ 9000 ≤ W)
theorem max_if (a b : Nat) : (if (b : Int) > a then (b : Int) else a) = ((max a b : Nat) : Int) := by split <;> omega
theorem rlen (f : Nat → D) (n : Nat) (h : n ≤ 1000) : (Src.its ((List.range n).map f)).len < LEN := by
  show ((List.range n).map f).length < 100000
  rw [List.length_map, List.length_range]; omega
theorem tlen {l : List Rat} (h : l.length ≤ 1000) : (Src.its (l.map fr)).len < LEN := by
  show (l.map fr).length < 100000
  rw [List.length_map]; omega
theorem padd_len (a b : List Rat) : (padd a b).length = max a.length b.length := by simp [padd]
theorem psub_len (a b : List Rat) : (psub a b).length = max a.length b.length := by simp [psub]
include hW
section
variable (k : Nat) (a b : List Rat) (S : Sto) (Q : D → Sto → Prop) (ha : PB 4000 a) (hb : PB 4000 b) (la : a.length ≤ 1000) (lb : b.length ≤ 1000)
include ha hb la lb
theorem f_law_padd {X : Exn → Sto → Prop} (q : ∀ J, Q (po (trim (padd a b))) (S ++ J)) : OkX X (runF TB W (k + 4) "_law_padd" [po a, po b] S) Q := by
  refine w_run c__law_padd [some (po a), some (po b), none] rfl rfl rfl ?_
  simp only [c__law_padd, po, List.length_map, max_if, cfg_F, cfg_G, cfg_lv, w_tryL, s_raise, p_intI, p_intB, w_var, w_glo, w_bt, w_int, w_str, w_bl, w_non, w_bin, w_neg, w_cmp, w_ite, w_tup, w_lst, w_call, w_bi, w_me, w_ix, w_sl, w_rev, w_val, w_qand, w_qor, w_qnot, w_nil, w_cons, w_no, w_ex, w_of, w_enum, w_rng1, w_rng2, w_rng3, w_lc, w_lcIf, w_lcB, w_lcBI, wipe_nil, wipe_cons, List.map_cons, List.map_nil, OkS_set, s_nil, s_cons, s_asg, s_setIx, s_aug, s_expr, s_ret, s_retN, s_ite, s_whl, s_for, s_brk, s_cnt, s_pas, s_never, p_add, p_sub, p_mul, p_fdiv, p_mod, p_pow, p_lt, p_le, p_gt, p_ge, p_neg, p_abs, p_max, p_min, p_lenT, p_tupT, p_listT, p_augA, p_augS, p_trB, p_eqI, p_neI, set_nm, set_tp, exists_eq_left', exists_eq_left, Option.some.injEq, D.int.injEq, List.getElem?_cons_zero, List.getElem?_cons_succ, List.set_cons_zero, List.set_cons_succ, List.length_cons, List.length_nil, List.zip_cons_cons, List.zip_nil_left, List.zip_nil_right, List.foldl_cons, List.foldl_nil, List.all_cons, List.all_nil, decide_eq_true_eq, Bool.and_true, Bool.and_eq_true, decide_eq_false_iff_not, Nat.zero_add, Nat.reduceAdd, Nat.reduceLT, Nat.reduceLeDiff, true_and, and_true, Ok_ok, fr_ix0, fr_ix1, decide_true, List.getElem?_nil, w_andV, w_orV, w_notV, beq_tt, beq_tf, beq_ft, beq_ff, beq_self_eq_true, ne_eq, not_true_eq_false, not_false_eq_true, Bool.not_true, Bool.not_false, Bool.not_not, Bool.false_eq_true, Bool.true_eq_false, false_implies, true_implies, implies_true, and_self, reduceCtorEq, D.bl.injEq, p_isi, p_isis, p_slK, p_slT, p_revT, src_tup, p_eqB, p_neB, kit_int_dict, kit_int_tuple, kit_int_list, kit_int_bool, kit_str_dict, kit_str_tuple, kit_str_list, kit_str_bool, kit_bool_dict, kit_bool_tuple, kit_bool_list, kit_bool_bool, kit_NoneType_dict, kit_NoneType_tuple, kit_NoneType_list, kit_NoneType_bool, kit_tuple_dict, kit_tuple_tuple, kit_tuple_list, kit_tuple_bool, kit_list_dict, kit_list_tuple, kit_list_list, kit_list_bool, any_int, any_str, any_bool, any_non, any_tuple, any_list, beq_iff_eq, beq_eq_false_iff_ne, ↓reduceIte, atI_0, ixN_0, atI_1, ixN_1, atI_2, ixN_2, atI_3, ixN_3, atI_4, ixN_4, atI_5, ixN_5, atI_6, ixN_6, atI_7, ixN_7, atI_8, ixN_8, atI_9, ixN_9, q_ixT]
  refine ⟨_, rng0 (by omega), rlen _ _ (by omega), ?_⟩
  refine mapR0 (g := fun k => fr (a.getD k 0 + b.getD k 0)) (fun i I hi hI => ?_) ?_
  · simp only [cfg_F, cfg_G, cfg_lv, w_tryL, s_raise, p_intI, p_intB, w_var, w_glo, w_bt, w_int, w_str, w_bl, w_non, w_bin, w_neg, w_cmp, w_ite, w_tup, w_lst, w_call, w_bi, w_me, w_ix, w_sl, w_rev, w_val, w_qand, w_qor, w_qnot, w_nil, w_cons, w_no, w_ex, w_of, w_enum, w_rng1, w_rng2, w_rng3, w_lc, w_lcIf, w_lcB, w_lcBI, wipe_nil, wipe_cons, List.map_cons, List.map_nil, OkS_set, s_nil, s_cons, s_asg, s_setIx, s_aug, s_expr, s_ret, s_retN, s_ite, s_whl, s_for, s_brk, s_cnt, s_pas, s_never, p_add, p_sub, p_mul, p_fdiv, p_mod, p_pow, p_lt, p_le, p_gt, p_ge, p_neg, p_abs, p_max, p_min, p_lenT, p_tupT, p_listT, p_augA, p_augS, p_trB, p_eqI, p_neI, set_nm, set_tp, exists_eq_left', exists_eq_left, Option.some.injEq, D.int.injEq, List.getElem?_cons_zero, List.getElem?_cons_succ, List.set_cons_zero, List.set_cons_succ, List.length_cons, List.length_nil, List.zip_cons_cons, List.zip_nil_left, List.zip_nil_right, List.foldl_cons, List.foldl_nil, List.all_cons, List.all_nil, decide_eq_true_eq, Bool.and_true, Bool.and_eq_true, decide_eq_false_iff_not, Nat.zero_add, Nat.reduceAdd, Nat.reduceLT, Nat.reduceLeDiff, true_and, and_true, Ok_ok, fr_ix0, fr_ix1, decide_true, List.getElem?_nil, w_andV, w_orV, w_notV, beq_tt, beq_tf, beq_ft, beq_ff, beq_self_eq_true, ne_eq, not_true_eq_false, not_false_eq_true, Bool.not_true, Bool.not_false, Bool.not_not, Bool.false_eq_true, Bool.true_eq_false, false_implies, true_implies, implies_true, and_self, reduceCtorEq, D.bl.injEq, p_isi, p_isis, p_slK, p_slT, p_revT, src_tup, p_eqB, p_neB, kit_int_dict, kit_int_tuple, kit_int_list, kit_int_bool, kit_str_dict, kit_str_tuple, kit_str_list, kit_str_bool, kit_bool_dict, kit_bool_tuple, kit_bool_list, kit_bool_bool, kit_NoneType_dict, kit_NoneType_tuple, kit_NoneType_list, kit_NoneType_bool, kit_tuple_dict, kit_tuple_tuple, kit_tuple_list, kit_tuple_bool, kit_list_dict, kit_list_tuple, kit_list_list, kit_list_bool, any_int, any_str, any_bool, any_non, any_tuple, any_list, beq_iff_eq, beq_eq_false_iff_ne, ↓reduceIte, atI_0, ixN_0, atI_1, ixN_1, atI_2, ixN_2, atI_3, ixN_3, atI_4, ixN_4, atI_5, ixN_5, atI_6, ixN_6, atI_7, ixN_7, atI_8, ixN_8, atI_9, ixN_9, q_ixT]
    refine f_law_at (k + 2) a i S _ ?_
    refine f_law_at (k + 2) b i S _ ?_
    exact f_law_add hW k _ _ S _ (ha.get (by decide) i) (hb.get (by decide) i) hI
  · refine f_law_trim hW (k + 2) (padd a b) _ _ _ ?_ (by rw [padd_len]; omega) fun J => ?_
    · rw [app_new]; unfold padd; rw [List.map_map]; rfl
    · have := q ([SO.lst ((padd a b).map fr)] ++ J)
      rw [← List.append_assoc] at this
      unfold padd at this ⊢
      rw [List.map_map] at this
      exact this
end
section
variable (k : Nat) (a : List Rat) (v : Rat) (S : Sto) (Q : D → Sto → Prop) (ha : PB 4000 a) (hv : Bt 4000 v) (la : a.length ≤ 1000)
include ha la
include hv
end
end

theorem glo_NOTHING : List.lookup ("NOTHING" : Str) gl = some (.tup []) := rfl
section
variable {W : Nat} (hW : 2 ^ 9000 ≤ W)
theorem rep_zero (n : Nat) : (List.replicate n [fr 0]).flatten = (List.replicate n (0 : Rat)).map fr := by
  induction n with
  | zero => rfl
  | succ n ih => rw [List.replicate_succ, List.replicate_succ, List.flatten_cons, ih]; rfl
theorem map_set_fr (l : List Rat) (i : Nat) (x : Rat) : (l.map fr).set i (fr x) = (l.set i x).map fr := List.map_set.symm
theorem enum_tup (S : Sto) (ds : List D) (P : Src → Prop) : (∃ s, enumD (.tup ds) S = some s ∧ P s) ↔ P (.its ((List.range ds.length).map fun k => .tup [.int (k : Nat), ds.getD k .non])) := by
  constructor
  · rintro ⟨s, h1, h2⟩
    cases h1
    exact h2
  · intro h
    exact ⟨_, rfl, h⟩
theorem getD_fr {b : List Rat} {i : Nat} (h : i < b.length) : (b.map fr).getD i .non = fr (b.getD i 0) := by
  rw [List.getD_eq_getElem?_getD, List.getElem?_map, List.getElem?_eq_getElem h, List.getD_eq_getElem?_getD, List.getElem?_eq_getElem h]; rfl
theorem nat_add_cast (i j : Nat) : (i : Int) + (j : Int) = ((i + j : Nat) : Int) := by omega
theorem fr_at' {l : List Rat} {i : Nat} (h : i < l.length) : L2.atI (l.map fr) (i : Nat) = some (fr (l.getD i 0)) := by
  rw [fr_at h, List.getD_eq_getElem?_getD, List.getElem?_eq_getElem h]; rfl
include hW
theorem f_law_pmul {X : Exn → Sto → Prop} (k : Nat) (a b : List Rat) (S : Sto) (Q : D → Sto → Prop) (ha : PB 4000 a) (hb : PB 4000 b) (la : a.length ≤ 400) (lb : b.length ≤ 400) (hm : ∀ j t, j < a.length → t ≤ b.length → PB 4000 (pmI a b j (pmO a b j) t)) (hmul : ∀ j t, Bt 4000 (a.getD j 0 * b.getD t 0)) (q : ∀ J, Q (po (trim (pmul a b))) (S ++ J)) : OkX X (runF TB W (k + 4) "_law_pmul" [po a, po b] S) Q := by
  refine w_run c__law_pmul [some (po a), some (po b), none, none, none] rfl rfl rfl ?_
  simp only [c__law_pmul, po, List.length_map, nat_add_cast, cfg_F, cfg_G, cfg_lv, w_tryL, s_raise, p_intI, p_intB, w_var, w_glo, w_bt, w_int, w_str, w_bl, w_non, w_bin, w_neg, w_cmp, w_ite, w_tup, w_lst, w_call, w_bi, w_me, w_ix, w_sl, w_rev, w_val, w_qand, w_qor, w_qnot, w_nil, w_cons, w_no, w_ex, w_of, w_enum, w_rng1, w_rng2, w_rng3, w_lc, w_lcIf, w_lcB, w_lcBI, wipe_nil, wipe_cons, List.map_cons, List.map_nil, OkS_set, s_nil, s_cons, s_asg, s_setIx, s_aug, s_expr, s_ret, s_retN, s_ite, s_whl, s_for, s_brk, s_cnt, s_pas, s_never, p_add, p_sub, p_mul, p_fdiv, p_mod, p_pow, p_lt, p_le, p_gt, p_ge, p_neg, p_abs, p_max, p_min, p_lenT, p_tupT, p_listT, p_augA, p_augS, p_trB, p_eqI, p_neI, set_nm, set_tp, exists_eq_left', exists_eq_left, Option.some.injEq, D.int.injEq, List.getElem?_cons_zero, List.getElem?_cons_succ, List.set_cons_zero, List.set_cons_succ, List.length_cons, List.length_nil, List.zip_cons_cons, List.zip_nil_left, List.zip_nil_right, List.foldl_cons, List.foldl_nil, List.all_cons, List.all_nil, decide_eq_true_eq, Bool.and_true, Bool.and_eq_true, decide_eq_false_iff_not, Nat.zero_add, Nat.reduceAdd, Nat.reduceLT, Nat.reduceLeDiff, true_and, and_true, Ok_ok, fr_ix0, fr_ix1, decide_true, List.getElem?_nil, w_andV, w_orV, w_notV, beq_tt, beq_tf, beq_ft, beq_ff, beq_self_eq_true, ne_eq, not_true_eq_false, not_false_eq_true, Bool.not_true, Bool.not_false, Bool.not_not, Bool.false_eq_true, Bool.true_eq_false, false_implies, true_implies, implies_true, and_self, reduceCtorEq, D.bl.injEq, p_isi, p_isis, p_slK, p_slT, p_revT, src_tup, p_eqB, p_neB, kit_int_dict, kit_int_tuple, kit_int_list, kit_int_bool, kit_str_dict, kit_str_tuple, kit_str_list, kit_str_bool, kit_bool_dict, kit_bool_tuple, kit_bool_list, kit_bool_bool, kit_NoneType_dict, kit_NoneType_tuple, kit_NoneType_list, kit_NoneType_bool, kit_tuple_dict, kit_tuple_tuple, kit_tuple_list, kit_tuple_bool, kit_list_dict, kit_list_tuple, kit_list_list, kit_list_bool, any_int, any_str, any_bool, any_non, any_tuple, any_list, beq_iff_eq, beq_eq_false_iff_ne, ↓reduceIte, atI_0, ixN_0, atI_1, ixN_1, atI_2, ixN_2, atI_3, ixN_3, atI_4, ixN_4, atI_5, ixN_5, atI_6, ixN_6, atI_7, ixN_7, atI_8, ixN_8, atI_9, ixN_9, q_ixT]
  rw [p_lrep (app_new _ _)]
  have eN : (((a.length + b.length : Nat) : Int)).toNat = a.length + b.length := by omega
  have eS : (S ++ [SO.lst [D.tup [.int 0, .int 1]]]).length = S.length + 1 := by simp
  rw [eN, show D.tup [.int 0, .int 1] = fr 0 from rfl, rep_zero, show (S ++ [SO.lst [fr 0]]).length = S.length + 1 by simp, List.append_assoc]
  refine ⟨by decide, by decide, ⟨by omega, by omega, by show 1 * _ ≤ 100000; omega⟩, _, rng0 (by omega), rlen _ _ (by omega), ?_⟩
  refine forL (fun j env S' => S' = S ++ [SO.lst [fr 0], SO.lst ((pmO a b j).map fr)] ∧ ∃ x y, env = [some (.tup (a.map fr)), some (.tup (b.map fr)), some (.ref (S.length + 1)), x, y]) ?_ ?_ ⟨rfl, _, _, rfl⟩
  · rintro I j env S' hI hj ⟨rfl, x, y, rfl⟩
    have hj : j < a.length := by
      have : j < ((List.range a.length).map fun k => D.int (k : Nat)).length := hj
      simpa using this
    refine ⟨.int (j : Nat), by show ((List.range a.length).map _)[j]? = _; simp [hj], ?_⟩
    simp only [List.length_map, cfg_F, cfg_G, cfg_lv, w_tryL, s_raise, p_intI, p_intB, w_var, w_glo, w_bt, w_int, w_str, w_bl, w_non, w_bin, w_neg, w_cmp, w_ite, w_tup, w_lst, w_call, w_bi, w_me, w_ix, w_sl, w_rev, w_val, w_qand, w_qor, w_qnot, w_nil, w_cons, w_no, w_ex, w_of, w_enum, w_rng1, w_rng2, w_rng3, w_lc, w_lcIf, w_lcB, w_lcBI, wipe_nil, wipe_cons, List.map_cons, List.map_nil, OkS_set, s_nil, s_cons, s_asg, s_setIx, s_aug, s_expr, s_ret, s_retN, s_ite, s_whl, s_for, s_brk, s_cnt, s_pas, s_never, p_add, p_sub, p_mul, p_fdiv, p_mod, p_pow, p_lt, p_le, p_gt, p_ge, p_neg, p_abs, p_max, p_min, p_lenT, p_tupT, p_listT, p_augA, p_augS, p_trB, p_eqI, p_neI, set_nm, set_tp, exists_eq_left', exists_eq_left, Option.some.injEq, D.int.injEq, List.getElem?_cons_zero, List.getElem?_cons_succ, List.set_cons_zero, List.set_cons_succ, List.length_cons, List.length_nil, List.zip_cons_cons, List.zip_nil_left, List.zip_nil_right, List.foldl_cons, List.foldl_nil, List.all_cons, List.all_nil, decide_eq_true_eq, Bool.and_true, Bool.and_eq_true, decide_eq_false_iff_not, Nat.zero_add, Nat.reduceAdd, Nat.reduceLT, Nat.reduceLeDiff, true_and, and_true, Ok_ok, fr_ix0, fr_ix1, decide_true, List.getElem?_nil, w_andV, w_orV, w_notV, beq_tt, beq_tf, beq_ft, beq_ff, beq_self_eq_true, ne_eq, not_true_eq_false, not_false_eq_true, Bool.not_true, Bool.not_false, Bool.not_not, Bool.false_eq_true, Bool.true_eq_false, false_implies, true_implies, implies_true, and_self, reduceCtorEq, D.bl.injEq, p_isi, p_isis, p_slK, p_slT, p_revT, src_tup, p_eqB, p_neB, kit_int_dict, kit_int_tuple, kit_int_list, kit_int_bool, kit_str_dict, kit_str_tuple, kit_str_list, kit_str_bool, kit_bool_dict, kit_bool_tuple, kit_bool_list, kit_bool_bool, kit_NoneType_dict, kit_NoneType_tuple, kit_NoneType_list, kit_NoneType_bool, kit_tuple_dict, kit_tuple_tuple, kit_tuple_list, kit_tuple_bool, kit_list_dict, kit_list_tuple, kit_list_list, kit_list_bool, any_int, any_str, any_bool, any_non, any_tuple, any_list, beq_iff_eq, beq_eq_false_iff_ne, ↓reduceIte, atI_0, ixN_0, atI_1, ixN_1, atI_2, ixN_2, atI_3, ixN_3, atI_4, ixN_4, atI_5, ixN_5, atI_6, ixN_6, atI_7, ixN_7, atI_8, ixN_8, atI_9, ixN_9, q_ixT]
    refine ⟨_, rng0 (by omega), rlen _ _ (by omega), ?_⟩
    refine forL (fun t env S' => S' = S ++ [SO.lst [fr 0], SO.lst ((pmI a b j (pmO a b j) t).map fr)] ∧ ∃ z, env = [some (.tup (a.map fr)), some (.tup (b.map fr)), some (.ref (S.length + 1)), some (.int (j : Nat)), z]) ?_ ?_ ⟨rfl, _, rfl⟩
    · rintro I2 t env S' hI2 ht ⟨rfl, z, rfl⟩
      have ht : t < b.length := by
        have : t < ((List.range b.length).map fun k => D.int (k : Nat)).length := ht
        simpa using this
      refine ⟨.int (t : Nat), by show ((List.range b.length).map _)[t]? = _; simp [ht], ?_⟩
      have h0 : (S ++ [SO.lst [fr 0], SO.lst ((pmI a b j (pmO a b j) t).map fr)])[S.length + 1]? = some (.lst ((pmI a b j (pmO a b j) t).map fr)) := by rw [get_app]; rfl
      have hlen : (pmI a b j (pmO a b j) t).length = a.length + b.length := by rw [pmI_len, pmO_len]
      have hjt : j + t < (pmI a b j (pmO a b j) t).length := by rw [hlen]; omega
      simp only [q_ixL h0, nat_add_cast, cfg_F, cfg_G, cfg_lv, w_tryL, s_raise, p_intI, p_intB, w_var, w_glo, w_bt, w_int, w_str, w_bl, w_non, w_bin, w_neg, w_cmp, w_ite, w_tup, w_lst, w_call, w_bi, w_me, w_ix, w_sl, w_rev, w_val, w_qand, w_qor, w_qnot, w_nil, w_cons, w_no, w_ex, w_of, w_enum, w_rng1, w_rng2, w_rng3, w_lc, w_lcIf, w_lcB, w_lcBI, wipe_nil, wipe_cons, List.map_cons, List.map_nil, OkS_set, s_nil, s_cons, s_asg, s_setIx, s_aug, s_expr, s_ret, s_retN, s_ite, s_whl, s_for, s_brk, s_cnt, s_pas, s_never, p_add, p_sub, p_mul, p_fdiv, p_mod, p_pow, p_lt, p_le, p_gt, p_ge, p_neg, p_abs, p_max, p_min, p_lenT, p_tupT, p_listT, p_augA, p_augS, p_trB, p_eqI, p_neI, set_nm, set_tp, exists_eq_left', exists_eq_left, Option.some.injEq, D.int.injEq, List.getElem?_cons_zero, List.getElem?_cons_succ, List.set_cons_zero, List.set_cons_succ, List.length_cons, List.length_nil, List.zip_cons_cons, List.zip_nil_left, List.zip_nil_right, List.foldl_cons, List.foldl_nil, List.all_cons, List.all_nil, decide_eq_true_eq, Bool.and_true, Bool.and_eq_true, decide_eq_false_iff_not, Nat.zero_add, Nat.reduceAdd, Nat.reduceLT, Nat.reduceLeDiff, true_and, and_true, Ok_ok, fr_ix0, fr_ix1, decide_true, List.getElem?_nil, w_andV, w_orV, w_notV, beq_tt, beq_tf, beq_ft, beq_ff, beq_self_eq_true, ne_eq, not_true_eq_false, not_false_eq_true, Bool.not_true, Bool.not_false, Bool.not_not, Bool.false_eq_true, Bool.true_eq_false, false_implies, true_implies, implies_true, and_self, reduceCtorEq, D.bl.injEq, p_isi, p_isis, p_slK, p_slT, p_revT, src_tup, p_eqB, p_neB, kit_int_dict, kit_int_tuple, kit_int_list, kit_int_bool, kit_str_dict, kit_str_tuple, kit_str_list, kit_str_bool, kit_bool_dict, kit_bool_tuple, kit_bool_list, kit_bool_bool, kit_NoneType_dict, kit_NoneType_tuple, kit_NoneType_list, kit_NoneType_bool, kit_tuple_dict, kit_tuple_tuple, kit_tuple_list, kit_tuple_bool, kit_list_dict, kit_list_tuple, kit_list_list, kit_list_bool, any_int, any_str, any_bool, any_non, any_tuple, any_list, beq_iff_eq, beq_eq_false_iff_ne, ↓reduceIte, atI_0, ixN_0, atI_1, ixN_1, atI_2, ixN_2, atI_3, ixN_3, atI_4, ixN_4, atI_5, ixN_5, atI_6, ixN_6, atI_7, ixN_7, atI_8, ixN_8, atI_9, ixN_9, q_ixT]
      refine ⟨_, fr_at' hjt, _, fr_at' hj, _, fr_at' ht, ?_⟩
      refine f_law_mul hW k _ _ _ _ (ha.get (by decide) j) (hb.get (by decide) t) ?_
      refine f_law_add hW k _ _ _ _ ((hm j t hj (by omega)).get (by decide) _) (hmul j t) ?_
      rw [q_set h0, List.length_map]
      refine ⟨j + t, ixN_nat hjt, ?_⟩
      rw [set_app]
      refine hI2 _ _ ⟨?_, _, rfl⟩
      rw [map_set_fr, pmI_succ]
      rfl
    · rintro env S' ⟨rfl, z, rfl⟩
      refine ⟨rfl, hI _ _ ⟨?_, _, _, rfl⟩⟩
      rw [pmO_succ]
      have e : (Src.its ((List.range b.length).map fun k => D.int (k : Nat))).len = b.length := by
        show ((List.range b.length).map _).length = _
        simp
      rw [e]
  · rintro env S' ⟨rfl, x, y, rfl⟩
    refine ⟨rfl, ?_⟩
    have e : (Src.its ((List.range a.length).map fun k => D.int (k : Nat))).len = a.length := by
      show ((List.range a.length).map _).length = _
      simp
    rw [e]
    simp only [cfg_F, cfg_G, cfg_lv, w_tryL, s_raise, p_intI, p_intB, w_var, w_glo, w_bt, w_int, w_str, w_bl, w_non, w_bin, w_neg, w_cmp, w_ite, w_tup, w_lst, w_call, w_bi, w_me, w_ix, w_sl, w_rev, w_val, w_qand, w_qor, w_qnot, w_nil, w_cons, w_no, w_ex, w_of, w_enum, w_rng1, w_rng2, w_rng3, w_lc, w_lcIf, w_lcB, w_lcBI, wipe_nil, wipe_cons, List.map_cons, List.map_nil, OkS_set, s_nil, s_cons, s_asg, s_setIx, s_aug, s_expr, s_ret, s_retN, s_ite, s_whl, s_for, s_brk, s_cnt, s_pas, s_never, p_add, p_sub, p_mul, p_fdiv, p_mod, p_pow, p_lt, p_le, p_gt, p_ge, p_neg, p_abs, p_max, p_min, p_lenT, p_tupT, p_listT, p_augA, p_augS, p_trB, p_eqI, p_neI, set_nm, set_tp, exists_eq_left', exists_eq_left, Option.some.injEq, D.int.injEq, List.getElem?_cons_zero, List.getElem?_cons_succ, List.set_cons_zero, List.set_cons_succ, List.length_cons, List.length_nil, List.zip_cons_cons, List.zip_nil_left, List.zip_nil_right, List.foldl_cons, List.foldl_nil, List.all_cons, List.all_nil, decide_eq_true_eq, Bool.and_true, Bool.and_eq_true, decide_eq_false_iff_not, Nat.zero_add, Nat.reduceAdd, Nat.reduceLT, Nat.reduceLeDiff, true_and, and_true, Ok_ok, fr_ix0, fr_ix1, decide_true, List.getElem?_nil, w_andV, w_orV, w_notV, beq_tt, beq_tf, beq_ft, beq_ff, beq_self_eq_true, ne_eq, not_true_eq_false, not_false_eq_true, Bool.not_true, Bool.not_false, Bool.not_not, Bool.false_eq_true, Bool.true_eq_false, false_implies, true_implies, implies_true, and_self, reduceCtorEq, D.bl.injEq, p_isi, p_isis, p_slK, p_slT, p_revT, src_tup, p_eqB, p_neB, kit_int_dict, kit_int_tuple, kit_int_list, kit_int_bool, kit_str_dict, kit_str_tuple, kit_str_list, kit_str_bool, kit_bool_dict, kit_bool_tuple, kit_bool_list, kit_bool_bool, kit_NoneType_dict, kit_NoneType_tuple, kit_NoneType_list, kit_NoneType_bool, kit_tuple_dict, kit_tuple_tuple, kit_tuple_list, kit_tuple_bool, kit_list_dict, kit_list_tuple, kit_list_list, kit_list_bool, any_int, any_str, any_bool, any_non, any_tuple, any_list, beq_iff_eq, beq_eq_false_iff_ne, ↓reduceIte, atI_0, ixN_0, atI_1, ixN_1, atI_2, ixN_2, atI_3, ixN_3, atI_4, ixN_4, atI_5, ixN_5, atI_6, ixN_6, atI_7, ixN_7, atI_8, ixN_8, atI_9, ixN_9, q_ixT]
    refine f_law_trim hW (k + 2) (pmO a b a.length) _ _ _ (by rw [get_app]; rfl) (by rw [pmO_len]; omega) fun J => ?_
    rw [List.append_assoc]
    exact q _
end

theorem trim_eq_self {p : List Rat} (h : p = trim p) (hne : p ≠ []) : p.getLast hne ≠ 0 := by
  refine trim_ne0 (p := p) ?_
  rw [← h, List.getLast?_eq_some_getLast hne]
theorem monic_eq {p : List Rat} (h : p = trim p) (hne : p ≠ []) : trim (p.map (· * (1 / p.getLast hne))) = p.map (· / p.getLast hne) := by
  have hl := trim_eq_self h hne
  have e : (p.map (· * (1 / p.getLast hne))) = p.map (· / p.getLast hne) := List.map_congr_left fun x _ => by grind
  rw [e]
  refine trim_last fun x hx => ?_
  rw [List.getLast?_map, List.getLast?_eq_some_getLast hne] at hx
  have := Option.some.inj hx
  rw [← this]
  grind
theorem last_at {p : List Rat} (hne : p ≠ []) : L2.atI (p.map fr) (-1) = some (fr (p.getLast hne)) := atI_last (by
  have h0 : p.length - 1 < p.length := by have := List.length_pos_iff.mpr hne; omega
  rw [List.length_map, List.getElem?_map, List.getElem?_eq_getElem h0, List.getLast_eq_getElem]; rfl)
theorem half_eq : D.tup [.int (-1), .int 2] = fr (Rat.divInt (-1) 2) := by
  unfold fr
  have h1 : (Rat.divInt (-1) 2).num = -1 := by decide +kernel
  have h2 : (Rat.divInt (-1) 2).den = 2 := by decide +kernel
  rw [h1, h2]; rfl
section
variable {W : Nat} (hW : 2 ^ 9000 ≤ W)
include hW
theorem f_law_small {X : Exn → Sto → Prop} (k n : Nat) (S : Sto) (Q : D → Sto → Prop) (hr : Rng S n) (q : ∀ x S', Bt 6 x → Rng S' n → Ext n S S' → Q (fr x) S') : OkX X (runF TB W (k + 3) "_law_small" [.ref n] S) Q := by
  refine w_run c__law_small [some (.ref n)] rfl rfl rfl ?_
  simp only [c__law_small, cfg_F, cfg_G, cfg_lv, w_tryL, s_raise, p_intI, p_intB, w_var, w_glo, w_bt, w_int, w_str, w_bl, w_non, w_bin, w_neg, w_cmp, w_ite, w_tup, w_lst, w_call, w_bi, w_me, w_ix, w_sl, w_rev, w_val, w_qand, w_qor, w_qnot, w_nil, w_cons, w_no, w_ex, w_of, w_enum, w_rng1, w_rng2, w_rng3, w_lc, w_lcIf, w_lcB, w_lcBI, wipe_nil, wipe_cons, List.map_cons, List.map_nil, OkS_set, s_nil, s_cons, s_asg, s_setIx, s_aug, s_expr, s_ret, s_retN, s_ite, s_whl, s_for, s_brk, s_cnt, s_pas, s_never, p_add, p_sub, p_mul, p_fdiv, p_mod, p_pow, p_lt, p_le, p_gt, p_ge, p_neg, p_abs, p_max, p_min, p_lenT, p_tupT, p_listT, p_augA, p_augS, p_trB, p_eqI, p_neI, set_nm, set_tp, exists_eq_left', exists_eq_left, Option.some.injEq, D.int.injEq, List.getElem?_cons_zero, List.getElem?_cons_succ, List.set_cons_zero, List.set_cons_succ, List.length_cons, List.length_nil, List.zip_cons_cons, List.zip_nil_left, List.zip_nil_right, List.foldl_cons, List.foldl_nil, List.all_cons, List.all_nil, decide_eq_true_eq, Bool.and_true, Bool.and_eq_true, decide_eq_false_iff_not, Nat.zero_add, Nat.reduceAdd, Nat.reduceLT, Nat.reduceLeDiff, true_and, and_true, Ok_ok, fr_ix0, fr_ix1, decide_true, List.getElem?_nil, w_andV, w_orV, w_notV, beq_tt, beq_tf, beq_ft, beq_ff, beq_self_eq_true, ne_eq, not_true_eq_false, not_false_eq_true, Bool.not_true, Bool.not_false, Bool.not_not, Bool.false_eq_true, Bool.true_eq_false, false_implies, true_implies, implies_true, and_self, reduceCtorEq, D.bl.injEq, p_isi, p_isis, p_slK, p_slT, p_revT, src_tup, p_eqB, p_neB, kit_int_dict, kit_int_tuple, kit_int_list, kit_int_bool, kit_str_dict, kit_str_tuple, kit_str_list, kit_str_bool, kit_bool_dict, kit_bool_tuple, kit_bool_list, kit_bool_bool, kit_NoneType_dict, kit_NoneType_tuple, kit_NoneType_list, kit_NoneType_bool, kit_tuple_dict, kit_tuple_tuple, kit_tuple_list, kit_tuple_bool, kit_list_dict, kit_list_tuple, kit_list_list, kit_list_bool, any_int, any_str, any_bool, any_non, any_tuple, any_list, beq_iff_eq, beq_eq_false_iff_ne, ↓reduceIte, atI_0, ixN_0, atI_1, ixN_1, atI_2, ixN_2, atI_3, ixN_3, atI_4, ixN_4, atI_5, ixN_5, atI_6, ixN_6, atI_7, ixN_7, atI_8, ixN_8, atI_9, ixN_9, q_ixT]
  refine f_law_draw (k + 1) n 21 S _ hr (by decide) (Bi'.small (by decide) (by decide)) fun r S1 r1 r2 hr1 ex1 _ => ?_
  simp only [cfg_F, cfg_G, cfg_lv, w_tryL, s_raise, p_intI, p_intB, w_var, w_glo, w_bt, w_int, w_str, w_bl, w_non, w_bin, w_neg, w_cmp, w_ite, w_tup, w_lst, w_call, w_bi, w_me, w_ix, w_sl, w_rev, w_val, w_qand, w_qor, w_qnot, w_nil, w_cons, w_no, w_ex, w_of, w_enum, w_rng1, w_rng2, w_rng3, w_lc, w_lcIf, w_lcB, w_lcBI, wipe_nil, wipe_cons, List.map_cons, List.map_nil, OkS_set, s_nil, s_cons, s_asg, s_setIx, s_aug, s_expr, s_ret, s_retN, s_ite, s_whl, s_for, s_brk, s_cnt, s_pas, s_never, p_add, p_sub, p_mul, p_fdiv, p_mod, p_pow, p_lt, p_le, p_gt, p_ge, p_neg, p_abs, p_max, p_min, p_lenT, p_tupT, p_listT, p_augA, p_augS, p_trB, p_eqI, p_neI, set_nm, set_tp, exists_eq_left', exists_eq_left, Option.some.injEq, D.int.injEq, List.getElem?_cons_zero, List.getElem?_cons_succ, List.set_cons_zero, List.set_cons_succ, List.length_cons, List.length_nil, List.zip_cons_cons, List.zip_nil_left, List.zip_nil_right, List.foldl_cons, List.foldl_nil, List.all_cons, List.all_nil, decide_eq_true_eq, Bool.and_true, Bool.and_eq_true, decide_eq_false_iff_not, Nat.zero_add, Nat.reduceAdd, Nat.reduceLT, Nat.reduceLeDiff, true_and, and_true, Ok_ok, fr_ix0, fr_ix1, decide_true, List.getElem?_nil, w_andV, w_orV, w_notV, beq_tt, beq_tf, beq_ft, beq_ff, beq_self_eq_true, ne_eq, not_true_eq_false, not_false_eq_true, Bool.not_true, Bool.not_false, Bool.not_not, Bool.false_eq_true, Bool.true_eq_false, false_implies, true_implies, implies_true, and_self, reduceCtorEq, D.bl.injEq, p_isi, p_isis, p_slK, p_slT, p_revT, src_tup, p_eqB, p_neB, kit_int_dict, kit_int_tuple, kit_int_list, kit_int_bool, kit_str_dict, kit_str_tuple, kit_str_list, kit_str_bool, kit_bool_dict, kit_bool_tuple, kit_bool_list, kit_bool_bool, kit_NoneType_dict, kit_NoneType_tuple, kit_NoneType_list, kit_NoneType_bool, kit_tuple_dict, kit_tuple_tuple, kit_tuple_list, kit_tuple_bool, kit_list_dict, kit_list_tuple, kit_list_list, kit_list_bool, any_int, any_str, any_bool, any_non, any_tuple, any_list, beq_iff_eq, beq_eq_false_iff_ne, ↓reduceIte, atI_0, ixN_0, atI_1, ixN_1, atI_2, ixN_2, atI_3, ixN_3, atI_4, ixN_4, atI_5, ixN_5, atI_6, ixN_6, atI_7, ixN_7, atI_8, ixN_8, atI_9, ixN_9, q_ixT]
  refine f_law_draw (k + 1) n 4 S1 _ hr1 (by decide) (Bi'.small (by decide) (by decide)) fun r' S2 r3 r4 hr2 ex2 _ => ?_
  simp only [cfg_F, cfg_G, cfg_lv, w_tryL, s_raise, p_intI, p_intB, w_var, w_glo, w_bt, w_int, w_str, w_bl, w_non, w_bin, w_neg, w_cmp, w_ite, w_tup, w_lst, w_call, w_bi, w_me, w_ix, w_sl, w_rev, w_val, w_qand, w_qor, w_qnot, w_nil, w_cons, w_no, w_ex, w_of, w_enum, w_rng1, w_rng2, w_rng3, w_lc, w_lcIf, w_lcB, w_lcBI, wipe_nil, wipe_cons, List.map_cons, List.map_nil, OkS_set, s_nil, s_cons, s_asg, s_setIx, s_aug, s_expr, s_ret, s_retN, s_ite, s_whl, s_for, s_brk, s_cnt, s_pas, s_never, p_add, p_sub, p_mul, p_fdiv, p_mod, p_pow, p_lt, p_le, p_gt, p_ge, p_neg, p_abs, p_max, p_min, p_lenT, p_tupT, p_listT, p_augA, p_augS, p_trB, p_eqI, p_neI, set_nm, set_tp, exists_eq_left', exists_eq_left, Option.some.injEq, D.int.injEq, List.getElem?_cons_zero, List.getElem?_cons_succ, List.set_cons_zero, List.set_cons_succ, List.length_cons, List.length_nil, List.zip_cons_cons, List.zip_nil_left, List.zip_nil_right, List.foldl_cons, List.foldl_nil, List.all_cons, List.all_nil, decide_eq_true_eq, Bool.and_true, Bool.and_eq_true, decide_eq_false_iff_not, Nat.zero_add, Nat.reduceAdd, Nat.reduceLT, Nat.reduceLeDiff, true_and, and_true, Ok_ok, fr_ix0, fr_ix1, decide_true, List.getElem?_nil, w_andV, w_orV, w_notV, beq_tt, beq_tf, beq_ft, beq_ff, beq_self_eq_true, ne_eq, not_true_eq_false, not_false_eq_true, Bool.not_true, Bool.not_false, Bool.not_not, Bool.false_eq_true, Bool.true_eq_false, false_implies, true_implies, implies_true, and_self, reduceCtorEq, D.bl.injEq, p_isi, p_isis, p_slK, p_slT, p_revT, src_tup, p_eqB, p_neB, kit_int_dict, kit_int_tuple, kit_int_list, kit_int_bool, kit_str_dict, kit_str_tuple, kit_str_list, kit_str_bool, kit_bool_dict, kit_bool_tuple, kit_bool_list, kit_bool_bool, kit_NoneType_dict, kit_NoneType_tuple, kit_NoneType_list, kit_NoneType_bool, kit_tuple_dict, kit_tuple_tuple, kit_tuple_list, kit_tuple_bool, kit_list_dict, kit_list_tuple, kit_list_list, kit_list_bool, any_int, any_str, any_bool, any_non, any_tuple, any_list, beq_iff_eq, beq_eq_false_iff_ne, ↓reduceIte, atI_0, ixN_0, atI_1, ixN_1, atI_2, ixN_2, atI_3, ixN_3, atI_4, ixN_4, atI_5, ixN_5, atI_6, ixN_6, atI_7, ixN_7, atI_8, ixN_8, atI_9, ixN_9, q_ixT]
  refine f_law_low hW k _ _ S2 _ (by omega) (Bi'.small (by omega) (by decide)) ?_
  exact q _ _ (Bt.div (Bi'.of (by omega)) (Bi'.of (by omega)) (by omega)) hr2 (ex1.trans ex2)
theorem f_law_poly {X : Exn → Sto → Prop} (k n : Nat) (S : Sto) (Q : D → Sto → Prop) (hr : Rng S n) (q : ∀ p S', PB 6 p → p.length ≤ 7 → p = trim p → Rng S' n → Ext n S S' → Q (po p) S') : OkX X (runF TB W (k + 4) "_law_poly" [.ref n, .int 7] S) Q := by
  refine w_run c__law_poly [some (.ref n), some (.int 7), none] rfl rfl rfl ?_
  simp only [c__law_poly, cfg_F, cfg_G, cfg_lv, w_tryL, s_raise, p_intI, p_intB, w_var, w_glo, w_bt, w_int, w_str, w_bl, w_non, w_bin, w_neg, w_cmp, w_ite, w_tup, w_lst, w_call, w_bi, w_me, w_ix, w_sl, w_rev, w_val, w_qand, w_qor, w_qnot, w_nil, w_cons, w_no, w_ex, w_of, w_enum, w_rng1, w_rng2, w_rng3, w_lc, w_lcIf, w_lcB, w_lcBI, wipe_nil, wipe_cons, List.map_cons, List.map_nil, OkS_set, s_nil, s_cons, s_asg, s_setIx, s_aug, s_expr, s_ret, s_retN, s_ite, s_whl, s_for, s_brk, s_cnt, s_pas, s_never, p_add, p_sub, p_mul, p_fdiv, p_mod, p_pow, p_lt, p_le, p_gt, p_ge, p_neg, p_abs, p_max, p_min, p_lenT, p_tupT, p_listT, p_augA, p_augS, p_trB, p_eqI, p_neI, set_nm, set_tp, exists_eq_left', exists_eq_left, Option.some.injEq, D.int.injEq, List.getElem?_cons_zero, List.getElem?_cons_succ, List.set_cons_zero, List.set_cons_succ, List.length_cons, List.length_nil, List.zip_cons_cons, List.zip_nil_left, List.zip_nil_right, List.foldl_cons, List.foldl_nil, List.all_cons, List.all_nil, decide_eq_true_eq, Bool.and_true, Bool.and_eq_true, decide_eq_false_iff_not, Nat.zero_add, Nat.reduceAdd, Nat.reduceLT, Nat.reduceLeDiff, true_and, and_true, Ok_ok, fr_ix0, fr_ix1, decide_true, List.getElem?_nil, w_andV, w_orV, w_notV, beq_tt, beq_tf, beq_ft, beq_ff, beq_self_eq_true, ne_eq, not_true_eq_false, not_false_eq_true, Bool.not_true, Bool.not_false, Bool.not_not, Bool.false_eq_true, Bool.true_eq_false, false_implies, true_implies, implies_true, and_self, reduceCtorEq, D.bl.injEq, p_isi, p_isis, p_slK, p_slT, p_revT, src_tup, p_eqB, p_neB, kit_int_dict, kit_int_tuple, kit_int_list, kit_int_bool, kit_str_dict, kit_str_tuple, kit_str_list, kit_str_bool, kit_bool_dict, kit_bool_tuple, kit_bool_list, kit_bool_bool, kit_NoneType_dict, kit_NoneType_tuple, kit_NoneType_list, kit_NoneType_bool, kit_tuple_dict, kit_tuple_tuple, kit_tuple_list, kit_tuple_bool, kit_list_dict, kit_list_tuple, kit_list_list, kit_list_bool, any_int, any_str, any_bool, any_non, any_tuple, any_list, beq_iff_eq, beq_eq_false_iff_ne, ↓reduceIte, atI_0, ixN_0, atI_1, ixN_1, atI_2, ixN_2, atI_3, ixN_3, atI_4, ixN_4, atI_5, ixN_5, atI_6, ixN_6, atI_7, ixN_7, atI_8, ixN_8, atI_9, ixN_9, q_ixT]
  refine f_law_draw (k + 2) n _ S _ hr (by decide) (Bi'.small (by decide) (by decide)) fun r S1 r1 r2 hr1 ex1 _ => ?_
  simp only [cfg_F, cfg_G, cfg_lv, w_tryL, s_raise, p_intI, p_intB, w_var, w_glo, w_bt, w_int, w_str, w_bl, w_non, w_bin, w_neg, w_cmp, w_ite, w_tup, w_lst, w_call, w_bi, w_me, w_ix, w_sl, w_rev, w_val, w_qand, w_qor, w_qnot, w_nil, w_cons, w_no, w_ex, w_of, w_enum, w_rng1, w_rng2, w_rng3, w_lc, w_lcIf, w_lcB, w_lcBI, wipe_nil, wipe_cons, List.map_cons, List.map_nil, OkS_set, s_nil, s_cons, s_asg, s_setIx, s_aug, s_expr, s_ret, s_retN, s_ite, s_whl, s_for, s_brk, s_cnt, s_pas, s_never, p_add, p_sub, p_mul, p_fdiv, p_mod, p_pow, p_lt, p_le, p_gt, p_ge, p_neg, p_abs, p_max, p_min, p_lenT, p_tupT, p_listT, p_augA, p_augS, p_trB, p_eqI, p_neI, set_nm, set_tp, exists_eq_left', exists_eq_left, Option.some.injEq, D.int.injEq, List.getElem?_cons_zero, List.getElem?_cons_succ, List.set_cons_zero, List.set_cons_succ, List.length_cons, List.length_nil, List.zip_cons_cons, List.zip_nil_left, List.zip_nil_right, List.foldl_cons, List.foldl_nil, List.all_cons, List.all_nil, decide_eq_true_eq, Bool.and_true, Bool.and_eq_true, decide_eq_false_iff_not, Nat.zero_add, Nat.reduceAdd, Nat.reduceLT, Nat.reduceLeDiff, true_and, and_true, Ok_ok, fr_ix0, fr_ix1, decide_true, List.getElem?_nil, w_andV, w_orV, w_notV, beq_tt, beq_tf, beq_ft, beq_ff, beq_self_eq_true, ne_eq, not_true_eq_false, not_false_eq_true, Bool.not_true, Bool.not_false, Bool.not_not, Bool.false_eq_true, Bool.true_eq_false, false_implies, true_implies, implies_true, and_self, reduceCtorEq, D.bl.injEq, p_isi, p_isis, p_slK, p_slT, p_revT, src_tup, p_eqB, p_neB, kit_int_dict, kit_int_tuple, kit_int_list, kit_int_bool, kit_str_dict, kit_str_tuple, kit_str_list, kit_str_bool, kit_bool_dict, kit_bool_tuple, kit_bool_list, kit_bool_bool, kit_NoneType_dict, kit_NoneType_tuple, kit_NoneType_list, kit_NoneType_bool, kit_tuple_dict, kit_tuple_tuple, kit_tuple_list, kit_tuple_bool, kit_list_dict, kit_list_tuple, kit_list_list, kit_list_bool, any_int, any_str, any_bool, any_non, any_tuple, any_list, beq_iff_eq, beq_eq_false_iff_ne, ↓reduceIte, atI_0, ixN_0, atI_1, ixN_1, atI_2, ixN_2, atI_3, ixN_3, atI_4, ixN_4, atI_5, ixN_5, atI_6, ixN_6, atI_7, ixN_7, atI_8, ixN_8, atI_9, ixN_9, q_ixT]
  obtain ⟨m, rfl⟩ := Int.eq_ofNat_of_zero_le r1
  refine ⟨_, rng0 (by omega), rlen _ _ (by omega), ?_⟩
  refine mapL (fun i ds S' => ∃ p : List Rat, ds = p.map fr ∧ p.length = i ∧ PB 6 p ∧ Rng S' n ∧ Ext n S S') ?_ ?_ ⟨[], rfl, rfl, fun x hx => (nomatch hx), hr1, ex1⟩
  · rintro I i ds S2 hI hi ⟨p, rfl, hp, pb, hr2, ex2⟩
    have hi : i < m := by
      have : i < ((List.range m).map fun k => D.int (k : Nat)).length := hi
      simpa using this
    refine ⟨.int (i : Nat), by show ((List.range m).map _)[i]? = _; simp [hi], ?_⟩
    simp only [cfg_F, cfg_G, cfg_lv, w_tryL, s_raise, p_intI, p_intB, w_var, w_glo, w_bt, w_int, w_str, w_bl, w_non, w_bin, w_neg, w_cmp, w_ite, w_tup, w_lst, w_call, w_bi, w_me, w_ix, w_sl, w_rev, w_val, w_qand, w_qor, w_qnot, w_nil, w_cons, w_no, w_ex, w_of, w_enum, w_rng1, w_rng2, w_rng3, w_lc, w_lcIf, w_lcB, w_lcBI, wipe_nil, wipe_cons, List.map_cons, List.map_nil, OkS_set, s_nil, s_cons, s_asg, s_setIx, s_aug, s_expr, s_ret, s_retN, s_ite, s_whl, s_for, s_brk, s_cnt, s_pas, s_never, p_add, p_sub, p_mul, p_fdiv, p_mod, p_pow, p_lt, p_le, p_gt, p_ge, p_neg, p_abs, p_max, p_min, p_lenT, p_tupT, p_listT, p_augA, p_augS, p_trB, p_eqI, p_neI, set_nm, set_tp, exists_eq_left', exists_eq_left, Option.some.injEq, D.int.injEq, List.getElem?_cons_zero, List.getElem?_cons_succ, List.set_cons_zero, List.set_cons_succ, List.length_cons, List.length_nil, List.zip_cons_cons, List.zip_nil_left, List.zip_nil_right, List.foldl_cons, List.foldl_nil, List.all_cons, List.all_nil, decide_eq_true_eq, Bool.and_true, Bool.and_eq_true, decide_eq_false_iff_not, Nat.zero_add, Nat.reduceAdd, Nat.reduceLT, Nat.reduceLeDiff, true_and, and_true, Ok_ok, fr_ix0, fr_ix1, decide_true, List.getElem?_nil, w_andV, w_orV, w_notV, beq_tt, beq_tf, beq_ft, beq_ff, beq_self_eq_true, ne_eq, not_true_eq_false, not_false_eq_true, Bool.not_true, Bool.not_false, Bool.not_not, Bool.false_eq_true, Bool.true_eq_false, false_implies, true_implies, implies_true, and_self, reduceCtorEq, D.bl.injEq, p_isi, p_isis, p_slK, p_slT, p_revT, src_tup, p_eqB, p_neB, kit_int_dict, kit_int_tuple, kit_int_list, kit_int_bool, kit_str_dict, kit_str_tuple, kit_str_list, kit_str_bool, kit_bool_dict, kit_bool_tuple, kit_bool_list, kit_bool_bool, kit_NoneType_dict, kit_NoneType_tuple, kit_NoneType_list, kit_NoneType_bool, kit_tuple_dict, kit_tuple_tuple, kit_tuple_list, kit_tuple_bool, kit_list_dict, kit_list_tuple, kit_list_list, kit_list_bool, any_int, any_str, any_bool, any_non, any_tuple, any_list, beq_iff_eq, beq_eq_false_iff_ne, ↓reduceIte, atI_0, ixN_0, atI_1, ixN_1, atI_2, ixN_2, atI_3, ixN_3, atI_4, ixN_4, atI_5, ixN_5, atI_6, ixN_6, atI_7, ixN_7, atI_8, ixN_8, atI_9, ixN_9, q_ixT]
    refine f_law_small hW k n S2 _ hr2 fun x S3 bx hr3 ex3 => ?_
    refine ⟨by decide, by decide, by decide, ?_⟩
    refine f_law_pick (k + 1) n _ S3.length _ _ (hr3.app _) (app_new _ _) (by have := hr3.lt; omega) (by simp) (by simp) fun d S4 hd hr4 ex4 _ => ?_
    have ex := ((ex2.trans ex3).toApp _).trans ex4
    have fin : ∀ y, Bt 6 y → I [fr y] S4 := fun y hy => hI _ _ ⟨p ++ [y], by simp, by simp [hp], fun z hz => by
      rcases List.mem_append.mp hz with h | h
      · exact pb z h
      · rw [List.mem_singleton.mp h]; exact hy, hr4, ex⟩
    simp only [List.mem_cons, List.not_mem_nil, or_false] at hd
    rcases hd with rfl | rfl | rfl
    · exact fin x bx
    · exact fin 0 (Bt.zero (by decide))
    · exact fin 1 (Bt.one (by decide))
  · rintro ds S2 ⟨p, rfl, hp, pb, hr2, ex2⟩
    refine ⟨rfl, ?_⟩
    have hp : p.length = m := by
      rw [hp]
      show ((List.range m).map fun k => D.int (k : Nat)).length = m
      simp
    refine f_law_trim hW (k + 2) p _ _ _ (app_new _ _) (by omega) fun J => ?_
    refine q _ _ pb.trim (Nat.le_trans (trim_len p) (by omega)) ?_ ((hr2.app _).app _) ((ex2.toApp _).toApp _)
    exact (trim_last fun x hx => trim_ne0 hx).symm
end

section
variable {W : Nat} (hW : 2 ^ 9000 ≤ W)
theorem cf_getD (p : List Rat) (n : Nat) : p.getD n 0 = cf p n := rfl
theorem rngD_down {m : Nat} (h : m ≤ 1000) : rngD (m : Int) (-1) (-1) = some (.its ((List.range (m + 1)).map fun k : Nat => .int ((m : Int) + (k : Nat) * (-1)))) := by
  unfold rngD
  rw [if_pos (by omega), if_neg (by decide)]
  have : ((m : Int) - -1).toNat = m + 1 := by omega
  rw [this]
theorem rngD_none {m : Int} (h : m < 0) (h2 : -1000 ≤ m) : rngD m (-1) (-1) = some (.its []) := by
  unfold rngD
  rw [if_pos (by omega), if_neg (by decide)]
  have : (m - -1).toNat = 0 := by omega
  rw [this]
  rfl
include hW
/-- division: b ends in a coefficient that is not 0; the sizes on the way are asked -/
theorem f_divided {X : Exn → Sto → Prop} (k : Nat) (a b : List Rat) (S : Sto) (Q : D → Sto → Prop) (hb : b ≠ []) (hl : cf b (b.length - 1) ≠ 0) (la : a.length ≤ 400) (lb : b.length ≤ 400) (ba : PB 2000 a) (bb : PB 2000 b)
    (bF : ∀ t, t ≤ a.length - b.length → b.length ≤ a.length → Bt 2000 (dF b (a.length - b.length - t) (dS a b (a.length - b.length) t).2))
    (bI : ∀ t i, t ≤ a.length - b.length → b.length ≤ a.length → i ≤ b.length → PB 2000 (dI b (dF b (a.length - b.length - t) (dS a b (a.length - b.length) t).2) (a.length - b.length - t) (dS a b (a.length - b.length) t).2 i))
    (q : ∀ J, Q (.tup [po (trim (pdiv a b).1), po (trim (pdiv a b).2)]) (S ++ J)) : OkX X (runF TB W (k + 4) "divided" [po a, po b] S) Q := by
  refine w_run c_divided [some (po a), some (po b), none, none, none, none, none, none] rfl rfl rfl ?_
  have hlb : 0 < b.length := List.length_pos_iff.mpr hb
  simp only [c_divided, glo_NOTHING, glo_ZERO, cfg_F, cfg_G, cfg_lv, w_tryL, s_raise, p_intI, p_intB, w_var, w_glo, w_bt, w_int, w_str, w_bl, w_non, w_bin, w_neg, w_cmp, w_ite, w_tup, w_lst, w_call, w_bi, w_me, w_ix, w_sl, w_rev, w_val, w_qand, w_qor, w_qnot, w_nil, w_cons, w_no, w_ex, w_of, w_enum, w_rng1, w_rng2, w_rng3, w_lc, w_lcIf, w_lcB, w_lcBI, wipe_nil, wipe_cons, List.map_cons, List.map_nil, OkS_set, s_nil, s_cons, s_asg, s_setIx, s_aug, s_expr, s_ret, s_retN, s_ite, s_whl, s_for, s_brk, s_cnt, s_pas, s_never, p_add, p_sub, p_mul, p_fdiv, p_mod, p_pow, p_lt, p_le, p_gt, p_ge, p_neg, p_abs, p_max, p_min, p_lenT, p_tupT, p_listT, p_augA, p_augS, p_trB, p_eqI, p_neI, set_nm, set_tp, exists_eq_left', exists_eq_left, Option.some.injEq, D.int.injEq, List.getElem?_cons_zero, List.getElem?_cons_succ, List.set_cons_zero, List.set_cons_succ, List.length_cons, List.length_nil, List.zip_cons_cons, List.zip_nil_left, List.zip_nil_right, List.foldl_cons, List.foldl_nil, List.all_cons, List.all_nil, decide_eq_true_eq, Bool.and_true, Bool.and_eq_true, decide_eq_false_iff_not, Nat.zero_add, Nat.reduceAdd, Nat.reduceLT, Nat.reduceLeDiff, true_and, and_true, Ok_ok, fr_ix0, fr_ix1, decide_true, List.getElem?_nil, w_andV, w_orV, w_notV, beq_tt, beq_tf, beq_ft, beq_ff, beq_self_eq_true, ne_eq, not_true_eq_false, not_false_eq_true, Bool.not_true, Bool.not_false, Bool.not_not, Bool.false_eq_true, Bool.true_eq_false, false_implies, true_implies, implies_true, and_self, reduceCtorEq, D.bl.injEq, p_isi, p_isis, p_slK, p_slT, p_revT, src_tup, p_eqB, p_neB, kit_int_dict, kit_int_tuple, kit_int_list, kit_int_bool, kit_str_dict, kit_str_tuple, kit_str_list, kit_str_bool, kit_bool_dict, kit_bool_tuple, kit_bool_list, kit_bool_bool, kit_NoneType_dict, kit_NoneType_tuple, kit_NoneType_list, kit_NoneType_bool, kit_tuple_dict, kit_tuple_tuple, kit_tuple_list, kit_tuple_bool, kit_list_dict, kit_list_tuple, kit_list_list, kit_list_bool, any_int, any_str, any_bool, any_non, any_tuple, any_list, beq_iff_eq, beq_eq_false_iff_ne, ↓reduceIte, atI_0, ixN_0, atI_1, ixN_1, atI_2, ixN_2, atI_3, ixN_3, atI_4, ixN_4, atI_5, ixN_5, atI_6, ixN_6, atI_7, ixN_7, atI_8, ixN_8, atI_9, ixN_9, q_ixT]
  refine p_eq (n := 2) (m := 2) (.po b) (.po []) fun c hc => ?_
  simp only [cfg_F, cfg_G, cfg_lv, w_tryL, s_raise, p_intI, p_intB, w_var, w_glo, w_bt, w_int, w_str, w_bl, w_non, w_bin, w_neg, w_cmp, w_ite, w_tup, w_lst, w_call, w_bi, w_me, w_ix, w_sl, w_rev, w_val, w_qand, w_qor, w_qnot, w_nil, w_cons, w_no, w_ex, w_of, w_enum, w_rng1, w_rng2, w_rng3, w_lc, w_lcIf, w_lcB, w_lcBI, wipe_nil, wipe_cons, List.map_cons, List.map_nil, OkS_set, s_nil, s_cons, s_asg, s_setIx, s_aug, s_expr, s_ret, s_retN, s_ite, s_whl, s_for, s_brk, s_cnt, s_pas, s_never, p_add, p_sub, p_mul, p_fdiv, p_mod, p_pow, p_lt, p_le, p_gt, p_ge, p_neg, p_abs, p_max, p_min, p_lenT, p_tupT, p_listT, p_augA, p_augS, p_trB, p_eqI, p_neI, set_nm, set_tp, exists_eq_left', exists_eq_left, Option.some.injEq, D.int.injEq, List.getElem?_cons_zero, List.getElem?_cons_succ, List.set_cons_zero, List.set_cons_succ, List.length_cons, List.length_nil, List.zip_cons_cons, List.zip_nil_left, List.zip_nil_right, List.foldl_cons, List.foldl_nil, List.all_cons, List.all_nil, decide_eq_true_eq, Bool.and_true, Bool.and_eq_true, decide_eq_false_iff_not, Nat.zero_add, Nat.reduceAdd, Nat.reduceLT, Nat.reduceLeDiff, true_and, and_true, Ok_ok, fr_ix0, fr_ix1, decide_true, List.getElem?_nil, w_andV, w_orV, w_notV, beq_tt, beq_tf, beq_ft, beq_ff, beq_self_eq_true, ne_eq, not_true_eq_false, not_false_eq_true, Bool.not_true, Bool.not_false, Bool.not_not, Bool.false_eq_true, Bool.true_eq_false, false_implies, true_implies, implies_true, and_self, reduceCtorEq, D.bl.injEq, p_isi, p_isis, p_slK, p_slT, p_revT, src_tup, p_eqB, p_neB, kit_int_dict, kit_int_tuple, kit_int_list, kit_int_bool, kit_str_dict, kit_str_tuple, kit_str_list, kit_str_bool, kit_bool_dict, kit_bool_tuple, kit_bool_list, kit_bool_bool, kit_NoneType_dict, kit_NoneType_tuple, kit_NoneType_list, kit_NoneType_bool, kit_tuple_dict, kit_tuple_tuple, kit_tuple_list, kit_tuple_bool, kit_list_dict, kit_list_tuple, kit_list_list, kit_list_bool, any_int, any_str, any_bool, any_non, any_tuple, any_list, beq_iff_eq, beq_eq_false_iff_ne, ↓reduceIte, atI_0, ixN_0, atI_1, ixN_1, atI_2, ixN_2, atI_3, ixN_3, atI_4, ixN_4, atI_5, ixN_5, atI_6, ixN_6, atI_7, ixN_7, atI_8, ixN_8, atI_9, ixN_9, q_ixT]
  refine ⟨fun h => (hb (po_inj (hc.mp h))).elim, fun _ => ?_⟩
  simp only [po, List.length_map, cfg_F, cfg_G, cfg_lv, w_tryL, s_raise, p_intI, p_intB, w_var, w_glo, w_bt, w_int, w_str, w_bl, w_non, w_bin, w_neg, w_cmp, w_ite, w_tup, w_lst, w_call, w_bi, w_me, w_ix, w_sl, w_rev, w_val, w_qand, w_qor, w_qnot, w_nil, w_cons, w_no, w_ex, w_of, w_enum, w_rng1, w_rng2, w_rng3, w_lc, w_lcIf, w_lcB, w_lcBI, wipe_nil, wipe_cons, List.map_cons, List.map_nil, OkS_set, s_nil, s_cons, s_asg, s_setIx, s_aug, s_expr, s_ret, s_retN, s_ite, s_whl, s_for, s_brk, s_cnt, s_pas, s_never, p_add, p_sub, p_mul, p_fdiv, p_mod, p_pow, p_lt, p_le, p_gt, p_ge, p_neg, p_abs, p_max, p_min, p_lenT, p_tupT, p_listT, p_augA, p_augS, p_trB, p_eqI, p_neI, set_nm, set_tp, exists_eq_left', exists_eq_left, Option.some.injEq, D.int.injEq, List.getElem?_cons_zero, List.getElem?_cons_succ, List.set_cons_zero, List.set_cons_succ, List.length_cons, List.length_nil, List.zip_cons_cons, List.zip_nil_left, List.zip_nil_right, List.foldl_cons, List.foldl_nil, List.all_cons, List.all_nil, decide_eq_true_eq, Bool.and_true, Bool.and_eq_true, decide_eq_false_iff_not, Nat.zero_add, Nat.reduceAdd, Nat.reduceLT, Nat.reduceLeDiff, true_and, and_true, Ok_ok, fr_ix0, fr_ix1, decide_true, List.getElem?_nil, w_andV, w_orV, w_notV, beq_tt, beq_tf, beq_ft, beq_ff, beq_self_eq_true, ne_eq, not_true_eq_false, not_false_eq_true, Bool.not_true, Bool.not_false, Bool.not_not, Bool.false_eq_true, Bool.true_eq_false, false_implies, true_implies, implies_true, and_self, reduceCtorEq, D.bl.injEq, p_isi, p_isis, p_slK, p_slT, p_revT, src_tup, p_eqB, p_neB, kit_int_dict, kit_int_tuple, kit_int_list, kit_int_bool, kit_str_dict, kit_str_tuple, kit_str_list, kit_str_bool, kit_bool_dict, kit_bool_tuple, kit_bool_list, kit_bool_bool, kit_NoneType_dict, kit_NoneType_tuple, kit_NoneType_list, kit_NoneType_bool, kit_tuple_dict, kit_tuple_tuple, kit_tuple_list, kit_tuple_bool, kit_list_dict, kit_list_tuple, kit_list_list, kit_list_bool, any_int, any_str, any_bool, any_non, any_tuple, any_list, beq_iff_eq, beq_eq_false_iff_ne, ↓reduceIte, atI_0, ixN_0, atI_1, ixN_1, atI_2, ixN_2, atI_3, ixN_3, atI_4, ixN_4, atI_5, ixN_5, atI_6, ixN_6, atI_7, ixN_7, atI_8, ixN_8, atI_9, ixN_9, q_ixT]
  have eS1 : ((S ++ [SO.lst (a.map fr)]) ++ [SO.lst [fr 0]]).length = S.length + 2 := by simp
  have e0 : ((S ++ [SO.lst (a.map fr)]) ++ [SO.lst [fr 0]])[(S ++ [SO.lst (a.map fr)]).length]? = some (.lst [fr 0]) := app_new _ _
  refine ⟨by decide, (p_lrep e0).mpr ⟨?_, ?_⟩⟩
  · split
    · exact ⟨by omega, by omega, by show 1 * _ ≤ 100000; omega⟩
    · exact ⟨by omega, by omega, by show 1 * _ ≤ 100000; simp⟩
  rw [eS1, rep_zero, List.append_assoc, List.append_assoc]
  refine ⟨by decide, ?_⟩
  have fin : ∀ (r q : List Rat) (J : Sto), r.length ≤ 1000 → q.length ≤ 1000 → po (trim q) = po (trim (pdiv a b).1) → po (trim r) = po (trim (pdiv a b).2) → J[0]? = some (.lst (r.map fr)) → J[2]? = some (.lst (q.map fr)) →
      OkX X (runF TB W (k + 3) "trimmed" [.ref (S.length + 2)] (S ++ J)) fun x S' => OkX X (runF TB W (k + 3) "trimmed" [.ref S.length] S') fun x_7 S' => 2 ≤ LEN ∧ Q (.tup [x, x_7]) S' := by
    intro r q' J h1 h2 h3 h4 h5 h6
    refine f_trimmed hW (k + 2) q' _ _ _ (by rw [get_app]; exact h6) h2 fun J1 => ?_
    refine f_trimmed hW (k + 2) r _ _ _ (app_at _ (by rw [get_app0]; exact h5)) h1 fun J2 => ?_
    refine ⟨by decide, ?_⟩
    rw [h3, h4, List.append_assoc, List.append_assoc]
    exact q _
  by_cases hlt : a.length < b.length
  · rw [if_neg (by omega)]
    refine ⟨_, rngD_none (by omega) (by omega), by decide, ?_⟩
    refine (OkS_nx _ _ _).mpr ?_
    simp only [cfg_F, cfg_G, cfg_lv, w_tryL, s_raise, p_intI, p_intB, w_var, w_glo, w_bt, w_int, w_str, w_bl, w_non, w_bin, w_neg, w_cmp, w_ite, w_tup, w_lst, w_call, w_bi, w_me, w_ix, w_sl, w_rev, w_val, w_qand, w_qor, w_qnot, w_nil, w_cons, w_no, w_ex, w_of, w_enum, w_rng1, w_rng2, w_rng3, w_lc, w_lcIf, w_lcB, w_lcBI, wipe_nil, wipe_cons, List.map_cons, List.map_nil, OkS_set, s_nil, s_cons, s_asg, s_setIx, s_aug, s_expr, s_ret, s_retN, s_ite, s_whl, s_for, s_brk, s_cnt, s_pas, s_never, p_add, p_sub, p_mul, p_fdiv, p_mod, p_pow, p_lt, p_le, p_gt, p_ge, p_neg, p_abs, p_max, p_min, p_lenT, p_tupT, p_listT, p_augA, p_augS, p_trB, p_eqI, p_neI, set_nm, set_tp, exists_eq_left', exists_eq_left, Option.some.injEq, D.int.injEq, List.getElem?_cons_zero, List.getElem?_cons_succ, List.set_cons_zero, List.set_cons_succ, List.length_cons, List.length_nil, List.zip_cons_cons, List.zip_nil_left, List.zip_nil_right, List.foldl_cons, List.foldl_nil, List.all_cons, List.all_nil, decide_eq_true_eq, Bool.and_true, Bool.and_eq_true, decide_eq_false_iff_not, Nat.zero_add, Nat.reduceAdd, Nat.reduceLT, Nat.reduceLeDiff, true_and, and_true, Ok_ok, fr_ix0, fr_ix1, decide_true, List.getElem?_nil, w_andV, w_orV, w_notV, beq_tt, beq_tf, beq_ft, beq_ff, beq_self_eq_true, ne_eq, not_true_eq_false, not_false_eq_true, Bool.not_true, Bool.not_false, Bool.not_not, Bool.false_eq_true, Bool.true_eq_false, false_implies, true_implies, implies_true, and_self, reduceCtorEq, D.bl.injEq, p_isi, p_isis, p_slK, p_slT, p_revT, src_tup, p_eqB, p_neB, kit_int_dict, kit_int_tuple, kit_int_list, kit_int_bool, kit_str_dict, kit_str_tuple, kit_str_list, kit_str_bool, kit_bool_dict, kit_bool_tuple, kit_bool_list, kit_bool_bool, kit_NoneType_dict, kit_NoneType_tuple, kit_NoneType_list, kit_NoneType_bool, kit_tuple_dict, kit_tuple_tuple, kit_tuple_list, kit_tuple_bool, kit_list_dict, kit_list_tuple, kit_list_list, kit_list_bool, any_int, any_str, any_bool, any_non, any_tuple, any_list, beq_iff_eq, beq_eq_false_iff_ne, ↓reduceIte, atI_0, ixN_0, atI_1, ixN_1, atI_2, ixN_2, atI_3, ixN_3, atI_4, ixN_4, atI_5, ixN_5, atI_6, ixN_6, atI_7, ixN_7, atI_8, ixN_8, atI_9, ixN_9, q_ixT]
    refine fin a (List.replicate (Int.toNat 0) 0) [SO.lst (a.map fr), SO.lst [fr 0], SO.lst ((List.replicate (Int.toNat 0) (0 : Rat)).map fr)] (by omega) (by decide) ?_ ?_ rfl rfl
    · unfold pdiv; rw [if_pos hlt]; rfl
    · unfold pdiv; rw [if_pos hlt]
  · obtain ⟨m, hm⟩ : ∃ m, a.length = m + b.length := ⟨a.length - b.length, by omega⟩
    have em : a.length - b.length = m := by omega
    rw [em] at bF bI
    rw [if_pos (by omega)]
    have e1 : ((a.length : Int) - b.length + 1).toNat = m + 1 := by omega
    have e2 : (a.length : Int) - b.length = (m : Nat) := by omega
    rw [e1, e2]
    refine ⟨_, rngD_down (by omega), by show (List.map _ _).length < 100000; simp; omega, ?_⟩
    refine forL (fun t env S' => S' = S ++ [SO.lst ((dS a b m t).2.map fr), SO.lst [fr 0], SO.lst ((dS a b m t).1.map fr)] ∧ ∃ x2 x5 x6 x7, env = [some (.tup (a.map fr)), some (.tup (b.map fr)), x2, some (.ref S.length), some (.ref (S.length + 2)), x5, x6, x7]) ?_ ?_ ⟨rfl, _, _, _, _, rfl⟩
    · rintro I t env S' hI ht ⟨rfl, x2, x5, x6, x7, rfl⟩
      have ht : t < m + 1 := by
        have : t < ((List.range (m + 1)).map fun k : Nat => D.int ((m : Int) + (k : Nat) * (-1))).length := ht
        simpa using this
      refine ⟨.int ((m - t : Nat) : Int), ?_, ?_⟩
      · show ((List.range (m + 1)).map _)[t]? = _
        rw [List.getElem?_map, List.getElem?_range ht]
        show some (D.int ((m : Int) + (t : Nat) * (-1))) = _
        congr 2; omega
      obtain ⟨l1, l2⟩ := dS_len a b m t
      have hF := bF t (by omega) (by omega)
      have hI2 := fun i hi => bI t i (by omega) (by omega) hi
      have bR := hI2 0 (Nat.zero_le _)
      have eF : dF b (m - t) (dS a b m t).2 = cf (dS a b m t).2 (m - t + b.length - 1) / cf b (b.length - 1) := rfl
      have eN : dS a b m (t + 1) = ((dS a b m t).1.set (m - t) (dF b (m - t) (dS a b m t).2), dI b (dF b (m - t) (dS a b m t).2) (m - t) (dS a b m t).2 b.length) := rfl
      have bR : PB 2000 (dS a b m t).2 := bR
      rw [eN] at hI
      generalize dF b (m - t) (dS a b m t).2 = f at *
      generalize (dS a b m t).1 = qt at *
      generalize (dS a b m t).2 = rt at *
      have h0 : (S ++ [SO.lst (rt.map fr), SO.lst [fr 0], SO.lst (qt.map fr)])[S.length]? = some (.lst (rt.map fr)) := by rw [get_app0]; rfl
      have h2 : (S ++ [SO.lst (rt.map fr), SO.lst [fr 0], SO.lst (qt.map fr)])[S.length + 2]? = some (.lst (qt.map fr)) := by rw [get_app]; rfl
      have ei : ((m - t : Nat) : Int) + (b.length : Nat) - 1 = ((m - t + b.length - 1 : Nat) : Int) := by omega
      simp only [List.length_map, q_ixL h0, ei, cfg_F, cfg_G, cfg_lv, w_tryL, s_raise, p_intI, p_intB, w_var, w_glo, w_bt, w_int, w_str, w_bl, w_non, w_bin, w_neg, w_cmp, w_ite, w_tup, w_lst, w_call, w_bi, w_me, w_ix, w_sl, w_rev, w_val, w_qand, w_qor, w_qnot, w_nil, w_cons, w_no, w_ex, w_of, w_enum, w_rng1, w_rng2, w_rng3, w_lc, w_lcIf, w_lcB, w_lcBI, wipe_nil, wipe_cons, List.map_cons, List.map_nil, OkS_set, s_nil, s_cons, s_asg, s_setIx, s_aug, s_expr, s_ret, s_retN, s_ite, s_whl, s_for, s_brk, s_cnt, s_pas, s_never, p_add, p_sub, p_mul, p_fdiv, p_mod, p_pow, p_lt, p_le, p_gt, p_ge, p_neg, p_abs, p_max, p_min, p_lenT, p_tupT, p_listT, p_augA, p_augS, p_trB, p_eqI, p_neI, set_nm, set_tp, exists_eq_left', exists_eq_left, Option.some.injEq, D.int.injEq, List.getElem?_cons_zero, List.getElem?_cons_succ, List.set_cons_zero, List.set_cons_succ, List.length_cons, List.length_nil, List.zip_cons_cons, List.zip_nil_left, List.zip_nil_right, List.foldl_cons, List.foldl_nil, List.all_cons, List.all_nil, decide_eq_true_eq, Bool.and_true, Bool.and_eq_true, decide_eq_false_iff_not, Nat.zero_add, Nat.reduceAdd, Nat.reduceLT, Nat.reduceLeDiff, true_and, and_true, Ok_ok, fr_ix0, fr_ix1, decide_true, List.getElem?_nil, w_andV, w_orV, w_notV, beq_tt, beq_tf, beq_ft, beq_ff, beq_self_eq_true, ne_eq, not_true_eq_false, not_false_eq_true, Bool.not_true, Bool.not_false, Bool.not_not, Bool.false_eq_true, Bool.true_eq_false, false_implies, true_implies, implies_true, and_self, reduceCtorEq, D.bl.injEq, p_isi, p_isis, p_slK, p_slT, p_revT, src_tup, p_eqB, p_neB, kit_int_dict, kit_int_tuple, kit_int_list, kit_int_bool, kit_str_dict, kit_str_tuple, kit_str_list, kit_str_bool, kit_bool_dict, kit_bool_tuple, kit_bool_list, kit_bool_bool, kit_NoneType_dict, kit_NoneType_tuple, kit_NoneType_list, kit_NoneType_bool, kit_tuple_dict, kit_tuple_tuple, kit_tuple_list, kit_tuple_bool, kit_list_dict, kit_list_tuple, kit_list_list, kit_list_bool, any_int, any_str, any_bool, any_non, any_tuple, any_list, beq_iff_eq, beq_eq_false_iff_ne, ↓reduceIte, atI_0, ixN_0, atI_1, ixN_1, atI_2, ixN_2, atI_3, ixN_3, atI_4, ixN_4, atI_5, ixN_5, atI_6, ixN_6, atI_7, ixN_7, atI_8, ixN_8, atI_9, ixN_9, q_ixT]
      refine ⟨_, fr_at' (by rw [l2]; omega), fr (cf b (b.length - 1)), ?_, ?_⟩
      · rw [last_at hb, List.getLast_eq_getElem, cf_lt (by omega)]
      refine f_divide hW k (rt.getD (m - t + b.length - 1) 0) (cf b (b.length - 1)) _ _ ((bR.get (by decide) _).mono (by decide)) ((bb.get (by decide) _).mono (by decide)) hl ?_
      rw [cf_getD, ← eF, q_set h2, List.length_map]
      refine ⟨m - t, ixN_nat (by rw [l1]; omega), ?_⟩
      rw [set_app, map_set_fr, enum_tup]
      refine ⟨by show (List.map _ _).length < 100000; simp; omega, ?_⟩
      show OkS (forO _ _ _ 0 _ (S ++ [SO.lst (rt.map fr), SO.lst [fr 0], SO.lst ((qt.set (m - t) f).map fr)])) _
      refine forL (fun i env S' => S' = S ++ [SO.lst ((dI b f (m - t) rt i).map fr), SO.lst [fr 0], SO.lst ((qt.set (m - t) f).map fr)] ∧ ∃ x6 x7, env = [some (.tup (a.map fr)), some (.tup (b.map fr)), some (.int ((m - t : Nat) : Int)), some (.ref S.length), some (.ref (S.length + 2)), some (fr f), x6, x7]) ?_ ?_ ⟨rfl, _, _, rfl⟩
      · rintro I2 i env S' hI3 hi ⟨rfl, y6, y7, rfl⟩
        have hi : i < b.length := by
          have : i < ((List.range (b.map fr).length).map fun k => D.tup [.int (k : Nat), (b.map fr).getD k .non]).length := hi
          simpa using this
        refine ⟨.tup [.int (i : Nat), fr (b.getD i 0)], ?_, ?_⟩
        · show ((List.range (b.map fr).length).map _)[i]? = _
          rw [List.getElem?_map, List.getElem?_range (by simpa using hi)]
          show some (D.tup [.int (i : Nat), (b.map fr).getD i .non]) = _
          rw [getD_fr hi]
        have h3 : (S ++ [SO.lst ((dI b f (m - t) rt i).map fr), SO.lst [fr 0], SO.lst ((qt.set (m - t) f).map fr)])[S.length]? = some (.lst ((dI b f (m - t) rt i).map fr)) := by rw [get_app0]; rfl
        have hlen : m - t + i < (dI b f (m - t) rt i).length := by rw [dI_len, l2]; omega
        simp only [q_ixL h3, nat_add_cast, cfg_F, cfg_G, cfg_lv, w_tryL, s_raise, p_intI, p_intB, w_var, w_glo, w_bt, w_int, w_str, w_bl, w_non, w_bin, w_neg, w_cmp, w_ite, w_tup, w_lst, w_call, w_bi, w_me, w_ix, w_sl, w_rev, w_val, w_qand, w_qor, w_qnot, w_nil, w_cons, w_no, w_ex, w_of, w_enum, w_rng1, w_rng2, w_rng3, w_lc, w_lcIf, w_lcB, w_lcBI, wipe_nil, wipe_cons, List.map_cons, List.map_nil, OkS_set, s_nil, s_cons, s_asg, s_setIx, s_aug, s_expr, s_ret, s_retN, s_ite, s_whl, s_for, s_brk, s_cnt, s_pas, s_never, p_add, p_sub, p_mul, p_fdiv, p_mod, p_pow, p_lt, p_le, p_gt, p_ge, p_neg, p_abs, p_max, p_min, p_lenT, p_tupT, p_listT, p_augA, p_augS, p_trB, p_eqI, p_neI, set_nm, set_tp, exists_eq_left', exists_eq_left, Option.some.injEq, D.int.injEq, List.getElem?_cons_zero, List.getElem?_cons_succ, List.set_cons_zero, List.set_cons_succ, List.length_cons, List.length_nil, List.zip_cons_cons, List.zip_nil_left, List.zip_nil_right, List.foldl_cons, List.foldl_nil, List.all_cons, List.all_nil, decide_eq_true_eq, Bool.and_true, Bool.and_eq_true, decide_eq_false_iff_not, Nat.zero_add, Nat.reduceAdd, Nat.reduceLT, Nat.reduceLeDiff, true_and, and_true, Ok_ok, fr_ix0, fr_ix1, decide_true, List.getElem?_nil, w_andV, w_orV, w_notV, beq_tt, beq_tf, beq_ft, beq_ff, beq_self_eq_true, ne_eq, not_true_eq_false, not_false_eq_true, Bool.not_true, Bool.not_false, Bool.not_not, Bool.false_eq_true, Bool.true_eq_false, false_implies, true_implies, implies_true, and_self, reduceCtorEq, D.bl.injEq, p_isi, p_isis, p_slK, p_slT, p_revT, src_tup, p_eqB, p_neB, kit_int_dict, kit_int_tuple, kit_int_list, kit_int_bool, kit_str_dict, kit_str_tuple, kit_str_list, kit_str_bool, kit_bool_dict, kit_bool_tuple, kit_bool_list, kit_bool_bool, kit_NoneType_dict, kit_NoneType_tuple, kit_NoneType_list, kit_NoneType_bool, kit_tuple_dict, kit_tuple_tuple, kit_tuple_list, kit_tuple_bool, kit_list_dict, kit_list_tuple, kit_list_list, kit_list_bool, any_int, any_str, any_bool, any_non, any_tuple, any_list, beq_iff_eq, beq_eq_false_iff_ne, ↓reduceIte, atI_0, ixN_0, atI_1, ixN_1, atI_2, ixN_2, atI_3, ixN_3, atI_4, ixN_4, atI_5, ixN_5, atI_6, ixN_6, atI_7, ixN_7, atI_8, ixN_8, atI_9, ixN_9, q_ixT]
        refine ⟨_, fr_at' hlen, ?_⟩
        refine f_multiply hW k _ _ _ _ (hF.mono (by decide)) ((bb.get (by decide) i).mono (by decide)) ?_
        refine f_subtract hW k _ _ _ _ (((hI2 i (by omega)).get (by decide) _).mono (by decide)) ((hF.mul (bb.get (by decide) i)).mono (by decide)) ?_
        rw [q_set h3, List.length_map]
        refine ⟨m - t + i, ixN_nat hlen, ?_⟩
        rw [set_app0]
        refine hI3 _ _ ⟨?_, _, _, rfl⟩
        rw [map_set_fr, dI_succ]
        rfl
      · rintro env S' ⟨rfl, y6, y7, rfl⟩
        refine ⟨rfl, hI _ _ ⟨?_, _, _, _, _, rfl⟩⟩
        have e : (Src.its ((List.range (b.map fr).length).map fun k => D.tup [.int (k : Nat), (b.map fr).getD k .non])).len = b.length := by
          show ((List.range (b.map fr).length).map _).length = _
          simp
        rw [e]
    · rintro env S' ⟨rfl, x2, x5, x6, x7, rfl⟩
      refine ⟨rfl, ?_⟩
      have e : (Src.its ((List.range (m + 1)).map fun k : Nat => D.int ((m : Int) + (k : Nat) * (-1)))).len = m + 1 := by
        show ((List.range (m + 1)).map _).length = _
        simp
      rw [e]
      obtain ⟨l1, l2⟩ := dS_len a b m (m + 1)
      simp only [cfg_F, cfg_G, cfg_lv, w_tryL, s_raise, p_intI, p_intB, w_var, w_glo, w_bt, w_int, w_str, w_bl, w_non, w_bin, w_neg, w_cmp, w_ite, w_tup, w_lst, w_call, w_bi, w_me, w_ix, w_sl, w_rev, w_val, w_qand, w_qor, w_qnot, w_nil, w_cons, w_no, w_ex, w_of, w_enum, w_rng1, w_rng2, w_rng3, w_lc, w_lcIf, w_lcB, w_lcBI, wipe_nil, wipe_cons, List.map_cons, List.map_nil, OkS_set, s_nil, s_cons, s_asg, s_setIx, s_aug, s_expr, s_ret, s_retN, s_ite, s_whl, s_for, s_brk, s_cnt, s_pas, s_never, p_add, p_sub, p_mul, p_fdiv, p_mod, p_pow, p_lt, p_le, p_gt, p_ge, p_neg, p_abs, p_max, p_min, p_lenT, p_tupT, p_listT, p_augA, p_augS, p_trB, p_eqI, p_neI, set_nm, set_tp, exists_eq_left', exists_eq_left, Option.some.injEq, D.int.injEq, List.getElem?_cons_zero, List.getElem?_cons_succ, List.set_cons_zero, List.set_cons_succ, List.length_cons, List.length_nil, List.zip_cons_cons, List.zip_nil_left, List.zip_nil_right, List.foldl_cons, List.foldl_nil, List.all_cons, List.all_nil, decide_eq_true_eq, Bool.and_true, Bool.and_eq_true, decide_eq_false_iff_not, Nat.zero_add, Nat.reduceAdd, Nat.reduceLT, Nat.reduceLeDiff, true_and, and_true, Ok_ok, fr_ix0, fr_ix1, decide_true, List.getElem?_nil, w_andV, w_orV, w_notV, beq_tt, beq_tf, beq_ft, beq_ff, beq_self_eq_true, ne_eq, not_true_eq_false, not_false_eq_true, Bool.not_true, Bool.not_false, Bool.not_not, Bool.false_eq_true, Bool.true_eq_false, false_implies, true_implies, implies_true, and_self, reduceCtorEq, D.bl.injEq, p_isi, p_isis, p_slK, p_slT, p_revT, src_tup, p_eqB, p_neB, kit_int_dict, kit_int_tuple, kit_int_list, kit_int_bool, kit_str_dict, kit_str_tuple, kit_str_list, kit_str_bool, kit_bool_dict, kit_bool_tuple, kit_bool_list, kit_bool_bool, kit_NoneType_dict, kit_NoneType_tuple, kit_NoneType_list, kit_NoneType_bool, kit_tuple_dict, kit_tuple_tuple, kit_tuple_list, kit_tuple_bool, kit_list_dict, kit_list_tuple, kit_list_list, kit_list_bool, any_int, any_str, any_bool, any_non, any_tuple, any_list, beq_iff_eq, beq_eq_false_iff_ne, ↓reduceIte, atI_0, ixN_0, atI_1, ixN_1, atI_2, ixN_2, atI_3, ixN_3, atI_4, ixN_4, atI_5, ixN_5, atI_6, ixN_6, atI_7, ixN_7, atI_8, ixN_8, atI_9, ixN_9, q_ixT]
      refine fin _ _ _ (by rw [l2]; omega) (by rw [l1]; omega) ?_ ?_ rfl rfl
      · unfold pdiv; rw [if_neg hlt, em]
      · unfold pdiv; rw [if_neg hlt, em]
omit hW in
theorem f_dividedZ {X : Exn → Sto → Prop} (k : Nat) (a : List Rat) (S : Sto) (Q : D → Sto → Prop) (q : X (dbz (po a)) S) : OkX X (runF TB W (k + 4) "divided" [po a, po []] S) Q := by
  refine w_run c_divided [some (po a), some (po []), none, none, none, none, none, none] rfl rfl rfl ?_
  simp only [c_divided, glo_NOTHING, glo_ZERO, cfg_F, cfg_G, cfg_lv, w_tryL, s_raise, p_intI, p_intB, w_var, w_glo, w_bt, w_int, w_str, w_bl, w_non, w_bin, w_neg, w_cmp, w_ite, w_tup, w_lst, w_call, w_bi, w_me, w_ix, w_sl, w_rev, w_val, w_qand, w_qor, w_qnot, w_nil, w_cons, w_no, w_ex, w_of, w_enum, w_rng1, w_rng2, w_rng3, w_lc, w_lcIf, w_lcB, w_lcBI, wipe_nil, wipe_cons, List.map_cons, List.map_nil, OkS_set, s_nil, s_cons, s_asg, s_setIx, s_aug, s_expr, s_ret, s_retN, s_ite, s_whl, s_for, s_brk, s_cnt, s_pas, s_never, p_add, p_sub, p_mul, p_fdiv, p_mod, p_pow, p_lt, p_le, p_gt, p_ge, p_neg, p_abs, p_max, p_min, p_lenT, p_tupT, p_listT, p_augA, p_augS, p_trB, p_eqI, p_neI, set_nm, set_tp, exists_eq_left', exists_eq_left, Option.some.injEq, D.int.injEq, List.getElem?_cons_zero, List.getElem?_cons_succ, List.set_cons_zero, List.set_cons_succ, List.length_cons, List.length_nil, List.zip_cons_cons, List.zip_nil_left, List.zip_nil_right, List.foldl_cons, List.foldl_nil, List.all_cons, List.all_nil, decide_eq_true_eq, Bool.and_true, Bool.and_eq_true, decide_eq_false_iff_not, Nat.zero_add, Nat.reduceAdd, Nat.reduceLT, Nat.reduceLeDiff, true_and, and_true, Ok_ok, fr_ix0, fr_ix1, decide_true, List.getElem?_nil, w_andV, w_orV, w_notV, beq_tt, beq_tf, beq_ft, beq_ff, beq_self_eq_true, ne_eq, not_true_eq_false, not_false_eq_true, Bool.not_true, Bool.not_false, Bool.not_not, Bool.false_eq_true, Bool.true_eq_false, false_implies, true_implies, implies_true, and_self, reduceCtorEq, D.bl.injEq, p_isi, p_isis, p_slK, p_slT, p_revT, src_tup, p_eqB, p_neB, kit_int_dict, kit_int_tuple, kit_int_list, kit_int_bool, kit_str_dict, kit_str_tuple, kit_str_list, kit_str_bool, kit_bool_dict, kit_bool_tuple, kit_bool_list, kit_bool_bool, kit_NoneType_dict, kit_NoneType_tuple, kit_NoneType_list, kit_NoneType_bool, kit_tuple_dict, kit_tuple_tuple, kit_tuple_list, kit_tuple_bool, kit_list_dict, kit_list_tuple, kit_list_list, kit_list_bool, any_int, any_str, any_bool, any_non, any_tuple, any_list, beq_iff_eq, beq_eq_false_iff_ne, ↓reduceIte, atI_0, ixN_0, atI_1, ixN_1, atI_2, ixN_2, atI_3, ixN_3, atI_4, ixN_4, atI_5, ixN_5, atI_6, ixN_6, atI_7, ixN_7, atI_8, ixN_8, atI_9, ixN_9, q_ixT]
  refine p_eq (n := 2) (m := 2) (.po []) (.po []) fun c hc => ?_
  rw [hc.mpr rfl]
  simp only [cfg_F, cfg_G, cfg_lv, w_tryL, s_raise, p_intI, p_intB, w_var, w_glo, w_bt, w_int, w_str, w_bl, w_non, w_bin, w_neg, w_cmp, w_ite, w_tup, w_lst, w_call, w_bi, w_me, w_ix, w_sl, w_rev, w_val, w_qand, w_qor, w_qnot, w_nil, w_cons, w_no, w_ex, w_of, w_enum, w_rng1, w_rng2, w_rng3, w_lc, w_lcIf, w_lcB, w_lcBI, wipe_nil, wipe_cons, List.map_cons, List.map_nil, OkS_set, s_nil, s_cons, s_asg, s_setIx, s_aug, s_expr, s_ret, s_retN, s_ite, s_whl, s_for, s_brk, s_cnt, s_pas, s_never, p_add, p_sub, p_mul, p_fdiv, p_mod, p_pow, p_lt, p_le, p_gt, p_ge, p_neg, p_abs, p_max, p_min, p_lenT, p_tupT, p_listT, p_augA, p_augS, p_trB, p_eqI, p_neI, set_nm, set_tp, exists_eq_left', exists_eq_left, Option.some.injEq, D.int.injEq, List.getElem?_cons_zero, List.getElem?_cons_succ, List.set_cons_zero, List.set_cons_succ, List.length_cons, List.length_nil, List.zip_cons_cons, List.zip_nil_left, List.zip_nil_right, List.foldl_cons, List.foldl_nil, List.all_cons, List.all_nil, decide_eq_true_eq, Bool.and_true, Bool.and_eq_true, decide_eq_false_iff_not, Nat.zero_add, Nat.reduceAdd, Nat.reduceLT, Nat.reduceLeDiff, true_and, and_true, Ok_ok, fr_ix0, fr_ix1, decide_true, List.getElem?_nil, w_andV, w_orV, w_notV, beq_tt, beq_tf, beq_ft, beq_ff, beq_self_eq_true, ne_eq, not_true_eq_false, not_false_eq_true, Bool.not_true, Bool.not_false, Bool.not_not, Bool.false_eq_true, Bool.true_eq_false, false_implies, true_implies, implies_true, and_self, reduceCtorEq, D.bl.injEq, p_isi, p_isis, p_slK, p_slT, p_revT, src_tup, p_eqB, p_neB, kit_int_dict, kit_int_tuple, kit_int_list, kit_int_bool, kit_str_dict, kit_str_tuple, kit_str_list, kit_str_bool, kit_bool_dict, kit_bool_tuple, kit_bool_list, kit_bool_bool, kit_NoneType_dict, kit_NoneType_tuple, kit_NoneType_list, kit_NoneType_bool, kit_tuple_dict, kit_tuple_tuple, kit_tuple_list, kit_tuple_bool, kit_list_dict, kit_list_tuple, kit_list_list, kit_list_bool, any_int, any_str, any_bool, any_non, any_tuple, any_list, beq_iff_eq, beq_eq_false_iff_ne, ↓reduceIte, atI_0, ixN_0, atI_1, ixN_1, atI_2, ixN_2, atI_3, ixN_3, atI_4, ixN_4, atI_5, ixN_5, atI_6, ixN_6, atI_7, ixN_7, atI_8, ixN_8, atI_9, ixN_9, q_ixT]
  exact ⟨_, mk_dbz _, q⟩
end

section
variable {W : Nat} (hW : 2 ^ 9000 ≤ W)
theorem small12 {r r' : Int} (h1 : 0 ≤ r) (h2 : r < 21) (h3 : 0 ≤ r') (h4 : r' < 4) : ∃ N : Int, Rat.divInt (r - 10) (1 + r') * ((12 : Nat) : Rat) = (N : Rat) ∧ Bi' 7 N := by
  have e12 : ((12 : Nat) : Rat) = 12 := rfl
  rw [e12, Rat.divInt_eq_div]
  have : r' = 0 ∨ r' = 1 ∨ r' = 2 ∨ r' = 3 := by omega
  rcases this with rfl | rfl | rfl | rfl
  · refine ⟨(r - 10) * 12, ?_, Bi'.of (by omega)⟩
    rw [Rat.intCast_mul]
    show ((r - 10 : Int) : Rat) / 1 * 12 = ((r - 10 : Int) : Rat) * 12
    grind
  · refine ⟨(r - 10) * 6, ?_, Bi'.of (by omega)⟩
    rw [Rat.intCast_mul]
    show ((r - 10 : Int) : Rat) / 2 * 12 = ((r - 10 : Int) : Rat) * 6
    grind
  · refine ⟨(r - 10) * 4, ?_, Bi'.of (by omega)⟩
    rw [Rat.intCast_mul]
    show ((r - 10 : Int) : Rat) / 3 * 12 = ((r - 10 : Int) : Rat) * 4
    grind
  · refine ⟨(r - 10) * 3, ?_, Bi'.of (by omega)⟩
    rw [Rat.intCast_mul]
    show ((r - 10 : Int) : Rat) / 4 * 12 = ((r - 10 : Int) : Rat) * 3
    grind
include hW
theorem f_law_smallC {X : Exn → Sto → Prop} (k n : Nat) (S : Sto) (Q : D → Sto → Prop) (hr : Rng S n) (q : ∀ x S', Bt 6 x → (∃ N : Int, x * ((12 : Nat) : Rat) = (N : Rat) ∧ Bi' 7 N) → Rng S' n → Ext n S S' → Q (fr x) S') : OkX X (runF TB W (k + 3) "_law_small" [.ref n] S) Q := by
  refine w_run c__law_small [some (.ref n)] rfl rfl rfl ?_
  simp only [c__law_small, cfg_F, cfg_G, cfg_lv, w_tryL, s_raise, p_intI, p_intB, w_var, w_glo, w_bt, w_int, w_str, w_bl, w_non, w_bin, w_neg, w_cmp, w_ite, w_tup, w_lst, w_call, w_bi, w_me, w_ix, w_sl, w_rev, w_val, w_qand, w_qor, w_qnot, w_nil, w_cons, w_no, w_ex, w_of, w_enum, w_rng1, w_rng2, w_rng3, w_lc, w_lcIf, w_lcB, w_lcBI, wipe_nil, wipe_cons, List.map_cons, List.map_nil, OkS_set, s_nil, s_cons, s_asg, s_setIx, s_aug, s_expr, s_ret, s_retN, s_ite, s_whl, s_for, s_brk, s_cnt, s_pas, s_never, p_add, p_sub, p_mul, p_fdiv, p_mod, p_pow, p_lt, p_le, p_gt, p_ge, p_neg, p_abs, p_max, p_min, p_lenT, p_tupT, p_listT, p_augA, p_augS, p_trB, p_eqI, p_neI, set_nm, set_tp, exists_eq_left', exists_eq_left, Option.some.injEq, D.int.injEq, List.getElem?_cons_zero, List.getElem?_cons_succ, List.set_cons_zero, List.set_cons_succ, List.length_cons, List.length_nil, List.zip_cons_cons, List.zip_nil_left, List.zip_nil_right, List.foldl_cons, List.foldl_nil, List.all_cons, List.all_nil, decide_eq_true_eq, Bool.and_true, Bool.and_eq_true, decide_eq_false_iff_not, Nat.zero_add, Nat.reduceAdd, Nat.reduceLT, Nat.reduceLeDiff, true_and, and_true, Ok_ok, fr_ix0, fr_ix1, decide_true, List.getElem?_nil, w_andV, w_orV, w_notV, beq_tt, beq_tf, beq_ft, beq_ff, beq_self_eq_true, ne_eq, not_true_eq_false, not_false_eq_true, Bool.not_true, Bool.not_false, Bool.not_not, Bool.false_eq_true, Bool.true_eq_false, false_implies, true_implies, implies_true, and_self, reduceCtorEq, D.bl.injEq, p_isi, p_isis, p_slK, p_slT, p_revT, src_tup, p_eqB, p_neB, kit_int_dict, kit_int_tuple, kit_int_list, kit_int_bool, kit_str_dict, kit_str_tuple, kit_str_list, kit_str_bool, kit_bool_dict, kit_bool_tuple, kit_bool_list, kit_bool_bool, kit_NoneType_dict, kit_NoneType_tuple, kit_NoneType_list, kit_NoneType_bool, kit_tuple_dict, kit_tuple_tuple, kit_tuple_list, kit_tuple_bool, kit_list_dict, kit_list_tuple, kit_list_list, kit_list_bool, any_int, any_str, any_bool, any_non, any_tuple, any_list, beq_iff_eq, beq_eq_false_iff_ne, ↓reduceIte, atI_0, ixN_0, atI_1, ixN_1, atI_2, ixN_2, atI_3, ixN_3, atI_4, ixN_4, atI_5, ixN_5, atI_6, ixN_6, atI_7, ixN_7, atI_8, ixN_8, atI_9, ixN_9, q_ixT]
  refine f_law_draw (k + 1) n 21 S _ hr (by decide) (Bi'.small (by decide) (by decide)) fun r S1 r1 r2 hr1 ex1 _ => ?_
  simp only [cfg_F, cfg_G, cfg_lv, w_tryL, s_raise, p_intI, p_intB, w_var, w_glo, w_bt, w_int, w_str, w_bl, w_non, w_bin, w_neg, w_cmp, w_ite, w_tup, w_lst, w_call, w_bi, w_me, w_ix, w_sl, w_rev, w_val, w_qand, w_qor, w_qnot, w_nil, w_cons, w_no, w_ex, w_of, w_enum, w_rng1, w_rng2, w_rng3, w_lc, w_lcIf, w_lcB, w_lcBI, wipe_nil, wipe_cons, List.map_cons, List.map_nil, OkS_set, s_nil, s_cons, s_asg, s_setIx, s_aug, s_expr, s_ret, s_retN, s_ite, s_whl, s_for, s_brk, s_cnt, s_pas, s_never, p_add, p_sub, p_mul, p_fdiv, p_mod, p_pow, p_lt, p_le, p_gt, p_ge, p_neg, p_abs, p_max, p_min, p_lenT, p_tupT, p_listT, p_augA, p_augS, p_trB, p_eqI, p_neI, set_nm, set_tp, exists_eq_left', exists_eq_left, Option.some.injEq, D.int.injEq, List.getElem?_cons_zero, List.getElem?_cons_succ, List.set_cons_zero, List.set_cons_succ, List.length_cons, List.length_nil, List.zip_cons_cons, List.zip_nil_left, List.zip_nil_right, List.foldl_cons, List.foldl_nil, List.all_cons, List.all_nil, decide_eq_true_eq, Bool.and_true, Bool.and_eq_true, decide_eq_false_iff_not, Nat.zero_add, Nat.reduceAdd, Nat.reduceLT, Nat.reduceLeDiff, true_and, and_true, Ok_ok, fr_ix0, fr_ix1, decide_true, List.getElem?_nil, w_andV, w_orV, w_notV, beq_tt, beq_tf, beq_ft, beq_ff, beq_self_eq_true, ne_eq, not_true_eq_false, not_false_eq_true, Bool.not_true, Bool.not_false, Bool.not_not, Bool.false_eq_true, Bool.true_eq_false, false_implies, true_implies, implies_true, and_self, reduceCtorEq, D.bl.injEq, p_isi, p_isis, p_slK, p_slT, p_revT, src_tup, p_eqB, p_neB, kit_int_dict, kit_int_tuple, kit_int_list, kit_int_bool, kit_str_dict, kit_str_tuple, kit_str_list, kit_str_bool, kit_bool_dict, kit_bool_tuple, kit_bool_list, kit_bool_bool, kit_NoneType_dict, kit_NoneType_tuple, kit_NoneType_list, kit_NoneType_bool, kit_tuple_dict, kit_tuple_tuple, kit_tuple_list, kit_tuple_bool, kit_list_dict, kit_list_tuple, kit_list_list, kit_list_bool, any_int, any_str, any_bool, any_non, any_tuple, any_list, beq_iff_eq, beq_eq_false_iff_ne, ↓reduceIte, atI_0, ixN_0, atI_1, ixN_1, atI_2, ixN_2, atI_3, ixN_3, atI_4, ixN_4, atI_5, ixN_5, atI_6, ixN_6, atI_7, ixN_7, atI_8, ixN_8, atI_9, ixN_9, q_ixT]
  refine f_law_draw (k + 1) n 4 S1 _ hr1 (by decide) (Bi'.small (by decide) (by decide)) fun r' S2 r3 r4 hr2 ex2 _ => ?_
  simp only [cfg_F, cfg_G, cfg_lv, w_tryL, s_raise, p_intI, p_intB, w_var, w_glo, w_bt, w_int, w_str, w_bl, w_non, w_bin, w_neg, w_cmp, w_ite, w_tup, w_lst, w_call, w_bi, w_me, w_ix, w_sl, w_rev, w_val, w_qand, w_qor, w_qnot, w_nil, w_cons, w_no, w_ex, w_of, w_enum, w_rng1, w_rng2, w_rng3, w_lc, w_lcIf, w_lcB, w_lcBI, wipe_nil, wipe_cons, List.map_cons, List.map_nil, OkS_set, s_nil, s_cons, s_asg, s_setIx, s_aug, s_expr, s_ret, s_retN, s_ite, s_whl, s_for, s_brk, s_cnt, s_pas, s_never, p_add, p_sub, p_mul, p_fdiv, p_mod, p_pow, p_lt, p_le, p_gt, p_ge, p_neg, p_abs, p_max, p_min, p_lenT, p_tupT, p_listT, p_augA, p_augS, p_trB, p_eqI, p_neI, set_nm, set_tp, exists_eq_left', exists_eq_left, Option.some.injEq, D.int.injEq, List.getElem?_cons_zero, List.getElem?_cons_succ, List.set_cons_zero, List.set_cons_succ, List.length_cons, List.length_nil, List.zip_cons_cons, List.zip_nil_left, List.zip_nil_right, List.foldl_cons, List.foldl_nil, List.all_cons, List.all_nil, decide_eq_true_eq, Bool.and_true, Bool.and_eq_true, decide_eq_false_iff_not, Nat.zero_add, Nat.reduceAdd, Nat.reduceLT, Nat.reduceLeDiff, true_and, and_true, Ok_ok, fr_ix0, fr_ix1, decide_true, List.getElem?_nil, w_andV, w_orV, w_notV, beq_tt, beq_tf, beq_ft, beq_ff, beq_self_eq_true, ne_eq, not_true_eq_false, not_false_eq_true, Bool.not_true, Bool.not_false, Bool.not_not, Bool.false_eq_true, Bool.true_eq_false, false_implies, true_implies, implies_true, and_self, reduceCtorEq, D.bl.injEq, p_isi, p_isis, p_slK, p_slT, p_revT, src_tup, p_eqB, p_neB, kit_int_dict, kit_int_tuple, kit_int_list, kit_int_bool, kit_str_dict, kit_str_tuple, kit_str_list, kit_str_bool, kit_bool_dict, kit_bool_tuple, kit_bool_list, kit_bool_bool, kit_NoneType_dict, kit_NoneType_tuple, kit_NoneType_list, kit_NoneType_bool, kit_tuple_dict, kit_tuple_tuple, kit_tuple_list, kit_tuple_bool, kit_list_dict, kit_list_tuple, kit_list_list, kit_list_bool, any_int, any_str, any_bool, any_non, any_tuple, any_list, beq_iff_eq, beq_eq_false_iff_ne, ↓reduceIte, atI_0, ixN_0, atI_1, ixN_1, atI_2, ixN_2, atI_3, ixN_3, atI_4, ixN_4, atI_5, ixN_5, atI_6, ixN_6, atI_7, ixN_7, atI_8, ixN_8, atI_9, ixN_9, q_ixT]
  refine f_law_low hW k _ _ S2 _ (by omega) (Bi'.small (by omega) (by decide)) ?_
  exact q _ _ (Bt.div (Bi'.of (by omega)) (Bi'.of (by omega)) (by omega)) (small12 r1 r2 r3 r4) hr2 (ex1.trans ex2)
theorem f_law_polyC {X : Exn → Sto → Prop} (k n : Nat) (mo : Int) (S : Sto) (Q : D → Sto → Prop) (hr : Rng S n) (h0 : 0 ≤ mo) (h1 : mo ≤ 100) (q : ∀ p S', PB 6 p → Cd 12 7 p → (p.length : Int) ≤ mo → p = trim p → Rng S' n → Ext n S S' → Q (po p) S') : OkX X (runF TB W (k + 4) "_law_poly" [.ref n, .int mo] S) Q := by
  refine w_run c__law_poly [some (.ref n), some (.int mo), none] rfl rfl rfl ?_
  simp only [c__law_poly, cfg_F, cfg_G, cfg_lv, w_tryL, s_raise, p_intI, p_intB, w_var, w_glo, w_bt, w_int, w_str, w_bl, w_non, w_bin, w_neg, w_cmp, w_ite, w_tup, w_lst, w_call, w_bi, w_me, w_ix, w_sl, w_rev, w_val, w_qand, w_qor, w_qnot, w_nil, w_cons, w_no, w_ex, w_of, w_enum, w_rng1, w_rng2, w_rng3, w_lc, w_lcIf, w_lcB, w_lcBI, wipe_nil, wipe_cons, List.map_cons, List.map_nil, OkS_set, s_nil, s_cons, s_asg, s_setIx, s_aug, s_expr, s_ret, s_retN, s_ite, s_whl, s_for, s_brk, s_cnt, s_pas, s_never, p_add, p_sub, p_mul, p_fdiv, p_mod, p_pow, p_lt, p_le, p_gt, p_ge, p_neg, p_abs, p_max, p_min, p_lenT, p_tupT, p_listT, p_augA, p_augS, p_trB, p_eqI, p_neI, set_nm, set_tp, exists_eq_left', exists_eq_left, Option.some.injEq, D.int.injEq, List.getElem?_cons_zero, List.getElem?_cons_succ, List.set_cons_zero, List.set_cons_succ, List.length_cons, List.length_nil, List.zip_cons_cons, List.zip_nil_left, List.zip_nil_right, List.foldl_cons, List.foldl_nil, List.all_cons, List.all_nil, decide_eq_true_eq, Bool.and_true, Bool.and_eq_true, decide_eq_false_iff_not, Nat.zero_add, Nat.reduceAdd, Nat.reduceLT, Nat.reduceLeDiff, true_and, and_true, Ok_ok, fr_ix0, fr_ix1, decide_true, List.getElem?_nil, w_andV, w_orV, w_notV, beq_tt, beq_tf, beq_ft, beq_ff, beq_self_eq_true, ne_eq, not_true_eq_false, not_false_eq_true, Bool.not_true, Bool.not_false, Bool.not_not, Bool.false_eq_true, Bool.true_eq_false, false_implies, true_implies, implies_true, and_self, reduceCtorEq, D.bl.injEq, p_isi, p_isis, p_slK, p_slT, p_revT, src_tup, p_eqB, p_neB, kit_int_dict, kit_int_tuple, kit_int_list, kit_int_bool, kit_str_dict, kit_str_tuple, kit_str_list, kit_str_bool, kit_bool_dict, kit_bool_tuple, kit_bool_list, kit_bool_bool, kit_NoneType_dict, kit_NoneType_tuple, kit_NoneType_list, kit_NoneType_bool, kit_tuple_dict, kit_tuple_tuple, kit_tuple_list, kit_tuple_bool, kit_list_dict, kit_list_tuple, kit_list_list, kit_list_bool, any_int, any_str, any_bool, any_non, any_tuple, any_list, beq_iff_eq, beq_eq_false_iff_ne, ↓reduceIte, atI_0, ixN_0, atI_1, ixN_1, atI_2, ixN_2, atI_3, ixN_3, atI_4, ixN_4, atI_5, ixN_5, atI_6, ixN_6, atI_7, ixN_7, atI_8, ixN_8, atI_9, ixN_9, q_ixT]
  refine f_law_draw (k + 2) n _ S _ hr (by omega) (Bi'.small (by omega) (by decide)) fun r S1 r1 r2 hr1 ex1 _ => ?_
  simp only [cfg_F, cfg_G, cfg_lv, w_tryL, s_raise, p_intI, p_intB, w_var, w_glo, w_bt, w_int, w_str, w_bl, w_non, w_bin, w_neg, w_cmp, w_ite, w_tup, w_lst, w_call, w_bi, w_me, w_ix, w_sl, w_rev, w_val, w_qand, w_qor, w_qnot, w_nil, w_cons, w_no, w_ex, w_of, w_enum, w_rng1, w_rng2, w_rng3, w_lc, w_lcIf, w_lcB, w_lcBI, wipe_nil, wipe_cons, List.map_cons, List.map_nil, OkS_set, s_nil, s_cons, s_asg, s_setIx, s_aug, s_expr, s_ret, s_retN, s_ite, s_whl, s_for, s_brk, s_cnt, s_pas, s_never, p_add, p_sub, p_mul, p_fdiv, p_mod, p_pow, p_lt, p_le, p_gt, p_ge, p_neg, p_abs, p_max, p_min, p_lenT, p_tupT, p_listT, p_augA, p_augS, p_trB, p_eqI, p_neI, set_nm, set_tp, exists_eq_left', exists_eq_left, Option.some.injEq, D.int.injEq, List.getElem?_cons_zero, List.getElem?_cons_succ, List.set_cons_zero, List.set_cons_succ, List.length_cons, List.length_nil, List.zip_cons_cons, List.zip_nil_left, List.zip_nil_right, List.foldl_cons, List.foldl_nil, List.all_cons, List.all_nil, decide_eq_true_eq, Bool.and_true, Bool.and_eq_true, decide_eq_false_iff_not, Nat.zero_add, Nat.reduceAdd, Nat.reduceLT, Nat.reduceLeDiff, true_and, and_true, Ok_ok, fr_ix0, fr_ix1, decide_true, List.getElem?_nil, w_andV, w_orV, w_notV, beq_tt, beq_tf, beq_ft, beq_ff, beq_self_eq_true, ne_eq, not_true_eq_false, not_false_eq_true, Bool.not_true, Bool.not_false, Bool.not_not, Bool.false_eq_true, Bool.true_eq_false, false_implies, true_implies, implies_true, and_self, reduceCtorEq, D.bl.injEq, p_isi, p_isis, p_slK, p_slT, p_revT, src_tup, p_eqB, p_neB, kit_int_dict, kit_int_tuple, kit_int_list, kit_int_bool, kit_str_dict, kit_str_tuple, kit_str_list, kit_str_bool, kit_bool_dict, kit_bool_tuple, kit_bool_list, kit_bool_bool, kit_NoneType_dict, kit_NoneType_tuple, kit_NoneType_list, kit_NoneType_bool, kit_tuple_dict, kit_tuple_tuple, kit_tuple_list, kit_tuple_bool, kit_list_dict, kit_list_tuple, kit_list_list, kit_list_bool, any_int, any_str, any_bool, any_non, any_tuple, any_list, beq_iff_eq, beq_eq_false_iff_ne, ↓reduceIte, atI_0, ixN_0, atI_1, ixN_1, atI_2, ixN_2, atI_3, ixN_3, atI_4, ixN_4, atI_5, ixN_5, atI_6, ixN_6, atI_7, ixN_7, atI_8, ixN_8, atI_9, ixN_9, q_ixT]
  obtain ⟨m, rfl⟩ := Int.eq_ofNat_of_zero_le r1
  refine ⟨_, rng0 (by omega), rlen _ _ (by omega), ?_⟩
  refine mapL (fun i ds S' => ∃ p : List Rat, ds = p.map fr ∧ p.length = i ∧ PB 6 p ∧ Cd 12 7 p ∧ Rng S' n ∧ Ext n S S') ?_ ?_ ⟨[], rfl, rfl, fun x hx => (nomatch hx), ⟨by decide, fun x hx => (nomatch hx)⟩, hr1, ex1⟩
  · rintro I i ds S2 hI hi ⟨p, rfl, hp, pb, cd, hr2, ex2⟩
    have hi : i < m := by
      have : i < ((List.range m).map fun k => D.int (k : Nat)).length := hi
      simpa using this
    refine ⟨.int (i : Nat), by show ((List.range m).map _)[i]? = _; simp [hi], ?_⟩
    simp only [cfg_F, cfg_G, cfg_lv, w_tryL, s_raise, p_intI, p_intB, w_var, w_glo, w_bt, w_int, w_str, w_bl, w_non, w_bin, w_neg, w_cmp, w_ite, w_tup, w_lst, w_call, w_bi, w_me, w_ix, w_sl, w_rev, w_val, w_qand, w_qor, w_qnot, w_nil, w_cons, w_no, w_ex, w_of, w_enum, w_rng1, w_rng2, w_rng3, w_lc, w_lcIf, w_lcB, w_lcBI, wipe_nil, wipe_cons, List.map_cons, List.map_nil, OkS_set, s_nil, s_cons, s_asg, s_setIx, s_aug, s_expr, s_ret, s_retN, s_ite, s_whl, s_for, s_brk, s_cnt, s_pas, s_never, p_add, p_sub, p_mul, p_fdiv, p_mod, p_pow, p_lt, p_le, p_gt, p_ge, p_neg, p_abs, p_max, p_min, p_lenT, p_tupT, p_listT, p_augA, p_augS, p_trB, p_eqI, p_neI, set_nm, set_tp, exists_eq_left', exists_eq_left, Option.some.injEq, D.int.injEq, List.getElem?_cons_zero, List.getElem?_cons_succ, List.set_cons_zero, List.set_cons_succ, List.length_cons, List.length_nil, List.zip_cons_cons, List.zip_nil_left, List.zip_nil_right, List.foldl_cons, List.foldl_nil, List.all_cons, List.all_nil, decide_eq_true_eq, Bool.and_true, Bool.and_eq_true, decide_eq_false_iff_not, Nat.zero_add, Nat.reduceAdd, Nat.reduceLT, Nat.reduceLeDiff, true_and, and_true, Ok_ok, fr_ix0, fr_ix1, decide_true, List.getElem?_nil, w_andV, w_orV, w_notV, beq_tt, beq_tf, beq_ft, beq_ff, beq_self_eq_true, ne_eq, not_true_eq_false, not_false_eq_true, Bool.not_true, Bool.not_false, Bool.not_not, Bool.false_eq_true, Bool.true_eq_false, false_implies, true_implies, implies_true, and_self, reduceCtorEq, D.bl.injEq, p_isi, p_isis, p_slK, p_slT, p_revT, src_tup, p_eqB, p_neB, kit_int_dict, kit_int_tuple, kit_int_list, kit_int_bool, kit_str_dict, kit_str_tuple, kit_str_list, kit_str_bool, kit_bool_dict, kit_bool_tuple, kit_bool_list, kit_bool_bool, kit_NoneType_dict, kit_NoneType_tuple, kit_NoneType_list, kit_NoneType_bool, kit_tuple_dict, kit_tuple_tuple, kit_tuple_list, kit_tuple_bool, kit_list_dict, kit_list_tuple, kit_list_list, kit_list_bool, any_int, any_str, any_bool, any_non, any_tuple, any_list, beq_iff_eq, beq_eq_false_iff_ne, ↓reduceIte, atI_0, ixN_0, atI_1, ixN_1, atI_2, ixN_2, atI_3, ixN_3, atI_4, ixN_4, atI_5, ixN_5, atI_6, ixN_6, atI_7, ixN_7, atI_8, ixN_8, atI_9, ixN_9, q_ixT]
    refine f_law_smallC hW k n S2 _ hr2 fun x S3 bx cx hr3 ex3 => ?_
    refine ⟨by decide, by decide, by decide, ?_⟩
    refine f_law_pick (k + 1) n _ S3.length _ _ (hr3.app _) (app_new _ _) (by have := hr3.lt; omega) (by simp) (by simp) fun d S4 hd hr4 ex4 _ => ?_
    have ex := ((ex2.trans ex3).toApp _).trans ex4
    have fin : ∀ y, Bt 6 y → (∃ N : Int, y * ((12 : Nat) : Rat) = (N : Rat) ∧ Bi' 7 N) → I [fr y] S4 := fun y hy cy => hI _ _ ⟨p ++ [y], by simp, by simp [hp], fun z hz => by
      rcases List.mem_append.mp hz with h | h
      · exact pb z h
      · rw [List.mem_singleton.mp h]; exact hy, ⟨by decide, fun z hz => by
      rcases List.mem_append.mp hz with h | h
      · exact cd.2 z h
      · rw [List.mem_singleton.mp h]; exact cy⟩, hr4, ex⟩
    simp only [List.mem_cons, List.not_mem_nil, or_false] at hd
    rcases hd with rfl | rfl | rfl
    · exact fin x bx cx
    · exact fin 0 (Bt.zero (by decide)) ⟨0, by rw [Rat.zero_mul]; rfl, Bi'.of (by decide)⟩
    · exact fin 1 (Bt.one (by decide)) ⟨12, by show (1 : Rat) * 12 = 12; grind, Bi'.of (by decide)⟩
  · rintro ds S2 ⟨p, rfl, hp, pb, cd, hr2, ex2⟩
    refine ⟨rfl, ?_⟩
    have hp : p.length = m := by
      rw [hp]
      show ((List.range m).map fun k => D.int (k : Nat)).length = m
      simp
    refine f_law_trim hW (k + 2) p _ _ _ (app_new _ _) (by omega) fun J => ?_
    have := trim_len p
    refine q _ _ pb.trim cd.trim (by omega) ?_ ((hr2.app _).app _) ((ex2.toApp _).toApp _)
    exact (trim_last fun x hx => trim_ne0 hx).symm
end

section
variable {W : Nat} (hW : 2 ^ 9000 ≤ W)
include hW
theorem f_law (k : Nat) (h90 : 90 ≤ k) (cs : List Int) (hl : cs.length ≤ 63) : Ok (runF TB W (k + 7) "law" [.kls (cs.map .int)] []) fun d _ => d = .bl true := by
  refine w_run c_law [some (.kls (cs.map .int)), none, none, none, none, none, none, none] rfl rfl rfl ?_
  simp only [c_law, cfg_F, cfg_G, cfg_lv, w_tryL, s_raise, p_intI, p_intB, w_var, w_glo, w_bt, w_int, w_str, w_bl, w_non, w_bin, w_neg, w_cmp, w_ite, w_tup, w_lst, w_call, w_bi, w_me, w_ix, w_sl, w_rev, w_val, w_qand, w_qor, w_qnot, w_nil, w_cons, w_no, w_ex, w_of, w_enum, w_rng1, w_rng2, w_rng3, w_lc, w_lcIf, w_lcB, w_lcBI, wipe_nil, wipe_cons, List.map_cons, List.map_nil, OkS_set, s_nil, s_cons, s_asg, s_setIx, s_aug, s_expr, s_ret, s_retN, s_ite, s_whl, s_for, s_brk, s_cnt, s_pas, s_never, p_add, p_sub, p_mul, p_fdiv, p_mod, p_pow, p_lt, p_le, p_gt, p_ge, p_neg, p_abs, p_max, p_min, p_lenT, p_tupT, p_listT, p_augA, p_augS, p_trB, p_eqI, p_neI, set_nm, set_tp, exists_eq_left', exists_eq_left, Option.some.injEq, D.int.injEq, List.getElem?_cons_zero, List.getElem?_cons_succ, List.set_cons_zero, List.set_cons_succ, List.length_cons, List.length_nil, List.zip_cons_cons, List.zip_nil_left, List.zip_nil_right, List.foldl_cons, List.foldl_nil, List.all_cons, List.all_nil, decide_eq_true_eq, Bool.and_true, Bool.and_eq_true, decide_eq_false_iff_not, Nat.zero_add, Nat.reduceAdd, Nat.reduceLT, Nat.reduceLeDiff, true_and, and_true, Ok_ok, fr_ix0, fr_ix1, decide_true, List.getElem?_nil, w_andV, w_orV, w_notV, beq_tt, beq_tf, beq_ft, beq_ff, beq_self_eq_true, ne_eq, not_true_eq_false, not_false_eq_true, Bool.not_true, Bool.not_false, Bool.not_not, Bool.false_eq_true, Bool.true_eq_false, false_implies, true_implies, implies_true, and_self, reduceCtorEq, D.bl.injEq, p_isi, p_isis, p_slK, p_slT, p_revT, src_tup, p_eqB, p_neB, kit_int_dict, kit_int_tuple, kit_int_list, kit_int_bool, kit_str_dict, kit_str_tuple, kit_str_list, kit_str_bool, kit_bool_dict, kit_bool_tuple, kit_bool_list, kit_bool_bool, kit_NoneType_dict, kit_NoneType_tuple, kit_NoneType_list, kit_NoneType_bool, kit_tuple_dict, kit_tuple_tuple, kit_tuple_list, kit_tuple_bool, kit_list_dict, kit_list_tuple, kit_list_list, kit_list_bool, any_int, any_str, any_bool, any_non, any_tuple, any_list, beq_iff_eq, beq_eq_false_iff_ne, ↓reduceIte, atI_0, ixN_0, atI_1, ixN_1, atI_2, ixN_2, atI_3, ixN_3, atI_4, ixN_4, atI_5, ixN_5, atI_6, ixN_6, atI_7, ixN_7, atI_8, ixN_8, atI_9, ixN_9, q_ixT]
  refine f_law_draws (k + 5) cs [] _ hl fun n J0 hr0 => ?_
  refine ⟨_, rng0 (n := 5) (by decide), by decide, ?_⟩
  have low : (cfg TB W (k + 6)).low = some (cfg TB W 89) := cfg_low W (by omega) rfl
  refine forL (fun i env S' => Rng S' n ∧ ∃ x0 x1 x2 x3 x4 x5 x6, env = [x0, some (.ref n), x1, x2, x3, x4, x5, x6]) ?_ ?_ ⟨hr0, _, _, _, _, _, _, _, rfl⟩
  · rintro I i env S hI hi ⟨hr, x0, x1, x2, x3, x4, x5, x6, rfl⟩
    have hi : i < 5 := hi
    refine ⟨.int (i : Nat), by show ((List.range 5).map _)[i]? = _; simp [hi], ?_⟩
    simp only [cfg_F, cfg_G, cfg_lv, w_tryL, s_raise, p_intI, p_intB, w_var, w_glo, w_bt, w_int, w_str, w_bl, w_non, w_bin, w_neg, w_cmp, w_ite, w_tup, w_lst, w_call, w_bi, w_me, w_ix, w_sl, w_rev, w_val, w_qand, w_qor, w_qnot, w_nil, w_cons, w_no, w_ex, w_of, w_enum, w_rng1, w_rng2, w_rng3, w_lc, w_lcIf, w_lcB, w_lcBI, wipe_nil, wipe_cons, List.map_cons, List.map_nil, OkS_set, s_nil, s_cons, s_asg, s_setIx, s_aug, s_expr, s_ret, s_retN, s_ite, s_whl, s_for, s_brk, s_cnt, s_pas, s_never, p_add, p_sub, p_mul, p_fdiv, p_mod, p_pow, p_lt, p_le, p_gt, p_ge, p_neg, p_abs, p_max, p_min, p_lenT, p_tupT, p_listT, p_augA, p_augS, p_trB, p_eqI, p_neI, set_nm, set_tp, exists_eq_left', exists_eq_left, Option.some.injEq, D.int.injEq, List.getElem?_cons_zero, List.getElem?_cons_succ, List.set_cons_zero, List.set_cons_succ, List.length_cons, List.length_nil, List.zip_cons_cons, List.zip_nil_left, List.zip_nil_right, List.foldl_cons, List.foldl_nil, List.all_cons, List.all_nil, decide_eq_true_eq, Bool.and_true, Bool.and_eq_true, decide_eq_false_iff_not, Nat.zero_add, Nat.reduceAdd, Nat.reduceLT, Nat.reduceLeDiff, true_and, and_true, Ok_ok, fr_ix0, fr_ix1, decide_true, List.getElem?_nil, w_andV, w_orV, w_notV, beq_tt, beq_tf, beq_ft, beq_ff, beq_self_eq_true, ne_eq, not_true_eq_false, not_false_eq_true, Bool.not_true, Bool.not_false, Bool.not_not, Bool.false_eq_true, Bool.true_eq_false, false_implies, true_implies, implies_true, and_self, reduceCtorEq, D.bl.injEq, p_isi, p_isis, p_slK, p_slT, p_revT, src_tup, p_eqB, p_neB, kit_int_dict, kit_int_tuple, kit_int_list, kit_int_bool, kit_str_dict, kit_str_tuple, kit_str_list, kit_str_bool, kit_bool_dict, kit_bool_tuple, kit_bool_list, kit_bool_bool, kit_NoneType_dict, kit_NoneType_tuple, kit_NoneType_list, kit_NoneType_bool, kit_tuple_dict, kit_tuple_tuple, kit_tuple_list, kit_tuple_bool, kit_list_dict, kit_list_tuple, kit_list_list, kit_list_bool, any_int, any_str, any_bool, any_non, any_tuple, any_list, beq_iff_eq, beq_eq_false_iff_ne, ↓reduceIte, atI_0, ixN_0, atI_1, ixN_1, atI_2, ixN_2, atI_3, ixN_3, atI_4, ixN_4, atI_5, ixN_5, atI_6, ixN_6, atI_7, ixN_7, atI_8, ixN_8, atI_9, ixN_9, q_ixT]
    refine s_cut 2 (fun env S => Rng S n ∧ ∃ a b, Cd 12 7 b ∧ PB 6 b ∧ b.length ≤ 4 ∧ b = trim b ∧ Cd 144 18 a ∧ PB 18 a ∧ a.length ≤ 8 ∧ a = trim a ∧ env = [x0, some (.ref n), some (.int i), some (po b), some (po a), x4, x5, x6]) ?_ ?_
    · simp only [c_law_b0, B.take, cfg_F, cfg_G, cfg_lv, w_tryL, s_raise, p_intI, p_intB, w_var, w_glo, w_bt, w_int, w_str, w_bl, w_non, w_bin, w_neg, w_cmp, w_ite, w_tup, w_lst, w_call, w_bi, w_me, w_ix, w_sl, w_rev, w_val, w_qand, w_qor, w_qnot, w_nil, w_cons, w_no, w_ex, w_of, w_enum, w_rng1, w_rng2, w_rng3, w_lc, w_lcIf, w_lcB, w_lcBI, wipe_nil, wipe_cons, List.map_cons, List.map_nil, OkS_set, s_nil, s_cons, s_asg, s_setIx, s_aug, s_expr, s_ret, s_retN, s_ite, s_whl, s_for, s_brk, s_cnt, s_pas, s_never, p_add, p_sub, p_mul, p_fdiv, p_mod, p_pow, p_lt, p_le, p_gt, p_ge, p_neg, p_abs, p_max, p_min, p_lenT, p_tupT, p_listT, p_augA, p_augS, p_trB, p_eqI, p_neI, set_nm, set_tp, exists_eq_left', exists_eq_left, Option.some.injEq, D.int.injEq, List.getElem?_cons_zero, List.getElem?_cons_succ, List.set_cons_zero, List.set_cons_succ, List.length_cons, List.length_nil, List.zip_cons_cons, List.zip_nil_left, List.zip_nil_right, List.foldl_cons, List.foldl_nil, List.all_cons, List.all_nil, decide_eq_true_eq, Bool.and_true, Bool.and_eq_true, decide_eq_false_iff_not, Nat.zero_add, Nat.reduceAdd, Nat.reduceLT, Nat.reduceLeDiff, true_and, and_true, Ok_ok, fr_ix0, fr_ix1, decide_true, List.getElem?_nil, w_andV, w_orV, w_notV, beq_tt, beq_tf, beq_ft, beq_ff, beq_self_eq_true, ne_eq, not_true_eq_false, not_false_eq_true, Bool.not_true, Bool.not_false, Bool.not_not, Bool.false_eq_true, Bool.true_eq_false, false_implies, true_implies, implies_true, and_self, reduceCtorEq, D.bl.injEq, p_isi, p_isis, p_slK, p_slT, p_revT, src_tup, p_eqB, p_neB, kit_int_dict, kit_int_tuple, kit_int_list, kit_int_bool, kit_str_dict, kit_str_tuple, kit_str_list, kit_str_bool, kit_bool_dict, kit_bool_tuple, kit_bool_list, kit_bool_bool, kit_NoneType_dict, kit_NoneType_tuple, kit_NoneType_list, kit_NoneType_bool, kit_tuple_dict, kit_tuple_tuple, kit_tuple_list, kit_tuple_bool, kit_list_dict, kit_list_tuple, kit_list_list, kit_list_bool, any_int, any_str, any_bool, any_non, any_tuple, any_list, beq_iff_eq, beq_eq_false_iff_ne, ↓reduceIte, atI_0, ixN_0, atI_1, ixN_1, atI_2, ixN_2, atI_3, ixN_3, atI_4, ixN_4, atI_5, ixN_5, atI_6, ixN_6, atI_7, ixN_7, atI_8, ixN_8, atI_9, ixN_9, q_ixT]
      refine f_law_polyC hW (k + 2) n 4 S _ hr (by decide) (by decide) fun b S1 hb cb lb tb hr1 ex1 => ?_
      refine f_law_polyC hW (k + 2) n 8 S1 _ hr1 (by decide) (by decide) fun a S2 ha ca la ta hr2 ex2 => ?_
      refine f_law_polyC hW (k + 2) n 4 S2 _ hr2 (by decide) (by decide) fun c S3 hc cc lc tc hr3 ex3 => ?_
      have la : a.length ≤ 8 := by omega
      have lb : b.length ≤ 4 := by omega
      have lc : c.length ≤ 4 := by omega
      refine f_law_pmul hW (k + 2) b c S3 _ (hb.mono (by decide)) (hc.mono (by decide)) (by omega) (by omega) (fun j t h1 h2 => pm_fit (hb.mono (by decide : 6 ≤ 15)) (hc.mono (by decide : 6 ≤ 15)) (by omega) (by omega) j t h1 h2) (fun j t => ((hb.get (by decide) j).mul (hc.get (by decide) t)).mono (by decide)) fun J => ?_
      refine ⟨by decide, ?_⟩
      refine f_law_pick (k + 4) n _ _ _ _ ((hr3.app _).app _) (app_new _ _) (by have := (hr3.app J).lt; omega) (by simp) (by simp) fun d S4 hd hr4 _ _ => ?_
      simp only [List.mem_cons, List.not_mem_nil, or_false] at hd
      have e12 : Bi' 4 ((12 : Nat) : Int) := Bi'.of (by decide)
      rcases hd with rfl | rfl
      · exact ⟨hr4, a, b, cb, hb, lb, tb, (ca.scale 12 (by decide) e12).mono (by decide), ha.mono (by decide), la, ta, rfl⟩
      · have cm := (pmul_cd cb cc).mono (by omega : 7 + 7 + b.length ≤ 18)
        refine ⟨hr4, _, b, cb, hb, lb, tb, cm.trim, (cm.pb (Bi'.of (by decide))).trim, ?_, trim_trim _, rfl⟩
        exact Nat.le_trans (trim_len _) (by rw [pmul_len]; omega)
    · rintro env S ⟨hr, a, b, cb, hb, lb, tb, ca, ha, la, ta, rfl⟩
      by_cases hbn : b = []
      · subst hbn
        simp only [c_law_b0, B.drop, low, cfg_F, cfg_G, cfg_lv, w_tryL, s_raise, p_intI, p_intB, w_var, w_glo, w_bt, w_int, w_str, w_bl, w_non, w_bin, w_neg, w_cmp, w_ite, w_tup, w_lst, w_call, w_bi, w_me, w_ix, w_sl, w_rev, w_val, w_qand, w_qor, w_qnot, w_nil, w_cons, w_no, w_ex, w_of, w_enum, w_rng1, w_rng2, w_rng3, w_lc, w_lcIf, w_lcB, w_lcBI, wipe_nil, wipe_cons, List.map_cons, List.map_nil, OkS_set, s_nil, s_cons, s_asg, s_setIx, s_aug, s_expr, s_ret, s_retN, s_ite, s_whl, s_for, s_brk, s_cnt, s_pas, s_never, p_add, p_sub, p_mul, p_fdiv, p_mod, p_pow, p_lt, p_le, p_gt, p_ge, p_neg, p_abs, p_max, p_min, p_lenT, p_tupT, p_listT, p_augA, p_augS, p_trB, p_eqI, p_neI, set_nm, set_tp, exists_eq_left', exists_eq_left, Option.some.injEq, D.int.injEq, List.getElem?_cons_zero, List.getElem?_cons_succ, List.set_cons_zero, List.set_cons_succ, List.length_cons, List.length_nil, List.zip_cons_cons, List.zip_nil_left, List.zip_nil_right, List.foldl_cons, List.foldl_nil, List.all_cons, List.all_nil, decide_eq_true_eq, Bool.and_true, Bool.and_eq_true, decide_eq_false_iff_not, Nat.zero_add, Nat.reduceAdd, Nat.reduceLT, Nat.reduceLeDiff, true_and, and_true, Ok_ok, fr_ix0, fr_ix1, decide_true, List.getElem?_nil, w_andV, w_orV, w_notV, beq_tt, beq_tf, beq_ft, beq_ff, beq_self_eq_true, ne_eq, not_true_eq_false, not_false_eq_true, Bool.not_true, Bool.not_false, Bool.not_not, Bool.false_eq_true, Bool.true_eq_false, false_implies, true_implies, implies_true, and_self, reduceCtorEq, D.bl.injEq, p_isi, p_isis, p_slK, p_slT, p_revT, src_tup, p_eqB, p_neB, kit_int_dict, kit_int_tuple, kit_int_list, kit_int_bool, kit_str_dict, kit_str_tuple, kit_str_list, kit_str_bool, kit_bool_dict, kit_bool_tuple, kit_bool_list, kit_bool_bool, kit_NoneType_dict, kit_NoneType_tuple, kit_NoneType_list, kit_NoneType_bool, kit_tuple_dict, kit_tuple_tuple, kit_tuple_list, kit_tuple_bool, kit_list_dict, kit_list_tuple, kit_list_list, kit_list_bool, any_int, any_str, any_bool, any_non, any_tuple, any_list, beq_iff_eq, beq_eq_false_iff_ne, ↓reduceIte, atI_0, ixN_0, atI_1, ixN_1, atI_2, ixN_2, atI_3, ixN_3, atI_4, ixN_4, atI_5, ixN_5, atI_6, ixN_6, atI_7, ixN_7, atI_8, ixN_8, atI_9, ixN_9, q_ixT]
        refine f_dividedZ 85 a S _ ⟨_, try_dbz _, ?_⟩
        refine ⟨by decide, p_eq (n := 2) (m := 2) (.po []) (.po []) fun c hc => ?_⟩
        rw [hc.mpr rfl]
        simp only [cfg_F, cfg_G, cfg_lv, w_tryL, s_raise, p_intI, p_intB, w_var, w_glo, w_bt, w_int, w_str, w_bl, w_non, w_bin, w_neg, w_cmp, w_ite, w_tup, w_lst, w_call, w_bi, w_me, w_ix, w_sl, w_rev, w_val, w_qand, w_qor, w_qnot, w_nil, w_cons, w_no, w_ex, w_of, w_enum, w_rng1, w_rng2, w_rng3, w_lc, w_lcIf, w_lcB, w_lcBI, wipe_nil, wipe_cons, List.map_cons, List.map_nil, OkS_set, s_nil, s_cons, s_asg, s_setIx, s_aug, s_expr, s_ret, s_retN, s_ite, s_whl, s_for, s_brk, s_cnt, s_pas, s_never, p_add, p_sub, p_mul, p_fdiv, p_mod, p_pow, p_lt, p_le, p_gt, p_ge, p_neg, p_abs, p_max, p_min, p_lenT, p_tupT, p_listT, p_augA, p_augS, p_trB, p_eqI, p_neI, set_nm, set_tp, exists_eq_left', exists_eq_left, Option.some.injEq, D.int.injEq, List.getElem?_cons_zero, List.getElem?_cons_succ, List.set_cons_zero, List.set_cons_succ, List.length_cons, List.length_nil, List.zip_cons_cons, List.zip_nil_left, List.zip_nil_right, List.foldl_cons, List.foldl_nil, List.all_cons, List.all_nil, decide_eq_true_eq, Bool.and_true, Bool.and_eq_true, decide_eq_false_iff_not, Nat.zero_add, Nat.reduceAdd, Nat.reduceLT, Nat.reduceLeDiff, true_and, and_true, Ok_ok, fr_ix0, fr_ix1, decide_true, List.getElem?_nil, w_andV, w_orV, w_notV, beq_tt, beq_tf, beq_ft, beq_ff, beq_self_eq_true, ne_eq, not_true_eq_false, not_false_eq_true, Bool.not_true, Bool.not_false, Bool.not_not, Bool.false_eq_true, Bool.true_eq_false, false_implies, true_implies, implies_true, and_self, reduceCtorEq, D.bl.injEq, p_isi, p_isis, p_slK, p_slT, p_revT, src_tup, p_eqB, p_neB, kit_int_dict, kit_int_tuple, kit_int_list, kit_int_bool, kit_str_dict, kit_str_tuple, kit_str_list, kit_str_bool, kit_bool_dict, kit_bool_tuple, kit_bool_list, kit_bool_bool, kit_NoneType_dict, kit_NoneType_tuple, kit_NoneType_list, kit_NoneType_bool, kit_tuple_dict, kit_tuple_tuple, kit_tuple_list, kit_tuple_bool, kit_list_dict, kit_list_tuple, kit_list_list, kit_list_bool, any_int, any_str, any_bool, any_non, any_tuple, any_list, beq_iff_eq, beq_eq_false_iff_ne, ↓reduceIte, atI_0, ixN_0, atI_1, ixN_1, atI_2, ixN_2, atI_3, ixN_3, atI_4, ixN_4, atI_5, ixN_5, atI_6, ixN_6, atI_7, ixN_7, atI_8, ixN_8, atI_9, ixN_9, q_ixT]
        refine ⟨by decide, f_law_same 3 (k + 2) _ _ S _ (Same.dbz (Same.po a (by omega))) fun J => ?_⟩
        simp only [cfg_F, cfg_G, cfg_lv, w_tryL, s_raise, p_intI, p_intB, w_var, w_glo, w_bt, w_int, w_str, w_bl, w_non, w_bin, w_neg, w_cmp, w_ite, w_tup, w_lst, w_call, w_bi, w_me, w_ix, w_sl, w_rev, w_val, w_qand, w_qor, w_qnot, w_nil, w_cons, w_no, w_ex, w_of, w_enum, w_rng1, w_rng2, w_rng3, w_lc, w_lcIf, w_lcB, w_lcBI, wipe_nil, wipe_cons, List.map_cons, List.map_nil, OkS_set, s_nil, s_cons, s_asg, s_setIx, s_aug, s_expr, s_ret, s_retN, s_ite, s_whl, s_for, s_brk, s_cnt, s_pas, s_never, p_add, p_sub, p_mul, p_fdiv, p_mod, p_pow, p_lt, p_le, p_gt, p_ge, p_neg, p_abs, p_max, p_min, p_lenT, p_tupT, p_listT, p_augA, p_augS, p_trB, p_eqI, p_neI, set_nm, set_tp, exists_eq_left', exists_eq_left, Option.some.injEq, D.int.injEq, List.getElem?_cons_zero, List.getElem?_cons_succ, List.set_cons_zero, List.set_cons_succ, List.length_cons, List.length_nil, List.zip_cons_cons, List.zip_nil_left, List.zip_nil_right, List.foldl_cons, List.foldl_nil, List.all_cons, List.all_nil, decide_eq_true_eq, Bool.and_true, Bool.and_eq_true, decide_eq_false_iff_not, Nat.zero_add, Nat.reduceAdd, Nat.reduceLT, Nat.reduceLeDiff, true_and, and_true, Ok_ok, fr_ix0, fr_ix1, decide_true, List.getElem?_nil, w_andV, w_orV, w_notV, beq_tt, beq_tf, beq_ft, beq_ff, beq_self_eq_true, ne_eq, not_true_eq_false, not_false_eq_true, Bool.not_true, Bool.not_false, Bool.not_not, Bool.false_eq_true, Bool.true_eq_false, false_implies, true_implies, implies_true, and_self, reduceCtorEq, D.bl.injEq, p_isi, p_isis, p_slK, p_slT, p_revT, src_tup, p_eqB, p_neB, kit_int_dict, kit_int_tuple, kit_int_list, kit_int_bool, kit_str_dict, kit_str_tuple, kit_str_list, kit_str_bool, kit_bool_dict, kit_bool_tuple, kit_bool_list, kit_bool_bool, kit_NoneType_dict, kit_NoneType_tuple, kit_NoneType_list, kit_NoneType_bool, kit_tuple_dict, kit_tuple_tuple, kit_tuple_list, kit_tuple_bool, kit_list_dict, kit_list_tuple, kit_list_list, kit_list_bool, any_int, any_str, any_bool, any_non, any_tuple, any_list, beq_iff_eq, beq_eq_false_iff_ne, ↓reduceIte, atI_0, ixN_0, atI_1, ixN_1, atI_2, ixN_2, atI_3, ixN_3, atI_4, ixN_4, atI_5, ixN_5, atI_6, ixN_6, atI_7, ixN_7, atI_8, ixN_8, atI_9, ixN_9, q_ixT]
        exact hI _ _ ⟨hr.app J, _, _, _, _, _, _, _, rfl⟩
      · have hlb := cf_last tb hbn
        have hposb := List.length_pos_iff.mpr hbn
        have r12 : (12 : Rat) ≠ 0 := by decide
        have eb : (b.map (12 * ·)).map (· / 12) = b := by
          rw [List.map_map]
          refine (List.map_congr_left (g := id) fun x _ => ?_).trans (List.map_id b)
          show 12 * x / 12 = x
          grind
        have wb : Wh 7 (b.map (12 * ·)) := fun y hy => by
          obtain ⟨x, hx, rfl⟩ := List.mem_map.mp hy
          obtain ⟨N, h1, h2⟩ := cb.2 x hx
          refine ⟨N, ?_, h2⟩
          rw [← h1]
          show 12 * x = x * 12
          grind
        have hlb12 : cf (b.map (12 * ·)) ((b.map (12 * ·)).length - 1) ≠ 0 := by
          rw [cf_smul, List.length_map]
          generalize cf b (b.length - 1) = y at *
          grind
        have kb : Bt 6 (cf (b.map (12 * ·)) ((b.map (12 * ·)).length - 1) / 12) := by
          rw [cf_smul, List.length_map]
          have e : 12 * cf b (b.length - 1) / 12 = cf b (b.length - 1) := by grind
          rw [e]; exact hb.get (by decide) _
        have lmap : (b.map (12 * ·)).length = b.length := List.length_map _
        have e144 : Bi' 8 ((144 : Nat) : Int) := Bi'.of (by decide)
        obtain ⟨d1, d2⟩ := div_fitM ca.gx wb hlb12 r12 (by decide) e144 (by decide) kb (by rw [lmap]; omega)
        obtain ⟨s1, s2⟩ := div_sizes (M := 24 + 8 * (9 - b.length)) ca.gx wb hlb12 r12 (by decide) e144 (by decide) kb (by rw [lmap]; omega)
        rw [eb] at d1 d2 s1 s2
        obtain ⟨v1, v2⟩ := pdiv_eq (a := a) hbn hlb
        obtain ⟨ql, rl⟩ := pdiv_len a b
        have lq : (trim (pdiv a b).1).length ≤ 9 - b.length := Nat.le_trans (trim_len _) (by omega)
        have lr : (trim (pdiv a b).2).length ≤ b.length - 1 := trim_len_lt fun n hn => v2 n (by omega)
        have back := pdiv_back (a := a) ta hbn hlb
        have tq := trim_trim (pdiv a b).1
        have tr := trim_trim (pdiv a b).2
        have s1 := s1.trim
        have s2 := s2.trim
        simp only [c_law_b0, B.drop, low, cfg_F, cfg_G, cfg_lv, w_tryL, s_raise, p_intI, p_intB, w_var, w_glo, w_bt, w_int, w_str, w_bl, w_non, w_bin, w_neg, w_cmp, w_ite, w_tup, w_lst, w_call, w_bi, w_me, w_ix, w_sl, w_rev, w_val, w_qand, w_qor, w_qnot, w_nil, w_cons, w_no, w_ex, w_of, w_enum, w_rng1, w_rng2, w_rng3, w_lc, w_lcIf, w_lcB, w_lcBI, wipe_nil, wipe_cons, List.map_cons, List.map_nil, OkS_set, s_nil, s_cons, s_asg, s_setIx, s_aug, s_expr, s_ret, s_retN, s_ite, s_whl, s_for, s_brk, s_cnt, s_pas, s_never, p_add, p_sub, p_mul, p_fdiv, p_mod, p_pow, p_lt, p_le, p_gt, p_ge, p_neg, p_abs, p_max, p_min, p_lenT, p_tupT, p_listT, p_augA, p_augS, p_trB, p_eqI, p_neI, set_nm, set_tp, exists_eq_left', exists_eq_left, Option.some.injEq, D.int.injEq, List.getElem?_cons_zero, List.getElem?_cons_succ, List.set_cons_zero, List.set_cons_succ, List.length_cons, List.length_nil, List.zip_cons_cons, List.zip_nil_left, List.zip_nil_right, List.foldl_cons, List.foldl_nil, List.all_cons, List.all_nil, decide_eq_true_eq, Bool.and_true, Bool.and_eq_true, decide_eq_false_iff_not, Nat.zero_add, Nat.reduceAdd, Nat.reduceLT, Nat.reduceLeDiff, true_and, and_true, Ok_ok, fr_ix0, fr_ix1, decide_true, List.getElem?_nil, w_andV, w_orV, w_notV, beq_tt, beq_tf, beq_ft, beq_ff, beq_self_eq_true, ne_eq, not_true_eq_false, not_false_eq_true, Bool.not_true, Bool.not_false, Bool.not_not, Bool.false_eq_true, Bool.true_eq_false, false_implies, true_implies, implies_true, and_self, reduceCtorEq, D.bl.injEq, p_isi, p_isis, p_slK, p_slT, p_revT, src_tup, p_eqB, p_neB, kit_int_dict, kit_int_tuple, kit_int_list, kit_int_bool, kit_str_dict, kit_str_tuple, kit_str_list, kit_str_bool, kit_bool_dict, kit_bool_tuple, kit_bool_list, kit_bool_bool, kit_NoneType_dict, kit_NoneType_tuple, kit_NoneType_list, kit_NoneType_bool, kit_tuple_dict, kit_tuple_tuple, kit_tuple_list, kit_tuple_bool, kit_list_dict, kit_list_tuple, kit_list_list, kit_list_bool, any_int, any_str, any_bool, any_non, any_tuple, any_list, beq_iff_eq, beq_eq_false_iff_ne, ↓reduceIte, atI_0, ixN_0, atI_1, ixN_1, atI_2, ixN_2, atI_3, ixN_3, atI_4, ixN_4, atI_5, ixN_5, atI_6, ixN_6, atI_7, ixN_7, atI_8, ixN_8, atI_9, ixN_9, q_ixT]
        refine f_divided hW 85 a b S _ hbn hlb (by omega) (by omega) (ha.mono (by decide)) (hb.mono (by decide)) d1 d2 fun J => ?_
        generalize trim (pdiv a b).1 = q at *
        generalize trim (pdiv a b).2 = r at *
        clear d1 d2 v1 v2 ql rl
        have hr1 := hr.app J
        generalize S ++ J = S1 at hr1 ⊢
        refine ⟨by decide, p_eq (n := 2) (m := 2) (.po b) (.po []) fun c hc => ?_⟩
        rw [show c = false by cases c; rfl; exact (hbn (po_inj (hc.mp rfl))).elim]
        clear hc
        simp only [show ∀ i, tyN S1 (.tup i) = some "tuple" from fun _ => rfl, p_lenPo, cfg_F, cfg_G, cfg_lv, w_tryL, s_raise, p_intI, p_intB, w_var, w_glo, w_bt, w_int, w_str, w_bl, w_non, w_bin, w_neg, w_cmp, w_ite, w_tup, w_lst, w_call, w_bi, w_me, w_ix, w_sl, w_rev, w_val, w_qand, w_qor, w_qnot, w_nil, w_cons, w_no, w_ex, w_of, w_enum, w_rng1, w_rng2, w_rng3, w_lc, w_lcIf, w_lcB, w_lcBI, wipe_nil, wipe_cons, List.map_cons, List.map_nil, OkS_set, s_nil, s_cons, s_asg, s_setIx, s_aug, s_expr, s_ret, s_retN, s_ite, s_whl, s_for, s_brk, s_cnt, s_pas, s_never, p_add, p_sub, p_mul, p_fdiv, p_mod, p_pow, p_lt, p_le, p_gt, p_ge, p_neg, p_abs, p_max, p_min, p_lenT, p_tupT, p_listT, p_augA, p_augS, p_trB, p_eqI, p_neI, set_nm, set_tp, exists_eq_left', exists_eq_left, Option.some.injEq, D.int.injEq, List.getElem?_cons_zero, List.getElem?_cons_succ, List.set_cons_zero, List.set_cons_succ, List.length_cons, List.length_nil, List.zip_cons_cons, List.zip_nil_left, List.zip_nil_right, List.foldl_cons, List.foldl_nil, List.all_cons, List.all_nil, decide_eq_true_eq, Bool.and_true, Bool.and_eq_true, decide_eq_false_iff_not, Nat.zero_add, Nat.reduceAdd, Nat.reduceLT, Nat.reduceLeDiff, true_and, and_true, Ok_ok, fr_ix0, fr_ix1, decide_true, List.getElem?_nil, w_andV, w_orV, w_notV, beq_tt, beq_tf, beq_ft, beq_ff, beq_self_eq_true, ne_eq, not_true_eq_false, not_false_eq_true, Bool.not_true, Bool.not_false, Bool.not_not, Bool.false_eq_true, Bool.true_eq_false, false_implies, true_implies, implies_true, and_self, reduceCtorEq, D.bl.injEq, p_isi, p_isis, p_slK, p_slT, p_revT, src_tup, p_eqB, p_neB, kit_int_dict, kit_int_tuple, kit_int_list, kit_int_bool, kit_str_dict, kit_str_tuple, kit_str_list, kit_str_bool, kit_bool_dict, kit_bool_tuple, kit_bool_list, kit_bool_bool, kit_NoneType_dict, kit_NoneType_tuple, kit_NoneType_list, kit_NoneType_bool, kit_tuple_dict, kit_tuple_tuple, kit_tuple_list, kit_tuple_bool, kit_list_dict, kit_list_tuple, kit_list_list, kit_list_bool, any_int, any_str, any_bool, any_non, any_tuple, any_list, beq_iff_eq, beq_eq_false_iff_ne, ↓reduceIte, atI_0, ixN_0, atI_1, ixN_1, atI_2, ixN_2, atI_3, ixN_3, atI_4, ixN_4, atI_5, ixN_5, atI_6, ixN_6, atI_7, ixN_7, atI_8, ixN_8, atI_9, ixN_9, q_ixT]
        refine ⟨fun h => by omega, fun _ => ?_⟩
        refine f_law_trimT hW (k + 5) r S1 _ (by omega) fun J => ?_
        have hr2 := hr1.app J
        generalize S1 ++ J = S2 at hr2 ⊢
        refine p_ne (n := 2) (m := 2) (.po _) (.po _) fun c hc => ?_
        rw [show c = false by cases c; rfl; exact (hc.mp rfl (by rw [← tr])).elim]
        clear hc
        simp only [cfg_F, cfg_G, cfg_lv, w_tryL, s_raise, p_intI, p_intB, w_var, w_glo, w_bt, w_int, w_str, w_bl, w_non, w_bin, w_neg, w_cmp, w_ite, w_tup, w_lst, w_call, w_bi, w_me, w_ix, w_sl, w_rev, w_val, w_qand, w_qor, w_qnot, w_nil, w_cons, w_no, w_ex, w_of, w_enum, w_rng1, w_rng2, w_rng3, w_lc, w_lcIf, w_lcB, w_lcBI, wipe_nil, wipe_cons, List.map_cons, List.map_nil, OkS_set, s_nil, s_cons, s_asg, s_setIx, s_aug, s_expr, s_ret, s_retN, s_ite, s_whl, s_for, s_brk, s_cnt, s_pas, s_never, p_add, p_sub, p_mul, p_fdiv, p_mod, p_pow, p_lt, p_le, p_gt, p_ge, p_neg, p_abs, p_max, p_min, p_lenT, p_tupT, p_listT, p_augA, p_augS, p_trB, p_eqI, p_neI, set_nm, set_tp, exists_eq_left', exists_eq_left, Option.some.injEq, D.int.injEq, List.getElem?_cons_zero, List.getElem?_cons_succ, List.set_cons_zero, List.set_cons_succ, List.length_cons, List.length_nil, List.zip_cons_cons, List.zip_nil_left, List.zip_nil_right, List.foldl_cons, List.foldl_nil, List.all_cons, List.all_nil, decide_eq_true_eq, Bool.and_true, Bool.and_eq_true, decide_eq_false_iff_not, Nat.zero_add, Nat.reduceAdd, Nat.reduceLT, Nat.reduceLeDiff, true_and, and_true, Ok_ok, fr_ix0, fr_ix1, decide_true, List.getElem?_nil, w_andV, w_orV, w_notV, beq_tt, beq_tf, beq_ft, beq_ff, beq_self_eq_true, ne_eq, not_true_eq_false, not_false_eq_true, Bool.not_true, Bool.not_false, Bool.not_not, Bool.false_eq_true, Bool.true_eq_false, false_implies, true_implies, implies_true, and_self, reduceCtorEq, D.bl.injEq, p_isi, p_isis, p_slK, p_slT, p_revT, src_tup, p_eqB, p_neB, kit_int_dict, kit_int_tuple, kit_int_list, kit_int_bool, kit_str_dict, kit_str_tuple, kit_str_list, kit_str_bool, kit_bool_dict, kit_bool_tuple, kit_bool_list, kit_bool_bool, kit_NoneType_dict, kit_NoneType_tuple, kit_NoneType_list, kit_NoneType_bool, kit_tuple_dict, kit_tuple_tuple, kit_tuple_list, kit_tuple_bool, kit_list_dict, kit_list_tuple, kit_list_list, kit_list_bool, any_int, any_str, any_bool, any_non, any_tuple, any_list, beq_iff_eq, beq_eq_false_iff_ne, ↓reduceIte, atI_0, ixN_0, atI_1, ixN_1, atI_2, ixN_2, atI_3, ixN_3, atI_4, ixN_4, atI_5, ixN_5, atI_6, ixN_6, atI_7, ixN_7, atI_8, ixN_8, atI_9, ixN_9, q_ixT]
        refine f_law_trimT hW (k + 5) q S2 _ (by omega) fun J => ?_
        have hr3 := hr2.app J
        generalize S2 ++ J = S3 at hr3 ⊢
        refine p_ne (n := 2) (m := 2) (.po _) (.po _) fun c hc => ?_
        rw [show c = false by cases c; rfl; exact (hc.mp rfl (by rw [← tq])).elim]
        clear hc
        simp only [cfg_F, cfg_G, cfg_lv, w_tryL, s_raise, p_intI, p_intB, w_var, w_glo, w_bt, w_int, w_str, w_bl, w_non, w_bin, w_neg, w_cmp, w_ite, w_tup, w_lst, w_call, w_bi, w_me, w_ix, w_sl, w_rev, w_val, w_qand, w_qor, w_qnot, w_nil, w_cons, w_no, w_ex, w_of, w_enum, w_rng1, w_rng2, w_rng3, w_lc, w_lcIf, w_lcB, w_lcBI, wipe_nil, wipe_cons, List.map_cons, List.map_nil, OkS_set, s_nil, s_cons, s_asg, s_setIx, s_aug, s_expr, s_ret, s_retN, s_ite, s_whl, s_for, s_brk, s_cnt, s_pas, s_never, p_add, p_sub, p_mul, p_fdiv, p_mod, p_pow, p_lt, p_le, p_gt, p_ge, p_neg, p_abs, p_max, p_min, p_lenT, p_tupT, p_listT, p_augA, p_augS, p_trB, p_eqI, p_neI, set_nm, set_tp, exists_eq_left', exists_eq_left, Option.some.injEq, D.int.injEq, List.getElem?_cons_zero, List.getElem?_cons_succ, List.set_cons_zero, List.set_cons_succ, List.length_cons, List.length_nil, List.zip_cons_cons, List.zip_nil_left, List.zip_nil_right, List.foldl_cons, List.foldl_nil, List.all_cons, List.all_nil, decide_eq_true_eq, Bool.and_true, Bool.and_eq_true, decide_eq_false_iff_not, Nat.zero_add, Nat.reduceAdd, Nat.reduceLT, Nat.reduceLeDiff, true_and, and_true, Ok_ok, fr_ix0, fr_ix1, decide_true, List.getElem?_nil, w_andV, w_orV, w_notV, beq_tt, beq_tf, beq_ft, beq_ff, beq_self_eq_true, ne_eq, not_true_eq_false, not_false_eq_true, Bool.not_true, Bool.not_false, Bool.not_not, Bool.false_eq_true, Bool.true_eq_false, false_implies, true_implies, implies_true, and_self, reduceCtorEq, D.bl.injEq, p_isi, p_isis, p_slK, p_slT, p_revT, src_tup, p_eqB, p_neB, kit_int_dict, kit_int_tuple, kit_int_list, kit_int_bool, kit_str_dict, kit_str_tuple, kit_str_list, kit_str_bool, kit_bool_dict, kit_bool_tuple, kit_bool_list, kit_bool_bool, kit_NoneType_dict, kit_NoneType_tuple, kit_NoneType_list, kit_NoneType_bool, kit_tuple_dict, kit_tuple_tuple, kit_tuple_list, kit_tuple_bool, kit_list_dict, kit_list_tuple, kit_list_list, kit_list_bool, any_int, any_str, any_bool, any_non, any_tuple, any_list, beq_iff_eq, beq_eq_false_iff_ne, ↓reduceIte, atI_0, ixN_0, atI_1, ixN_1, atI_2, ixN_2, atI_3, ixN_3, atI_4, ixN_4, atI_5, ixN_5, atI_6, ixN_6, atI_7, ixN_7, atI_8, ixN_8, atI_9, ixN_9, q_ixT]
        have hb2 : PB (24 + 8 * (9 - b.length)) b := hb.mono (by omega)
        have hfit : 1 + q.length * (b.length * (2 * (24 + 8 * (9 - b.length)) + 1)) ≤ 3000 := by
          have : b.length = 1 ∨ b.length = 2 ∨ b.length = 3 ∨ b.length = 4 := by omega
          have h2 : q.length * (b.length * (2 * (24 + 8 * (9 - b.length)) + 1)) ≤ (9 - b.length) * (b.length * (2 * (24 + 8 * (9 - b.length)) + 1)) := Nat.mul_le_mul lq (Nat.le_refl _)
          rcases this with h | h | h | h <;> rw [h] at h2 ⊢ <;> omega
        have hp : PB 3000 (pmul q b) := (pmO_bits s1 hb2 (by omega) q.length).mono hfit
        refine f_law_pmul hW (k + 2) q b S3 _ (s1.mono (by omega)) (hb.mono (by decide)) (by omega) (by omega) (fun j t h1 h2 => (pm_fitG s1 hb2 (by omega) hfit j t h1 h2).mono (by decide)) (fun j t => ((s1.get (by omega) j).mul (hb.get (by decide) t)).mono (by omega)) fun J => ?_
        have hr4 := hr3.app J
        generalize S3 ++ J = S4 at hr4 ⊢
        have lp : (trim (pmul q b)).length ≤ 20 := Nat.le_trans (trim_len _) (by rw [pmul_len]; omega)
        refine f_law_padd hW (k + 2) _ r S4 _ (hp.trim.mono (by decide)) (s2.mono (by omega)) (by omega) (by omega) fun J => ?_
        have hr5 := hr4.app J
        generalize S4 ++ J = S5 at hr5 ⊢
        refine p_ne (n := 2) (m := 2) (.po _) (.po _) fun c hc => ?_
        rw [show c = false by cases c; rfl; exact (hc.mp rfl (by rw [back])).elim]
        simp only [cfg_F, cfg_G, cfg_lv, w_tryL, s_raise, p_intI, p_intB, w_var, w_glo, w_bt, w_int, w_str, w_bl, w_non, w_bin, w_neg, w_cmp, w_ite, w_tup, w_lst, w_call, w_bi, w_me, w_ix, w_sl, w_rev, w_val, w_qand, w_qor, w_qnot, w_nil, w_cons, w_no, w_ex, w_of, w_enum, w_rng1, w_rng2, w_rng3, w_lc, w_lcIf, w_lcB, w_lcBI, wipe_nil, wipe_cons, List.map_cons, List.map_nil, OkS_set, s_nil, s_cons, s_asg, s_setIx, s_aug, s_expr, s_ret, s_retN, s_ite, s_whl, s_for, s_brk, s_cnt, s_pas, s_never, p_add, p_sub, p_mul, p_fdiv, p_mod, p_pow, p_lt, p_le, p_gt, p_ge, p_neg, p_abs, p_max, p_min, p_lenT, p_tupT, p_listT, p_augA, p_augS, p_trB, p_eqI, p_neI, set_nm, set_tp, exists_eq_left', exists_eq_left, Option.some.injEq, D.int.injEq, List.getElem?_cons_zero, List.getElem?_cons_succ, List.set_cons_zero, List.set_cons_succ, List.length_cons, List.length_nil, List.zip_cons_cons, List.zip_nil_left, List.zip_nil_right, List.foldl_cons, List.foldl_nil, List.all_cons, List.all_nil, decide_eq_true_eq, Bool.and_true, Bool.and_eq_true, decide_eq_false_iff_not, Nat.zero_add, Nat.reduceAdd, Nat.reduceLT, Nat.reduceLeDiff, true_and, and_true, Ok_ok, fr_ix0, fr_ix1, decide_true, List.getElem?_nil, w_andV, w_orV, w_notV, beq_tt, beq_tf, beq_ft, beq_ff, beq_self_eq_true, ne_eq, not_true_eq_false, not_false_eq_true, Bool.not_true, Bool.not_false, Bool.not_not, Bool.false_eq_true, Bool.true_eq_false, false_implies, true_implies, implies_true, and_self, reduceCtorEq, D.bl.injEq, p_isi, p_isis, p_slK, p_slT, p_revT, src_tup, p_eqB, p_neB, kit_int_dict, kit_int_tuple, kit_int_list, kit_int_bool, kit_str_dict, kit_str_tuple, kit_str_list, kit_str_bool, kit_bool_dict, kit_bool_tuple, kit_bool_list, kit_bool_bool, kit_NoneType_dict, kit_NoneType_tuple, kit_NoneType_list, kit_NoneType_bool, kit_tuple_dict, kit_tuple_tuple, kit_tuple_list, kit_tuple_bool, kit_list_dict, kit_list_tuple, kit_list_list, kit_list_bool, any_int, any_str, any_bool, any_non, any_tuple, any_list, beq_iff_eq, beq_eq_false_iff_ne, ↓reduceIte, atI_0, ixN_0, atI_1, ixN_1, atI_2, ixN_2, atI_3, ixN_3, atI_4, ixN_4, atI_5, ixN_5, atI_6, ixN_6, atI_7, ixN_7, atI_8, ixN_8, atI_9, ixN_9, q_ixT]
        exact hI _ _ ⟨hr5, _, _, _, _, _, _, _, rfl⟩
  · rintro env S ⟨hr, x0, x1, x2, x3, x4, x5, x6, rfl⟩
    refine ⟨rfl, ?_⟩
    simp only [cfg_F, cfg_G, cfg_lv, w_tryL, s_raise, p_intI, p_intB, w_var, w_glo, w_bt, w_int, w_str, w_bl, w_non, w_bin, w_neg, w_cmp, w_ite, w_tup, w_lst, w_call, w_bi, w_me, w_ix, w_sl, w_rev, w_val, w_qand, w_qor, w_qnot, w_nil, w_cons, w_no, w_ex, w_of, w_enum, w_rng1, w_rng2, w_rng3, w_lc, w_lcIf, w_lcB, w_lcBI, wipe_nil, wipe_cons, List.map_cons, List.map_nil, OkS_set, s_nil, s_cons, s_asg, s_setIx, s_aug, s_expr, s_ret, s_retN, s_ite, s_whl, s_for, s_brk, s_cnt, s_pas, s_never, p_add, p_sub, p_mul, p_fdiv, p_mod, p_pow, p_lt, p_le, p_gt, p_ge, p_neg, p_abs, p_max, p_min, p_lenT, p_tupT, p_listT, p_augA, p_augS, p_trB, p_eqI, p_neI, set_nm, set_tp, exists_eq_left', exists_eq_left, Option.some.injEq, D.int.injEq, List.getElem?_cons_zero, List.getElem?_cons_succ, List.set_cons_zero, List.set_cons_succ, List.length_cons, List.length_nil, List.zip_cons_cons, List.zip_nil_left, List.zip_nil_right, List.foldl_cons, List.foldl_nil, List.all_cons, List.all_nil, decide_eq_true_eq, Bool.and_true, Bool.and_eq_true, decide_eq_false_iff_not, Nat.zero_add, Nat.reduceAdd, Nat.reduceLT, Nat.reduceLeDiff, true_and, and_true, Ok_ok, fr_ix0, fr_ix1, decide_true, List.getElem?_nil, w_andV, w_orV, w_notV, beq_tt, beq_tf, beq_ft, beq_ff, beq_self_eq_true, ne_eq, not_true_eq_false, not_false_eq_true, Bool.not_true, Bool.not_false, Bool.not_not, Bool.false_eq_true, Bool.true_eq_false, false_implies, true_implies, implies_true, and_self, reduceCtorEq, D.bl.injEq, p_isi, p_isis, p_slK, p_slT, p_revT, src_tup, p_eqB, p_neB, kit_int_dict, kit_int_tuple, kit_int_list, kit_int_bool, kit_str_dict, kit_str_tuple, kit_str_list, kit_str_bool, kit_bool_dict, kit_bool_tuple, kit_bool_list, kit_bool_bool, kit_NoneType_dict, kit_NoneType_tuple, kit_NoneType_list, kit_NoneType_bool, kit_tuple_dict, kit_tuple_tuple, kit_tuple_list, kit_tuple_bool, kit_list_dict, kit_list_tuple, kit_list_list, kit_list_bool, any_int, any_str, any_bool, any_non, any_tuple, any_list, beq_iff_eq, beq_eq_false_iff_ne, ↓reduceIte, atI_0, ixN_0, atI_1, ixN_1, atI_2, ixN_2, atI_3, ixN_3, atI_4, ixN_4, atI_5, ixN_5, atI_6, ixN_6, atI_7, ixN_7, atI_8, ixN_8, atI_9, ixN_9, q_ixT]
end

open PySem PySem.Spec PyProof.Rows L2 DI
def top (i : Nat) : Stmt := PySem.Challenge.pw_tracecells_k04_whole_division.main.body.getD i (.Pass ⟨0, 0, 0, 0⟩)
def inCls (i j : Nat) : Stmt := match top i with
  | .ClassDef _ _ _ b _ _ _ _ _ _ _ => b.getD j (.Pass ⟨0, 0, 0, 0⟩)
  | _ => .Pass ⟨0, 0, 0, 0⟩
def d_divisor_of : Df := ⟨⟨("divisor_of", none), "divisor_of", "divisor_of", defArgs (top 5), defBody (top 5), defScope (top 5), [], []⟩, c_divisor_of⟩
def d_reduced : Df := ⟨⟨("reduced", none), "reduced", "reduced", defArgs (top 6), defBody (top 6), defScope (top 6), [], []⟩, c_reduced⟩
def d_subtract : Df := ⟨⟨("subtract", none), "subtract", "subtract", defArgs (top 7), defBody (top 7), defScope (top 7), [], []⟩, c_subtract⟩
def d_multiply : Df := ⟨⟨("multiply", none), "multiply", "multiply", defArgs (top 8), defBody (top 8), defScope (top 8), [], []⟩, c_multiply⟩
def d_divide : Df := ⟨⟨("divide", none), "divide", "divide", defArgs (top 9), defBody (top 9), defScope (top 9), [], []⟩, c_divide⟩
def d_trimmed : Df := ⟨⟨("trimmed", none), "trimmed", "trimmed", defArgs (top 12), defBody (top 12), defScope (top 12), [], []⟩, c_trimmed⟩
def d_divided : Df := ⟨⟨("divided", none), "divided", "divided", defArgs (top 13), defBody (top 13), defScope (top 13), [], []⟩, c_divided⟩
def d__law_draws : Df := ⟨⟨("_law_draws", none), "_law_draws", "_law_draws", defArgs (top 15), defBody (top 15), defScope (top 15), [], []⟩, c__law_draws⟩
def d__law_draw : Df := ⟨⟨("_law_draw", none), "_law_draw", "_law_draw", defArgs (top 16), defBody (top 16), defScope (top 16), [], []⟩, c__law_draw⟩
def d__law_pick : Df := ⟨⟨("_law_pick", none), "_law_pick", "_law_pick", defArgs (top 17), defBody (top 17), defScope (top 17), [], []⟩, c__law_pick⟩
def d__law_same : Df := ⟨⟨("_law_same", none), "_law_same", "_law_same", defArgs (top 18), defBody (top 18), defScope (top 18), [], []⟩, c__law_same⟩
def d__law_gcd : Df := ⟨⟨("_law_gcd", none), "_law_gcd", "_law_gcd", defArgs (top 21), defBody (top 21), defScope (top 21), [], []⟩, c__law_gcd⟩
def d__law_low : Df := ⟨⟨("_law_low", none), "_law_low", "_law_low", defArgs (top 22), defBody (top 22), defScope (top 22), [], []⟩, c__law_low⟩
def d__law_add : Df := ⟨⟨("_law_add", none), "_law_add", "_law_add", defArgs (top 23), defBody (top 23), defScope (top 23), [], []⟩, c__law_add⟩
def d__law_mul : Df := ⟨⟨("_law_mul", none), "_law_mul", "_law_mul", defArgs (top 24), defBody (top 24), defScope (top 24), [], []⟩, c__law_mul⟩
def d__law_trim : Df := ⟨⟨("_law_trim", none), "_law_trim", "_law_trim", defArgs (top 25), defBody (top 25), defScope (top 25), [], []⟩, c__law_trim⟩
def d__law_at : Df := ⟨⟨("_law_at", none), "_law_at", "_law_at", defArgs (top 26), defBody (top 26), defScope (top 26), [], []⟩, c__law_at⟩
def d__law_padd : Df := ⟨⟨("_law_padd", none), "_law_padd", "_law_padd", defArgs (top 27), defBody (top 27), defScope (top 27), [], []⟩, c__law_padd⟩
def d__law_pmul : Df := ⟨⟨("_law_pmul", none), "_law_pmul", "_law_pmul", defArgs (top 28), defBody (top 28), defScope (top 28), [], []⟩, c__law_pmul⟩
def d__law_small : Df := ⟨⟨("_law_small", none), "_law_small", "_law_small", defArgs (top 29), defBody (top 29), defScope (top 29), [], []⟩, c__law_small⟩
def d__law_poly : Df := ⟨⟨("_law_poly", none), "_law_poly", "_law_poly", defArgs (top 30), defBody (top 30), defScope (top 30), [], []⟩, c__law_poly⟩
def d_law : Df := ⟨⟨("law", none), "law", "law", defArgs (top 31), defBody (top 31), defScope (top 31), [], []⟩, c_law⟩
def x_DivisionByZero : Xd := ⟨"DivisionByZero", some ("dividend" : Str), ⟨("DivisionByZero", some ("__init__" : Str)), "__init__", "DivisionByZero.__init__", defArgs (inCls 2 0), defBody (inCls 2 0), defScope (inCls 2 0), [], []⟩⟩
theorem bx_DivisionByZero : bindD x_DivisionByZero.dd [("self" : Str), ("dividend" : Str)] := by
  intro kV doc pm an cdv ct us hl
  exact match us, hl with | [_, _], _ => rfl
def x_base : He.DefD := ⟨("TraceError", some ("__init__" : Str)), "__init__", "TraceError.__init__", defArgs (inCls 1 0), defBody (inCls 1 0), defScope (inCls 1 0), [], []⟩
theorem bx_base : bindD x_base [("self" : Str), ("class_name" : Str)] := by
  intro kV doc pm an cdv ct us hl
  exact match us, hl with | [_, _], _ => rfl
def x_try : He.DefD := ⟨("_law_try", none), "_law_try", "_law_try", defArgs (top 20), defBody (top 20), defScope (top 20), [], []⟩
def x_field : He.DefD := ⟨("_law_field", none), "_law_field", "_law_field", defArgs (top 19), defBody (top 19), defScope (top 19), [], []⟩
theorem bx_try : bindD x_try [("_law_ask" : Str)] := by
  intro kV doc pm an cdv ct us hl
  exact match us, hl with | [_], _ => rfl
theorem bx_field : bindD x_field [("_law_e" : Str), ("_law_word" : Str)] := by
  intro kV doc pm an cdv ct us hl
  exact match us, hl with | [_, _], _ => rfl
theorem b_divisor_of : d_divisor_of.bi := by
  intro kV doc pm an cdv ct us hl
  exact match us, hl with | [_, _], _ => rfl
theorem b_reduced : d_reduced.bi := by
  intro kV doc pm an cdv ct us hl
  exact match us, hl with | [_, _], _ => rfl
theorem b_subtract : d_subtract.bi := by
  intro kV doc pm an cdv ct us hl
  exact match us, hl with | [_, _], _ => rfl
theorem b_multiply : d_multiply.bi := by
  intro kV doc pm an cdv ct us hl
  exact match us, hl with | [_, _], _ => rfl
theorem b_divide : d_divide.bi := by
  intro kV doc pm an cdv ct us hl
  exact match us, hl with | [_, _], _ => rfl
theorem b_trimmed : d_trimmed.bi := by
  intro kV doc pm an cdv ct us hl
  exact match us, hl with | [_], _ => rfl
theorem b_divided : d_divided.bi := by
  intro kV doc pm an cdv ct us hl
  exact match us, hl with | [_, _], _ => rfl
theorem b__law_draws : d__law_draws.bi := by
  intro kV doc pm an cdv ct us hl
  exact match us, hl with | [_], _ => rfl
theorem b__law_draw : d__law_draw.bi := by
  intro kV doc pm an cdv ct us hl
  exact match us, hl with | [_, _], _ => rfl
theorem b__law_pick : d__law_pick.bi := by
  intro kV doc pm an cdv ct us hl
  exact match us, hl with | [_, _], _ => rfl
theorem b__law_same : d__law_same.bi := by
  intro kV doc pm an cdv ct us hl
  exact match us, hl with | [_, _], _ => rfl
theorem b__law_gcd : d__law_gcd.bi := by
  intro kV doc pm an cdv ct us hl
  exact match us, hl with | [_, _], _ => rfl
theorem b__law_low : d__law_low.bi := by
  intro kV doc pm an cdv ct us hl
  exact match us, hl with | [_, _], _ => rfl
theorem b__law_add : d__law_add.bi := by
  intro kV doc pm an cdv ct us hl
  exact match us, hl with | [_, _], _ => rfl
theorem b__law_mul : d__law_mul.bi := by
  intro kV doc pm an cdv ct us hl
  exact match us, hl with | [_, _], _ => rfl
theorem b__law_trim : d__law_trim.bi := by
  intro kV doc pm an cdv ct us hl
  exact match us, hl with | [_], _ => rfl
theorem b__law_at : d__law_at.bi := by
  intro kV doc pm an cdv ct us hl
  exact match us, hl with | [_, _], _ => rfl
theorem b__law_padd : d__law_padd.bi := by
  intro kV doc pm an cdv ct us hl
  exact match us, hl with | [_, _], _ => rfl
theorem b__law_pmul : d__law_pmul.bi := by
  intro kV doc pm an cdv ct us hl
  exact match us, hl with | [_, _], _ => rfl
theorem b__law_small : d__law_small.bi := by
  intro kV doc pm an cdv ct us hl
  exact match us, hl with | [_], _ => rfl
theorem b__law_poly : d__law_poly.bi := by
  intro kV doc pm an cdv ct us hl
  exact match us, hl with | [_, _], _ => rfl
theorem b_law : d_law.bi := by
  intro kV doc pm an cdv ct us hl
  exact match us, hl with | [_], _ => rfl
def Ds : List Df := [d_divisor_of, d_reduced, d_subtract, d_multiply, d_divide, d_trimmed, d_divided, d__law_draws, d__law_draw, d__law_pick, d__law_same, d__law_gcd, d__law_low, d__law_add, d__law_mul, d__law_trim, d__law_at, d__law_padd, d__law_pmul, d__law_small, d__law_poly, d_law]
def L : Hd := ⟨Ds, gl, [x_DivisionByZero], some x_base, some (x_try, x_field)⟩
theorem tab_eq : tabOf L = TB := rfl
theorem o_divisor_of : d_divisor_of.okB TB = true := by decide +kernel
theorem o_reduced : d_reduced.okB TB = true := by decide +kernel
theorem o_subtract : d_subtract.okB TB = true := by decide +kernel
theorem o_multiply : d_multiply.okB TB = true := by decide +kernel
theorem o_divide : d_divide.okB TB = true := by decide +kernel
theorem o_trimmed : d_trimmed.okB TB = true := by decide +kernel
theorem o_divided : d_divided.okB TB = true := by decide +kernel
theorem o__law_draws : d__law_draws.okB TB = true := by decide +kernel
theorem o__law_draw : d__law_draw.okB TB = true := by decide +kernel
theorem o__law_pick : d__law_pick.okB TB = true := by decide +kernel
theorem o__law_same : d__law_same.okB TB = true := by decide +kernel
theorem o__law_gcd : d__law_gcd.okB TB = true := by decide +kernel
theorem o__law_low : d__law_low.okB TB = true := by decide +kernel
theorem o__law_add : d__law_add.okB TB = true := by decide +kernel
theorem o__law_mul : d__law_mul.okB TB = true := by decide +kernel
theorem o__law_trim : d__law_trim.okB TB = true := by decide +kernel
theorem o__law_at : d__law_at.okB TB = true := by decide +kernel
theorem o__law_padd : d__law_padd.okB TB = true := by decide +kernel
theorem o__law_pmul : d__law_pmul.okB TB = true := by decide +kernel
theorem o__law_small : d__law_small.okB TB = true := by decide +kernel
theorem o__law_poly : d__law_poly.okB TB = true := by decide +kernel
theorem o_law : d_law.okB TB = true := by decide +kernel
theorem bis : ∀ d ∈ Ds, d.bi := List.forall_mem_cons.mpr ⟨b_divisor_of, List.forall_mem_cons.mpr ⟨b_reduced, List.forall_mem_cons.mpr ⟨b_subtract, List.forall_mem_cons.mpr ⟨b_multiply, List.forall_mem_cons.mpr ⟨b_divide, List.forall_mem_cons.mpr ⟨b_trimmed, List.forall_mem_cons.mpr ⟨b_divided, List.forall_mem_cons.mpr ⟨b__law_draws, List.forall_mem_cons.mpr ⟨b__law_draw, List.forall_mem_cons.mpr ⟨b__law_pick, List.forall_mem_cons.mpr ⟨b__law_same, List.forall_mem_cons.mpr ⟨b__law_gcd, List.forall_mem_cons.mpr ⟨b__law_low, List.forall_mem_cons.mpr ⟨b__law_add, List.forall_mem_cons.mpr ⟨b__law_mul, List.forall_mem_cons.mpr ⟨b__law_trim, List.forall_mem_cons.mpr ⟨b__law_at, List.forall_mem_cons.mpr ⟨b__law_padd, List.forall_mem_cons.mpr ⟨b__law_pmul, List.forall_mem_cons.mpr ⟨b__law_small, List.forall_mem_cons.mpr ⟨b__law_poly, List.forall_mem_cons.mpr ⟨b_law, fun _ h => nomatch h⟩⟩⟩⟩⟩⟩⟩⟩⟩⟩⟩⟩⟩⟩⟩⟩⟩⟩⟩⟩⟩⟩
theorem oks : (Ds.all fun d => d.okB (tabOf L)) = true := List.all_eq_true.mpr (List.forall_mem_cons.mpr ⟨o_divisor_of, List.forall_mem_cons.mpr ⟨o_reduced, List.forall_mem_cons.mpr ⟨o_subtract, List.forall_mem_cons.mpr ⟨o_multiply, List.forall_mem_cons.mpr ⟨o_divide, List.forall_mem_cons.mpr ⟨o_trimmed, List.forall_mem_cons.mpr ⟨o_divided, List.forall_mem_cons.mpr ⟨o__law_draws, List.forall_mem_cons.mpr ⟨o__law_draw, List.forall_mem_cons.mpr ⟨o__law_pick, List.forall_mem_cons.mpr ⟨o__law_same, List.forall_mem_cons.mpr ⟨o__law_gcd, List.forall_mem_cons.mpr ⟨o__law_low, List.forall_mem_cons.mpr ⟨o__law_add, List.forall_mem_cons.mpr ⟨o__law_mul, List.forall_mem_cons.mpr ⟨o__law_trim, List.forall_mem_cons.mpr ⟨o__law_at, List.forall_mem_cons.mpr ⟨o__law_padd, List.forall_mem_cons.mpr ⟨o__law_pmul, List.forall_mem_cons.mpr ⟨o__law_small, List.forall_mem_cons.mpr ⟨o__law_poly, List.forall_mem_cons.mpr ⟨o_law, fun _ h => nomatch h⟩⟩⟩⟩⟩⟩⟩⟩⟩⟩⟩⟩⟩⟩⟩⟩⟩⟩⟩⟩⟩⟩)
theorem hdok : HdOk L where
  oks := oks
  bis := bis
  xok := by decide +kernel
  xbi := List.forall_mem_cons.mpr ⟨bx_DivisionByZero, fun _ h => nomatch h⟩
  bok := fun d h => by
    have h : some x_base = some d := h
    cases h
    exact ⟨by decide +kernel, bx_base⟩
  bne := fun h => ⟨_, rfl⟩
  lok := fun p h => by
    have h : some (x_try, x_field) = some p := h
    cases h
    exact ⟨by decide +kernel, by decide +kernel, bx_try, bx_field⟩
def lo0 : List Str := ["TraceError", "DivisionByZero", "ZERO", "divisor_of", "reduced", "subtract", "multiply", "divide", "NOTHING", "trimmed", "divided", "_law_draws", "_law_draw", "_law_pick", "_law_same", "_law_field", "_law_try", "_law_gcd", "_law_low", "_law_add", "_law_mul", "_law_trim", "_law_at", "_law_padd", "_law_pmul", "_law_small", "_law_poly"]
def loose : List Str := lo0
abbrev R : PySem.W.OpenRow := PySem.W.OpenLaw.row PySem.Challenge.rw_tracecells_k04_whole_division
theorem run (w : World) : HandSHeadRun.RunEq R (PySem.W.view R.prog [31]) (hkOf L) (obOf L) 9000 loose w := by
  intro os
  kernel_rfl

theorem pure_law : PureLaw (tabOf L) (2 ^ 9000) 100 "law" 63 := fun cs hl _ => by
  obtain ⟨d, S, e, hd⟩ := (f_law (W := 2 ^ 9000) (Nat.le_refl _) 93 (by decide) cs hl).eq
  exact ⟨S, by rw [← hd]; exact e⟩
end K_k04
open PySem PySem.W PySem.Calls PyProof.Rows in
theorem PySem.Challenge.cw_tracecells_k04_whole_division_holds : PySem.Challenge.rw_tracecells_k04_whole_division.Holds := by
  w_on; o_law
  refine HandSHeadRun.head_any (r := OpenLaw.row PySem.Challenge.rw_tracecells_k04_whole_division) (q := view (OpenLaw.row PySem.Challenge.rw_tracecells_k04_whole_division).prog [31]) (H := DI.hkOf K_k04.L) (ob := DI.obOf K_k04.L) (M := 9000) (loose := K_k04.loose) (d := HandSHeadRun.topDef (OpenLaw.row PySem.Challenge.rw_tracecells_k04_whole_division).prog 31) (kwd := []) (DI.obOf_eq _)
    (by kernel_rfl) (fun s => by kernel_rfl) K_k04.run (by kernel_rfl) (by kernel_rfl) (by kernel_rfl) (by rfl) (by first | assumption | decide +kernel) (by decide +kernel) ⟨rfl, rfl, rfl, rfl, rfl, by decide +kernel⟩ ?hw ?hc
  case hw => w_witness2
  case hc => exact DI.walk_of (l := PySem.Challenge.rw_tracecells_k04_whole_division) (n := 63) (x := "_law_script") K_k04.d_law K_k04.hdok rfl (by decide) (by kernel_rfl) ⟨rfl, by decide, by decide⟩ (List.mem_of_getElem? (i := 21) rfl) (by kernel_rfl) (by rfl) (by rfl) rfl rfl K_k04.pure_law
