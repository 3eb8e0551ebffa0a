import PyProof.Rows.All
import HandS.ForMost
import HandS.Deep
import HandS.Flow
import HandS.IsInst
import HandS.Zip
import HandS.DictComp
import HandS.Star
import HandS.Style
import HandS.ClsMeth
import PyProof.NeKinds
import HandS.RaiseMore
import HandS.SortOrd
import KE.GoesMore
import KE.KDictZip
import KE.KDictItemsList
import HandS.Ends
import HandS.HeadHook2
import HandS.Head0
import HandS.Head1
import HandS.Head2
import HandS.HeadEnd
import HandS.HeadHook4
import PyProof.StrLawsRepr
import PySem.Challenge.RW_clobberwalk_k20_dominating_blocks
set_option Elab.async false
set_option linter.all false
set_option maxRecDepth 100000
/-! Ev: a small language of terms and its evaluator over data trees (own work for these claims). -/
namespace Ev
open PySem L2

/-! ### data -/
inductive D where
  | non | bl (b : Bool) | int (i : Int) | str (s : Str)
  | lst (xs : List D) | tup (xs : List D) | dct (kvs : List (Key × D)) | fn (i : Nat) | scr (ns : List Int)
  deriving Inhabited

mutual
def py : D → PyData
  | .non => .none
  | .bl b => .bool b
  | .int i => .int i
  | .str s => .str s
  | .lst xs => .list (pys xs)
  | .tup xs => .tuple (pys xs)
  | .dct _ => .dict [(.none, .none)]
  | .fn _ => .dict [(.none, .none)]
  | .scr _ => .dict [(.none, .none)]
def pys : List D → List PyData
  | [] => []
  | x :: xs => py x :: pys xs
end

def truD : D → Option Bool
  | .non => some false
  | .bl b => some b
  | .int i => some (i != 0)
  | .str s => if s.length ≤ sizeLine then some ((s.length : Int) != 0) else none
  | .lst xs => some (!xs.isEmpty)
  | .tup xs => some (!xs.isEmpty)
  | _ => none

def flatD : D → Bool
  | .non => true
  | .bl _ => true
  | .int _ => true
  | .str _ => true
  | _ => false
def eqF : D → D → Bool
  | .non, .non => true
  | .bl a, .bl b => a == b
  | .bl a, .int b => (if a then 1 else 0) == b
  | .int a, .bl b => a == (if b then 1 else 0)
  | .int a, .int b => a == b
  | .str a, .str b => a == b
  | _, _ => false

def valD (kvs : List (Key × D)) (k : Key) : Option D := (kvs.find? fun kv => decide (kv.1 = k)).map (·.2)
def putD (kvs : List (Key × D)) (k : Key) (v : D) : List (Key × D) :=
  if kvs.any (fun kv => decide (kv.1 = k)) then kvs.map fun kv => if kv.1 = k then (kv.1, v) else kv else kvs ++ [(k, v)]
def keyD : D → Option Key
  | .int i => some (.inl i)
  | .str s => some (.inr s)
  | _ => none
def kD : Key → D
  | .inl i => .int i
  | .inr s => .str s
def cutL {α : Type} (xs : List α) (lo hi : Option Int) : List α := (xs.drop (HT.sIx xs.length 0 lo)).take (HT.sIx xs.length xs.length hi - HT.sIx xs.length 0 lo)
/-- every second item, from the first on -/
def evens {α : Type} : List α → List α
  | [] => []
  | [x] => [x]
  | x :: _ :: r => x :: evens r
def blsD : List D → Option (List Bool)
  | [] => some []
  | .bl b :: r => (blsD r).map (b :: ·)
  | _ :: _ => none
def strsD : List D → Option (List Str)
  | [] => some []
  | .str b :: r => (strsD r).map (b :: ·)
  | _ :: _ => none

/-! ### operators -/
inductive BOp where | add | sub | mul | fdiv | mod | pow
  deriving DecidableEq
inductive COp where | lt | le | gt | ge | eq | ne | isin | notin
  deriving DecidableEq
inductive Bi where | len | all | any | list | tuple | sorted | int | abs | repr | dict | isInt | isBool | isStr | isTuple | isList | sum | set
  deriving DecidableEq
inductive Mu where | append | extend | pop | popAt | clear
  deriving DecidableEq

abbrev Rv := Bool × D
abbrev fz (d : D) : Rv := (false, d)
abbrev ow (d : D) : Rv := (true, d)

def mulOk (i j : Int) : Bool := (decide (-(2 ^ 64) < i) && decide (i < 2 ^ 64)) || (decide (-(2 ^ 64) < j) && decide (j < 2 ^ 64))
def powOk (i j : Int) : Bool := decide (0 ≤ j) && decide (j ≤ 1000000) && decide (i.natAbs < 2 ^ 64)

def binD : BOp → D → D → Option Rv
  | .add, .int i, .int j => some (fz (.int (i + j)))
  | .add, .str a, .str b => if a.length + b.length ≤ sizeLine then some (fz (.str (a ++ b))) else none
  | .add, .lst a, .lst b => if a.length + b.length ≤ sizeLine then some (ow (.lst (a ++ b))) else none
  | .sub, .int i, .int j => some (fz (.int (i - j)))
  | .mul, .int i, .int j => if mulOk i j then some (fz (.int (i * j))) else none
  | .mul, .lst a, .int k => if -(2 ^ 63) ≤ k ∧ k < 2 ^ 63 ∧ a.length * k.toNat ≤ sizeLine then some (ow (.lst (List.replicate k.toNat a).flatten)) else none
  | .fdiv, .int i, .int j => if 0 < j ∧ j < 1073741824 then some (fz (.int (i / j))) else none
  | .mod, .int i, .int j => if 0 < j then some (fz (.int (i % j))) else none
  | .pow, .int i, .int j => if powOk i j then some (fz (.int (i ^ j.toNat))) else none
  | _, _, _ => none

def scalD : D → D → Option Bool
  | .non, .non => some true
  | .non, .int _ => some false
  | .int _, .non => some false
  | .non, .bl _ => some false
  | .bl _, .non => some false
  | .non, .str _ => some false
  | .str _, .non => some false
  | .int i, .int j => some (decide (i = j))
  | .bl i, .bl j => some (decide (i = j))
  | .str i, .str j => some (decide (i = j))
  | .int _, .str _ => some false
  | .str _, .int _ => some false
  | .bl _, .str _ => some false
  | .str _, .bl _ => some false
  | .lst xs, .lst [] => some xs.isEmpty
  | .lst [], .lst ys => some ys.isEmpty
  | .tup xs, .tup [] => some xs.isEmpty
  | .tup [], .tup ys => some ys.isEmpty
  | _, _ => none
def eqD (d e : D) : Option Bool := match scalD d e with
  | some b => some b
  | none => if SeqAt.shaped (py d) = true ∧ SeqAt.shaped (py e) = true then some (PyData.eqv (py d) (py e)) else none
def inD (x y : D) : Option Bool :=
  match y with
  | .lst ys => if flatD x && ys.all flatD then some (ys.any fun z => eqF z x)
    else if SeqAt.shaped (py x) = true ∧ SeqAt.shaped (py (.lst ys)) = true then some ((pys ys).any fun z => PyData.eqv z (py x)) else none
  | .tup ys => if flatD x && ys.all flatD then some (ys.any fun z => eqF z x) else none
  | .dct kvs => (keyD x).map fun k => (valD kvs k).isSome
  | .str b => match x with
    | .str a => some (!(Builtin.Str.occurrences b a 0 b.length 1).isEmpty)
    | _ => none
  | _ => none
def cmpD : COp → D → D → Option Bool
  | .lt, .int i, .int j => some (decide (i < j))
  | .le, .int i, .int j => some (decide (i ≤ j))
  | .gt, .int i, .int j => some (decide (j < i))
  | .ge, .int i, .int j => some (decide (j ≤ i))
  | .le, .str a, .str b => some (!decide (b.cps.toList < a.cps.toList))
  | .eq, d, e => eqD d e
  | .ne, d, e => (eqD d e).map (! ·)
  | .isin, x, y => inD x y
  | .notin, x, y => (inD x y).map (! ·)
  | _, _, _ => none
def idxD : D → D → Option D
  | .lst xs, .int i => atI xs i
  | .tup xs, .int i => atI xs i
  | .str s, .int i => if s.length ≤ sizeLine then (atI s.cps.toList i).map fun c => .str ⟨#[c]⟩ else none
  | .dct kvs, k => (keyD k).bind (valD kvs)
  | _, _ => none
def slcD (lo hi : Option Int) : D → Option Rv
  | .lst xs => some (ow (.lst (cutL xs lo hi)))
  | .tup xs => if HT.sIx xs.length 0 lo = 0 ∧ HT.sIx xs.length xs.length hi = xs.length then none else some (fz (.tup (cutL xs lo hi)))
  | .str s => if s.length ≤ sizeLine then some (fz (.str (cutS s lo hi))) else none
  | .scr ns => some (ow (.lst ((cutL ns lo hi).map D.int)))
  | _ => none
def lenD : D → Option Int
  | .lst xs => some xs.length
  | .tup xs => some xs.length
  | .str s => if s.length ≤ sizeLine then some s.length else none
  | .dct kvs => some kvs.length
  | .scr ns => some ns.length
  | _ => none
/-- the sorted list where it is told by the first items, texts (rows that begin with different texts) -/
def leadD : D → Option Str
  | .tup (.str s :: _) => some s
  | _ => none
def leadsD : List D → Option (List Str)
  | [] => some []
  | d :: r => match leadD d, leadsD r with
    | some s, some ss => some (s :: ss)
    | _, _ => none
def sortD (xs : List D) : Option (List D) :=
  match xs with
  | [] => some []
  | [x] => some [x]
  | [x, y] => match leadD x, leadD y with
    | some a, some b => if a = b then none else if decide (b.cps.toList < a.cps.toList) then some [y, x] else some [x, y]
    | _, _ => none
  | _ => none
def dispD : D → Bool
  | .lst _ => true
  | .tup _ => true
  | _ => false
def reprD : D → Option Rv
  | .str s => if (reprText s).length ≤ sizeLine then some (fz (.str (reprText s))) else none
  | .int i => if i.natAbs.log2 < 1920 then some (fz (.str (Str.ofString (toString i)))) else none
  | .bl b => some (fz (.str (Str.ofString (if b then "True" else "False"))))
  | .non => some (fz (.str (Str.ofString "None")))
  | d => if dispD d = true ∧ (py d).showable = true ∧ (py d).hasDict = false ∧ (py d).shown.length ≤ sizeLine ∧ (py d).depth ≤ 64 then some (fz (.str (py d).shown)) else none
def biD : Bi → D → Option Rv
  | .len, d => (lenD d).map fun n => fz (.int n)
  | .all, .lst xs => (blsD xs).map fun bs => fz (.bl (bs.all id))
  | .any, .lst xs => (blsD xs).map fun bs => fz (.bl (bs.any id))
  | .list, .lst xs => some (ow (.lst xs))
  | .list, .tup xs => some (ow (.lst xs))
  | .list, .dct kvs => some (ow (.lst (kvs.map fun kv => kD kv.1)))
  | .tuple, .lst xs => some (fz (.tup xs))
  | .tuple, .tup xs => some (fz (.tup xs))
  | .sorted, .lst xs => (sortD xs).map fun ys => ow (.lst ys)
  | .int, .int i => some (fz (.int i))
  | .int, .bl b => some (fz (.int (if b then 1 else 0)))
  | .abs, .int i => some (fz (.int (if i < 0 then -i else i)))
  | .repr, d => reprD d
  | .dict, .dct kvs => some (ow (.dct kvs))
  | .isInt, .int _ => some (fz (.bl true))
  | .isInt, .bl _ => some (fz (.bl true))
  | .isInt, .fn _ => none
  | .isInt, .scr _ => none
  | .isInt, _ => some (fz (.bl false))
  | .isBool, .bl _ => some (fz (.bl true))
  | .isBool, .fn _ => none
  | .isBool, .scr _ => none
  | .isBool, _ => some (fz (.bl false))
  | .isStr, .str _ => some (fz (.bl true))
  | .isStr, .fn _ => none
  | .isStr, .scr _ => none
  | .isStr, _ => some (fz (.bl false))
  | .isTuple, .tup _ => some (fz (.bl true))
  | .isTuple, .fn _ => none
  | .isTuple, .scr _ => none
  | .isTuple, _ => some (fz (.bl false))
  | .isList, .lst _ => some (fz (.bl true))
  | .isList, .fn _ => none
  | .isList, .scr _ => none
  | .isList, _ => some (fz (.bl false))
  | _, _ => none

/-! ### terms -/
mutual
inductive Tm where
  | var (i : Nat) | cst (d : D) | gl (i : Nat) | fnv (i : Nat)
  | bin (o : BOp) (a b : Tm) | neg (a : Tm) | notv (a : Tm)
  | cmp (o : COp) (a b : Tm) | isN (a : Tm) | isNN (a : Tm) | chain (o p : COp) (a b c : Tm)
  | andv (a b : Tm) | orv (a b : Tm) | ife (c : Ct) (a b : Tm)
  | idx (a b : Tm) | slc (a : Tm) (lo hi : To) | evn (a : Tm) (lo : To) | rev (a : Tm)
  | bi (f : Bi) (a : Tm) | join (s a : Tm) | dget (d k x : Tm) | zipl (a b : Tm)
  | gin (g : Nat) (a : Tm) | gidx (g : Nat) (a : Tm) | gdict (g : Nat)
  | tupd (es : Tms) | lstd (es : Tms) | dctd (ps : Tps)
  | call (f : Nat) (as : Tms) | callv (i : Nat) (as : Tms)
  | comp (e : Tm) (tg : List Nat) (one : Bool) (it : It) (c : To') (own : List Nat)
  | dcomp (k v : Tm) (tg : List Nat) (one : Bool) (it : It) (own : List Nat)
  | mu (m : Mu) (i : Nat) (as : Tms)
inductive To where | no | yes (a : Tm)
inductive To' where | no | yes (c : Ct)
inductive Tms where | nil | cons (a : Tm) (r : Tms) | star (a : Tm) (r : Tms)
inductive Tps where | nil | cons (k v : Tm) (r : Tps)
inductive It where | seq (a : Tm) | rng1 (a : Tm) | rng2 (a b : Tm) | enum (a : Tm) | zip (a b : Tm)
inductive Ct where | val (a : Tm) | cmp (a : Tm) | and (a b : Ct) | or (a b : Ct) | not (a : Ct)
end
mutual
inductive Sm where
  | asg (i : Nat) (a : Tm) | unp (is : List Nat) (a : Tm) | par (is : List Nat) (es : Tms)
  | setk (i : Nat) (k v : Tm) | aug (i : Nat) (a : Tm)
  | ifs (c : Ct) (a b : Sms) | fors (tg : List Nat) (one : Bool) (it : It) (b : Sms) | whiles (c : Ct) (b : Sms)
  | ret (a : Tm) | retn | expr (a : Tm) | pass | brk | cont | rais (c : Nat) (as : Tms)
inductive Sms where | nil | cons (s : Sm) (r : Sms)
end
structure Fd where
  np : Nat
  nn : Nat
  keep : Nat
  star : Bool
  body : Sms

/-! ### the evaluator -/
abbrev Slot := Option Rv
abbrev Ev := List Slot
structure Exc where
  cls : Nat
  as : List D
inductive Out (α : Type) where
  | ok (a : α) (e : Ev) | exc (x : Exc) (e : Ev) | stuck
inductive COut where
  | ok (r : Rv) (outs : List Slot) | exc (x : Exc) (outs : List Slot) | stuck
inductive Flow' where
  | nx | brk | cont | ret (r : Rv)
inductive Opd where
  | v (r : Rv) | s (i : Nat)

def Out.bind {α β : Type} (o : Out α) (f : α → Ev → Out β) : Out β :=
  match o with
  | .ok a e => f a e
  | .exc x e => .exc x e
  | .stuck => .stuck
def lift {α : Type} (o : Option α) (e : Ev) : Out α :=
  match o with
  | some a => .ok a e
  | none => .stuck

def getS (env : Ev) (i : Nat) : Slot := (env[i]?).getD none
/-- the value of a name that goes somewhere: it is frozen -/
def readV (i : Nat) (env : Ev) : Out Rv :=
  match getS env i with
  | some (true, d) => .ok (fz d) (env.set i (some (fz d)))
  | some (false, d) => .ok (fz d) env
  | none => .stuck
/-- an operand: a name that owns is only looked at -/
def opd (t : Tm) (m : Ev → Out Rv) (env : Ev) : Out Opd :=
  match t with
  | .var i => match getS env i with
    | some (true, _) => .ok (.s i) env
    | some (false, d) => .ok (.v (fz d)) env
    | none => .stuck
  | _ => (m env).bind fun r e => .ok (.v r) e
def rdO (env : Ev) : Opd → Option D
  | .v r => some r.2
  | .s i => (getS env i).map (·.2)
def op1 (a : Tm) (ma : Ev → Out Rv) (f : D → Option Rv) (env : Ev) : Out Rv :=
  (opd a ma env).bind fun x e1 => match rdO e1 x with
    | some d => lift (f d) e1
    | none => .stuck
def op2 (a : Tm) (ma : Ev → Out Rv) (b : Tm) (mb : Ev → Out Rv) (f : D → D → Option Rv) (env : Ev) : Out Rv :=
  (opd a ma env).bind fun x e1 => (opd b mb e1).bind fun y e2 => match rdO e2 x, rdO e2 y with
    | some d, some d' => lift (f d d') e2
    | _, _ => .stuck
/-- the arguments as they are handed: own names are lent to the first keep parameters, frozen for the others -/
def lendAll (keep : Nat) : Nat → List Opd → Ev → Option (List Rv × Ev)
  | _, [], env => some ([], env)
  | j, .v r :: os, env => match lendAll keep (j + 1) os env with
    | some (rs, e) => some (r :: rs, e)
    | none => none
  | j, .s i :: os, env => match getS env i with
    | none => none
    | some (o, d) =>
      let r : Rv := (o && decide (j < keep), d)
      match lendAll keep (j + 1) os (env.set i (some r)) with
      | some (rs, e) => some (r :: rs, e)
      | none => none
def slotsOf : List Opd → List Nat
  | [] => []
  | .v _ :: r => slotsOf r
  | .s i :: r => i :: slotsOf r
def backOne (o : Opd) (r : Rv) (s : Slot) (env : Ev) : Ev :=
  match o, r.1 with
  | .s i, true => env.set i s
  | _, _ => env
def giveBack : List Opd → List Rv → List Slot → Ev → Ev
  | o :: os, r :: rs, s :: ss, env => giveBack os rs ss (backOne o r s env)
  | _, _, _, env => env
def wipeE (env : Ev) : List Nat → Ev
  | [] => env
  | i :: r => (wipeE env r).set i none
def restE (env old : Ev) : List Nat → Ev
  | [] => env
  | i :: r => (restE env old r).set i (getS old i)
def putE (keep i : Nat) (r : Rv) (env : Ev) : Option Ev := if keep ≤ i ∧ i < env.length then some (env.set i (some r)) else none
def putAll (keep : Nat) : List Nat → List D → Ev → Option Ev
  | [], [], env => some env
  | i :: is, d :: ds, env => match putE keep i (fz d) env with
    | some e => putAll keep is ds e
    | none => none
  | _, _, _ => none
/-- a loop's target: one name, or a row of names -/
def target (keep : Nat) (tg : List Nat) (one : Bool) (d : D) (env : Ev) : Option Ev :=
  match one, tg with
  | true, [i] => putE keep i (fz d) env
  | false, is => match d with
    | .tup ds => putAll keep is ds env
    | _ => none
  | _, _ => none
def compLoop (f : D → Ev → Out (Option D)) : List D → Ev → Out (List D)
  | [], env => .ok [] env
  | d :: ds, env => (f d env).bind fun o e1 => (compLoop f ds e1).bind fun r e2 => .ok (match o with | some y => y :: r | none => r) e2
def dcompLoop (f : D → Ev → Out (Key × D)) : List D → List (Key × D) → Ev → Out (List (Key × D))
  | [], acc, env => .ok acc env
  | d :: ds, acc, env => (f d env).bind fun o e1 => dcompLoop f ds (putD acc o.1 o.2) e1
def forLoop (f : D → Ev → Out Flow') : List D → Ev → Out Flow'
  | [], env => .ok .nx env
  | d :: ds, env => match f d env with
    | .ok .nx e => forLoop f ds e
    | .ok .cont e => forLoop f ds e
    | .ok .brk e => .ok .nx e
    | .ok (.ret r) e => .ok (.ret r) e
    | .exc x e => .exc x e
    | .stuck => .stuck
def whileLoop (c : Ev → Out Bool) (b : Ev → Out Flow') : Nat → Ev → Out Flow'
  | 0, _ => .stuck
  | n + 1, env => (c env).bind fun t e1 => if t then
      (match b e1 with
        | .ok .nx e => whileLoop c b n e
        | .ok .cont e => whileLoop c b n e
        | .ok .brk e => .ok .nx e
        | .ok (.ret r) e => .ok (.ret r) e
        | .exc x e => .exc x e
        | .stuck => .stuck)
    else .ok .nx e1
def itemsD : D → Option (List D)
  | .lst xs => some xs
  | .tup xs => some xs
  | .dct kvs => some (kvs.map fun kv => kD kv.1)
  | .str s => some (s.cps.toList.map fun c => .str ⟨#[c]⟩)
  | .scr ns => some (ns.map D.int)
  | _ => none
def enumD (i : Nat) : List D → List D
  | [] => []
  | d :: ds => .tup [.int i, d] :: enumD (i + 1) ds
def zipD : List D → List D → List D
  | x :: xs, y :: ys => .tup [x, y] :: zipD xs ys
  | _, _ => []
def seqD : D → Option (List D)
  | .lst xs => some xs
  | .tup xs => some xs
  | _ => none
def rngD (lo : Int) (n : Nat) : List D := (List.range n).map fun (i : Nat) => .int (lo + (i : Int))
def rngOk (i : Int) : Bool := decide (-(2 ^ 62) ≤ i) && decide (i < 2 ^ 62)

structure Pg where
  gc : List D
  gd : List (List (Key × D))
  keeps : Nat → Nat

def muD (m : Mu) (xs as : List D) : Option (D × List D) :=
  match m, as with
  | .append, [d] => if xs.length < sizeLine then some (.non, xs ++ [d]) else none
  | .extend, [.lst ys] => if xs.length + ys.length ≤ sizeLine then some (.non, xs ++ ys) else none
  | .extend, [.tup ys] => if xs.length + ys.length ≤ sizeLine then some (.non, xs ++ ys) else none
  | .pop, [] => match xs[xs.length - 1]? with
    | some y => some (y, xs.dropLast)
    | none => none
  | .popAt, [.int i] => if xs.length ≤ sizeLine then
      match ixN xs.length i with
      | some k => match xs[k]? with
        | some y => some (y, xs.eraseIdx k)
        | none => none
      | none => none
    else none
  | .clear, [] => some (.non, [])
  | _, _ => none

section
variable (pg : Pg) (cf : Nat → List Rv → COut) (keep : Nat)

def doCall (f : Nat) (os : List Opd) (env : Ev) : Out Rv :=
  if (slotsOf os).Nodup then
    match lendAll (pg.keeps f) 0 os env with
    | none => .stuck
    | some (rs, e) => match cf f rs with
      | .ok r outs => .ok r (giveBack os rs outs e)
      | .exc x outs => .exc x (giveBack os rs outs e)
      | .stuck => .stuck
  else .stuck

mutual
def evE : Tm → Ev → Out Rv
  | .var i, env => readV i env
  | .cst d, env => .ok (fz d) env
  | .gl i, env => lift ((pg.gc[i]?).map fz) env
  | .fnv i, env => .ok (fz (.fn i)) env
  | .bin o a b, env => op2 a (evE a) b (evE b) (binD o) env
  | .neg a, env => op1 a (evE a) (fun d => match d with | .int i => some (fz (.int (-i))) | _ => none) env
  | .notv a, env => op1 a (evE a) (fun d => (truD d).map fun k => fz (.bl (!k))) env
  | .cmp o a b, env => op2 a (evE a) b (evE b) (fun x y => (cmpD o x y).map fun k => fz (.bl k)) env
  | .isN a, env => op1 a (evE a) (fun d => some (fz (.bl (match d with | .non => true | _ => false)))) env
  | .isNN a, env => op1 a (evE a) (fun d => some (fz (.bl (match d with | .non => false | _ => true)))) env
  | .chain o p a b c, env => (opd a (evE a) env).bind fun x e1 => (opd b (evE b) e1).bind fun y e2 => match rdO e2 x, rdO e2 y with
    | some d, some d' => match cmpD o d d' with
      | some true => (opd c (evE c) e2).bind fun z e3 => match rdO e3 y, rdO e3 z with
        | some u, some u' => lift ((cmpD p u u').map fun k => fz (.bl k)) e3
        | _, _ => .stuck
      | some false => .ok (fz (.bl false)) e2
      | none => .stuck
    | _, _ => .stuck
  | .andv a b, env => (evE a env).bind fun r e1 => match truD r.2 with
    | some true => evE b e1
    | some false => .ok r e1
    | none => .stuck
  | .orv a b, env => (evE a env).bind fun r e1 => match truD r.2 with
    | some true => .ok r e1
    | some false => evE b e1
    | none => .stuck
  | .ife c a b, env => (evC c env).bind fun t e1 => if t then evE a e1 else evE b e1
  | .idx a b, env => op2 a (evE a) b (evE b) (fun x y => (idxD x y).map fz) env
  | .slc a lo hi, env => (opd a (evE a) env).bind fun x e1 => (evTo lo e1).bind fun l e2 => (evTo hi e2).bind fun h e3 => match rdO e3 x with
    | some d => lift (slcD l h d) e3
    | none => .stuck
  | .evn a lo, env => (opd a (evE a) env).bind fun x e1 => (evTo lo e1).bind fun l e2 => match rdO e2 x with
    | some (.lst xs) => lift (match l with
      | none => some (ow (.lst (evens xs)))
      | some 1 => some (ow (.lst (evens (xs.drop 1))))
      | _ => none) e2
    | _ => .stuck
  | .rev a, env => op1 a (evE a) (fun d => match d with | .lst xs => some (ow (.lst xs.reverse)) | _ => none) env
  | .bi f a, env => op1 a (evE a) (biD f) env
  | .join s a, env => (evE s env).bind fun x e1 => match x.2 with
    | .str z => op1 a (evE a) (fun y => match y with
      | .lst ys => (strsD ys).bind fun ss => if (ss.map (·.length)).sum + ss.length * z.length ≤ 16777216 then some (fz (.str (Txt.join z ss))) else none
      | _ => none) e1
    | _ => .stuck
  | .dget d k x, env => (opd d (evE d) env).bind fun x1 e1 => match rdO e1 x1 with
    | some (.dct _) => (opd k (evE k) e1).bind fun y e2 => (evE x e2).bind fun z e3 => match rdO e3 x1, rdO e3 y with
      | some (.dct kvs), some u => match keyD u with
        | some key => .ok (fz ((valD kvs key).getD z.2)) e3
        | none => .stuck
      | _, _ => .stuck
    | _ => .stuck
  | .zipl a b, env => op2 a (evE a) b (evE b) (fun x y => match x, y with
    | .lst xs, .lst ys => some (ow (.lst (zipD xs ys)))
    | .tup xs, .tup ys => some (ow (.lst (zipD xs ys)))
    | _, _ => none) env
  | .gin g a, env => op1 a (evE a) (fun d => match d, pg.gd[g]? with
    | .str s, some kvs => some (fz (.bl (valD kvs (.inr s)).isSome))
    | _, _ => none) env
  | .gidx g a, env => op1 a (evE a) (fun d => match d, pg.gd[g]? with
    | .str s, some kvs => (valD kvs (.inr s)).map fz
    | _, _ => none) env
  | .gdict g, env => lift ((pg.gd[g]?).map fun kvs => ow (.dct kvs)) env
  | .tupd es, env => (evF es env).bind fun ds e1 => if ds.length ≤ sizeLine then .ok (fz (.tup ds)) e1 else .stuck
  | .lstd es, env => (evF es env).bind fun ds e1 => if ds.length ≤ sizeLine then .ok (ow (.lst ds)) e1 else .stuck
  | .dctd ps, env => (evP ps env).bind fun kvs e1 => if kvs.length ≤ 15 then .ok (ow (.dct (kvs.foldl (fun acc kv => putD acc kv.1 kv.2) []))) e1 else .stuck
  | .call f as, env => (evA as env).bind fun os e1 => doCall pg cf f os e1
  | .callv i as, env => match getS env i with
    | some (false, .fn f) => (evA as env).bind fun os e1 => doCall pg cf f os e1
    | _ => .stuck
  | .comp e tg one it c own, env => (evI it env).bind fun items e1 =>
      if items.length ≤ sizeLine ∧ tg.all own.contains = true then
        (compLoop (fun d en => match target keep tg one d en with
          | none => .stuck
          | some en1 => (evTc c en1).bind fun t en2 => if t then (evE e en2).bind fun r en3 => .ok (some r.2) (wipeE en3 own) else .ok none (wipeE en2 own)) items (wipeE e1 own)).bind fun r e2 =>
        .ok (ow (.lst r)) (restE e2 e1 own)
      else .stuck
  | .dcomp k v tg one it own, env => (evI it env).bind fun items e1 =>
      if items.length ≤ sizeLine ∧ tg.all own.contains = true then
        (dcompLoop (fun d en => match target keep tg one d en with
          | none => .stuck
          | some en1 => (evE k en1).bind fun r en2 => (evE v en2).bind fun r' en3 => match keyD r.2 with
            | some key => .ok (key, r'.2) (wipeE en3 own)
            | none => .stuck) items [] (wipeE e1 own)).bind fun r e2 =>
        .ok (ow (.dct r)) (restE e2 e1 own)
      else .stuck
  | .mu m i as, env => match getS env i with
    | some (true, .lst _) => (evF as env).bind fun ds e1 => match getS e1 i with
      | some (true, .lst xs) => match muD m xs ds with
        | some (d, ys) => .ok (fz d) (e1.set i (some (ow (.lst ys))))
        | none => .stuck
      | _ => .stuck
    | _ => .stuck
/-- items of a display: frozen -/
def evF : Tms → Ev → Out (List D)
  | .nil, env => .ok [] env
  | .cons a r, env => (evE a env).bind fun x e1 => (evF r e1).bind fun xs e2 => .ok (x.2 :: xs) e2
  | .star a r, env => (evE a env).bind fun x e1 => match seqD x.2 with
    | some ys => (evF r e1).bind fun xs e2 => .ok (ys ++ xs) e2
    | none => .stuck
/-- arguments -/
def evA : Tms → Ev → Out (List Opd)
  | .nil, env => .ok [] env
  | .cons a r, env => (opd a (evE a) env).bind fun x e1 => (evA r e1).bind fun xs e2 => .ok (x :: xs) e2
  | .star _ _, _ => .stuck
def evP : Tps → Ev → Out (List (Key × D))
  | .nil, env => .ok [] env
  | .cons k v r, env => (evE k env).bind fun x e1 => (evE v e1).bind fun y e2 => match keyD x.2 with
    | some key => (evP r e2).bind fun xs e3 => .ok ((key, y.2) :: xs) e3
    | none => .stuck
def evTo : To → Ev → Out (Option Int)
  | .no, env => .ok none env
  | .yes a, env => (evE a env).bind fun r e1 => match r.2 with
    | .int i => .ok (some i) e1
    | _ => .stuck
def evTc : To' → Ev → Out Bool
  | .no, env => .ok true env
  | .yes c, env => evC c env
def evI : It → Ev → Out (List D)
  | .seq a, env => (evE a env).bind fun r e1 => lift (itemsD r.2) e1
  | .rng1 a, env => (evE a env).bind fun r e1 => match r.2 with
    | .int n => if rngOk n then .ok (rngD 0 n.toNat) e1 else .stuck
    | _ => .stuck
  | .rng2 a b, env => (evE a env).bind fun r e1 => (evE b e1).bind fun r' e2 => match r.2, r'.2 with
    | .int i, .int j => if rngOk i && rngOk j then .ok (rngD i (j - i).toNat) e2 else .stuck
    | _, _ => .stuck
  | .enum a, env => (evE a env).bind fun r e1 => match seqD r.2 with
    | some xs => .ok (enumD 0 xs) e1
    | none => .stuck
  | .zip a b, env => (evE a env).bind fun r e1 => (evE b e1).bind fun r' e2 => match r.2, r'.2 with
    | .lst xs, .lst ys => .ok (zipD xs ys) e2
    | .tup xs, .tup ys => .ok (zipD xs ys) e2
    | _, _ => .stuck
def evC : Ct → Ev → Out Bool
  | .val a, env => (opd a (evE a) env).bind fun x e1 => match (rdO e1 x).bind truD with
    | some k => .ok k e1
    | none => .stuck
  | .cmp a, env => (evE a env).bind fun r e1 => match r.2 with
    | .bl k => .ok k e1
    | _ => .stuck
  | .and a b, env => (evC a env).bind fun t e1 => if t then evC b e1 else .ok false e1
  | .or a b, env => (evC a env).bind fun t e1 => if t then .ok true e1 else evC b e1
  | .not a, env => (evC a env).bind fun t e1 => .ok (!t) e1
end
/-- the right sides of a, b = e, e': each keeps what it owns -/
def evR : Tms → Ev → Out (List Rv)
  | .nil, env => .ok [] env
  | .cons a r, env => (evE pg cf keep a env).bind fun x e1 => (evR r e1).bind fun xs e2 => .ok (x :: xs) e2
  | .star _ _, _ => .stuck
def putRs : List Nat → List Rv → Ev → Option Ev
  | [], [], env => some env
  | i :: is, r :: rs, env => match putE keep i r env with
    | some e => putRs is rs e
    | none => none
  | _, _, _ => none
mutual
def exS (wf : Nat) : Sm → Ev → Out Flow'
  | .asg i a, env => (evE pg cf keep a env).bind fun r e1 => (lift (putE keep i r e1) e1).bind fun e2 _ => .ok .nx e2
  | .unp is a, env => (evE pg cf keep a env).bind fun r e1 => (lift (target keep is false r.2 e1) e1).bind fun e2 _ => .ok .nx e2
  | .par is es, env => (evR pg cf keep es env).bind fun rs e1 => (lift (putRs keep is rs e1) e1).bind fun e2 _ => .ok .nx e2
  | .setk i k v, env => (evE pg cf keep v env).bind fun x e1 => match getS e1 i with
    | some (true, .dct _) => (opd k (evE pg cf keep k) e1).bind fun y e2 => match getS e2 i, (rdO e2 y).bind keyD with
      | some (true, .dct kvs), some key => if kvs.length < sizeLine then .ok .nx (e2.set i (some (ow (.dct (putD kvs key x.2))))) else .stuck
      | _, _ => .stuck
    | _ => .stuck
  | .aug i a, env => match getS env i with
    | some (false, .int m) => (evE pg cf keep a env).bind fun x e1 => match x.2 with
      | .int n => (lift (putE keep i (fz (.int (m + n))) e1) e1).bind fun e2 _ => .ok .nx e2
      | _ => .stuck
    | _ => .stuck
  | .ifs c a b, env => (evC pg cf keep c env).bind fun t e1 => if t then exSs wf a e1 else exSs wf b e1
  | .fors tg one it b, env => (evI pg cf keep it env).bind fun items e1 =>
      forLoop (fun d en => match target keep tg one d en with
        | none => .stuck
        | some en1 => exSs wf b en1) items e1
  | .whiles c b, env => whileLoop (evC pg cf keep c) (exSs wf b) wf env
  | .ret a, env => match a with
    | .var i => match getS env i with
      | some (true, d) => if keep ≤ i then .ok (.ret (ow d)) env else .ok (.ret (fz d)) (env.set i (some (fz d)))
      | some (false, d) => .ok (.ret (fz d)) env
      | none => .stuck
    | _ => (evE pg cf keep a env).bind fun r e1 => .ok (.ret r) e1
  | .retn, env => .ok (.ret (fz .non)) env
  | .expr a, env => (evE pg cf keep a env).bind fun _ e1 => .ok .nx e1
  | .pass, env => .ok .nx env
  | .brk, env => .ok .brk env
  | .cont, env => .ok .cont env
  | .rais c as, env => (evF pg cf keep as env).bind fun ds e1 => .exc ⟨c, ds⟩ e1
def exSs (wf : Nat) : Sms → Ev → Out Flow'
  | .nil, env => .ok .nx env
  | .cons s r, env => match exS wf s env with
    | .ok .nx e => exSs wf r e
    | .ok f e => .ok f e
    | .exc x e => .exc x e
    | .stuck => .stuck
end
end

/-- the arguments of a def with *rest: the further ones in a tuple -/
def packR (star : Bool) (np : Nat) (rs : List Rv) : List Rv := if star then rs.take (np - 1) ++ [fz (.tup ((rs.drop (np - 1)).map (·.2)))] else rs
/-- further arguments are frozen -/
def starOk (d : Fd) (rs : List Rv) : Bool := !d.star || ((rs.drop (d.np - 1)).all (fun r => !r.1) && decide (d.keep ≤ d.np - 1))
/-- a call of the f-th def, at most k calls deep -/
def callF (pg : Pg) (ft : Nat → Option Fd) (wf : Nat) : Nat → Nat → List Rv → COut
  | 0, _, _ => .stuck
  | k + 1, f, rs => match ft f with
    | none => .stuck
    | some d =>
      if (packR d.star d.np rs).length = d.np ∧ rs.length ≤ sizeLine ∧ starOk d rs = true then
        match exSs pg (callF pg ft wf k) d.keep wf d.body ((packR d.star d.np rs).map some ++ List.replicate (d.nn - d.np) none) with
        | .ok (.ret r) e => .ok r (e.take d.np)
        | .ok .nx e => .ok (fz .non) (e.take d.np)
        | .ok _ _ => .stuck
        | .exc x e => .exc x (e.take d.np)
        | .stuck => .stuck
      else .stuck
end Ev
/-! Snd1: how the evaluator's data lie in the layer's heap. -/
namespace Ev
open PySem L2

structure Gx where
  K : PySem.W.Frag
  fa : Nat → Option Addr

section
variable (g : Gx) (F : Addr → Prop) (H : Hp)
mutual
def Fr : D → V → Prop
  | .non, v => v = .non
  | .bl b, v => v = .bl b
  | .int i, v => v = .int i
  | .str s, v => v = .str s
  | .lst ds, v => ∃ a xs, v = .ref a ∧ F a ∧ H a = some (.lst xs) ∧ FrL ds xs
  | .tup ds, v => ∃ a xs, v = .ref a ∧ SqT g.K H a xs ∧ FrL ds xs
  | .dct kvs, v => ∃ a ws, v = .ref a ∧ F a ∧ Rd H a (.dK ws) ∧ FrK kvs ws
  | .fn i, v => ∃ f, v = .ref f ∧ g.fa i = some f
  | .scr ns, v => ∃ a, v = .ref a ∧ ((∃ o, H a = some (.frz o (.lst (ns.map V.int)))) ∨ SqL g.K (fun _ => none) a (ns.map V.int))
def FrL : List D → List V → Prop
  | [], xs => xs = []
  | d :: ds, xs => ∃ x r, xs = x :: r ∧ Fr d x ∧ FrL ds r
def FrK : List (Key × D) → List (Key × V) → Prop
  | [], ws => ws = []
  | (k, d) :: r, ws => ∃ x s, ws = (k, x) :: s ∧ Fr d x ∧ FrK r s
end
def Own : D → V → Prop
  | .lst ds, v => ∃ a xs, v = .ref a ∧ ¬ F a ∧ H a = some (.lst xs) ∧ FrL g F H ds xs
  | .dct kvs, v => ∃ a ws, v = .ref a ∧ ¬ F a ∧ H a = some (.dK ws) ∧ FrK g F H kvs ws
  | _, _ => False
def Bor : D → V → Prop
  | .lst ds, v => ∃ a xs, v = .ref a ∧ H a = some (.lst xs) ∧ FrL g F H ds xs
  | .dct kvs, v => ∃ a ws, v = .ref a ∧ Rd H a (.dK ws) ∧ FrK g F H kvs ws
  | d, v => Fr g F H d v
def Sl (r : Rv) (v : V) : Prop := if r.1 = true then Own g F H r.2 v else Fr g F H r.2 v
end

theorem Fr.bor {g : Gx} {F : Addr → Prop} {H : Hp} : ∀ {d : D} {v : V}, Fr g F H d v → Bor g F H d v
  | .lst ds, v, h => by
    rw [Fr] at h
    obtain ⟨a, xs, e, _, h1, h2⟩ := h
    exact ⟨a, xs, e, h1, h2⟩
  | .dct kvs, v, h => by
    rw [Fr] at h
    obtain ⟨a, ws, e, _, h1, h2⟩ := h
    exact ⟨a, ws, e, h1, h2⟩
  | .non, v, h => h
  | .bl _, v, h => h
  | .int _, v, h => h
  | .str _, v, h => h
  | .tup _, v, h => h
  | .fn _, v, h => h
  | .scr _, v, h => h
theorem Own.bor {g : Gx} {F : Addr → Prop} {H : Hp} : ∀ {d : D} {v : V}, Own g F H d v → Bor g F H d v
  | .lst ds, v, h => by
    obtain ⟨a, xs, e, _, h1, h2⟩ := h
    exact ⟨a, xs, e, h1, h2⟩
  | .dct kvs, v, h => by
    obtain ⟨a, ws, e, _, h1, h2⟩ := h
    exact ⟨a, ws, e, .inl h1, h2⟩
  | .non, v, h => h.elim
  | .bl _, v, h => h.elim
  | .int _, v, h => h.elim
  | .str _, v, h => h.elim
  | .tup _, v, h => h.elim
  | .fn _, v, h => h.elim
  | .scr _, v, h => h.elim
theorem Sl.bor {g : Gx} {F : Addr → Prop} {H : Hp} {r : Rv} {v : V} (h : Sl g F H r v) : Bor g F H r.2 v := by
  unfold Sl at h
  split at h
  · exact h.bor
  · exact h.bor
theorem sl_fz {g : Gx} {F : Addr → Prop} {H : Hp} {d : D} {v : V} : Sl g F H (false, d) v ↔ Fr g F H d v := by
  unfold Sl; simp
theorem sl_ow {g : Gx} {F : Addr → Prop} {H : Hp} {d : D} {v : V} : Sl g F H (true, d) v ↔ Own g F H d v := by
  unfold Sl; simp
/-- what is owned stands at an address of its own -/
theorem Own.at {g : Gx} {F : Addr → Prop} {H : Hp} {d : D} {v : V} (h : Own g F H d v) : ∃ a, v = .ref a ∧ ¬ F a ∧ ((∃ xs, H a = some (.lst xs)) ∨ ∃ ws, H a = some (.dK ws)) := by
  cases d with
  | lst ds =>
    obtain ⟨a, xs, e, h1, h2, _⟩ := h
    exact ⟨a, e, h1, .inl ⟨xs, h2⟩⟩
  | dct kvs =>
    obtain ⟨a, ws, e, h1, h2, _⟩ := h
    exact ⟨a, e, h1, .inr ⟨ws, h2⟩⟩
  | _ => exact h.elim

theorem FrL.length {g : Gx} {F : Addr → Prop} {H : Hp} : ∀ {ds : List D} {xs : List V}, FrL g F H ds xs → ds.length = xs.length
  | [], xs, h => by
    rw [FrL] at h; subst h; rfl
  | d :: ds, xs, h => by
    rw [FrL] at h
    obtain ⟨x, r, rfl, _, h2⟩ := h
    simp [FrL.length h2]
theorem FrL.nil {g : Gx} {F : Addr → Prop} {H : Hp} : FrL g F H [] [] := by rw [FrL]
theorem FrL.cons {g : Gx} {F : Addr → Prop} {H : Hp} {d : D} {ds : List D} {x : V} {xs : List V} (h : Fr g F H d x) (t : FrL g F H ds xs) : FrL g F H (d :: ds) (x :: xs) := by
  rw [FrL]; exact ⟨x, xs, rfl, h, t⟩
theorem FrL.inv {g : Gx} {F : Addr → Prop} {H : Hp} {d : D} {ds : List D} {x : V} {xs : List V} (h : FrL g F H (d :: ds) (x :: xs)) : Fr g F H d x ∧ FrL g F H ds xs := by
  rw [FrL] at h
  obtain ⟨y, r, e, h1, h2⟩ := h
  cases e
  exact ⟨h1, h2⟩
theorem FrL.app {g : Gx} {F : Addr → Prop} {H : Hp} : ∀ {ds es : List D} {xs ys : List V}, FrL g F H ds xs → FrL g F H es ys → FrL g F H (ds ++ es) (xs ++ ys)
  | [], es, xs, ys, h, h' => by
    rw [FrL] at h; subst h; exact h'
  | d :: ds, es, xs, ys, h, h' => by
    rw [FrL] at h
    obtain ⟨x, r, rfl, h1, h2⟩ := h
    exact FrL.cons h1 (FrL.app h2 h')
theorem FrL.get {g : Gx} {F : Addr → Prop} {H : Hp} : ∀ {ds : List D} {xs : List V} {i : Nat} {d : D}, FrL g F H ds xs → ds[i]? = some d → ∃ x, xs[i]? = some x ∧ Fr g F H d x
  | [], xs, i, d, h, e => by simp at e
  | d :: ds, xs, i, d', h, e => by
    rw [FrL] at h
    obtain ⟨x, r, rfl, h1, h2⟩ := h
    cases i with
    | zero => simp at e; subst e; exact ⟨x, rfl, h1⟩
    | succ i =>
      obtain ⟨y, e1, e2⟩ := FrL.get (i := i) (d := d') h2 (by simpa using e)
      exact ⟨y, by simpa using e1, e2⟩
theorem FrL.get' {g : Gx} {F : Addr → Prop} {H : Hp} {ds : List D} {xs : List V} {i : Nat} {x : V} (h : FrL g F H ds xs) (e : xs[i]? = some x) : ∃ d, ds[i]? = some d ∧ Fr g F H d x := by
  have hl := h.length
  have hi : i < ds.length := by
    rw [hl]
    exact (List.getElem?_eq_some_iff.mp e).1
  obtain ⟨y, e1, e2⟩ := h.get (List.getElem?_eq_getElem hi)
  rw [e] at e1
  cases e1
  exact ⟨_, List.getElem?_eq_getElem hi, e2⟩
theorem FrL.take {g : Gx} {F : Addr → Prop} {H : Hp} : ∀ (n : Nat) {ds : List D} {xs : List V}, FrL g F H ds xs → FrL g F H (ds.take n) (xs.take n)
  | 0, ds, xs, h => by simp; exact FrL.nil
  | n + 1, [], xs, h => by
    rw [FrL] at h; subst h; exact FrL.nil
  | n + 1, d :: ds, xs, h => by
    rw [FrL] at h
    obtain ⟨x, r, rfl, h1, h2⟩ := h
    exact FrL.cons h1 (FrL.take n h2)
theorem FrL.drop {g : Gx} {F : Addr → Prop} {H : Hp} : ∀ (n : Nat) {ds : List D} {xs : List V}, FrL g F H ds xs → FrL g F H (ds.drop n) (xs.drop n)
  | 0, ds, xs, h => h
  | n + 1, [], xs, h => by
    rw [FrL] at h; subst h; exact FrL.nil
  | n + 1, d :: ds, xs, h => by
    rw [FrL] at h
    obtain ⟨x, r, rfl, h1, h2⟩ := h
    exact FrL.drop n h2

/-! ### how the heap may go on -/
structure Ext (W F : Addr → Prop) (H : Hp) (F' : Addr → Prop) (H' : Hp) : Prop where
  keep : ∀ a o, H a = some o → ¬ W a → H' a = some o ∨ (F a ∧ ∃ kvs ob, o = .dK kvs ∧ H' a = some (.frz ob o))
  stay : ∀ a, H' a = none → H a = none
  mono : ∀ a, F a → F' a
  new : ∀ a, F' a → F a ∨ W a ∨ H a = none
theorem Ext.refl {W F : Addr → Prop} {H : Hp} : Ext W F H F H := ⟨fun _ _ h _ => .inl h, fun _ h => h, fun _ h => h, fun _ h => .inl h⟩
theorem Ext.trans {W W1 F F1 F2 : Addr → Prop} {H H1 H2 : Hp} (a : Ext W F H F1 H1) (b : Ext W1 F1 H1 F2 H2) (hw : ∀ x, W1 x → W x ∨ H x = none) : Ext W F H F2 H2 where
  keep := fun x o e n => by
    have n1 : ¬ W1 x := fun q => (hw x q).elim n fun z => by rw [e] at z; cases z
    rcases a.keep x o e n with h | ⟨f, kvs, ob, e1, e2⟩
    · rcases b.keep x o h n1 with h2 | ⟨f2, kvs, ob, e1, e2⟩
      · exact .inl h2
      · have ff : F x := by
          rcases a.new x f2 with q | q | q
          · exact q
          · exact absurd q n
          · rw [e] at q; cases q
        exact .inr ⟨ff, kvs, ob, e1, e2⟩
    · subst e1
      rcases b.keep x _ e2 n1 with h2 | ⟨_, kvs', ob', e1, _⟩
      · exact .inr ⟨f, kvs, ob, rfl, h2⟩
      · cases e1
  stay := fun x h => a.stay x (b.stay x h)
  mono := fun x h => b.mono x (a.mono x h)
  new := fun x h => by
    rcases b.new x h with q | q | q
    · exact a.new x q
    · rcases hw x q with z | z
      · exact .inr (.inl z)
      · exact .inr (.inr z)
    · exact .inr (.inr (a.stay x q))
theorem Ext.wider {W W1 F F1 : Addr → Prop} {H H1 : Hp} (a : Ext W1 F H F1 H1) (hw : ∀ x, W1 x → W x ∨ H x = none) : Ext W F H F1 H1 := (Ext.refl (W := W)).trans a hw
/-- new objects alone -/
def New (H H' : Hp) : Prop := ∀ a o, H a = some o → H' a = some o
theorem New.refl {H : Hp} : New H H := fun _ _ h => h
theorem New.upd {H : Hp} {p : Addr} {o : HO} (h : H p = none) : New H (upd H p o) := fun a x e => by
  rw [upd_ne (ne_of_none e h)]; exact e
theorem New.none {H H' : Hp} (n : New H H') {a : Addr} (h : H' a = Option.none) : H a = Option.none := by
  cases e : H a with
  | none => rfl
  | some o =>
    rw [n a o e] at h
    cases h
theorem New.ext {W F : Addr → Prop} {H H' : Hp} (n : New H H') : Ext W F H F H' :=
  ⟨fun a o h _ => .inl (n a o h), fun a h => n.none h, fun _ h => h, fun _ h => .inl h⟩
theorem New.trans {H H1 H2 : Hp} (a : New H H1) (b : New H1 H2) : New H H2 := fun x o h => b x o (a x o h)

/-- the addresses that may be written: none that is frozen, no tuple -/
def Wk (W F : Addr → Prop) (H : Hp) : Prop := ∀ a, W a → ¬ F a ∧ ((∃ xs, H a = some (.lst xs)) ∨ ∃ ws, H a = some (.dK ws))

section
variable {g : Gx} {W F F' : Addr → Prop} {H H' : Hp}
theorem Ext.tup (x : Ext W F H F' H') (hw : Wk W F H) {a : Addr} {xs : List V} (h : SqT g.K H a xs) : SqT g.K H' a xs := by
  have nw : ∀ o, H a = some o → (∀ ys, o ≠ .lst ys) → (∀ ws, o ≠ .dK ws) → ¬ W a := fun o e h1 h2 w => by
    rcases (hw a w).2 with ⟨ys, q⟩ | ⟨ws, q⟩
    · rw [e] at q; cases q; exact h1 ys rfl
    · rw [e] at q; cases q; exact h2 ws rfl
  rcases h with (h | ⟨o, h⟩) | h
  · rcases x.keep a _ h (nw _ h (fun _ q => nomatch q) (fun _ q => nomatch q)) with q | ⟨_, _, _, q, _⟩
    · exact .inl (.inl q)
    · cases q
  · rcases x.keep a _ h (nw _ h (fun _ q => nomatch q) (fun _ q => nomatch q)) with q | ⟨_, _, _, q, _⟩
    · exact .inl (.inr ⟨o, q⟩)
    · cases q
  · exact .inr h
theorem Ext.lst (x : Ext W F H F' H') (hw : Wk W F H) {a : Addr} {xs : List V} (f : F a) (h : H a = some (.lst xs)) : H' a = some (.lst xs) := by
  rcases x.keep a _ h (fun w => (hw a w).1 f) with q | ⟨_, _, _, q, _⟩
  · exact q
  · cases q
theorem Ext.dct (x : Ext W F H F' H') (hw : Wk W F H) {a : Addr} {ws : List (Key × V)} (f : F a) (h : Rd H a (.dK ws)) : Rd H' a (.dK ws) := by
  rcases h with h | ⟨o, h⟩
  · rcases x.keep a _ h (fun w => (hw a w).1 f) with q | ⟨_, _, ob, e, q⟩
    · exact .inl q
    · exact .inr ⟨ob, q⟩
  · rcases x.keep a _ h (fun w => (hw a w).1 f) with q | ⟨_, _, _, q, _⟩
    · exact .inr ⟨o, q⟩
    · cases q
mutual
theorem Fr.ext (x : Ext W F H F' H') (hw : Wk W F H) : ∀ {d : D} {v : V}, Fr g F H d v → Fr g F' H' d v
  | .non, v, h => by rw [Fr] at h ⊢; exact h
  | .bl _, v, h => by rw [Fr] at h ⊢; exact h
  | .int _, v, h => by rw [Fr] at h ⊢; exact h
  | .str _, v, h => by rw [Fr] at h ⊢; exact h
  | .fn _, v, h => by rw [Fr] at h ⊢; exact h
  | .lst ds, v, h => by
    rw [Fr] at h ⊢
    obtain ⟨a, xs, e, f, h1, h2⟩ := h
    exact ⟨a, xs, e, x.mono a f, x.lst hw f h1, FrL.ext x hw h2⟩
  | .tup ds, v, h => by
    rw [Fr] at h ⊢
    obtain ⟨a, xs, e, h1, h2⟩ := h
    exact ⟨a, xs, e, x.tup hw h1, FrL.ext x hw h2⟩
  | .dct kvs, v, h => by
    rw [Fr] at h ⊢
    obtain ⟨a, ws, e, f, h1, h2⟩ := h
    exact ⟨a, ws, e, x.mono a f, x.dct hw f h1, FrK.ext x hw h2⟩
  | .scr ns, v, h => by
    rw [Fr] at h ⊢
    obtain ⟨a, e, ⟨o, h1⟩ | h1⟩ := h
    · refine ⟨a, e, .inl ⟨o, ?_⟩⟩
      have nw : ¬ W a := fun w => by
        rcases (hw a w).2 with ⟨ys, q⟩ | ⟨ws, q⟩
        · rw [h1] at q; cases q
        · rw [h1] at q; cases q
      rcases x.keep a _ h1 nw with q | ⟨_, _, _, q, _⟩
      · exact q
      · cases q
    · exact ⟨a, e, .inr h1⟩
theorem FrL.ext (x : Ext W F H F' H') (hw : Wk W F H) : ∀ {ds : List D} {xs : List V}, FrL g F H ds xs → FrL g F' H' ds xs
  | [], xs, h => by rw [FrL] at h ⊢; exact h
  | d :: ds, xs, h => by
    rw [FrL] at h ⊢
    obtain ⟨y, r, e, h1, h2⟩ := h
    exact ⟨y, r, e, Fr.ext x hw h1, FrL.ext x hw h2⟩
theorem FrK.ext (x : Ext W F H F' H') (hw : Wk W F H) : ∀ {ds : List (Key × D)} {xs : List (Key × V)}, FrK g F H ds xs → FrK g F' H' ds xs
  | [], xs, h => by rw [FrK] at h ⊢; exact h
  | (k, d) :: ds, xs, h => by
    rw [FrK] at h ⊢
    obtain ⟨y, r, e, h1, h2⟩ := h
    exact ⟨y, r, e, Fr.ext x hw h1, FrK.ext x hw h2⟩
end
end
end Ev
/-! Snd2: the frame's relation, steps, sound readings. -/
namespace Ev
open PySem L2

def OwnAt (env : Ev) (σ : L2.St) (a : Addr) : Prop := ∃ i d, getS env i = some (true, d) ∧ σ[i]? = some (some (.ref a))
structure Rel (g : Gx) (F : Addr → Prop) (H : Hp) (env : Ev) (σ : L2.St) : Prop where
  len : env.length = σ.length
  slot : ∀ i r, getS env i = some r → ∃ v, σ[i]? = some (some v) ∧ Sl g F H r v
  inj : ∀ i j d d' a, getS env i = some (true, d) → getS env j = some (true, d') → σ[i]? = some (some (.ref a)) → σ[j]? = some (some (.ref a)) → i = j
  trk : ∀ a, F a → H a ≠ none
theorem getS_lt {env : Ev} {i : Nat} {r : Rv} (h : getS env i = some r) : i < env.length := by
  unfold getS at h
  by_cases hi : i < env.length
  · exact hi
  · rw [List.getElem?_eq_none (by omega)] at h; cases h
theorem getS_set_self {env : Ev} {i : Nat} {s : Slot} (h : i < env.length) : getS (env.set i s) i = s := by
  unfold getS; rw [List.getElem?_set_self h]; rfl
theorem getS_set_ne {env : Ev} {i j : Nat} {s : Slot} (h : i ≠ j) : getS (env.set i s) j = getS env j := by
  unfold getS; rw [List.getElem?_set_ne h]
theorem getS_set {env : Ev} {i j : Nat} {s : Slot} (h : i < env.length) : getS (env.set i s) j = if i = j then s else getS env j := by
  by_cases e : i = j
  · subst e; rw [getS_set_self h, if_pos rfl]
  · rw [getS_set_ne e, if_neg e]

section
variable {g : Gx} {F F' F1 F2 : Addr → Prop} {H H' H1 H2 : Hp} {env env' env1 env2 : Ev} {σ : L2.St}
theorem Rel.own (R : Rel g F H env σ) {i : Nat} {d : D} (h : getS env i = some (true, d)) : ∃ a, σ[i]? = some (some (.ref a)) ∧ Own g F H d (.ref a) ∧ OwnAt env σ a := by
  obtain ⟨v, e, s⟩ := R.slot i _ h
  rw [sl_ow] at s
  obtain ⟨a, rfl, _, _⟩ := s.at
  exact ⟨a, e, s, i, d, h, e⟩
theorem Rel.fz (R : Rel g F H env σ) {i : Nat} {d : D} (h : getS env i = some (false, d)) : ∃ v, σ[i]? = some (some v) ∧ Fr g F H d v := by
  obtain ⟨v, e, s⟩ := R.slot i _ h
  exact ⟨v, e, sl_fz.mp s⟩
theorem Rel.wk (R : Rel g F H env σ) : Wk (OwnAt env σ) F H := fun a ⟨i, d, h1, h2⟩ => by
  obtain ⟨v, e, s⟩ := R.slot i _ h1
  rw [h2] at e; cases e
  rw [sl_ow] at s
  obtain ⟨b, eb, nf, h⟩ := s.at
  cases eb
  exact ⟨nf, h⟩
theorem Rel.ownTrk (R : Rel g F H env σ) {a : Addr} (h : OwnAt env σ a) : H a ≠ none := by
  rcases (R.wk a h).2 with ⟨xs, e⟩ | ⟨ws, e⟩ <;> rw [e] <;> simp
theorem Own.ext {W : Addr → Prop} (x : Ext W F H F' H') (hw : Wk W F H) {d : D} {a : Addr} (nw : ¬ W a) (nf : ¬ F' a) (h : Own g F H d (.ref a)) : Own g F' H' d (.ref a) := by
  cases d with
  | lst ds =>
    obtain ⟨b, xs, e, h1, h2, h3⟩ := h
    cases e
    rcases x.keep a _ h2 nw with q | ⟨f, _⟩
    · exact ⟨a, xs, rfl, nf, q, h3.ext x hw⟩
    · exact absurd f h1
  | dct kvs =>
    obtain ⟨b, ws, e, h1, h2, h3⟩ := h
    cases e
    rcases x.keep a _ h2 nw with q | ⟨f, _⟩
    · exact ⟨a, ws, rfl, nf, q, h3.ext x hw⟩
    · exact absurd f h1
  | _ => exact h.elim
/-- the heap goes on, nothing of this frame's own is touched -/
theorem Rel.go {W : Addr → Prop} (R : Rel g F H env σ) (x : Ext W F H F' H') (hw : Wk W F H) (hn : ∀ a, OwnAt env σ a → ¬ W a ∧ ¬ F' a) (tk : ∀ a, F' a → H' a ≠ none) : Rel g F' H' env σ where
  len := R.len
  slot := fun i r h => by
    obtain ⟨o, d⟩ := r
    cases o with
    | false =>
      obtain ⟨v, e, s⟩ := R.fz h
      exact ⟨v, e, sl_fz.mpr (s.ext x hw)⟩
    | true =>
      obtain ⟨a, e, s, oa⟩ := R.own h
      exact ⟨_, e, sl_ow.mpr (s.ext x hw (hn a oa).1 (hn a oa).2)⟩
  inj := R.inj
  trk := tk
theorem Rel.new (R : Rel g F H env σ) (n : New H H') : Rel g F H' env σ :=
  R.go (W := fun _ => False) n.ext (fun _ h => h.elim) (fun a h => ⟨fun z => z, (R.wk a h).1⟩) fun a f z => R.trk a f (n.none z)

structure Step (g : Gx) (σ : L2.St) (F : Addr → Prop) (H : Hp) (env : Ev) (F' : Addr → Prop) (H' : Hp) (env' : Ev) : Prop where
  rel : Rel g F' H' env' σ
  ext : Ext (OwnAt env σ) F H F' H'
  sub : ∀ a, OwnAt env' σ a → OwnAt env σ a
  live : ∀ i r, getS env i = Option.some r → ∃ r', getS env' i = Option.some r'
  ownk : ∀ i d a, getS env i = Option.some (true, d) → σ[i]? = Option.some (Option.some (.ref a)) → (∃ d', getS env' i = Option.some (true, d')) ∨ F' a
theorem Step.refl (R : Rel g F H env σ) : Step g σ F H env F H env := ⟨R, Ext.refl, fun _ h => h, fun _ r h => ⟨r, h⟩, fun _ d _ h _ => .inl ⟨d, h⟩⟩
theorem Step.trans (a : Step g σ F H env F1 H1 env1) (b : Step g σ F1 H1 env1 F2 H2 env2) : Step g σ F H env F2 H2 env2 :=
  ⟨b.rel, a.ext.trans b.ext fun x h => .inl (a.sub x h), fun x h => a.sub x (b.sub x h), fun i r h => by
    obtain ⟨r1, h1⟩ := a.live i r h
    exact b.live i r1 h1, fun i d x h1 h2 => by
    rcases a.ownk i d x h1 h2 with ⟨d1, q⟩ | q
    · exact b.ownk i d1 x q h2
    · exact .inr (b.ext.mono x q)⟩
theorem Step.new (R : Rel g F H env σ) (n : New H H') : Step g σ F H env F H' env := ⟨R.new n, n.ext, fun _ h => h, fun _ r h => ⟨r, h⟩, fun _ d _ h _ => .inl ⟨d, h⟩⟩
theorem Step.fr (R : Rel g F H env σ) (s : Step g σ F H env F' H' env') {d : D} {v : V} (h : Fr g F H d v) : Fr g F' H' d v := h.ext s.ext R.wk
theorem Step.frL (R : Rel g F H env σ) (s : Step g σ F H env F' H' env') {d : List D} {v : List V} (h : FrL g F H d v) : FrL g F' H' d v := h.ext s.ext R.wk
theorem Step.frK (R : Rel g F H env σ) (s : Step g σ F H env F' H' env') {d : List (Key × D)} {v : List (Key × V)} (h : FrK g F H d v) : FrK g F' H' d v := h.ext s.ext R.wk
/-- an owned thing that is no slot's -/
theorem Step.own (R : Rel g F H env σ) (s : Step g σ F H env F' H' env') {d : D} {a : Addr} (n : ¬ OwnAt env σ a) (h : Own g F H d (.ref a)) : Own g F' H' d (.ref a) := by
  refine h.ext s.ext R.wk n fun f => ?_
  obtain ⟨b, e, nf, ho⟩ := h.at
  cases e
  rcases s.ext.new a f with q | q | q
  · exact nf q
  · exact n q
  · rcases ho with ⟨xs, z⟩ | ⟨ws, z⟩ <;> rw [z] at q <;> cases q

def Fresh (H : Hp) (v : V) : Prop := ∃ a, v = .ref a ∧ H a = none
theorem Fresh.back {v : V} (h : Fresh H' v) (x : ∀ a, H' a = none → H a = none) : Fresh H v := let ⟨a, e, n⟩ := h; ⟨a, e, x a n⟩
/-- frozen: nobody writes there any more -/
def andF (F : Addr → Prop) (a : Addr) : Addr → Prop := fun b => F b ∨ b = a
theorem Own.freeze {d : D} {a : Addr} (h : Own g F H d (.ref a)) : Fr g (andF F a) H d (.ref a) := by
  have x : Ext (fun b => b = a) F H (andF F a) H := ⟨fun _ _ e _ => .inl e, fun _ e => e, fun _ e => .inl e, fun b e => e.elim .inl fun z => .inr (.inl z)⟩
  have hw : Wk (fun b => b = a) F H := fun b e => by
    subst e
    obtain ⟨c, e, nf, ho⟩ := h.at
    cases e
    exact ⟨nf, ho⟩
  cases d with
  | lst ds =>
    obtain ⟨b, xs, e, h1, h2, h3⟩ := h
    cases e
    rw [Fr]
    exact ⟨a, xs, rfl, .inr rfl, h2, h3.ext x hw⟩
  | dct kvs =>
    obtain ⟨b, ws, e, h1, h2, h3⟩ := h
    cases e
    rw [Fr]
    exact ⟨a, ws, rfl, .inr rfl, .inl h2, h3.ext x hw⟩
  | _ => exact h.elim
/-- a thing of one's own, made behind the start, is frozen -/
theorem Step.freeze (R : Rel g F H env σ) (s : Step g σ F H env F' H' env') {d : D} {a : Addr} (h : Own g F' H' d (.ref a)) (fr : H a = none) : Step g σ F H env (andF F' a) H' env' ∧ Fr g (andF F' a) H' d (.ref a) := by
  obtain ⟨b, e, nf, ho⟩ := h.at
  cases e
  have na : ∀ b, OwnAt env' σ b → b ≠ a := fun b q z => by
    subst z
    exact R.ownTrk (s.sub b q) fr
  have x : Ext (fun b => b = a) F' H' (andF F' a) H' := ⟨fun _ _ e _ => .inl e, fun _ e => e, fun _ e => .inl e, fun b e => e.elim .inl fun z => .inr (.inl z)⟩
  have hw : Wk (fun b => b = a) F' H' := fun b e => by
    subst e
    exact ⟨nf, ho⟩
  refine ⟨⟨s.rel.go x hw (fun b q => ⟨na b q, fun z => z.elim (s.rel.wk b q).1 (na b q)⟩) fun b z => ?_, s.ext.trans x fun b e => ?_, s.sub, s.live, fun i d' b h1 h2 => (s.ownk i d' b h1 h2).imp id .inl⟩, h.freeze⟩
  · rcases z with z | z
    · exact s.rel.trk b z
    · subst z
      rcases ho with ⟨xs, q⟩ | ⟨ws, q⟩ <;> rw [q] <;> simp
  · subst e
    exact .inr fr

/-! ### sound readings -/
def SndE (g : Gx) (t : TE) (m : Ev → Out Rv) : Prop := ∀ (F : Addr → Prop) (H : Hp) (env : Ev) (σ : L2.St) (Q : VK) (r : Rv) (env' : Ev), Rel g F H env σ → m env = .ok r env' →
  (∀ F' H' v, Step g σ F H env F' H' env' → Sl g F' H' r v → (r.1 = true → Fresh H v) → Q v H') → t σ H Q
/-- the value frozen -/
theorem SndE.frz {t : TE} {m : Ev → Out Rv} (h : SndE g t m) {Q : VK} {r : Rv} (R : Rel g F H env σ) (e : m env = .ok r env')
    (q : ∀ F' H' v, Step g σ F H env F' H' env' → Fr g F' H' r.2 v → Q v H') : t σ H Q := by
  refine h F H env σ Q r env' R e fun F' H' v s sl fr => ?_
  obtain ⟨o, d⟩ := r
  cases o with
  | false => exact q F' H' v s (sl_fz.mp sl)
  | true =>
    obtain ⟨a, rfl, n⟩ := fr rfl
    obtain ⟨s1, f1⟩ := s.freeze R (sl_ow.mp sl) n
    exact q _ H' _ s1 f1
/-- an operand as it stands -/
def OpAt (g : Gx) (F : Addr → Prop) (H : Hp) (env : Ev) (σ : L2.St) (o : Opd) (v : V) : Prop :=
  match o with
  | .v r => Sl g F H r v ∧ (r.1 = true → ∀ a, v = .ref a → ¬ OwnAt env σ a)
  | .s i => σ[i]? = some (some v) ∧ ∃ r, getS env i = some r
def SndO (g : Gx) (t : TE) (m : Ev → Out Opd) : Prop := ∀ (F : Addr → Prop) (H : Hp) (env : Ev) (σ : L2.St) (Q : VK) (o : Opd) (env' : Ev), Rel g F H env σ → m env = .ok o env' →
  (∀ F' H' v, Step g σ F H env F' H' env' → OpAt g F' H' env' σ o v → (∀ d, o = .v (true, d) → Fresh H v) → Q v H') → t σ H Q
theorem OpAt.step {o : Opd} {v : V} (h : OpAt g F H env σ o v) (R : Rel g F H env σ) (s : Step g σ F H env F' H' env') : OpAt g F' H' env' σ o v := by
  cases o with
  | v r =>
    obtain ⟨h1, h2⟩ := h
    obtain ⟨b, d⟩ := r
    cases b with
    | false => exact ⟨sl_fz.mpr (s.fr R (sl_fz.mp h1)), fun z => by cases z⟩
    | true =>
      obtain ⟨a, rfl, _, _⟩ := (sl_ow.mp h1).at
      have n := h2 rfl a rfl
      exact ⟨sl_ow.mpr (s.own R n (sl_ow.mp h1)), fun _ b e q => by cases e; exact n (s.sub _ q)⟩
  | s i =>
    obtain ⟨h1, r, h2⟩ := h
    obtain ⟨r', h3⟩ := s.live i r h2
    exact ⟨h1, r', h3⟩
theorem OpAt.bor {o : Opd} {v : V} {d : D} (h : OpAt g F H env σ o v) (R : Rel g F H env σ) (e : rdO env o = some d) : Bor g F H d v := by
  cases o with
  | v r =>
    cases e
    exact h.1.bor
  | s i =>
    obtain ⟨h1, r, h2⟩ := h
    have e' : (getS env i).map (·.2) = some d := e
    rw [h2] at e'
    cases e'
    obtain ⟨v', q, sl⟩ := R.slot i r h2
    rw [h1] at q; cases q
    exact sl.bor
theorem snd_opd {t : TE} {m : Ev → Out Rv} {a : Tm} (h : SndE g t m) (ha : ∀ i, a = .var i → t = tVar i) : SndO g t (opd a m) := by
  intro F H env σ Q o env' R e q
  have gen : ∀ (hn : ∀ i, a ≠ .var i), opd a m env = (m env).bind fun r e => .ok (.v r) e := by
    intro hn
    cases a <;> first | rfl | exact absurd rfl (hn _)
  by_cases hv : ∃ i, a = .var i
  · obtain ⟨i, rfl⟩ := hv
    rw [ha i rfl]
    unfold Ev.opd at e
    simp only at e
    cases hs : getS env i with
    | none => rw [hs] at e; cases e
    | some r =>
      obtain ⟨b, d⟩ := r
      rw [hs] at e
      cases b with
      | true =>
        simp only at e
        cases e
        obtain ⟨a, e1, s1, oa⟩ := R.own hs
        exact ⟨_, e1, q F H _ (Step.refl R) ⟨e1, _, hs⟩ (fun d z => by cases z)⟩
      | false =>
        simp only at e
        cases e
        obtain ⟨v, e1, s1⟩ := R.fz hs
        exact ⟨v, e1, q F H v (Step.refl R) ⟨sl_fz.mpr s1, fun z => by cases z⟩ (fun d z => by cases z)⟩
  · have hn : ∀ i, a ≠ .var i := fun i z => hv ⟨i, z⟩
    rw [gen hn] at e
    cases hm : m env with
    | ok r e1 =>
      rw [hm] at e
      cases e
      refine h F H env σ Q r env' R hm fun F' H' v s sl fr => q F' H' v s ⟨sl, fun z a ea => ?_⟩ fun d z => ?_
      · obtain ⟨b, eb, nb⟩ := fr z
        rw [ea] at eb; cases eb
        exact fun oa => R.ownTrk (s.sub _ oa) nb
      · cases z
        exact fr rfl
    | exc x e1 => rw [hm] at e; cases e
    | stuck => rw [hm] at e; cases e

/-! ### operators -/
def P1 (g : Gx) (r : V → Hp → VK → Prop) (f : D → Option Rv) : Prop := ∀ (F : Addr → Prop) (H : Hp) (x : V) (d : D) (rv : Rv) (Q : VK), (∀ a, F a → H a ≠ none) → Bor g F H d x → f d = some rv →
  (∀ H' v, New H H' → Sl g F H' rv v → (rv.1 = true → Fresh H v) → Q v H') → r x H Q
def P2 (g : Gx) (r : R2) (f : D → D → Option Rv) : Prop := ∀ (F : Addr → Prop) (H : Hp) (x y : V) (d e : D) (rv : Rv) (Q : VK), (∀ a, F a → H a ≠ none) → Bor g F H d x → Bor g F H e y → f d e = some rv →
  (∀ H' v, New H H' → Sl g F H' rv v → (rv.1 = true → Fresh H v) → Q v H') → r x y H Q
theorem snd_op1 {ta : TE} {a : Tm} {ma : Ev → Out Rv} {r : V → Hp → VK → Prop} {f : D → Option Rv} (ha : SndO g ta (opd a ma)) (hp : P1 g r f) : SndE g (tUn r ta) (op1 a ma f) := by
  intro F H env σ Q rv env' R e q
  unfold op1 at e
  cases h1 : opd a ma env with
  | ok o e1 =>
    rw [h1] at e
    simp only [Out.bind] at e
    cases h2 : rdO e1 o with
    | none => rw [h2] at e; cases e
    | some d =>
      rw [h2] at e
      simp only at e
      cases h3 : f d with
      | none => rw [h3] at e; cases e
      | some rv' =>
        rw [h3] at e
        cases e
        refine ha F H env σ _ o env' R h1 fun F1 H1 x s1 oa _ => ?_
        refine hp F1 H1 x d rv Q s1.rel.trk (oa.bor s1.rel h2) h3 fun H' v n sl fr => q F1 H' v (s1.trans (.new s1.rel n)) sl fun z => (fr z).back s1.ext.stay
  | exc x e1 => rw [h1] at e; cases e
  | stuck => rw [h1] at e; cases e
theorem snd_op2 {ta tb : TE} {a b : Tm} {ma mb : Ev → Out Rv} {r : R2} {f : D → D → Option Rv} (ha : SndO g ta (opd a ma)) (hb : SndO g tb (opd b mb)) (hp : P2 g r f) : SndE g (tOp r ta tb) (op2 a ma b mb f) := by
  intro F H env σ Q rv env' R e q
  unfold op2 at e
  cases h1 : opd a ma env with
  | ok o e1 =>
    rw [h1] at e
    simp only [Out.bind] at e
    cases h2 : opd b mb e1 with
    | ok o2 e2 =>
      rw [h2] at e
      simp only [Out.bind] at e
      cases h3 : rdO e2 o with
      | none => rw [h3] at e; cases e
      | some d =>
        cases h4 : rdO e2 o2 with
        | none => rw [h3, h4] at e; cases e
        | some d' =>
          rw [h3, h4] at e
          simp only at e
          cases h5 : f d d' with
          | none => rw [h5] at e; cases e
          | some rv' =>
            rw [h5] at e
            cases e
            refine ha F H env σ _ o e1 R h1 fun F1 H1 x s1 oa _ => ?_
            refine hb F1 H1 e1 σ _ o2 env' s1.rel h2 fun F2 H2 y s2 ob _ => ?_
            have s := s1.trans s2
            refine hp F2 H2 x y d d' rv Q s.rel.trk ((oa.step s1.rel s2).bor s.rel h3) (ob.bor s.rel h4) h5 fun H' v n sl fr => q F2 H' v (s.trans (.new s.rel n)) sl fun z => (fr z).back s.ext.stay
    | exc x e2 => rw [h2] at e; cases e
    | stuck => rw [h2] at e; cases e
  | exc x e1 => rw [h1] at e; cases e
  | stuck => rw [h1] at e; cases e
/-- a slot that owns is frozen -/
theorem stepFreezeVar (R : Rel g F H env σ) {i : Nat} {d : D} {a : Addr} (hs : getS env i = some (true, d)) (e1 : σ[i]? = some (some (.ref a))) :
    Step g σ F H env (andF F a) H (env.set i (some (fz d))) ∧ Fr g (andF F a) H d (.ref a) := by
  obtain ⟨a', e1', s1, oa⟩ := R.own hs
  rw [e1] at e1'; cases e1'
  have hi := getS_lt hs
  obtain ⟨b, eb, nf, ho⟩ := s1.at
  cases eb
  have sub : ∀ b, OwnAt (env.set i (some (fz d))) σ b → OwnAt env σ b ∧ b ≠ a := fun b ⟨j, d', h1, h2⟩ => by
    rw [getS_set hi] at h1
    split at h1
    · cases h1
    · rename_i ne
      refine ⟨⟨j, d', h1, h2⟩, fun z => ne ?_⟩
      subst z
      exact R.inj i j d d' b hs h1 e1 h2
  have x : Ext (OwnAt env σ) F H (andF F a) H := ⟨fun _ _ e _ => .inl e, fun _ e => e, fun _ e => .inl e, fun b e => e.elim .inl fun z => by subst z; exact .inr (.inl oa)⟩
  have xa : Ext (fun b => b = a) F H (andF F a) H := ⟨fun _ _ e _ => .inl e, fun _ e => e, fun _ e => .inl e, fun b e => e.elim .inl fun z => .inr (.inl z)⟩
  have hwa : Wk (fun b => b = a) F H := fun b e => by subst e; exact ⟨nf, ho⟩
  refine ⟨⟨⟨by simpa using R.len, fun j r h => ?_, fun j k d1 d2 b h1 h2 h3 h4 => ?_, fun b z => ?_⟩, x, fun b h => (sub b h).1, fun j r h => ?_, fun j d' b h1 h2 => ?_⟩, s1.freeze⟩
  · rw [getS_set hi] at h
    split at h
    · rename_i ej
      subst ej
      cases h
      exact ⟨_, e1, sl_fz.mpr s1.freeze⟩
    · rename_i ne
      obtain ⟨o, d'⟩ := r
      cases o with
      | false =>
        obtain ⟨v, e2, s2⟩ := R.fz h
        exact ⟨v, e2, sl_fz.mpr (s2.ext xa hwa)⟩
      | true =>
        obtain ⟨c, e2, s2, oc⟩ := R.own h
        have nc : c ≠ a := fun z => ne (R.inj i j d d' a hs h e1 (z ▸ e2))
        exact ⟨_, e2, sl_ow.mpr (s2.ext xa hwa nc fun z => z.elim (R.wk c oc).1 nc)⟩
  · rw [getS_set hi] at h1 h2
    split at h1
    · cases h1
    · split at h2
      · cases h2
      · exact R.inj j k d1 d2 b h1 h2 h3 h4
  · rcases z with z | z
    · exact R.trk b z
    · subst z
      exact R.ownTrk oa
  · by_cases ej : i = j
    · subst ej
      exact ⟨_, getS_set_self hi⟩
    · exact ⟨r, by rw [getS_set_ne ej]; exact h⟩
  · by_cases ej : i = j
    · subst ej
      rw [e1] at h2; cases h2
      exact .inr (.inr rfl)
    · exact .inl ⟨d', by rw [getS_set_ne ej]; exact h1⟩
/-- a name that goes somewhere -/
theorem snd_var (i : Nat) : SndE g (tVar i) (readV i) := by
  intro F H env σ Q r env' R e q
  unfold readV at e
  cases hs : getS env i with
  | none => rw [hs] at e; cases e
  | some r0 =>
    obtain ⟨b, d⟩ := r0
    rw [hs] at e
    cases b with
    | false =>
      cases e
      obtain ⟨v, e1, s1⟩ := R.fz hs
      exact ⟨v, e1, q F H v (.refl R) (sl_fz.mpr s1) fun z => by cases z⟩
    | true =>
      cases e
      obtain ⟨a, e1, s1, oa⟩ := R.own hs
      obtain ⟨st, f⟩ := stepFreezeVar R hs e1
      exact ⟨_, e1, q _ H _ st (sl_fz.mpr f) fun z => by cases z⟩
end
end Ev
/-! Snd3: the operators' readings and what the evaluator says of them. -/
namespace Ev
open PySem L2

section
variable {g : Gx} {F : Addr → Prop} {H H' : Hp}
theorem FrL.new {ds : List D} {xs : List V} (h : FrL g F H ds xs) (n : New H H') : FrL g F H' ds xs := h.ext (W := fun _ => False) n.ext fun _ z => z.elim
theorem FrK.new {ds : List (Key × D)} {xs : List (Key × V)} (h : FrK g F H ds xs) (n : New H H') : FrK g F H' ds xs := h.ext (W := fun _ => False) n.ext fun _ z => z.elim
theorem Fr.new {d : D} {v : V} (h : Fr g F H d v) (n : New H H') : Fr g F H' d v := h.ext (W := fun _ => False) n.ext fun _ z => z.elim
theorem fr_int {i : Int} : Fr g F H (.int i) (.int i) := by rw [Fr]
theorem fr_str {i : Str} : Fr g F H (.str i) (.str i) := by rw [Fr]
theorem fr_bl {i : Bool} : Fr g F H (.bl i) (.bl i) := by rw [Fr]
theorem fr_non : Fr g F H .non .non := by rw [Fr]
theorem sl_int {i : Int} : Sl g F H (false, .int i) (.int i) := sl_fz.mpr fr_int
theorem sl_bl {i : Bool} : Sl g F H (false, .bl i) (.bl i) := sl_fz.mpr fr_bl
theorem sl_str {i : Str} : Sl g F H (false, .str i) (.str i) := sl_fz.mpr fr_str
/-- a new list -/
theorem newL (tk : ∀ a, F a → H a ≠ none) {p : Addr} (hp : H p = none) {ds : List D} {xs : List V} (h : FrL g F H ds xs) {Q : VK}
    (q : ∀ H' v, New H H' → Sl g F H' (true, .lst ds) v → ((true, D.lst ds).1 = true → Fresh H v) → Q v H') : Q (.ref p) (upd H p (.lst xs)) :=
  q _ _ (New.upd hp) (sl_ow.mpr ⟨p, xs, rfl, fun f => tk p f hp, upd_same, h.new (New.upd hp)⟩) fun _ => ⟨p, rfl, hp⟩
theorem newD (tk : ∀ a, F a → H a ≠ none) {p : Addr} (hp : H p = none) {ds : List (Key × D)} {xs : List (Key × V)} (h : FrK g F H ds xs) {Q : VK}
    (q : ∀ H' v, New H H' → Sl g F H' (true, .dct ds) v → ((true, D.dct ds).1 = true → Fresh H v) → Q v H') : Q (.ref p) (upd H p (.dK xs)) :=
  q _ _ (New.upd hp) (sl_ow.mpr ⟨p, xs, rfl, fun f => tk p f hp, upd_same, h.new (New.upd hp)⟩) fun _ => ⟨p, rfl, hp⟩
theorem newT {p : Addr} (hp : H p = none) {ds : List D} {xs : List V} (h : FrL g F H ds xs) {Q : VK}
    (q : ∀ H' v, New H H' → Sl g F H' (false, .tup ds) v → ((false, D.tup ds).1 = true → Fresh H v) → Q v H') : Q (.ref p) (upd H p (.tup xs)) :=
  q _ _ (New.upd hp) (sl_fz.mpr (by rw [Fr]; exact ⟨p, xs, rfl, .inl (.inl upd_same), h.new (New.upd hp)⟩)) fun z => by cases z
theorem bor_int {i : Int} {v : V} (h : Bor g F H (.int i) v) : v = .int i := by
  have h : Fr g F H (.int i) v := h
  rw [Fr] at h; exact h
theorem bor_str {i : Str} {v : V} (h : Bor g F H (.str i) v) : v = .str i := by
  have h : Fr g F H (.str i) v := h
  rw [Fr] at h; exact h
theorem bor_bl {i : Bool} {v : V} (h : Bor g F H (.bl i) v) : v = .bl i := by
  have h : Fr g F H (.bl i) v := h
  rw [Fr] at h; exact h
theorem bor_non {v : V} (h : Bor g F H .non v) : v = .non := by
  have h : Fr g F H .non v := h
  rw [Fr] at h; exact h
theorem bor_tup {ds : List D} {v : V} (h : Bor g F H (.tup ds) v) : ∃ a xs, v = .ref a ∧ SqT g.K H a xs ∧ FrL g F H ds xs := by
  have h : Fr g F H (.tup ds) v := h
  rw [Fr] at h; exact h
theorem bor_scr {ns : List Int} {v : V} (h : Bor g F H (.scr ns) v) : ∃ a, v = .ref a ∧ SqL g.K H a (ns.map V.int) := by
  have h : Fr g F H (.scr ns) v := h
  rw [Fr] at h
  obtain ⟨a, e, ⟨o, h⟩ | h⟩ := h
  · exact ⟨a, e, .inl (.inr ⟨o, h⟩)⟩
  · refine ⟨a, e, .inr ?_⟩
    rcases h with (h | ⟨o, h⟩) | h
    · cases h
    · cases h
    · exact h
theorem frL_flatten {ds : List D} {xs : List V} (h : FrL g F H ds xs) : ∀ n : Nat, FrL g F H (List.replicate n ds).flatten (List.replicate n xs).flatten
  | 0 => by simp; exact FrL.nil
  | n + 1 => by
    rw [List.replicate_succ, List.replicate_succ, List.flatten_cons, List.flatten_cons]
    exact h.app (frL_flatten h n)
end

/-! ### arithmetic -/
def rStrAdd : R2 := fun x y H Q => ∃ i j, x = .str i ∧ y = .str j ∧ i.length + j.length ≤ sizeLine ∧ Q (.str (i ++ j)) H
def rBin : BOp → R2
  | .add => fun x y H Q => rI0 (fun i j => .int (i + j)) x y H Q ∨ rStrAdd x y H Q ∨ rCat x y H Q
  | .sub => rI0 fun i j => .int (i - j)
  | .mul => fun x y H Q => rI CMul (fun i j => .int (i * j)) x y H Q ∨ rRep x y H Q
  | .fdiv => rI CDiv fun i j => .int (i / j)
  | .mod => rI (fun _ j => 0 < j) fun i j => .int (i % j)
  | .pow => rI CPow fun i j => .int (i ^ j.toNat)
theorem mulOk_c {i j : Int} (h : mulOk i j = true) : CMul i j := by
  unfold mulOk at h
  simp only [Bool.or_eq_true, Bool.and_eq_true, decide_eq_true_eq] at h
  exact h
theorem powOk_c {i j : Int} (h : powOk i j = true) : CPow i j := by
  unfold powOk at h
  simp only [Bool.and_eq_true, decide_eq_true_eq] at h
  exact ⟨h.1.1, h.1.2, h.2⟩
theorem p2_bin {g : Gx} (o : BOp) : P2 g (rBin o) (binD o) := by
  intro F H x y d e rv Q tk hx hy he q
  unfold binD at he
  split at he
  · cases he
    cases bor_int hx; cases bor_int hy
    exact .inl ⟨_, _, rfl, rfl, q _ _ .refl sl_int fun z => by cases z⟩
  · split at he
    · cases he
      rename_i hl
      cases bor_str hx; cases bor_str hy
      exact .inr (.inl ⟨_, _, rfl, rfl, hl, q _ _ .refl sl_str fun z => by cases z⟩)
    · cases he
  · split at he
    · cases he
      rename_i hl
      obtain ⟨a, xs, rfl, h1, h2⟩ := hx
      obtain ⟨b, ys, rfl, h3, h4⟩ := hy
      exact .inr (.inr ⟨a, b, xs, ys, rfl, rfl, h1, h3, by rw [← h2.length, ← h4.length]; exact hl, fun p hp => newL tk hp (h2.app h4) q⟩)
    · cases he
  · cases he
    cases bor_int hx; cases bor_int hy
    exact ⟨_, _, rfl, rfl, q _ _ .refl sl_int fun z => by cases z⟩
  · split at he
    · cases he
      rename_i hl
      cases bor_int hx; cases bor_int hy
      exact .inl ⟨_, _, rfl, rfl, mulOk_c hl, q _ _ .refl sl_int fun z => by cases z⟩
    · cases he
  · split at he
    · cases he
      rename_i hl
      obtain ⟨a, xs, rfl, h1, h2⟩ := hx
      cases bor_int hy
      exact .inr ⟨a, _, xs, rfl, rfl, h1, hl.1, hl.2.1, by rw [← h2.length]; exact hl.2.2, fun p hp => newL tk hp (frL_flatten h2 _) q⟩
    · cases he
  · split at he
    · cases he
      rename_i hl
      cases bor_int hx; cases bor_int hy
      exact ⟨_, _, rfl, rfl, hl, q _ _ .refl sl_int fun z => by cases z⟩
    · cases he
  · split at he
    · cases he
      rename_i hl
      cases bor_int hx; cases bor_int hy
      exact ⟨_, _, rfl, rfl, hl, q _ _ .refl sl_int fun z => by cases z⟩
    · cases he
  · split at he
    · cases he
      rename_i hl
      cases bor_int hx; cases bor_int hy
      exact ⟨_, _, rfl, rfl, powOk_c hl, q _ _ .refl sl_int fun z => by cases z⟩
    · cases he
  · cases he

/-! ### comparisons -/
section
variable {g : Gx} {F : Addr → Prop} {H : Hp}
mutual
theorem Fr.dp : ∀ {d : D} {v : V}, Fr g F H d v → (py d).hasDict = false → Dp g.K H v (py d)
  | .non, v, h, c => by rw [Fr] at h; subst h; exact .non
  | .bl b, v, h, c => by rw [Fr] at h; subst h; exact .bl b
  | .int b, v, h, c => by rw [Fr] at h; subst h; exact .int b
  | .str b, v, h, c => by rw [Fr] at h; subst h; exact .str b
  | .lst ds, v, h, c => by
    rw [Fr] at h
    obtain ⟨a, xs, rfl, _, h1, h2⟩ := h
    exact .lst (SqL.of h1) (FrL.dp h2 (by rw [py, PyData.hasDict] at c; exact c))
  | .tup ds, v, h, c => by
    rw [Fr] at h
    obtain ⟨a, xs, rfl, h1, h2⟩ := h
    exact .tup h1 (FrL.dp h2 (by rw [py, PyData.hasDict] at c; exact c))
  | .dct kvs, v, h, c => by rw [py, PyData.hasDict] at c; cases c
  | .fn i, v, h, c => by rw [py, PyData.hasDict] at c; cases c
  | .scr ns, v, h, c => by rw [py, PyData.hasDict] at c; cases c
theorem FrL.dp : ∀ {ds : List D} {xs : List V}, FrL g F H ds xs → PyData.hasDictAll (pys ds) = false → DpAll g.K H xs (pys ds)
  | [], xs, h, c => by rw [FrL] at h; subst h; exact .nil
  | d :: ds, xs, h, c => by
    rw [FrL] at h
    obtain ⟨x, r, rfl, h1, h2⟩ := h
    rw [pys, PyData.hasDictAll, Bool.or_eq_false_iff] at c
    exact .cons (Fr.dp h1 c.1) (FrL.dp h2 c.2)
end
theorem Bor.dp {d : D} {v : V} (h : Bor g F H d v) (c : (py d).hasDict = false) : Dp g.K H v (py d) := by
  cases d with
  | lst ds =>
    obtain ⟨a, xs, rfl, h1, h2⟩ := h
    exact .lst (SqL.of h1) (h2.dp (by rw [py, PyData.hasDict] at c; exact c))
  | dct kvs => rw [py, PyData.hasDict] at c; cases c
  | _ => exact Fr.dp (F := F) h c
theorem frL_flat : ∀ {ds : List D} {xs : List V}, FrL g F H ds xs → ds.all flatD = true → xs.all flatV = true
  | [], xs, h, c => by rw [FrL] at h; subst h; rfl
  | d :: ds, xs, h, c => by
    rw [FrL] at h
    obtain ⟨x, r, rfl, h1, h2⟩ := h
    rw [List.all_cons, Bool.and_eq_true] at c ⊢
    refine ⟨?_, frL_flat h2 c.2⟩
    cases d <;> first | (rw [Fr] at h1; subst h1; rfl) | cases c.1
theorem fr_eqF {d e : D} {x y : V} (h1 : Fr g F H d x) (h2 : Fr g F H e y) (c1 : flatD d = true) (c2 : flatD e = true) : eqV x y = eqF d e := by
  cases d <;> first | (simp [flatD] at c1; done) | skip
  all_goals (cases e <;> first | (simp [flatD] at c2; done) | (simp only [Fr] at h1 h2; subst h1; subst h2; rfl))
theorem frL_any {e : D} {y : V} (he : Fr g F H e y) (ce : flatD e = true) : ∀ {ds : List D} {xs : List V}, FrL g F H ds xs → ds.all flatD = true → (xs.any fun z => eqV z y) = ds.any fun z => eqF z e
  | [], xs, h, c => by rw [FrL] at h; subst h; rfl
  | d :: ds, xs, h, c => by
    rw [FrL] at h
    obtain ⟨x, r, rfl, h1, h2⟩ := h
    rw [List.all_cons, Bool.and_eq_true] at c
    rw [List.any_cons, List.any_cons, frL_any he ce h2 c.2, fr_eqF h1 he c.1 ce]
theorem bor_flat {d : D} {v : V} (h : Bor g F H d v) (c : flatD d = true) : Fr g F H d v ∧ flatV v = true := by
  cases d <;> first | (simp [flatD] at c; done) | skip
  · cases bor_non h; exact ⟨fr_non, rfl⟩
  · cases bor_bl h; exact ⟨fr_bl, rfl⟩
  · cases bor_int h; exact ⟨fr_int, rfl⟩
  · cases bor_str h; exact ⟨fr_str, rfl⟩
theorem keyD_kV {d : D} {v : V} {k : Key} (h : Bor g F H d v) (e : keyD d = some k) : v = kV k := by
  cases d <;> first | cases e | skip
  · cases bor_int h; rfl
  · cases bor_str h; rfl
theorem frK_val : ∀ {kvs : List (Key × D)} {ws : List (Key × V)} (k : Key), FrK g F H kvs ws → (valD kvs k = none ∧ valV ws k = none) ∨ ∃ d v, valD kvs k = some d ∧ valV ws k = some v ∧ Fr g F H d v
  | [], ws, k, h => by rw [FrK] at h; subst h; exact .inl ⟨rfl, rfl⟩
  | (k', d) :: r, ws, k, h => by
    rw [FrK] at h
    obtain ⟨x, s, rfl, h1, h2⟩ := h
    by_cases e : k' = k
    · subst e
      exact .inr ⟨d, x, by simp [valD], by simp [valV], h1⟩
    · have e1 : valD ((k', d) :: r) k = valD r k := by simp [valD, List.find?_cons, e]
      have e2 : valV ((k', x) :: s) k = valV s k := by simp [valV, List.find?_cons, e]
      rw [e1, e2]
      exact frK_val k h2
theorem frK_some {kvs : List (Key × D)} {ws : List (Key × V)} (k : Key) (h : FrK g F H kvs ws) : (valV ws k).isSome = (valD kvs k).isSome := by
  rcases frK_val k h with ⟨h1, h2⟩ | ⟨d, v, h1, h2, _⟩ <;> rw [h1, h2] <;> rfl
end
def rDIn (neg : Bool) : R2 := fun y x H Q => ∃ a o, x = .ref a ∧ DGet H a y o ∧ Q (.bl (if neg then !o.isSome else o.isSome)) H
def rInStr (neg : Bool) : R2 := fun x y H Q => ∃ i j, x = .str i ∧ y = .str j ∧ Q (.bl (if neg then !(!(Builtin.Str.occurrences j i 0 j.length 1).isEmpty) else !(Builtin.Str.occurrences j i 0 j.length 1).isEmpty)) H
/-- a list or tuple beside an empty one -/
def rEq0 (K : PySem.W.Frag) (neg : Bool) : R2 := fun x y H Q => ∃ a b xs ys, x = .ref a ∧ y = .ref b ∧ ((SqL K H a xs ∧ SqL K H b ys) ∨ (SqT K H a xs ∧ SqT K H b ys)) ∧ (xs = [] ∨ ys = []) ∧ Q (.bl (if neg then !(xs.isEmpty && ys.isEmpty) else xs.isEmpty && ys.isEmpty)) H
def rLeStr : R2 := fun x y H Q => ∃ i j, x = .str i ∧ y = .str j ∧ Q (.bl (!decide (j.cps.toList < i.cps.toList))) H
def rCmp (K : PySem.W.Frag) : COp → R2
  | .lt => rI0 fun i j => .bl (decide (i < j))
  | .le => fun x y H Q => rI0 (fun i j => .bl (decide (i ≤ j))) x y H Q ∨ rLeStr x y H Q
  | .gt => rI0 fun i j => .bl (decide (j < i))
  | .ge => rI0 fun i j => .bl (decide (j ≤ i))
  | .eq => fun x y H Q => rEq x y H Q ∨ rEq0 K false x y H Q ∨ rEqD K x y H Q
  | .ne => fun x y H Q => rNe x y H Q ∨ rEq0 K true x y H Q ∨ rNeD K x y H Q
  | .isin => fun x y H Q => rIn K false x y H Q ∨ rDIn false x y H Q ∨ rInStr false x y H Q ∨ rInD K x y H Q
  | .notin => fun x y H Q => rIn K true x y H Q ∨ rDIn true x y H Q ∨ rInStr true x y H Q ∨ rNotInD K x y H Q
theorem isEmpty_len {ds : List D} {xs : List V} (h : ds.length = xs.length) : xs.isEmpty = ds.isEmpty := by
  cases ds <;> cases xs <;> simp_all
theorem scal_ok {g : Gx} {F : Addr → Prop} {H : Hp} {d e : D} {x y : V} {b : Bool} (hx : Bor g F H d x) (hy : Bor g F H e y) (h : scalD d e = some b) :
    (scal x y = true ∧ decide (x = y) = b) ∨ ∃ a c xs ys, x = .ref a ∧ y = .ref c ∧ ((SqL g.K H a xs ∧ SqL g.K H c ys) ∨ (SqT g.K H a xs ∧ SqT g.K H c ys)) ∧ (xs = [] ∨ ys = []) ∧ (xs.isEmpty && ys.isEmpty) = b := by
  unfold scalD at h
  split at h <;> first | cases h | skip
  · cases bor_non hx; cases bor_non hy; exact .inl ⟨rfl, rfl⟩
  · cases bor_non hx; cases bor_int hy; exact .inl ⟨rfl, rfl⟩
  · cases bor_int hx; cases bor_non hy; exact .inl ⟨rfl, rfl⟩
  · cases bor_non hx; cases bor_bl hy; exact .inl ⟨rfl, rfl⟩
  · cases bor_bl hx; cases bor_non hy; exact .inl ⟨rfl, rfl⟩
  · cases bor_non hx; cases bor_str hy; exact .inl ⟨rfl, rfl⟩
  · cases bor_str hx; cases bor_non hy; exact .inl ⟨rfl, rfl⟩
  · cases bor_int hx; cases bor_int hy; exact .inl ⟨rfl, by simp⟩
  · cases bor_bl hx; cases bor_bl hy; exact .inl ⟨rfl, by simp⟩
  · cases bor_str hx; cases bor_str hy; exact .inl ⟨rfl, by simp⟩
  · cases bor_int hx; cases bor_str hy; exact .inl ⟨rfl, rfl⟩
  · cases bor_str hx; cases bor_int hy; exact .inl ⟨rfl, rfl⟩
  · cases bor_bl hx; cases bor_str hy; exact .inl ⟨rfl, rfl⟩
  · cases bor_str hx; cases bor_bl hy; exact .inl ⟨rfl, rfl⟩
  · obtain ⟨a, xs, rfl, h1, h2⟩ := hx
    obtain ⟨c, ys, rfl, h3, h4⟩ := hy
    have e4 : ys = [] := by rw [FrL] at h4; exact h4
    exact .inr ⟨a, c, xs, ys, rfl, rfl, .inl ⟨SqL.of h1, SqL.of h3⟩, .inr e4, by rw [e4, isEmpty_len h2.length]; simp⟩
  · obtain ⟨a, xs, rfl, h1, h2⟩ := hx
    obtain ⟨c, ys, rfl, h3, h4⟩ := hy
    have e4 : xs = [] := by rw [FrL] at h2; exact h2
    exact .inr ⟨a, c, xs, ys, rfl, rfl, .inl ⟨SqL.of h1, SqL.of h3⟩, .inl e4, by rw [e4, isEmpty_len h4.length]; simp⟩
  · obtain ⟨a, xs, rfl, h1, h2⟩ := bor_tup hx
    obtain ⟨c, ys, rfl, h3, h4⟩ := bor_tup hy
    have e4 : ys = [] := by rw [FrL] at h4; exact h4
    exact .inr ⟨a, c, xs, ys, rfl, rfl, .inr ⟨h1, h3⟩, .inr e4, by rw [e4, isEmpty_len h2.length]; simp⟩
  · obtain ⟨a, xs, rfl, h1, h2⟩ := bor_tup hx
    obtain ⟨c, ys, rfl, h3, h4⟩ := bor_tup hy
    have e4 : xs = [] := by rw [FrL] at h2; exact h2
    exact .inr ⟨a, c, xs, ys, rfl, rfl, .inr ⟨h1, h3⟩, .inl e4, by rw [e4, isEmpty_len h4.length]; simp⟩
theorem eq_ok {g : Gx} {F : Addr → Prop} {H : Hp} {d e : D} {x y : V} {b : Bool} {Q : VK} (hx : Bor g F H d x) (hy : Bor g F H e y) (h : eqD d e = some b) :
    (Q (.bl b) H → rCmp g.K .eq x y H Q) ∧ (Q (.bl (!b)) H → rCmp g.K .ne x y H Q) := by
  unfold eqD at h
  cases hs : scalD d e with
  | some b' =>
    rw [hs] at h
    cases h
    rcases scal_ok hx hy hs with ⟨h1, h2⟩ | ⟨a, c, xs, ys, h1, h2, h3, h4, h5⟩
    · exact ⟨fun q => .inl ⟨h1, by rw [h2]; exact q⟩, fun q => .inl ⟨h1, by rw [h2]; exact q⟩⟩
    · exact ⟨fun q => .inr (.inl ⟨a, c, xs, ys, h1, h2, h3, h4, by rw [if_neg (by decide), h5]; exact q⟩), fun q => .inr (.inl ⟨a, c, xs, ys, h1, h2, h3, h4, by rw [if_pos rfl, h5]; exact q⟩)⟩
  | none =>
    rw [hs] at h
    simp only at h
    split at h
    · rename_i c
      cases h
      have d1 := hx.dp (PyData.hasDict_of_canLay _ (SeqAt.canLay_of_shaped c.1))
      have d2 := hy.dp (PyData.hasDict_of_canLay _ (SeqAt.canLay_of_shaped c.2))
      exact ⟨fun q => .inr (.inr ⟨_, _, d1, d2, c.1, c.2, q⟩), fun q => .inr (.inr ⟨_, _, d1, d2, c.1, c.2, q⟩)⟩
    · cases h
theorem in_ok {g : Gx} {F : Addr → Prop} {H : Hp} {d e : D} {x y : V} {b : Bool} {Q : VK} (hx : Bor g F H d x) (hy : Bor g F H e y) (h : inD d e = some b) :
    (Q (.bl b) H → rCmp g.K .isin x y H Q) ∧ (Q (.bl (!b)) H → rCmp g.K .notin x y H Q) := by
  unfold inD at h
  split at h
  · split at h
    · rename_i c
      cases h
      rw [Bool.and_eq_true] at c
      obtain ⟨a, ys, rfl, h1, h2⟩ := hy
      obtain ⟨f1, f2⟩ := bor_flat hx c.1
      have e := frL_any f1 c.1 h2 c.2
      exact ⟨fun q => .inl ⟨a, ys, rfl, .inl (SqL.of h1), f2, frL_flat h2 c.2, by rw [if_neg (by decide), inV, e]; exact q⟩, fun q => .inl ⟨a, ys, rfl, .inl (SqL.of h1), f2, frL_flat h2 c.2, by rw [if_pos rfl, inV, e]; exact q⟩⟩
    · split at h
      · rename_i ys' _ c
        cases h
        have d1 := hx.dp (PyData.hasDict_of_canLay _ (SeqAt.canLay_of_shaped c.1))
        have d2 := Bor.dp (d := .lst ys') hy (PyData.hasDict_of_canLay _ (SeqAt.canLay_of_shaped c.2))
        have c2 := c.2
        rw [py] at d2 c2
        exact ⟨fun q => .inr (.inr (.inr ⟨_, _, d1, d2, c.1, c2, q⟩)), fun q => .inr (.inr (.inr ⟨_, _, d1, d2, c.1, c2, q⟩))⟩
      · cases h
  · split at h
    · rename_i c
      cases h
      rw [Bool.and_eq_true] at c
      obtain ⟨a, ys, rfl, h1, h2⟩ := bor_tup hy
      obtain ⟨f1, f2⟩ := bor_flat hx c.1
      have e := frL_any f1 c.1 h2 c.2
      exact ⟨fun q => .inl ⟨a, ys, rfl, .inr h1, f2, frL_flat h2 c.2, by rw [if_neg (by decide), inV, e]; exact q⟩, fun q => .inl ⟨a, ys, rfl, .inr h1, f2, frL_flat h2 c.2, by rw [if_pos rfl, inV, e]; exact q⟩⟩
    · cases h
  · obtain ⟨a, ws, rfl, h1, h2⟩ := hy
    cases hk : keyD d with
    | none => rw [hk] at h; cases h
    | some k =>
      rw [hk] at h
      cases h
      have ek := keyD_kV hx hk
      subst ek
      have e := frK_some k h2
      have dg : DGet H a (kV k) (valV ws k) := .inl ⟨ws, k, h1, rfl, rfl⟩
      exact ⟨fun q => .inr (.inl ⟨a, _, rfl, dg, by rw [if_neg (by decide), e]; exact q⟩), fun q => .inr (.inl ⟨a, _, rfl, dg, by rw [if_pos rfl, e]; exact q⟩)⟩
  · split at h
    · cases h
      cases bor_str hx; cases bor_str hy
      exact ⟨fun q => .inr (.inr (.inl ⟨_, _, rfl, rfl, q⟩)), fun q => .inr (.inr (.inl ⟨_, _, rfl, rfl, q⟩))⟩
    · cases h
  · cases h
theorem p2_cmp {g : Gx} (o : COp) : P2 g (rCmp g.K o) (fun x y => (cmpD o x y).map fun k => fz (.bl k)) := by
  intro F H x y d e rv Q tk hx hy he q
  have fin : ∀ b : Bool, rv = fz (.bl b) → Q (.bl b) H := fun b eb => by
    subst eb
    exact q _ _ .refl sl_bl fun z => by cases z
  simp only at he
  cases hc : cmpD o d e with
  | none => rw [hc] at he; cases he
  | some b =>
    rw [hc] at he
    cases he
    have fq := fin b rfl
    unfold cmpD at hc
    split at hc
    · cases hc; cases bor_int hx; cases bor_int hy; exact ⟨_, _, rfl, rfl, fq⟩
    · cases hc; cases bor_int hx; cases bor_int hy; exact .inl ⟨_, _, rfl, rfl, fq⟩
    · cases hc; cases bor_int hx; cases bor_int hy; exact ⟨_, _, rfl, rfl, fq⟩
    · cases hc; cases bor_int hx; cases bor_int hy; exact ⟨_, _, rfl, rfl, fq⟩
    · cases hc; cases bor_str hx; cases bor_str hy; exact .inr ⟨_, _, rfl, rfl, fq⟩
    · exact (eq_ok hx hy hc).1 fq
    · cases he : eqD d e with
      | none => rw [he] at hc; cases hc
      | some b' => rw [he] at hc; cases hc; exact (eq_ok hx hy he).2 fq
    · exact (in_ok hx hy hc).1 fq
    · cases he : inD d e with
      | none => rw [he] at hc; cases hc
      | some b' => rw [he] at hc; cases hc; exact (in_ok hx hy he).2 fq
    · cases hc
end Ev
/-! Snd4: more operators. -/
namespace Ev
open PySem L2

section
variable {g : Gx} {F : Addr → Prop} {H : Hp}
theorem tru_of {d : D} {v : V} {k : Bool} (h : Bor g F H d v) (e : truD d = some k) : TruV g.K v H k := by
  unfold truD at e
  split at e
  · cases e; cases bor_non h; rfl
  · cases e; cases bor_bl h; rfl
  · cases e; cases bor_int h; rfl
  · split at e
    · rename_i hl
      cases e; cases bor_str h; exact ⟨hl, rfl⟩
    · cases e
  · cases e
    obtain ⟨a, xs, rfl, h1, h2⟩ := h
    exact .inl ⟨xs, SqL.of h1, by rw [isEmpty_len h2.length]⟩
  · cases e
    obtain ⟨a, xs, rfl, h1, h2⟩ := bor_tup h
    exact .inr (.inl ⟨xs, h1, by rw [isEmpty_len h2.length]⟩)
  · cases e
def isNonD : D → Bool
  | .non => true
  | _ => false
theorem non_of {d : D} {v : V} (h : Bor g F H d v) : decide (v = .non) = isNonD d := by
  cases d with
  | non => cases bor_non h; rfl
  | bl b => cases bor_bl h; rfl
  | int b => cases bor_int h; rfl
  | str b => cases bor_str h; rfl
  | lst ds => obtain ⟨a, xs, rfl, _⟩ := h; rfl
  | tup ds => obtain ⟨a, xs, rfl, _⟩ := bor_tup h; rfl
  | dct ds => obtain ⟨a, xs, rfl, _⟩ := h; rfl
  | fn i =>
    have h : Fr g F H (.fn i) v := h
    rw [Fr] at h
    obtain ⟨f, rfl, _⟩ := h
    rfl
  | scr ns => obtain ⟨a, rfl, _⟩ := bor_scr h; rfl
end
def rNeg : V → Hp → VK → Prop := rU fun i => .int (-i)
theorem p1_neg {g : Gx} : P1 g rNeg (fun d => match d with | .int i => some (fz (.int (-i))) | _ => none) := by
  intro F H x d rv Q tk hx he q
  simp only at he
  split at he
  · cases he; cases bor_int hx
    exact ⟨_, rfl, q _ _ .refl sl_int fun z => by cases z⟩
  · cases he
def rNotT (K : PySem.W.Frag) : V → Hp → VK → Prop := fun x H Q => ∃ k, TruV K x H k ∧ Q (.bl (!k)) H
theorem p1_not {g : Gx} : P1 g (rNotT g.K) (fun d => (truD d).map fun k => fz (.bl (!k))) := by
  intro F H x d rv Q tk hx he q
  simp only at he
  cases ht : truD d with
  | none => rw [ht] at he; cases he
  | some k =>
    rw [ht] at he; cases he
    exact ⟨k, tru_of hx ht, q _ _ .refl sl_bl fun z => by cases z⟩
def rIsN : V → Hp → VK → Prop := fun x H Q => Q (.bl (decide (x = .non))) H
def rNotN : V → Hp → VK → Prop := fun x H Q => Q (.bl (!decide (x = .non))) H
theorem p1_isN {g : Gx} : P1 g rIsN (fun d => some (fz (.bl (match d with | .non => true | _ => false)))) := by
  intro F H x d rv Q tk hx he q
  cases he
  have e := non_of hx
  unfold rIsN
  rw [e]
  refine q _ _ .refl ?_ fun z => by cases z
  cases d <;> exact sl_bl
theorem p1_isNN {g : Gx} : P1 g rNotN (fun d => some (fz (.bl (match d with | .non => false | _ => true)))) := by
  intro F H x d rv Q tk hx he q
  cases he
  have e := non_of hx
  unfold rNotN
  rw [e]
  refine q _ _ .refl ?_ fun z => by cases z
  cases d <;> exact sl_bl

/-! ### items, slices -/
def rDGet' : R2 := fun x y H Q => ∃ a v, x = .ref a ∧ DGet H a y (some v) ∧ Q v H
def rIdx (K : PySem.W.Frag) : R2 := fun x y H Q => rIx K x y H Q ∨ rDGet' x y H Q
theorem frL_at {g : Gx} {F : Addr → Prop} {H : Hp} {ds : List D} {xs : List V} {i : Int} {d : D} (h : FrL g F H ds xs) (e : atI ds i = some d) : ∃ x, atI xs i = some x ∧ Fr g F H d x := by
  unfold atI at e ⊢
  rw [← h.length]
  cases hi : ixN ds.length i with
  | none => rw [hi] at e; cases e
  | some j =>
    rw [hi] at e
    exact h.get e
theorem p2_idx {g : Gx} : P2 g (rIdx g.K) (fun x y => (idxD x y).map fz) := by
  intro F H x y d e rv Q tk hx hy he q
  simp only at he
  cases hi : idxD d e with
  | none => rw [hi] at he; cases he
  | some r =>
    rw [hi] at he; cases he
    have fin : ∀ v, Fr g F H r v → Q v H := fun v f => q _ _ .refl (sl_fz.mpr f) fun z => by cases z
    unfold idxD at hi
    split at hi
    · obtain ⟨a, xs, rfl, h1, h2⟩ := hx
      cases bor_int hy
      obtain ⟨v, e1, f⟩ := frL_at h2 hi
      exact .inl (.inl ⟨a, xs, _, v, rfl, rfl, SqL.of h1, e1, fin v f⟩)
    · obtain ⟨a, xs, rfl, h1, h2⟩ := bor_tup hx
      cases bor_int hy
      obtain ⟨v, e1, f⟩ := frL_at h2 hi
      exact .inl (.inr (.inl ⟨a, xs, _, v, rfl, rfl, h1, e1, fin v f⟩))
    · split at hi
      · rename_i s i hl
        cases bor_str hx; cases bor_int hy
        cases ha : atI s.cps.toList i with
        | none => rw [ha] at hi; cases hi
        | some c =>
          rw [ha] at hi
          cases hi
          exact .inl (.inr (.inr ⟨s, i, c, rfl, rfl, hl, ha, fin _ fr_str⟩))
      · cases hi
    · obtain ⟨a, ws, rfl, h1, h2⟩ := hx
      rename_i kvs
      cases hk : keyD e with
      | none => rw [hk] at hi; cases hi
      | some k =>
        rw [hk] at hi
        have hi' : valD kvs k = some r := hi
        have ek := keyD_kV hy hk
        subst ek
        rcases frK_val k h2 with ⟨e1, _⟩ | ⟨d', v, e1, e2, f⟩
        · rw [e1] at hi'; cases hi'
        · rw [e1] at hi'; cases hi'
          exact .inr ⟨a, v, rfl, .inl ⟨ws, k, h1, rfl, e2.symm⟩, fin v f⟩
    · cases hi
def rSlc (K : PySem.W.Frag) : V → Option Int → Option Int → Hp → VK → Prop := fun x lo hi H Q => rSlL K x lo hi H Q ∨ rSlT K x lo hi H Q ∨ rSlS x lo hi H Q
theorem cutV_cut (xs : List V) (lo hi : Option Int) : cutV xs lo hi = cutL xs lo hi := rfl
theorem FrL.cut {g : Gx} {F : Addr → Prop} {H : Hp} {ds : List D} {xs : List V} (h : FrL g F H ds xs) (lo hi : Option Int) : FrL g F H (cutL ds lo hi) (cutV xs lo hi) := by
  rw [cutV_cut]
  unfold cutL
  rw [← h.length]
  exact (h.drop _).take _
theorem frL_ints {g : Gx} {F : Addr → Prop} {H : Hp} : ∀ ns : List Int, FrL g F H (ns.map D.int) (ns.map V.int)
  | [] => FrL.nil
  | n :: ns => FrL.cons fr_int (frL_ints ns)
theorem p1_slc {g : Gx} (lo hi : Option Int) : P1 g (fun x H Q => rSlc g.K x lo hi H Q) (slcD lo hi) := by
  intro F H x d rv Q tk hx he q
  unfold slcD at he
  split at he
  · cases he
    obtain ⟨a, xs, rfl, h1, h2⟩ := hx
    exact .inl ⟨a, xs, rfl, SqL.of h1, fun p hp => newL tk hp (h2.cut lo hi) q⟩
  · split at he
    · cases he
    · rename_i hn
      cases he
      obtain ⟨a, xs, rfl, h1, h2⟩ := bor_tup hx
      exact .inr (.inl ⟨a, xs, rfl, h1, by rw [← h2.length]; exact hn, fun p hp => newT hp (h2.cut lo hi) q⟩)
  · split at he
    · rename_i hl
      cases he
      cases bor_str hx
      exact .inr (.inr ⟨_, rfl, hl, q _ _ .refl sl_str fun z => by cases z⟩)
    · cases he
  · cases he
    rename_i ns
    obtain ⟨a, rfl, h1⟩ := bor_scr hx
    refine .inl ⟨a, _, rfl, h1, fun p hp => newL tk hp ?_ q⟩
    have e : cutV (ns.map V.int) lo hi = (cutL ns lo hi).map V.int := by
      rw [cutV_cut]
      unfold cutL
      rw [List.length_map, List.map_take, List.map_drop]
    rw [e]
    exact frL_ints _
  · cases he
/-- every second item, from the first or the second one on; the items from behind -/
def rEvn (K : PySem.W.Frag) (l : Option Int) : V → Hp → VK → Prop := fun x H Q => ∃ a xs, x = .ref a ∧ SqL K H a xs ∧ ((l = none ∧ ∀ p, H p = none → Q (.ref p) (upd H p (.lst (evens xs)))) ∨ (l = some 1 ∧ ∀ p, H p = none → Q (.ref p) (upd H p (.lst (evens (xs.drop 1))))))
theorem FrL.evens {g : Gx} {F : Addr → Prop} {H : Hp} : ∀ {ds : List D} {xs : List V}, FrL g F H ds xs → FrL g F H (Ev.evens ds) (Ev.evens xs)
  | [], xs, h => by rw [FrL] at h; subst h; exact FrL.nil
  | [d], xs, h => by
    rw [FrL] at h
    obtain ⟨x, r, rfl, h1, h2⟩ := h
    rw [FrL] at h2; subst h2
    exact FrL.cons h1 FrL.nil
  | d :: e :: ds, xs, h => by
    rw [FrL] at h
    obtain ⟨x, r, rfl, h1, h2⟩ := h
    rw [FrL] at h2
    obtain ⟨y, r, rfl, h3, h4⟩ := h2
    exact FrL.cons h1 (FrL.evens h4)
theorem p1_evn {g : Gx} (l : Option Int) : P1 g (rEvn g.K l) (fun d => match d with
    | .lst xs => (match l with
      | none => some (ow (.lst (evens xs)))
      | some 1 => some (ow (.lst (evens (xs.drop 1))))
      | _ => none)
    | _ => none) := by
  intro F H x d rv Q tk hx he q
  simp only at he
  split at he
  · obtain ⟨a, xs, rfl, h1, h2⟩ := hx
    split at he
    · cases he
      exact ⟨a, xs, rfl, SqL.of h1, .inl ⟨rfl, fun p hp => newL tk hp h2.evens q⟩⟩
    · cases he
      exact ⟨a, xs, rfl, SqL.of h1, .inr ⟨rfl, fun p hp => newL tk hp (h2.drop 1).evens q⟩⟩
    · cases he
  · cases he
def rRev (K : PySem.W.Frag) : V → Hp → VK → Prop := fun x H Q => ∃ a xs, x = .ref a ∧ SqL K H a xs ∧ ∀ p, H p = none → Q (.ref p) (upd H p (.lst xs.reverse))
theorem FrL.rev {g : Gx} {F : Addr → Prop} {H : Hp} : ∀ {ds : List D} {xs : List V}, FrL g F H ds xs → FrL g F H ds.reverse xs.reverse
  | [], xs, h => by rw [FrL] at h; subst h; exact FrL.nil
  | d :: ds, xs, h => by
    rw [FrL] at h
    obtain ⟨x, r, rfl, h1, h2⟩ := h
    rw [List.reverse_cons, List.reverse_cons]
    exact (FrL.rev h2).app (FrL.cons h1 FrL.nil)
theorem p1_rev {g : Gx} : P1 g (rRev g.K) (fun d => match d with | .lst xs => some (ow (.lst xs.reverse)) | _ => none) := by
  intro F H x d rv Q tk hx he q
  simp only at he
  split at he
  · cases he
    obtain ⟨a, xs, rfl, h1, h2⟩ := hx
    exact ⟨a, xs, rfl, SqL.of h1, fun p hp => newL tk hp h2.rev q⟩
  · cases he

/-! ### built-ins of one argument -/
/-- two rows, each begun by a text, the texts unlike -/
def rSort2 (K : PySem.W.Frag) : List V → Hp → VK → Prop := fun vs H Q => ∃ a xs, vs = [.ref a] ∧ SqL K H a xs ∧
  ((xs.length ≤ 1 ∧ ∀ p, H p = none → Q (.ref p) (upd H p (.lst xs))) ∨
   ∃ b c s t ys zs, xs = [.ref b, .ref c] ∧ SqT K H b (.str s :: ys) ∧ SqT K H c (.str t :: zs) ∧ s ≠ t ∧ ∀ p, H p = none → Q (.ref p) (upd H p (.lst (if decide (t.cps.toList < s.cps.toList) then [.ref c, .ref b] else [.ref b, .ref c]))))
def rRepr (K : PySem.W.Frag) : List V → Hp → VK → Prop := fun vs H Q => (∃ t : Str, vs = [.str t] ∧ (reprText t).length ≤ sizeLine ∧ Q (.str (reprText t)) H) ∨ (∃ i : Int, vs = [.int i] ∧ i.natAbs.log2 < 1920 ∧ Q (.str (Str.ofString (toString i))) H) ∨ (∃ b : Bool, vs = [.bl b] ∧ Q (.str (Str.ofString (if b then "True" else "False"))) H) ∨ (vs = [.non] ∧ Q (.str (Str.ofString "None")) H) ∨ ∃ (x : V) (a : Addr) (d : PyData), vs = [x] ∧ x = .ref a ∧ Dp K H x d ∧ d.showable = true ∧ d.hasDict = false ∧ d.shown.length ≤ sizeLine ∧ d.depth ≤ 64 ∧ Q (.str d.shown) H
def rLenAll (K : PySem.W.Frag) : List V → Hp → VK → Prop := fun xs H Q => (∃ x n, xs = [x] ∧ LenV K x H n ∧ Q (.int n) H) ∨ ∃ a kvs, xs = [.ref a] ∧ Rd H a (.dK kvs) ∧ Q (.int kvs.length) H
def rLst (K : PySem.W.Frag) : List V → Hp → VK → Prop := fun xs H Q => (∃ p ys, xs = [.ref p] ∧ (SqL K H p ys ∨ SqT K H p ys) ∧ ∀ l, H l = none → Q (.ref l) (upd H l (.lst ys))) ∨
  ∃ (a : Addr) (kvs : List (Key × V)), xs = [.ref a] ∧ Rd H a (.dK kvs) ∧ ∀ p, H p = none → Q (.ref p) (upd H p (.lst (kvs.map fun kv => kV kv.1)))
def rTpl (K : PySem.W.Frag) : List V → Hp → VK → Prop := fun xs H Q => ∃ p ys, xs = [.ref p] ∧ ((SqL K H p ys ∧ ∀ l, H l = none → Q (.ref l) (upd H l (.tup ys))) ∨ (SqT K H p ys ∧ Q (.ref p) H))
def rInt1 : List V → Hp → VK → Prop := fun xs H Q => (∃ i, xs = [.int i] ∧ Q (.int i) H) ∨ ∃ k, xs = [.bl k] ∧ Q (.int (if k then 1 else 0)) H
def rAbs1 : List V → Hp → VK → Prop := fun xs H Q => ∃ i, xs = [.int i] ∧ Q (.int (if i < 0 then -i else i)) H
def rDct1 : List V → Hp → VK → Prop := fun xs H Q => ∃ (a : Addr) (kvs : List (Key × V)), xs = [.ref a] ∧ Rd H a (.dK kvs) ∧ ∀ p, H p = none → Q (.ref p) (upd H p (.dK kvs))
def isiT : Bi → String
  | .isInt => "int"
  | .isBool => "bool"
  | .isStr => "str"
  | .isTuple => "tuple"
  | _ => "list"
def rBi (K : PySem.W.Frag) (f : Bi) (x : V) (H : Hp) (Q : VK) : Prop := match f with
  | .len => rLenAll K [x] H Q
  | .all => rAll K [x] H Q
  | .any => rAny K [x] H Q
  | .list => rLst K [x] H Q
  | .tuple => rTpl K [x] H Q
  | .sorted => rSort2 K [x] H Q
  | .int => rInt1 [x] H Q
  | .abs => rAbs1 [x] H Q
  | .repr => rRepr K [x] H Q
  | .dict => rDct1 [x] H Q
  | .isInt => rIsi K [x, .ty "int"] H Q
  | .isBool => rIsi K [x, .ty "bool"] H Q
  | .isStr => rIsi K [x, .ty "str"] H Q
  | .isTuple => rIsi K [x, .ty "tuple"] H Q
  | .isList => rIsi K [x, .ty "list"] H Q
  | .sum => False
  | .set => False
section
variable {g : Gx} {F : Addr → Prop} {H : Hp}
theorem frL_bls : ∀ {ds : List D} {xs : List V} {bs : List Bool}, FrL g F H ds xs → blsD ds = some bs → xs = bs.map V.bl
  | [], xs, bs, h, e => by
    rw [FrL] at h; subst h
    rw [blsD] at e; cases e; rfl
  | .bl b :: ds, xs, bs, h, e => by
    rw [FrL] at h
    obtain ⟨x, r, rfl, h1, h2⟩ := h
    rw [Fr] at h1; subst h1
    rw [blsD] at e
    cases hb : blsD ds with
    | none => rw [hb] at e; cases e
    | some cs =>
      rw [hb] at e; cases e
      rw [frL_bls h2 hb]
      rfl
  | .non :: _, _, _, _, e => by cases e
  | .int _ :: _, _, _, _, e => by cases e
  | .str _ :: _, _, _, _, e => by cases e
  | .lst _ :: _, _, _, _, e => by cases e
  | .tup _ :: _, _, _, _, e => by cases e
  | .dct _ :: _, _, _, _, e => by cases e
  | .fn _ :: _, _, _, _, e => by cases e
  | .scr _ :: _, _, _, _, e => by cases e
theorem frL_strs : ∀ {ds : List D} {xs : List V} {bs : List Str}, FrL g F H ds xs → strsD ds = some bs → xs = bs.map V.str
  | [], xs, bs, h, e => by
    rw [FrL] at h; subst h
    rw [strsD] at e; cases e; rfl
  | .str b :: ds, xs, bs, h, e => by
    rw [FrL] at h
    obtain ⟨x, r, rfl, h1, h2⟩ := h
    rw [Fr] at h1; subst h1
    rw [strsD] at e
    cases hb : strsD ds with
    | none => rw [hb] at e; cases e
    | some cs =>
      rw [hb] at e; cases e
      rw [frL_strs h2 hb]
      rfl
  | .non :: _, _, _, _, e => by cases e
  | .int _ :: _, _, _, _, e => by cases e
  | .bl _ :: _, _, _, _, e => by cases e
  | .lst _ :: _, _, _, _, e => by cases e
  | .tup _ :: _, _, _, _, e => by cases e
  | .dct _ :: _, _, _, _, e => by cases e
  | .fn _ :: _, _, _, _, e => by cases e
  | .scr _ :: _, _, _, _, e => by cases e
theorem fr_key (k : Key) : Fr g F H (kD k) (kV k) := by
  cases k with
  | inl i => exact fr_int
  | inr s => exact fr_str
theorem frK_keys : ∀ {kvs : List (Key × D)} {ws : List (Key × V)}, FrK g F H kvs ws → FrL g F H (kvs.map fun kv => kD kv.1) (ws.map fun kv => kV kv.1)
  | [], ws, h => by rw [FrK] at h; subst h; exact FrL.nil
  | (k, d) :: r, ws, h => by
    rw [FrK] at h
    obtain ⟨x, s, rfl, h1, h2⟩ := h
    exact FrL.cons (fr_key k) (frK_keys h2)
theorem FrK.length : ∀ {kvs : List (Key × D)} {ws : List (Key × V)}, FrK g F H kvs ws → kvs.length = ws.length
  | [], ws, h => by rw [FrK] at h; subst h; rfl
  | (k, d) :: r, ws, h => by
    rw [FrK] at h
    obtain ⟨x, s, rfl, h1, h2⟩ := h
    simp [FrK.length h2]
def tyD : D → String
  | .non => "NoneType"
  | .bl _ => "bool"
  | .int _ => "int"
  | .str _ => "str"
  | .lst _ => "list"
  | .tup _ => "tuple"
  | .dct _ => "dict"
  | .fn _ => "?"
  | .scr _ => "?"
theorem ty_of {d : D} {v : V} (h : Bor g F H d v) (n : tyD d ≠ "?") : TyX g.K H v (.type (tyD d)) := by
  cases d with
  | non => cases bor_non h; exact .base .non
  | bl b => cases bor_bl h; exact .base (.bl b)
  | int b => cases bor_int h; exact .base (.int b)
  | str b => cases bor_str h; exact .base (.str b)
  | lst ds => obtain ⟨a, xs, rfl, h1, _⟩ := h; exact .base (.lst h1)
  | tup ds =>
    obtain ⟨a, xs, rfl, h1, _⟩ := bor_tup h
    rcases h1 with (h1 | ⟨o, h1⟩) | ⟨o, its, m, h1, h2, _⟩
    · exact .base (.tup h1)
    · exact .fTuple h1
    · exact .kTuple h1 h2
  | dct ds =>
    obtain ⟨a, xs, rfl, h1 | ⟨o, h1⟩, _⟩ := h
    · exact .base (.dK h1)
    · exact .fDict h1
  | fn i => exact absurd rfl n
  | scr ns => exact absurd rfl n
theorem isi_of {d : D} {v : V} {T : String} {b : Bool} {Q : VK} (h : Bor g F H d v) (n : tyD d ≠ "?") (e : kitB (tyD d) T = some b) (q : Q (.bl b) H) : rIsi g.K [v, .ty T] H Q :=
  ⟨v, .ty T, .type (tyD d), .type T, b, rfl, .ty T, ty_of h n, kit_ty e, q⟩
end
theorem p1_isi {g : Gx} {F : Addr → Prop} {H : Hp} {x : V} {d : D} {Q : VK} {f : Bi} {rv : Rv} (hf : f = .isInt ∨ f = .isBool ∨ f = .isStr ∨ f = .isTuple ∨ f = .isList) (hx : Bor g F H d x) (he : biD f d = some rv)
    (q : ∀ H' v, New H H' → Sl g F H' rv v → (rv.1 = true → Fresh H v) → Q v H') : rBi g.K f x H Q := by
  have fin : ∀ b : Bool, rv = fz (.bl b) → Q (.bl b) H := fun b eb => by
    subst eb
    exact q _ _ .refl sl_bl fun z => by cases z
  rcases hf with rfl | rfl | rfl | rfl | rfl <;> cases d <;> first
    | (cases he; done)
    | (have e := fin _ (Option.some.inj he).symm; exact isi_of hx (by simp only [tyD]; decide) (by simp only [tyD]; decide +kernel) e)
theorem p1_bi {g : Gx} (f : Bi) : P1 g (rBi g.K f) (biD f) := by
  intro F H x d rv Q tk hx he q
  cases f with
  | len =>
    have he : (lenD d).map (fun n => fz (.int n)) = some rv := he
    cases hl : lenD d with
    | none => rw [hl] at he; cases he
    | some n =>
      rw [hl] at he; cases he
      have fin : Q (.int n) H := q _ _ .refl sl_int fun z => by cases z
      unfold lenD at hl
      split at hl
      · cases hl
        obtain ⟨a, xs, rfl, h1, h2⟩ := hx
        exact .inl ⟨_, xs.length, rfl, .inl ⟨xs, SqL.of h1, rfl⟩, by rw [← h2.length]; exact fin⟩
      · cases hl
        obtain ⟨a, xs, rfl, h1, h2⟩ := bor_tup hx
        exact .inl ⟨_, xs.length, rfl, .inr ⟨xs, h1, rfl⟩, by rw [← h2.length]; exact fin⟩
      · split at hl
        · rename_i hz
          cases hl
          cases bor_str hx
          exact .inl ⟨_, _, rfl, ⟨hz, rfl⟩, fin⟩
        · cases hl
      · cases hl
        obtain ⟨a, ws, rfl, h1, h2⟩ := hx
        exact .inr ⟨a, ws, rfl, h1, by rw [← h2.length]; exact fin⟩
      · cases hl
        rename_i ns
        obtain ⟨a, rfl, h1⟩ := bor_scr hx
        exact .inl ⟨_, (ns.map V.int).length, rfl, .inl ⟨_, h1, rfl⟩, by rw [List.length_map]; exact fin⟩
      · cases hl
  | all =>
    cases d <;> first | (cases he; done) | skip
    rename_i ds
    have he : (blsD ds).map (fun bs => fz (.bl (bs.all id))) = some rv := he
    cases hb : blsD ds with
    | none => rw [hb] at he; cases he
    | some bs =>
      rw [hb] at he; cases he
      obtain ⟨a, xs, rfl, h1, h2⟩ := hx
      have e := frL_bls h2 hb
      subst e
      exact ⟨a, bs, rfl, SqL.of h1, q _ _ .refl sl_bl fun z => by cases z⟩
  | any =>
    cases d <;> first | (cases he; done) | skip
    rename_i ds
    have he : (blsD ds).map (fun bs => fz (.bl (bs.any id))) = some rv := he
    cases hb : blsD ds with
    | none => rw [hb] at he; cases he
    | some bs =>
      rw [hb] at he; cases he
      obtain ⟨a, xs, rfl, h1, h2⟩ := hx
      have e := frL_bls h2 hb
      subst e
      exact ⟨a, bs, rfl, SqL.of h1, q _ _ .refl sl_bl fun z => by cases z⟩
  | list =>
    cases d <;> first | (cases he; done) | skip
    · cases he
      obtain ⟨a, xs, rfl, h1, h2⟩ := hx
      exact .inl ⟨a, xs, rfl, .inl (SqL.of h1), fun p hp => newL tk hp h2 q⟩
    · cases he
      obtain ⟨a, xs, rfl, h1, h2⟩ := bor_tup hx
      exact .inl ⟨a, xs, rfl, .inr h1, fun p hp => newL tk hp h2 q⟩
    · cases he
      obtain ⟨a, ws, rfl, h1, h2⟩ := hx
      exact .inr ⟨a, ws, rfl, h1, fun p hp => newL tk hp (frK_keys h2) q⟩
  | tuple =>
    cases d <;> first | (cases he; done) | skip
    · cases he
      obtain ⟨a, xs, rfl, h1, h2⟩ := hx
      exact ⟨a, xs, rfl, .inl ⟨SqL.of h1, fun p hp => newT hp h2 q⟩⟩
    · cases he
      have hx' : Fr g F H (.tup _) x := hx
      obtain ⟨a, xs, rfl, h1, h2⟩ := bor_tup hx
      exact ⟨a, xs, rfl, .inr ⟨h1, q _ _ .refl (sl_fz.mpr hx') fun z => by cases z⟩⟩
  | sorted =>
    cases d <;> first | (cases he; done) | skip
    rename_i ds
    have he : (sortD ds).map (fun ys => ow (.lst ys)) = some rv := he
    cases hs : sortD ds with
    | none => rw [hs] at he; cases he
    | some ys =>
      rw [hs] at he; cases he
      obtain ⟨a, xs, rfl, h1, h2⟩ := hx
      unfold sortD at hs
      split at hs
      · cases hs
        exact ⟨a, xs, rfl, SqL.of h1, .inl ⟨by rw [← h2.length]; exact Nat.zero_le _, fun p hp => newL tk hp h2 q⟩⟩
      · cases hs
        exact ⟨a, xs, rfl, SqL.of h1, .inl ⟨by rw [← h2.length]; exact Nat.le_refl _, fun p hp => newL tk hp h2 q⟩⟩
      · rename_i d1 d2
        have lead : ∀ {d : D} {s : Str} {v : V}, leadD d = some s → Fr g F H d v → ∃ b zs, v = .ref b ∧ SqT g.K H b (.str s :: zs) := by
          intro d s v e f
          unfold leadD at e
          split at e
          · cases e
            rw [Fr] at f
            obtain ⟨b, zs, e1, f1, f2⟩ := f
            rw [FrL] at f2
            obtain ⟨z, r, rfl, f3, f4⟩ := f2
            rw [Fr] at f3
            subst f3
            exact ⟨b, r, e1, f1⟩
          · cases e
        rw [FrL] at h2
        obtain ⟨x1, r, rfl, f1, h3⟩ := h2
        rw [FrL] at h3
        obtain ⟨x2, r, rfl, f2, h4⟩ := h3
        rw [FrL] at h4
        subst h4
        split at hs
        · rename_i s t e1 e2
          obtain ⟨b, zs, rfl, g1⟩ := lead e1 f1
          obtain ⟨c, zs', rfl, g2⟩ := lead e2 f2
          split at hs
          · cases hs
          · rename_i ne
            refine ⟨a, _, rfl, SqL.of h1, .inr ⟨b, c, s, t, zs, zs', rfl, g1, g2, ne, fun p hp => ?_⟩⟩
            split at hs
            · rename_i hlt
              cases hs
              rw [if_pos hlt]
              exact newL tk hp (.cons f2 (.cons f1 .nil)) q
            · rename_i hlt
              cases hs
              rw [if_neg hlt]
              exact newL tk hp (.cons f1 (.cons f2 .nil)) q
        · cases hs
      · cases hs
  | int =>
    cases d <;> first | (cases he; done) | skip
    · cases he; cases bor_bl hx
      exact .inr ⟨_, rfl, q _ _ .refl sl_int fun z => by cases z⟩
    · cases he; cases bor_int hx
      exact .inl ⟨_, rfl, q _ _ .refl sl_int fun z => by cases z⟩
  | abs =>
    cases d <;> first | (cases he; done) | skip
    cases he; cases bor_int hx
    exact ⟨_, rfl, q _ _ .refl sl_int fun z => by cases z⟩
  | repr =>
    have he : reprD d = some rv := he
    by_cases hd : dispD d = true
    · have he : (if dispD d = true ∧ (py d).showable = true ∧ (py d).hasDict = false ∧ (py d).shown.length ≤ sizeLine ∧ (py d).depth ≤ 64 then some (fz (.str (py d).shown)) else none) = some rv := by
        cases d <;> first | exact he | (simp [dispD] at hd; done)
      split at he
      · rename_i c
        cases he
        obtain ⟨a, ea⟩ : ∃ a, x = .ref a := by
          have c1 := c.1
          cases d <;> first | (simp [dispD] at c1; done) | skip
          · obtain ⟨a, _, e, _⟩ := hx
            exact ⟨a, e⟩
          · obtain ⟨a, _, e, _⟩ := bor_tup hx
            exact ⟨a, e⟩
        have c := c.2
        exact .inr (.inr (.inr (.inr ⟨x, a, py d, rfl, ea, hx.dp c.2.1, c.1, c.2.1, c.2.2.1, c.2.2.2, q _ _ .refl sl_str fun z => by cases z⟩)))
      · cases he
    · cases d with
      | str t =>
        have he : (if (reprText t).length ≤ sizeLine then some (fz (.str (reprText t))) else none) = some rv := he
        split at he
        · rename_i c
          cases he; cases bor_str hx
          exact .inl ⟨t, rfl, c, q _ _ .refl sl_str fun z => by cases z⟩
        · cases he
      | int i =>
        have he : (if i.natAbs.log2 < 1920 then some (fz (.str (Str.ofString (toString i)))) else none) = some rv := he
        split at he
        · rename_i c
          cases he; cases bor_int hx
          exact .inr (.inl ⟨i, rfl, c, q _ _ .refl sl_str fun z => by cases z⟩)
        · cases he
      | bl b =>
        cases he; cases bor_bl hx
        exact .inr (.inr (.inl ⟨b, rfl, q _ _ .refl sl_str fun z => by cases z⟩))
      | non =>
        cases he; cases bor_non hx
        exact .inr (.inr (.inr (.inl ⟨rfl, q _ _ .refl sl_str fun z => by cases z⟩)))
      | _ =>
        exfalso
        simp [reprD, hd] at he
  | dict =>
    cases d <;> first | (cases he; done) | skip
    cases he
    obtain ⟨a, ws, rfl, h1, h2⟩ := hx
    exact ⟨a, ws, rfl, h1, fun p hp => newD tk hp h2 q⟩
  | isInt => exact p1_isi (.inl rfl) hx he q
  | isBool => exact p1_isi (.inr (.inl rfl)) hx he q
  | isStr => exact p1_isi (.inr (.inr (.inl rfl))) hx he q
  | isTuple => exact p1_isi (.inr (.inr (.inr (.inl rfl)))) hx he q
  | isList => exact p1_isi (.inr (.inr (.inr (.inr rfl)))) hx he q
  | sum => cases d <;> cases he
  | set => cases d <;> cases he
end Ev
/-! Snd5: arguments and calls. -/
namespace Ev
open PySem L2

section
variable {g : Gx} {F F' F0 F1 : Addr → Prop} {H H' H0 H1 : Hp} {env env' env0 env1 : Ev} {σ : L2.St}
/-- items of a display, frozen -/
def SndF (g : Gx) (t : TA) (m : Ev → Out (List D)) : Prop := ∀ (F : Addr → Prop) (H : Hp) (env : Ev) (σ : L2.St) (Q : List V → Hp → Prop) (ds : List D) (env' : Ev), Rel g F H env σ → m env = .ok ds env' →
  (∀ F' H' vs, Step g σ F H env F' H' env' → FrL g F' H' ds vs → Q vs H') → t σ H Q
def OpsAll (g : Gx) (F : Addr → Prop) (H : Hp) (env : Ev) (σ : L2.St) : List Opd → List V → Prop
  | [], vs => vs = []
  | o :: os, vs => ∃ v r, vs = v :: r ∧ OpAt g F H env σ o v ∧ OpsAll g F H env σ os r
def tempsOf : List Opd → List V → List V
  | .v (true, _) :: os, v :: vs => v :: tempsOf os vs
  | _ :: os, _ :: vs => tempsOf os vs
  | _, _ => []
theorem OpsAll.step : ∀ {os : List Opd} {vs : List V}, OpsAll g F H env σ os vs → Rel g F H env σ → Step g σ F H env F' H' env' → OpsAll g F' H' env' σ os vs
  | [], vs, h, _, _ => h
  | o :: os, vs, h, R, s => by
    obtain ⟨v, r, e, h1, h2⟩ := h
    exact ⟨v, r, e, h1.step R s, h2.step R s⟩
/-- arguments -/
def SndA (g : Gx) (t : TA) (m : Ev → Out (List Opd)) : Prop := ∀ (F : Addr → Prop) (H : Hp) (env : Ev) (σ : L2.St) (Q : List V → Hp → Prop) (os : List Opd) (env' : Ev), Rel g F H env σ → m env = .ok os env' →
  (∀ F' H' vs, Step g σ F H env F' H' env' → OpsAll g F' H' env' σ os vs → (tempsOf os vs).Nodup → (∀ v ∈ tempsOf os vs, Fresh H v) → Q vs H') → t σ H Q
theorem bind_ok {α β : Type} {o : Out α} {f : α → Ev → Out β} {b : β} {e' : Ev} (h : o.bind f = .ok b e') : ∃ a e, o = .ok a e ∧ f a e = .ok b e' := by
  cases o with
  | ok a e => exact ⟨a, e, rfl, h⟩
  | exc x e => cases h
  | stuck => cases h
theorem lift_ok {α : Type} {o : Option α} {e e' : Ev} {a : α} (h : lift o e = .ok a e') : o = some a ∧ e' = e := by
  cases o with
  | none => cases h
  | some b => cases h; exact ⟨rfl, rfl⟩
theorem sndF_nil {m : Ev → Out (List D)} (hm : ∀ env, m env = .ok [] env) : SndF g tNil m := by
  intro F H env σ Q ds env' R e q
  rw [hm] at e
  cases e
  exact q F H [] (.refl R) FrL.nil
theorem sndF_cons {ta : TE} {tr : TA} {ma : Ev → Out Rv} {mr m : Ev → Out (List D)} (ha : SndE g ta ma) (hr : SndF g tr mr)
    (hm : ∀ env, m env = (ma env).bind fun x e1 => (mr e1).bind fun xs e2 => .ok (x.2 :: xs) e2) : SndF g (tCons ta tr) m := by
  intro F H env σ Q ds env' R e q
  rw [hm] at e
  obtain ⟨x, e1, h1, e⟩ := bind_ok e
  obtain ⟨xs, e2, h2, e⟩ := bind_ok e
  cases e
  refine ha.frz R h1 fun F1 H1 v s1 f1 => ?_
  refine hr F1 H1 e1 σ _ xs env' s1.rel h2 fun F2 H2 vs s2 f2 => ?_
  exact q F2 H2 _ (s1.trans s2) (.cons (s2.fr s1.rel f1) f2)
theorem seq_of {d : D} {v : V} {ys : List D} (h : Bor g F H d v) (e : seqD d = some ys) : ∃ p xs, v = .ref p ∧ (SqT g.K H p xs ∨ SqL g.K H p xs) ∧ FrL g F H ys xs := by
  unfold seqD at e
  split at e
  · cases e
    obtain ⟨a, xs, rfl, h1, h2⟩ := h
    exact ⟨a, xs, rfl, .inr (SqL.of h1), h2⟩
  · cases e
    obtain ⟨a, xs, rfl, h1, h2⟩ := bor_tup h
    exact ⟨a, xs, rfl, .inl h1, h2⟩
  · cases e
theorem sndA_nil {m : Ev → Out (List Opd)} (hm : ∀ env, m env = .ok [] env) : SndA g tNil m := by
  intro F H env σ Q ds env' R e q
  rw [hm] at e
  cases e
  exact q F H [] (.refl R) rfl .nil fun v z => by cases z
theorem sndA_cons {ta : TE} {tr : TA} {ma : Ev → Out Opd} {mr m : Ev → Out (List Opd)} (ha : SndO g ta ma) (hr : SndA g tr mr)
    (hm : ∀ env, m env = (ma env).bind fun x e1 => (mr e1).bind fun xs e2 => .ok (x :: xs) e2) : SndA g (tCons ta tr) m := by
  intro F H env σ Q ds env' R e q
  rw [hm] at e
  obtain ⟨x, e1, h1, e⟩ := bind_ok e
  obtain ⟨xs, e2, h2, e⟩ := bind_ok e
  cases e
  refine ha F H env σ _ x e1 R h1 fun F1 H1 v s1 o1 fr => ?_
  refine hr F1 H1 e1 σ _ xs env' s1.rel h2 fun F2 H2 vs s2 o2 nd fr2 => ?_
  have fr3 : ∀ w ∈ tempsOf xs vs, Fresh H w := fun w hw => (fr2 w hw).back s1.ext.stay
  refine q F2 H2 (v :: vs) (s1.trans s2) ⟨v, vs, rfl, o1.step s1.rel s2, o2⟩ ?_ ?_
  · match x, o1, fr with
    | .v (true, d), o1, fr =>
      show (v :: tempsOf xs vs).Nodup
      refine List.nodup_cons.mpr ⟨fun hv => ?_, nd⟩
      obtain ⟨a, ea, na⟩ := fr2 v hv
      obtain ⟨b, eb, _, ho⟩ := (sl_ow.mp o1.1).at
      rw [ea] at eb; cases eb
      rcases ho with ⟨ys, z⟩ | ⟨ws, z⟩ <;> rw [na] at z <;> cases z
    | .v (false, d), _, _ => exact nd
    | .s i, _, _ => exact nd
  · match x, fr with
    | .v (true, d), fr =>
      intro w hw
      have hw : w ∈ v :: tempsOf xs vs := hw
      rcases List.mem_cons.mp hw with rfl | hw
      · exact fr d rfl
      · exact fr3 w hw
    | .v (false, d), _ => exact fr3
    | .s i, _ => exact fr3

/-! ### what a def promises, by the evaluator -/
def OwnArg (rs : List Rv) (vs : List V) (a : Addr) : Prop := ∃ (i : Nat) (d : D), rs[i]? = some (true, d) ∧ vs[i]? = some (.ref a)
structure ArgsOk (g : Gx) (F : Addr → Prop) (H : Hp) (rs : List Rv) (vs : List V) : Prop where
  len : rs.length = vs.length
  item : ∀ (i : Nat) r v, rs[i]? = some r → vs[i]? = some v → Sl g F H r v
  inj : ∀ (i j : Nat) d d' a, rs[i]? = some (true, d) → rs[j]? = some (true, d') → vs[i]? = some (.ref a) → vs[j]? = some (.ref a) → i = j
  trk : ∀ a, F a → H a ≠ none
def spOf (g : Gx) (cf : Nat → List Rv → COut) (keep : Nat → Nat) (f : Nat) : Sp := fun vs H Q _ => ∃ (F : Addr → Prop) (rs : List Rv) (r : Rv) (outs : List Slot), ArgsOk g F H rs vs ∧ cf f rs = .ok r outs ∧
  ∀ F' H' v, Ext (OwnArg rs vs) F H F' H' → (∀ a, F' a → H' a ≠ none) → Sl g F' H' r v →
    (r.1 = true → ∃ a, v = .ref a ∧ (H a = none ∨ ∃ (j : Nat) (d : D), keep f ≤ j ∧ rs[j]? = some (true, d) ∧ vs[j]? = some (.ref a))) →
    (∀ (j : Nat) (d : D) (a : Addr), j < keep f → rs[j]? = some (true, d) → vs[j]? = some (.ref a) → ∃ r', outs[j]? = some (some r') ∧ Sl g F' H' r' (.ref a) ∧ (r'.1 = true ∨ F' a)) → Q v H'
theorem ArgsOk.wk {rs : List Rv} {vs : List V} (A : ArgsOk g F H rs vs) : Wk (OwnArg rs vs) F H := fun a ⟨i, d, h1, h2⟩ => by
  have s := sl_ow.mp (A.item i _ _ h1 h2)
  obtain ⟨b, e, nf, ho⟩ := s.at
  cases e
  exact ⟨nf, ho⟩

/-! ### lending -/
theorem set_same {env : Ev} {i : Nat} {r : Rv} (h : getS env i = some r) : env.set i (some r) = env := by
  have hi := getS_lt h
  apply List.ext_getElem?
  intro j
  by_cases e : i = j
  · subst e
    rw [List.getElem?_set_self hi]
    unfold getS at h
    rw [List.getElem?_eq_getElem hi] at h ⊢
    have h' : env[i] = some r := h
    rw [h']
  · rw [List.getElem?_set_ne e]
/-- the arguments as they are handed, beside the operands -/
def ArgsAt (g : Gx) (F : Addr → Prop) (H : Hp) (e : Ev) (σ : L2.St) (keep : Nat) : Nat → List Opd → List Rv → List V → Prop
  | _, [], rs, vs => rs = [] ∧ vs = []
  | j, o :: os, rs, vs => ∃ r v rs' vs', rs = r :: rs' ∧ vs = v :: vs' ∧ Sl g F H r v ∧
      (r.1 = true → (∃ i, o = .s i ∧ getS e i = some r ∧ σ[i]? = some (some v) ∧ j < keep) ∨ (∃ d, o = .v (true, d) ∧ ∀ a, v = .ref a → ¬ OwnAt e σ a)) ∧ ArgsAt g F H e σ keep (j + 1) os rs' vs'
theorem lend_ok {keep : Nat} : ∀ {os : List Opd} {j : Nat} {env e : Ev} {F : Addr → Prop} {vs : List V} {rs : List Rv}, Rel g F H env σ → OpsAll g F H env σ os vs → (slotsOf os).Nodup → lendAll keep j os env = some (rs, e) →
    ∃ F1, Step g σ F H env F1 H e ∧ (∀ i, i ∉ slotsOf os → getS e i = getS env i) ∧ ArgsAt g F1 H e σ keep j os rs vs
  | [], j, env, e, F, vs, rs, R, h, nd, hl => by
    have h : vs = [] := h
    subst h
    rw [lendAll] at hl
    cases hl
    exact ⟨F, .refl R, fun _ _ => rfl, rfl, rfl⟩
  | .v r :: os, j, env, e, F, vs, rs, R, h, nd, hl => by
    obtain ⟨v, vr, rfl, h1, h2⟩ := h
    rw [lendAll] at hl
    cases hr : lendAll keep (j + 1) os env with
    | none => rw [hr] at hl; cases hl
    | some p =>
      obtain ⟨rs', e'⟩ := p
      rw [hr] at hl
      cases hl
      obtain ⟨F1, s, hk, hA⟩ := lend_ok R h2 nd hr
      have h3 := h1.step R s
      refine ⟨F1, s, hk, r, v, rs', vr, rfl, rfl, h3.1, fun hr => .inr ?_, hA⟩
      obtain ⟨b, d⟩ := r
      have hr : b = true := hr
      subst hr
      exact ⟨d, rfl, h3.2 rfl⟩
  | .s i :: os, j, env, e, F, vs, rs, R, h, nd, hl => by
    obtain ⟨v, vr, rfl, ⟨h1, r0, h1'⟩, h2⟩ := h
    obtain ⟨b, d⟩ := r0
    have nd' : i ∉ slotsOf os ∧ (slotsOf os).Nodup := List.nodup_cons.mp nd
    rw [lendAll, h1'] at hl
    simp only at hl
    cases hr : lendAll keep (j + 1) os (env.set i (some (b && decide (j < keep), d))) with
    | none => rw [hr] at hl; cases hl
    | some p =>
      obtain ⟨rs', e'⟩ := p
      rw [hr] at hl
      cases hl
      by_cases hc : b = true ∧ ¬ j < keep
      · obtain ⟨hb, hj⟩ := hc
        subst hb
        rw [show (true && decide (j < keep)) = false by simp [hj]] at hr ⊢
        obtain ⟨a, e1, s1, oa⟩ := R.own h1'
        rw [h1] at e1; cases e1
        obtain ⟨s, f⟩ := stepFreezeVar R h1' h1
        obtain ⟨F1, s2, hk, hA⟩ := lend_ok s.rel (h2.step R s) nd'.2 hr
        refine ⟨F1, s.trans s2, fun k hk' => ?_, (false, d), _, rs', vr, rfl, rfl, sl_fz.mpr (s2.fr s.rel f), (fun z => by cases z), hA⟩
        have hk1 : k ∉ slotsOf os := fun z => hk' (List.mem_cons_of_mem _ z)
        have hk2 : i ≠ k := fun z => hk' (z ▸ List.mem_cons_self)
        rw [hk k hk1, getS_set_ne hk2]
      · have eb : (b && decide (j < keep)) = b := by
          cases b with
          | false => rfl
          | true =>
            have : j < keep := Classical.byContradiction fun z => hc ⟨rfl, z⟩
            simp [this]
        rw [eb] at hr ⊢
        rw [set_same h1'] at hr
        obtain ⟨F1, s2, hk, hA⟩ := lend_ok R h2 nd'.2 hr
        have hi : getS e i = some (b, d) := (hk i nd'.1).trans h1'
        obtain ⟨v', e1, sl⟩ := s2.rel.slot i _ hi
        rw [h1] at e1; cases e1
        refine ⟨F1, s2, fun k hk' => hk k fun z => hk' (List.mem_cons_of_mem _ z), (b, d), _, rs', vr, rfl, rfl, sl, fun z => .inl ⟨i, rfl, hi, h1, ?_⟩, hA⟩
        exact Classical.byContradiction fun q => hc ⟨z, q⟩
theorem ArgsAt.len {keep : Nat} : ∀ {os : List Opd} {j : Nat} {rs : List Rv} {vs : List V}, ArgsAt g F H env σ keep j os rs vs → rs.length = os.length ∧ vs.length = os.length
  | [], j, rs, vs, h => by
    obtain ⟨rfl, rfl⟩ := h
    exact ⟨rfl, rfl⟩
  | o :: os, j, rs, vs, h => by
    obtain ⟨r, v, rs', vs', rfl, rfl, _, _, h2⟩ := h
    obtain ⟨a, b⟩ := h2.len
    simp [a, b]
theorem ArgsAt.get {keep : Nat} : ∀ {os : List Opd} {j : Nat} {rs : List Rv} {vs : List V} {k : Nat} {r : Rv} {v : V}, ArgsAt g F H env σ keep j os rs vs → rs[k]? = some r → vs[k]? = some v →
    ∃ o, os[k]? = some o ∧ Sl g F H r v ∧ (r.1 = true → (∃ i, o = .s i ∧ getS env i = some r ∧ σ[i]? = some (some v) ∧ j + k < keep) ∨ (∃ d, o = .v (true, d) ∧ ∀ a, v = .ref a → ¬ OwnAt env σ a))
  | [], j, rs, vs, k, r, v, h, e1, e2 => by
    obtain ⟨rfl, rfl⟩ := h
    simp at e1
  | o :: os, j, rs, vs, k, r, v, h, e1, e2 => by
    obtain ⟨r', v', rs', vs', rfl, rfl, h1, h2, h3⟩ := h
    cases k with
    | zero =>
      simp at e1 e2
      subst e1; subst e2
      exact ⟨o, rfl, h1, h2⟩
    | succ k =>
      obtain ⟨o', a, b, c⟩ := h3.get (k := k) (by simpa using e1) (by simpa using e2)
      refine ⟨o', by simpa using a, b, fun z => ?_⟩
      rcases c z with ⟨i, q1, q2, q3, q4⟩ | q
      · exact .inl ⟨i, q1, q2, q3, by omega⟩
      · exact .inr q
theorem slotsOf_get : ∀ {os : List Opd} {k i : Nat}, os[k]? = some (.s i) → i ∈ slotsOf os
  | [], k, i, h => by simp at h
  | o :: os, k, i, h => by
    cases k with
    | zero =>
      simp at h; subst h
      exact List.mem_cons_self
    | succ k =>
      have q := slotsOf_get (os := os) (k := k) (i := i) (by simpa using h)
      cases o with
      | v r => exact q
      | s j => exact List.mem_cons_of_mem _ q
theorem slotsOf_inj : ∀ {os : List Opd} {k l i : Nat}, (slotsOf os).Nodup → os[k]? = some (.s i) → os[l]? = some (.s i) → k = l
  | [], k, l, i, nd, h, h' => by simp at h
  | o :: os, k, l, i, nd, h, h' => by
    cases k with
    | zero =>
      simp at h; subst h
      cases l with
      | zero => rfl
      | succ l => exact absurd (slotsOf_get (by simpa using h')) (List.nodup_cons.mp nd).1
    | succ k =>
      cases l with
      | zero =>
        simp at h'; subst h'
        exact absurd (slotsOf_get (by simpa using h)) (List.nodup_cons.mp nd).1
      | succ l =>
        have nd' : (slotsOf os).Nodup := by
          cases o with
          | v r => exact nd
          | s j => exact (List.nodup_cons.mp nd).2
        have hh : os[k]? = some (.s i) := by simpa using h
        have hh' : os[l]? = some (.s i) := by simpa using h'
        rw [slotsOf_inj nd' hh hh']
theorem tempsOf_get : ∀ {os : List Opd} {vs : List V} {k : Nat} {d : D} {v : V}, os[k]? = some (.v (true, d)) → vs[k]? = some v → v ∈ tempsOf os vs
  | [], vs, k, d, v, h, _ => by simp at h
  | o :: os, [], k, d, v, _, h => by simp at h
  | o :: os, w :: vs, k, d, v, h, h' => by
    cases k with
    | zero =>
      simp at h h'; subst h; subst h'
      exact List.mem_cons_self
    | succ k =>
      have q := tempsOf_get (os := os) (vs := vs) (k := k) (d := d) (v := v) (by simpa using h) (by simpa using h')
      match o with
      | .v (true, _) => exact List.mem_cons_of_mem _ q
      | .v (false, _) => exact q
      | .s _ => exact q
theorem tempsOf_inj : ∀ {os : List Opd} {vs : List V} {k l : Nat} {d d' : D} {v : V}, (tempsOf os vs).Nodup → os[k]? = some (.v (true, d)) → vs[k]? = some v → os[l]? = some (.v (true, d')) → vs[l]? = some v → k = l
  | [], vs, k, l, d, d', v, _, h, _, _, _ => by simp at h
  | o :: os, [], k, l, d, d', v, _, _, h, _, _ => by simp at h
  | o :: os, w :: vs, k, l, d, d', v, nd, h1, h2, h3, h4 => by
    cases k with
    | zero =>
      simp at h1 h2; subst h1; subst h2
      cases l with
      | zero => rfl
      | succ l => exact absurd (tempsOf_get (by simpa using h3) (by simpa using h4)) (List.nodup_cons.mp nd).1
    | succ k =>
      cases l with
      | zero =>
        simp at h3 h4; subst h3; subst h4
        exact absurd (tempsOf_get (by simpa using h1) (by simpa using h2)) (List.nodup_cons.mp nd).1
      | succ l =>
        have nd' : (tempsOf os vs).Nodup := by
          match o with
          | .v (true, _) => exact (List.nodup_cons.mp nd).2
          | .v (false, _) => exact nd
          | .s _ => exact nd
        have q1 : os[k]? = some (.v (true, d)) := by simpa using h1
        have q2 : vs[k]? = some v := by simpa using h2
        have q3 : os[l]? = some (.v (true, d')) := by simpa using h3
        have q4 : vs[l]? = some v := by simpa using h4
        rw [tempsOf_inj nd' q1 q2 q3 q4]
theorem backOne_len (o : Opd) (r : Rv) (s : Slot) (env : Ev) : (backOne o r s env).length = env.length := by
  unfold backOne
  split
  · rw [List.length_set]
  · rfl
theorem back_len : ∀ (os : List Opd) (rs : List Rv) (outs : List Slot) (env : Ev), (giveBack os rs outs env).length = env.length
  | o :: os, r :: rs, s :: ss, env => by rw [giveBack, back_len os rs ss, backOne_len]
  | [], _, _, env => by rw [giveBack]; intro _ _ _ _ _ _ h; cases h
  | _ :: _, [], _, env => by rw [giveBack]; intro _ _ _ _ _ _ _ h; cases h
  | _ :: _, _ :: _, [], env => by rw [giveBack]; intro _ _ _ _ _ _ _ _ h; cases h
theorem back_nil1 (rs : List Rv) (outs : List Slot) (env : Ev) : giveBack [] rs outs env = env := by rw [giveBack]; intro _ _ _ _ _ _ h; cases h
theorem back_nil2 (os : List Opd) (outs : List Slot) (env : Ev) : giveBack os [] outs env = env := by rw [giveBack]; intro _ _ _ _ _ _ _ h; cases h
theorem back_nil3 (os : List Opd) (rs : List Rv) (env : Ev) : giveBack os rs [] env = env := by rw [giveBack]; intro _ _ _ _ _ _ _ _ h; cases h
/-- a slot that isn't lent stays; a lent one gets what comes back -/
theorem back_get : ∀ (os : List Opd) (rs : List Rv) (outs : List Slot) (env : Ev) (i : Nat), (slotsOf os).Nodup →
    ((∀ (k : Nat) (d : D), os[k]? = some (Opd.s i) → rs[k]? = some (true, d) → outs[k]? = none) → getS (giveBack os rs outs env) i = getS env i) ∧
    (∀ (k : Nat) (d : D) (s : Slot), os[k]? = some (Opd.s i) → rs[k]? = some (true, d) → outs[k]? = some s → i < env.length → getS (giveBack os rs outs env) i = s)
  | [], rs, outs, env, i, nd => by
    rw [back_nil1]
    exact ⟨fun _ => rfl, fun k d s e => by simp at e⟩
  | o :: os, [], outs, env, i, nd => by
    rw [back_nil2]
    exact ⟨fun _ => rfl, fun k d s _ e => by simp at e⟩
  | o :: os, r :: rs, [], env, i, nd => by
    rw [back_nil3]
    exact ⟨fun _ => rfl, fun k d s _ _ e => by simp at e⟩
  | o :: os, r :: rs, s :: ss, env, i, nd => by
    rw [giveBack]
    have nd1 : (slotsOf os).Nodup := by
      cases o with
      | v r => exact nd
      | s j => exact (List.nodup_cons.mp nd).2
    obtain ⟨h1, h2⟩ := back_get os rs ss (backOne o r s env) i nd1
    refine ⟨fun h => ?_, fun k d' s' e1 e2 e3 hi => ?_⟩
    · rw [h1 fun k d' e1 e2 => by simpa using h (k + 1) d' (by simpa using e1) (by simpa using e2)]
      unfold backOne
      split
      · rename_i j hr
        obtain ⟨b, d⟩ := r
        have hr : b = true := hr
        subst hr
        have ne : j ≠ i := fun z => by
          subst z
          have := h 0 d rfl rfl
          simp at this
        rw [getS_set_ne ne]
      · rfl
    · cases k with
      | zero =>
        simp at e1 e2 e3
        subst e1; subst e2; subst e3
        have nd2 : i ∉ slotsOf os := (List.nodup_cons.mp nd).1
        rw [h1 fun k d' e1 _ => absurd (slotsOf_get e1) nd2]
        show getS (env.set i s) i = s
        rw [getS_set_self hi]
      | succ k => exact h2 k d' s' (by simpa using e1) (by simpa using e2) (by simpa using e3) (by rw [backOne_len]; exact hi)
/-- a call, from the arguments as they stand -/
theorem snd_doCall {pg : Pg} {cf : Nat → List Rv → COut} {f : Nat} {os : List Opd} {vs : List V} {r : Rv} {Q : VK} {E : XK} (R0 : Rel g F0 H0 env0 σ) (s0 : Step g σ F0 H0 env0 F H env) (hO : OpsAll g F H env σ os vs)
    (nd : (tempsOf os vs).Nodup) (fr : ∀ v ∈ tempsOf os vs, Fresh H0 v) (e : doCall pg cf f os env = .ok r env')
    (q : ∀ F' H' v, Step g σ F0 H0 env0 F' H' env' → Sl g F' H' r v → (r.1 = true → Fresh H0 v) → Q v H') : spOf g cf pg.keeps f vs H Q E := by
  unfold doCall at e
  split at e
  · rename_i hnd
    cases hl : lendAll (pg.keeps f) 0 os env with
    | none => rw [hl] at e; cases e
    | some p =>
      obtain ⟨rs, en⟩ := p
      rw [hl] at e
      simp only at e
      cases hc : cf f rs with
      | exc x o => rw [hc] at e; cases e
      | stuck => rw [hc] at e; cases e
      | ok r' outs =>
        rw [hc] at e
        cases e
        obtain ⟨F1, s1, hk, hA⟩ := lend_ok s0.rel hO hnd hl
        have s := s0.trans s1
        obtain ⟨l1, l2⟩ := hA.len
        have inj : ∀ (i j : Nat) d d' a, rs[i]? = some (true, d) → rs[j]? = some (true, d') → vs[i]? = some (.ref a) → vs[j]? = some (.ref a) → i = j := by
          intro i j d d' a e1 e2 e3 e4
          obtain ⟨o1, q1, _, q2⟩ := hA.get e1 e3
          obtain ⟨o2, p1, _, p2⟩ := hA.get e2 e4
          rcases q2 rfl with ⟨x, rfl, x1, x2, _⟩ | ⟨x, rfl, x1⟩ <;> rcases p2 rfl with ⟨y, rfl, y1, y2, _⟩ | ⟨y, rfl, y1⟩
          · have exy := s1.rel.inj x y d d' a x1 y1 x2 y2
            subst exy
            exact slotsOf_inj hnd q1 p1
          · exact absurd ⟨x, d, x1, x2⟩ (y1 a rfl)
          · exact absurd ⟨y, d', y1, y2⟩ (x1 a rfl)
          · exact tempsOf_inj nd q1 e3 p1 e4
        have A : ArgsOk g F1 H rs vs := ⟨by omega, fun i r v e1 e2 => let ⟨_, _, h, _⟩ := hA.get e1 e2; h, inj, s1.rel.trk⟩
        refine ⟨F1, rs, r, outs, A, hc, fun F' H' v x tk sl fv ho => q F' H' v ?_ sl fun z => ?_⟩
        · -- the frame behind the call
          have hW : ∀ a, OwnArg rs vs a → OwnAt env0 σ a ∨ H0 a = none := fun a ⟨i, d, h1, h2⟩ => by
            obtain ⟨o1, q1, _, q2⟩ := hA.get h1 h2
            rcases q2 rfl with ⟨x, rfl, x1, x2, _⟩ | ⟨y, rfl, y1⟩
            · exact .inl (s.sub a ⟨x, d, x1, x2⟩)
            · obtain ⟨b, eb, nb⟩ := fr _ (tempsOf_get q1 h2)
              cases eb
              exact .inr nb
          have hlen : (giveBack os rs outs en).length = en.length := back_len _ _ _ _
          -- a slot: lent or not
          have lent : ∀ i r1, getS en i = some r1 → (∃ (k : Nat) (d : D) (a : Addr), os[k]? = some (Opd.s i) ∧ rs[k]? = some (true, d) ∧ r1 = (true, d) ∧ σ[i]? = some (some (.ref a)) ∧ vs[k]? = some (.ref a) ∧ k < pg.keeps f) ∨
              (getS (giveBack os rs outs en) i = some r1 ∧ ∀ a, σ[i]? = some (some (.ref a)) → r1.1 = true → ¬ OwnArg rs vs a) := by
            intro i r1 h1
            by_cases hx : ∃ (k : Nat) (d : D), os[k]? = some (Opd.s i) ∧ rs[k]? = some (true, d)
            · obtain ⟨k, d, h2, h3⟩ := hx
              have hkv : k < vs.length := by
                have : k < os.length := (List.getElem?_eq_some_iff.mp h2).1
                omega
              obtain ⟨o1, q1, q0, q2⟩ := hA.get h3 (List.getElem?_eq_getElem hkv)
              rw [h2] at q1; cases q1
              rcases q2 rfl with ⟨x', ex, x1, x2, x3⟩ | ⟨y, ey, _⟩
              · cases ex
                rw [h1] at x1; cases x1
                obtain ⟨a, ea, _, _⟩ := (sl_ow.mp q0).at
                rw [ea] at x2
                exact .inl ⟨k, d, a, h2, h3, rfl, x2, by rw [List.getElem?_eq_getElem hkv, ea], by simpa using x3⟩
              · cases ey
            · refine .inr ⟨?_, fun a h2 h3 ⟨k, d, h4, h5⟩ => ?_⟩
              · rw [(back_get os rs outs en i hnd).1 fun k d h2 h3 => absurd ⟨k, d, h2, h3⟩ hx]
                exact h1
              · obtain ⟨b, d1⟩ := r1
                have h3 : b = true := h3
                subst h3
                obtain ⟨o1, q1, _, q2⟩ := hA.get h4 h5
                rcases q2 rfl with ⟨y, rfl, y1, y2, _⟩ | ⟨y, rfl, y1⟩
                · have eiy := s1.rel.inj i y d1 d a h1 y1 h2 y2
                  subst eiy
                  exact hx ⟨k, d, q1, h4⟩
                · exact y1 a rfl ⟨i, d1, h1, h2⟩
          have got : ∀ (i k : Nat) (d : D) (a : Addr), os[k]? = some (Opd.s i) → rs[k]? = some (true, d) → vs[k]? = some (.ref a) → k < pg.keeps f → i < en.length → ∃ r', getS (giveBack os rs outs en) i = some r' ∧ Sl g F' H' r' (.ref a) ∧ (r'.1 = true ∨ F' a) := by
            intro i k d a h1 h2 h3 h4 h5
            obtain ⟨r', h6, h7, h8⟩ := ho k d a h4 h2 h3
            exact ⟨r', (back_get os rs outs en i hnd).2 k d _ h1 h2 h6 h5, h7, h8⟩
          have slots : ∀ i r', getS (giveBack os rs outs en) i = some r' → ∃ r1, getS en i = some r1 := by
            intro i r' h
            cases h1 : getS en i with
            | some r1 => exact ⟨r1, rfl⟩
            | none =>
              have : getS (giveBack os rs outs en) i = getS en i := (back_get os rs outs en i hnd).1 fun k d h2 h3 => by
                have hkv : k < vs.length := by
                  have : k < os.length := (List.getElem?_eq_some_iff.mp h2).1
                  omega
                obtain ⟨o1, q1, q0, q2⟩ := hA.get h3 (List.getElem?_eq_getElem hkv)
                rw [h2] at q1; cases q1
                rcases q2 rfl with ⟨x', ex, x1, _⟩ | ⟨y, ey, _⟩
                · cases ex; rw [h1] at x1; cases x1
                · cases ey
              rw [this, h1] at h; cases h
          have rel' : Rel g F' H' (giveBack os rs outs en) σ := by
            refine ⟨by rw [hlen]; exact s.rel.len, fun i r' h => ?_, fun i j d d' a h1 h2 h3 h4 => ?_, tk⟩
            · obtain ⟨r1, h1⟩ := slots i r' h
              rcases lent i r1 h1 with ⟨k, d, a, h2, h3, _, h4, h5, h6⟩ | ⟨h2, h3⟩
              · obtain ⟨r2, e1, e2, _⟩ := got i k d a h2 h3 h5 h6 (getS_lt h1)
                rw [h] at e1; cases e1
                exact ⟨_, h4, e2⟩
              · rw [h] at h2; cases h2
                obtain ⟨v', e1, sl'⟩ := s.rel.slot i _ h1
                refine ⟨v', e1, ?_⟩
                obtain ⟨b, d⟩ := r'
                cases b with
                | false => exact sl_fz.mpr ((sl_fz.mp sl').ext x A.wk)
                | true =>
                  obtain ⟨a, rfl, _, _⟩ := (sl_ow.mp sl').at
                  have nw := h3 a e1 rfl
                  refine sl_ow.mpr ((sl_ow.mp sl').ext x A.wk nw fun ff => ?_)
                  obtain ⟨b, eb, nf, hob⟩ := (sl_ow.mp sl').at
                  cases eb
                  rcases x.new a ff with z | z | z
                  · exact nf z
                  · exact nw z
                  · rcases hob with ⟨ys, y⟩ | ⟨ws, y⟩ <;> rw [z] at y <;> cases y
            · have own1 : ∀ i d a, getS (giveBack os rs outs en) i = some (true, d) → σ[i]? = some (some (.ref a)) → ∃ d1, getS en i = some (true, d1) := by
                intro i d a h1 h3
                obtain ⟨r1, q1⟩ := slots i _ h1
                rcases lent i r1 q1 with ⟨k, d1, a', h2, h3', e, h4, h5, h6⟩ | ⟨h2, _⟩
                · subst e
                  exact ⟨d1, q1⟩
                · rw [h1] at h2; cases h2
                  exact ⟨d, q1⟩
              obtain ⟨d1, q1⟩ := own1 i d a h1 h3
              obtain ⟨d2, q2⟩ := own1 j d' a h2 h4
              exact s.rel.inj i j d1 d2 a q1 q2 h3 h4
          refine ⟨rel', s.ext.trans x hW, fun a ⟨i, d, h1, h2⟩ => ?_, fun i r0 h => ?_, fun i d a h1 h2 => ?_⟩
          · obtain ⟨r1, q1⟩ := slots i _ h1
            rcases lent i r1 q1 with ⟨k, d1, a', h2', h3', e, h4, h5, h6⟩ | ⟨h3, _⟩
            · subst e
              rw [h2] at h4; cases h4
              exact s.sub a ⟨i, d1, q1, h2⟩
            · rw [h1] at h3; cases h3
              exact s.sub a ⟨i, d, q1, h2⟩
          · obtain ⟨r1, q1⟩ := s.live i r0 h
            rcases lent i r1 q1 with ⟨k, d1, a', h2', h3', e, h4, h5, h6⟩ | ⟨h3, _⟩
            · obtain ⟨r2, e1, _⟩ := got i k d1 a' h2' h3' h5 h6 (getS_lt q1)
              exact ⟨r2, e1⟩
            · exact ⟨r1, h3⟩
          · rcases s.ownk i d a h1 h2 with ⟨d1, q1⟩ | q1
            · rcases lent i _ q1 with ⟨k, d2, a', h2', h3', e, h4, h5, h6⟩ | ⟨h3, _⟩
              · rw [h2] at h4; cases h4
                obtain ⟨r2, e1, e2, e3⟩ := got i k d2 a h2' h3' h5 h6 (getS_lt q1)
                rcases e3 with e3 | e3
                · obtain ⟨b, d3⟩ := r2
                  have e3 : b = true := e3
                  subst e3
                  exact .inl ⟨d3, e1⟩
                · exact .inr e3
              · exact .inl ⟨d1, h3⟩
            · exact .inr (x.mono a q1)
        · obtain ⟨a, ea, na | ⟨j, d, hj, h1, h2⟩⟩ := fv z
          · exact ⟨a, ea, s.ext.stay a na⟩
          · obtain ⟨o1, q1, _, q2⟩ := hA.get h1 h2
            rcases q2 rfl with ⟨y, rfl, y1, y2, y3⟩ | ⟨y, rfl, y1⟩
            · omega
            · obtain ⟨b, eb, nb⟩ := fr _ (tempsOf_get q1 h2)
              cases eb
              exact ⟨a, ea, nb⟩
  · cases e
end
end Ev
/-! Snd6: constants, tests, joined expressions, displays. -/
namespace Ev
open PySem L2

section
variable {g : Gx} {F F' F0 F1 : Addr → Prop} {H H' H0 H1 : Hp} {env env' env0 env1 : Ev} {σ : L2.St}
theorem snd_const {v : V} {d : D} {m : Ev → Out Rv} (hm : ∀ env r env', m env = .ok r env' → r = fz d ∧ env' = env) (hf : ∀ F H, Fr g F H d v) : SndE g (tC v) m := by
  intro F H env σ Q r env' R e q
  obtain ⟨rfl, rfl⟩ := hm _ _ _ e
  exact q F H v (.refl R) (sl_fz.mpr (hf F H)) fun z => by cases z
/-- a test -/
def SndC (g : Gx) (t : TT) (m : Ev → Out Bool) : Prop := ∀ (F : Addr → Prop) (H : Hp) (env : Ev) (σ : L2.St) (Q : Bool → Hp → Prop) (b : Bool) (env' : Ev), Rel g F H env σ → m env = .ok b env' →
  (∀ F' H', Step g σ F H env F' H' env' → Q b H') → t σ H Q
def SndT (g : Gx) (t : TO) (m : Ev → Out (Option Int)) : Prop := ∀ (F : Addr → Prop) (H : Hp) (env : Ev) (σ : L2.St) (Q : Option Int → Hp → Prop) (b : Option Int) (env' : Ev), Rel g F H env σ → m env = .ok b env' →
  (∀ F' H', Step g σ F H env F' H' env' → Q b H') → t σ H Q
theorem snd_chain {o p : COp} {a b c : Tm} {ta tb tc : TE} {ma mb mc m : Ev → Out Rv} (ha : SndO g ta (opd a ma)) (hb : SndO g tb (opd b mb)) (hc : SndO g tc (opd c mc))
    (hm : ∀ env, m env = (opd a ma env).bind fun x e1 => (opd b mb e1).bind fun y e2 => match rdO e2 x, rdO e2 y with
      | some d, some d' => match cmpD o d d' with
        | some true => (opd c mc e2).bind fun z e3 => match rdO e3 y, rdO e3 z with
          | some u, some u' => lift ((cmpD p u u').map fun k => fz (.bl k)) e3
          | _, _ => .stuck
        | some false => .ok (fz (.bl false)) e2
        | none => .stuck
      | _, _ => .stuck) : SndE g (tChain (rCmp g.K o) (rCmp g.K p) ta tb tc) m := by
  intro F H env σ Q r env' R e q
  rw [hm] at e
  obtain ⟨x, e1, h1, e⟩ := bind_ok e
  obtain ⟨y, e2, h2, e⟩ := bind_ok e
  refine ha F H env σ _ x e1 R h1 fun F1 H1 vx s1 ox _ => ?_
  refine hb F1 H1 e1 σ _ y e2 s1.rel h2 fun F2 H2 vy s2 oy _ => ?_
  have s := s1.trans s2
  cases h3 : rdO e2 x with
  | none => rw [h3] at e; cases e
  | some d =>
    cases h4 : rdO e2 y with
    | none => rw [h3, h4] at e; cases e
    | some d' =>
      rw [h3, h4] at e
      simp only at e
      cases h5 : cmpD o d d' with
      | none => rw [h5] at e; cases e
      | some k =>
        rw [h5] at e
        refine p2_cmp o F2 H2 vx vy d d' (fz (.bl k)) _ s.rel.trk ((ox.step s1.rel s2).bor s.rel h3) (oy.bor s.rel h4) (by simp only [h5]; rfl) fun H3 v n sl _ => ?_
        have ev : v = .bl k := by
          have f := sl_fz.mp sl
          rw [Fr] at f
          exact f
        refine ⟨k, ev, ?_⟩
        have s3 := s.trans (.new s.rel n)
        cases k with
        | false =>
          rw [if_neg (by decide)]
          simp only at e
          cases e
          exact q F2 H3 _ s3 sl_bl fun z => by cases z
        | true =>
          rw [if_pos rfl]
          simp only at e
          obtain ⟨z, e3, h6, e⟩ := bind_ok e
          refine hc F2 H3 e2 σ _ z e3 s3.rel h6 fun F4 H4 vz s4 oz _ => ?_
          have s5 := s3.trans s4
          cases h7 : rdO e3 y with
          | none => rw [h7] at e; cases e
          | some u =>
            cases h8 : rdO e3 z with
            | none => rw [h7, h8] at e; cases e
            | some u' =>
              rw [h7, h8] at e
              simp only at e
              obtain ⟨h9, rfl⟩ := lift_ok e
              refine p2_cmp p F4 H4 vy vz u u' r Q s5.rel.trk (((oy.step s.rel (.new s.rel n)).step s3.rel s4).bor s5.rel h7) (oz.bor s5.rel h8) h9 fun H5 v' n' sl' fr' => ?_
              exact q F4 H5 v' (s5.trans (.new s5.rel n')) sl' fun z => (fr' z).back s5.ext.stay
theorem snd_and {ta tb : TE} {ma mb m : Ev → Out Rv} (ha : SndE g ta ma) (hb : SndE g tb mb)
    (hm : ∀ env, m env = (ma env).bind fun r e1 => match truD r.2 with
      | some true => mb e1
      | some false => .ok r e1
      | none => .stuck) : SndE g (tAndT g.K ta tb) m := by
  intro F H env σ Q r env' R e q
  rw [hm] at e
  obtain ⟨x, e1, h1, e⟩ := bind_ok e
  refine ha F H env σ _ x e1 R h1 fun F1 H1 v s1 sl fr => ?_
  cases ht : truD x.2 with
  | none => rw [ht] at e; cases e
  | some k =>
    rw [ht] at e
    refine ⟨k, tru_of sl.bor ht, ?_⟩
    cases k with
    | true =>
      rw [if_pos rfl]
      exact hb F1 H1 e1 σ Q r env' s1.rel e fun F2 H2 v2 s2 sl2 fr2 => q F2 H2 v2 (s1.trans s2) sl2 fun z => (fr2 z).back s1.ext.stay
    | false =>
      rw [if_neg (by decide)]
      simp only at e
      cases e
      exact q F1 H1 v s1 sl fr
theorem snd_or {ta tb : TE} {ma mb m : Ev → Out Rv} (ha : SndE g ta ma) (hb : SndE g tb mb)
    (hm : ∀ env, m env = (ma env).bind fun r e1 => match truD r.2 with
      | some true => .ok r e1
      | some false => mb e1
      | none => .stuck) : SndE g (tOrT g.K ta tb) m := by
  intro F H env σ Q r env' R e q
  rw [hm] at e
  obtain ⟨x, e1, h1, e⟩ := bind_ok e
  refine ha F H env σ _ x e1 R h1 fun F1 H1 v s1 sl fr => ?_
  cases ht : truD x.2 with
  | none => rw [ht] at e; cases e
  | some k =>
    rw [ht] at e
    refine ⟨k, tru_of sl.bor ht, ?_⟩
    cases k with
    | false =>
      rw [if_neg (by decide)]
      exact hb F1 H1 e1 σ Q r env' s1.rel e fun F2 H2 v2 s2 sl2 fr2 => q F2 H2 v2 (s1.trans s2) sl2 fun z => (fr2 z).back s1.ext.stay
    | true =>
      rw [if_pos rfl]
      simp only at e
      cases e
      exact q F1 H1 v s1 sl fr
theorem snd_ife {tc : TT} {ta tb : TE} {mc : Ev → Out Bool} {ma mb m : Ev → Out Rv} (hc : SndC g tc mc) (ha : SndE g ta ma) (hb : SndE g tb mb)
    (hm : ∀ env, m env = (mc env).bind fun t e1 => if t then ma e1 else mb e1) : SndE g (tIf tc ta tb) m := by
  intro F H env σ Q r env' R e q
  rw [hm] at e
  obtain ⟨x, e1, h1, e⟩ := bind_ok e
  refine hc F H env σ _ x e1 R h1 fun F1 H1 s1 => ?_
  cases x with
  | true =>
    rw [if_pos rfl] at e ⊢
    exact ha F1 H1 e1 σ Q r env' s1.rel e fun F2 H2 v2 s2 sl2 fr2 => q F2 H2 v2 (s1.trans s2) sl2 fun z => (fr2 z).back s1.ext.stay
  | false =>
    rw [if_neg (by decide)] at e ⊢
    exact hb F1 H1 e1 σ Q r env' s1.rel e fun F2 H2 v2 s2 sl2 fr2 => q F2 H2 v2 (s1.trans s2) sl2 fun z => (fr2 z).back s1.ext.stay

/-! ### tests -/
def tVal (K : PySem.W.Frag) (te : TE) : TT := fun σ H Q => te σ H fun x H1 => ∃ k, TruV K x H1 k ∧ Q k H1
theorem sndC_val {a : Tm} {ta : TE} {ma : Ev → Out Rv} {m : Ev → Out Bool} (ha : SndO g ta (opd a ma)) (hm : ∀ env, m env = (opd a ma env).bind fun x e1 => match (rdO e1 x).bind truD with
    | some k => .ok k e1
    | none => .stuck) : SndC g (tVal g.K ta) m := by
  intro F H env σ Q b env' R e q
  rw [hm] at e
  obtain ⟨x, e1, h1, e⟩ := bind_ok e
  refine ha F H env σ _ x e1 R h1 fun F1 H1 v s1 o1 _ => ?_
  cases h2 : rdO e1 x with
  | none => rw [h2] at e; cases e
  | some d =>
    rw [h2] at e
    cases h3 : truD d with
    | none => simp [h3] at e
    | some k =>
      simp only [Option.bind_some, h3] at e
      cases e
      exact ⟨b, tru_of (o1.bor s1.rel h2) h3, q F1 H1 s1⟩
theorem sndC_cmp {ta : TE} {ma : Ev → Out Rv} {m : Ev → Out Bool} (ha : SndE g ta ma) (hm : ∀ env, m env = (ma env).bind fun r e1 => match r.2 with
    | .bl k => .ok k e1
    | _ => .stuck) : SndC g (tTest ta) m := by
  intro F H env σ Q b env' R e q
  rw [hm] at e
  obtain ⟨x, e1, h1, e⟩ := bind_ok e
  refine ha F H env σ _ x e1 R h1 fun F1 H1 v s1 sl _ => ?_
  obtain ⟨o, d⟩ := x
  cases d <;> first | (cases e; done) | skip
  simp only at e
  cases e
  have hv := bor_bl sl.bor
  exact ⟨b, hv, q F1 H1 s1⟩
theorem sndC_and {ta tb : TT} {ma mb m : Ev → Out Bool} (ha : SndC g ta ma) (hb : SndC g tb mb) (hm : ∀ env, m env = (ma env).bind fun t e1 => if t then mb e1 else .ok false e1) : SndC g (tAnd ta tb) m := by
  intro F H env σ Q b env' R e q
  rw [hm] at e
  obtain ⟨x, e1, h1, e⟩ := bind_ok e
  refine ha F H env σ _ x e1 R h1 fun F1 H1 s1 => ?_
  cases x with
  | true =>
    rw [if_pos rfl] at e ⊢
    exact hb F1 H1 e1 σ Q b env' s1.rel e fun F2 H2 s2 => q F2 H2 (s1.trans s2)
  | false =>
    rw [if_neg (by decide)] at e ⊢
    cases e
    exact q F1 H1 s1
theorem sndC_or {ta tb : TT} {ma mb m : Ev → Out Bool} (ha : SndC g ta ma) (hb : SndC g tb mb) (hm : ∀ env, m env = (ma env).bind fun t e1 => if t then .ok true e1 else mb e1) : SndC g (tOr ta tb) m := by
  intro F H env σ Q b env' R e q
  rw [hm] at e
  obtain ⟨x, e1, h1, e⟩ := bind_ok e
  refine ha F H env σ _ x e1 R h1 fun F1 H1 s1 => ?_
  cases x with
  | false =>
    rw [if_neg (by decide)] at e ⊢
    exact hb F1 H1 e1 σ Q b env' s1.rel e fun F2 H2 s2 => q F2 H2 (s1.trans s2)
  | true =>
    rw [if_pos rfl] at e ⊢
    cases e
    exact q F1 H1 s1
theorem sndC_not {ta : TT} {ma m : Ev → Out Bool} (ha : SndC g ta ma) (hm : ∀ env, m env = (ma env).bind fun t e1 => .ok (!t) e1) : SndC g (tNot ta) m := by
  intro F H env σ Q b env' R e q
  rw [hm] at e
  obtain ⟨x, e1, h1, e⟩ := bind_ok e
  cases e
  exact ha F H env σ _ x env' R h1 fun F1 H1 s1 => q F1 H1 s1

/-! ### parts of slices, slices -/
theorem sndT_no {m : Ev → Out (Option Int)} (hm : ∀ env, m env = .ok none env) : SndT g tNoPart m := by
  intro F H env σ Q b env' R e q
  rw [hm] at e
  cases e
  exact q F H (.refl R)
theorem sndT_yes {ta : TE} {ma : Ev → Out Rv} {m : Ev → Out (Option Int)} (ha : SndE g ta ma) (hm : ∀ env, m env = (ma env).bind fun r e1 => match r.2 with
    | .int i => .ok (some i) e1
    | _ => .stuck) : SndT g (tPart ta) m := by
  intro F H env σ Q b env' R e q
  rw [hm] at e
  obtain ⟨x, e1, h1, e⟩ := bind_ok e
  refine ha F H env σ _ x e1 R h1 fun F1 H1 v s1 sl _ => ?_
  obtain ⟨o, d⟩ := x
  cases d <;> first | (cases e; done) | skip
  simp only at e
  cases e
  exact ⟨_, bor_int sl.bor, q F1 H1 s1⟩
theorem snd_slc {a : Tm} {ta : TE} {tl th : TO} {ma m : Ev → Out Rv} {ml mh : Ev → Out (Option Int)} (ha : SndO g ta (opd a ma)) (hl : SndT g tl ml) (hh : SndT g th mh)
    (hm : ∀ env, m env = (opd a ma env).bind fun x e1 => (ml e1).bind fun l e2 => (mh e2).bind fun h e3 => match rdO e3 x with
      | some d => lift (slcD l h d) e3
      | none => .stuck) : SndE g (tSl (rSlc g.K) ta tl th) m := by
  intro F H env σ Q r env' R e q
  rw [hm] at e
  obtain ⟨x, e1, h1, e⟩ := bind_ok e
  obtain ⟨l, e2, h2, e⟩ := bind_ok e
  obtain ⟨h, e3, h3, e⟩ := bind_ok e
  refine ha F H env σ _ x e1 R h1 fun F1 H1 v s1 o1 _ => ?_
  refine hl F1 H1 e1 σ _ l e2 s1.rel h2 fun F2 H2 s2 => ?_
  refine hh F2 H2 e2 σ _ h e3 s2.rel h3 fun F3 H3 s3 => ?_
  have s := (s1.trans s2).trans s3
  cases h4 : rdO e3 x with
  | none => rw [h4] at e; cases e
  | some d =>
    rw [h4] at e
    obtain ⟨h5, rfl⟩ := lift_ok e
    exact p1_slc l h F3 H3 v d r Q s.rel.trk (((o1.step s1.rel s2).step s2.rel s3).bor s.rel h4) h5 fun H4 w n sl fr => q F3 H4 w (s.trans (.new s.rel n)) sl fun z => (fr z).back s.ext.stay
def tEvn (K : PySem.W.Frag) (te : TE) (tl : TO) : TE := fun σ H Q => te σ H fun x H1 => tl σ H1 fun l H2 => rEvn K l x H2 Q
theorem snd_evn {a : Tm} {ta : TE} {tl : TO} {ma m : Ev → Out Rv} {ml : Ev → Out (Option Int)} (ha : SndO g ta (opd a ma)) (hl : SndT g tl ml)
    (hm : ∀ env, m env = (opd a ma env).bind fun x e1 => (ml e1).bind fun l e2 => match rdO e2 x with
      | some (.lst xs) => lift (match l with
        | none => some (ow (.lst (evens xs)))
        | some 1 => some (ow (.lst (evens (xs.drop 1))))
        | _ => none) e2
      | _ => .stuck) : SndE g (tEvn g.K ta tl) m := by
  intro F H env σ Q r env' R e q
  rw [hm] at e
  obtain ⟨x, e1, h1, e⟩ := bind_ok e
  obtain ⟨l, e2, h2, e⟩ := bind_ok e
  refine ha F H env σ _ x e1 R h1 fun F1 H1 v s1 o1 _ => ?_
  refine hl F1 H1 e1 σ _ l e2 s1.rel h2 fun F2 H2 s2 => ?_
  have s := s1.trans s2
  cases h4 : rdO e2 x with
  | none => rw [h4] at e; cases e
  | some d =>
    rw [h4] at e
    cases d <;> first | (cases e; done) | skip
    rename_i xs
    simp only at e
    obtain ⟨h5, rfl⟩ := lift_ok e
    exact p1_evn l F2 H2 v (.lst xs) r Q s.rel.trk ((o1.step s1.rel s2).bor s.rel h4) h5 fun H4 w n sl fr => q F2 H4 w (s.trans (.new s.rel n)) sl fun z => (fr z).back s.ext.stay

/-! ### methods -/
def rJoin (K : PySem.W.Frag) : V → List V → Hp → VK → Prop := fun x xs H Q => ∃ a p, ∃ ys : List Str, x = .str a ∧ xs = [.ref p] ∧ (SqL K H p (ys.map V.str) ∨ SqT K H p (ys.map V.str)) ∧
    (ys.map (·.length)).sum + ys.length * a.length ≤ 16777216 ∧ Q (.str (Txt.join a ys)) H
theorem snd_join {a : Tm} {ts ta : TE} {ms ma m : Ev → Out Rv} (hs : SndE g ts ms) (ha : SndO g ta (opd a ma))
    (hm : ∀ env, m env = (ms env).bind fun x e1 => match x.2 with
      | .str z => op1 a ma (fun y => match y with
        | .lst ys => (strsD ys).bind fun ss => if (ss.map (·.length)).sum + ss.length * z.length ≤ 16777216 then some (fz (.str (Txt.join z ss))) else none
        | _ => none) e1
      | _ => .stuck) : SndE g (tM1 (rJoin g.K) ts ta) m := by
  intro F H env σ Q r env' R e q
  rw [hm] at e
  obtain ⟨x, e1, h1, e⟩ := bind_ok e
  refine hs F H env σ _ x e1 R h1 fun F1 H1 v s1 sl z0 => ?_
  clear z0
  obtain ⟨o, d⟩ := x
  cases d <;> first | (cases e; done) | skip
  rename_i z
  simp only at e
  have ev := bor_str sl.bor
  subst ev
  refine ⟨⟨z, rfl⟩, ?_⟩
  have P : P1 g (fun y H Q => rJoin g.K (.str z) [y] H Q) (fun y => match y with
      | .lst ys => (strsD ys).bind fun ss => if (ss.map (·.length)).sum + ss.length * z.length ≤ 16777216 then some (fz (.str (Txt.join z ss))) else none
      | _ => none) := by
    intro F H x d rv Q tk hx he q
    simp only at he
    split at he
    · rename_i ys
      cases hb : strsD ys with
      | none => rw [hb] at he; cases he
      | some ss =>
        rw [hb] at he
        simp only [Option.bind_some] at he
        split at he
        · rename_i hz
          cases he
          obtain ⟨a, xs, rfl, h1, h2⟩ := hx
          have e := frL_strs h2 hb
          subst e
          exact ⟨z, a, ss, rfl, rfl, .inl (SqL.of h1), hz, q _ _ .refl sl_str fun z => by cases z⟩
        · cases he
    · cases he
  exact snd_op1 ha P F1 H1 e1 σ Q r env' s1.rel e fun F2 H2 v2 s2 sl2 fr2 => q F2 H2 v2 (s1.trans s2) sl2 fun z => (fr2 z).back s1.ext.stay
theorem snd_dget {d k : Tm} {td tk tx : TE} {md mk mx m : Ev → Out Rv} (hd : SndO g td (opd d md)) (hk : SndO g tk (opd k mk)) (hx : SndE g tx mx)
    (hm : ∀ env, m env = (opd d md env).bind fun x1 e1 => match rdO e1 x1 with
      | some (.dct _) => (opd k mk e1).bind fun y e2 => (mx e2).bind fun z e3 => match rdO e3 x1, rdO e3 y with
        | some (.dct kvs), some u => match keyD u with
          | some key => .ok (fz ((valD kvs key).getD z.2)) e3
          | none => .stuck
        | _, _ => .stuck
      | _ => .stuck) : SndE g (tDGet2 td tk tx) m := by
  intro F H env σ Q r env' R e q
  rw [hm] at e
  obtain ⟨x1, e1, h1, e⟩ := bind_ok e
  refine hd F H env σ _ x1 e1 R h1 fun F1 H1 v s1 o1 _ => ?_
  cases h2 : rdO e1 x1 with
  | none => rw [h2] at e; cases e
  | some d0 =>
    rw [h2] at e
    cases d0 <;> first | (cases e; done) | skip
    simp only at e
    obtain ⟨a, ws, rfl, b1, _⟩ := o1.bor s1.rel h2
    refine ⟨a, rfl, .inl ⟨ws, b1⟩, ?_⟩
    obtain ⟨y, e2, h3, e⟩ := bind_ok e
    obtain ⟨z, e3, h4, e⟩ := bind_ok e
    refine hk F1 H1 e1 σ _ y e2 s1.rel h3 fun F2 H2 vy s2 o2 _ => ?_
    refine hx.frz s2.rel h4 fun F3 H3 vz s3 fz' => ?_
    have s := (s1.trans s2).trans s3
    cases h5 : rdO e3 x1 with
    | none => rw [h5] at e; cases e
    | some d1 =>
      cases h6 : rdO e3 y with
      | none => rw [h5, h6] at e; cases d1 <;> cases e
      | some u =>
        rw [h5, h6] at e
        cases d1 <;> first | (cases e; done) | skip
        rename_i kvs
        simp only at e
        cases h7 : keyD u with
        | none => rw [h7] at e; cases e
        | some key =>
          rw [h7] at e
          simp only at e
          cases e
          obtain ⟨a', ws', ea, b3, b4⟩ := ((o1.step s1.rel s2).step s2.rel s3).bor s.rel h5
          cases ea
          have ek := keyD_kV ((o2.step s2.rel s3).bor s.rel h6) h7
          subst ek
          refine ⟨valV ws' key, .inl ⟨ws', key, b3, rfl, rfl⟩, q F3 H3 _ s (sl_fz.mpr ?_) fun z => by cases z⟩
          rcases frK_val key b4 with ⟨q1, q2⟩ | ⟨d2, v2, q1, q2, q3⟩
          · rw [q1, q2]; exact fz'
          · rw [q1, q2]; exact q3

/-! ### displays -/
theorem snd_tup {t : TA} {ms : Ev → Out (List D)} {m : Ev → Out Rv} (h : SndF g t ms) (hm : ∀ env, m env = (ms env).bind fun ds e1 => if ds.length ≤ sizeLine then .ok (fz (.tup ds)) e1 else .stuck) : SndE g (tTup t) m := by
  intro F H env σ Q r env' R e q
  rw [hm] at e
  obtain ⟨ds, e1, h1, e⟩ := bind_ok e
  split at e
  · rename_i hl
    cases e
    refine h F H env σ _ ds env' R h1 fun F1 H1 vs s1 f1 => ⟨by rw [← f1.length]; exact hl, fun p hp => ?_⟩
    exact newT hp f1 fun H2 v n sl fr => q F1 H2 v (s1.trans (.new s1.rel n)) sl fun z => (fr z).back s1.ext.stay
  · cases e
theorem snd_lst {t : TA} {ms : Ev → Out (List D)} {m : Ev → Out Rv} (h : SndF g t ms) (hm : ∀ env, m env = (ms env).bind fun ds e1 => if ds.length ≤ sizeLine then .ok (ow (.lst ds)) e1 else .stuck) : SndE g (tLst t) m := by
  intro F H env σ Q r env' R e q
  rw [hm] at e
  obtain ⟨ds, e1, h1, e⟩ := bind_ok e
  split at e
  · rename_i hl
    cases e
    refine h F H env σ _ ds env' R h1 fun F1 H1 vs s1 f1 => ⟨by rw [← f1.length]; exact hl, fun p hp => ?_⟩
    exact newL s1.rel.trk hp f1 fun H2 v n sl fr => q F1 H2 v (s1.trans (.new s1.rel n)) sl fun z => (fr z).back s1.ext.stay
  · cases e
/-- a new thing that no slot holds is written -/
theorem Step.put (R : Rel g F H env σ) (s : Step g σ F H env F' H' env') {a : Addr} {o : HO} (na : H a = none) (nf : ¬ F' a) (ho : (∃ xs, H' a = some (.lst xs)) ∨ ∃ ws, H' a = some (.dK ws)) : Step g σ F H env F' (upd H' a o) env' := by
  have x : Ext (fun b => b = a) F' H' F' (upd H' a o) := ⟨fun b u e n => .inl (by rw [upd_ne n]; exact e), fun b e => by
    by_cases z : b = a
    · subst z; rw [upd_same] at e; cases e
    · rw [upd_ne z] at e; exact e, fun _ e => e, fun _ e => .inl e⟩
  have hw : Wk (fun b => b = a) F' H' := fun b e => by subst e; exact ⟨nf, ho⟩
  have ne : ∀ b, OwnAt env' σ b → b ≠ a := fun b q z => by subst z; exact R.ownTrk (s.sub b q) na
  refine ⟨s.rel.go x hw (fun b q => ⟨ne b q, (s.rel.wk b q).1⟩) fun b f z => s.rel.trk b f (x.stay b z), s.ext.trans x fun b e => ?_, s.sub, s.live, s.ownk⟩
  subst e
  exact .inr na
theorem Step.wroteL (R : Rel g F H env σ) (s : Step g σ F H env F' H' env') {a : Addr} {o : HO} (na : H a = none) (nf : ¬ F' a) (ho : (∃ xs, H' a = some (.lst xs)) ∨ ∃ ws, H' a = some (.dK ws)) {ds : List D} {xs : List V} (h : FrL g F' H' ds xs) : FrL g F' (upd H' a o) ds xs := by
  have x : Ext (fun b => b = a) F' H' F' (upd H' a o) := ⟨fun b u e n => .inl (by rw [upd_ne n]; exact e), fun b e => by
    by_cases z : b = a
    · subst z; rw [upd_same] at e; cases e
    · rw [upd_ne z] at e; exact e, fun _ e => e, fun _ e => .inl e⟩
  exact h.ext x fun b e => by subst e; exact ⟨nf, ho⟩
theorem Step.wroteK (R : Rel g F H env σ) (s : Step g σ F H env F' H' env') {a : Addr} {o : HO} (na : H a = none) (nf : ¬ F' a) (ho : (∃ xs, H' a = some (.lst xs)) ∨ ∃ ws, H' a = some (.dK ws)) {ds : List (Key × D)} {xs : List (Key × V)} (h : FrK g F' H' ds xs) : FrK g F' (upd H' a o) ds xs := by
  have x : Ext (fun b => b = a) F' H' F' (upd H' a o) := ⟨fun b u e n => .inl (by rw [upd_ne n]; exact e), fun b e => by
    by_cases z : b = a
    · subst z; rw [upd_same] at e; cases e
    · rw [upd_ne z] at e; exact e, fun _ e => e, fun _ e => .inl e⟩
  exact h.ext x fun b e => by subst e; exact ⟨nf, ho⟩
theorem frK_nil : FrK g F H [] [] := by rw [FrK]
theorem frK_cons {k : Key} {d : D} {v : V} {kvs : List (Key × D)} {ws : List (Key × V)} (h : Fr g F H d v) (t : FrK g F H kvs ws) : FrK g F H ((k, d) :: kvs) ((k, v) :: ws) := by rw [FrK]; exact ⟨v, ws, rfl, h, t⟩
theorem frK_app : ∀ {kvs kvs' : List (Key × D)} {ws ws' : List (Key × V)}, FrK g F H kvs ws → FrK g F H kvs' ws' → FrK g F H (kvs ++ kvs') (ws ++ ws')
  | [], kvs', ws, ws', h, h' => by rw [FrK] at h; subst h; exact h'
  | (k, d) :: r, kvs', ws, ws', h, h' => by
    rw [FrK] at h
    obtain ⟨x, s, rfl, h1, h2⟩ := h
    exact frK_cons h1 (frK_app h2 h')
theorem frK_mapput {k : Key} {d : D} {v : V} (hv : Fr g F H d v) : ∀ {kvs : List (Key × D)} {ws : List (Key × V)}, FrK g F H kvs ws →
    FrK g F H (kvs.map fun kv => if kv.1 = k then (kv.1, d) else kv) (ws.map fun kv => if kv.1 = k then (kv.1, v) else kv)
  | [], ws, h => by rw [FrK] at h; subst h; exact frK_nil
  | (k', d') :: r, ws, h => by
    rw [FrK] at h
    obtain ⟨x, s, rfl, h1, h2⟩ := h
    rw [List.map_cons, List.map_cons]
    by_cases e : k' = k
    · simp only [e, if_true]
      exact frK_cons hv (frK_mapput hv h2)
    · simp only [e, if_false]
      exact frK_cons h1 (frK_mapput hv h2)
theorem frK_any {k : Key} : ∀ {kvs : List (Key × D)} {ws : List (Key × V)}, FrK g F H kvs ws → (kvs.any fun kv => decide (kv.1 = k)) = (ws.any fun kv => decide (kv.1 = k))
  | [], ws, h => by rw [FrK] at h; subst h; rfl
  | (k', d') :: r, ws, h => by
    rw [FrK] at h
    obtain ⟨x, s, rfl, h1, h2⟩ := h
    rw [List.any_cons, List.any_cons, frK_any h2]
theorem frK_put {k : Key} {d : D} {v : V} {kvs : List (Key × D)} {ws : List (Key × V)} (hv : Fr g F H d v) (h : FrK g F H kvs ws) : FrK g F H (putD kvs k d) (putK ws k v) := by
  unfold putD putK
  rw [frK_any h]
  split
  · exact frK_mapput hv h
  · exact frK_app h (frK_cons hv frK_nil)
theorem frK_merge : ∀ {kvs acc : List (Key × D)} {ws bs : List (Key × V)}, FrK g F H acc bs → FrK g F H kvs ws → FrK g F H (kvs.foldl (fun acc kv => putD acc kv.1 kv.2) acc) (mergeK bs ws)
  | [], acc, ws, bs, h, h' => by rw [FrK] at h'; subst h'; exact h
  | (k, d) :: r, acc, ws, bs, h, h' => by
    rw [FrK] at h'
    obtain ⟨x, s, rfl, h1, h2⟩ := h'
    show FrK g F H (r.foldl _ (putD acc k d)) (mergeK (putK bs k x) s)
    exact frK_merge (frK_put h1 h) h2
def SndP (g : Gx) (t : List (TE × TE)) (m : Ev → Out (List (Key × D))) : Prop := ∀ (F : Addr → Prop) (H : Hp) (env : Ev) (σ : L2.St) (Q : List (V × V) → Hp → Prop) (kvs : List (Key × D)) (env' : Ev), Rel g F H env σ → m env = .ok kvs env' →
  (∀ F' H' ws, Step g σ F H env F' H' env' → FrK g F' H' kvs ws → Q (ws.map fun kv => (kV kv.1, kv.2)) H') → tPairs t σ H Q
theorem sndP_nil {m : Ev → Out (List (Key × D))} (hm : ∀ env, m env = .ok [] env) : SndP g [] m := by
  intro F H env σ Q kvs env' R e q
  rw [hm] at e
  cases e
  exact q F H [] (.refl R) frK_nil
theorem sndP_cons {tk tv : TE} {tr : List (TE × TE)} {mk mv : Ev → Out Rv} {mr m : Ev → Out (List (Key × D))} (hk : SndE g tk mk) (hv : SndE g tv mv) (hr : SndP g tr mr)
    (hm : ∀ env, m env = (mk env).bind fun x e1 => (mv e1).bind fun y e2 => match keyD x.2 with
      | some key => (mr e2).bind fun xs e3 => .ok ((key, y.2) :: xs) e3
      | none => .stuck) : SndP g ((tk, tv) :: tr) m := by
  intro F H env σ Q kvs env' R e q
  rw [hm] at e
  obtain ⟨x, e1, h1, e⟩ := bind_ok e
  obtain ⟨y, e2, h2, e⟩ := bind_ok e
  cases h3 : keyD x.2 with
  | none => rw [h3] at e; cases e
  | some key =>
    rw [h3] at e
    simp only at e
    obtain ⟨xs, e3, h4, e⟩ := bind_ok e
    cases e
    refine hk.frz R h1 fun F1 H1 vx s1 f1 => ?_
    refine hv.frz s1.rel h2 fun F2 H2 vy s2 f2 => ?_
    refine hr F2 H2 e2 σ _ xs env' s2.rel h4 fun F3 H3 ws s3 f3 => ?_
    have ek := keyD_kV f1.bor h3
    subst ek
    exact q F3 H3 ((key, vy) :: ws) ((s1.trans s2).trans s3) (frK_cons (s3.fr s2.rel f2) f3)
theorem snd_dct0 {m : Ev → Out Rv} (hm : ∀ env, m env = .ok (ow (.dct [])) env) : SndE g tDNewK m := by
  intro F H env σ Q r env' R e q p hp
  rw [hm] at e
  cases e
  exact newD R.trk hp frK_nil fun H2 v n sl fr => q F H2 v (.new R n) sl fr
theorem snd_dct {trs : List (TE × TE)} {ms : Ev → Out (List (Key × D))} {m : Ev → Out Rv} (h : SndP g trs ms)
    (hm : ∀ env, m env = (ms env).bind fun kvs e1 => if kvs.length ≤ 15 then .ok (ow (.dct (kvs.foldl (fun acc kv => putD acc kv.1 kv.2) []))) e1 else .stuck) : SndE g (tDisp trs) m := by
  intro F H env σ Q r env' R e q p hp
  rw [hm] at e
  obtain ⟨kvs, e1, h1, e⟩ := bind_ok e
  split at e
  · rename_i hl
    cases e
    have n1 : New H (upd H p (.dK [])) := New.upd hp
    have s0 := Step.new R n1
    refine h F _ env σ _ kvs env' s0.rel h1 fun F2 H2 ws s2 f2 => ?_
    have np : ¬ OwnAt env σ p := fun z => R.ownTrk z hp
    have nf : ¬ F p := fun z => R.trk p z hp
    have hp2 : H2 p = some (.dK []) := by
      rcases s2.ext.keep p _ upd_same np with z | ⟨z, _⟩
      · exact z
      · exact absurd z nf
    have nf2 : ¬ F2 p := fun z => by
      rcases s2.ext.new p z with y | y | y
      · exact nf y
      · exact np y
      · rw [upd_same] at y; cases y
    refine ⟨hp2, ws, rfl, by rw [← f2.length]; exact hl, ?_⟩
    have s := s0.trans s2
    refine q F2 _ _ (s.put R hp nf2 (.inr ⟨_, hp2⟩)) (sl_ow.mpr ⟨p, _, rfl, nf2, upd_same, s.wroteK R hp nf2 (.inr ⟨_, hp2⟩) (frK_merge frK_nil f2)⟩) fun _ => ⟨p, rfl, hp⟩
  · cases e
end
end Ev
/-! Snd7: what is walked, targets, comprehensions. -/
namespace Ev
open PySem L2 RZ

structure Walk (g : Gx) (J : L2.It) (S : (Addr → Prop) → Hp → Prop) (ds : List D) : Prop where
  stab : ∀ (W F : Addr → Prop) (H : Hp) (F' : Addr → Prop) (H' : Hp), Ext W F H F' H' → Wk W F H → S F H → S F' H'
  go : ∀ (F : Addr → Prop) (H : Hp) (i : Nat) (d : D), S F H → ds[i]? = some d → J.go i H
  yld : ∀ (F : Addr → Prop) (H : Hp) (i : Nat) (d : D) (x : V) (H' : Hp), S F H → ds[i]? = some d → J.yld i H x H' → New H H' ∧ Fr g F H' d x
  stop : ∀ (F : Addr → Prop) (H : Hp), S F H → J.stop ds.length H
def SndI (g : Gx) (t : TI) (m : Ev → Out (List D)) : Prop := ∀ (F : Addr → Prop) (H : Hp) (env : Ev) (σ : L2.St) (R : L2.It → Hp → Prop) (ds : List D) (env' : Ev), Rel g F H env σ → m env = .ok ds env' →
  (∀ F' H' J S, Step g σ F H env F' H' env' → S F' H' → Walk g J S ds → R J H') → t σ H R
section
variable {g : Gx} {F F' F0 F1 : Addr → Prop} {H H' H0 H1 : Hp} {env env' env0 env1 : Ev} {σ : L2.St}
theorem walk_list {a : Addr} {ds : List D} : Walk g (Itl g.K a) (fun F H => ∃ xs, F a ∧ H a = some (.lst xs) ∧ FrL g F H ds xs) ds where
  stab := fun W F H F' H' x hw ⟨xs, f, h1, h2⟩ => ⟨xs, x.mono a f, x.lst hw f h1, h2.ext x hw⟩
  go := fun F H i d ⟨xs, f, h1, h2⟩ e => by
    obtain ⟨x, e1, _⟩ := h2.get e
    exact ⟨xs, x, SqL.of h1, e1⟩
  yld := fun F H i d x H' ⟨xs, f, h1, h2⟩ e ⟨eh, hy⟩ => by
    subst eh
    obtain ⟨y, e1, f1⟩ := h2.get e
    rw [hy xs (SqL.of h1)] at e1
    cases e1
    exact ⟨.refl, f1⟩
  stop := fun F H ⟨xs, f, h1, h2⟩ => ⟨xs, SqL.of h1, by rw [h2.length]; exact Nat.le_refl _⟩
theorem walk_scr {a : Addr} {ns : List Int} : Walk g (Itl g.K a) (fun F H => Fr g F H (.scr ns) (.ref a)) (ns.map D.int) where
  stab := fun W F H F' H' x hw h => h.ext x hw
  go := fun F H i d h e => by
    obtain ⟨b, eb, h1⟩ := bor_scr (F := F) h.bor
    cases eb
    obtain ⟨x, e1, _⟩ := (frL_ints (g := g) (F := F) (H := H) ns).get e
    exact ⟨_, x, h1, e1⟩
  yld := fun F H i d x H' h e ⟨eh, hy⟩ => by
    subst eh
    obtain ⟨b, eb, h1⟩ := bor_scr (F := F) h.bor
    cases eb
    obtain ⟨y, e1, f1⟩ := (frL_ints (g := g) (F := F) (H := H') ns).get e
    rw [hy _ h1] at e1
    cases e1
    exact ⟨.refl, f1⟩
  stop := fun F H h => by
    obtain ⟨b, eb, h1⟩ := bor_scr (F := F) h.bor
    cases eb
    exact ⟨_, h1, by simp⟩
theorem walk_tup {a : Addr} {ds : List D} {xs : List V} : Walk g (Itt g.K a) (fun F H => SqT g.K H a xs ∧ FrL g F H ds xs) ds where
  stab := fun W F H F' H' x hw ⟨h1, h2⟩ => ⟨x.tup hw h1, h2.ext x hw⟩
  go := fun F H i d ⟨h1, h2⟩ e => by
    obtain ⟨x, e1, _⟩ := h2.get e
    exact ⟨xs, x, h1, e1⟩
  yld := fun F H i d x H' ⟨h1, h2⟩ e ⟨eh, hy⟩ => by
    subst eh
    obtain ⟨y, e1, f1⟩ := h2.get e
    rw [hy xs h1] at e1
    cases e1
    exact ⟨.refl, f1⟩
  stop := fun F H ⟨h1, h2⟩ => ⟨xs, h1, by rw [h2.length]; exact Nat.le_refl _⟩
theorem walk_keys {a : Addr} {o : Obj} {ws : List (Key × V)} : Walk g (Itk a o ws) (fun _ H => H a = some (.frz o (.dK ws))) (ws.map fun kv => kD kv.1) where
  stab := fun W F H F' H' x hw h => by
    have nw : ¬ W a := fun w => by
      rcases (hw a w).2 with ⟨ys, q⟩ | ⟨ws, q⟩ <;> rw [h] at q <;> cases q
    rcases x.keep a _ h nw with q | ⟨_, _, _, q, _⟩
    · exact q
    · cases q
  go := fun F H i d h e => ⟨h, by
    have := (List.getElem?_eq_some_iff.mp e).1
    simpa using this⟩
  yld := fun F H i d x H' h e ⟨eh, k, v, hy, hx⟩ => by
    subst eh; subst hx
    refine ⟨.refl, ?_⟩
    rw [List.getElem?_map, hy] at e
    cases e
    exact fr_key k
  stop := fun F H h => ⟨h, by simp⟩
theorem walk_str {s : Str} : Walk g (Its s) (fun _ _ => True) (s.cps.toList.map fun c => .str ⟨#[c]⟩) where
  stab := fun _ _ _ _ _ _ _ _ => trivial
  go := fun F H i d _ e => by
    have := (List.getElem?_eq_some_iff.mp e).1
    show i < s.cps.size
    simpa using this
  yld := fun F H i d x H' _ e ⟨eh, c, hy, hx⟩ => by
    subst eh; subst hx
    refine ⟨.refl, ?_⟩
    rw [List.getElem?_map, Array.getElem?_toList, hy] at e
    cases e
    exact fr_str
  stop := fun F H _ => by show _ ≤ _; simp
theorem walk_rng {lo : Int} {n : Nat} : Walk g (Itr lo n) (fun _ _ => True) (rngD lo n) where
  stab := fun _ _ _ _ _ _ _ _ => trivial
  go := fun F H i d _ e => by
    have := (List.getElem?_eq_some_iff.mp e).1
    unfold rngD at this
    show i < n
    simpa using this
  yld := fun F H i d x H' _ e ⟨eh, hx⟩ => by
    subst eh; subst hx
    refine ⟨.refl, ?_⟩
    unfold rngD at e
    rw [List.getElem?_map] at e
    have hi : i < n := by
      cases q : (List.range n)[i]? with
      | none => rw [q] at e; cases e
      | some j => simpa using (List.getElem?_eq_some_iff.mp q).1
    rw [List.getElem?_range hi] at e
    cases e
    exact fr_int
  stop := fun F H _ => by show n ≤ _; unfold rngD; simp
theorem enumD_get : ∀ (ds : List D) (k i : Nat) (e : D), (enumD k ds)[i]? = some e → ∃ d, ds[i]? = some d ∧ e = .tup [.int ((k + i : Nat) : Int), d]
  | [], k, i, e, h => by simp [enumD] at h
  | d :: ds, k, 0, e, h => by
    simp [enumD] at h
    exact ⟨d, rfl, by simp [h]⟩
  | d :: ds, k, i + 1, e, h => by
    simp only [enumD, List.getElem?_cons_succ] at h
    obtain ⟨d', h1, h2⟩ := enumD_get ds (k + 1) i e h
    exact ⟨d', by simpa using h1, by rw [h2]; congr 3; omega⟩
theorem enumD_length : ∀ (ds : List D) (k : Nat), (enumD k ds).length = ds.length
  | [], _ => rfl
  | d :: ds, k => by simp [enumD, enumD_length ds]
theorem fr_tup {ds : List D} {xs : List V} {T : Addr} (h : H T = some (.tup xs)) (f : FrL g F H ds xs) : Fr g F H (.tup ds) (.ref T) := by
  rw [Fr]; exact ⟨T, xs, rfl, SqT.of h, f⟩
theorem walk_enum {a : Addr} {ds : List D} : Walk g (Ite g.K a) (fun F H => ∃ xs, F a ∧ H a = some (.lst xs) ∧ FrL g F H ds xs) (enumD 0 ds) where
  stab := walk_list.stab
  go := fun F H i d ⟨xs, f, h1, h2⟩ e => by
    obtain ⟨d', e', _⟩ := enumD_get ds 0 i d e
    obtain ⟨x, e1, _⟩ := h2.get e'
    exact ⟨xs, x, SqL.of h1, e1⟩
  yld := fun F H i d x H' ⟨xs, f, h1, h2⟩ e ⟨T, y, hx, hT, eh, hy⟩ => by
    subst eh; subst hx
    obtain ⟨d', e', rfl⟩ := enumD_get ds 0 i d e
    obtain ⟨z, e1, f1⟩ := h2.get e'
    rw [hy xs (SqL.of h1)] at e1
    cases e1
    refine ⟨New.upd hT, fr_tup upd_same (.cons ?_ (.cons (f1.new (New.upd hT)) .nil))⟩
    rw [Nat.zero_add]
    exact fr_int
  stop := fun F H ⟨xs, f, h1, h2⟩ => ⟨xs, SqL.of h1, by rw [enumD_length, h2.length]; exact Nat.le_refl _⟩
/-- a tuple's items, each in a new pair with its place -/
def IteT (K : PySem.W.Frag) (a : Addr) : L2.It :=
  ⟨fun i H => ∃ (xs : List V) (x : V), SqT K H a xs ∧ xs[i]? = some x, fun i H v H' => ∃ T x, v = .ref T ∧ H T = none ∧ H' = upd H T (.tup [.int (i : Nat), x]) ∧ ∀ xs, SqT K H a xs → xs[i]? = some x, fun i H => ∃ xs : List V, SqT K H a xs ∧ xs.length ≤ i⟩
theorem walk_enumT {a : Addr} {ds : List D} {xs : List V} : Walk g (IteT g.K a) (fun F H => SqT g.K H a xs ∧ FrL g F H ds xs) (enumD 0 ds) where
  stab := walk_tup.stab
  go := fun F H i d ⟨h1, h2⟩ e => by
    obtain ⟨d', e', _⟩ := enumD_get ds 0 i d e
    obtain ⟨x, e1, _⟩ := h2.get e'
    exact ⟨xs, x, h1, e1⟩
  yld := fun F H i d x H' ⟨h1, h2⟩ e ⟨T, y, hx, hT, eh, hy⟩ => by
    subst eh; subst hx
    obtain ⟨d', e', rfl⟩ := enumD_get ds 0 i d e
    obtain ⟨z, e1, f1⟩ := h2.get e'
    rw [hy xs h1] at e1
    cases e1
    refine ⟨New.upd hT, fr_tup upd_same (.cons ?_ (.cons (f1.new (New.upd hT)) .nil))⟩
    rw [Nat.zero_add]
    exact fr_int
  stop := fun F H ⟨h1, h2⟩ => ⟨xs, h1, by rw [enumD_length, h2.length]; exact Nat.le_refl _⟩
theorem zipD_get : ∀ (ds es : List D) (i : Nat) (e : D), (zipD ds es)[i]? = some e → ∃ x y, ds[i]? = some x ∧ es[i]? = some y ∧ e = .tup [x, y]
  | [], es, i, e, h => by simp [zipD] at h
  | d :: ds, [], i, e, h => by simp [zipD] at h
  | d :: ds, x :: es, 0, e, h => by
    simp [zipD] at h
    exact ⟨d, x, rfl, rfl, by simp [h]⟩
  | d :: ds, x :: es, i + 1, e, h => by
    simp only [zipD, List.getElem?_cons_succ] at h
    obtain ⟨a, b, h1, h2, h3⟩ := zipD_get ds es i e h
    exact ⟨a, b, by simpa using h1, by simpa using h2, h3⟩
theorem zipD_length : ∀ (ds es : List D), (zipD ds es).length = min ds.length es.length
  | [], es => by simp [zipD]
  | d :: ds, [] => by simp [zipD]
  | d :: ds, x :: es => by simp [zipD, zipD_length ds es]
theorem walk_zip {a b : Addr} {ds es : List D} : Walk g (Itz g.K a b) (fun F H => (∃ xs, F a ∧ H a = some (.lst xs) ∧ FrL g F H ds xs) ∧ ∃ ys, F b ∧ H b = some (.lst ys) ∧ FrL g F H es ys) (zipD ds es) where
  stab := fun W F H F' H' x hw ⟨h1, h2⟩ => ⟨walk_list.stab W F H F' H' x hw h1, walk_list.stab W F H F' H' x hw h2⟩
  go := fun F H i d ⟨⟨xs, _, h1, h2⟩, ys, _, h3, h4⟩ e => by
    obtain ⟨x, y, e1, e2, _⟩ := zipD_get ds es i d e
    obtain ⟨v, q1, _⟩ := h2.get e1
    obtain ⟨w, q2, _⟩ := h4.get e2
    exact ⟨xs, ys, v, w, SqL.of h1, SqL.of h3, q1, q2⟩
  yld := fun F H i d x H' ⟨⟨xs, _, h1, h2⟩, ys, _, h3, h4⟩ e ⟨T, v, w, hx, hT, eh, hv, hw⟩ => by
    subst eh; subst hx
    obtain ⟨x, y, e1, e2, rfl⟩ := zipD_get ds es i d e
    obtain ⟨v', q1, f1⟩ := h2.get e1
    obtain ⟨w', q2, f2⟩ := h4.get e2
    rw [hv xs (SqL.of h1)] at q1; cases q1
    rw [hw ys (SqL.of h3)] at q2; cases q2
    exact ⟨New.upd hT, fr_tup upd_same (.cons (f1.new (New.upd hT)) (.cons (f2.new (New.upd hT)) .nil))⟩
  stop := fun F H ⟨⟨xs, _, h1, h2⟩, ys, _, h3, h4⟩ => ⟨xs, ys, SqL.of h1, SqL.of h3, by rw [zipD_length, h2.length, h4.length]; omega⟩
theorem walk_zipT {a b : Addr} {ds es : List D} {xs ys : List V} : Walk g (ItzT g.K a b) (fun F H => (SqT g.K H a xs ∧ FrL g F H ds xs) ∧ SqT g.K H b ys ∧ FrL g F H es ys) (zipD ds es) where
  stab := fun W F H F' H' x hw ⟨⟨h1, h2⟩, h3, h4⟩ => ⟨⟨x.tup hw h1, h2.ext x hw⟩, x.tup hw h3, h4.ext x hw⟩
  go := fun F H i d ⟨⟨h1, h2⟩, h3, h4⟩ e => by
    obtain ⟨x, y, e1, e2, _⟩ := zipD_get ds es i d e
    obtain ⟨v, q1, _⟩ := h2.get e1
    obtain ⟨w, q2, _⟩ := h4.get e2
    exact ⟨xs, ys, v, w, h1, h3, q1, q2⟩
  yld := fun F H i d x H' ⟨⟨h1, h2⟩, h3, h4⟩ e ⟨T, v, w, hx, hT, eh, hv, hw⟩ => by
    subst eh; subst hx
    obtain ⟨x, y, e1, e2, rfl⟩ := zipD_get ds es i d e
    obtain ⟨v', q1, f1⟩ := h2.get e1
    obtain ⟨w', q2, f2⟩ := h4.get e2
    rw [hv xs h1] at q1; cases q1
    rw [hw ys h3] at q2; cases q2
    exact ⟨New.upd hT, fr_tup upd_same (.cons (f1.new (New.upd hT)) (.cons (f2.new (New.upd hT)) .nil))⟩
  stop := fun F H ⟨⟨h1, h2⟩, h3, h4⟩ => ⟨xs, ys, h1, h3, by rw [zipD_length, h2.length, h4.length]; omega⟩

/-! ### iterables -/
def iKeysL (te : TE) : TI := fun σ H R => te σ H fun x H1 => ∃ a kvs, x = .ref a ∧ ((H1 a = some (.dK kvs) ∧ ∀ o, R (Itk a o kvs) (upd H1 a (.frz o (.dK kvs)))) ∨ ∃ o, H1 a = some (.frz o (.dK kvs)) ∧ R (Itk a o kvs) H1)
def iSeq (K : PySem.W.Frag) (te : TE) : TI := fun σ H R => iList K te σ H R ∨ iTup K te σ H R ∨ iKeysL te σ H R ∨ iStr te σ H R
theorem Step.lock (R : Rel g F H env σ) (s : Step g σ F H env F' H' env') {a : Addr} {kvs : List (Key × V)} {o : Obj} (f : F' a) (h : H' a = some (.dK kvs)) : Step g σ F H env F' (upd H' a (.frz o (.dK kvs))) env' := by
  have x : Ext (fun _ => False) F' H' F' (upd H' a (.frz o (.dK kvs))) := ⟨fun b u e _ => by
      by_cases z : b = a
      · subst z; rw [h] at e; cases e
        exact .inr ⟨f, kvs, o, rfl, upd_same⟩
      · exact .inl (by rw [upd_ne z]; exact e), fun b e => by
      by_cases z : b = a
      · subst z; rw [upd_same] at e; cases e
      · rw [upd_ne z] at e; exact e, fun _ e => e, fun _ e => .inl e⟩
  exact ⟨s.rel.go x (fun _ z => z.elim) (fun b q => ⟨fun z => z, (s.rel.wk b q).1⟩) fun b f z => s.rel.trk b f (x.stay b z), s.ext.trans x fun _ z => z.elim, s.sub, s.live, s.ownk⟩
theorem frK_same : ∀ {kvs : List (Key × D)} {ws : List (Key × V)}, FrK g F H kvs ws → (kvs.map fun kv => kD kv.1) = ws.map fun kv => kD kv.1
  | [], ws, h => by rw [FrK] at h; subst h; rfl
  | (k, d) :: r, ws, h => by
    rw [FrK] at h
    obtain ⟨x, s, rfl, _, h2⟩ := h
    simp only [List.map_cons]
    rw [frK_same h2]
theorem sndI_seq {te : TE} {me : Ev → Out Rv} {m : Ev → Out (List D)} (h : SndE g te me) (hm : ∀ env, m env = (me env).bind fun r e1 => lift (itemsD r.2) e1) : SndI g (iSeq g.K te) m := by
  intro F H env σ R ds env' Rl e q
  rw [hm] at e
  obtain ⟨r, e1, h1, e⟩ := bind_ok e
  obtain ⟨h2, rfl⟩ := lift_ok e
  obtain ⟨o, d⟩ := r
  cases d <;> first | (cases h2; done) | skip
  · cases h2
    refine .inr (.inr (.inr ?_))
    refine h.frz Rl h1 fun F1 H1 v s1 f1 => ?_
    rw [Fr] at f1
    exact ⟨_, f1, q F1 H1 _ _ s1 trivial walk_str⟩
  · cases h2
    refine .inl ?_
    refine h.frz Rl h1 fun F1 H1 v s1 f1 => ?_
    rw [Fr] at f1
    obtain ⟨a, xs, rfl, f, hl, hf⟩ := f1
    exact ⟨a, rfl, ⟨xs, SqL.of hl⟩, q F1 H1 _ _ s1 ⟨xs, f, hl, hf⟩ walk_list⟩
  · cases h2
    refine .inr (.inl ?_)
    refine h.frz Rl h1 fun F1 H1 v s1 f1 => ?_
    rw [Fr] at f1
    obtain ⟨a, xs, rfl, hl, hf⟩ := f1
    exact ⟨a, rfl, ⟨xs, hl⟩, q F1 H1 _ _ s1 ⟨hl, hf⟩ walk_tup⟩
  · rename_i kvs
    refine .inr (.inr (.inl ?_))
    refine h.frz Rl h1 fun F1 H1 v s1 f1 => ?_
    rw [Fr] at f1
    obtain ⟨a, ws, rfl, f, hl, hf⟩ := f1
    have ed : ds = ws.map fun kv => kD kv.1 := by
      have h2' : some (kvs.map fun kv => kD kv.1) = some ds := h2
      rw [← frK_same hf]
      exact (Option.some.inj h2').symm
    subst ed
    rcases hl with hl | ⟨o, hl⟩
    · exact ⟨a, ws, rfl, .inl ⟨hl, fun o => q F1 _ _ _ (s1.lock Rl f hl) upd_same walk_keys⟩⟩
    · exact ⟨a, ws, rfl, .inr ⟨o, hl, q F1 _ _ _ s1 hl walk_keys⟩⟩
  · cases h2
    refine .inl ?_
    refine h.frz Rl h1 fun F1 H1 v s1 f1 => ?_
    have f2 := f1
    rw [Fr] at f2
    obtain ⟨a, rfl, _⟩ := f2
    obtain ⟨b, eb, hl⟩ := bor_scr f1.bor
    cases eb
    exact ⟨a, rfl, ⟨_, hl⟩, q F1 H1 _ _ s1 f1 walk_scr⟩
theorem sndI_rng1 {te : TE} {me : Ev → Out Rv} {m : Ev → Out (List D)} (h : SndE g te me) (hm : ∀ env, m env = (me env).bind fun r e1 => match r.2 with
    | .int n => if rngOk n then .ok (rngD 0 n.toNat) e1 else .stuck
    | _ => .stuck) : SndI g (iRng1 (tCons te tNil)) m := by
  intro F H env σ R ds env' Rl e q
  rw [hm] at e
  obtain ⟨r, e1, h1, e⟩ := bind_ok e
  obtain ⟨o, d⟩ := r
  cases d <;> first | (cases e; done) | skip
  simp only at e
  split at e
  · rename_i i hr
    cases e
    refine h.frz Rl h1 fun F1 H1 v s1 f1 => ?_
    rw [Fr] at f1
    subst f1
    unfold rngOk at hr
    simp only [Bool.and_eq_true, decide_eq_true_eq] at hr
    exact ⟨i, rfl, hr.1, hr.2, q F1 H1 _ _ s1 trivial walk_rng⟩
  · cases e
theorem sndI_rng2 {ta tb : TE} {ma mb : Ev → Out Rv} {m : Ev → Out (List D)} (ha : SndE g ta ma) (hb : SndE g tb mb) (hm : ∀ env, m env = (ma env).bind fun r e1 => (mb e1).bind fun r' e2 => match r.2, r'.2 with
    | .int i, .int j => if rngOk i && rngOk j then .ok (rngD i (j - i).toNat) e2 else .stuck
    | _, _ => .stuck) : SndI g (iRng2 (tCons ta (tCons tb tNil))) m := by
  intro F H env σ R ds env' Rl e q
  rw [hm] at e
  obtain ⟨r, e1, h1, e⟩ := bind_ok e
  obtain ⟨r', e2, h2, e⟩ := bind_ok e
  obtain ⟨o, d⟩ := r
  obtain ⟨o', d'⟩ := r'
  cases d <;> first | (cases e; done) | skip
  cases d' <;> first | (cases e; done) | skip
  simp only at e
  split at e
  · rename_i hr
    cases e
    refine ha.frz Rl h1 fun F1 H1 v s1 f1 => ?_
    refine hb.frz s1.rel h2 fun F2 H2 v' s2 f2 => ?_
    rw [Fr] at f1 f2
    subst f1; subst f2
    unfold rngOk at hr
    simp only [Bool.and_eq_true, decide_eq_true_eq] at hr
    exact ⟨_, _, rfl, ⟨hr.1.1, hr.1.2, hr.2.1, hr.2.2⟩, q F2 H2 _ _ (s1.trans s2) trivial walk_rng⟩
  · cases e
def iEnumA (K : PySem.W.Frag) (te : TE) : TI := fun σ H R => te σ H fun x H1 => ∃ a xs, x = .ref a ∧ ((SqL K H1 a xs ∧ R (Ite K a) H1) ∨ (SqT K H1 a xs ∧ R (IteT K a) H1))
theorem sndI_enum {te : TE} {me : Ev → Out Rv} {m : Ev → Out (List D)} (h : SndE g te me) (hm : ∀ env, m env = (me env).bind fun r e1 => match seqD r.2 with
    | some xs => .ok (enumD 0 xs) e1
    | none => .stuck) : SndI g (iEnumA g.K te) m := by
  intro F H env σ R ds env' Rl e q
  rw [hm] at e
  obtain ⟨r, e1, h1, e⟩ := bind_ok e
  obtain ⟨o, d⟩ := r
  cases d <;> first | (cases e; done) | skip
  · simp only [seqD] at e
    cases e
    refine h.frz Rl h1 fun F1 H1 v s1 f1 => ?_
    rw [Fr] at f1
    obtain ⟨a, xs, rfl, f, hl, hf⟩ := f1
    exact ⟨a, xs, rfl, .inl ⟨SqL.of hl, q F1 H1 _ _ s1 ⟨xs, f, hl, hf⟩ walk_enum⟩⟩
  · simp only [seqD] at e
    cases e
    refine h.frz Rl h1 fun F1 H1 v s1 f1 => ?_
    rw [Fr] at f1
    obtain ⟨a, xs, rfl, hl, hf⟩ := f1
    exact ⟨a, xs, rfl, .inr ⟨hl, q F1 H1 _ _ s1 ⟨hl, hf⟩ walk_enumT⟩⟩
theorem sndI_zip {ta tb : TE} {ma mb : Ev → Out Rv} {m : Ev → Out (List D)} (ha : SndE g ta ma) (hb : SndE g tb mb) (hm : ∀ env, m env = (ma env).bind fun r e1 => (mb e1).bind fun r' e2 => match r.2, r'.2 with
    | .lst xs, .lst ys => .ok (zipD xs ys) e2
    | .tup xs, .tup ys => .ok (zipD xs ys) e2
    | _, _ => .stuck) : SndI g (iZipA g.K (tCons ta (tCons tb tNil))) m := by
  intro F H env σ R ds env' Rl e q
  rw [hm] at e
  obtain ⟨r, e1, h1, e⟩ := bind_ok e
  obtain ⟨r', e2, h2, e⟩ := bind_ok e
  obtain ⟨o, d⟩ := r
  obtain ⟨o', d'⟩ := r'
  cases d <;> first | (cases e; done) | skip
  all_goals (cases d' <;> first | (cases e; done) | skip)
  · simp only at e
    cases e
    refine ha.frz Rl h1 fun F1 H1 v s1 f1 => ?_
    refine hb.frz s1.rel h2 fun F2 H2 v' s2 f2 => ?_
    have f1 := s2.fr s1.rel f1
    rw [Fr] at f1 f2
    obtain ⟨a, xs, rfl, f, hl, hf⟩ := f1
    obtain ⟨b, ys, rfl, f', hl', hf'⟩ := f2
    exact ⟨a, b, xs, ys, rfl, .inl ⟨SqL.of hl, SqL.of hl', q F2 H2 _ _ (s1.trans s2) ⟨⟨xs, f, hl, hf⟩, ys, f', hl', hf'⟩ walk_zip⟩⟩
  · simp only at e
    cases e
    refine ha.frz Rl h1 fun F1 H1 v s1 f1 => ?_
    refine hb.frz s1.rel h2 fun F2 H2 v' s2 f2 => ?_
    have f1 := s2.fr s1.rel f1
    rw [Fr] at f1 f2
    obtain ⟨a, xs, rfl, hl, hf⟩ := f1
    obtain ⟨b, ys, rfl, hl', hf'⟩ := f2
    exact ⟨a, b, xs, ys, rfl, .inr ⟨hl, hl', q F2 H2 _ _ (s1.trans s2) ⟨⟨hl, hf⟩, hl', hf'⟩ walk_zipT⟩⟩
end
end Ev
/-! Snd8: targets, comprehensions. -/
namespace Ev
open PySem L2 RZ

def gNames : List Nat → TGs
  | [] => gNil
  | i :: r => gCons (gName i) (gNames r)
def denTg (K : PySem.W.Frag) (tg : List Nat) (one : Bool) : TG :=
  match one, tg with
  | true, [i] => gName i
  | _, is => gTup K is.length (gNames is)
section
variable {g : Gx} {F F' F0 F1 : Addr → Prop} {H H' H0 H1 : Hp} {env env' env0 env1 : Ev} {σ σ' : L2.St}
theorem set_get {α : Type} {l : List α} {i j : Nat} {x : α} (h : i < l.length) : (l.set i x)[j]? = if i = j then some x else l[j]? := by
  by_cases e : i = j
  · subst e; rw [List.getElem?_set_self h, if_pos rfl]
  · rw [List.getElem?_set_ne e, if_neg e]
theorem Rel.assign (R : Rel g F H env σ) {i : Nat} {r : Rv} {x : V} (hi : i < env.length) (sl : Sl g F H r x) (na : r.1 = true → ∀ a, x = .ref a → ¬ OwnAt env σ a) : Rel g F H (env.set i (some r)) (σ.set i (some x)) := by
  have hσ : i < σ.length := by rw [← R.len]; exact hi
  refine ⟨by simpa using R.len, fun j r' h => ?_, fun j k d d' a h1 h2 h3 h4 => ?_, R.trk⟩
  · rw [getS_set hi] at h
    rw [set_get hσ]
    split at h
    · rename_i e
      cases h
      rw [if_pos e]
      exact ⟨x, rfl, sl⟩
    · rename_i e
      rw [if_neg e]
      exact R.slot j r' h
  · rw [getS_set hi] at h1 h2
    rw [set_get hσ] at h3 h4
    split at h1
    · rename_i e1
      split at h2
      · rename_i e2
        omega
      · rename_i e2
        rw [if_pos e1] at h3
        rw [if_neg e2] at h4
        cases h1; cases h3
        exact absurd ⟨k, d', h2, h4⟩ (na rfl a rfl)
    · rename_i e1
      split at h2
      · rename_i e2
        rw [if_neg e1] at h3
        rw [if_pos e2] at h4
        cases h2; cases h4
        exact absurd ⟨j, d, h1, h3⟩ (na rfl a rfl)
      · rename_i e2
        rw [if_neg e1] at h3
        rw [if_neg e2] at h4
        exact R.inj j k d d' a h1 h2 h3 h4
/-- behind a target -/
structure TgF (keep : Nat) (tg : List Nat) (env env2 : Ev) (σ σ2 : L2.St) : Prop where
  len : σ2.length = σ.length
  out : ∀ i, i ∉ tg → σ2[i]? = σ[i]? ∧ getS env2 i = getS env i
  mem : ∀ i, i ∈ tg → keep ≤ i ∧ ∃ d, getS env2 i = some (false, d)
theorem putE_ok {keep i : Nat} {r : Rv} {env env2 : Ev} (h : putE keep i r env = some env2) : keep ≤ i ∧ i < env.length ∧ env2 = env.set i (some r) := by
  unfold putE at h
  split at h
  · rename_i c
    cases h
    exact ⟨c.1, c.2, rfl⟩
  · cases h
theorem tg_one {keep i : Nat} {d : D} {x : V} {env2 : Ev} (h : putE keep i (fz d) env = some env2) (R : Rel g F H env σ) (f : Fr g F H d x) : Rel g F H env2 (σ.set i (some x)) ∧ TgF keep [i] env env2 σ (σ.set i (some x)) := by
  obtain ⟨hk, hi, rfl⟩ := putE_ok h
  have hσ : i < σ.length := by rw [← R.len]; exact hi
  refine ⟨R.assign hi (sl_fz.mpr f) (fun z => by cases z), by simp, fun j hj => ?_, fun j hj => ?_⟩
  · have ne : i ≠ j := fun e => hj (by simp [e])
    exact ⟨by rw [List.getElem?_set_ne ne], getS_set_ne ne⟩
  · have e : j = i := by simpa using hj
    subst e
    exact ⟨hk, d, getS_set_self hi⟩
theorem tg_all {keep : Nat} : ∀ {is : List Nat} {ds : List D} {xs : List V} {env env2 : Ev} {σ : L2.St} {Q : L2.St → Hp → Prop}, putAll keep is ds env = some env2 → Rel g F H env σ → FrL g F H ds xs →
    (∀ σ2, Rel g F H env2 σ2 → TgF keep is env env2 σ σ2 → Q σ2 H) → xs.length = is.length ∧ gNames is xs σ H Q
  | [], [], xs, env, env2, σ, Q, h, R, f, q => by
    rw [FrL] at f
    subst f
    rw [putAll] at h
    cases h
    exact ⟨rfl, rfl, q σ R ⟨rfl, fun _ _ => ⟨rfl, rfl⟩, fun i hi => by simp at hi⟩⟩
  | i :: is, d :: ds, xs, env, env2, σ, Q, h, R, f, q => by
    rw [FrL] at f
    obtain ⟨x, r, rfl, f1, f2⟩ := f
    rw [putAll] at h
    cases hp : putE keep i (fz d) env with
    | none => rw [hp] at h; cases h
    | some e1 =>
      rw [hp] at h
      obtain ⟨R1, T1⟩ := tg_one hp R f1
      have := tg_all (Q := Q) h R1 f2 fun σ2 R2 T2 => q σ2 R2 ⟨by rw [T2.len, T1.len], fun j hj => ?_, fun j hj => ?_⟩
      · exact ⟨by simp [this.1], x, r, rfl, this.2⟩
      · have h1 : j ∉ [i] := fun z => hj (by simp at z; simp [z])
        have h2 : j ∉ is := fun z => hj (List.mem_cons_of_mem _ z)
        exact ⟨(T2.out j h2).1.trans (T1.out j h1).1, (T2.out j h2).2.trans (T1.out j h1).2⟩
      · by_cases h2 : j ∈ is
        · exact T2.mem j h2
        · have h1 : j ∈ [i] := by
            rcases List.mem_cons.mp hj with z | z
            · simp [z]
            · exact absurd z h2
          obtain ⟨k, d', e⟩ := T1.mem j h1
          exact ⟨k, d', by rw [(T2.out j h2).2]; exact e⟩
  | [], _ :: _, xs, env, env2, σ, Q, h, R, f, q => by rw [putAll] at h; cases h; all_goals (intros; simp_all)
  | _ :: _, [], xs, env, env2, σ, Q, h, R, f, q => by rw [putAll] at h; cases h; all_goals (intros; simp_all)
theorem tg_ok {keep : Nat} {tg : List Nat} {one : Bool} {d : D} {x : V} {env2 : Ev} {Q : L2.St → Hp → Prop} (h : target keep tg one d env = some env2) (R : Rel g F H env σ) (f : Fr g F H d x)
    (q : ∀ σ2, Rel g F H env2 σ2 → TgF keep tg env env2 σ σ2 → Q σ2 H) : denTg g.K tg one x σ H Q := by
  unfold target at h
  split at h
  · rename_i i
    obtain ⟨R1, T1⟩ := tg_one h R f
    exact q _ R1 T1
  · split at h
    · rename_i ds
      rw [Fr] at f
      obtain ⟨a, xs, rfl, h1, h2⟩ := f
      obtain ⟨hl, hq⟩ := tg_all h R h2 q
      exact ⟨a, xs, rfl, h1, hl, hq⟩
    · cases h
  · cases h

/-! ### a comprehension's block -/
theorem wipeE_len (env : Ev) : ∀ own : List Nat, (wipeE env own).length = env.length
  | [] => rfl
  | i :: r => by rw [wipeE, List.length_set, wipeE_len env r]
theorem getS_none {env : Ev} {i : Nat} (h : ¬ i < env.length) : getS env i = none := by
  unfold getS
  rw [List.getElem?_eq_none (by omega)]
  rfl
theorem getS_wipe (env : Ev) (i : Nat) : ∀ own : List Nat, getS (wipeE env own) i = if i ∈ own then none else getS env i
  | [] => by simp [wipeE]
  | j :: r => by
    rw [wipeE]
    by_cases hj : j < (wipeE env r).length
    · rw [getS_set hj]
      by_cases e : j = i
      · subst e; simp
      · rw [if_neg e, getS_wipe env i r]
        have : i ≠ j := fun z => e z.symm
        simp [this]
    · rw [List.set_eq_of_length_le (by omega), getS_wipe env i r]
      by_cases e : i = j
      · subst e
        have hn : getS env i = none := getS_none (by rw [wipeE_len] at hj; exact hj)
        simp [hn]
      · simp [e]
theorem restE_len (env old : Ev) : ∀ own : List Nat, (restE env old own).length = env.length
  | [] => rfl
  | i :: r => by rw [restE, List.length_set, restE_len env old r]
theorem getS_rest (env old : Ev) (hl : env.length = old.length) (i : Nat) : ∀ own : List Nat, getS (restE env old own) i = if i ∈ own then getS old i else getS env i
  | [] => by simp [restE]
  | j :: r => by
    rw [restE]
    by_cases hj : j < (restE env old r).length
    · rw [getS_set hj]
      by_cases e : j = i
      · subst e; simp
      · rw [if_neg e, getS_rest env old hl i r]
        have : i ≠ j := fun z => e z.symm
        simp [this]
    · rw [List.set_eq_of_length_le (by omega), getS_rest env old hl i r]
      by_cases e : i = j
      · subst e
        rw [restE_len] at hj
        have hn : getS env i = none := getS_none hj
        have hn' : getS old i = none := getS_none (by rw [← hl]; exact hj)
        simp [hn, hn']
      · simp [e]
theorem wipe_in {σ : L2.St} {i : Nat} : ∀ {own : List Nat}, i ∈ own → i < σ.length → (wipe σ own)[i]? = some none
  | [], h, _ => by simp at h
  | j :: r, h, hi => by
    unfold wipe
    by_cases e : j = i
    · subst e
      rw [List.getElem?_set_self (by rw [wipe_length]; exact hi)]
    · rw [List.getElem?_set_ne e]
      rcases List.mem_cons.mp h with z | z
      · exact absurd z.symm e
      · exact wipe_in z hi
theorem wipe_congr {σ σ2 : L2.St} {own : List Nat} (hl : σ2.length = σ.length) (h : ∀ i, i ∉ own → σ2[i]? = σ[i]?) : wipe σ2 own = wipe σ own := by
  apply List.ext_getElem?
  intro i
  by_cases hi : i ∈ own
  · by_cases hi2 : i < σ.length
    · rw [wipe_in hi hi2, wipe_in hi (by rw [hl]; exact hi2)]
    · rw [List.getElem?_eq_none (by rw [wipe_length]; omega), List.getElem?_eq_none (by rw [wipe_length]; omega)]
  · rw [wipe_out hi, wipe_out hi, h i hi]
theorem Rel.wipe (R : Rel g F H env σ) (own : List Nat) : Rel g F H (wipeE env own) (L2.wipe σ own) := by
  have one : ∀ i r, getS (wipeE env own) i = some r → i ∉ own ∧ getS env i = some r := fun i r h => by
    rw [getS_wipe] at h
    split at h
    · cases h
    · exact ⟨by assumption, h⟩
  refine ⟨by rw [wipeE_len, wipe_length]; exact R.len, fun i r h => ?_, fun i j d d' a h1 h2 h3 h4 => ?_, R.trk⟩
  · obtain ⟨n, h⟩ := one i r h
    obtain ⟨v, e, s⟩ := R.slot i r h
    exact ⟨v, by rw [wipe_out n]; exact e, s⟩
  · obtain ⟨n1, h1⟩ := one i _ h1
    obtain ⟨n2, h2⟩ := one j _ h2
    rw [wipe_out n1] at h3
    rw [wipe_out n2] at h4
    exact R.inj i j d d' a h1 h2 h3 h4
theorem ownAt_wipe {own : List Nat} {a : Addr} (h : OwnAt (wipeE env own) (wipe σ own) a) : ∃ i d, i ∉ own ∧ getS env i = some (true, d) ∧ σ[i]? = some (some (.ref a)) := by
  obtain ⟨i, d, h1, h2⟩ := h
  rw [getS_wipe] at h1
  split at h1
  · cases h1
  · rename_i n
    rw [wipe_out n] at h2
    exact ⟨i, d, n, h1, h2⟩
theorem Step.unblock {own : List Nat} {en : Ev} (R : Rel g F H env σ) (s : Step g (L2.wipe σ own) F H (wipeE env own) F' H' en) : Step g σ F H env F' H' (restE en env own) := by
  have hl : en.length = env.length := by rw [s.rel.len, wipe_length, R.len]
  have gr : ∀ i, getS (restE en env own) i = if i ∈ own then getS env i else getS en i := fun i => getS_rest en env hl i own
  have w0 : ∀ a, OwnAt (wipeE env own) (L2.wipe σ own) a → OwnAt env σ a := fun a h => by
    obtain ⟨i, d, _, h1, h2⟩ := ownAt_wipe h
    exact ⟨i, d, h1, h2⟩
  -- what a shadowed name owns is not touched
  have shadow : ∀ i d a, i ∈ own → getS env i = some (true, d) → σ[i]? = some (some (.ref a)) → ¬ OwnAt (wipeE env own) (L2.wipe σ own) a := fun i d a hi h1 h2 h => by
    obtain ⟨j, d', nj, h3, h4⟩ := ownAt_wipe h
    have e := R.inj i j d d' a h1 h3 h2 h4
    subst e
    exact nj hi
  have wk := (R.wipe own).wk
  have nf : ∀ a, ¬ F a → ¬ OwnAt (wipeE env own) (L2.wipe σ own) a → H a ≠ none → ¬ F' a := fun a h1 h2 h3 z => by
    rcases s.ext.new a z with q | q | q
    · exact h1 q
    · exact h2 q
    · exact h3 q
  refine ⟨⟨by rw [restE_len, hl]; exact R.len, fun i r h => ?_, fun i j d d' a h1 h2 h3 h4 => ?_, s.rel.trk⟩, s.ext.wider fun a h => .inl (w0 a h), fun a ⟨i, d, h1, h2⟩ => ?_, fun i r h => ?_, fun i d a h1 h2 => ?_⟩
  · rw [gr] at h
    split at h
    · rename_i hi
      obtain ⟨o, d⟩ := r
      cases o with
      | false =>
        obtain ⟨v, e, f⟩ := R.fz h
        exact ⟨v, e, sl_fz.mpr (f.ext s.ext wk)⟩
      | true =>
        obtain ⟨a, e, f, oa⟩ := R.own h
        have sh := shadow i d a hi h e
        exact ⟨_, e, sl_ow.mpr (f.ext s.ext wk sh (nf a (R.wk a oa).1 sh (R.ownTrk oa)))⟩
    · rename_i hi
      obtain ⟨v, e, f⟩ := s.rel.slot i r h
      rw [wipe_out hi] at e
      exact ⟨v, e, f⟩
  · have key : ∀ i j d d' a, i ∈ own → j ∉ own → getS env i = some (true, d) → getS en j = some (true, d') → σ[i]? = some (some (.ref a)) → σ[j]? = some (some (.ref a)) → False := fun i j d d' a hi hj h1 h2 h3 h4 =>
      shadow i d a hi h1 h3 (s.sub a ⟨j, d', h2, by rw [wipe_out hj]; exact h4⟩)
    rw [gr] at h1 h2
    split at h1
    · rename_i hi
      split at h2
      · exact R.inj i j d d' a h1 h2 h3 h4
      · rename_i hj
        exact (key i j d d' a hi hj h1 h2 h3 h4).elim
    · rename_i hi
      split at h2
      · rename_i hj
        exact (key j i d' d a hj hi h2 h1 h4 h3).elim
      · rename_i hj
        exact s.rel.inj i j d d' a h1 h2 (by rw [wipe_out hi]; exact h3) (by rw [wipe_out hj]; exact h4)
  · rw [gr] at h1
    split at h1
    · exact ⟨i, d, h1, h2⟩
    · rename_i hi
      exact w0 a (s.sub a ⟨i, d, h1, by rw [wipe_out hi]; exact h2⟩)
  · rw [gr]
    split
    · exact ⟨r, h⟩
    · rename_i hi
      exact s.live i r (by rw [getS_wipe, if_neg hi]; exact h)
  · rw [gr]
    split
    · exact .inl ⟨d, h1⟩
    · rename_i hi
      exact s.ownk i d a (by rw [getS_wipe, if_neg hi]; exact h1) (by rw [wipe_out hi]; exact h2)
theorem Step.turn {own tg : List Nat} {keep : Nat} {en env2 env3 : Ev} {σw σ2 : L2.St} {F3 : Addr → Prop} {H3 : Hp} (R : Rel g F H en σw) (hw : ∀ i, i ∈ own → getS en i = none) (n : New H H') (T : TgF keep tg en env2 σw σ2) (ht : ∀ i, i ∈ tg → i ∈ own)
    (s : Step g σ2 F H' env2 F3 H3 env3) (hσ : L2.wipe σ2 own = σw) : Step g σw F H en F3 H3 (wipeE env3 own) := by
  have off : ∀ i, i ∉ own → i ∉ tg := fun i h z => h (ht i z)
  have w2 : ∀ a, OwnAt env2 σ2 a → OwnAt en σw a := fun a ⟨i, d, h1, h2⟩ => by
    by_cases hi : i ∈ tg
    · obtain ⟨_, d', e⟩ := T.mem i hi
      rw [h1] at e; cases e
    · obtain ⟨e1, e2⟩ := T.out i hi
      exact ⟨i, d, by rw [← e2]; exact h1, by rw [← e1]; exact h2⟩
  have inown : ∀ i r, getS en i = some r → i ∉ own := fun i r h z => by rw [hw i z] at h; cases h
  refine ⟨hσ ▸ s.rel.wipe own, n.ext.trans s.ext fun a h => .inl (w2 a h), fun a h => ?_, fun i r h => ?_, fun i d a h1 h2 => ?_⟩
  · rw [← hσ] at h
    obtain ⟨i, d, hi, h1, h2⟩ := ownAt_wipe h
    exact w2 a (s.sub a ⟨i, d, h1, h2⟩)
  · have hi := inown i r h
    obtain ⟨e1, e2⟩ := T.out i (off i hi)
    rw [getS_wipe, if_neg hi]
    exact s.live i r (by rw [e2]; exact h)
  · have hi := inown i _ h1
    obtain ⟨e1, e2⟩ := T.out i (off i hi)
    rw [getS_wipe, if_neg hi]
    exact s.ownk i d a (by rw [e2]; exact h1) (by rw [e1]; exact h2)
theorem wiped_wipe (env : Ev) (own : List Nat) : ∀ i, i ∈ own → getS (wipeE env own) i = none := fun i h => by rw [getS_wipe, if_pos h]
/-- what stands at a new address that no slot holds stands behind a step -/
theorem Step.stays (R : Rel g F H env σ) (s : Step g σ F H env F' H' env') {a : Addr} {o : HO} (h : H a = some o) (nf : ¬ F a) (no : ¬ OwnAt env σ a) : H' a = some o ∧ ¬ F' a := by
  refine ⟨?_, fun z => ?_⟩
  · rcases s.ext.keep a o h no with q | ⟨q, _⟩
    · exact q
    · exact absurd q nf
  · rcases s.ext.new a z with q | q | q
    · exact nf q
    · exact no q
    · rw [h] at q; cases q
def compFn (keep : Nat) (tg : List Nat) (one : Bool) (own : List Nat) (mt : Ev → Out Bool) (me : Ev → Out Rv) (d : D) (en : Ev) : Out (Option D) :=
  match target keep tg one d en with
  | none => .stuck
  | some en1 => (mt en1).bind fun t en2 => if t then (me en2).bind fun r en3 => .ok (some r.2) (wipeE en3 own) else .ok none (wipeE en2 own)
theorem snd_comp {wi : TI} {mi : Ev → Out (List D)} {tg own : List Nat} {one : Bool} {keep : Nat} {tt : TT} {mt : Ev → Out Bool} {te : TE} {me m : Ev → Out Rv} (hi : SndI g wi mi) (ht : SndC g tt mt) (he : SndE g te me)
    (hm : ∀ env, m env = (mi env).bind fun items e1 => if items.length ≤ sizeLine ∧ tg.all own.contains = true then (compLoop (compFn keep tg one own mt me) items (wipeE e1 own)).bind fun r e2 => .ok (ow (.lst r)) (restE e2 e1 own) else .stuck) :
    SndE g (tLc wi (denTg g.K tg one) tt te own) m := by
  intro F H env σ Q r env' R e q
  rw [hm] at e
  obtain ⟨items, e1, h1, e⟩ := bind_ok e
  split at e
  · rename_i hc
    obtain ⟨rs, e2, h2, e⟩ := bind_ok e
    cases e
    have htg : ∀ i, i ∈ tg → i ∈ own := fun i hi => by
      have := List.all_eq_true.mp hc.2 i hi
      simpa using this
    refine hi F H env σ _ items e1 R h1 fun F1 H1 J S s1 hS wk => ?_
    intro D hD
    have R1 := s1.rel
    have Rw := R1.wipe own
    refine ⟨fun i m Hc => ∃ (Fc : Addr → Prop) (en : Ev) (acc : List Ev.D) (accV : List V) (rest : List Ev.D), Step g (wipe σ own) F1 H1 (wipeE e1 own) Fc Hc en ∧ (∀ i, i ∈ own → getS en i = none) ∧ S Fc Hc ∧ Hc D = some (.lst accV) ∧ ¬ Fc D ∧ FrL g Fc Hc acc accV ∧
      compLoop (compFn keep tg one own mt me) (items.drop i) en = .ok rest e2 ∧ acc ++ rest = rs ∧ acc.length ≤ i ∧ i ≤ items.length ∧ m = items.length - i, ?_, ?_⟩
    · refine ⟨items.length, F1, wipeE e1 own, [], [], rs, .new Rw (New.upd hD), wiped_wipe e1 own, wk.stab (fun _ => False) F1 H1 F1 _ (New.upd hD).ext (fun _ z => z.elim) hS, upd_same, fun z => R1.trk D z hD, FrL.nil, h2, rfl, Nat.zero_le _, Nat.zero_le _, by simp⟩
    · rintro i m Hc ⟨Fc, en, acc, accV, rest, sc, hw, hSc, hDc, nfD, fa, hl, er, hai, hil, rfl⟩
      have nD : ¬ OwnAt en (wipe σ own) D := fun z => Rw.ownTrk (sc.sub D z) hD
      by_cases hlt : i < items.length
      · refine .inr ⟨wk.go Fc Hc i items[i] hSc (List.getElem?_eq_getElem hlt), fun H' => ∃ m', m' < items.length - i ∧ ∃ (Fc : Addr → Prop) (en : Ev) (acc : List Ev.D) (accV : List V) (rest : List Ev.D), Step g (wipe σ own) F1 H1 (wipeE e1 own) Fc H' en ∧ (∀ i, i ∈ own → getS en i = none) ∧ S Fc H' ∧ H' D = some (.lst accV) ∧ ¬ Fc D ∧ FrL g Fc H' acc accV ∧
          compLoop (compFn keep tg one own mt me) (items.drop (i + 1)) en = .ok rest e2 ∧ acc ++ rest = rs ∧ acc.length ≤ i + 1 ∧ i + 1 ≤ items.length ∧ m' = items.length - (i + 1), fun H' h => h, fun x H' hy => ?_⟩
        obtain ⟨nw, fx⟩ := wk.yld Fc Hc i items[i] x H' hSc (List.getElem?_eq_getElem hlt) hy
        rw [List.drop_eq_getElem_cons hlt, compLoop] at hl
        obtain ⟨o, en1, k1, hl1⟩ := bind_ok hl
        obtain ⟨rest', en2, k2, hl2⟩ := bind_ok hl1
        clear hl1 hl
        have er2 : en2 = e2 := by cases hl2; rfl
        subst er2
        unfold compFn at k1
        cases k3 : target keep tg one items[i] en with
        | none => rw [k3] at k1; cases k1
        | some env2 =>
          rw [k3] at k1
          simp only at k1
          obtain ⟨t, en3, k4, k1⟩ := bind_ok k1
          refine tg_ok k3 (sc.rel.new nw) fx fun σ2 R2 T => ⟨?_, ?_⟩
          · rw [wipe_congr (σ := wipe σ own) T.len fun j hj => (T.out j fun z => hj (htg j z)).1]
            exact wipe_congr (wipe_length _ _) fun j hj => wipe_out hj
          · have hσ : wipe σ2 own = wipe σ own := by
              rw [wipe_congr (σ := wipe σ own) T.len fun j hj => (T.out j fun z => hj (htg j z)).1]
              exact wipe_congr (wipe_length _ _) fun j hj => wipe_out hj
            have S1 : S Fc H' := wk.stab (fun _ => False) Fc Hc Fc H' nw.ext (fun _ z => z.elim) hSc
            have nD2 : ¬ OwnAt env2 σ2 D := fun z => by
              obtain ⟨j, d, q1, q2⟩ := z
              by_cases hj : j ∈ tg
              · obtain ⟨_, d', q3⟩ := T.mem j hj
                rw [q1] at q3; cases q3
              · obtain ⟨q3, q4⟩ := T.out j hj
                exact nD ⟨j, d, by rw [← q4]; exact q1, by rw [← q3]; exact q2⟩
            have hD1 : H' D = some (.lst accV) := nw _ _ hDc
            refine ht Fc H' env2 σ2 _ t en3 R2 k4 fun F3 H3 s3 => ?_
            have S3 := wk.stab _ _ _ _ _ s3.ext R2.wk S1
            obtain ⟨hD3, nf3⟩ := s3.stays R2 hD1 nfD nD2
            have fa3 : FrL g F3 H3 acc accV := s3.frL R2 (fa.new nw)
            cases t with
            | false =>
              rw [if_neg (by decide)] at k1 ⊢
              cases k1
              have er3 : rest = rest' := by cases hl2; rfl
              subst er3
              have tn := Step.turn sc.rel hw nw T htg s3 hσ
              exact ⟨items.length - (i + 1), by omega, F3, _, acc, accV, rest, sc.trans tn, wiped_wipe _ own, S3, hD3, nf3, fa3, k2, er, by omega, hlt, rfl⟩
            | true =>
              rw [if_pos rfl] at k1 ⊢
              obtain ⟨y, en4, k5, k1⟩ := bind_ok k1
              cases k1
              have er3 : rest = y.2 :: rest' := by cases hl2; rfl
              subst er3
              refine he.frz s3.rel k5 fun F4 H4 v s4 f4 => ?_
              have S4 := wk.stab _ _ _ _ _ s4.ext s3.rel.wk S3
              have nD3 : ¬ OwnAt en3 σ2 D := fun z => nD2 (s3.sub D z)
              obtain ⟨hD4, nf4⟩ := s4.stays s3.rel hD3 nf3 nD3
              have fa4 : FrL g F4 H4 acc accV := s4.frL s3.rel fa3
              have s34 := s3.trans s4
              have tn := Step.turn sc.rel hw nw T htg s34 hσ
              have sn := sc.trans tn
              have ho : (∃ xs, H4 D = some (.lst xs)) ∨ ∃ ws, H4 D = some (.dK ws) := .inl ⟨_, hD4⟩
              have xw : Ext (fun b => b = D) F4 H4 F4 (upd H4 D (.lst (accV ++ [v]))) := ⟨fun b u e n => .inl (by rw [upd_ne n]; exact e), fun b e => by
                by_cases z : b = D
                · subst z; rw [upd_same] at e; cases e
                · rw [upd_ne z] at e; exact e, fun _ e => e, fun _ e => .inl e⟩
              have hwk : Wk (fun b => b = D) F4 H4 := fun b e => by subst e; exact ⟨nf4, ho⟩
              refine ⟨accV, hD4, by rw [← fa4.length]; have := hc.1; omega, items.length - (i + 1), by omega, F4, _, acc ++ [y.2], accV ++ [v], rest', sn.put Rw hD nf4 ho, wiped_wipe _ own, wk.stab _ _ _ _ _ xw hwk S4, upd_same, nf4, ?_, k2, by rw [← er]; simp, by simp; omega, hlt, rfl⟩
              exact (fa4.app (.cons f4 .nil)).ext xw hwk
      · have ei : i = items.length := by omega
        subst ei
        rw [List.drop_length, compLoop] at hl
        have er1 : rest = [] ∧ en = e2 := by cases hl; exact ⟨rfl, rfl⟩
        obtain ⟨rfl, rfl⟩ := er1
        rw [List.append_nil] at er
        subst er
        refine .inl ⟨wk.stop Fc Hc hSc, q Fc Hc _ (s1.trans (sc.unblock R1)) (sl_ow.mpr ⟨D, accV, rfl, nfD, hDc, fa⟩) fun _ => ⟨D, rfl, s1.ext.stay D hD⟩⟩
  · cases e
end
end Ev
/-! Snd9: dict comprehensions, methods that write, statements, loops. -/
namespace Ev
open PySem L2 RZ
section
variable {g : Gx} {F F' F0 F1 : Addr → Prop} {H H' H0 H1 : Hp} {env env' env0 env1 : Ev} {σ σ' : L2.St}
theorem putD_length (kvs : List (Key × D)) (k : Key) (d : D) : (putD kvs k d).length ≤ kvs.length + 1 := by
  unfold putD
  split <;> simp
def dcompFn (keep : Nat) (tg : List Nat) (one : Bool) (own : List Nat) (mk mv : Ev → Out Rv) (d : D) (en : Ev) : Out (Key × D) :=
  match target keep tg one d en with
  | none => .stuck
  | some en1 => (mk en1).bind fun r en2 => (mv en2).bind fun r' en3 => match keyD r.2 with
    | some key => .ok (key, r'.2) (wipeE en3 own)
    | none => .stuck
theorem snd_dcomp {wi : TI} {mi : Ev → Out (List D)} {tg own : List Nat} {one : Bool} {keep : Nat} {tk tv : TE} {mk mv m : Ev → Out Rv} (hi : SndI g wi mi) (hk : SndE g tk mk) (hv : SndE g tv mv)
    (hm : ∀ env, m env = (mi env).bind fun items e1 => if items.length ≤ sizeLine ∧ tg.all own.contains = true then (dcompLoop (dcompFn keep tg one own mk mv) items [] (wipeE e1 own)).bind fun r e2 => .ok (ow (.dct r)) (restE e2 e1 own) else .stuck) :
    SndE g (tDc wi (denTg g.K tg one) tYes tk tv own) m := by
  intro F H env σ Q r env' R e q
  rw [hm] at e
  obtain ⟨items, e1, h1, e⟩ := bind_ok e
  split at e
  · rename_i hc
    obtain ⟨rs, e2, h2, e⟩ := bind_ok e
    cases e
    have htg : ∀ i, i ∈ tg → i ∈ own := fun i hi => by
      have := List.all_eq_true.mp hc.2 i hi
      simpa using this
    refine hi F H env σ _ items e1 R h1 fun F1 H1 J S s1 hS wk => ?_
    intro D hD
    have R1 := s1.rel
    have Rw := R1.wipe own
    refine ⟨fun i m Hc => ∃ (Fc : Addr → Prop) (en : Ev) (acc : List (Key × Ev.D)) (accV : List (Key × V)), Step g (wipe σ own) F1 H1 (wipeE e1 own) Fc Hc en ∧ (∀ i, i ∈ own → getS en i = none) ∧ S Fc Hc ∧ Hc D = some (.dK accV) ∧ ¬ Fc D ∧ FrK g Fc Hc acc accV ∧
      dcompLoop (dcompFn keep tg one own mk mv) (items.drop i) acc en = .ok rs e2 ∧ acc.length ≤ i ∧ i ≤ items.length ∧ m = items.length - i, ?_, ?_⟩
    · refine ⟨items.length, F1, wipeE e1 own, [], [], .new Rw (New.upd hD), wiped_wipe e1 own, wk.stab (fun _ => False) F1 H1 F1 _ (New.upd hD).ext (fun _ z => z.elim) hS, upd_same, fun z => R1.trk D z hD, frK_nil, h2, Nat.zero_le _, Nat.zero_le _, by simp⟩
    · rintro i m Hc ⟨Fc, en, acc, accV, sc, hw, hSc, hDc, nfD, fa, hl, hai, hil, rfl⟩
      have nD : ¬ OwnAt en (wipe σ own) D := fun z => Rw.ownTrk (sc.sub D z) hD
      by_cases hlt : i < items.length
      · refine .inr ⟨wk.go Fc Hc i items[i] hSc (List.getElem?_eq_getElem hlt), fun H' => ∃ m', m' < items.length - i ∧ ∃ (Fc : Addr → Prop) (en : Ev) (acc : List (Key × Ev.D)) (accV : List (Key × V)), Step g (wipe σ own) F1 H1 (wipeE e1 own) Fc H' en ∧ (∀ i, i ∈ own → getS en i = none) ∧ S Fc H' ∧ H' D = some (.dK accV) ∧ ¬ Fc D ∧ FrK g Fc H' acc accV ∧
          dcompLoop (dcompFn keep tg one own mk mv) (items.drop (i + 1)) acc en = .ok rs e2 ∧ acc.length ≤ i + 1 ∧ i + 1 ≤ items.length ∧ m' = items.length - (i + 1), fun H' h => h, fun x H' hy => ?_⟩
        obtain ⟨nw, fx⟩ := wk.yld Fc Hc i items[i] x H' hSc (List.getElem?_eq_getElem hlt) hy
        rw [List.drop_eq_getElem_cons hlt, dcompLoop] at hl
        obtain ⟨kd, en1, k1, hl1⟩ := bind_ok hl
        clear hl
        unfold dcompFn at k1
        cases k3 : target keep tg one items[i] en with
        | none => rw [k3] at k1; cases k1
        | some env2 =>
          rw [k3] at k1
          simp only at k1
          obtain ⟨rk, en3, k4, k5⟩ := bind_ok k1
          obtain ⟨rv, en4, k6, k7⟩ := bind_ok k5
          clear k1 k5
          refine tg_ok k3 (sc.rel.new nw) fx fun σ2 R2 T => ?_
          have hσ : wipe σ2 own = wipe σ own := by
            rw [wipe_congr (σ := wipe σ own) T.len fun j hj => (T.out j fun z => hj (htg j z)).1]
            exact wipe_congr (wipe_length _ _) fun j hj => wipe_out hj
          refine ⟨hσ.trans (wipe_congr rfl fun _ _ => rfl), ?_⟩
          dsimp only [tYes]
          rw [if_pos rfl]
          have S1 : S Fc H' := wk.stab (fun _ => False) Fc Hc Fc H' nw.ext (fun _ z => z.elim) hSc
          have nD2 : ¬ OwnAt env2 σ2 D := fun z => by
            obtain ⟨j, d, q1, q2⟩ := z
            by_cases hj : j ∈ tg
            · obtain ⟨_, d', q3⟩ := T.mem j hj
              rw [q1] at q3; cases q3
            · obtain ⟨q3, q4⟩ := T.out j hj
              exact nD ⟨j, d, by rw [← q4]; exact q1, by rw [← q3]; exact q2⟩
          have hD1 : H' D = some (.dK accV) := nw _ _ hDc
          refine hk.frz R2 k4 fun F3 H3 y s3 f3 => ?_
          refine hv.frz s3.rel k6 fun F4 H4 z s4 f4 => ?_
          have s34 := s3.trans s4
          have S4 := wk.stab _ _ _ _ _ s34.ext R2.wk S1
          obtain ⟨hD4, nf4⟩ := s34.stays R2 hD1 nfD nD2
          have fa4 : FrK g F4 H4 acc accV := s34.frK R2 (fa.new nw)
          cases k8 : keyD rk.2 with
          | none => rw [k8] at k7; cases k7
          | some key =>
            rw [k8] at k7
            simp only at k7
            cases k7
            have ek := keyD_kV f3.bor k8
            subst ek
            have tn := Step.turn sc.rel hw nw T htg s34 hσ
            have sn := sc.trans tn
            have ho : (∃ xs, H4 D = some (.lst xs)) ∨ ∃ ws, H4 D = some (.dK ws) := .inr ⟨_, hD4⟩
            have xw : Ext (fun b => b = D) F4 H4 F4 (upd H4 D (.dK (putK accV key z))) := ⟨fun b u e n => .inl (by rw [upd_ne n]; exact e), fun b e => by
              by_cases z : b = D
              · subst z; rw [upd_same] at e; cases e
              · rw [upd_ne z] at e; exact e, fun _ e => e, fun _ e => .inl e⟩
            have hwk : Wk (fun b => b = D) F4 H4 := fun b e => by subst e; exact ⟨nf4, ho⟩
            have hpl := putD_length acc key rv.2
            refine ⟨accV, key, rfl, hD4, by rw [← fa4.length]; have := hc.1; omega, items.length - (i + 1), by omega, F4, _, putD acc key rv.2, putK accV key z, sn.put Rw hD nf4 ho, wiped_wipe _ own, wk.stab _ _ _ _ _ xw hwk S4, upd_same, nf4, ?_, hl1, by omega, hlt, rfl⟩
            exact (frK_put f4 fa4).ext xw hwk
      · have ei : i = items.length := by omega
        subst ei
        rw [List.drop_length, dcompLoop] at hl
        have er1 : acc = rs ∧ en = e2 := by cases hl; exact ⟨rfl, rfl⟩
        obtain ⟨rfl, rfl⟩ := er1
        refine .inl ⟨wk.stop Fc Hc hSc, q Fc Hc _ (s1.trans (sc.unblock R1)) (sl_ow.mpr ⟨D, accV, rfl, nfD, hDc, fa⟩) fun _ => ⟨D, rfl, s1.ext.stay D hD⟩⟩
  · cases e

/-! ### methods that write -/
def rExtA (K : PySem.W.Frag) : V → List V → Hp → VK → Prop := fun x vs H Q => ∃ l b xs zs, x = .ref l ∧ vs = [.ref b] ∧ H l = some (.lst xs) ∧ ((H b = some (.lst zs) ∧ b ≠ l) ∨ SqT K H b zs) ∧ xs.length + zs.length ≤ sizeLine ∧ Q .non (upd H l (.lst (xs ++ zs)))
def rMu (K : PySem.W.Frag) : Mu → V → List V → Hp → VK → Prop
  | .append => rAppend
  | .extend => rExtA K
  | .pop => rPop
  | .popAt => rPopAt
  | .clear => rClear
/-- an owned slot's list is changed -/
theorem Step.slotPut (R : Rel g F H env σ) (s : Step g σ F H env F' H' env') {i : Nat} {ds ds' : List D} {xs' : List V} {a : Addr} (hi : getS env' i = some (true, .lst ds)) (ha : σ[i]? = some (some (.ref a))) (hf : FrL g F' H' ds' xs') :
    Step g σ F H env F' (upd H' a (.lst xs')) (env'.set i (some (ow (.lst ds')))) := by
  have R' := s.rel
  obtain ⟨b, e, o, oa⟩ := R'.own hi
  rw [ha] at e; cases e
  obtain ⟨c, ec, nf, ho⟩ := o.at
  cases ec
  have hlt := getS_lt hi
  have x : Ext (fun b => b = a) F' H' F' (upd H' a (.lst xs')) := ⟨fun b u e n => .inl (by rw [upd_ne n]; exact e), fun b e => by
    by_cases z : b = a
    · subst z; rw [upd_same] at e; cases e
    · rw [upd_ne z] at e; exact e, fun _ e => e, fun _ e => .inl e⟩
  have hw : Wk (fun b => b = a) F' H' := fun b e => by subst e; exact ⟨nf, ho⟩
  refine ⟨⟨by simpa using R'.len, fun j r h => ?_, fun j k d d' c h1 h2 h3 h4 => ?_, fun b f z => R'.trk b f (x.stay b z)⟩, s.ext.trans x fun b e => ?_, fun b ⟨j, d, h1, h2⟩ => ?_, fun j r h => ?_, fun j d b h1 h2 => ?_⟩
  · rw [getS_set hlt] at h
    split at h
    · rename_i ej
      subst ej
      cases h
      exact ⟨_, ha, sl_ow.mpr ⟨a, xs', rfl, nf, upd_same, hf.ext x hw⟩⟩
    · rename_i ne
      obtain ⟨o', d⟩ := r
      cases o' with
      | false =>
        obtain ⟨v, e, f⟩ := R'.fz h
        exact ⟨v, e, sl_fz.mpr (f.ext x hw)⟩
      | true =>
        obtain ⟨c, e, f, oc⟩ := R'.own h
        have nc : c ≠ a := fun z => ne (R'.inj i j _ d a hi h ha (z ▸ e))
        exact ⟨_, e, sl_ow.mpr (f.ext x hw nc (R'.wk c oc).1)⟩
  · rw [getS_set hlt] at h1 h2
    have k1 : ∃ d1, getS env' j = some (true, d1) := by
      split at h1
      · rename_i e; subst e; exact ⟨_, hi⟩
      · exact ⟨_, h1⟩
    have k2 : ∃ d1, getS env' k = some (true, d1) := by
      split at h2
      · rename_i e; subst e; exact ⟨_, hi⟩
      · exact ⟨_, h2⟩
    obtain ⟨d1, k1⟩ := k1
    obtain ⟨d2, k2⟩ := k2
    exact R'.inj j k d1 d2 c k1 k2 h3 h4
  · subst e
    exact .inl (s.sub b oa)
  · rw [getS_set hlt] at h1
    split at h1
    · rename_i e
      subst e
      rw [ha] at h2; cases h2
      exact s.sub _ oa
    · exact s.sub b ⟨j, d, h1, h2⟩
  · by_cases ej : i = j
    · subst ej
      exact ⟨_, getS_set_self hlt⟩
    · rw [getS_set_ne ej]
      exact s.live j r h
  · by_cases ej : i = j
    · subst ej
      exact .inl ⟨_, getS_set_self hlt⟩
    · rw [getS_set_ne ej]
      exact s.ownk j d b h1 h2
theorem frL_dropLast {ds : List D} {xs : List V} (h : FrL g F H ds xs) : FrL g F H ds.dropLast xs.dropLast := by
  rw [List.dropLast_eq_take, List.dropLast_eq_take, ← h.length]
  exact h.take _
theorem frL_erase : ∀ {ds : List D} {xs : List V} (k : Nat), FrL g F H ds xs → FrL g F H (ds.eraseIdx k) (xs.eraseIdx k)
  | [], xs, k, h => by rw [FrL] at h; subst h; simp; exact FrL.nil
  | d :: ds, xs, k, h => by
    rw [FrL] at h
    obtain ⟨x, r, rfl, h1, h2⟩ := h
    cases k with
    | zero => exact h2
    | succ k => exact FrL.cons h1 (frL_erase k h2)
theorem snd_mu {mu : Mu} {i : Nat} {t : TA} {ms : Ev → Out (List D)} {m : Ev → Out Rv} (h : SndF g t ms)
    (hm : ∀ env, m env = match getS env i with
      | some (true, .lst _) => (ms env).bind fun ds e1 => match getS e1 i with
        | some (true, .lst xs) => match muD mu xs ds with
          | some (d, ys) => .ok (fz d) (e1.set i (some (ow (.lst ys))))
          | none => .stuck
        | _ => .stuck
      | _ => .stuck) : SndE g (tBM g.K "list" (rMu g.K mu) (tVar i) t) m := by
  intro F H env σ Q r env' R e q
  rw [hm] at e
  cases h0 : getS env i with
  | none => rw [h0] at e; cases e
  | some r0 =>
    obtain ⟨b, d0⟩ := r0
    rw [h0] at e
    cases b <;> first | (cases e; done) | skip
    cases d0 <;> first | (cases e; done) | skip
    rename_i ds0
    simp only at e
    obtain ⟨ds, e1, h1, e⟩ := bind_ok e
    obtain ⟨a, ea, o, _⟩ := R.own h0
    obtain ⟨a', xs0, e', _, hx0, _⟩ := o
    cases e'
    refine ⟨.ref a, ea, .inl ⟨rfl, xs0, SqL.of hx0⟩, ?_⟩
    refine h F H env σ _ ds e1 R h1 fun F1 H1 vs s1 f1 => ?_
    cases h2 : getS e1 i with
    | none => rw [h2] at e; cases e
    | some r1 =>
      obtain ⟨b, d1⟩ := r1
      rw [h2] at e
      cases b <;> first | (cases e; done) | skip
      cases d1 <;> first | (cases e; done) | skip
      rename_i xsD
      simp only at e
      cases h3 : muD mu xsD ds with
      | none => rw [h3] at e; cases e
      | some p =>
        obtain ⟨dv, ys⟩ := p
        rw [h3] at e
        cases e
        obtain ⟨b, eb, o1, oa1⟩ := s1.rel.own h2
        rw [ea] at eb; cases eb
        obtain ⟨b, xs, eb, nf, hx, fx⟩ := o1
        cases eb
        have fin : ∀ (v : V) (ys' : List V), Fr g F1 H1 dv v → FrL g F1 H1 ys ys' → Q v (upd H1 a (.lst ys')) := fun v ys' f f' => by
          have st := Step.slotPut R s1 h2 ea f'
          refine q F1 _ v st (sl_fz.mpr ?_) fun z => by cases z
          refine f.ext (W := fun b => b = a) ⟨fun b u e n => .inl (by rw [upd_ne n]; exact e), fun b e => ?_, fun _ e => e, fun _ e => .inl e⟩ fun b e => by subst e; exact ⟨nf, .inl ⟨_, hx⟩⟩
          by_cases z : b = a
          · subst z; rw [upd_same] at e; cases e
          · rw [upd_ne z] at e; exact e
        unfold muD at h3
        split at h3
        · split at h3
          · rename_i hl
            cases h3
            rw [FrL] at f1
            obtain ⟨v, r, rfl, g1, g2⟩ := f1
            rw [FrL] at g2; subst g2
            exact ⟨a, xs, v, rfl, rfl, hx, by rw [← fx.length]; exact hl, fin _ _ fr_non (fx.app (.cons g1 .nil))⟩
          · cases h3
        · split at h3
          · rename_i hl
            cases h3
            rw [FrL] at f1
            obtain ⟨v, r, rfl, g1, g2⟩ := f1
            rw [FrL] at g2; subst g2
            rw [Fr] at g1
            obtain ⟨c, zs, rfl, fc, hc, fzs⟩ := g1
            exact ⟨a, c, xs, zs, rfl, rfl, hx, .inl ⟨hc, fun z => nf (z ▸ fc)⟩, by rw [← fx.length, ← fzs.length]; exact hl, fin _ _ fr_non (fx.app fzs)⟩
          · cases h3
        · split at h3
          · rename_i hl
            cases h3
            rw [FrL] at f1
            obtain ⟨v, r, rfl, g1, g2⟩ := f1
            rw [FrL] at g2; subst g2
            rw [Fr] at g1
            obtain ⟨c, zs, rfl, hc, fzs⟩ := g1
            exact ⟨a, c, xs, zs, rfl, rfl, hx, .inr hc, by rw [← fx.length, ← fzs.length]; exact hl, fin _ _ fr_non (fx.app fzs)⟩
          · cases h3
        · rw [FrL] at f1; subst f1
          split at h3
          · rename_i y hy
            cases h3
            obtain ⟨v, e1, f⟩ := fx.get hy
            exact ⟨a, xs, v, rfl, rfl, hx, by rw [← fx.length]; exact e1, fin _ _ f (frL_dropLast fx)⟩
          · cases h3
        · rename_i k
          rw [FrL] at f1
          obtain ⟨v, r, rfl, g1, g2⟩ := f1
          rw [FrL] at g2; subst g2
          rw [Fr] at g1; subst g1
          split at h3
          · rename_i hsz
            split at h3
            · rename_i k' hk
              split at h3
              · rename_i y hy
                cases h3
                obtain ⟨v, e1, f⟩ := fx.get hy
                obtain ⟨q1, q2, q3, q4⟩ := ixN_seq hk
                have l63 : (sizeLine : Int) < 2 ^ 63 := by rw [sizeLine_eq]; decide
                have hsz' : (xsD.length : Int) ≤ sizeLine := by exact_mod_cast hsz
                exact ⟨a, xs, _, k', v, rfl, rfl, hx, by omega, by omega, by rw [← fx.length]; exact q1, e1, fin _ _ f (frL_erase k' fx)⟩
              · cases h3
            · cases h3
          · cases h3
        · rw [FrL] at f1; subst f1
          cases h3
          exact ⟨a, xs, rfl, rfl, hx, fin _ _ fr_non FrL.nil⟩
        · cases h3
end
end Ev
/-! Snd10: statements. -/
namespace Ev
open PySem L2 RZ
structure StepS (g : Gx) (keep : Nat) (σ : L2.St) (F : Addr → Prop) (H : Hp) (env : Ev) (σ' : L2.St) (F' : Addr → Prop) (H' : Hp) (env' : Ev) : Prop where
  rel : Rel g F' H' env' σ'
  ext : Ext (OwnAt env σ) F H F' H'
  sub : ∀ a, OwnAt env' σ' a → OwnAt env σ a ∨ H a = none
  kept : ∀ i, i < keep → σ'[i]? = σ[i]?
  live : ∀ i r, i < keep → getS env i = Option.some r → ∃ r', getS env' i = Option.some r'
  ownk : ∀ i d a, i < keep → getS env i = Option.some (true, d) → σ[i]? = Option.some (Option.some (.ref a)) → (∃ d', getS env' i = Option.some (true, d')) ∨ F' a
section
variable {g : Gx} {keep : Nat} {F F' F0 F1 F2 : Addr → Prop} {H H' H0 H1 H2 : Hp} {env env' env0 env1 env2 : Ev} {σ σ' σ1 σ2 : L2.St}
theorem StepS.refl (R : Rel g F H env σ) : StepS g keep σ F H env σ F H env := ⟨R, Ext.refl, fun _ h => .inl h, fun _ _ => rfl, fun _ r _ h => ⟨r, h⟩, fun _ d _ _ h _ => .inl ⟨d, h⟩⟩
theorem StepS.trans (a : StepS g keep σ F H env σ1 F1 H1 env1) (b : StepS g keep σ1 F1 H1 env1 σ2 F2 H2 env2) : StepS g keep σ F H env σ2 F2 H2 env2 :=
  ⟨b.rel, a.ext.trans b.ext a.sub, fun x h => (b.sub x h).elim (a.sub x) fun z => .inr (a.ext.stay x z), fun i hi => (b.kept i hi).trans (a.kept i hi), fun i r hi h => by
    obtain ⟨r1, h1⟩ := a.live i r hi h
    exact b.live i r1 hi h1, fun i d x hi h1 h2 => by
    rcases a.ownk i d x hi h1 h2 with ⟨d1, q⟩ | q
    · exact b.ownk i d1 x hi q (by rw [a.kept i hi]; exact h2)
    · exact .inr (b.ext.mono x q)⟩
theorem Step.toS (s : Step g σ F H env F' H' env') : StepS g keep σ F H env σ F' H' env' :=
  ⟨s.rel, s.ext, fun a h => .inl (s.sub a h), fun _ _ => rfl, fun i r _ h => s.live i r h, fun i d a _ h1 h2 => s.ownk i d a h1 h2⟩
/-- a store into a slot behind the parameters -/
theorem StepS.store (R : Rel g F H env σ) (s : Step g σ F H env F' H' env') {i : Nat} {r : Rv} {x : V} (hk : keep ≤ i) (hi : i < env'.length) (sl : Sl g F' H' r x) (fr : r.1 = true → Fresh H x) :
    StepS g keep σ F H env (σ.set i (some x)) F' H' (env'.set i (some r)) := by
  have na : r.1 = true → ∀ a, x = .ref a → ¬ OwnAt env' σ a := fun z a e oa => by
    obtain ⟨b, eb, nb⟩ := fr z
    rw [e] at eb; cases eb
    exact R.ownTrk (s.sub a oa) nb
  have hσ : i < σ.length := by rw [← s.rel.len]; exact hi
  refine ⟨s.rel.assign hi sl na, s.ext, fun a ⟨j, d, h1, h2⟩ => ?_, fun j hj => by rw [List.getElem?_set_ne (by omega)], fun j r' hj h => ?_, fun j d a hj h1 h2 => ?_⟩
  · rw [getS_set hi] at h1
    rw [set_get hσ] at h2
    split at h1
    · rename_i e
      rw [if_pos e] at h2
      cases h1; cases h2
      obtain ⟨b, eb, nb⟩ := fr rfl
      cases eb
      exact .inr nb
    · rename_i e
      rw [if_neg e] at h2
      exact .inl (s.sub a ⟨j, d, h1, h2⟩)
  · rw [getS_set_ne (by omega)]
    exact s.live j r' h
  · rw [getS_set_ne (by omega)]
    exact s.ownk j d a h1 h2
theorem StepS.tg {tg : List Nat} (R : Rel g F H env σ) (s : Step g σ F H env F' H' env') (R2 : Rel g F' H' env2 σ2) (T : TgF keep tg env' env2 σ σ2) : StepS g keep σ F H env σ2 F' H' env2 := by
  refine ⟨R2, s.ext, fun a ⟨j, d, h1, h2⟩ => ?_, fun j hj => ?_, fun j r hj h => ?_, fun j d a hj h1 h2 => ?_⟩
  · by_cases hj : j ∈ tg
    · obtain ⟨_, d', e⟩ := T.mem j hj
      rw [h1] at e; cases e
    · obtain ⟨e1, e2⟩ := T.out j hj
      exact .inl (s.sub a ⟨j, d, by rw [← e2]; exact h1, by rw [← e1]; exact h2⟩)
  · by_cases hm : j ∈ tg
    · have := (T.mem j hm).1; omega
    · exact (T.out j hm).1
  · by_cases hm : j ∈ tg
    · have := (T.mem j hm).1; omega
    · rw [(T.out j hm).2]; exact s.live j r h
  · by_cases hm : j ∈ tg
    · have := (T.mem j hm).1; omega
    · rw [(T.out j hm).2]; exact s.ownk j d a h1 h2
def Post (g : Gx) (keep : Nat) (σ : L2.St) (F : Addr → Prop) (H : Hp) (env : Ev) (fl : Flow') (env' : Ev) (Dn : Ends) : Prop := ∀ F' H' σ', StepS g keep σ F H env σ' F' H' env' →
  match fl with
  | .nx => Dn.nx σ' H'
  | .brk => Dn.bk σ' H'
  | .cont => Dn.ct σ' H'
  | .ret r => ∀ v, Sl g F' H' r v → (r.1 = true → Fresh H v ∨ ∃ (i : Nat) (a : Addr), keep ≤ i ∧ v = .ref a ∧ getS env' i = some (true, r.2) ∧ σ'[i]? = some (some (.ref a))) → Dn.rt v H'
def SndS (g : Gx) (keep : Nat) (t : TS) (m : Ev → Out Flow') : Prop := ∀ (F : Addr → Prop) (H : Hp) (env : Ev) (σ : L2.St) (Dn : Ends) (fl : Flow') (env' : Ev), Rel g F H env σ → m env = .ok fl env' → Post g keep σ F H env fl env' Dn → t Dn σ H
/-- behind a step the post is asked at the later state -/
theorem Post.later {fl : Flow'} {Dn Dn' : Ends} (p : Post g keep σ F H env fl env' Dn) (s : StepS g keep σ F H env σ1 F1 H1 env1) (hn : fl = .nx → Dn'.nx = Dn.nx) (hb : fl = .brk → Dn'.bk = Dn.bk) (hc : fl = .cont → Dn'.ct = Dn.ct) (hr : Dn'.rt = Dn.rt) : Post g keep σ1 F1 H1 env1 fl env' Dn' := by
  intro F' H' σ' s'
  have q := p F' H' σ' (s.trans s')
  cases fl with
  | nx => rw [hn rfl]; exact q
  | brk => rw [hb rfl]; exact q
  | cont => rw [hc rfl]; exact q
  | ret r =>
    intro v sl fr
    rw [hr]
    exact q v sl fun z => (fr z).imp (fun y => y.back s.ext.stay) id
theorem sndS_asg {te : TE} {me : Ev → Out Rv} {i : Nat} {m : Ev → Out Flow'} (h : SndE g te me) (hm : ∀ env, m env = (me env).bind fun r e1 => (lift (putE keep i r e1) e1).bind fun e2 _ => .ok .nx e2) : SndS g keep (tAsg te (gName i)) m := by
  intro F H env σ Dn fl env' R e p
  rw [hm] at e
  obtain ⟨r, e1, h1, e⟩ := bind_ok e
  obtain ⟨e2, e3, h2, e⟩ := bind_ok e
  cases e
  obtain ⟨h3, rfl⟩ := lift_ok h2
  obtain ⟨hk, hi, rfl⟩ := putE_ok h3
  exact h F H env σ _ r e3 R h1 fun F1 H1 v s1 sl fr => p F1 H1 _ (StepS.store R s1 hk hi sl fr)
theorem sndS_unp {te : TE} {me : Ev → Out Rv} {is : List Nat} {m : Ev → Out Flow'} (h : SndE g te me) (hm : ∀ env, m env = (me env).bind fun r e1 => (lift (target keep is false r.2 e1) e1).bind fun e2 _ => .ok .nx e2) : SndS g keep (tAsg te (denTg g.K is false)) m := by
  intro F H env σ Dn fl env' R e p
  rw [hm] at e
  obtain ⟨r, e1, h1, e⟩ := bind_ok e
  obtain ⟨e2, e3, h2, e⟩ := bind_ok e
  cases e
  obtain ⟨h3, rfl⟩ := lift_ok h2
  refine h.frz R h1 fun F1 H1 v s1 f1 => ?_
  exact tg_ok h3 s1.rel f1 fun σ2 R2 T => p F1 H1 σ2 (StepS.tg R s1 R2 T)
/-- values of several expressions, what they own kept -/
def SlsAt (g : Gx) (F : Addr → Prop) (H : Hp) (env : Ev) (σ : L2.St) (rs : List Rv) (vs : List V) : Prop := rs.length = vs.length ∧ ∀ (i : Nat) r v, rs[i]? = some r → vs[i]? = some v → Sl g F H r v ∧ (r.1 = true → ∀ a, v = .ref a → ¬ OwnAt env σ a)
def OwnVals (rs : List Rv) (vs : List V) : List V := (rs.zip vs).filterMap fun p => if p.1.1 then some p.2 else none
def SndR (g : Gx) (t : TA) (m : Ev → Out (List Rv)) : Prop := ∀ (F : Addr → Prop) (H : Hp) (env : Ev) (σ : L2.St) (Q : List V → Hp → Prop) (rs : List Rv) (env' : Ev), Rel g F H env σ → m env = .ok rs env' →
  (∀ F' H' vs, Step g σ F H env F' H' env' → OpsAll g F' H' env' σ (rs.map Opd.v) vs → (tempsOf (rs.map Opd.v) vs).Nodup → (∀ v ∈ tempsOf (rs.map Opd.v) vs, Fresh H v) → Q vs H') → t σ H Q
theorem sndR_nil {m : Ev → Out (List Rv)} (hm : ∀ env, m env = .ok [] env) : SndR g tNil m := by
  intro F H env σ Q ds env' R e q
  rw [hm] at e
  cases e
  exact q F H [] (.refl R) rfl .nil fun v z => by cases z
theorem sndR_cons {ta : TE} {tr : TA} {ma : Ev → Out Rv} {mr m : Ev → Out (List Rv)} (ha : SndE g ta ma) (hr : SndR g tr mr)
    (hm : ∀ env, m env = (ma env).bind fun x e1 => (mr e1).bind fun xs e2 => .ok (x :: xs) e2) : SndR g (tCons ta tr) m := by
  intro F H env σ Q ds env' R e q
  rw [hm] at e
  obtain ⟨x, e1, h1, e⟩ := bind_ok e
  obtain ⟨xs, e2, h2, e⟩ := bind_ok e
  cases e
  refine ha F H env σ _ x e1 R h1 fun F1 H1 v s1 sl fr => ?_
  have na : x.1 = true → ∀ a, v = .ref a → ¬ OwnAt e1 σ a := fun z a ea oa => by
    obtain ⟨b, eb, nb⟩ := fr z
    rw [ea] at eb; cases eb
    exact R.ownTrk (s1.sub a oa) nb
  have o1 : OpAt g F1 H1 e1 σ (.v x) v := ⟨sl, na⟩
  refine hr F1 H1 e1 σ _ xs env' s1.rel h2 fun F2 H2 vs s2 o2 nd fr2 => ?_
  have fr3 : ∀ w ∈ tempsOf (xs.map Opd.v) vs, Fresh H w := fun w hw => (fr2 w hw).back s1.ext.stay
  refine q F2 H2 (v :: vs) (s1.trans s2) ⟨v, vs, rfl, o1.step s1.rel s2, o2⟩ ?_ ?_
  · obtain ⟨b, d⟩ := x
    cases b with
    | false => exact nd
    | true =>
      show (v :: tempsOf (xs.map Opd.v) vs).Nodup
      refine List.nodup_cons.mpr ⟨fun hv => ?_, nd⟩
      obtain ⟨a, ea, na⟩ := fr2 v hv
      obtain ⟨b, eb, _, ho⟩ := (sl_ow.mp sl).at
      rw [ea] at eb; cases eb
      rcases ho with ⟨ys, z⟩ | ⟨ws, z⟩ <;> rw [na] at z <;> cases z
  · obtain ⟨b, d⟩ := x
    cases b with
    | false => exact fr3
    | true =>
      intro w hw
      have hw : w ∈ v :: tempsOf (xs.map Opd.v) vs := hw
      rcases List.mem_cons.mp hw with rfl | hw
      · exact fr rfl
      · exact fr3 w hw
def tPars (is : List Nat) (ta : TA) : TS := fun Dn σ H => ta σ H fun vs H1 => vs.length = is.length ∧ vs.length ≤ sizeLine ∧ gNames is vs σ H1 Dn.nx ∧ ∀ p, H1 p = none → gNames is vs σ (upd H1 p (.tup vs)) Dn.nx
/-- several slots get their values -/
theorem puts_ok : ∀ {is : List Nat} {rs : List Rv} {vs : List V} {env e2 : Ev} {σ : L2.St} {Q : L2.St → Hp → Prop}, putRs keep is rs env = some e2 → Rel g F H env σ → OpsAll g F H env σ (rs.map Opd.v) vs → (tempsOf (rs.map Opd.v) vs).Nodup →
    (∀ σ2, Rel g F H e2 σ2 → (∀ i, i < keep → σ2[i]? = σ[i]? ∧ getS e2 i = getS env i) → (∀ a, OwnAt e2 σ2 a → OwnAt env σ a ∨ V.ref a ∈ tempsOf (rs.map Opd.v) vs) → Q σ2 H) → vs.length = is.length ∧ gNames is vs σ H Q
  | [], [], vs, env, e2, σ, Q, h, R, o, nd, q => by
    have o : vs = [] := o
    subst o
    rw [putRs] at h
    cases h
    exact ⟨rfl, rfl, q σ R (fun _ _ => ⟨rfl, rfl⟩) fun a h => .inl h⟩
  | i :: is, r :: rs, vs, env, e2, σ, Q, h, R, o, nd, q => by
    obtain ⟨v, vr, rfl, o1, o2⟩ := o
    rw [putRs] at h
    cases hp : putE keep i r env with
    | none => rw [hp] at h; cases h
    | some e1 =>
      rw [hp] at h
      obtain ⟨hk, hi, rfl⟩ := putE_ok hp
      have hσ : i < σ.length := by rw [← R.len]; exact hi
      have R1 := R.assign hi o1.1 o1.2
      have own1 : ∀ a, OwnAt (env.set i (some r)) (σ.set i (some v)) a → OwnAt env σ a ∨ (r.1 = true ∧ v = .ref a) := fun a ⟨j, d, h1, h2⟩ => by
        rw [getS_set hi] at h1
        rw [set_get hσ] at h2
        split at h1
        · rename_i e
          rw [if_pos e] at h2
          cases h1; cases h2
          exact .inr ⟨rfl, rfl⟩
        · rename_i e
          rw [if_neg e] at h2
          exact .inl ⟨j, d, h1, h2⟩
      have nd2 : (tempsOf (rs.map Opd.v) vr).Nodup ∧ (r.1 = true → v ∉ tempsOf (rs.map Opd.v) vr) ∧ (∀ w, w ∈ tempsOf (rs.map Opd.v) vr → w ∈ tempsOf ((r :: rs).map Opd.v) (v :: vr)) ∧ (r.1 = true → v ∈ tempsOf ((r :: rs).map Opd.v) (v :: vr)) := by
        obtain ⟨b, d⟩ := r
        cases b with
        | false => exact ⟨nd, (fun z => by cases z), fun w hw => hw, (fun z => by cases z)⟩
        | true =>
          have := List.nodup_cons.mp nd
          exact ⟨this.2, fun _ => this.1, fun w hw => List.mem_cons_of_mem _ hw, fun _ => List.mem_cons_self⟩
      have o2' : OpsAll g F H (env.set i (some r)) (σ.set i (some v)) (rs.map Opd.v) vr := by
        have gen : ∀ {rs : List Rv} {vr : List V}, OpsAll g F H env σ (rs.map Opd.v) vr → (r.1 = true → v ∉ tempsOf (rs.map Opd.v) vr) → OpsAll g F H (env.set i (some r)) (σ.set i (some v)) (rs.map Opd.v) vr := by
          intro rs
          induction rs with
          | nil => intro vr h _; exact h
          | cons r2 rs ih =>
            intro vr h hn
            obtain ⟨w, wr, rfl, p1, p2⟩ := h
            refine ⟨w, wr, rfl, ⟨p1.1, fun z a ea oa => ?_⟩, ih p2 fun z hz => hn z ?_⟩
            · rcases own1 a oa with y | ⟨y, ey⟩
              · exact p1.2 z a ea y
              · obtain ⟨b2, d2⟩ := r2
                have z : b2 = true := z
                subst z
                exact hn y (by rw [ey, ← ea]; exact List.mem_cons_self)
            · obtain ⟨b2, d2⟩ := r2
              cases b2 with
              | false => exact hz
              | true => exact List.mem_cons_of_mem _ hz
        exact gen o2 nd2.2.1
      have := puts_ok (Q := Q) h R1 o2' nd2.1 fun σ2 R2 k2 w2 => q σ2 R2 (fun j hj => ?_) fun a ha => ?_
      · exact ⟨by simp [this.1], v, vr, rfl, this.2⟩
      · obtain ⟨q1, q2⟩ := k2 j hj
        rw [q1, q2, List.getElem?_set_ne (by omega), getS_set_ne (by omega)]
        exact ⟨rfl, rfl⟩
      · rcases w2 a ha with y | y
        · rcases own1 a y with y | ⟨y, ey⟩
          · exact .inl y
          · exact .inr (by rw [← ey]; exact nd2.2.2.2 y)
        · exact .inr (nd2.2.2.1 _ y)
  | [], _ :: _, vs, env, e2, σ, Q, h, R, o, nd, q => by rw [putRs] at h; cases h; all_goals (intros; simp_all)
  | _ :: _, [], vs, env, e2, σ, Q, h, R, o, nd, q => by rw [putRs] at h; cases h; all_goals (intros; simp_all)
theorem opsAll_len : ∀ {os : List Opd} {vs : List V}, OpsAll g F H env σ os vs → vs.length = os.length
  | [], vs, h => by
    have h : vs = [] := h
    subst h; rfl
  | o :: os, vs, h => by
    obtain ⟨v, r, rfl, _, h2⟩ := h
    simp [opsAll_len h2]
theorem sndS_par {ta : TA} {mr : Ev → Out (List Rv)} {is : List Nat} {m : Ev → Out Flow'} (h : SndR g ta mr) (hz : is.length ≤ sizeLine) (hm : ∀ env, m env = (mr env).bind fun rs e1 => (lift (putRs keep is rs e1) e1).bind fun e2 _ => .ok .nx e2) : SndS g keep (tPars is ta) m := by
  intro F H env σ Dn fl env' R e p
  rw [hm] at e
  obtain ⟨rs, e1, h1, e⟩ := bind_ok e
  obtain ⟨e2, e3, h2, e⟩ := bind_ok e
  cases e
  obtain ⟨h3, rfl⟩ := lift_ok h2
  refine h F H env σ _ rs e3 R h1 fun F1 H1 vs s1 o1 nd fr => ?_
  have key : ∀ H2, New H1 H2 → vs.length = is.length ∧ gNames is vs σ H2 Dn.nx := fun H2 n => by
    have s2 := s1.trans (.new s1.rel n)
    refine puts_ok h3 s2.rel (o1.step s1.rel (.new s1.rel n)) nd fun σ2 R2 k2 w2 => p F1 H2 σ2 ⟨R2, s2.ext, fun a ha => ?_, fun i hi => (k2 i hi).1, fun i r hi hr => ?_, fun i d a hi h1 h2 => ?_⟩
    · rcases w2 a ha with y | y
      · exact .inl (s2.sub a y)
      · obtain ⟨b, eb, nb⟩ := fr _ y
        cases eb
        exact .inr nb
    · rw [(k2 i hi).2]
      exact s2.live i r hr
    · rw [(k2 i hi).2]
      exact s2.ownk i d a h1 h2
  exact ⟨(key H1 .refl).1, by rw [(key H1 .refl).1]; exact hz, (key H1 .refl).2, fun q hq => (key _ (New.upd hq)).2⟩
theorem Step.slotPutD (R : Rel g F H env σ) (s : Step g σ F H env F' H' env') {i : Nat} {ds ds' : List (Key × D)} {xs' : List (Key × V)} {a : Addr} (hi : getS env' i = some (true, .dct ds)) (ha : σ[i]? = some (some (.ref a))) (hf : FrK g F' H' ds' xs') :
    Step g σ F H env F' (upd H' a (.dK xs')) (env'.set i (some (ow (.dct ds')))) := by
  have R' := s.rel
  obtain ⟨b, e, o, oa⟩ := R'.own hi
  rw [ha] at e; cases e
  obtain ⟨c, ec, nf, ho⟩ := o.at
  cases ec
  have hlt := getS_lt hi
  have x : Ext (fun b => b = a) F' H' F' (upd H' a (.dK xs')) := ⟨fun b u e n => .inl (by rw [upd_ne n]; exact e), fun b e => by
    by_cases z : b = a
    · subst z; rw [upd_same] at e; cases e
    · rw [upd_ne z] at e; exact e, fun _ e => e, fun _ e => .inl e⟩
  have hw : Wk (fun b => b = a) F' H' := fun b e => by subst e; exact ⟨nf, ho⟩
  refine ⟨⟨by simpa using R'.len, fun j r h => ?_, fun j k d d' c h1 h2 h3 h4 => ?_, fun b f z => R'.trk b f (x.stay b z)⟩, s.ext.trans x fun b e => ?_, fun b ⟨j, d, h1, h2⟩ => ?_, fun j r h => ?_, fun j d b h1 h2 => ?_⟩
  · rw [getS_set hlt] at h
    split at h
    · rename_i ej
      subst ej
      cases h
      exact ⟨_, ha, sl_ow.mpr ⟨a, xs', rfl, nf, upd_same, hf.ext x hw⟩⟩
    · rename_i ne
      obtain ⟨o', d⟩ := r
      cases o' with
      | false =>
        obtain ⟨v, e, f⟩ := R'.fz h
        exact ⟨v, e, sl_fz.mpr (f.ext x hw)⟩
      | true =>
        obtain ⟨c, e, f, oc⟩ := R'.own h
        have nc : c ≠ a := fun z => ne (R'.inj i j _ d a hi h ha (z ▸ e))
        exact ⟨_, e, sl_ow.mpr (f.ext x hw nc (R'.wk c oc).1)⟩
  · rw [getS_set hlt] at h1 h2
    have k1 : ∃ d1, getS env' j = some (true, d1) := by
      split at h1
      · rename_i e; subst e; exact ⟨_, hi⟩
      · exact ⟨_, h1⟩
    have k2 : ∃ d1, getS env' k = some (true, d1) := by
      split at h2
      · rename_i e; subst e; exact ⟨_, hi⟩
      · exact ⟨_, h2⟩
    obtain ⟨d1, k1⟩ := k1
    obtain ⟨d2, k2⟩ := k2
    exact R'.inj j k d1 d2 c k1 k2 h3 h4
  · subst e
    exact .inl (s.sub b oa)
  · rw [getS_set hlt] at h1
    split at h1
    · rename_i e
      subst e
      rw [ha] at h2; cases h2
      exact s.sub _ oa
    · exact s.sub b ⟨j, d, h1, h2⟩
  · by_cases ej : i = j
    · subst ej
      exact ⟨_, getS_set_self hlt⟩
    · rw [getS_set_ne ej]
      exact s.live j r h
  · by_cases ej : i = j
    · subst ej
      exact .inl ⟨_, getS_set_self hlt⟩
    · rw [getS_set_ne ej]
      exact s.ownk j d b h1 h2
theorem sndS_setk {i : Nat} {k : Tm} {tk tv : TE} {mk mv : Ev → Out Rv} {m : Ev → Out Flow'} (hv : SndE g tv mv) (hk : SndO g tk (opd k mk))
    (hm : ∀ env, m env = (mv env).bind fun x e1 => match getS e1 i with
      | some (true, .dct _) => (opd k mk e1).bind fun y e2 => match getS e2 i, (rdO e2 y).bind keyD with
        | some (true, .dct kvs), some key => if kvs.length < sizeLine then .ok .nx (e2.set i (some (ow (.dct (putD kvs key x.2))))) else .stuck
        | _, _ => .stuck
      | _ => .stuck) : SndS g keep (sDPut (tVar i) tk tv) m := by
  intro F H env σ Dn fl env' R e p
  rw [hm] at e
  obtain ⟨x, e1, h1, e⟩ := bind_ok e
  refine hv.frz R h1 fun F1 H1 v s1 f1 => ?_
  cases h0 : getS e1 i with
  | none => rw [h0] at e; cases e
  | some r0 =>
    obtain ⟨b0, d0⟩ := r0
    rw [h0] at e
    cases b0 <;> first | (cases e; done) | skip
    cases d0 <;> first | (cases e; done) | skip
    simp only at e
    obtain ⟨a, ea, _, _⟩ := s1.rel.own h0
    obtain ⟨y, e2, h2, e⟩ := bind_ok e
    refine ⟨.ref a, ea, ?_⟩
    refine hk F1 H1 e1 σ _ y e2 s1.rel h2 fun F2 H2 vy s2 o2 _ => ?_
    have s := s1.trans s2
    cases h3 : getS e2 i with
    | none => rw [h3] at e; cases e
    | some r =>
      obtain ⟨b, d⟩ := r
      rw [h3] at e
      cases h4 : rdO e2 y with
      | none => rw [h4] at e; cases b <;> cases d <;> cases e
      | some u =>
        cases h5 : keyD u with
        | none => simp only [h4, Option.bind_some, h5] at e; cases b <;> cases d <;> cases e
        | some key =>
          simp only [h4, Option.bind_some, h5] at e
          cases b <;> first | (cases e; done) | skip
          cases d <;> first | (cases e; done) | skip
          rename_i kvs
          simp only at e
          split at e
          · rename_i hz
            cases e
            obtain ⟨a', ea', o, oa⟩ := s.rel.own h3
            rw [ea] at ea'; cases ea'
            obtain ⟨b, ws, eb, nf, hw, fw⟩ := o
            cases eb
            have ek := keyD_kV (o2.bor s2.rel h4) h5
            subst ek
            refine ⟨a, _, rfl, .inl ⟨ws, key, hw, rfl, by rw [← fw.length]; exact hz, rfl⟩, ?_⟩
            exact p F2 _ σ (Step.slotPutD R s h3 ea (frK_put (s2.fr s1.rel f1) fw)).toS
          · cases e
theorem sndS_aug {i : Nat} {te : TE} {me : Ev → Out Rv} {m : Ev → Out Flow'} (h : SndE g te me) (hm : ∀ env, m env = match getS env i with
    | some (false, .int n) => (me env).bind fun x e1 => match x.2 with
      | .int k => (lift (putE keep i (fz (.int (n + k))) e1) e1).bind fun e2 _ => .ok .nx e2
      | _ => .stuck
    | _ => .stuck) : SndS g keep (tAug i te (ipI fun i j => i + j)) m := by
  intro F H env σ Dn fl env' R e p
  rw [hm] at e
  cases h0 : getS env i with
  | none => rw [h0] at e; cases e
  | some r0 =>
    obtain ⟨b0, d0⟩ := r0
    rw [h0] at e
    cases b0 <;> first | (cases e; done) | skip
    cases d0 <;> first | (cases e; done) | skip
    rename_i n
    simp only at e
    obtain ⟨v, ev, fv⟩ := R.fz h0
    rw [Fr] at fv
    subst fv
    obtain ⟨x, e1, h1, e⟩ := bind_ok e
    refine ⟨_, ev, ?_⟩
    refine h F H env σ _ x e1 R h1 fun F1 H1 w s1 sl _ => ?_
    obtain ⟨o, d⟩ := x
    cases d <;> first | (cases e; done) | skip
    simp only at e
    obtain ⟨e2, e3, h2, e⟩ := bind_ok e
    cases e
    obtain ⟨h3, rfl⟩ := lift_ok h2
    obtain ⟨hk, hi, rfl⟩ := putE_ok h3
    have ew := bor_int sl.bor
    subst ew
    exact ⟨_, _, rfl, rfl, p F1 H1 _ (StepS.store R s1 hk hi sl_int fun z => by cases z)⟩
theorem sndS_ret {te : TE} {me : Ev → Out Rv} {m : Ev → Out Flow'} (h : SndE g te me) (hm : ∀ env, m env = (me env).bind fun r e1 => .ok (.ret r) e1) : SndS g keep (tRet te) m := by
  intro F H env σ Dn fl env' R e p
  rw [hm] at e
  obtain ⟨r, e1, h1, e⟩ := bind_ok e
  cases e
  exact h F H env σ _ r env' R h1 fun F1 H1 v s1 sl fr => p F1 H1 σ s1.toS v sl fun z => .inl (fr z)
theorem sndS_retv {i : Nat} {m : Ev → Out Flow'} (hm : ∀ env, m env = match getS env i with
    | some (true, d) => if keep ≤ i then .ok (.ret (ow d)) env else .ok (.ret (fz d)) (env.set i (some (fz d)))
    | some (false, d) => .ok (.ret (fz d)) env
    | none => .stuck) : SndS g keep (tRet (tVar i)) m := by
  intro F H env σ Dn fl env' R e p
  rw [hm] at e
  cases h0 : getS env i with
  | none => rw [h0] at e; cases e
  | some r0 =>
    obtain ⟨b, d⟩ := r0
    rw [h0] at e
    cases b with
    | false =>
      cases e
      obtain ⟨v, ev, fv⟩ := R.fz h0
      exact ⟨v, ev, p F H σ (.refl R) v (sl_fz.mpr fv) fun z => by cases z⟩
    | true =>
      simp only at e
      obtain ⟨a, ea, o, oa⟩ := R.own h0
      split at e
      · rename_i hk
        cases e
        exact ⟨_, ea, p F H σ (.refl R) _ (sl_ow.mpr o) fun _ => .inr ⟨i, a, hk, rfl, h0, ea⟩⟩
      · cases e
        obtain ⟨s, f⟩ := stepFreezeVar R h0 ea
        exact ⟨_, ea, p _ H σ s.toS _ (sl_fz.mpr f) fun z => by cases z⟩
theorem sndS_retn {m : Ev → Out Flow'} (hm : ∀ env, m env = .ok (.ret (fz .non)) env) : SndS g keep tRetN m := by
  intro F H env σ Dn fl env' R e p
  rw [hm] at e
  cases e
  exact p F H σ (.refl R) .non (sl_fz.mpr fr_non) fun z => by cases z
theorem sndS_expr {te : TE} {me : Ev → Out Rv} {m : Ev → Out Flow'} (h : SndE g te me) (hm : ∀ env, m env = (me env).bind fun _ e1 => .ok .nx e1) : SndS g keep (tDrop te) m := by
  intro F H env σ Dn fl env' R e p
  rw [hm] at e
  obtain ⟨r, e1, h1, e⟩ := bind_ok e
  cases e
  exact h F H env σ _ r env' R h1 fun F1 H1 v s1 sl fr => p F1 H1 σ s1.toS
theorem sndS_pass {m : Ev → Out Flow'} (hm : ∀ env, m env = .ok .nx env) : SndS g keep tNext m := by
  intro F H env σ Dn fl env' R e p
  rw [hm] at e
  cases e
  exact p F H σ (.refl R)
theorem sndS_brk {m : Ev → Out Flow'} (hm : ∀ env, m env = .ok .brk env) : SndS g keep tBreak m := by
  intro F H env σ Dn fl env' R e p
  rw [hm] at e
  cases e
  exact p F H σ (.refl R)
theorem sndS_cont {m : Ev → Out Flow'} (hm : ∀ env, m env = .ok .cont env) : SndS g keep tCont m := by
  intro F H env σ Dn fl env' R e p
  rw [hm] at e
  cases e
  exact p F H σ (.refl R)
theorem sndS_never {m : Ev → Out Flow'} (hm : ∀ env fl e', m env ≠ .ok fl e') : SndS g keep tNever m := by
  intro F H env σ Dn fl env' R e p
  exact absurd e (hm _ _ _)
theorem sndS_if {tc : TT} {ta tb : TS} {mc : Ev → Out Bool} {ma mb m : Ev → Out Flow'} (hc : SndC g tc mc) (ha : SndS g keep ta ma) (hb : SndS g keep tb mb) (hm : ∀ env, m env = (mc env).bind fun t e1 => if t then ma e1 else mb e1) : SndS g keep (tIfS tc ta tb) m := by
  intro F H env σ Dn fl env' R e p
  rw [hm] at e
  obtain ⟨t, e1, h1, e⟩ := bind_ok e
  refine hc F H env σ _ t e1 R h1 fun F1 H1 s1 => ?_
  cases t with
  | true =>
    rw [if_pos rfl] at e ⊢
    exact ha F1 H1 e1 σ Dn fl env' s1.rel e (p.later s1.toS (fun _ => rfl) (fun _ => rfl) (fun _ => rfl) rfl)
  | false =>
    rw [if_neg (by decide)] at e ⊢
    exact hb F1 H1 e1 σ Dn fl env' s1.rel e (p.later s1.toS (fun _ => rfl) (fun _ => rfl) (fun _ => rfl) rfl)
theorem sndS_seq {ta tb : TS} {ma mb m : Ev → Out Flow'} (ha : SndS g keep ta ma) (hb : SndS g keep tb mb) (hm : ∀ env, m env = match ma env with
    | .ok .nx e => mb e
    | .ok f e => .ok f e
    | .exc x e => .exc x e
    | .stuck => .stuck) : SndS g keep (tSeq ta tb) m := by
  intro F H env σ Dn fl env' R e p
  rw [hm] at e
  cases h1 : ma env with
  | exc x e1 => rw [h1] at e; cases e
  | stuck => rw [h1] at e; cases e
  | ok f1 e1 =>
    rw [h1] at e
    refine ha F H env σ _ f1 e1 R h1 ?_
    cases f1 with
    | nx =>
      simp only at e
      intro F1 H1 σ1 s1
      exact hb F1 H1 e1 σ1 Dn fl env' s1.rel e (p.later s1 (fun _ => rfl) (fun _ => rfl) (fun _ => rfl) rfl)
    | brk =>
      cases e
      exact p.later (.refl R) (fun z => by cases z) (fun _ => rfl) (fun z => by cases z) rfl
    | cont =>
      cases e
      exact p.later (.refl R) (fun z => by cases z) (fun z => by cases z) (fun _ => rfl) rfl
    | ret r =>
      cases e
      exact p.later (.refl R) (fun z => by cases z) (fun z => by cases z) (fun z => by cases z) rfl
theorem sndS_while {tc : TT} {tb : TS} {mc : Ev → Out Bool} {mb m : Ev → Out Flow'} {wf : Nat} (hc : SndC g tc mc) (hb : SndS g keep tb mb) (hm : ∀ env, m env = whileLoop mc mb wf env) : SndS g keep (tWhile tc tb) m := by
  intro F H env σ Dn fl env' R e p
  rw [hm] at e
  refine ⟨fun n σc Hc => ∃ (Fc : Addr → Prop) (ec : Ev), StepS g keep σ F H env σc Fc Hc ec ∧ whileLoop mc mb n ec = .ok fl env', ⟨wf, F, env, .refl R, e⟩, ?_⟩
  rintro n σc Hc ⟨Fc, ec, sc, hl⟩
  cases n with
  | zero => rw [whileLoop] at hl; cases hl
  | succ n =>
    rw [whileLoop] at hl
    obtain ⟨t, e1, h1, hl1⟩ := bind_ok hl
    refine hc Fc Hc ec σc _ t e1 sc.rel h1 fun F1 H1 s1 => ?_
    have sc1 := sc.trans s1.toS
    cases t with
    | false =>
      rw [if_neg (by decide)] at hl1 ⊢
      cases hl1
      exact p F1 H1 σc sc1
    | true =>
      rw [if_pos rfl] at hl1 ⊢
      refine ⟨fun σ' H' => ∃ m', m' < n + 1 ∧ ∃ (Fc : Addr → Prop) (ec : Ev), StepS g keep σ F H env σ' Fc H' ec ∧ whileLoop mc mb m' ec = .ok fl env', fun σ' H' h => h, ?_⟩
      cases h2 : mb e1 with
      | exc x e2 => rw [h2] at hl1; cases hl1
      | stuck => rw [h2] at hl1; cases hl1
      | ok f2 e2 =>
        rw [h2] at hl1
        refine hb F1 H1 e1 σc _ f2 e2 sc1.rel h2 ?_
        intro F2 H2 σ2 s2
        have sc2 := sc1.trans s2
        cases f2 with
        | nx => exact ⟨n, by omega, F2, e2, sc2, hl1⟩
        | cont => exact ⟨n, by omega, F2, e2, sc2, hl1⟩
        | brk =>
          cases hl1
          exact p F2 H2 σ2 sc2
        | ret r =>
          cases hl1
          intro v sl fr
          exact p F2 H2 σ2 sc2 v sl fun z => (fr z).imp (fun y => y.back sc1.ext.stay) id
def forFn (keep : Nat) (tg : List Nat) (one : Bool) (mb : Ev → Out Flow') (d : D) (en : Ev) : Out Flow' :=
  match target keep tg one d en with
  | none => .stuck
  | some en1 => mb en1
theorem sndS_for {wi : TI} {mi : Ev → Out (List D)} {tg : List Nat} {one : Bool} {tb : TS} {mb m : Ev → Out Flow'} (hi : SndI g wi mi) (hb : SndS g keep tb mb)
    (hm : ∀ env, m env = (mi env).bind fun items e1 => forLoop (forFn keep tg one mb) items e1) : SndS g keep (tFor wi (denTg g.K tg one) tb) m := by
  intro F H env σ Dn fl env' R e p
  rw [hm] at e
  obtain ⟨items, e1, h1, e⟩ := bind_ok e
  refine hi F H env σ _ items e1 R h1 fun F1 H1 J S s1 hS wk => ?_
  refine ⟨fun i m σc Hc => ∃ (Fc : Addr → Prop) (ec : Ev), StepS g keep σ F H env σc Fc Hc ec ∧ S Fc Hc ∧ forLoop (forFn keep tg one mb) (items.drop i) ec = .ok fl env' ∧ i ≤ items.length ∧ m = items.length - i, ⟨items.length, F1, e1, s1.toS, hS, e, Nat.zero_le _, by simp⟩, ?_⟩
  rintro i m σc Hc ⟨Fc, ec, sc, hSc, hl, hil, rfl⟩
  by_cases hlt : i < items.length
  · refine .inr ⟨wk.go Fc Hc i items[i] hSc (List.getElem?_eq_getElem hlt), fun σ' H' => ∃ m', m' < items.length - i ∧ ∃ (Fc : Addr → Prop) (ec : Ev), StepS g keep σ F H env σ' Fc H' ec ∧ S Fc H' ∧ forLoop (forFn keep tg one mb) (items.drop (i + 1)) ec = .ok fl env' ∧ i + 1 ≤ items.length ∧ m' = items.length - (i + 1), fun σ' H' h => h, fun x H' hy => ?_⟩
    obtain ⟨nw, fx⟩ := wk.yld Fc Hc i items[i] x H' hSc (List.getElem?_eq_getElem hlt) hy
    rw [List.drop_eq_getElem_cons hlt, forLoop] at hl
    cases h2 : forFn keep tg one mb items[i] ec with
    | exc x e2 => rw [h2] at hl; cases hl
    | stuck => rw [h2] at hl; cases hl
    | ok f2 e2 =>
      rw [h2] at hl
      unfold forFn at h2
      cases k3 : target keep tg one items[i] ec with
      | none => rw [k3] at h2; cases h2
      | some env2 =>
        rw [k3] at h2
        simp only at h2
        refine tg_ok k3 (sc.rel.new nw) fx fun σ2 R2 T => ?_
        have sc2 : StepS g keep σ F H env σ2 Fc H' env2 := sc.trans (StepS.tg sc.rel (.new sc.rel nw) R2 T)
        have S1 : S Fc H' := wk.stab (fun _ => False) Fc Hc Fc H' nw.ext (fun _ z => z.elim) hSc
        refine hb Fc H' env2 σ2 _ f2 e2 R2 h2 ?_
        intro F3 H3 σ3 s3
        have sc3 := sc2.trans s3
        have S3 := wk.stab _ _ _ _ _ s3.ext R2.wk S1
        cases f2 with
        | nx => exact ⟨items.length - (i + 1), by omega, F3, e2, sc3, S3, hl, hlt, rfl⟩
        | cont => exact ⟨items.length - (i + 1), by omega, F3, e2, sc3, S3, hl, hlt, rfl⟩
        | brk =>
          cases hl
          exact p F3 H3 σ3 sc3
        | ret r =>
          cases hl
          intro v sl fr
          exact p F3 H3 σ3 sc3 v sl fun z => (fr z).imp (fun y => y.back sc2.ext.stay) id
  · have ei : i = items.length := by omega
    subst ei
    rw [List.drop_length, forLoop] at hl
    cases hl
    exact .inl ⟨wk.stop Fc Hc hSc, p Fc Hc σc sc⟩
end
end Ev
/-! Snd11: the readings of terms; the evaluator is right about them. -/
namespace Ev
open PySem L2 RZ StX
structure Dn where
  g : Gx
  sp : Nat → Sp
  w : World
  gcv : Nat → V
  gda : Nat → Addr
  gdw : Nat → List (Key × V)
def cV : D → V
  | .bl b => .bl b
  | .int i => .int i
  | .str s => .str s
  | _ => .non
def rZipL (K : PySem.W.Frag) : R2 := fun x y H Q => ∃ a b xs ys, x = .ref a ∧ y = .ref b ∧ ((SqL K H a xs ∧ SqL K H b ys) ∨ (SqT K H a xs ∧ SqT K H b ys)) ∧
  ∀ (p : Addr) (H' : Hp) (Ts : List Addr), H p = none → New H H' → H' p = some (.lst (Ts.map V.ref)) → Ts.length = min xs.length ys.length → (∀ (i : Nat) (T : Addr), Ts[i]? = some T → ∃ v w, xs[i]? = some v ∧ ys[i]? = some w ∧ H' T = some (.tup [v, w])) → Q (.ref p) H'
def rGin (K : PySem.W.Frag) (d : Addr) : V → Hp → VK → Prop := fun x H Q => ∃ (z : Str) (r : Option Value), x = .str z ∧ V.ref d = .ref d ∧ PySem.W.nsIn K d z = some r ∧ Q (.bl r.isSome) H
def rGix (K : PySem.W.Frag) (w : World) (d : Addr) : V → Hp → VK → Prop := fun y H Q => rIxD K w (.ref d) y H Q
def tGCopy (ws : List (Key × V)) : TE := fun _ H Q => ∀ p, H p = none → Q (.ref p) (upd H p (.dK ws))
def tCallV (fa : Nat → Option Addr) (sp : Nat → Sp) (i : Nat) (t : TA) : TE := fun σ H Q => ∃ f a, σ[i]? = some (some (.ref a)) ∧ fa f = some a ∧ t σ H fun vs H1 => sp f vs H1 Q E0
section
variable (dn : Dn)
mutual
def denE : Tm → TE
  | .var i => tVar i
  | .cst d => tC (cV d)
  | .gl i => tC (dn.gcv i)
  | .fnv i => tC (.ref ((dn.g.fa i).getD 0))
  | .bin o a b => tOp (rBin o) (denE a) (denE b)
  | .neg a => tUn rNeg (denE a)
  | .notv a => tUn (rNotT dn.g.K) (denE a)
  | .cmp o a b => tOp (rCmp dn.g.K o) (denE a) (denE b)
  | .isN a => tUn rIsN (denE a)
  | .isNN a => tUn rNotN (denE a)
  | .chain o p a b c => tChain (rCmp dn.g.K o) (rCmp dn.g.K p) (denE a) (denE b) (denE c)
  | .andv a b => tAndT dn.g.K (denE a) (denE b)
  | .orv a b => tOrT dn.g.K (denE a) (denE b)
  | .ife c a b => tIf (denC c) (denE a) (denE b)
  | .idx a b => tOp (rIdx dn.g.K) (denE a) (denE b)
  | .slc a lo hi => tSl (rSlc dn.g.K) (denE a) (denTo lo) (denTo hi)
  | .evn a lo => tEvn dn.g.K (denE a) (denTo lo)
  | .rev a => tUn (rRev dn.g.K) (denE a)
  | .bi f a => tUn (rBi dn.g.K f) (denE a)
  | .join s a => tM1 (rJoin dn.g.K) (denE s) (denE a)
  | .dget d k x => tDGet2 (denE d) (denE k) (denE x)
  | .zipl a b => tOp (rZipL dn.g.K) (denE a) (denE b)
  | .gin i a => tUn (rGin dn.g.K (dn.gda i)) (denE a)
  | .gidx i a => tUn (rGix dn.g.K dn.w (dn.gda i)) (denE a)
  | .gdict i => tGCopy (dn.gdw i)
  | .tupd es => tTup (denA es)
  | .lstd es => tLst (denA es)
  | .dctd .nil => tDNewK
  | .dctd (.cons k v r) => tDisp ((denE k, denE v) :: denP r)
  | .call f as => tCall (dn.sp f) [] E0 (denA as)
  | .callv i as => tCallV dn.g.fa dn.sp i (denA as)
  | .comp e tg one it c own => tLc (denI it) (denTg dn.g.K tg one) (denTc c) (denE e) own
  | .dcomp k v tg one it own => tDc (denI it) (denTg dn.g.K tg one) tYes (denE k) (denE v) own
  | .mu m i as => tBM dn.g.K "list" (rMu dn.g.K m) (tVar i) (denA as)
def denTo : To → TO
  | .no => tNoPart
  | .yes a => tPart (denE a)
def denTc : To' → TT
  | .no => tYes
  | .yes c => denC c
def denA : Tms → TA
  | .nil => tNil
  | .cons a r => tCons (denE a) (denA r)
  | .star a r => tStar dn.g.K (denE a) (denA r)
def denP : Tps → List (TE × TE)
  | .nil => []
  | .cons k v r => (denE k, denE v) :: denP r
def denI : It → TI
  | .seq a => iSeq dn.g.K (denE a)
  | .rng1 a => iRng1 (tCons (denE a) tNil)
  | .rng2 a b => iRng2 (tCons (denE a) (tCons (denE b) tNil))
  | .enum a => iEnumA dn.g.K (denE a)
  | .zip a b => iZipA dn.g.K (tCons (denE a) (tCons (denE b) tNil))
def denC : Ct → TT
  | .val a => tVal dn.g.K (denE a)
  | .cmp a => tTest (denE a)
  | .and a b => tAnd (denC a) (denC b)
  | .or a b => tOr (denC a) (denC b)
  | .not a => tNot (denC a)
end
mutual
def denS : Sm → TS
  | .asg i a => tAsg (denE dn a) (gName i)
  | .unp is a => tAsg (denE dn a) (denTg dn.g.K is false)
  | .par is es => tPars is (denA dn es)
  | .setk i k v => sDPut (tVar i) (denE dn k) (denE dn v)
  | .aug i a => tAug i (denE dn a) (ipI fun i j => i + j)
  | .ifs c a b => tIfS (denC dn c) (denSs a) (denSs b)
  | .fors tg one it b => tFor (denI dn it) (denTg dn.g.K tg one) (denSs b)
  | .whiles c b => tWhile (denC dn c) (denSs b)
  | .ret a => tRet (denE dn a)
  | .retn => tRetN
  | .expr a => tDrop (denE dn a)
  | .pass => tNext
  | .brk => tBreak
  | .cont => tCont
  | .rais _ _ => tNever
def denSs : Sms → TS
  | .nil => tNext
  | .cons s r => tSeq (denS s) (denSs r)
end
end
/-- the written constants are what the evaluator takes them for -/
structure Gok (pg : Pg) (dn : Dn) : Prop where
  gc : ∀ i d, pg.gc[i]? = some d → flatD d = true ∧ dn.gcv i = cV d
  gin : ∀ i kvs (z : Str), pg.gd[i]? = some kvs → ∃ r, PySem.W.nsIn dn.g.K (dn.gda i) z = some r ∧ r.isSome = (valD kvs (.inr z)).isSome
  gix : ∀ i kvs (z : Str) d, pg.gd[i]? = some kvs → valD kvs (.inr z) = some d → ∃ v, KDct dn.g.K dn.w (dn.gda i) z v ∧ ∀ F H, Fr dn.g F H d v
  gcp : ∀ i kvs, pg.gd[i]? = some kvs → ∀ F H, FrK dn.g F H kvs (dn.gdw i)
/-- a term's constants are plain, its defs are there -/
theorem cV_fr {g : Gx} {F : Addr → Prop} {H : Hp} {d : D} (h : flatD d = true) : Fr g F H d (cV d) := by
  cases d <;> first | (simp [flatD] at h; done) | skip
  · exact fr_non
  · exact fr_bl
  · exact fr_int
  · exact fr_str
theorem p1_gin {pg : Pg} {dn : Dn} (ok : Gok pg dn) (i : Nat) : P1 dn.g (rGin dn.g.K (dn.gda i)) (fun d => match d, pg.gd[i]? with
    | .str s, some kvs => some (fz (.bl (valD kvs (.inr s)).isSome))
    | _, _ => none) := by
  intro F H x d rv Q tk hx he q
  simp only at he
  cases d <;> first | (cases he; done) | skip
  rename_i s
  cases hg : pg.gd[i]? with
  | none => rw [hg] at he; cases he
  | some kvs =>
    rw [hg] at he
    cases he
    cases bor_str hx
    obtain ⟨r, h1, h2⟩ := ok.gin i kvs s hg
    exact ⟨s, r, rfl, rfl, h1, by rw [h2]; exact q _ _ .refl sl_bl fun z => by cases z⟩
theorem p1_gix {pg : Pg} {dn : Dn} (ok : Gok pg dn) (i : Nat) : P1 dn.g (rGix dn.g.K dn.w (dn.gda i)) (fun d => match d, pg.gd[i]? with
    | .str s, some kvs => (valD kvs (.inr s)).map fz
    | _, _ => none) := by
  intro F H x d rv Q tk hx he q
  simp only at he
  cases d <;> first | (cases he; done) | skip
  rename_i s
  cases hg : pg.gd[i]? with
  | none => rw [hg] at he; cases he
  | some kvs =>
    rw [hg] at he
    simp only at he
    cases hv : valD kvs (.inr s) with
    | none => rw [hv] at he; cases he
    | some d =>
      rw [hv] at he
      cases he
      cases bor_str hx
      obtain ⟨v, h1, h2⟩ := ok.gix i kvs s d hg hv
      exact ⟨_, s, v, rfl, rfl, h1, q _ _ .refl (sl_fz.mpr (h2 F H)) fun z => by cases z⟩
theorem p2_zipl {g : Gx} : P2 g (rZipL g.K) (fun x y => match x, y with
    | .lst xs, .lst ys => some (ow (.lst (zipD xs ys)))
    | .tup xs, .tup ys => some (ow (.lst (zipD xs ys)))
    | _, _ => none) := by
  intro F H x y d e rv Q tk hx hy he q
  have fin : ∀ {ds es : List D} {xs ys : List V}, FrL g F H ds xs → FrL g F H es ys → rv = ow (.lst (zipD ds es)) → ∀ (p : Addr) (H' : Hp) (Ts : List Addr), H p = none → New H H' → H' p = some (.lst (Ts.map V.ref)) → Ts.length = min xs.length ys.length → (∀ (i : Nat) (T : Addr), Ts[i]? = some T → ∃ v w, xs[i]? = some v ∧ ys[i]? = some w ∧ H' T = some (.tup [v, w])) → Q (.ref p) H' := by
    intro ds es xs ys f1 f2 er p H' Ts hp n h1 h2 h3
    subst er
    refine q H' _ n (sl_ow.mpr ⟨p, _, rfl, fun z => tk p z hp, h1, ?_⟩) fun _ => ⟨p, rfl, hp⟩
    have f1' := f1.new n
    have f2' := f2.new n
    clear q h1 hx hy he f1 f2
    have key : ∀ (ds es : List D) (xs ys : List V) (Ts : List Addr), FrL g F H' ds xs → FrL g F H' es ys → Ts.length = min xs.length ys.length → (∀ (i : Nat) (T : Addr), Ts[i]? = some T → ∃ v w, xs[i]? = some v ∧ ys[i]? = some w ∧ H' T = some (.tup [v, w])) → FrL g F H' (zipD ds es) (Ts.map V.ref) := by
      intro ds
      induction ds with
      | nil =>
        intro es xs ys Ts f1 f2 hl ht
        rw [FrL] at f1
        subst f1
        have : Ts = [] := List.eq_nil_of_length_eq_zero (by simpa using hl)
        subst this
        simp only [zipD]
        exact FrL.nil
      | cons d ds ih =>
        intro es xs ys Ts f1 f2 hl ht
        cases es with
        | nil =>
          rw [FrL] at f2
          subst f2
          have : Ts = [] := List.eq_nil_of_length_eq_zero (by simpa using hl)
          subst this
          simp only [zipD]
          exact FrL.nil
        | cons e es =>
          rw [FrL] at f1 f2
          obtain ⟨x, xr, rfl, g1, g2⟩ := f1
          obtain ⟨y, yr, rfl, k1, k2⟩ := f2
          cases Ts with
          | nil => simp at hl
          | cons T Tr =>
            obtain ⟨v, w, e1, e2, e3⟩ := ht 0 T rfl
            simp at e1 e2
            subst e1; subst e2
            simp only [zipD, List.map_cons]
            refine FrL.cons (fr_tup e3 (.cons g1 (.cons k1 .nil))) (ih es xr yr Tr g2 k2 (by simp at hl; omega) fun i T' h => ?_)
            obtain ⟨v, w, q1, q2, q3⟩ := ht (i + 1) T' (by simpa using h)
            exact ⟨v, w, by simpa using q1, by simpa using q2, q3⟩
    exact key ds es xs ys Ts f1' f2' h2 h3
  simp only at he
  split at he
  · cases he
    obtain ⟨a, xs, rfl, h1, h2⟩ := hx
    obtain ⟨b, ys, rfl, h3, h4⟩ := hy
    exact ⟨a, b, xs, ys, rfl, rfl, .inl ⟨SqL.of h1, SqL.of h3⟩, fin h2 h4 rfl⟩
  · cases he
    obtain ⟨a, xs, rfl, h1, h2⟩ := bor_tup hx
    obtain ⟨b, ys, rfl, h3, h4⟩ := bor_tup hy
    exact ⟨a, b, xs, ys, rfl, rfl, .inr ⟨h1, h3⟩, fin h2 h4 rfl⟩
  · cases he
mutual
/-- constants of a term are plain, defs as values are there -/
def okE (fa : Nat → Option Addr) : Tm → Prop
  | .var _ => True
  | .cst d => flatD d = true
  | .gl _ => True
  | .fnv i => (fa i).isSome = true
  | .bin _ a b => okE fa a ∧ okE fa b
  | .neg a => okE fa a
  | .notv a => okE fa a
  | .cmp _ a b => okE fa a ∧ okE fa b
  | .isN a => okE fa a
  | .isNN a => okE fa a
  | .chain _ _ a b c => okE fa a ∧ okE fa b ∧ okE fa c
  | .andv a b => okE fa a ∧ okE fa b
  | .orv a b => okE fa a ∧ okE fa b
  | .ife c a b => okC fa c ∧ okE fa a ∧ okE fa b
  | .idx a b => okE fa a ∧ okE fa b
  | .slc a lo hi => okE fa a ∧ okTo fa lo ∧ okTo fa hi
  | .evn a lo => okE fa a ∧ okTo fa lo
  | .rev a => okE fa a
  | .bi _ a => okE fa a
  | .join s a => okE fa s ∧ okE fa a
  | .dget d k x => okE fa d ∧ okE fa k ∧ okE fa x
  | .zipl a b => okE fa a ∧ okE fa b
  | .gin _ a => okE fa a
  | .gidx _ a => okE fa a
  | .gdict _ => True
  | .tupd es => okA fa es
  | .lstd es => okA fa es
  | .dctd ps => okP fa ps
  | .call _ as => okA fa as
  | .callv _ as => okA fa as
  | .comp e _ _ it c _ => okE fa e ∧ okI fa it ∧ okTc fa c
  | .dcomp k v _ _ it _ => okE fa k ∧ okE fa v ∧ okI fa it
  | .mu _ _ as => okA fa as
def okTo (fa : Nat → Option Addr) : To → Prop
  | .no => True
  | .yes a => okE fa a
def okTc (fa : Nat → Option Addr) : To' → Prop
  | .no => True
  | .yes c => okC fa c
def okA (fa : Nat → Option Addr) : Tms → Prop
  | .nil => True
  | .cons a r => okE fa a ∧ okA fa r
  | .star a r => okE fa a ∧ okA fa r
def okP (fa : Nat → Option Addr) : Tps → Prop
  | .nil => True
  | .cons k v r => okE fa k ∧ okE fa v ∧ okP fa r
def okI (fa : Nat → Option Addr) : It → Prop
  | .seq a => okE fa a
  | .rng1 a => okE fa a
  | .rng2 a b => okE fa a ∧ okE fa b
  | .enum a => okE fa a
  | .zip a b => okE fa a ∧ okE fa b
def okC (fa : Nat → Option Addr) : Ct → Prop
  | .val a => okE fa a
  | .cmp a => okE fa a
  | .and a b => okC fa a ∧ okC fa b
  | .or a b => okC fa a ∧ okC fa b
  | .not a => okC fa a
end
section
variable {pg : Pg} {cf : Nat → List Rv → COut} {keep : Nat} {dn : Dn} (ok : Gok pg dn) (hsp : ∀ f, dn.sp f = spOf dn.g cf pg.keeps f)
include ok hsp
theorem sndF_star {a : Tm} {ta : TE} {tr : TA} {ma : Ev → Out Rv} {mr m : Ev → Out (List D)} (ha : SndE dn.g ta ma) (hr : SndF dn.g tr mr)
    (hm : ∀ env, m env = (ma env).bind fun x e1 => match seqD x.2 with
      | some ys => (mr e1).bind fun xs e2 => .ok (ys ++ xs) e2
      | none => .stuck) : SndF dn.g (tStar dn.g.K ta tr) m := by
  intro F H env σ Q ds env' R e q
  rw [hm] at e
  obtain ⟨x, e1, h1, e⟩ := bind_ok e
  cases hs : seqD x.2 with
  | none => rw [hs] at e; cases e
  | some ys =>
    rw [hs] at e
    simp only at e
    obtain ⟨xs, e2, h2, e⟩ := bind_ok e
    cases e
    refine ha.frz R h1 fun F1 H1 v s1 f1 => ?_
    obtain ⟨p, vs, rfl, hp, fv⟩ := seq_of f1.bor hs
    refine ⟨p, vs, rfl, hp, ?_⟩
    refine hr F1 H1 e1 σ _ xs env' s1.rel h2 fun F2 H2 ws s2 f2 => ?_
    exact q F2 H2 _ (s1.trans s2) ((s2.frL s1.rel fv).app f2)
mutual
theorem sndE : ∀ t : Tm, okE dn.g.fa t → SndE dn.g (denE dn t) (evE pg cf keep t)
  | .var i, _ => by rw [denE]; exact snd_var i
  | .cst d, h => by
    rw [denE]
    exact snd_const (d := d) (fun env r env' e => by rw [evE] at e; cases e; exact ⟨rfl, rfl⟩) fun F H => cV_fr (by rw [okE] at h; exact h)
  | .gl i, h => by
    rw [denE]
    intro F H env σ Q r env' R e q
    rw [evE] at e
    obtain ⟨h1, rfl⟩ := lift_ok e
    cases hg : pg.gc[i]? with
    | none => rw [hg] at h1; cases h1
    | some d =>
      rw [hg] at h1
      cases h1
      obtain ⟨q1, q2⟩ := ok.gc i d hg
      exact q F H _ (.refl R) (sl_fz.mpr (by rw [q2]; exact cV_fr q1)) fun z => by cases z
  | .fnv i, h => by
    rw [denE]
    refine snd_const (d := .fn i) (fun env r env' e => by rw [evE] at e; cases e; exact ⟨rfl, rfl⟩) fun F H => ?_
    rw [okE] at h
    rw [Fr]
    cases hf : dn.g.fa i with
    | none => rw [hf] at h; cases h
    | some a => exact ⟨a, rfl, rfl⟩
  | .bin o a b, h => by
    rw [okE] at h
    rw [denE]
    intro F H env σ Q r env' R e q
    rw [evE] at e
    exact snd_op2 (sndO a h.1) (sndO b h.2) (p2_bin o) F H env σ Q r env' R e q
  | .neg a, h => by
    rw [okE] at h
    rw [denE]
    intro F H env σ Q r env' R e q
    rw [evE] at e
    exact snd_op1 (sndO a h) p1_neg F H env σ Q r env' R e q
  | .notv a, h => by
    rw [okE] at h
    rw [denE]
    intro F H env σ Q r env' R e q
    rw [evE] at e
    exact snd_op1 (sndO a h) p1_not F H env σ Q r env' R e q
  | .cmp o a b, h => by
    rw [okE] at h
    rw [denE]
    intro F H env σ Q r env' R e q
    rw [evE] at e
    exact snd_op2 (sndO a h.1) (sndO b h.2) (p2_cmp o) F H env σ Q r env' R e q
  | .isN a, h => by
    rw [okE] at h
    rw [denE]
    intro F H env σ Q r env' R e q
    rw [evE] at e
    exact snd_op1 (sndO a h) p1_isN F H env σ Q r env' R e q
  | .isNN a, h => by
    rw [okE] at h
    rw [denE]
    intro F H env σ Q r env' R e q
    rw [evE] at e
    exact snd_op1 (sndO a h) p1_isNN F H env σ Q r env' R e q
  | .chain o p a b c, h => by
    rw [okE] at h
    rw [denE]
    exact snd_chain (sndO a h.1) (sndO b h.2.1) (sndO c h.2.2) fun env => by (rw [evE]; first | done | rfl)
  | .andv a b, h => by
    rw [okE] at h
    rw [denE]
    exact snd_and (sndE a h.1) (sndE b h.2) fun env => by (rw [evE]; first | done | rfl)
  | .orv a b, h => by
    rw [okE] at h
    rw [denE]
    exact snd_or (sndE a h.1) (sndE b h.2) fun env => by (rw [evE]; first | done | rfl)
  | .ife c a b, h => by
    rw [okE] at h
    rw [denE]
    exact snd_ife (sndC c h.1) (sndE a h.2.1) (sndE b h.2.2) fun env => by (rw [evE]; first | done | rfl)
  | .idx a b, h => by
    rw [okE] at h
    rw [denE]
    intro F H env σ Q r env' R e q
    rw [evE] at e
    exact snd_op2 (sndO a h.1) (sndO b h.2) p2_idx F H env σ Q r env' R e q
  | .slc a lo hi, h => by
    rw [okE] at h
    rw [denE]
    exact snd_slc (sndO a h.1) (sndTo lo h.2.1) (sndTo hi h.2.2) fun env => by (rw [evE]; first | done | rfl)
  | .evn a lo, h => by
    rw [okE] at h
    rw [denE]
    exact snd_evn (sndO a h.1) (sndTo lo h.2) fun env => by (rw [evE]; first | done | rfl)
  | .rev a, h => by
    rw [okE] at h
    rw [denE]
    intro F H env σ Q r env' R e q
    rw [evE] at e
    exact snd_op1 (sndO a h) p1_rev F H env σ Q r env' R e q
  | .bi f a, h => by
    rw [okE] at h
    rw [denE]
    intro F H env σ Q r env' R e q
    rw [evE] at e
    exact snd_op1 (sndO a h) (p1_bi f) F H env σ Q r env' R e q
  | .join s a, h => by
    rw [okE] at h
    rw [denE]
    exact snd_join (sndE s h.1) (sndO a h.2) fun env => by (rw [evE]; first | done | rfl)
  | .dget d k x, h => by
    rw [okE] at h
    rw [denE]
    exact snd_dget (sndO d h.1) (sndO k h.2.1) (sndE x h.2.2) fun env => by (rw [evE]; first | done | rfl)
  | .zipl a b, h => by
    rw [okE] at h
    rw [denE]
    intro F H env σ Q r env' R e q
    rw [evE] at e
    exact snd_op2 (sndO a h.1) (sndO b h.2) p2_zipl F H env σ Q r env' R e q
  | .gin i a, h => by
    rw [okE] at h
    rw [denE]
    intro F H env σ Q r env' R e q
    rw [evE] at e
    exact snd_op1 (sndO a h) (p1_gin ok i) F H env σ Q r env' R e q
  | .gidx i a, h => by
    rw [okE] at h
    rw [denE]
    intro F H env σ Q r env' R e q
    rw [evE] at e
    exact snd_op1 (sndO a h) (p1_gix ok i) F H env σ Q r env' R e q
  | .gdict i, h => by
    rw [denE]
    intro F H env σ Q r env' R e q p hp
    rw [evE] at e
    obtain ⟨h1, rfl⟩ := lift_ok e
    cases hg : pg.gd[i]? with
    | none => rw [hg] at h1; cases h1
    | some kvs =>
      rw [hg] at h1
      cases h1
      exact newD R.trk hp (ok.gcp i kvs hg F H) fun H2 v n sl fr => q F H2 v (.new R n) sl fr
  | .tupd es, h => by
    rw [okE] at h
    rw [denE]
    exact snd_tup (sndF es h) fun env => by (rw [evE]; first | done | rfl)
  | .lstd es, h => by
    rw [okE] at h
    rw [denE]
    exact snd_lst (sndF es h) fun env => by (rw [evE]; first | done | rfl)
  | .dctd .nil, h => by
    rw [denE]
    exact snd_dct0 fun env => by rw [evE, evP]; rfl
  | .dctd (.cons k v r), h => by
    rw [okE] at h
    rw [denE]
    have := sndP (.cons k v r) h
    rw [denP] at this
    exact snd_dct this fun env => by (rw [evE]; first | done | rfl)
  | .call f as, h => by
    rw [okE] at h
    rw [denE]
    intro F H env σ Q r env' R e q
    rw [evE] at e
    obtain ⟨os, e1, h1, e⟩ := bind_ok e
    refine sndA as h F H env σ _ os e1 R h1 fun F1 H1 vs s1 o1 nd fr => ?_
    rw [List.append_nil, hsp]
    exact snd_doCall R s1 o1 nd fr e q
  | .callv i as, h => by
    rw [okE] at h
    rw [denE]
    intro F H env σ Q r env' R e q
    rw [evE] at e
    cases h0 : getS env i with
    | none => rw [h0] at e; cases e
    | some r0 =>
      obtain ⟨b, d⟩ := r0
      rw [h0] at e
      cases b <;> first | (cases e; done) | skip
      cases d <;> first | (cases e; done) | skip
      rename_i f
      simp only at e
      obtain ⟨v, ev, fv⟩ := R.fz h0
      rw [Fr] at fv
      obtain ⟨a, rfl, ha⟩ := fv
      obtain ⟨os, e1, h1, e⟩ := bind_ok e
      refine ⟨f, a, ev, ha, ?_⟩
      refine sndA as h F H env σ _ os e1 R h1 fun F1 H1 vs s1 o1 nd fr => ?_
      rw [hsp]
      exact snd_doCall R s1 o1 nd fr e q
  | .comp e tg one it c own, h => by
    rw [okE] at h
    rw [denE]
    refine snd_comp (keep := keep) (sndI it h.2.1) (sndTc c h.2.2) (sndE e h.1) fun env => ?_
    rw [evE]
    rfl
  | .dcomp k v tg one it own, h => by
    rw [okE] at h
    rw [denE]
    refine snd_dcomp (keep := keep) (sndI it h.2.2) (sndE k h.1) (sndE v h.2.1) fun env => ?_
    rw [evE]
    rfl
  | .mu m i as, h => by
    rw [okE] at h
    rw [denE]
    exact snd_mu (sndF as h) fun env => by (rw [evE]; first | done | rfl)
theorem sndO : ∀ t : Tm, okE dn.g.fa t → SndO dn.g (denE dn t) (opd t (evE pg cf keep t))
  | t, h => snd_opd (sndE t h) fun i e => by subst e; rw [denE]
theorem sndTo : ∀ t : To, okTo dn.g.fa t → SndT dn.g (denTo dn t) (evTo pg cf keep t)
  | .no, _ => by rw [denTo]; exact sndT_no fun env => by (rw [evTo]; first | done | rfl)
  | .yes a, h => by
    rw [okTo] at h
    rw [denTo]
    exact sndT_yes (sndE a h) fun env => by (rw [evTo]; first | done | rfl)
theorem sndTc : ∀ t : To', okTc dn.g.fa t → SndC dn.g (denTc dn t) (evTc pg cf keep t)
  | .no, _ => by
    rw [denTc]
    intro F H env σ Q b env' R e q
    rw [evTc] at e
    cases e
    exact q F H (.refl R)
  | .yes c, h => by
    rw [okTc] at h
    rw [denTc]
    intro F H env σ Q b env' R e q
    rw [evTc] at e
    exact sndC c h F H env σ Q b env' R e q
theorem sndF : ∀ t : Tms, okA dn.g.fa t → SndF dn.g (denA dn t) (evF pg cf keep t)
  | .nil, _ => by rw [denA]; exact sndF_nil fun env => by (rw [evF]; first | done | rfl)
  | .cons a r, h => by
    rw [okA] at h
    rw [denA]
    exact sndF_cons (sndE a h.1) (sndF r h.2) fun env => by (rw [evF]; first | done | rfl)
  | .star a r, h => by
    rw [okA] at h
    rw [denA]
    exact sndF_star ok hsp (a := a) (sndE a h.1) (sndF r h.2) fun env => by (rw [evF]; first | done | rfl)
theorem sndA : ∀ t : Tms, okA dn.g.fa t → SndA dn.g (denA dn t) (evA pg cf keep t)
  | .nil, _ => by rw [denA]; exact sndA_nil fun env => by (rw [evA]; first | done | rfl)
  | .cons a r, h => by
    rw [okA] at h
    rw [denA]
    exact sndA_cons (sndO a h.1) (sndA r h.2) fun env => by (rw [evA]; first | done | rfl)
  | .star a r, h => by
    intro F H env σ Q os env' R e q
    rw [evA] at e
    cases e
theorem sndP : ∀ t : Tps, okP dn.g.fa t → SndP dn.g (denP dn t) (evP pg cf keep t)
  | .nil, _ => by rw [denP]; exact sndP_nil fun env => by (rw [evP]; first | done | rfl)
  | .cons k v r, h => by
    rw [okP] at h
    rw [denP]
    exact sndP_cons (sndE k h.1) (sndE v h.2.1) (sndP r h.2.2) fun env => by (rw [evP]; first | done | rfl)
theorem sndI : ∀ t : It, okI dn.g.fa t → SndI dn.g (denI dn t) (evI pg cf keep t)
  | .seq a, h => by
    rw [okI] at h
    rw [denI]
    exact sndI_seq (sndE a h) fun env => by (rw [evI]; first | done | rfl)
  | .rng1 a, h => by
    rw [okI] at h
    rw [denI]
    exact sndI_rng1 (sndE a h) fun env => by (rw [evI]; first | done | rfl)
  | .rng2 a b, h => by
    rw [okI] at h
    rw [denI]
    exact sndI_rng2 (sndE a h.1) (sndE b h.2) fun env => by (rw [evI]; first | done | rfl)
  | .enum a, h => by
    rw [okI] at h
    rw [denI]
    exact sndI_enum (sndE a h) fun env => by (rw [evI]; first | done | rfl)
  | .zip a b, h => by
    rw [okI] at h
    rw [denI]
    exact sndI_zip (sndE a h.1) (sndE b h.2) fun env => by (rw [evI]; first | done | rfl)
theorem sndC : ∀ t : Ct, okC dn.g.fa t → SndC dn.g (denC dn t) (evC pg cf keep t)
  | .val a, h => by
    rw [okC] at h
    rw [denC]
    exact sndC_val (sndO a h) fun env => by (rw [evC]; first | done | rfl)
  | .cmp a, h => by
    rw [okC] at h
    rw [denC]
    exact sndC_cmp (sndE a h) fun env => by (rw [evC]; first | done | rfl)
  | .and a b, h => by
    rw [okC] at h
    rw [denC]
    exact sndC_and (sndC a h.1) (sndC b h.2) fun env => by (rw [evC]; first | done | rfl)
  | .or a b, h => by
    rw [okC] at h
    rw [denC]
    exact sndC_or (sndC a h.1) (sndC b h.2) fun env => by (rw [evC]; first | done | rfl)
  | .not a, h => by
    rw [okC] at h
    rw [denC]
    exact sndC_not (sndC a h) fun env => by (rw [evC]; first | done | rfl)
end
end
end Ev
/-! Snd12: statements' readings; a def's body. -/
namespace Ev
open PySem L2 RZ StX
mutual
def okS (fa : Nat → Option Addr) : Sm → Prop
  | .asg _ a => okE fa a
  | .unp _ a => okE fa a
  | .par is es => is.length ≤ sizeLine ∧ okA fa es
  | .setk _ k v => okE fa k ∧ okE fa v
  | .aug _ a => okE fa a
  | .ifs c a b => okC fa c ∧ okSs fa a ∧ okSs fa b
  | .fors _ _ it b => okI fa it ∧ okSs fa b
  | .whiles c b => okC fa c ∧ okSs fa b
  | .ret a => okE fa a
  | .retn => True
  | .expr a => okE fa a
  | .pass => True
  | .brk => True
  | .cont => True
  | .rais _ _ => True
def okSs (fa : Nat → Option Addr) : Sms → Prop
  | .nil => True
  | .cons s r => okS fa s ∧ okSs fa r
end
section
variable {pg : Pg} {cf : Nat → List Rv → COut} {keep wf : Nat} {dn : Dn} (ok : Gok pg dn) (hsp : ∀ f, dn.sp f = spOf dn.g cf pg.keeps f)
include ok hsp
theorem sndR : ∀ t : Tms, okA dn.g.fa t → SndR dn.g (denA dn t) (evR pg cf keep t)
  | .nil, _ => by rw [denA]; exact sndR_nil fun env => by rw [evR]
  | .cons a r, h => by
    rw [okA] at h
    rw [denA]
    exact sndR_cons (sndE ok hsp a h.1) (sndR r h.2) fun env => by rw [evR]
  | .star a r, h => by
    intro F H env σ Q os env' R e q
    rw [evR] at e
    cases e
mutual
theorem sndSm : ∀ s : Sm, okS dn.g.fa s → SndS dn.g keep (denS dn s) (exS pg cf keep wf s)
  | .asg i a, h => by
    rw [okS] at h
    rw [denS]
    exact sndS_asg (sndE ok hsp a h) fun env => by (rw [exS]; first | done | rfl)
  | .unp is a, h => by
    rw [okS] at h
    rw [denS]
    exact sndS_unp (sndE ok hsp a h) fun env => by (rw [exS]; first | done | rfl)
  | .par is es, h => by
    rw [okS] at h
    rw [denS]
    exact sndS_par (sndR ok hsp es h.2) h.1 fun env => by (rw [exS]; first | done | rfl)
  | .setk i k v, h => by
    rw [okS] at h
    rw [denS]
    exact sndS_setk (sndE ok hsp v h.2) (sndO ok hsp k h.1) fun env => by (rw [exS]; first | done | rfl)
  | .aug i a, h => by
    rw [okS] at h
    rw [denS]
    exact sndS_aug (sndE ok hsp a h) fun env => by (rw [exS]; first | done | rfl)
  | .ifs c a b, h => by
    rw [okS] at h
    rw [denS]
    exact sndS_if (sndC ok hsp c h.1) (sndSs a h.2.1) (sndSs b h.2.2) fun env => by (rw [exS]; first | done | rfl)
  | .fors tg one it b, h => by
    rw [okS] at h
    rw [denS]
    exact sndS_for (sndI ok hsp it h.1) (sndSs b h.2) fun env => by (rw [exS]; first | done | rfl)
  | .whiles c b, h => by
    rw [okS] at h
    rw [denS]
    exact sndS_while (wf := wf) (sndC ok hsp c h.1) (sndSs b h.2) fun env => by (rw [exS]; first | done | rfl)
  | .ret a, h => by
    rw [okS] at h
    rw [denS]
    by_cases hv : ∃ i, a = .var i
    · obtain ⟨i, rfl⟩ := hv
      rw [denE]
      exact sndS_retv fun env => by (rw [exS]; first | done | rfl)
    · refine sndS_ret (sndE (keep := keep) ok hsp a h) fun env => ?_
      rw [exS]
      exact fun i z => hv ⟨i, z⟩
  | .retn, h => by rw [denS]; exact sndS_retn fun env => by rw [exS]
  | .expr a, h => by
    rw [okS] at h
    rw [denS]
    exact sndS_expr (sndE ok hsp a h) fun env => by (rw [exS]; first | done | rfl)
  | .pass, h => by rw [denS]; exact sndS_pass fun env => by rw [exS]
  | .brk, h => by rw [denS]; exact sndS_brk fun env => by rw [exS]
  | .cont, h => by rw [denS]; exact sndS_cont fun env => by rw [exS]
  | .rais c as, h => by
    rw [denS]
    refine sndS_never fun env fl e' z => ?_
    rw [exS] at z
    obtain ⟨ds, e1, _, z⟩ := bind_ok z
    cases z
theorem sndSs : ∀ s : Sms, okSs dn.g.fa s → SndS dn.g keep (denSs dn s) (exSs pg cf keep wf s)
  | .nil, h => by rw [denSs]; exact sndS_pass fun env => by rw [exSs]
  | .cons s r, h => by
    rw [okSs] at h
    rw [denSs]
    exact sndS_seq (sndSm s h.1) (sndSs r h.2) fun env => by (rw [exSs]; first | done | rfl)
end
end
/-! ### a def's body -/
theorem entry_get {rs : List Rv} {n i : Nat} {r : Rv} : getS (rs.map some ++ List.replicate n none) i = some r ↔ rs[i]? = some r := by
  unfold getS
  by_cases hi : i < rs.length
  · rw [List.getElem?_append_left (by simpa using hi), List.getElem?_map, List.getElem?_eq_getElem hi]
    simp
  · rw [List.getElem?_append_right (by simpa using hi), List.getElem?_eq_none (l := rs) (by omega), List.getElem?_replicate]
    split <;> simp
theorem start_get {N : List Str} {vs : List V} {i : Nat} {v : V} : (L2.start N vs)[i]? = some (some v) ↔ vs[i]? = some v := by
  unfold L2.start
  by_cases hi : i < vs.length
  · rw [List.getElem?_append_left (by simpa using hi), List.getElem?_map, List.getElem?_eq_getElem hi]
    simp
  · rw [List.getElem?_append_right (by simpa using hi), List.getElem?_eq_none (l := vs) (by omega), List.getElem?_replicate]
    split <;> simp
theorem rel_start {g : Gx} {F : Addr → Prop} {H : Hp} {rs : List Rv} {vs : List V} {N : List Str} {nn np : Nat} (A : ArgsOk g F H rs vs) (hn : N.length = nn) (hl : rs.length = np) (hle : np ≤ nn) :
    Rel g F H (rs.map some ++ List.replicate (nn - np) none) (L2.start N vs) := by
  have hl2 := A.len
  refine ⟨?_, fun i r h => ?_, fun i j d d' a h1 h2 h3 h4 => ?_, A.trk⟩
  · unfold L2.start
    simp
    omega
  · have h := entry_get.mp h
    have hi : i < vs.length := by
      have := (List.getElem?_eq_some_iff.mp h).1
      omega
    exact ⟨vs[i], start_get.mpr (List.getElem?_eq_getElem hi), A.item i r _ h (List.getElem?_eq_getElem hi)⟩
  · exact A.inj i j d d' a (entry_get.mp h1) (entry_get.mp h2) (start_get.mp h3) (start_get.mp h4)
theorem own_start {rs : List Rv} {vs : List V} {N : List Str} {n : Nat} {a : Addr} : OwnAt (rs.map some ++ List.replicate n none) (L2.start N vs) a ↔ OwnArg rs vs a := by
  constructor
  · rintro ⟨i, d, h1, h2⟩
    exact ⟨i, d, entry_get.mp h1, start_get.mp h2⟩
  · rintro ⟨i, d, h1, h2⟩
    exact ⟨i, d, entry_get.mpr h1, start_get.mpr h2⟩
/-- what is wanted behind a call, at the bound parameters -/
def Back (g : Gx) (keep : Nat) (F : Addr → Prop) (H : Hp) (rs : List Rv) (vs : List V) (r : Rv) (outs : List Slot) (Q : VK) : Prop := ∀ F' H' v, Ext (OwnArg rs vs) F H F' H' → (∀ a, F' a → H' a ≠ none) → Sl g F' H' r v →
    (r.1 = true → ∃ a, v = .ref a ∧ (H a = none ∨ ∃ (j : Nat) (d : D), keep ≤ j ∧ rs[j]? = some (true, d) ∧ vs[j]? = some (.ref a))) →
    (∀ (j : Nat) (d : D) (a : Addr), j < keep → rs[j]? = some (true, d) → vs[j]? = some (.ref a) → ∃ r', outs[j]? = some (some r') ∧ Sl g F' H' r' (.ref a) ∧ (r'.1 = true ∨ F' a)) → Q v H'
theorem body_ok {pg : Pg} {cf : Nat → List Rv → COut} {wf : Nat} {dn : Dn} (ok : Gok pg dn) (hsp : ∀ f, dn.sp f = spOf dn.g cf pg.keeps f) {d : Fd} {N : List Str} (hN : N.length = d.nn) (hle : d.np ≤ d.nn) (hkp : d.keep ≤ d.np) (hok : okSs dn.g.fa d.body)
    {F : Addr → Prop} {H : Hp} {rs : List Rv} {vs : List V} {fl : Flow'} {e : Ev} {Q : VK} {r : Rv} (A : ArgsOk dn.g F H rs vs) (hl : rs.length = d.np)
    (he : exSs pg cf d.keep wf d.body (rs.map some ++ List.replicate (d.nn - d.np) none) = .ok fl e) (hf : fl = .ret r ∨ (fl = .nx ∧ r = fz .non)) (q : Back dn.g d.keep F H rs vs r (e.take d.np) Q) :
    denSs dn d.body { nx := fun _ H' => Q .non H', rt := Q } (L2.start N vs) H := by
  have R := rel_start (N := N) A hN hl hle
  refine sndSs ok hsp d.body hok F H _ _ _ fl e R he fun F' H' σ' s => ?_
  have x : Ext (OwnArg rs vs) F H F' H' := s.ext.wider fun a h => .inl (own_start.mp h)
  have outs : ∀ (j : Nat) (d1 : D) (a : Addr), j < d.keep → rs[j]? = some (true, d1) → vs[j]? = some (.ref a) → ∃ r', (e.take d.np)[j]? = some (some r') ∧ Sl dn.g F' H' r' (.ref a) ∧ (r'.1 = true ∨ F' a) := by
    intro j d1 a hj h1 h2
    have g0 : getS (rs.map some ++ List.replicate (d.nn - d.np) none) j = some (true, d1) := entry_get.mpr h1
    have k0 : (L2.start N vs)[j]? = some (some (.ref a)) := start_get.mpr h2
    obtain ⟨r', hr'⟩ := s.live j _ hj g0
    have k1 := s.kept j hj
    obtain ⟨v, ev, sl⟩ := s.rel.slot j r' hr'
    rw [k1, k0] at ev
    cases ev
    refine ⟨r', ?_, sl, ?_⟩
    · have hlt := getS_lt hr'
      rw [List.getElem?_take_of_lt (by omega), List.getElem?_eq_getElem hlt]
      unfold getS at hr'
      rw [List.getElem?_eq_getElem hlt] at hr'
      exact congrArg some hr'
    · rcases s.ownk j d1 a hj g0 k0 with ⟨d2, z⟩ | z
      · rw [hr'] at z; cases z
        exact .inl rfl
      · exact .inr z
  rcases hf with rfl | ⟨rfl, rfl⟩
  · intro v sl fr
    refine q F' H' v x s.rel.trk sl (fun z => ?_) outs
    rcases fr z with ⟨a, ea, na⟩ | ⟨i, a, hi, ea, h1, h2⟩
    · exact ⟨a, ea, .inl na⟩
    · refine ⟨a, ea, ?_⟩
      rcases s.sub a ⟨i, _, h1, h2⟩ with y | y
      · obtain ⟨j, d1, h3, h4⟩ := own_start.mp y
        by_cases hj : j < d.keep
        · exfalso
          have g0 : getS (rs.map some ++ List.replicate (d.nn - d.np) none) j = some (true, d1) := entry_get.mpr h3
          have k0 : (L2.start N vs)[j]? = some (some (.ref a)) := start_get.mpr h4
          rcases s.ownk j d1 a hj g0 k0 with ⟨d2, w⟩ | w
          · have e1 := s.rel.inj i j _ d2 a h1 w h2 (by rw [s.kept j hj]; exact k0)
            omega
          · exact (s.rel.wk a ⟨i, _, h1, h2⟩).1 w
        · exact .inr ⟨j, d1, by omega, h3, h4⟩
      · exact .inl y
  · exact q F' H' .non x s.rel.trk (sl_fz.mpr fr_non) (fun z => by cases z) outs
end Ev
/-! Ru1: rules over the layer that the readings want: operators, comparisons, items. -/
namespace Ev
open PySem PySem.Spec PyProof.Rows L2 RZ StX
section
variable {X : Cx}
theorem PE.imp {e : Expr} {t t' : TE} (h : PE X e t) (m : ∀ σ H Q, t' σ H Q → t σ H Q) : PE X e t' := ⟨fun pins s σ H Q I q => h.run pins s σ H Q I (m _ _ _ q)⟩
theorem PT.imp {e : Expr} {t t' : TT} (h : PT X e t) (m : ∀ σ H Q, t' σ H Q → t σ H Q) : PT X e t' := ⟨fun pins s σ H Q I q => h.run pins s σ H Q I (m _ _ _ q)⟩
theorem PA.imp {e : List Expr} {t t' : TA} (h : PA X e t) (m : ∀ σ H Q, t' σ H Q → t σ H Q) : PA X e t' := ⟨fun pos pins s σ H Q I q => h.run pos pins s σ H Q I (m _ _ _ q)⟩
theorem PS.imp {e : Stmt} {t t' : TS} (h : PS X e t) (m : ∀ D σ H, t' D σ H → t D σ H) : PS X e t' := ⟨fun pins s σ H D I q => h.run pins s σ H D I (m _ _ _ q)⟩
def opOf : BOp → Operator
  | .add => .Add
  | .sub => .Sub
  | .mul => .Mult
  | .fdiv => .FloorDiv
  | .mod => .Mod
  | .pow => .Pow
theorem op_bin (o : BOp) : OpR X (binaryOp (opOf o)) (rBin o) := by
  cases o with
  | add => exact op_add.or (op_add_str.or op_cat)
  | sub => exact op_sub
  | mul => exact op_mul.or op_rep
  | fdiv => exact op_fdiv
  | mod => exact op_mod
  | pow => exact op_pow
def cmpOf : COp → CmpOp
  | .lt => .Lt
  | .le => .LtE
  | .gt => .Gt
  | .ge => .GtE
  | .eq => .Eq
  | .ne => .NotEq
  | .isin => .In
  | .notin => .NotIn
theorem op_le_str : OpR X (compareOp .LtE) rLeStr := by
  intro pins s σ H x y v u Q I rx ry h
  obtain ⟨i, j, rfl, rfl, q⟩ := h
  obtain ⟨t, rfl⟩ := rx
  obtain ⟨t', rfl⟩ := ry
  exact PySem.P.le_str ⟨.bl _, H, I, rfl, q⟩
theorem op_din (hu : X.A.units + 1 < cLine) : OpR X (compareOp .In) (rDIn false) := by
  intro pins s σ H x y v u Q I rx ry h
  obtain ⟨a, o, rfl, g, q⟩ := h
  cases (show u = Value.ref a from ry)
  exact d_in hu I g rx fun s' I' => ⟨.bl _, H, I', rfl, q⟩
theorem op_dnin (hu : X.A.units + 1 < cLine) : OpR X (compareOp .NotIn) (rDIn true) := by
  intro pins s σ H x y v u Q I rx ry h
  obtain ⟨a, o, rfl, g, q⟩ := h
  cases (show u = Value.ref a from ry)
  exact d_notIn hu I g rx fun s' I' => ⟨.bl _, H, I', rfl, q⟩
theorem empties {xs ys : List V} {us ws : List Value} (r1 : Vals xs us) (r2 : Vals ys ws) (h : xs = [] ∨ ys = []) : (us.toArray.size = ws.toArray.size ∧ us = [] ∧ ws = [] ∧ (xs.isEmpty && ys.isEmpty) = true) ∨ ((us.toArray.size != ws.toArray.size) = true ∧ (us.toArray.size == ws.toArray.size) = false ∧ (xs.isEmpty && ys.isEmpty) = false) := by
  have l1 := r1.length
  have l2 := r2.length
  cases xs <;> cases ys <;> cases us <;> cases ws <;> simp_all
theorem op_eq0 (hu : X.A.units < cLine) : OpR X (compareOp .Eq) (rEq0 X.K false) := by
  intro pins s σ H x y v u Q I rx ry h
  obtain ⟨a, b, xs, ys, rfl, rfl, hs, he, q⟩ := h
  cases (show v = Value.ref a from rx)
  cases (show u = Value.ref b from ry)
  rcases hs with ⟨h1, h2⟩ | ⟨h1, h2⟩
  · obtain ⟨us, r1, p1, _⟩ := I.list h1
    obtain ⟨ws, r2, p2, _⟩ := I.list h2
    rcases empties r1 r2 he with ⟨e, rfl, rfl, z⟩ | ⟨e, _, z⟩
    · refine SeqAt.eq_listAt (e := fun _ => true) p1.isList p2.isList e hu (fun j h1 _ => absurd h1 (by simp)) ?_
      exact ⟨.bl true, H, I, rfl, by rw [z] at q; exact q⟩
    · exact SeqAt.eq_list_lengthsAt p1.isList p2.isList e hu ⟨.bl false, H, I, rfl, by rw [z] at q; exact q⟩
  · obtain ⟨us, r1, p1, _⟩ := I.tuple h1
    obtain ⟨ws, r2, p2, _⟩ := I.tuple h2
    refine SeqAt.eq_tupleAt (e := fun _ => true) p1 p2 hu (fun j h1 h2 => ?_) ?_
    · rcases empties r1 r2 he with ⟨e, rfl, rfl, z⟩ | ⟨e, _, z⟩
      · exact absurd h1 (by simp)
      · exfalso
        have l1 := r1.length
        have l2 := r2.length
        have k1 : j < us.length := by simpa using h1
        have k2 : j < ws.length := by simpa using h2
        rcases he with z1 | z1
        · rw [z1, List.length_nil] at l1; omega
        · rw [z1, List.length_nil] at l2; omega
    · rcases empties r1 r2 he with ⟨e, rfl, rfl, z⟩ | ⟨_, e, z⟩
      · exact ⟨.bl true, H, I, rfl, by rw [z] at q; exact q⟩
      · rw [e, Bool.and_false]
        exact ⟨.bl false, H, I, rfl, by rw [z] at q; exact q⟩
theorem op_ne0 (hu : X.A.units < cLine) : OpR X (compareOp .NotEq) (rEq0 X.K true) := by
  intro pins s σ H x y v u Q I rx ry h
  obtain ⟨a, b, xs, ys, rfl, rfl, hs, he, q⟩ := h
  cases (show v = Value.ref a from rx)
  cases (show u = Value.ref b from ry)
  rcases hs with ⟨h1, h2⟩ | ⟨h1, h2⟩
  · obtain ⟨us, r1, p1, _⟩ := I.list h1
    obtain ⟨ws, r2, p2, _⟩ := I.list h2
    rcases empties r1 r2 he with ⟨e, rfl, rfl, z⟩ | ⟨e, _, z⟩
    · refine SeqAt.RcNeAt.lists (e := fun _ => true) p1.isList p2.isList e hu (fun j h1 _ => absurd h1 (by simp)) _ _ _ _ ?_
      exact ⟨.bl false, H, I, rfl, by rw [z] at q; exact q⟩
    · exact SeqAt.RcNeAt.lists_lengths p1.isList p2.isList e hu _ _ _ _ ⟨.bl true, H, I, rfl, by rw [z] at q; exact q⟩
  · obtain ⟨us, r1, p1, _⟩ := I.tuple h1
    obtain ⟨ws, r2, p2, _⟩ := I.tuple h2
    refine SeqAt.RcNeAt.tuples (e := fun _ => true) p1 p2 hu (fun j h1 h2 => ?_) _ _ _ _ ?_
    · rcases empties r1 r2 he with ⟨e, rfl, rfl, z⟩ | ⟨e, _, z⟩
      · exact absurd h1 (by simp)
      · exfalso
        have l1 := r1.length
        have l2 := r2.length
        have k1 : j < us.length := by simpa using h1
        have k2 : j < ws.length := by simpa using h2
        rcases he with z1 | z1
        · rw [z1, List.length_nil] at l1; omega
        · rw [z1, List.length_nil] at l2; omega
    · rcases empties r1 r2 he with ⟨e, rfl, rfl, z⟩ | ⟨_, e, z⟩
      · exact ⟨.bl false, H, I, rfl, by rw [z] at q; exact q⟩
      · rw [e, Bool.and_false]
        exact ⟨.bl true, H, I, rfl, by rw [z] at q; exact q⟩
theorem op_cmp (hu : X.A.units + 65 < cLine) (o : COp) : OpR X (compareOp (cmpOf o)) (rCmp X.K o) := by
  cases o with
  | lt => exact op_lt
  | le => exact op_le.or op_le_str
  | gt => exact op_gt
  | ge => exact op_ge
  | eq => exact op_eq.or ((op_eq0 (by omega)).or (op_eqD (by omega)))
  | ne => exact op_ne.or ((op_ne0 (by omega)).or (op_neD (by omega)))
  | isin => exact op_in_seq.or ((op_din (by omega)).or (op_in_str.or (op_inD (by omega))))
  | notin => exact op_notIn_seq.or ((op_dnin (by omega)).or (op_notin_str.or (op_notInD (by omega))))
theorem ix_dget (hu : X.A.units + 1 < cLine) : IxR X rDGet' := by
  intro value slice pins s σ H x y v u Q I rx ry h hs
  obtain ⟨a, w, rfl, g, q⟩ := h
  cases (show v = Value.ref a from rx)
  exact tail_any (dict_typeIs I g) slot_dict_getitem.lookup (d_getItem hu I g ry fun w' s' I' r => ⟨w, H, I', r, q⟩) hs
theorem ix_all (hu : X.A.units + 1 < cLine) : IxR X (rIdx X.K) := ix_seq.or (ix_dget hu)
end
end Ev
/-! Ru2: slices by twos, built-ins of one argument. -/
namespace Ev
open PySem PySem.Spec PyProof.Rows L2 RZ StX
theorem evens_map {α β : Type} (f : α → β) : ∀ xs : List α, evens (xs.map f) = (evens xs).map f
  | [] => rfl
  | [_] => rfl
  | x :: _ :: r => by
    show f x :: evens (r.map f) = f x :: (evens r).map f
    rw [evens_map f r]
theorem evens_vals : ∀ {xs : List V} {us : List Value}, Vals xs us → Vals (evens xs) (evens us)
  | [], _, .nil => .nil
  | [_], _, .cons a .nil => .cons a .nil
  | _ :: _ :: _, _, .cons a (.cons _ r) => .cons a (evens_vals r)
theorem evens_pick : ∀ l : List Value, (List.range ((l.length + 1) / 2)).filterMap (fun k => l[2 * k]?) = evens l
  | [] => rfl
  | [x] => by simp [evens, List.range_succ]
  | x :: y :: r => by
    have e : ((x :: y :: r).length + 1) / 2 = (r.length + 1) / 2 + 1 := by simp only [List.length_cons]; omega
    rw [e, List.range_succ_eq_map, List.filterMap_cons]
    have h0 : (x :: y :: r)[2 * 0]? = some x := rfl
    rw [h0]
    show x :: _ = x :: evens r
    rw [← evens_pick r, List.filterMap_map]
    congr 1
theorem pick_step (items : Array Value) (a : Nat) (n : Nat) (hn : n = items.size) (ha : a ≤ n) : ((sliceRange (a : Int) (n : Int) 2).filterMap (items[·]?)) = evens (items.toList.drop a) := by
  have e : sliceRange (a : Int) (n : Int) 2 = (List.range ((n - a + 1) / 2)).map fun k => a + 2 * k := by
    unfold sliceRange
    simp only [show (2 : Int) > 0 from by decide, if_true]
    by_cases h : (a : Int) < (n : Int)
    · simp only [h, if_true]
      have e2 : (((n : Int) - (a : Int) + 2 - 1) / 2).toNat = (n - a + 1) / 2 := by omega
      rw [e2]
      apply List.map_congr_left
      intro k _
      omega
    · have e3 : n - a = 0 := by omega
      simp only [h, if_false, e3]
      rfl
  rw [e, List.filterMap_map, ← evens_pick]
  have hl : (items.toList.drop a).length = n - a := by rw [List.length_drop, Array.length_toList, hn]
  rw [hl]
  congr 1
  funext k
  simp [List.getElem?_drop]
theorem pick_even (items : Array Value) : slicePick items none none (some 2) = (evens items.toList).toArray := by
  unfold slicePick
  have e : sliceBounds none none (some 2) items.size = (((0 : Nat) : Int), (items.size : Int), 2) := rfl
  rw [e]
  show ((sliceRange ((0 : Nat) : Int) (items.size : Int) 2).filterMap (items[·]?)).toArray = _
  rw [pick_step items 0 items.size rfl (Nat.zero_le _), List.drop_zero]
theorem pick_odd (items : Array Value) : slicePick items (some 1) none (some 2) = (evens (items.toList.drop 1)).toArray := by
  unfold slicePick
  have e : sliceBounds (some 1) none (some 2) items.size = (((min 1 items.size : Nat) : Int), (items.size : Int), 2) := by
    unfold sliceBounds
    simp
    omega
  rw [e]
  show ((sliceRange ((min 1 items.size : Nat) : Int) (items.size : Int) 2).filterMap (items[·]?)).toArray = _
  rw [pick_step items (min 1 items.size) items.size rfl (Nat.min_le_right _ _)]
  by_cases h : items.size = 0
  · have h2 : items.toList = [] := List.eq_nil_of_length_eq_zero (by rw [Array.length_toList, h])
    rw [h2]
    simp
  · rw [show min 1 items.size = 1 by omega]
theorem evens_length_le {α : Type} : ∀ l : List α, (evens l).length ≤ l.length
  | [] => Nat.le_refl _
  | [_] => Nat.le_refl _
  | x :: _ :: r => by
    have := evens_length_le r
    show (evens r).length + 1 ≤ r.length + 1 + 1
    omega
section
variable {X : Cx}
theorem pe_evn {e : Expr} {lo : Option Expr} {te : TE} {tl : TO} {k : Nat} {p1 p3 pos : Pos} (he : PE X e te) (hl : PO X lo tl) : PE X (.Subscript e (.Slice lo none (some (.Constant (.int 2) k p1)) p3) pos) (tEvn X.K te tl) := by
  refine ⟨fun pins s σ H Q I h => ?_⟩
  refine Subscript_ (thn (he.run pins s σ H _ I h) fun v s1 ⟨x, H1, I1, r1, q1⟩ => ?_)
  have hst : PO X (some (.Constant (.int 2) k p1)) (tPart (tC (.int 2))) := po_some pe_int
  refine wpAny_Slice (thn (hl.run pins s1 σ H1 _ I1 q1) fun vl s2 ⟨l, H2, I2, pl, q2⟩ => ?_)
  obtain ⟨a, xs, ex, hx, q⟩ := q2
  subst ex
  cases r1
  refine thn (po_none.run pins s2 σ H2 (fun o H3 => o = none ∧ H3 = H2) I2 ⟨rfl, rfl⟩) fun vu s3 ⟨u, H3, I3, pu, eu, e3⟩ => ?_
  subst eu e3
  refine thn (hst.run pins s3 σ H3 (fun o H4 => o = some 2 ∧ H4 = H3) I3 ⟨2, rfl, rfl, rfl⟩) fun vs s4 ⟨o, H4, I4, ps, eo, e4⟩ => ?_
  subst eo e4
  have I5 : Inv X pins σ H4 { s4 with heap := s4.heap.push { cls := .type "slice", data := .fields #[vl, vu, vs] } } := I4.kept (t' := s4.toks) fun b ob q => Heap.get?_push_of_some _ q
  obtain ⟨its, r, ht, hz⟩ := I5.list hx
  have hlen := r.length
  show wpAny (model X.prog X.w) X.A (subscriptTail e (.Slice lo none (some (.Constant (.int 2) k p1)) p3) (.ref a) (.ref s4.heap.objs.size)) (EP X pins σ Q) X.xe { s4 with heap := s4.heap.push { cls := .type "slice", data := .fields #[vl, vu, vs] } }
  refine tail_any (ops := [.ref a, .ref s4.heap.objs.size]) ht.isList.typeIs (PySem.slot_list_getitem.lookup) ?_ (by with_unfolding_all rfl)
  refine wpAny_getItem_list_slice ht.isList (Heap.IsSliceOf.new _ vl vu vs) pl pu ps (by decide) ?_ (by rw [List.size_toArray]; omega)
  have fin : ∀ (ys : List V) (ws : List Value), Vals ys ws → ys.length ≤ sizeLine → (∀ p, H4 p = none → Q (.ref p) (upd H4 p (.lst ys))) → ∀ z : Array Value, z = ws.toArray → EP X pins σ Q (.ref (s4.heap.push { cls := .type "slice", data := .fields #[vl, vu, vs] }).objs.size) { s4 with heap := (s4.heap.push { cls := .type "slice", data := .fields #[vl, vu, vs] }).push { cls := .type "list", data := .seq z } } := by
    intro ys ws rr hle hq z ez
    subst ez
    refine ⟨.ref _, _, I5.laid (t' := s4.toks) (o := .lst ys) (fun b ob q => Heap.get?_push_of_some _ q) (Nat.le_refl _) ?_, rfl, hq _ (I5.hok.fresh (Nat.le_refl _))⟩
    exact ⟨hle, ws, 0, rr, Heap.get?_push_size _ rfl⟩
  rcases q with ⟨rfl, q⟩ | ⟨rfl, q⟩
  · exact fin (evens xs) (evens its) (evens_vals r) (Nat.le_trans (evens_length_le _) hz) q _ (pick_even its.toArray)
  · refine fin (evens (xs.drop 1)) (evens (its.drop 1)) (evens_vals ?_) (Nat.le_trans (evens_length_le _) (by rw [List.length_drop]; omega)) q _ (pick_odd its.toArray)
    cases r with
    | nil => exact .nil
    | cons _ r => exact r
theorem call_lenD : CallR X (.builtin "len") (rLenAll X.K) := by
  intro pins s σ H xs us Q I r h
  rcases h with h | ⟨a, kvs, rfl, hd, q⟩
  · exact call_len pins s σ H xs us Q I r h
  · rw [Vals.ref1 r]
    exact d_len I hd fun t s' I' => ⟨.int _, H, I', ⟨_, rfl⟩, q⟩
theorem call_lst (hc : X.calm = true) : CallR X (.type "list") (rLst X.K) := by
  intro pins s σ H xs us Q I r h
  rcases h with h | h
  · exact call_list_of pins s σ H xs us Q I r h
  · exact call_listD hc pins s σ H xs us Q I r h
theorem call_repr (hg : X.A.guards = some []) (hu : X.A.units + 100 < cLine) : CallR X (.builtin "repr") (rRepr X.K) := by
  intro pins s σ H xs us Q I r h
  rcases h with ⟨t, rfl, hz, q⟩ | ⟨i, rfl, hz, q⟩ | ⟨b, rfl, q⟩ | ⟨rfl, q⟩ | h
  · obtain ⟨u, rfl, t, rfl⟩ := vals1 r
    exact PySem.P.repr_of_str ⟨.str _, H, I.tok _, ⟨_, rfl⟩, q⟩ hz
  · obtain ⟨u, rfl, t, rfl⟩ := vals1 r
    exact PySem.P.repr_of_int hz ⟨.str _, H, I.tok _, ⟨_, rfl⟩, q⟩
  · obtain ⟨u, rfl, t⟩ := vals1 r
    cases t
    cases b <;> exact PySem.P.repr_of_bool ⟨.str _, H, I.tok _, ⟨_, rfl⟩, q⟩
  · obtain ⟨u, rfl, t⟩ := vals1 r
    cases t
    exact PySem.P.repr_of_none ⟨.str _, H, I.tok _, ⟨_, rfl⟩, q⟩
  obtain ⟨x, a, d, rfl, rfl, hd, hs, hD, hz, h64, q⟩ := h
  rw [Vals.ref1 r]
  obtain ⟨as, rd⟩ := Dp.reads I d (.ref a) (.ref a) hd rfl
  exact repr_of_reads' rd hs (PyData.noDict_hsm hD) hg (by omega) (fun _ _ e => e) (fun h' u tk hk => ⟨.str _, H, I.kept (t' := tk) hk, ⟨_, rfl⟩, q⟩) hz
end
end Ev
/-! Ru3: sorted of rows that begin with unlike texts. -/
namespace Ev
open PySem PySem.Spec PyProof.Rows L2 RZ StX
section
variable {prog : Program} {w : World} {A : Around} {s : Shared}
theorem kat_self {b fin : Bool} {Q : Bool → Shared → Prop} (h : Q fin s) : ∀ (l : List Value) (i : Nat), PySem.W.KatLex prog w A b fin Q (l.zip l) i s
  | [], i => PySem.W.kat_nil h
  | v :: l, i => PySem.W.kat_cons (SeqAt.EqAt.same v prog w _ _ (PySem.W.kat_yes (kat_self h l (i + 1))))
theorem cps_flip {x y : Str} (h : x ≠ y) : decide (x.cps.toList < y.cps.toList) = !decide (y.cps.toList < x.cps.toList) := by
  by_cases h1 : y.cps.toList < x.cps.toList
  · have h2 : ¬ x.cps.toList < y.cps.toList := List.lt_asymm h1
    simp [h1, h2]
  · have h2 : x.cps.toList < y.cps.toList := by
      by_cases h2 : x.cps.toList < y.cps.toList
      · exact h2
      · exfalso
        have e := List.le_antisymm (as := x.cps.toList) (bs := y.cps.toList) h1 h2
        apply h
        cases x; cases y
        simp only at e
        congr
        exact Array.toList_inj.mp e
    simp [h1, h2]
/-- a row that begins with a text -/
def IsRow (h : Heap) (v : Value) (x : Str) : Prop := ∃ (a : Addr) (o : Obj) (t : Tok) (r : List Value) (n : Nat), v = .ref a ∧ h.get? a = some o ∧ o.cls = .type "tuple" ∧ o.data = .seq (.str x t :: r).toArray n
theorem row_lt {v u : Value} {x y : Str} {Q : Bool → Shared → Prop} {E : Value → Shared → Prop} (hv : IsRow s.heap v x) (hw : IsRow s.heap u y) (hne : x ≠ y) (h : Q (decide (x.cps.toList < y.cps.toList)) s) : wpAny (model prog w) A (keyLt' (tuples' true) v u) Q E s := by
  obtain ⟨a, o, t, r, n, rfl, ho, hc, hd⟩ := hv
  obtain ⟨b, o2, t2, r2, n2, rfl, ho2, hc2, hd2⟩ := hw
  refine PySem.W.kat_lt ho hd ho2 hd2 ?_
  show PySem.W.KatLex prog w A true _ Q ((.str x t, .str y t2) :: r.zip r2) 0 s
  refine PySem.W.kat_cons (SeqAt.EqAt.str_str x t y t2 prog w _ _ ?_)
  have e : (x == y) = false := beq_eq_false_iff_ne.mpr hne
  rw [e]
  exact PySem.W.kat_no (oneLt_str h)
theorem row_self {v : Value} {x : Str} {Q : Bool → Shared → Prop} {E : Value → Shared → Prop} (hv : IsRow s.heap v x) (h : Q false s) : wpAny (model prog w) A (keyLt' (tuples' true) v v) Q E s := by
  obtain ⟨a, o, t, r, n, rfl, ho, hc, hd⟩ := hv
  refine PySem.W.kat_lt ho hd ho hd ?_
  refine kat_self ?_ _ _
  rw [decide_eq_false (Nat.lt_irrefl _)]
  exact h
theorem IsRow.keeps {h h' : Heap} {v : Value} {x : Str} (r : IsRow h v x) (k : ∀ b o, h.get? b = some o → o.cls = .type "tuple" → h'.get? b = some o) : IsRow h' v x := by
  obtain ⟨a, o, t, r, n, e, ho, hc, hd⟩ := r
  exact ⟨a, o, t, r, n, e, k a o ho hc, hc, hd⟩
/-- by the place of two rows: f says that the second goes ahead -/
def kf2 (b : Addr) (f : Bool) (v : Value) : Int := if v = .ref b then (if f then 1 else 0) else (if f then 0 else 1)
def ltv2 (b : Addr) (f : Bool) (v u : Value) : Bool := decide (kf2 b f v < kf2 b f u)
theorem kf2_b {b : Addr} {f : Bool} : kf2 b f (.ref b) = if f then 1 else 0 := by unfold kf2; rw [if_pos rfl]
theorem kf2_c {b c : Addr} {f : Bool} (h : b ≠ c) : kf2 b f (.ref c) = if f then 0 else 1 := by unfold kf2; rw [if_neg (fun z => h (by cases z; rfl))]
theorem swo2 {b : Addr} {f : Bool} : SrtO.Swo (ltv2 b f) := by
  refine ⟨fun u v z => ?_, fun u v t z1 z2 => ?_⟩
  · have z := of_decide_eq_true z
    exact decide_eq_false (by omega)
  · have z1 := of_decide_eq_false z1
    have z2 := of_decide_eq_false z2
    exact decide_eq_false (by omega)
theorem perm_short {α : Type} {l m : List α} (p : l.Perm m) (h : m.length ≤ 1) : l = m := by
  match m, h with
  | [], _ => exact List.perm_nil.mp p
  | [v], _ => exact List.perm_singleton.mp p
  | _ :: _ :: _, hl => exact absurd hl (by simp only [List.length_cons]; omega)
theorem perm_two {α : Type} {out : List α} {u v : α} (p : out.Perm [u, v]) : out = [u, v] ∨ out = [v, u] := by
  match out, p with
  | [], p => exact absurd p.length_eq (by simp)
  | [_], p => exact absurd p.length_eq (by simp)
  | [x, y], p =>
    have hu : x = u ∨ x = v := by simpa using p.mem_iff.mp (List.mem_cons_self ..)
    rcases hu with rfl | rfl
    · have p2 := List.Perm.cons_inv p
      rw [List.perm_singleton.mp p2]
      exact .inl rfl
    · have p2 := List.Perm.cons_inv (p.trans (List.Perm.swap _ _ _))
      rw [List.perm_singleton.mp p2]
      exact .inr rfl
  | _ :: _ :: _ :: _, p => exact absurd p.length_eq (by simp)
open SrtO in
theorem rows_sortable {a : Addr} {b c : Addr} {x y : Str} (hne : x ≠ y) (hbc : b ≠ c) (hb : IsRow s.heap (.ref b) x) (hc : IsRow s.heap (.ref c) y) (ha : ∀ o, s.heap.get? a = some o → o.cls ≠ .type "tuple") :
    SortableO prog w A s a [.ref b, .ref c] (ltv2 b (decide (y.cps.toList < x.cps.toList))) := by
  intro h' keep
  have kk : ∀ b o, s.heap.get? b = some o → o.cls = .type "tuple" → h'.get? b = some o := fun b o e c => keep b o (fun z => by subst z; exact ha o e c) e
  have hb' := hb.keeps kk
  have hc' := hc.keeps kk
  refine ⟨tuples' true, fun Q E hq => ?_, fun p q hp hq => ?_⟩
  · obtain ⟨b1, o, t, r, n, e1, ho, hoc, hd⟩ := hb'
    cases e1
    obtain ⟨c1, o2, t2, r2, n2, e2, ho2, hoc2, hd2⟩ := hc'
    cases e2
    refine PySem.W.kat_kind (s := { s with heap := h' }) (T := .type "str") (fs := [.str x t, .str y t2]) (PySem.W.KatTups.cons ho hoc hd rfl (PySem.W.KatTups.cons ho2 hoc2 hd2 rfl PySem.W.KatTups.nil)) (by simp) (fun f hm => ?_) (by rfl) ?_
    · simp only [List.mem_cons, List.not_mem_nil, or_false] at hm
      rcases hm with rfl | rfl
      · exact PySem.W.Looks.now
      · exact PySem.W.Looks.now
    · have e : (Value.type "str" != Value.type "tuple") = true := by first | decide +kernel | rfl | decide
      rw [e]
      exact hq
  · have hp : p.1 = .ref b ∨ p.1 = .ref c := by simpa using hp
    have hq : q.1 = .ref b ∨ q.1 = .ref c := by simpa using hq
    have fl := cps_flip hne
    have lb : kf2 b (decide (y.cps.toList < x.cps.toList)) (.ref b) = if decide (y.cps.toList < x.cps.toList) then 1 else 0 := kf2_b
    have lc : kf2 b (decide (y.cps.toList < x.cps.toList)) (.ref c) = if decide (y.cps.toList < x.cps.toList) then 0 else 1 := kf2_c hbc
    have go : ∀ (k l : Int) (f : Bool), kf2 b (decide (y.cps.toList < x.cps.toList)) p.1 = k → kf2 b (decide (y.cps.toList < x.cps.toList)) q.1 = l → f = decide (k < l) → f = lt2 (ltv2 b (decide (y.cps.toList < x.cps.toList))) p q := by
      intro k l f e1 e2 e3
      show f = decide (_ < _)
      rw [e1, e2]
      exact e3
    rcases hp with e1 | e1 <;> rcases hq with e2 | e2 <;> rw [e1, e2]
    · exact row_self (s := { s with heap := h' }) hb' ⟨rfl, go _ _ _ (by rw [e1]) (by rw [e2]) (decide_eq_false (Int.lt_irrefl _)).symm⟩
    · refine row_lt (s := { s with heap := h' }) hb' hc' hne ⟨rfl, go _ _ _ (by rw [e1]) (by rw [e2]) ?_⟩
      rw [lb, lc]
      rw [fl]
      cases decide (y.cps.toList < x.cps.toList) <;> rfl
    · refine row_lt (s := { s with heap := h' }) hc' hb' (Ne.symm hne) ⟨rfl, go _ _ _ (by rw [e1]) (by rw [e2]) ?_⟩
      rw [lb, lc]
      cases decide (y.cps.toList < x.cps.toList) <;> rfl
    · exact row_self (s := { s with heap := h' }) hc' ⟨rfl, go _ _ _ (by rw [e1]) (by rw [e2]) (decide_eq_false (Int.lt_irrefl _)).symm⟩
end
open SrtO in
theorem call_sort2 {X : Cx} : CallR X (.builtin "sorted") (rSort2 X.K) := by
  intro pins s σ H vs us Q I r h
  obtain ⟨a, xs, rfl, hs, h⟩ := h
  obtain ⟨its, rv, hl, hz⟩ := I.list hs
  rw [Vals.ref1 r]
  have hlen := rv.length
  have lay : ∀ (out : List Value) (ys : List V), Vals ys out → ys.length ≤ sizeLine → (∀ p, H p = none → Q (.ref p) (upd H p (.lst ys))) → EP X pins σ Q (.ref (s.heap.objs.size + 1)) { s with heap := sortedAll s.heap its out.toArray } := by
    intro out ys ry hy q
    obtain ⟨ep, he'⟩ := PyProof.Rows.sortedAll_at s.heap its out.toArray
    exact ⟨.ref _, upd H (s.heap.objs.size + 1) (.lst ys), I.laid (t' := s.toks) (fun _ _ => PyProof.Rows.sortedAll_old) (Nat.le_succ _) ⟨hy, out, ep, ry, he'⟩, rfl, q _ (I.hok.fresh (Nat.le_succ _))⟩
  rcases h with ⟨h1, q⟩ | ⟨b, c, x, y, ys, zs, rfl, hb, hc, hne, q⟩
  · refine sorted_ord (ltv := fun _ _ => false) ⟨fun _ _ z => (nomatch z), fun _ _ _ _ _ => rfl⟩ hl.isList (by omega) (fun h2 => absurd h2 (by omega)) fun out _ hb => ?_
    rw [perm_short hb.perm (by omega)]
    exact lay _ xs rv (by omega) q
  · have hbc : b ≠ c := fun z => by
      subst z
      have e := I.tuple_inj hb hc
      cases e
      exact hne rfl
    obtain ⟨b1, rb, tb, _⟩ := I.tuple hb
    obtain ⟨c1, rc, tc, _⟩ := I.tuple hc
    have ei : its = [.ref b, .ref c] := by
      cases rv with
      | cons g1 t =>
        cases t with
        | cons g2 t =>
          cases t
          cases g1
          cases g2
          rfl
    have Rb : IsRow s.heap (.ref b) x := by
      obtain ⟨o, ho, hoc, n, hd⟩ := tb
      cases rb with
      | cons g1 t =>
        obtain ⟨tk, rfl⟩ := g1
        exact ⟨b, o, tk, _, n, rfl, ho, hoc, hd⟩
    have Rc : IsRow s.heap (.ref c) y := by
      obtain ⟨o, ho, hoc, n, hd⟩ := tc
      cases rc with
      | cons g1 t =>
        obtain ⟨tk, rfl⟩ := g1
        exact ⟨c, o, tk, _, n, rfl, ho, hoc, hd⟩
    refine sorted_ord (ltv := ltv2 b (decide (y.cps.toList < x.cps.toList))) swo2 hl.isList (by omega) (fun h2 h₁ a ha kk => ?_) fun out hs hb => ?_
    · rw [ei]
      refine rows_sortable (s := { s with heap := h₁ }) hne hbc (Rb.keeps fun b o e _ => (kk b o e).2) (Rc.keeps fun b o e _ => (kk b o e).2) fun o e => ?_
      have e' : some o = some (seqObj "list" its.toArray 0) := e.symm.trans ha
      cases e'
      intro c
      exact absurd (Value.type.inj c) (by decide)
    · have e := perm_two (ei ▸ hb.perm)
      have sz : 2 ≤ sizeLine := by rw [sizeLine_eq]; decide
      have bad : ∀ v u, out = [v, u] → ltv2 b (decide (y.cps.toList < x.cps.toList)) u v = true → False := by
        intro v u eo z
        rw [eo] at hs
        have h3 := (List.pairwise_cons.mp hs).1 u (List.mem_cons_self ..)
        rw [z] at h3
        cases h3
      cases hf : decide (y.cps.toList < x.cps.toList) with
      | true =>
        rw [hf] at q bad
        rcases e with rfl | rfl
        · exact (bad _ _ rfl (by unfold ltv2; rw [kf2_b, kf2_c hbc]; rfl)).elim
        · exact lay _ [.ref c, .ref b] (.cons rfl (.cons rfl .nil)) sz q
      | false =>
        rw [hf] at q bad
        rcases e with rfl | rfl
        · exact lay _ [.ref b, .ref c] (.cons rfl (.cons rfl .nil)) sz q
        · exact (bad _ _ rfl (by unfold ltv2; rw [kf2_b, kf2_c hbc]; rfl)).elim
end Ev
/-! Ru4: extend by a tuple, enumerate of a tuple, keys of a dict, a copy of a written dict. -/
namespace Ev
open PySem PySem.Spec PyProof.Rows L2 RZ StX
open AutoSeq1 in
/-- list.extend of a tuple, whatever else the tuple's object has -/
theorem meets_extT (l b : Addr) (its its2 : Array Value) (n n2 : Nat) (dd : Option Addr) (sl : Array (Option Value)) (hl0 : ¬(!its.isEmpty && Builtin.List.listTooLong (its.size + its2.size)) = true) (hl1 : its.size ≤ sizeLine) (hl2 : its.size + its2.size ≤ sizeLine + 1) :
    Meets (Builtin.«list.extend» ⟨[.ref l, .ref b], []⟩) (fun _ R s => s.heap.get? l = some { cls := .type "list", dict := none, data := .seq its n, slots := #[] } ∧
      s.heap.get? b = some { cls := .type "tuple", dict := dd, data := .seq its2 n2, slots := sl } ∧ R (.ok (.ret Value.none)) { s with heap := s.heap.update l (Obj.mapSeq fun x => x ++ its2), toks := s.toks }) := by
  refine .of_wp fun prog w A R s hs => ?_
  obtain ⟨hp, gs, ds, tk, os⟩ := s
  obtain ⟨hL, hB, fin⟩ := hs
  have s1 := AutoSeq1.sub_tuple_tuple
  have s2 := AutoSeq1.sub_list_list
  have s3 := AutoSeq1.sub_tuple_list
  have s4 := AutoSeq1.sub_list_tuple
  have s5 := idx_int
  have hz : (its ++ its2).size ≤ sizeLine + 1 := by rw [Array.size_append]; exact hl2
  wp_walk using (wpAny_updateSeq hL rfl (hz := hl1) (_hz' := hz)), wpAny_loadPart' hL, wpAny_loadPart' hB
  exact ⟨_, rfl, fin⟩
section
variable {X : Cx}
theorem mt_extA : MtM X "list.extend" (rExtA X.K) := by
  intro pins s σ H x vs v us Q I rx rv h
  obtain ⟨l, b, xs, zs, rfl, rfl, hH, hB, hz, q⟩ := h
  rcases hB with ⟨hB, _⟩ | hB
  · exact mt_extend pins s σ H _ _ v us Q I rx rv ⟨l, b, xs, zs, rfl, rfl, hH, hB, hz, q⟩
  · cases rx
    obtain ⟨u, rfl, ru⟩ := rv.one
    cases ru
    obtain ⟨z, its, n, r, hl, e⟩ := I.lstM hH
    obtain ⟨its2, r2, ⟨o2, e2, hc2, n2, hd2⟩, z2⟩ := I.tuple hB
    obtain ⟨c2, dd2, dt2, sl2⟩ := o2
    simp only at hc2 hd2
    subst hc2 hd2
    have k1 := r.length
    have k2 := r2.length
    have hsz : its.toArray.size + its2.toArray.size ≤ sizeLine := by rw [List.size_toArray, List.size_toArray]; omega
    have hlong : ¬ (!its.toArray.isEmpty && Builtin.List.listTooLong (its.toArray.size + its2.toArray.size)) = true := by
      rw [notLongL hsz, Bool.and_false]
      exact Bool.false_ne_true
    refine call_meets F.slot_list_extend ⟨_, e, rfl⟩ F.entry_list_extend (F.args_list_extend_2 _ _) (meets_extT l b its.toArray its2.toArray n n2 dd2 sl2 hlong (by rw [List.size_toArray]; omega) (by omega)) ⟨e, e2, ?_⟩
    exact ⟨.non, _, I.lset (its' := its ++ its2) hH e (by simp) (r.append r2) (by rw [List.length_append]; omega), rfl, q⟩
theorem pi_keysL {tg e : Expr} {te : TE} (he : PE X e te) : PI X tg e (iKeysL te) := by
  refine ⟨fun pins s σ H R I h => ?_⟩
  refine thn (he.run pins s σ H _ I h) fun u s1 ⟨x, H1, I1, rx, d, kvs, ex, q⟩ => ?_
  subst ex
  obtain rfl : u = Value.ref d := rx
  have go : ∀ (H2 : Hp) (o : Obj), Inv X pins σ H2 s1 → H2 d = some (.frz o (.dK kvs)) → R (Itk d o kvs) H2 → wpAny (model X.prog X.w) X.A (pyIter (.ref d)) (PIE X pins σ tg R) X.xe s1 := by
    intro H2 o I2 hd hq
    obtain ⟨hs, hgd, hx, es, ep, vs, hdt, hsz, kv, hm⟩ := I2.frzK hd
    refine iter_keys hs hgd hx hdt (pi_one (tk := s1.toks) I2 _ (turn_keys _ hdt) ⟨_, Heap.get?_push_size _ rfl, rfl, ?_⟩ hq)
    rw [hsz] <;> rfl
  rcases q with ⟨hd, q⟩ | ⟨o, hd, q⟩
  · obtain ⟨o, I2⟩ := I1.lock hd trivial
    exact go _ o I2 upd_same (q o)
  · exact go _ o I1 hd q
theorem PI.or {tg e : Expr} {w1 w2 : TI} (h1 : PI X tg e w1) (h2 : PI X tg e w2) : PI X tg e (fun σ H R => w1 σ H R ∨ w2 σ H R) := by
  refine ⟨fun pins s σ H R I h => ?_⟩
  rcases h with h | h
  · exact h1.run pins s σ H R I h
  · exact h2.run pins s σ H R I h
theorem pi_seq {tg e : Expr} {te : TE} (he : PE X e te) : PI X tg e (iSeq X.K te) := PI.or (pi_list he) (PI.or (pi_tup he) (PI.or (pi_keysL he) (pi_str he)))
end
/-! ### enumerate of a tuple -/
theorem meets_enumB {v : Value} {o : Obj} {Hd : Heap → Prop} (B : Begins v o Hd) : Meets (Builtin.«enumerate.__new__» ⟨[.type "enumerate", v], []⟩) (fun _ R s => Hd s.heap ∧
      R (.ok (.ret (.ref (s.heap.push o).objs.size))) { s with heap := (s.heap.push o).push { cls := .type "enumerate", data := .fields #[.none, .bool false, .ref s.heap.objs.size, rawInt 0, .none, .none] } }) := by
  refine .of_wp fun prog w A R s hs => ?_
  obtain ⟨hp, gs, ds, tk, os⟩ := s
  obtain ⟨h0, fin⟩ := hs
  have s1 := sub_enumerate
  have go : ∀ {A' : Around} {E : Value → Shared → Prop} {Q : Value → Shared → Prop}, Q (.ref hp.objs.size) ⟨hp.push o, gs, ds, tk, os⟩ → wpAny (model prog w) A' (pyIter v) Q E ⟨hp, gs, ds, tk, os⟩ :=
    fun q => B.iter prog w _ _ ⟨hp, gs, ds, tk, os⟩ _ h0 q
  wp_walk
  refine wpAny_stack_any fun st => wpAny_pure ?_
  split
  · rename_i c _ _ _ _ _
    cases (c == Value.type "enumerate")
    · wp_walk using go
      exact ⟨_, rfl, fin⟩
    · wp_walk using go
      exact ⟨_, rfl, fin⟩
  · wp_walk using go
    exact ⟨_, rfl, fin⟩
theorem call_enumT {prog : Program} {w : World} {A : Around} {E : Value → Shared → Prop} {s : Shared} {l : Addr} {its : Array Value} {Q : Value → Shared → Prop} (hL : s.heap.IsTuple l its)
    (h : ∀ h', IsEnum h' (s.heap.objs.size + 1) s.heap.objs.size 0 .none → h'.IsTupleIter s.heap.objs.size l 0 → (∀ b o, s.heap.get? b = some o → h'.get? b = some o) → Q (.ref (s.heap.objs.size + 1)) { s with heap := h' }) :
    wpAny (model prog w) A (call (.type "enumerate") [.ref l]) Q E s := by
  refine callType_new F.called_enumerate (by decide) (F.typeCall_enumerate_1 _) (F.newCall_enumerate_1 _) (fun obj => F.args_object_init_2 obj _) F.entry_enumerate_new (meets_enumB (begins_tuple l its)) ⟨hL, ?_⟩
  have hz : (s.heap.push { cls := .type "tuple_iterator", data := .fields #[.ref l, .int 0 0] }).objs.size = s.heap.objs.size + 1 := Heap.size_push ..
  have gE := Heap.get?_push_size (s.heap.push { cls := .type "tuple_iterator", data := .fields #[.ref l, .int 0 0] }) (o := { cls := .type "enumerate", data := .fields #[.none, .bool false, .ref s.heap.objs.size, rawInt 0, .none, .none] }) rfl
  have gI : ((s.heap.push { cls := .type "tuple_iterator", data := .fields #[.ref l, .int 0 0] }).push { cls := .type "enumerate", data := .fields #[.none, .bool false, .ref s.heap.objs.size, rawInt 0, .none, .none] }).get? s.heap.objs.size = some { cls := .type "tuple_iterator", data := .fields #[.ref l, .int 0 0] } := Heap.get?_push_of_some _ (Heap.get?_push_size _ rfl)
  show _ ∧ _
  rw [hz] at gE ⊢
  exact ⟨⟨_, gE, rfl⟩, h _ gE ⟨_, gI, rfl, rfl⟩ fun b o x => Heap.get?_push_of_some _ (Heap.get?_push_of_some _ x)⟩
theorem enumT_end {prog : Program} {w : World} {A : Around} {E : Value → Shared → Prop} {s : Shared} {e it l : Addr} {i : Nat} {its : Array Value} {old : Value} {Q : Option Value → Shared → Prop} (hh : A.handled = none) (he : IsEnum s.heap e it i old) (hit : s.heap.IsTupleIter it l i) (hl : s.heap.IsTuple l its) (hx : its[i]? = none)
    (hQ : ∀ h', Heap.ExtBut it s.heap h' → Q none { s with heap := h' }) : wpAny (model prog w) A (pyNext (.ref e)) Q E s := by
  have hT : s.TypeIs (.ref e) "enumerate" := ⟨_, he, rfl⟩
  unfold pyNext
  refine wpAny_bind (wpAny_attempt (wpAny_callSpecial?_slot (name := Str.ofString "__next__") hT F.slot_enumerate_next (wpAny_call_entry F.slot_enumerate_next hT F.entry_enumerate_next ?_ (F.args_enumerate_next_1 _))))
  show wpAny _ _ (field (.ref e) 2 >>= _) _ _ _
  refine wpAny_bind (wpAny_field he rfl (x := .ref it) rfl (wpAny_bind (wpAny_nextOf_tuple_end hh hit hl hx fun h' x he' hx' => ?_)))
  obtain ⟨o, ho, hc⟩ := hx'
  exact wpAny_bind (wpAny_isInstance (T := "StopIteration") (b := true) ⟨o, ho, hc⟩ isSubtype_stop (wpAny_pure (hQ _ he')))
theorem turn_enumT {P : Program} {w : World} {K : PySem.W.Frag} {elts : List Expr} {kk : Nat} {tpos : Pos} (a e it : Addr) (hai : a ≠ it) :
    Turn P w K (.Tuple elts kk tpos) (IteT K a) [e, it] e (fun i h => (∃ old, IsEnum h e it ((i : Nat) : Int) old) ∧ h.IsTupleIter it a i ∧ e ≠ it ∧ a ≠ e) where
  mem := by simp
  obj := fun i h st b hb => by
    obtain ⟨⟨old, he⟩, ⟨o, ho, hc, hd⟩, _⟩ := st
    have e' : b = e ∨ b = it := by simpa using hb
    rcases e' with z | z
    · rw [z]
      exact ⟨_, he, fun v q => nomatch q⟩
    · rw [z]
      exact ⟨o, ho, fun v q => by rw [hd] at q; cases q⟩
  keep := fun i h h' st k => let ⟨⟨old, he⟩, hi, hne⟩ := st; ⟨⟨old, k e (by simp) _ he⟩, hi.at fun o q => k it (by simp) o q, hne⟩
  item := by
    intro X hP hw hK hc i pins s σ H E I hf st hg
    subst hP hw hK
    obtain ⟨⟨old, he⟩, hit, hne, hae⟩ := st
    obtain ⟨xs, x, hq, hx⟩ := hg
    obtain ⟨its, rv, p, hz⟩ := I.tuple hq
    obtain ⟨u, hu, ru⟩ := rv.get hx
    have hel : e < s.heap.objs.size := Heap.lt_size he
    have hil : it < s.heap.objs.size := by obtain ⟨_, q, _⟩ := hit; exact Heap.lt_size q
    have hlt : i < its.toArray.size := by
      have := (List.getElem?_eq_some_iff.mp hu).1
      simpa using this
    refine wpAny_pyNext_enum_itemD (Draws.tuple (A := X.A.in1) (I.ok.hd hc) it a hai its.toArray) he ⟨hit, p⟩ hlt hne (by simp [hne, Ne.symm hae]) fun y h' tk hy ho hst hT hsz hk => ?_
    have ey : y = u := by
      have h1 : its[i]? = some y := by simpa using hy
      rw [hu] at h1
      exact (Option.some.inj h1).symm
    subst ey
    refine ⟨_, rfl, wpAny_letOwnedTupleGo_enum (s := { s with heap := h', toks := tk + 1 }) ho fun h'' he' sb => ?_⟩
    have hT2 : h''.get? s.heap.objs.size = some { cls := .type "tuple", data := .seq #[.int i tk, y] } := (sb.2 _ (Nat.ne_of_gt hel)).trans hT
    have new : ObjOk X.prog X.w (upd H s.heap.objs.size (.tup [.int (i : Nat), x])) h'' s.heap.objs.size (.tup [.int (i : Nat), x]) :=
      ⟨by show 2 ≤ sizeLine; decide, [.int i tk, y], .cons ⟨_, rfl⟩ (.cons ru .nil), ⟨_, hT2, rfl, _, rfl⟩⟩
    have I1 : Inv X pins σ (upd H s.heap.objs.size (.tup [.int (i : Nat), x])) { s with heap := h'', toks := tk + 1 } :=
      I.turnedNew (ch := [e, it]) (fun b ob hb q => (sb.2 b (fun z => hb (by simp [z]))).trans (hk b ob (fun z => hb (by simp [z])) (fun z => hb (by simp [z])) q)) hf (Nat.le_refl _) new
    refine ⟨.ref s.heap.objs.size, _, I1, rfl, ⟨_, x, rfl, I.hok.fresh (Nat.le_refl _), rfl, fun ys hy => by rw [I.tuple_inj hy hq]; exact hx⟩, ⟨⟨y, ?_⟩, hst.1.at fun o q => (sb.2 it (Ne.symm hne)).trans q, hne, hae⟩, fun b hb => ?_⟩
    · have e1 : ((i + 1 : Nat) : Int) = (i : Int) + 1 := by omega
      rw [e1]
      exact he'
    · have hb' : b < s.heap.objs.size := by
        have e' : b = e ∨ b = it := by simpa using hb
        rcases e' with z | z
        · rw [z]
          exact hel
        · rw [z]
          exact hil
      rw [upd_ne (Nat.ne_of_lt hb')]
      exact (hf b hb).1
  done := by
    intro X hP hw hK hc i pins s σ H E I hf st hg
    subst hP hw hK
    obtain ⟨⟨old, he⟩, hit, hne, hae⟩ := st
    obtain ⟨xs, hq, hx⟩ := hg
    obtain ⟨its, rv, p, hz⟩ := I.tuple hq
    obtain ⟨f0, f1, f2, f3, f4, f5⟩ := hf it (by simp)
    have hl := rv.length
    exact enumT_end (I.ok.hd hc) he hit p (by simp; omega) fun h' eb => ⟨rfl, I.turned (t' := s.toks) (fun b o hb q => eb b o hb q) f0 f1 f3 f4 f5⟩
  self := fun A i s Q E st h => let ⟨⟨_, he⟩, _⟩ := st; wpAny_pyIter_enum he h
theorem pi_enumA {X : Cx} {e : Expr} {te : TE} {p pos tpos : Pos} {elts : List Expr} {kk : Nat} (hg : Gl X "enumerate") (hm : X.mg "enumerate" = none) (he : PE X e te) (hs : starEach [e] X.env = [(false, eval e X.env)]) :
    PI X (.Tuple elts kk tpos) (.Call (.Name "enumerate" p) [e] [] pos) (iEnumA X.K te) := by
  have ha : PA X [e] (tCons te tNil) := pa_cons he pa_nil hs
  refine ⟨fun pins s σ H R I h => ?_⟩
  refine Call_ (ld_blt I hg hm boot_enumerate (PyProof.Rows.callWith_type1 (thn (ha.run pos pins s σ H (fun vs H1 => match vs with
    | [x] => ∃ a xs, x = .ref a ∧ ((SqL X.K H1 a xs ∧ R (Ite X.K a) H1) ∨ (SqT X.K H1 a xs ∧ R (IteT X.K a) H1))
    | _ => False) I h) fun us s1 ⟨vs, H1, I1, r1, qq⟩ => ?_) hs rfl))
  obtain ⟨x, ev, a, xs, ex, q⟩ : ∃ x, vs = [x] ∧ ∃ a xs, x = .ref a ∧ ((SqL X.K H1 a xs ∧ R (Ite X.K a) H1) ∨ (SqT X.K H1 a xs ∧ R (IteT X.K a) H1)) := by
    match vs, qq with
    | [], z => exact z.elim
    | [x], z => exact ⟨x, rfl, z⟩
    | _ :: _ :: _, z => exact z.elim
  · subst ev ex
    rw [Vals.ref1 r1]
    rcases q with ⟨hq, q⟩ | ⟨hq, q⟩
    · obtain ⟨its, rv, p', hz⟩ := I1.list hq
      refine call_enumerate_list p'.isList fun h' he hit hsz hk => wpAny_pyIter_enum he ?_
      have I2 : Inv X pins σ H1 { s1 with heap := h' } := I1.kept (t' := s1.toks) hk
      refine ⟨s1.heap.objs.size + 1, [s1.heap.objs.size + 1, s1.heap.objs.size], _, _, H1, rfl, I2, turn_enum a (s1.heap.objs.size + 1) s1.heap.objs.size, ⟨⟨.none, he⟩, hit, Nat.succ_ne_self _⟩, fun b hb => ?_, q⟩
      have e' : b = s1.heap.objs.size + 1 ∨ b = s1.heap.objs.size := by simpa using hb
      have hle : s1.heap.objs.size ≤ b := by
        rcases e' with z | z
        · rw [z]
          exact Nat.le_add_right _ _
        · rw [z]
          exact Nat.le_refl _
      exact I1.fpOk hle (I1.hok.fresh hle)
    · obtain ⟨its, rv, p', hz⟩ := I1.tuple hq
      have hal : a < s1.heap.objs.size := by obtain ⟨_, q, _⟩ := p'; exact Heap.lt_size q
      refine call_enumT p' fun h' he hit hk => wpAny_pyIter_enum he ?_
      have I2 : Inv X pins σ H1 { s1 with heap := h' } := I1.kept (t' := s1.toks) hk
      refine ⟨s1.heap.objs.size + 1, [s1.heap.objs.size + 1, s1.heap.objs.size], _, _, H1, rfl, I2, turn_enumT a (s1.heap.objs.size + 1) s1.heap.objs.size (Nat.ne_of_lt hal), ⟨⟨.none, he⟩, hit, Nat.succ_ne_self _, Nat.ne_of_lt (Nat.lt_succ_of_lt hal)⟩, fun b hb => ?_, q⟩
      have e' : b = s1.heap.objs.size + 1 ∨ b = s1.heap.objs.size := by simpa using hb
      have hle : s1.heap.objs.size ≤ b := by
        rcases e' with z | z
        · rw [z]
          exact Nat.le_add_right _ _
        · rw [z]
          exact Nat.le_refl _
      exact I1.fpOk hle (I1.hok.fresh hle)
/-- dict(d), d a written dict that stands as mixKind has it -/
theorem pe_gcopy {X : Cx} {x : Str} {d : Addr} {ws : List (Key × V)} {vs : List (Key × Value)} {p q pos : Pos} (hg : Gl X "dict") (hm : X.mg "dict" = none) (hgx : Gl X x) (hmx : X.mg x = some (.ref d)) (hdb : (x == ("__debug__" : Str)) = false)
    (lo : (d == sysModules) = false) (hz : ws.length ≤ sizeLine) (kv : KV ws vs) (hd : ∀ h : Heap, X.K.In h → h.DictOf (mixKind X.prog X.w) d vs) : PE X (.Call (.Name "dict" p) [.Name x q] [] pos) (tGCopy ws) := by
  have hc : CallR X (.type "dict") (fun xs H Q => xs = [.ref d] ∧ ∀ p, H p = none → Q (.ref p) (upd H p (.dK ws))) := by
    intro pins s σ H xs us Q I r h
    obtain ⟨rfl, h⟩ := h
    rw [Vals.ref1 r]
    refine kt_call_dict lo (hd _ I.kIn) (by rw [← kv.length]; exact hz) fun h' d' hs => ?_
    have hm : (s.heap.objs.size == sysModules) = false := beq_eq_false_iff_ne.mpr (Nat.ne_of_gt I.big)
    exact ⟨.ref s.heap.objs.size, upd H s.heap.objs.size (.dK ws), I.laid (t' := s.toks) (fun b u e => (hs.2 b (Nat.ne_of_lt (Heap.lt_size e))).trans (Heap.get?_push_of_some _ e)) (Nat.le_refl _) (show ObjOk X.prog X.w _ _ _ (.dK ws) from ⟨hz, hm, vs, kv, d'⟩), rfl, h _ (I.hok.fresh (Nat.le_refl _))⟩
  exact PE.imp (pe_callTy hc hg hm (by decide +kernel) (pa_cons (pe_glob (v := .ref d) hgx hmx rfl hdb) pa_nil)) fun σ H Q h => ⟨rfl, h⟩
end Ev
/-! Tr1: what is seen of the text; calls; assignments of comprehensions. -/
namespace Ev
open PySem PySem.Spec PyProof.Rows L2 RZ StX
/-- no star, no slice, no set -/
def plE : Expr → Bool
  | .Starred .. => false
  | .Slice .. => false
  | .Set .. => false
  | _ => true
theorem plE_star {e : Expr} (h : plE e = true) (es : List Expr) (env : Env) : starEach (e :: es) env = (false, eval e env) :: starEach es env := by cases e <;> first | rfl | cases h
theorem plE_fold {e : Expr} (h : plE e = true) (env : Env) (x : Value) : foldedSetIterable e env x = pure x := by cases e <;> first | rfl | cases h
theorem plE_mark {e : Expr} (h : plE e = true) (op : CmpOp) : behindInMarks op e = false := by cases e <;> first | rfl | cases h
theorem plE_ix {e : Expr} (h : plE e = true) : PlainIx e := by
  intro o i
  cases e <;> first | rfl | cases h
theorem plEs_any {pos : Pos} {env : Env} : ∀ {es : List Expr}, es.all plE = true → (backTo pos (starEach es env)).any (·.1) = false
  | [], _ => rfl
  | e :: es, h => by
    rw [List.all_cons, Bool.and_eq_true] at h
    rw [plE_star h.1]
    have ih := plEs_any (pos := pos) (env := env) h.2
    show (false || _) = false
    exact ih
/-- an attribute's base that is no call -/
def ncE : Expr → Bool
  | .Call .. => false
  | _ => true
theorem ncE_base {o : Expr} (h : ncE o = true) (m : Str) (env : Env) (w : Sem Value) : attributeBase o m env w = w := by cases o <;> first | rfl | cases h
/-- a test by truth -/
def trE : Expr → Bool
  | .UnaryOp op _ _ => match op with
    | .Not => false
    | _ => true
  | .BoolOp .. => false
  | .IfExp .. => false
  | .Compare .. => false
  | _ => true
theorem trE_ok {e : Expr} (h : trE e = true) (env : Env) (w : Sem Value) : isTrue e env w = (do let v ← w; standAt e.pos; holding [v] (truthy v)) := by
  cases e <;> first | rfl | (cases h; done) | skip
  rename_i op _ _
  cases op <;> first | rfl | cases h
/-- no comprehension -/
def nkE : Expr → Bool
  | .ListComp .. => false
  | .SetComp .. => false
  | .DictComp .. => false
  | _ => true
theorem nkE_sw {e : Expr} (h : nkE e = true) (t : Option Expr) (l : Nat) (env : Env) : swapsWith e t l env = pure false := by cases e <;> first | rfl | cases h
theorem pt_pw {X : Cx} {op : BoolOp} {es : List Expr} {pos : Pos} {t : TT} (h : PT X (.BoolOp op es pos) t) : PW X (.BoolOp op es pos) t := ⟨fun whole pins s σ H Q I q => h.run pins s σ H Q I q⟩
/-! ### calls -/
def FnG (P : Program) (w : World) (K : PySem.W.Frag) (mg : Str → Option Value) (base : Heap) (k : Nat) (f : Addr) (sp : Sp) : Prop :=
  ∀ (A : Around) (outer : List Env) (s : Shared) (H : Hp) (us : List Value) (vs : List V) (Q : VK), A.guards = some [] → Room k A → Env0 P w K mg base A outer s H → Vals vs us → sp vs H Q E0 →
    codeAny (model P w) A (.call (.ref f) ⟨us, []⟩) (CR CX0 outer P w H s Q E0) s
section
variable {X : Cx} {k : Nat} {f : Addr} {sp : Sp}
theorem run_fnG {pins : List (Addr × Obj)} {σ : L2.St} {H : Hp} {s : Shared} {Q : VK} {us : List Value} {vs : List V} (F : FnG X.prog X.w X.K X.mg X.base k f sp) (hg : X.A.guards = some []) (hr : Room k X.A) (I : Inv X pins σ H s) (r : Vals vs us) (h : sp vs H Q E0) :
    wpAny (model X.prog X.w) X.A (call (.ref f) us) (EP X pins σ Q) X.xe s := by
  refine wpAny_call (codeAny_mono (F X.A X.stack s H us vs Q hg hr I.env0 r h) fun r s' hq => ?_)
  cases r with
  | error e => exact False.elim hq
  | ok fl => cases fl with
    | ret u => exact I.after hq
    | next => exact False.elim hq
    | brk => exact False.elim hq
    | cont => exact False.elim hq
theorem pe_callG {x : Str} {e : Expr} {es : List Expr} {t : TA} {p pos : Pos} (F : FnG X.prog X.w X.K X.mg X.base k f sp) (hgd : X.A.guards = some []) (hr : Room k X.A) (hg : Gl X x) (hm : X.mg x = some (.ref f)) (hk : PySem.W.keepIn X.K (.ref f) = true) (hdb : (x == ("__debug__" : Str)) = false)
    (hp : (e :: es).all plE = true) (ha : PA X (e :: es) t) : PE X (.Call (.Name x p) (e :: es) [] pos) (tCall sp [] E0 t) := by
  refine ⟨fun pins s σ H Q I h => ?_⟩
  refine wpAny_Call_Name_kw (ld_glob I hg hm ?_ hdb)
  rw [List.all_cons, Bool.and_eq_true] at hp
  refine PySem.W.callWith_K (h₀ := X.base) I.ok.mod.kin hk (thn (ha.run pos pins s σ H _ I h) fun us s1 ⟨vs, H1, I1, r, q⟩ => ⟨I1.kIn, ?_⟩) (plE_star hp.1 _ _) (plEs_any hp.2)
  have q : sp (vs ++ []) H1 Q E0 := q
  rw [List.append_nil] at q
  exact run_fnG F hgd hr I1 r q
theorem pe_callG0 {x : Str} {p pos : Pos} (F : FnG X.prog X.w X.K X.mg X.base k f sp) (hgd : X.A.guards = some []) (hr : Room k X.A) (hg : Gl X x) (hm : X.mg x = some (.ref f)) (hk : PySem.W.keepIn X.K (.ref f) = true) (hdb : (x == ("__debug__" : Str)) = false) :
    PE X (.Call (.Name x p) [] [] pos) (tCall sp [] E0 tNil) := by
  refine ⟨fun pins s σ H Q I h => ?_⟩
  refine wpAny_Call_Name_kw (ld_glob I hg hm ?_ hdb)
  exact PySem.W.callWith_K0 I.kIn hk (run_fnG (us := []) F hgd hr I .nil h)
theorem pe_callV {fa : Nat → Option Addr} {sps : Nat → Sp} {i : Nat} {x : Str} {e : Expr} {es : List Expr} {t : TA} {p pos : Pos} (F : ∀ j a, fa j = some a → FnG X.prog X.w X.K X.mg X.base k a (sps j) ∧ PySem.W.keepIn X.K (.ref a) = true) (hgd : X.A.guards = some []) (hr : Room k X.A)
    (hv : PE X (.Name x p) (tVar i)) (hp : (e :: es).all plE = true) (ha : PA X (e :: es) t) : PE X (.Call (.Name x p) (e :: es) [] pos) (tCallV fa sps i t) := by
  refine ⟨fun pins s σ H Q I h => ?_⟩
  obtain ⟨j, a, h1, h2, h⟩ := h
  obtain ⟨F, hk⟩ := F j a h2
  refine wpAny_Call_Name_kw (thn (hv.run pins s σ H (fun v H1 => v = .ref a ∧ H1 = H) I ⟨_, h1, rfl, rfl⟩) fun u s1 ⟨v, H1, I1, r1, e1, e2⟩ => ?_)
  subst e1 e2
  obtain rfl : u = Value.ref a := r1
  rw [List.all_cons, Bool.and_eq_true] at hp
  refine PySem.W.callWith_K (h₀ := X.base) I1.ok.mod.kin hk (thn (ha.run pos pins s1 σ H1 _ I1 h) fun us s2 ⟨vs, H2, I2, r, q⟩ => ⟨I2.kIn, ?_⟩) (plE_star hp.1 _ _) (plEs_any hp.2)
  exact run_fnG F hgd hr I2 r q
end
/-! ### name = a comprehension, on one line -/
/-- the model stores the name ahead of the block's end -/
def swB (sc : Scope) (x : Str) (p : Pos) (cs : Scope) (cp : Pos) : Bool := (match sc.names.lookup x with
  | some .local => true
  | _ => false) && p.line == cp.line && !(cs.names.any fun (n, k) => n == x && (k == .local || k == .cell))
section
variable {X : Cx}
theorem sw_of {v : Expr} {cs : Scope} {x : Str} {p cp : Pos} {l : Nat} (hk : X.env.scope.kind = .function) (hv : (∃ a gs, v = .ListComp a gs cs cp) ∨ ∃ a b gs, v = .DictComp a b gs cs cp) : swapsWith v (some (.Name x p)) l X.env = pure (swB X.env.scope x p cs cp) := by
  have hb : X.env.blockKind = .function := by unfold Env.blockKind; rw [hk]; rfl
  have key : (X.env.blockKind == .function && X.env.kindOf x == some .local && p.line == cp.line && !(cs.names.any fun (n, k) => n == x && (k == .local || k == .cell))) = swB X.env.scope x p cs cp := by
    unfold swB
    rw [hb]
    have e : (X.env.kindOf x == some .local) = (match X.env.scope.names.lookup x with
      | some .local => true
      | _ => false) := by
      show (X.env.scope.names.lookup x == some .local) = _
      cases X.env.scope.names.lookup x with
      | none => rfl
      | some k => cases k <;> rfl
    rw [e]
    rfl
  rcases hv with ⟨a, gs, rfl⟩ | ⟨a, b, gs, rfl⟩
  · rw [← key]
    rfl
  · rw [← key]
    rfl
theorem swB_local {sc cs : Scope} {x : Str} {p cp : Pos} (h : swB sc x p cs cp = true) : sc.names.lookup x = some .local := by
  unfold swB at h
  rw [Bool.and_eq_true, Bool.and_eq_true] at h
  have h := h.1.1
  split at h
  · assumption
  · cases h
theorem ps_setDc {i : Nat} {y : Str} {py : Pos} {kx vx tg iter : Expr} {ifs : List Expr} {scope : Scope} {own : List (Str × Nat)} {pos spos : Pos} {wi : TI} {g : TG} {tt : TT} {tk tv : TE} (hc : X.calm = true) (hN : X.N.Nodup) (hy : X.N[i]? = some y) (hyl : X.env.scope.names.lookup y = some .local)
    (hsw : swapsWith (.DictComp kx vx [⟨tg, iter, ifs, 0⟩] scope pos) (some (.Name y py)) spos.line X.env = pure true) (hi : PI X tg iter wi) (ok : BlkOk X.N X.env.scope scope own)
    (hg : ∀ (s : Shared) (H : Hp) (C : Addr) (cl : List (Str × Addr)) (fp : List Addr), PG (X.blk s H scope (compEnvC scope cl C X.env) fp) tg g) (ht : ∀ (s : Shared) (H : Hp) (C : Addr) (cl : List (Str × Addr)) (fp : List Addr), PTs (X.blk s H scope (compEnvC scope cl C X.env) fp) ifs tt)
    (hk : ∀ (s : Shared) (H : Hp) (C : Addr) (cl : List (Str × Addr)) (fp : List Addr), PE (X.blk s H scope (compEnvC scope cl C X.env) fp) kx tk)
    (he : ∀ (s : Shared) (H : Hp) (C : Addr) (cl : List (Str × Addr)) (fp : List Addr), PE (X.blk s H scope (compEnvC scope cl C X.env) fp) vx tv) (hs : ∀ x, foldedSetIterable iter X.env x = pure x) :
    PS X (.Assign [.Name y py] (.DictComp kx vx [⟨tg, iter, ifs, 0⟩] scope pos) spos) (tAsg (tDc wi g tt tk tv (own.map (·.2))) (gName i)) := by
  refine ⟨fun pins s σ H D I h => ?_⟩
  rw [exec_Assign_Name_used _ _ _ _ hsw]
  refine wpAny_bind (wpAny_standAt (wpAny_bind ?_))
  show wpAny _ X.A (do let _ ← comprehension (.DictComp kx vx [⟨tg, iter, ifs, 0⟩] scope pos) scope X.env (firstIterPos [⟨tg, iter, ifs, 0⟩] pos) newDict false (eval iter X.env) (some (assign (.Name y py) X.env))) _ _ s
  have h : tDc wi g tt tk tv (own.map (·.2)) σ H (fun x H1 => gName i x σ H1 D.nx) := h
  refine wpAny_bind (thn (dc_core (Qf := fun _ s' => SP X pins D .next s') hc hN I hi ok hg ht hk he hs h fun L C s' m H' I' q hn f => ?_) fun _ s' hq => wpAny_pure (wpAny_pure hq))
  show wpAny _ _ (assign (.Name y py) X.env (.ref L)) _ _ _
  refine wpAny_assign_Name (store_ok2 (v := V.ref L) I' hN hy (.inl hyl) rfl (fun s2 I2 ⟨a, sb, ha⟩ => ?_) (.inr hyl))
  obtain ⟨f0, f1, f2, f3, f4, f5⟩ := f
  have haC : C ≠ a := ha.elim (fun z => by rw [z]; exact f1) fun z e => f4 y a z e.symm
  exact ⟨m, hn.sameBut sb haC, fun h3 sb3 => ⟨_, H', I2.turned (t' := s2.toks) (fun b o hb e => (sb3.2 b hb).trans e) f0 f1 f3 f4 f5, q⟩⟩
end
end Ev
/-! Tr2: a, b = e, f. -/
namespace Ev
open PySem PySem.Spec PyProof.Rows L2 RZ StX
def lcB (sc : Scope) (x : Str) : Bool := match sc.names.lookup x with
  | some .local => true
  | _ => false
theorem lcB_eq {sc : Scope} {x : Str} : (sc.names.lookup x == some NameKind.local) = lcB sc x := by
  unfold lcB
  cases sc.names.lookup x with
  | none => rfl
  | some k => cases k <;> rfl
theorem lcB_ok {sc : Scope} {x : Str} (h : lcB sc x = true) : sc.names.lookup x = some .local := by
  rw [← lcB_eq] at h
  exact eq_of_beq h
def sw2 (sc : Scope) (x y : Str) (px py : Pos) (a b : Expr) : Option Bool :=
  if lcB sc x && (lcB sc y && py.line == px.line) then
    if decide (x ≠ y) && (plE a && plE b) && !(foldedForSure 8 a && foldedForSure 8 b) && !(constantsAlone 8 a && constantsAlone 8 b) then some true else none
  else some false
def sw3 (sc : Scope) (x y z : Str) (px py pz : Pos) (a b c : Expr) : Option Bool :=
  if lcB sc x && (lcB sc y && py.line == px.line) && (lcB sc z && pz.line == px.line) then
    if decide (x ≠ y) && decide (x ≠ z) && decide (y ≠ z) && (plE a && plE b && plE c) && !(foldedForSure 8 a && (foldedForSure 8 b && foldedForSure 8 c)) && !(constantsAlone 8 a && (constantsAlone 8 b && constantsAlone 8 c)) then some true else none
  else some false
section
variable {X : Cx}
theorem blk_fn (hk : X.env.scope.kind = .function) : (X.env.blockKind != .function) = false := by
  have hb : X.env.blockKind = .function := by unfold Env.blockKind; rw [hk]; rfl
  rw [hb]; rfl
def isStar : Expr → Bool
  | .Starred .. => true
  | _ => false
theorem plE_nstar {e : Expr} (h : plE e = true) : isStar e = false := by cases e <;> first | rfl | cases h
theorem dups2 {x y : Str} (h : x ≠ y) : [x, y].eraseDups = [x, y] := by
  have e : (y == x) = false := beq_eq_false_iff_ne.mpr (Ne.symm h)
  simp [List.eraseDups_cons, e]
theorem dups3 {x y z : Str} (h : x ≠ y) (h2 : x ≠ z) (h3 : y ≠ z) : [x, y, z].eraseDups = [x, y, z] := by
  have e : (y == x) = false := beq_eq_false_iff_ne.mpr (Ne.symm h)
  have e2 : (z == x) = false := beq_eq_false_iff_ne.mpr (Ne.symm h2)
  have e3 : (z == y) = false := beq_eq_false_iff_ne.mpr (Ne.symm h3)
  simp [List.eraseDups_cons, e, e2, e3]
theorem sw2_ok {x y : Str} {px py pt pt2 : Pos} {kt k2 : Nat} {a b : Expr} (hk : X.env.scope.kind = .function) {r : Bool} (h : sw2 X.env.scope x y px py a b = some r) :
    swappedStores [.Tuple [.Name x px, .Name y py] kt pt] (.Tuple [a, b] k2 pt2) X.env = pure (if r then some [x, y] else none) := by
  have hb := blk_fn hk
  have ex : (X.env.kindOf x == some NameKind.local) = lcB X.env.scope x := lcB_eq
  have ey : (X.env.kindOf y == some NameKind.local) = lcB X.env.scope y := lcB_eq
  unfold sw2 at h
  unfold swappedStores
  simp only [List.length_cons, List.length_nil, hb, ex, ey, List.filterMap_cons, List.filterMap_nil, List.head?_cons, Option.map_some, Option.getD_some, Expr.pos, List.any_cons, List.any_nil, List.all_cons, List.all_nil, beq_self_eq_true, Bool.and_true]
  cases hx : lcB X.env.scope x <;> cases hy : (lcB X.env.scope y && py.line == px.line) <;> rw [hx, hy] at h <;> simp only [Bool.false_and, Bool.true_and, Bool.and_true, Bool.and_false, Bool.false_eq_true, if_false, if_true] at h ⊢
  · cases h
    rw [if_neg (by decide)]
    show (if (isStar a || (isStar b || false)) = true then _ else _) = _
    split <;> rfl
  · cases h
    rw [if_neg (by decide)]
    show (if (isStar a || (isStar b || false)) = true then _ else _) = _
    split <;> rfl
  · cases h
    rw [if_neg (by decide)]
    show (if (isStar a || (isStar b || false)) = true then _ else _) = _
    split <;> rfl
  · split at h
    · rename_i hc
      cases h
      simp only [Bool.and_eq_true, Bool.not_eq_true', decide_eq_true_eq] at hc
      obtain ⟨⟨⟨hne, pa, pb⟩, hf⟩, hcn⟩ := hc
      have sa := plE_nstar pa
      have sb := plE_nstar pb
      rw [if_neg (by decide)]
      show (if (isStar a || (isStar b || false)) = true then _ else _) = _
      rw [sa, sb, if_neg (by decide), dups2 hne, if_neg (by simp), hf, if_neg (by decide), hcn, if_neg (by decide)]
      rfl
    · cases h
theorem sw3_ok {x y z : Str} {px py pz pt pt2 : Pos} {kt k2 : Nat} {a b c : Expr} (hk : X.env.scope.kind = .function) {r : Bool} (h : sw3 X.env.scope x y z px py pz a b c = some r) :
    swappedStores [.Tuple [.Name x px, .Name y py, .Name z pz] kt pt] (.Tuple [a, b, c] k2 pt2) X.env = pure (if r then some [x, y, z] else none) := by
  have hb := blk_fn hk
  have ex : (X.env.kindOf x == some NameKind.local) = lcB X.env.scope x := lcB_eq
  have ey : (X.env.kindOf y == some NameKind.local) = lcB X.env.scope y := lcB_eq
  have ez : (X.env.kindOf z == some NameKind.local) = lcB X.env.scope z := lcB_eq
  unfold sw3 at h
  unfold swappedStores
  simp only [List.length_cons, List.length_nil, hb, ex, ey, ez, List.filterMap_cons, List.filterMap_nil, List.head?_cons, Option.map_some, Option.getD_some, Expr.pos, List.any_cons, List.any_nil, List.all_cons, List.all_nil, beq_self_eq_true, Bool.and_true]
  cases hx : lcB X.env.scope x <;> cases hy : (lcB X.env.scope y && py.line == px.line) <;> cases hz : (lcB X.env.scope z && pz.line == px.line) <;> rw [hx, hy, hz] at h <;> simp only [Bool.false_and, Bool.true_and, Bool.and_true, Bool.and_false, Bool.false_eq_true, if_false, if_true] at h ⊢
  rotate_left 7
  · split at h
    · rename_i hc
      cases h
      simp only [Bool.and_eq_true, Bool.not_eq_true', decide_eq_true_eq] at hc
      obtain ⟨⟨⟨⟨⟨h1, h2⟩, h3⟩, ⟨pa, pb⟩, pc⟩, hf⟩, hcn⟩ := hc
      have sa := plE_nstar pa
      have sb := plE_nstar pb
      have sc := plE_nstar pc
      rw [if_neg (by decide)]
      show (if (isStar a || (isStar b || (isStar c || false))) = true then _ else _) = _
      rw [sa, sb, sc, if_neg (by decide), dups3 h1 h2 h3, if_neg (by simp), hf, if_neg (by decide), hcn, if_neg (by decide)]
      rfl
    · cases h
  all_goals
    cases h
    rw [if_neg (by decide)]
    show (if (isStar a || (isStar b || (isStar c || false))) = true then _ else _) = _
    split <;> rfl
end
end Ev
/-! Tr3: a term is held against a text. -/
namespace Ev
open PySem PySem.Spec PyProof.Rows L2 RZ StX
/-- the module's names: defs, plain constants, written dicts, a class's constants; names that are the built-ins' -/
structure Tb where
  fns : List (Str × Nat)
  gcs : List (Str × Nat)
  gds : List (Str × Nat)
  cls : List ((Str × Str) × Nat)
  free : List Str
structure Sx where
  N : List Str
  sc : Scope
  os : Scope
def visB (sx : Sx) (i : Nat) (x : Str) : Bool := decide (sx.N[i]? = some x) && (match sx.sc.names.lookup x with
  | some .local => true
  | some .cell => true
  | some .free => true
  | _ => false) && (!(x == ("__debug__" : Str)) && !(x == ("__classdict__" : Str)))
def locB (sx : Sx) (i : Nat) (x : Str) : Bool := decide (sx.N[i]? = some x) && (match sx.sc.names.lookup x with
  | some .local => true
  | some .cell => (match sx.os.names.lookup x with
    | some .cell => true
    | _ => false)
  | _ => false)
def glB (sx : Sx) (x : Str) : Bool := (match sx.sc.names.lookup x with
  | some .globalImplicit => true
  | _ => false) && !(x == ("__debug__" : Str))
def frB (tb : Tb) (sx : Sx) (x : Str) : Bool := glB sx x && tb.free.contains x
def cstB : D → Const → Bool
  | .non, .none => true
  | .bl a, .bool b => a == b
  | .int a, .int b => decide (a = b)
  | .str a, .str b => decide (a = b)
  | _, _ => false
def biN : Bi → Option (Str × Value)
  | .len => some ("len", .builtin "len")
  | .all => some ("all", .builtin "all")
  | .any => some ("any", .builtin "any")
  | .list => some ("list", .type "list")
  | .tuple => some ("tuple", .type "tuple")
  | .sorted => some ("sorted", .builtin "sorted")
  | .int => some ("int", .type "int")
  | .abs => some ("abs", .builtin "abs")
  | .repr => some ("repr", .builtin "repr")
  | .dict => some ("dict", .type "dict")
  | _ => none
def isiB : Bi → Bool
  | .isInt => true
  | .isBool => true
  | .isStr => true
  | .isTuple => true
  | .isList => true
  | _ => false
def muN : Mu → Str
  | .append => "append"
  | .extend => "extend"
  | .pop => "pop"
  | .popAt => "pop"
  | .clear => "clear"
def ownP (sx : Sx) (own : List Nat) : List (Str × Nat) := own.map fun i => (sx.N.getD i Str.empty, i)
theorem ownP_snd (sx : Sx) (own : List Nat) : (ownP sx own).map (·.2) = own := by
  unfold ownP
  rw [List.map_map]
  exact List.map_id' own
def blkX (sx : Sx) (scope : Scope) : Sx := ⟨sx.N, relS scope sx.sc, scope⟩
def nmB (sx : Sx) (i : Nat) : Expr → Bool
  | .Name x _ => locB sx i x
  | _ => false
def ckNs (sx : Sx) : List Nat → List Expr → Bool
  | [], [] => true
  | i :: is, e :: es => nmB sx i e && ckNs sx is es
  | _, _ => false
def ckTg (sx : Sx) (tg : List Nat) (one : Bool) (e : Expr) : Bool := match one, tg with
  | true, [i] => nmB sx i e
  | false, is => (match e with
    | .Tuple es _ _ => ckNs sx is es
    | _ => false)
  | _, _ => false
def isTup : Expr → Bool
  | .Tuple .. => true
  | _ => false
abbrev FE := Sx → Expr → Bool
abbrev FO := Sx → Option Expr → Bool
abbrev FL := Sx → List Expr → Bool
abbrev FP := Sx → List (Option Expr) → List Expr → Bool
abbrev F2 := Sx → Expr → Expr → Bool
abbrev FS := Sx → Stmt → Bool
abbrev FSs := Sx → List Stmt → Bool
def mVar  (i : Nat) (sx : Sx) (e : Expr) : Bool := (match e with
    | .Name x _ => visB sx i x
    | _ => false)
def mCst  (d : D) (sx : Sx) (e : Expr) : Bool := (match e with
    | .Constant c _ _ => cstB d c
    | _ => false)
def mGl (tb : Tb) (i : Nat) (sx : Sx) (e : Expr) : Bool := (match e with
    | .Name x _ => glB sx x && decide (tb.gcs.lookup x = some i)
    | .Attribute b f _ => (match b with
      | .Name c _ => glB sx c && decide (tb.cls.lookup (c, f) = some i)
      | _ => false)
    | _ => false)
def mFnv (tb : Tb) (i : Nat) (sx : Sx) (e : Expr) : Bool := (match e with
    | .Name x _ => glB sx x && decide (tb.fns.lookup x = some i)
    | _ => false)
def mBin  (o : BOp) (f_a : FE) (f_b : FE) (sx : Sx) (e : Expr) : Bool := (match e with
    | .BinOp l op r _ => decide (op = opOf o) && (f_a sx l && f_b sx r)
    | _ => false)
def mNeg  (f_a : FE) (sx : Sx) (e : Expr) : Bool := (match e with
    | .UnaryOp op x _ => decide (op = .USub) && f_a sx x
    | _ => false)
def mNotv  (f_a : FE) (sx : Sx) (e : Expr) : Bool := (match e with
    | .UnaryOp op x _ => decide (op = .Not) && f_a sx x
    | _ => false)
def mCmp  (o : COp) (f_a : FE) (f_b : FE) (sx : Sx) (e : Expr) : Bool := (match e with
    | .Compare l [op] [r] _ => decide (op = cmpOf o) && plE r && (f_a sx l && f_b sx r)
    | _ => false)
def mIsn  (f_a : FE) (sx : Sx) (e : Expr) : Bool := (match e with
    | .Compare l [op] [.Constant .none _ _] _ => decide (op = .Is) && f_a sx l
    | _ => false)
def mIsnn  (f_a : FE) (sx : Sx) (e : Expr) : Bool := (match e with
    | .Compare l [op] [.Constant .none _ _] _ => decide (op = .IsNot) && f_a sx l
    | _ => false)
def mChain  (o : COp) (p : COp) (f_a : FE) (f_b : FE) (f_c : FE) (sx : Sx) (e : Expr) : Bool := (match e with
    | .Compare l [op, op'] [m, r] _ => decide (op = cmpOf o) && decide (op' = cmpOf p) && plE r && (f_a sx l && (f_b sx m && f_c sx r))
    | _ => false)
def mAndv  (f_a : FE) (f_b : FE) (sx : Sx) (e : Expr) : Bool := (match e with
    | .BoolOp op [x, y] _ => decide (op = .And) && (f_a sx x && f_b sx y)
    | .BoolOp op (x :: y :: z :: r) pos => decide (op = .And) && (f_a sx x && f_b sx (.BoolOp .And (y :: z :: r) pos))
    | _ => false)
def mOrv  (f_a : FE) (f_b : FE) (sx : Sx) (e : Expr) : Bool := (match e with
    | .BoolOp op [x, y] _ => decide (op = .Or) && (f_a sx x && f_b sx y)
    | .BoolOp op (x :: y :: z :: r) pos => decide (op = .Or) && (f_a sx x && f_b sx (.BoolOp .Or (y :: z :: r) pos))
    | _ => false)
def mIfe  (f_c : FE) (f_a : FE) (f_b : FE) (sx : Sx) (e : Expr) : Bool := (match e with
    | .IfExp t x y _ => f_c sx t && (f_a sx x && f_b sx y)
    | _ => false)
def mIdx  (f_a : FE) (f_b : FE) (sx : Sx) (e : Expr) : Bool := (match e with
    | .Subscript l r _ => plE r && (f_a sx l && f_b sx r)
    | _ => false)
def mSlc  (f_a : FE) (f_lo : FO) (f_hi : FO) (sx : Sx) (e : Expr) : Bool := (match e with
    | .Subscript l (.Slice x y none _) _ => f_a sx l && (f_lo sx x && f_hi sx y)
    | _ => false)
def mEvn  (f_a : FE) (f_lo : FO) (sx : Sx) (e : Expr) : Bool := (match e with
    | .Subscript l (.Slice x none (some (.Constant (.int i) _ _)) _) _ => decide (i = 2) && (f_a sx l && f_lo sx x)
    | _ => false)
def mRev  (f_a : FE) (sx : Sx) (e : Expr) : Bool := (match e with
    | .Subscript l (.Slice none none (some (.UnaryOp op (.Constant (.int i) _ _) _)) _) _ => decide (op = .USub) && decide (i = 1) && f_a sx l
    | _ => false)
def mBi (tb : Tb) (f : Bi) (f_a : FE) (sx : Sx) (e : Expr) : Bool := (match e with
    | .Call (.Name x _) [y] [] _ => (match biN f with
      | some (n, _) => decide (x = n) && frB tb sx n && plE y && f_a sx y
      | none => false)
    | .Call (.Name x _) [y, .Name t _] [] _ => isiB f && decide (x = ("isinstance" : Str)) && frB tb sx "isinstance" && decide (t = Str.ofString (isiT f)) && frB tb sx (Str.ofString (isiT f)) && plE y && f_a sx y
    | _ => false)
def mJoin  (f_s : FE) (f_a : FE) (sx : Sx) (e : Expr) : Bool := (match e with
    | .Call (.Attribute o m apos) [y] [] pos => decide (m = ("join" : Str)) && ncE o && apos.endLine == pos.line && plE y && (f_s sx o && f_a sx y)
    | _ => false)
def mDget  (f_d : FE) (f_k : FE) (f_x : FE) (sx : Sx) (e : Expr) : Bool := (match e with
    | .Call (.Attribute o m apos) [y, z] [] pos => decide (m = ("get" : Str)) && ncE o && apos.endLine == pos.line && plE y && plE z && (f_d sx o && (f_k sx y && f_x sx z))
    | _ => false)
def mZipl (tb : Tb) (f_a : FE) (f_b : FE) (sx : Sx) (e : Expr) : Bool := (match e with
    | .Call (.Name x _) [.Call (.Name y _) [l, r] [] _] [] _ => decide (x = ("list" : Str)) && frB tb sx "list" && decide (y = ("zip" : Str)) && frB tb sx "zip" && plE l && plE r && (f_a sx l && f_b sx r)
    | _ => false)
def mGin (tb : Tb) (g : Nat) (f_a : FE) (sx : Sx) (e : Expr) : Bool := (match e with
    | .Compare l [op] [.Name x _] _ => decide (op = .In) && glB sx x && decide (tb.gds.lookup x = some g) && f_a sx l
    | _ => false)
def mGidx (tb : Tb) (g : Nat) (f_a : FE) (sx : Sx) (e : Expr) : Bool := (match e with
    | .Subscript (.Name x _) r _ => glB sx x && decide (tb.gds.lookup x = some g) && plE r && f_a sx r
    | _ => false)
def mGdict (tb : Tb) (g : Nat) (sx : Sx) (e : Expr) : Bool := (match e with
    | .Call (.Name d _) [.Name x _] [] _ => decide (d = ("dict" : Str)) && frB tb sx "dict" && glB sx x && decide (tb.gds.lookup x = some g)
    | _ => false)
def mTupd  (f_es : FL) (sx : Sx) (e : Expr) : Bool := (match e with
    | .Tuple l _ _ => f_es sx l
    | _ => false)
def mLstd  (f_es : FL) (sx : Sx) (e : Expr) : Bool := (match e with
    | .List l _ => f_es sx l
    | _ => false)
def mDctd  (f_ps : FP) (sx : Sx) (e : Expr) : Bool := (match e with
    | .Dict ks vs _ => decide (ks.length ≤ 15) && f_ps sx ks vs
    | _ => false)
def mCall (tb : Tb) (f : Nat) (f_as : FL) (sx : Sx) (e : Expr) : Bool := (match e with
    | .Call (.Name x _) l [] _ => glB sx x && decide (tb.fns.lookup x = some f) && l.all plE && f_as sx l
    | _ => false)
def mCallv  (i : Nat) (f_as : FL) (sx : Sx) (e : Expr) : Bool := (match e with
    | .Call (.Name x _) (y :: l) [] _ => visB sx i x && (y :: l).all plE && f_as sx (y :: l)
    | _ => false)
def mComp  (f_x : FE) (tg : List Nat) (one : Bool) (f_it : F2) (f_c : FL) (own : List Nat) (sx : Sx) (e : Expr) : Bool := (match e with
    | .ListComp elt [⟨t, iter, ifs, n⟩] scope _ => decide (n = 0) && blkC sx.N sx.sc scope (ownP sx own) && plE iter && f_it sx t iter && ckTg (blkX sx scope) tg one t && f_c (blkX sx scope) ifs && f_x (blkX sx scope) elt
    | _ => false)
def mDcomp  (f_k : FE) (f_v : FE) (tg : List Nat) (one : Bool) (f_it : F2) (own : List Nat) (sx : Sx) (e : Expr) : Bool := (match e with
    | .DictComp kx vx [⟨t, iter, [], n⟩] scope _ => decide (n = 0) && blkC sx.N sx.sc scope (ownP sx own) && plE iter && f_it sx t iter && ckTg (blkX sx scope) tg one t && f_k (blkX sx scope) kx && f_v (blkX sx scope) vx
    | _ => false)
def mMu  (m : Mu) (i : Nat) (f_as : FL) (sx : Sx) (e : Expr) : Bool := (match e with
    | .Call (.Attribute (.Name x _) n apos) l [] pos => decide (n = muN m) && visB sx i x && apos.endLine == pos.line && (match m, l with
      | .pop, [] => true
      | .clear, [] => true
      | .append, [y] => plE y
      | .extend, [y] => plE y
      | .popAt, [y] => plE y
      | _, _ => false) && f_as sx l
    | _ => false)
def moNo  (sx : Sx) (e : Option Expr) : Bool := (match e with
    | none => true
    | _ => false)
def moYes  (f_a : FE) (sx : Sx) (e : Option Expr) : Bool := (match e with
    | some x => f_a sx x
    | none => false)
def mcNo  (sx : Sx) (e : List Expr) : Bool := (match e with
    | [] => true
    | _ => false)
def mcYes  (f_c : FE) (sx : Sx) (e : List Expr) : Bool := (match e with
    | [x] => f_c sx x
    | _ => false)
def maNil  (sx : Sx) (e : List Expr) : Bool := (match e with
    | [] => true
    | _ => false)
def maCons  (f_a : FE) (f_r : FL) (sx : Sx) (e : List Expr) : Bool := (match e with
    | x :: l => plE x && (f_a sx x && f_r sx l)
    | _ => false)
def maStar  (f_a : FE) (f_r : FL) (sx : Sx) (e : List Expr) : Bool := (match e with
    | .Starred x _ :: l => f_a sx x && f_r sx l
    | _ => false)
def mpNil  (sx : Sx) (ks : List (Option Expr)) (vs : List Expr) : Bool := (match ks, vs with
    | [], [] => true
    | _, _ => false)
def mpCons  (f_k : FE) (f_v : FE) (f_r : FP) (sx : Sx) (ks : List (Option Expr)) (vs : List Expr) : Bool := (match ks, vs with
    | some x :: ks, y :: vs => f_k sx x && (f_v sx y && f_r sx ks vs)
    | _, _ => false)
def miSeq  (f_a : FE) (sx : Sx) (t e : Expr) : Bool := f_a sx e
def miRng1 (tb : Tb) (f_a : FE) (sx : Sx) (t e : Expr) : Bool := (match e with
    | .Call (.Name x _) [y] [] _ => decide (x = ("range" : Str)) && frB tb sx "range" && plE y && f_a sx y
    | _ => false)
def miRng2 (tb : Tb) (f_a : FE) (f_b : FE) (sx : Sx) (t e : Expr) : Bool := (match e with
    | .Call (.Name x _) [y, z] [] _ => decide (x = ("range" : Str)) && frB tb sx "range" && plE y && plE z && (f_a sx y && f_b sx z)
    | _ => false)
def miEnum (tb : Tb) (f_a : FE) (sx : Sx) (t e : Expr) : Bool := (match e with
    | .Call (.Name x _) [y] [] _ => isTup t && decide (x = ("enumerate" : Str)) && frB tb sx "enumerate" && plE y && f_a sx y
    | _ => false)
def miZip (tb : Tb) (f_a : FE) (f_b : FE) (sx : Sx) (t e : Expr) : Bool := (match e with
    | .Call (.Name x _) [y, z] [] _ => isTup t && decide (x = ("zip" : Str)) && frB tb sx "zip" && plE y && plE z && (f_a sx y && f_b sx z)
    | _ => false)
def mtVal  (f_a : FE) (sx : Sx) (e : Expr) : Bool := trE e && f_a sx e
def mtCmp  (f_a : FE) (sx : Sx) (e : Expr) : Bool := f_a sx e
def mtAnd  (f_a : FE) (f_b : FE) (sx : Sx) (e : Expr) : Bool := (match e with
    | .BoolOp op [x, y] _ => decide (op = .And) && (f_a sx x && f_b sx y)
    | .BoolOp op (x :: y :: z :: r) pos => decide (op = .And) && (f_a sx x && f_b sx (.BoolOp .And (y :: z :: r) pos))
    | _ => false)
def mtOr  (f_a : FE) (f_b : FE) (sx : Sx) (e : Expr) : Bool := (match e with
    | .BoolOp op [x, y] _ => decide (op = .Or) && (f_a sx x && f_b sx y)
    | .BoolOp op (x :: y :: z :: r) pos => decide (op = .Or) && (f_a sx x && f_b sx (.BoolOp .Or (y :: z :: r) pos))
    | _ => false)
def mtNot  (f_a : FE) (sx : Sx) (e : Expr) : Bool := (match e with
    | .UnaryOp op x _ => decide (op = .Not) && f_a sx x
    | _ => false)
def nsE : Expr → Bool
  | .SetComp .. => false
  | _ => true
def msAsg  (i : Nat) (f_a : FE) (sx : Sx) (s : Stmt) : Bool := (match s with
    | .Assign [.Name x p] e _ => locB sx i x && f_a sx e && nsE e
    | _ => false)
def msUnp  (is : List Nat) (f_a : FE) (sx : Sx) (s : Stmt) : Bool := (match s with
    | .Assign [.Tuple ts _ _] e _ => ckNs sx is ts && nkE e && !isTup e && f_a sx e
    | _ => false)
def msPar  (is : List Nat) (f_es : FL) (sx : Sx) (s : Stmt) : Bool := (match s with
    | .Assign [.Tuple [.Name x px, .Name y py] _ _] (.Tuple [a, b] _ _) _ => ckNs sx is [.Name x px, .Name y py] && (sw2 sx.sc x y px py a b).isSome && f_es sx [a, b]
    | .Assign [.Tuple [.Name x px, .Name y py, .Name z pz] _ _] (.Tuple [a, b, c] _ _) _ => ckNs sx is [.Name x px, .Name y py, .Name z pz] && (sw3 sx.sc x y z px py pz a b c).isSome && f_es sx [a, b, c]
    | _ => false)
def msSetk  (i : Nat) (f_k : FE) (f_v : FE) (sx : Sx) (s : Stmt) : Bool := (match s with
    | .Assign [.Subscript (.Name x _) y _] e _ => visB sx i x && f_k sx y && f_v sx e
    | _ => false)
def msAug  (i : Nat) (f_a : FE) (sx : Sx) (s : Stmt) : Bool := (match s with
    | .AugAssign (.Name x _) op e _ => locB sx i x && decide (op = .Add) && f_a sx e
    | _ => false)
def msIfs  (f_c : FE) (f_a : FSs) (f_b : FSs) (sx : Sx) (s : Stmt) : Bool := (match s with
    | .If t x y _ => f_c sx t && f_a sx x && f_b sx y
    | _ => false)
def msFors  (tg : List Nat) (one : Bool) (f_it : F2) (f_b : FSs) (sx : Sx) (s : Stmt) : Bool := (match s with
    | .For t iter body [] _ => plE iter && f_it sx t iter && ckTg sx tg one t && f_b sx body
    | _ => false)
def msWhiles  (f_c : FE) (f_b : FSs) (sx : Sx) (s : Stmt) : Bool := (match s with
    | .While t body [] _ => f_c sx t && f_b sx body
    | _ => false)
def msRet  (f_a : FE) (sx : Sx) (s : Stmt) : Bool := (match s with
    | .Return (some e) _ => f_a sx e
    | _ => false)
def msRetn  (sx : Sx) (s : Stmt) : Bool := (match s with
    | .Return none _ => true
    | _ => false)
def msExpr  (f_a : FE) (sx : Sx) (s : Stmt) : Bool := (match s with
    | .Expr e _ => nkE e && f_a sx e
    | _ => false)
def msPass  (sx : Sx) (s : Stmt) : Bool := (match s with
    | .Pass _ => true
    | .Expr (.Constant (.str _) _ _) _ => true
    | _ => false)
def msBrk  (sx : Sx) (s : Stmt) : Bool := (match s with
    | .Break _ => true
    | _ => false)
def msCont  (sx : Sx) (s : Stmt) : Bool := (match s with
    | .Continue _ => true
    | _ => false)
def msRais  (sx : Sx) (s : Stmt) : Bool := true
def mlNil  (sx : Sx) (l : List Stmt) : Bool := (match l with
    | [] => true
    | _ => false)
def mlCons  (f_s : FS) (f_r : FSs) (sx : Sx) (l : List Stmt) : Bool := (match l with
    | x :: l => f_s sx x && f_r sx l
    | _ => false)
section
variable (tb : Tb)
mutual
def ckE : Tm → FE
  | .var i => mVar i
  | .cst d => mCst d
  | .gl i => mGl tb i
  | .fnv i => mFnv tb i
  | .bin o a b => mBin o (ckE a) (ckE b)
  | .neg a => mNeg (ckE a)
  | .notv a => mNotv (ckE a)
  | .cmp o a b => mCmp o (ckE a) (ckE b)
  | .isN a => mIsn (ckE a)
  | .isNN a => mIsnn (ckE a)
  | .chain o p a b c => mChain o p (ckE a) (ckE b) (ckE c)
  | .andv a b => mAndv (ckE a) (ckE b)
  | .orv a b => mOrv (ckE a) (ckE b)
  | .ife c a b => mIfe (ckC c) (ckE a) (ckE b)
  | .idx a b => mIdx (ckE a) (ckE b)
  | .slc a lo hi => mSlc (ckE a) (ckTo lo) (ckTo hi)
  | .evn a lo => mEvn (ckE a) (ckTo lo)
  | .rev a => mRev (ckE a)
  | .bi f a => mBi tb f (ckE a)
  | .join s a => mJoin (ckE s) (ckE a)
  | .dget d k x => mDget (ckE d) (ckE k) (ckE x)
  | .zipl a b => mZipl tb (ckE a) (ckE b)
  | .gin g a => mGin tb g (ckE a)
  | .gidx g a => mGidx tb g (ckE a)
  | .gdict g => mGdict tb g
  | .tupd es => mTupd (ckA es)
  | .lstd es => mLstd (ckA es)
  | .dctd ps => mDctd (ckP ps)
  | .call f as => mCall tb f (ckA as)
  | .callv i as => mCallv i (ckA as)
  | .comp x tg one it c own => mComp (ckE x) tg one (ckI it) (ckTc c) own
  | .dcomp k v tg one it own => mDcomp (ckE k) (ckE v) tg one (ckI it) own
  | .mu m i as => mMu m i (ckA as)
def ckTo : To → FO
  | .no => moNo 
  | .yes a => moYes (ckE a)
def ckTc : To' → FL
  | .no => mcNo 
  | .yes c => mcYes (ckC c)
def ckA : Tms → FL
  | .nil => maNil 
  | .cons a r => maCons (ckE a) (ckA r)
  | .star a r => maStar (ckE a) (ckA r)
def ckP : Tps → FP
  | .nil => mpNil 
  | .cons k v r => mpCons (ckE k) (ckE v) (ckP r)
def ckI : It → F2
  | .seq a => miSeq (ckE a)
  | .rng1 a => miRng1 tb (ckE a)
  | .rng2 a b => miRng2 tb (ckE a) (ckE b)
  | .enum a => miEnum tb (ckE a)
  | .zip a b => miZip tb (ckE a) (ckE b)
def ckC : Ct → FE
  | .val a => mtVal (ckE a)
  | .cmp a => mtCmp (ckQ a)
  | .and a b => mtAnd (ckC a) (ckC b)
  | .or a b => mtOr (ckC a) (ckC b)
  | .not a => mtNot (ckC a)
def ckQ : Tm → FE
  | .cmp o a b => mCmp o (ckE a) (ckE b)
  | .isN a => mIsn (ckE a)
  | .isNN a => mIsnn (ckE a)
  | .chain o p a b c => mChain o p (ckE a) (ckE b) (ckE c)
  | .gin g a => mGin tb g (ckE a)
  | _ => fun _ _ => false
end
mutual
def ckS : Sm → FS
  | .asg i a => msAsg i (ckE tb a)
  | .unp is a => msUnp is (ckE tb a)
  | .par is es => msPar is (ckA tb es)
  | .setk i k v => msSetk i (ckE tb k) (ckE tb v)
  | .aug i a => msAug i (ckE tb a)
  | .ifs c a b => msIfs (ckC tb c) (ckSs a) (ckSs b)
  | .fors tg one it b => msFors tg one (ckI tb it) (ckSs b)
  | .whiles c b => msWhiles (ckC tb c) (ckSs b)
  | .ret a => msRet (ckE tb a)
  | .retn => msRetn 
  | .expr a => msExpr (ckE tb a)
  | .pass => msPass 
  | .brk => msBrk 
  | .cont => msCont 
  | .rais _ _ => msRais 
def ckSs : Sms → FSs
  | .nil => mlNil 
  | .cons s r => mlCons (ckS s) (ckSs r)
end
end
structure TbOk (tb : Tb) (dn : Dn) (P : Program) (w : World) (K : PySem.W.Frag) (mg : Str → Option Value) (base : Heap) (k : Nat) : Prop where
  fn : ∀ x i, tb.fns.lookup x = some i → ∃ a, mg x = some (.ref a) ∧ dn.g.fa i = some a
  fa : ∀ i a, dn.g.fa i = some a → FnG P w K mg base k a (dn.sp i) ∧ PySem.W.keepIn K (.ref a) = true
  gc : ∀ x i, tb.gcs.lookup x = some i → ∃ u, mg x = some u ∧ RelV (dn.gcv i) u
  gd : ∀ x i, tb.gds.lookup x = some i → mg x = some (.ref (dn.gda i)) ∧ (∃ es n, KDict K w (dn.gda i) es n) ∧ (dn.gdw i).length ≤ sizeLine ∧ ∃ vs, KV (dn.gdw i) vs ∧ ∀ h : Heap, K.In h → h.DictOf (mixKind P w) (dn.gda i) vs
  cl : ∀ c f i, tb.cls.lookup (c, f) = some i → ∃ a mc u, mg c = some (.ref a) ∧ ClX.CRead K a mc ∧ ClX.CVal K a mc f (dn.gcv i) u
  free : ∀ x, x ∈ tb.free → mg x = none
structure XOk (tb : Tb) (dn : Dn) (k : Nat) (sx : Sx) (X : Cx) : Prop where
  tb : TbOk tb dn X.prog X.w X.K X.mg X.base k
  K : dn.g.K = X.K
  w : dn.w = X.w
  N : X.N = sx.N
  nd : sx.N.Nodup
  sc : X.env.scope = sx.sc
  kind : sx.sc.kind = .function
  calm : X.calm = true
  room : Room k X.A
  gu : X.A.guards = some []
  xe : X.xe = fun _ _ => False
  fn : ∀ x, sx.os.names.lookup x = some .cell → X.fn x = true
theorem XOk.blk {tb : Tb} {dn : Dn} {k : Nat} {sx : Sx} {X : Cx} (ok : XOk tb dn k sx X) {scope : Scope} {own : List (Str × Nat)} (b : BlkOk X.N X.env.scope scope own) (s : Shared) (H : Hp) (C : Addr) (cl : List (Str × Addr)) (fp : List Addr) : XOk tb dn k (blkX sx scope) (X.blk s H scope (compEnvC scope cl C X.env) fp) := by
  refine ⟨ok.tb, ok.K, ok.w, ok.N, ok.nd, ?_, b.kind, ok.calm, ok.room, ok.gu, rfl, fun x h => ?_⟩
  · show relS scope X.env.scope = relS scope sx.sc
    rw [ok.sc]
  · show (scope.names.lookup x == some .cell) = true
    rw [show scope.names.lookup x = some .cell from h]
    rfl
end Ev
/-! Tr4: a text that is held by a term is read as the term says. -/
namespace Ev
open PySem PySem.Spec PyProof.Rows L2 RZ StX
section
variable {tb : Tb} {dn : Dn} {k : Nat} {sx : Sx} {X : Cx}
theorem visB_ok (ok : XOk tb dn k sx X) {i : Nat} {x : Str} {p : Pos} (h : visB sx i x = true) : PE X (.Name x p) (tVar i) := by
  unfold visB at h
  simp only [Bool.and_eq_true, decide_eq_true_eq, Bool.not_eq_true'] at h
  obtain ⟨⟨h1, h2⟩, h3, h4⟩ := h
  refine pe_var (by rw [ok.N]; exact h1) ?_ h3 h4
  rw [ok.sc]
  split at h2
  · exact .inl (by assumption)
  · exact .inr (.inl (by assumption))
  · exact .inr (.inr (by assumption))
  · cases h2
theorem locB_ok (ok : XOk tb dn k sx X) {i : Nat} {x : Str} (h : locB sx i x = true) : X.N[i]? = some x ∧ Loc X.env.scope x ∧ (X.fn x = true ∨ X.env.scope.names.lookup x = some .local) := by
  unfold locB at h
  simp only [Bool.and_eq_true, decide_eq_true_eq] at h
  obtain ⟨h1, h2⟩ := h
  refine ⟨by rw [ok.N]; exact h1, ?_⟩
  unfold L2.Loc
  rw [ok.sc]
  split at h2
  · rename_i e
    exact ⟨.inl e, .inr e⟩
  · rename_i e
    split at h2
    · rename_i e2
      exact ⟨.inr e, .inl (ok.fn x e2)⟩
    · cases h2
  · cases h2
theorem glB_ok (ok : XOk tb dn k sx X) {x : Str} (h : glB sx x = true) : Gl X x ∧ (x == ("__debug__" : Str)) = false := by
  unfold glB at h
  simp only [Bool.and_eq_true, Bool.not_eq_true'] at h
  obtain ⟨h1, h2⟩ := h
  refine ⟨?_, h2⟩
  show X.env.scope.names.lookup x = some .globalImplicit
  rw [ok.sc]
  split at h1
  · assumption
  · cases h1
theorem frB_ok (ok : XOk tb dn k sx X) {x : Str} (h : frB tb sx x = true) : Gl X x ∧ X.mg x = none := by
  unfold frB at h
  simp only [Bool.and_eq_true] at h
  exact ⟨(glB_ok ok h.1).1, ok.tb.free x (by simpa using h.2)⟩
theorem cstB_ok {d : D} {c : Const} {j : Nat} {p : Pos} (h : cstB d c = true) : PE X (.Constant c j p) (tC (cV d)) := by
  unfold cstB at h
  split at h
  · exact pe_non
  · rw [eq_of_beq h]; exact pe_bl
  · rw [of_decide_eq_true h]; exact pe_int
  · rw [of_decide_eq_true h]; exact pe_str
  · cases h
theorem units (ok : XOk tb dn k sx X) : X.A.units + 200 < cLine := by
  have := ok.room.un
  omega
/-! ### targets -/
theorem pgs_names (ok : XOk tb dn k sx X) : ∀ {is : List Nat} {es : List Expr}, ckNs sx is es = true → PGs X es (gNames is) ∧ (assignEach es X.env).length = is.length ∧ (assignEach es X.env).findIdx? (·.1) = none
  | [], [], _ => ⟨pgs_nil, rfl, rfl⟩
  | [], _ :: _, h => nomatch (show false = true from h)
  | _ :: _, [], h => nomatch (show false = true from h)
  | i :: is, e :: es, h => by
    have h : (nmB sx i e && ckNs sx is es) = true := h
    rw [Bool.and_eq_true] at h
    obtain ⟨h1, h2⟩ := h
    obtain ⟨q1, q2, q3⟩ := pgs_names ok h2
    cases e <;> first | (cases h1; done) | skip
    rename_i x p
    obtain ⟨l1, l2, l3⟩ := locB_ok ok h1
    refine ⟨pgs_cons (pg_name (by rw [ok.N]; exact ok.nd) l1 l2 l3) q1, ?_, ?_⟩
    · show (assignEach es X.env).length + 1 = is.length + 1
      rw [q2]
    · show ((false, assign (.Name x p) X.env) :: assignEach es X.env).findIdx? (·.1) = none
      rw [List.findIdx?_cons, q3]
      rfl
theorem ckTg_ok (ok : XOk tb dn k sx X) {tg : List Nat} {one : Bool} {e : Expr} (h : ckTg sx tg one e = true) : PG X e (denTg dn.g.K tg one) := by
  unfold ckTg at h
  split at h
  · rename_i i
    cases e <;> first | (cases h; done) | skip
    obtain ⟨l1, l2, l3⟩ := locB_ok ok h
    exact pg_name (by rw [ok.N]; exact ok.nd) l1 l2 l3
  · rename_i is
    cases e <;> first | (cases h; done) | skip
    obtain ⟨q1, q2, q3⟩ := pgs_names ok h
    rw [ok.K]
    exact pg_tup ok.calm q1 q2 q3
  · cases h
/-! ### built-ins -/
theorem bi_ok (ok : XOk tb dn k sx X) {f : Bi} {n : Str} {v : Value} {x : Expr} {te : TE} {p pos : Pos} (e : biN f = some (n, v)) (hf : frB tb sx n = true) (hp : plE x = true) (hx : PE X x te) : PE X (.Call (.Name n p) [x] [] pos) (tUn (rBi dn.g.K f) te) := by
  have hu := units ok
  obtain ⟨hg, hm⟩ := frB_ok ok hf
  have ha : PA X [x] (tCons te tNil) := pa_cons hx pa_nil (plE_star hp _ _)
  have hs := plE_star hp [] X.env
  rw [ok.K]
  cases f <;> first | (cases e; done) | skip
  all_goals (cases e)
  · exact pe_callB call_lenD hg hm (by decide +kernel) ha (he := hs)
  · exact pe_callB (cr_all ok.calm) hg hm (by decide +kernel) ha (he := hs)
  · exact pe_callB (cr_any ok.calm) hg hm (by decide +kernel) ha (he := hs)
  · exact pe_callTy (call_lst ok.calm) hg hm (by decide +kernel) ha (he := hs)
  · exact pe_callTy call_tuple_of hg hm (by decide +kernel) ha (he := hs)
  · exact pe_callB call_sort2 hg hm (by decide +kernel) ha (he := hs)
  · exact pe_callTy call_int1 hg hm (by decide +kernel) ha (he := hs)
  · exact pe_callB call_abs hg hm (by decide +kernel) ha (he := hs)
  · exact pe_callB (call_repr ok.gu (by omega)) hg hm (by decide +kernel) ha (he := hs)
  · exact pe_callTy call_dictD hg hm (by decide +kernel) ha (he := hs)
theorem isi_ok (ok : XOk tb dn k sx X) {f : Bi} {x : Expr} {te : TE} {p q pos : Pos} (e : isiB f = true) (hf : frB tb sx "isinstance" = true) (ht : frB tb sx (Str.ofString (isiT f)) = true) (hp : plE x = true) (hx : PE X x te) :
    PE X (.Call (.Name "isinstance" p) [x, .Name (Str.ofString (isiT f)) q] [] pos) (tUn (rBi dn.g.K f) te) := by
  obtain ⟨hg, hm⟩ := frB_ok ok hf
  obtain ⟨hg2, hm2⟩ := frB_ok ok ht
  have hs := plE_star hp [.Name (Str.ofString (isiT f)) q] X.env
  rw [ok.K]
  have key : ∀ T : String, isiT f = T → bootBuiltins (Str.ofString T) = some (.type T) → (Str.ofString T) ≠ "__name__" → (Str.ofString T == ("__debug__" : Str)) = false → PE X (.Call (.Name "isinstance" p) [x, .Name (Str.ofString (isiT f)) q] [] pos) (tCB (rIsi X.K) (tCons te (tCons (tC (.ty T)) tNil))) := by
    intro T eT hb h1 h2
    subst eT
    exact pe_callB call_isi hg hm (by decide +kernel) (pa_cons hx (pa_cons (pe_bltn (v := .ty (isiT f)) hg2 hm2 hb rfl h1 h2) pa_nil) hs) (he := hs)
  cases f <;> first | (cases e; done) | skip
  · exact key "int" rfl (by decide +kernel) (by decide) (by decide)
  · exact key "bool" rfl (by decide +kernel) (by decide) (by decide)
  · exact key "str" rfl (by decide +kernel) (by decide) (by decide)
  · exact key "tuple" rfl (by decide +kernel) (by decide) (by decide)
  · exact key "list" rfl (by decide +kernel) (by decide) (by decide)
end
end Ev
/-! Zi: list(zip(a, b)), the tuples kept. -/
namespace Ev
open PySem PySem.Spec PyProof.Rows L2
open PySem.W (kdx_alive)
structure ZAp (z TI TO i1 i2 : Addr) (fp1 fp2 : List Addr) : Prop where
  TIz : TI ≠ z
  TOz : TO ≠ z
  i1z : i1 ≠ z
  i2z : i2 ≠ z
  TITO : TI ≠ TO
  TIi1 : TI ≠ i1
  TIi2 : TI ≠ i2
  TOi1 : TO ≠ i1
  TOi2 : TO ≠ i2
  i12 : i1 ≠ i2
  f1z : z ∉ fp1
  f1TO : TO ∉ fp1
  f1i2 : i2 ∉ fp1
  f2z : z ∉ fp2
  f2TO : TO ∉ fp2
  f2i1 : i1 ∉ fp2
section
variable {prog : Program} {w : World} {A : Around} {E : Value → Shared → Prop} {s : Shared} {z TI TO i1 i2 : Addr} {fp1 fp2 : List Addr} {n1 n2 k : Nat} {P1 P2 : Nat → Value → Prop} {St1 St2 : Nat → Heap → Prop}
theorem Draws.but (D : Draws prog w A i1 fp1 n1 P1 St1) {b : Addr} {h h' : Heap} (st : St1 k h) (hs : Heap.ExtBut b h h') (nb : b ∉ fp1) : St1 k h' := D.frame k h h' st fun c hc o e => hs c o (fun x => nb (x ▸ hc)) e
theorem zipD_first (D : ZAp z TI TO i1 i2 fp1 fp2) (D1 : Draws prog w A i1 fp1 n1 P1 St1) (D2 : Draws prog w A i2 fp2 n2 P2 St2) {a b : Value} {Q : Value → Shared → Prop}
    (hz : IsZip s.heap z TI TO .none) (hTI : IsPair s.heap TI (.ref i1) (.ref i2)) (hTO : IsPair s.heap TO a b) (h1 : St1 k s.heap) (h2 : St2 k s.heap) (l1 : k < n1) (l2 : k < n2)
    (hQ : ∀ h' tk x y, P1 k x → P2 k y → IsZip h' z TI TO (rawInt s.heap.objs.size) → St1 (k + 1) h' → St2 (k + 1) h' → IsPair h' s.heap.objs.size x y → h'.objs.size = s.heap.objs.size + 1 →
      (∀ c o, c ≠ z → c ≠ TO → c ≠ i1 → c ≠ i2 → s.heap.get? c = some o → h'.get? c = some o) → Q (.ref s.heap.objs.size) { s with heap := h', toks := tk }) :
    wpAny (model prog w) A (Builtin.«zip.__next__» ⟨[.ref z], []⟩) (fun fin s' => ∃ v, fin = .done (.ret v) ∧ Q v s') E s := by
  show wpAny _ _ (field (.ref z) 2 >>= _) _ _ _
  refine wpAny_bind (wpAny_field hz rfl (x := .bool false) rfl ?_)
  show wpAny _ _ (field (.ref z) 3 >>= _) _ _ _
  refine wpAny_bind (wpAny_field hz rfl (x := .ref TI) rfl ?_)
  refine wpAny_bind (wpAny_seqItems hTI rfl ?_)
  show wpAny _ _ (Builtin.SmallTypes.ownedTupleIsFree (.ref z) >>= _) _ _ _
  refine wpAny_bind ?_
  unfold Builtin.SmallTypes.ownedTupleIsFree
  refine wpAny_bind (wpAny_field hz rfl (x := .none) rfl (wpAny_pure ?_))
  simp only [if_true]
  refine wpAny_bind (wpAny_rule ?_)
  refine wpAny_bind (wpAny_field hz rfl (x := .ref TO) rfl ?_)
  refine wpAny_bind (wpAny_setField_rec hz (by simp) fun h₁ hz₁ hs₁ => ?_)
  replace hz₁ : IsZip h₁ z TI TO .ellipsis := hz₁
  refine wpAny_bind ?_
  simp only [List.zipIdx_cons, List.zipIdx_nil, List.forIn_cons, List.forIn_nil]
  refine wpAny_bind (wpAny_bind (wpAny_onRaise ?_))
  show wpAny _ _ (Builtin.SmallTypes.nextOf (.ref i1) >>= _) _ _ _
  refine wpAny_bind (D1.item k { s with heap := h₁ } _ _ l1 (Draws.but D1 h1 hs₁.extBut D.f1z) fun x h₂ t2 px h1₂ hs₂ => wpAny_pure ?_)
  have hTO₂ : IsPair h₂ TO a b := hs₂.extBut _ _ D.TOi1 (hs₁.extBut _ _ D.TOz hTO)
  refine wpAny_bind (wpAny_seqItems hTO₂ rfl ?_)
  refine wpAny_bind (wpAny_updateSeq_pair hTO₂ fun h₃ hTO₃ hs₃ => ?_)
  replace hTO₃ : IsPair h₃ TO x b := hTO₃
  refine wpAny_bind (wpAny_letGo (wpAny_pure ?_))
  refine wpAny_bind (wpAny_bind (wpAny_onRaise ?_))
  show wpAny _ _ (Builtin.SmallTypes.nextOf (.ref i2) >>= _) _ _ _
  refine wpAny_bind (D2.item k { s with heap := h₃, toks := t2 } _ _ l2 (Draws.but D2 (Draws.but D2 (Draws.but D2 h2 hs₁.extBut D.f2z) hs₂.extBut D.f2i1) hs₃.extBut D.f2TO) fun y h₄ t4 py h2₄ hs₄ => wpAny_pure ?_)
  have hTO₄ : IsPair h₄ TO x b := hs₄.extBut _ _ D.TOi2 hTO₃
  refine wpAny_bind (wpAny_seqItems hTO₄ rfl ?_)
  refine wpAny_bind (wpAny_updateSeq_pair hTO₄ fun h₅ hTO₅ hs₅ => ?_)
  replace hTO₅ : IsPair h₅ TO x y := hTO₅
  refine wpAny_bind (wpAny_letGo (wpAny_pure (wpAny_pure ?_)))
  refine wpAny_bind (wpAny_seqItems hTO₅ rfl ?_)
  refine wpAny_bind (wpAny_newTuple ?_)
  have hsz : h₅.objs.size = s.heap.objs.size := by rw [hs₅.1, hs₄.1, hs₃.1, hs₂.1, hs₁.1]
  have hz₅ : IsZip h₅ z TI TO .ellipsis := hs₅.extBut _ _ D.TOz.symm (hs₄.extBut _ _ D.i2z.symm (hs₃.extBut _ _ D.TOz.symm (hs₂.extBut _ _ D.i1z.symm hz₁)))
  have hk₅ : ∀ c o, c ≠ z → c ≠ TO → c ≠ i1 → c ≠ i2 → s.heap.get? c = some o → h₅.get? c = some o := fun c o c1 c2 c3 c4 e =>
    hs₅.extBut _ _ c2 (hs₄.extBut _ _ c4 (hs₃.extBut _ _ c2 (hs₂.extBut _ _ c3 (hs₁.extBut _ _ c1 e))))
  have h1₅ : St1 (k + 1) h₅ := Draws.but D1 (Draws.but D1 (Draws.but D1 h1₂ hs₃.extBut D.f1TO) hs₄.extBut D.f1i2) hs₅.extBut D.f1TO
  have h2₅ : St2 (k + 1) h₅ := Draws.but D2 h2₄ hs₅.extBut D.f2TO
  have hzlt : z < h₅.objs.size := Heap.lt_size hz₅
  show wpAny _ _ (Builtin.SmallTypes.ownedTupleHandOut (.ref z) (.ref h₅.objs.size) >>= _) _ _ _
  refine wpAny_bind ?_
  unfold Builtin.SmallTypes.ownedTupleHandOut
  have hz₆ : IsZip (h₅.push { cls := .type "tuple", data := .seq #[x, y] }) z TI TO .ellipsis := Heap.get?_push_of_some _ hz₅
  refine wpAny_bind (wpAny_setField_rec hz₆ (by simp) fun h₇ hz₇ hs₇ => ?_)
  replace hz₇ : IsZip h₇ z TI TO (rawInt h₅.objs.size) := hz₇
  refine wpAny_setField_rec hz₇ (by simp) fun h₈ hz₈ hs₈ => ?_
  replace hz₈ : IsZip h₈ z TI TO (rawInt h₅.objs.size) := hz₈
  have up : ∀ c o, c ≠ z → h₅.get? c = some o → h₈.get? c = some o := fun c o c1 e => hs₈.extBut _ _ c1 (hs₇.extBut _ _ c1 (Heap.get?_push_of_some _ e))
  have hT₈ : IsPair h₈ h₅.objs.size x y := hs₈.extBut _ _ (Nat.ne_of_gt hzlt) (hs₇.extBut _ _ (Nat.ne_of_gt hzlt) (Heap.get?_push_size _ rfl))
  have hz8 : h₈.objs.size = h₅.objs.size + 1 := by rw [hs₈.1, hs₇.1, Heap.size_push]
  rw [hsz] at hz₈ hT₈ hz8
  refine wpAny_pure ⟨_, rfl, ?_⟩
  show Q (.ref h₅.objs.size) _
  rw [hsz]
  exact hQ h₈ t4 x y px py hz₈ (Draws.but D1 h1₅ (fun c o c1 e => up c o c1 e) D.f1z) (Draws.but D2 h2₅ (fun c o c1 e => up c o c1 e) D.f2z) hT₈ hz8 fun c o c1 c2 c3 c4 e => up c o c1 (hk₅ c o c1 c2 c3 c4 e)
theorem zipD_held (D : ZAp z TI TO i1 i2 fp1 fp2) (D1 : Draws prog w A i1 fp1 n1 P1 St1) (D2 : Draws prog w A i2 fp2 n2 P2 St2) {T : Addr} {f : Bool} {oT : Obj} {Q : Value → Shared → Prop}
    (hz : IsZipHeld s.heap z TI TO T f) (hT : s.heap.get? T = some oT) (hTI : IsPair s.heap TI (.ref i1) (.ref i2)) (h1 : St1 k s.heap) (h2 : St2 k s.heap) (l1 : k < n1) (l2 : k < n2)
    (hQ : ∀ h' tk x y, P1 k x → P2 k y → IsZipHeld h' z TI TO T true → St1 (k + 1) h' → St2 (k + 1) h' → IsPair h' s.heap.objs.size x y → h'.objs.size = s.heap.objs.size + 1 →
      (∀ c o, c ≠ z → c ≠ i1 → c ≠ i2 → s.heap.get? c = some o → h'.get? c = some o) → Q (.ref s.heap.objs.size) { s with heap := h', toks := tk }) :
    wpAny (model prog w) A (Builtin.«zip.__next__» ⟨[.ref z], []⟩) (fun fin s' => ∃ v, fin = .done (.ret v) ∧ Q v s') E s := by
  show wpAny _ _ (field (.ref z) 2 >>= _) _ _ _
  refine wpAny_bind (wpAny_field hz rfl (x := .bool false) rfl ?_)
  show wpAny _ _ (field (.ref z) 3 >>= _) _ _ _
  refine wpAny_bind (wpAny_field hz rfl (x := .ref TI) rfl ?_)
  refine wpAny_bind (wpAny_seqItems hTI rfl ?_)
  show wpAny _ _ (Builtin.SmallTypes.ownedTupleIsFree (.ref z) >>= _) _ _ _
  refine wpAny_bind (wpAny_tupleHeld_zip hz hT fun h₁ hz₁ hs₁ => ?_)
  simp only [Bool.false_eq_true, if_false]
  refine wpAny_bind ?_
  rw [← Array.forIn_toList]
  simp only [List.forIn_cons, List.forIn_nil]
  refine wpAny_bind (wpAny_bind (wpAny_holding ?_))
  show wpAny _ _ (Builtin.SmallTypes.nextOf (.ref i1) >>= _) _ _ _
  refine wpAny_bind (D1.item k { s with heap := h₁ } _ _ l1 (Draws.but D1 h1 hs₁.extBut D.f1z) fun x h₂ t2 px h1₂ hs₂ => wpAny_pure ?_)
  refine wpAny_pure ?_
  refine wpAny_bind (wpAny_bind (wpAny_holding ?_))
  show wpAny _ _ (Builtin.SmallTypes.nextOf (.ref i2) >>= _) _ _ _
  refine wpAny_bind (D2.item k { s with heap := h₂, toks := t2 } _ _ l2 (Draws.but D2 (Draws.but D2 h2 hs₁.extBut D.f2z) hs₂.extBut D.f2i1) fun y h₃ t3 py h2₃ hs₃ => wpAny_pure ?_)
  refine wpAny_pure (wpAny_pure ?_)
  show wpAny _ _ (newTuple [x, y] >>= _) _ _ _
  refine wpAny_bind (wpAny_newTuple ?_)
  have hsz : h₃.objs.size = s.heap.objs.size := by rw [hs₃.1, hs₂.1, hs₁.1]
  have hz₃ : IsZipHeld h₃ z TI TO T true := hs₃.extBut _ _ D.i2z.symm (hs₂.extBut _ _ D.i1z.symm hz₁)
  have hk : ∀ c o, c ≠ z → c ≠ i1 → c ≠ i2 → s.heap.get? c = some o → h₃.get? c = some o := fun c o c1 c2 c3 e => hs₃.extBut _ _ c3 (hs₂.extBut _ _ c2 (hs₁.extBut _ _ c1 e))
  have h1₃ : St1 (k + 1) h₃ := Draws.but D1 h1₂ hs₃.extBut D.f1i2
  refine wpAny_pure ⟨_, rfl, ?_⟩
  show Q (.ref h₃.objs.size) _
  have hp : IsPair (h₃.push { cls := .type "tuple", data := .seq #[x, y] }) h₃.objs.size x y := Heap.get?_push_size _ rfl
  have hz4 : (h₃.push { cls := .type "tuple", data := .seq #[x, y] }).objs.size = h₃.objs.size + 1 := Heap.size_push ..
  rw [hsz] at hp hz4 ⊢
  exact hQ _ t3 x y px py (Heap.get?_push_of_some _ hz₃) (D1.frame _ _ _ h1₃ fun c _ o e => Heap.get?_push_of_some _ e) (D2.frame _ _ _ h2₃ fun c _ o e => Heap.get?_push_of_some _ e) hp hz4 fun c o c1 c2 c3 e => Heap.get?_push_of_some _ (hk c o c1 c2 c3 e)
/-- one of the two has ended -/
theorem zipD_end (D : ZAp z TI TO i1 i2 fp1 fp2) (D1 : Draws prog w A i1 fp1 n1 P1 St1) (D2 : Draws prog w A i2 fp2 n2 P2 St2) {a b : Value} {Q : Fin → Shared → Prop}
    (hz : IsZip s.heap z TI TO .none) (hTI : IsPair s.heap TI (.ref i1) (.ref i2)) (hTO : IsPair s.heap TO a b) (h1 : St1 k s.heap) (h2 : St2 k s.heap) (hend : k = n1 ∨ (k < n1 ∧ k = n2))
    (hE : ∀ h' e tk, (∀ c o, c ≠ z → c ≠ TO → c ≠ i1 → c ≠ i2 → s.heap.get? c = some o → h'.get? c = some o) → (∃ o, h'.get? e = some o ∧ o.cls = .type "StopIteration") → E (.ref e) { s with heap := h', toks := tk }) :
    wpAny (model prog w) A (Builtin.«zip.__next__» ⟨[.ref z], []⟩) Q E s := by
  show wpAny _ _ (field (.ref z) 2 >>= _) _ _ _
  refine wpAny_bind (wpAny_field hz rfl (x := .bool false) rfl ?_)
  show wpAny _ _ (field (.ref z) 3 >>= _) _ _ _
  refine wpAny_bind (wpAny_field hz rfl (x := .ref TI) rfl ?_)
  refine wpAny_bind (wpAny_seqItems hTI rfl ?_)
  show wpAny _ _ (Builtin.SmallTypes.ownedTupleIsFree (.ref z) >>= _) _ _ _
  refine wpAny_bind ?_
  unfold Builtin.SmallTypes.ownedTupleIsFree
  refine wpAny_bind (wpAny_field hz rfl (x := .none) rfl (wpAny_pure ?_))
  simp only [if_true]
  refine wpAny_bind (wpAny_rule ?_)
  refine wpAny_bind (wpAny_field hz rfl (x := .ref TO) rfl ?_)
  refine wpAny_bind (wpAny_setField_rec hz (by simp) fun h₁ hz₁ hs₁ => ?_)
  replace hz₁ : IsZip h₁ z TI TO .ellipsis := hz₁
  refine wpAny_bind ?_
  simp only [List.zipIdx_cons, List.zipIdx_nil, List.forIn_cons, List.forIn_nil]
  refine wpAny_bind (wpAny_bind (wpAny_onRaise ?_))
  show wpAny _ _ (Builtin.SmallTypes.nextOf (.ref i1) >>= _) _ _ _
  rcases hend with rfl | ⟨l1, rfl⟩
  · refine wpAny_bind (D1.done { s with heap := h₁ } _ _ (Draws.but D1 h1 hs₁.extBut D.f1z) fun h₂ e hs₂ he => ?_)
    obtain ⟨oe, hoe, hce⟩ := he
    have hz₂ : IsZip h₂ z TI TO .ellipsis := hs₂ _ _ D.i1z.symm hz₁
    have hez : e ≠ z := fun x => by subst x; rw [hz₂] at hoe; cases hoe; simp at hce
    refine wpAny_setField_rec hz₂ (by simp) fun h₃ _ hs₃ => hE h₃ e s.toks (fun c o c1 _ c3 _ x => hs₃.extBut _ _ c1 (hs₂ _ _ c3 (hs₁.extBut _ _ c1 x))) ⟨oe, hs₃.extBut _ _ hez hoe, hce⟩
  · refine wpAny_bind (D1.item k { s with heap := h₁ } _ _ l1 (Draws.but D1 h1 hs₁.extBut D.f1z) fun x h₂ t2 px h1₂ hs₂ => wpAny_pure ?_)
    have hTO₂ : IsPair h₂ TO a b := hs₂.extBut _ _ D.TOi1 (hs₁.extBut _ _ D.TOz hTO)
    refine wpAny_bind (wpAny_seqItems hTO₂ rfl ?_)
    refine wpAny_bind (wpAny_updateSeq_pair hTO₂ fun h₃ hTO₃ hs₃ => ?_)
    refine wpAny_bind (wpAny_letGo (wpAny_pure ?_))
    refine wpAny_bind (wpAny_bind (wpAny_onRaise ?_))
    show wpAny _ _ (Builtin.SmallTypes.nextOf (.ref i2) >>= _) _ _ _
    refine wpAny_bind (D2.done { s with heap := h₃, toks := t2 } _ _ (Draws.but D2 (Draws.but D2 (Draws.but D2 h2 hs₁.extBut D.f2z) hs₂.extBut D.f2i1) hs₃.extBut D.f2TO) fun h₄ e hs₄ he => ?_)
    obtain ⟨oe, hoe, hce⟩ := he
    have hz₄ : IsZip h₄ z TI TO .ellipsis := hs₄ _ _ D.i2z.symm (hs₃.extBut _ _ D.TOz.symm (hs₂.extBut _ _ D.i1z.symm hz₁))
    have hez : e ≠ z := fun x => by subst x; rw [hz₄] at hoe; cases hoe; simp at hce
    refine wpAny_setField_rec hz₄ (by simp) fun h₅ _ hs₅ => hE h₅ e t2 (fun c o c1 c2 c3 c4 x => hs₅.extBut _ _ c1 (hs₄ _ _ c4 (hs₃.extBut _ _ c2 (hs₂.extBut _ _ c3 (hs₁.extBut _ _ c1 x))))) ⟨oe, hs₅.extBut _ _ hez hoe, hce⟩
theorem zipD_endh (D : ZAp z TI TO i1 i2 fp1 fp2) (D1 : Draws prog w A i1 fp1 n1 P1 St1) (D2 : Draws prog w A i2 fp2 n2 P2 St2) {T : Addr} {f : Bool} {oT : Obj} {Q : Fin → Shared → Prop}
    (hz : IsZipHeld s.heap z TI TO T f) (hT : s.heap.get? T = some oT) (hTI : IsPair s.heap TI (.ref i1) (.ref i2)) (h1 : St1 k s.heap) (h2 : St2 k s.heap) (hend : k = n1 ∨ (k < n1 ∧ k = n2))
    (hE : ∀ h' e tk, (∀ c o, c ≠ z → c ≠ TO → c ≠ i1 → c ≠ i2 → s.heap.get? c = some o → h'.get? c = some o) → (∃ o, h'.get? e = some o ∧ o.cls = .type "StopIteration") → E (.ref e) { s with heap := h', toks := tk }) :
    wpAny (model prog w) A (Builtin.«zip.__next__» ⟨[.ref z], []⟩) Q E s := by
  show wpAny _ _ (field (.ref z) 2 >>= _) _ _ _
  refine wpAny_bind (wpAny_field hz rfl (x := .bool false) rfl ?_)
  show wpAny _ _ (field (.ref z) 3 >>= _) _ _ _
  refine wpAny_bind (wpAny_field hz rfl (x := .ref TI) rfl ?_)
  refine wpAny_bind (wpAny_seqItems hTI rfl ?_)
  show wpAny _ _ (Builtin.SmallTypes.ownedTupleIsFree (.ref z) >>= _) _ _ _
  refine wpAny_bind (wpAny_tupleHeld_zip hz hT fun h₁ hz₁ hs₁ => ?_)
  simp only [Bool.false_eq_true, if_false]
  refine wpAny_bind ?_
  rw [← Array.forIn_toList]
  simp only [List.forIn_cons, List.forIn_nil]
  refine wpAny_bind (wpAny_bind (wpAny_holding ?_))
  show wpAny _ _ (Builtin.SmallTypes.nextOf (.ref i1) >>= _) _ _ _
  rcases hend with rfl | ⟨l1, rfl⟩
  · refine wpAny_bind (D1.done { s with heap := h₁ } _ _ (Draws.but D1 h1 hs₁.extBut D.f1z) fun h₂ e hs₂ he => ?_)
    exact hE h₂ e s.toks (fun c o c1 _ c2 _ x => hs₂ _ _ c2 (hs₁.extBut _ _ c1 x)) he
  · refine wpAny_bind (D1.item k { s with heap := h₁ } _ _ l1 (Draws.but D1 h1 hs₁.extBut D.f1z) fun x h₂ t2 px h1₂ hs₂ => wpAny_pure ?_)
    refine wpAny_pure ?_
    refine wpAny_bind (wpAny_bind (wpAny_holding ?_))
    show wpAny _ _ (Builtin.SmallTypes.nextOf (.ref i2) >>= _) _ _ _
    refine wpAny_bind (D2.done { s with heap := h₂, toks := t2 } _ _ (Draws.but D2 (Draws.but D2 h2 hs₁.extBut D.f2z) hs₂.extBut D.f2i1) fun h₃ e hs₃ he => ?_)
    exact hE h₃ e t2 (fun c o c1 _ c2 c3 x => hs₃ _ _ c3 (hs₂.extBut _ _ c2 (hs₁.extBut _ _ c1 x))) he
/-- between two draws; S: the list that is filled -/
def ZS (z TI TO i1 i2 S : Addr) (St1 St2 : Nat → Heap → Prop) (k : Nat) (h : Heap) : Prop := IsPair h TI (.ref i1) (.ref i2) ∧ St1 k h ∧ St2 k h ∧
  ((IsZip h z TI TO .none ∧ ∃ a b, IsPair h TO a b) ∨ ∃ T f oT, IsZipHeld h z TI TO T f ∧ h.get? T = some oT ∧ T ≠ z ∧ T ≠ i1 ∧ T ≠ i2 ∧ T ≠ S)
theorem ZS.but {S b : Addr} {h h' : Heap} (D1 : Draws prog w A i1 fp1 n1 P1 St1) (D2 : Draws prog w A i2 fp2 n2 P2 St2) (st : ZS z TI TO i1 i2 S St1 St2 k h) (hs : Heap.ExtBut S h h') (s1 : S ∉ fp1) (s2 : S ∉ fp2) (sz : z ≠ S) (sI : TI ≠ S) (sO : TO ≠ S) : ZS z TI TO i1 i2 S St1 St2 k h' := by
  obtain ⟨a1, a2, a3, a4⟩ := st
  refine ⟨hs _ _ sI a1, Draws.but D1 a2 hs s1, Draws.but D2 a3 hs s2, ?_⟩
  rcases a4 with ⟨q, a, b, r⟩ | ⟨T, f, oT, q1, q2, q3, q4, q5, q6⟩
  · exact .inl ⟨hs _ _ sz q, a, b, hs _ _ sO r⟩
  · exact .inr ⟨T, f, oT, hs _ _ sz q1, hs _ _ q6 q2, q3, q4, q5, q6⟩
theorem ZS.isZip {S : Addr} {h : Heap} (st : ZS z TI TO i1 i2 S St1 St2 k h) : ∃ o, h.get? z = some o ∧ o.cls = .type "zip" := by
  obtain ⟨_, _, _, ⟨q, _⟩ | ⟨T, f, oT, q1, _⟩⟩ := st
  · exact ⟨_, q, rfl⟩
  · exact ⟨_, q1, rfl⟩
theorem nextZ (hh : A.handled = none) (D : ZAp z TI TO i1 i2 fp1 fp2) (D1 : ∀ A : Around, A.handled = none → Draws prog w A i1 fp1 n1 P1 St1) (D2 : ∀ A : Around, A.handled = none → Draws prog w A i2 fp2 n2 P2 St2) {S : Addr} {Q : Option Value → Shared → Prop}
    (st : ZS z TI TO i1 i2 S St1 St2 k s.heap) (hS : S < s.heap.objs.size) (m1 : i1 ∈ fp1) (m2 : i2 ∈ fp2) (l1 : k < n1) (l2 : k < n2)
    (hQ : ∀ h' tk x y, P1 k x → P2 k y → ZS z TI TO i1 i2 S St1 St2 (k + 1) h' → IsPair h' s.heap.objs.size x y → h'.objs.size = s.heap.objs.size + 1 → (∀ c o, c ≠ z → c ≠ TO → c ≠ i1 → c ≠ i2 → s.heap.get? c = some o → h'.get? c = some o) → Q (some (.ref s.heap.objs.size)) { s with heap := h', toks := tk }) :
    wpAny (model prog w) A (pyNext (.ref z)) Q E s := by
  have hTy : s.TypeIs (.ref z) "zip" := st.isZip
  obtain ⟨hTI, h1, h2, hz⟩ := st
  have lt : ∀ {c o}, s.heap.get? c = some o → s.heap.objs.size ≠ c := fun e => Nat.ne_of_gt (Heap.lt_size e)
  have nz : s.heap.objs.size ≠ z := let ⟨_, e, _⟩ := hTy; lt e
  have e1 : s.heap.objs.size ≠ i1 := let ⟨_, e⟩ := (D1 A hh).live k _ h1; lt e
  have e2 : s.heap.objs.size ≠ i2 := let ⟨_, e⟩ := (D2 A hh).live k _ h2; lt e
  unfold pyNext
  rcases hz with ⟨hz, a, b, hTO⟩ | ⟨T, f, oT, hz, hT, r1, r2, r3, r4⟩
  · refine wpAny_bind (wpAny_attempt (wpAny_callSpecial?_slot (name := Str.ofString "__next__") hTy F.slot_zip_next (wpAny_call_entry F.slot_zip_next hTy F.entry_zip_next (zipD_first D (D1 A.in1 hh) (D2 A.in1 hh) hz hTI hTO h1 h2 l1 l2 fun h' tk x y px py a1 a3 a4 a5 a6 hk => wpAny_pure ?_) (F.args_zip_next_1 _))))
    exact hQ h' tk x y px py ⟨hk _ _ D.TIz D.TITO D.TIi1 D.TIi2 hTI, a3, a4, .inr ⟨_, false, _, a1, a5, nz, e1, e2, Nat.ne_of_gt hS⟩⟩ a5 a6 hk
  · refine wpAny_bind (wpAny_attempt (wpAny_callSpecial?_slot (name := Str.ofString "__next__") hTy F.slot_zip_next (wpAny_call_entry F.slot_zip_next hTy F.entry_zip_next (zipD_held D (D1 A.in1 hh) (D2 A.in1 hh) hz hT hTI h1 h2 l1 l2 fun h' tk x y px py a1 a3 a4 a5 a6 hk => wpAny_pure ?_) (F.args_zip_next_1 _))))
    exact hQ h' tk x y px py ⟨hk _ _ D.TIz D.TIi1 D.TIi2 hTI, a3, a4, .inr ⟨T, true, oT, a1, hk _ _ r1 r2 r3 hT, r1, r2, r3, r4⟩⟩ a5 a6 fun c o c1 _ c3 c4 e => hk c o c1 c3 c4 e
theorem nextZ_end (hh : A.handled = none) (D : ZAp z TI TO i1 i2 fp1 fp2) (D1 : ∀ A : Around, A.handled = none → Draws prog w A i1 fp1 n1 P1 St1) (D2 : ∀ A : Around, A.handled = none → Draws prog w A i2 fp2 n2 P2 St2) {S : Addr} {Q : Option Value → Shared → Prop}
    (st : ZS z TI TO i1 i2 S St1 St2 k s.heap) (hend : k = n1 ∨ (k < n1 ∧ k = n2))
    (hQ : ∀ h' tk, (∀ c o, c ≠ z → c ≠ TO → c ≠ i1 → c ≠ i2 → s.heap.get? c = some o → h'.get? c = some o) → Q none { s with heap := h', toks := tk }) :
    wpAny (model prog w) A (pyNext (.ref z)) Q E s := by
  have hTy : s.TypeIs (.ref z) "zip" := st.isZip
  obtain ⟨hTI, h1, h2, hz⟩ := st
  unfold pyNext
  rcases hz with ⟨hz, a, b, hTO⟩ | ⟨T, f, oT, hz, hT, r1, r2, r3, r4⟩
  · refine wpAny_bind (wpAny_attempt (wpAny_callSpecial?_slot (name := Str.ofString "__next__") hTy F.slot_zip_next (wpAny_call_entry F.slot_zip_next hTy F.entry_zip_next (zipD_end D (D1 A.in1 hh) (D2 A.in1 hh) hz hTI hTO h1 h2 hend fun h' e tk hk he => ?_) (F.args_zip_next_1 _))))
    obtain ⟨o, ho, hc⟩ := he
    refine wpAny_bind (wpAny_isInstance (T := "StopIteration") (b := true) ⟨o, ho, hc⟩ isSubtype_stop ?_)
    exact wpAny_pure (hQ _ _ hk)
  · refine wpAny_bind (wpAny_attempt (wpAny_callSpecial?_slot (name := Str.ofString "__next__") hTy F.slot_zip_next (wpAny_call_entry F.slot_zip_next hTy F.entry_zip_next (zipD_endh D (D1 A.in1 hh) (D2 A.in1 hh) hz hT hTI h1 h2 hend fun h' e tk hk he => ?_) (F.args_zip_next_1 _))))
    obtain ⟨o, ho, hc⟩ := he
    refine wpAny_bind (wpAny_isInstance (T := "StopIteration") (b := true) ⟨o, ho, hc⟩ isSubtype_stop ?_)
    exact wpAny_pure (hQ _ _ hk)
/-- what was gathered -/
structure ZG (P1 P2 : Nat → Value → Prop) (lo : Addr) (h : Heap) (as : List Addr) : Prop where
  rise : as.Pairwise (· < ·)
  above : ∀ a ∈ as, lo < a
  pairs : ∀ (j : Nat) (a : Addr), as[j]? = some a → ∃ x y, P1 j x ∧ P2 j y ∧ IsPair h a x y
theorem ZG.there {lo : Addr} {h : Heap} {as : List Addr} (g : ZG P1 P2 lo h as) {a : Addr} (ha : a ∈ as) : a < h.objs.size := by
  obtain ⟨j, hj⟩ := List.mem_iff_getElem?.mp ha
  obtain ⟨_, _, _, _, e⟩ := g.pairs j a hj
  exact Heap.lt_size e
theorem loopZ (hh : A.handled = none) (D : ZAp z TI TO i1 i2 fp1 fp2) (D1 : ∀ A : Around, A.handled = none → Draws prog w A i1 fp1 n1 P1 St1) (D2 : ∀ A : Around, A.handled = none → Draws prog w A i2 fp2 n2 P2 St2) (m1 : i1 ∈ fp1) (m2 : i2 ∈ fp2) {S : Addr} {R : Result → Shared → Prop}
    (s1 : S ∉ fp1) (s2 : S ∉ fp2) (zS : z < S) (IS : TI < S) (OS : TO < S) (i1S : i1 < S) (i2S : i2 < S) (hn : min n1 n2 ≤ sizeLine) (res : Value) {h₁ : Heap}
    (hR : ∀ h' tk acc c as, (∀ b o, b ≠ S → b ≠ z → b ≠ TO → b ≠ i1 → b ≠ i2 → h₁.get? b = some o → h'.get? b = some o) → h'.get? S = some { cls := .type "list", dict := none, data := .seq acc c, slots := #[] } → as.length = min n1 n2 → ZG P1 P2 S h' as →
      acc.toList = as.map Value.ref → R (.ok (.ret res)) { s with heap := h', toks := tk }) :
    ∀ (m k : Nat) (h : Heap) (tk c : Nat) (acc : Array Value) (as : List Addr), min n1 n2 - k = m → k ≤ min n1 n2 → ZS z TI TO i1 i2 S St1 St2 k h → (∀ b o, b ≠ S → b ≠ z → b ≠ TO → b ≠ i1 → b ≠ i2 → h₁.get? b = some o → h.get? b = some o) →
      h.get? S = some { cls := .type "list", dict := none, data := .seq acc c, slots := #[] } → acc.toList = as.map Value.ref → as.length = k → ZG P1 P2 S h as →
      codeAny (model prog w) A (.builtin "list.extend.loop" ⟨[.ref S, .ref z, res], []⟩) R { s with heap := h, toks := tk } := by
  intro m
  induction m with
  | zero =>
    intro k h tk c acc as hk hi hst hkeep hS hacc hal hG
    refine codeAny_builtin PySem.F.entry_extend_loop ?_
    rw [Around.under_plainId PySem.F.plain_extend_loop _]
    show wpAny _ A.in1 (pyNext (.ref z) >>= _) _ _ _
    refine wpAny_bind (nextZ_end (s := { s with heap := h, toks := tk }) (A := A.in1) hh D D1 D2 hst (by omega) fun h' tk' he => ?_)
    refine wpAny_pure (hR h' tk' acc c as (fun b o h1 h2 h3 h4 h5 e => he b o h2 h3 h4 h5 (hkeep b o h1 h2 h3 h4 h5 e)) (he S _ (Nat.ne_of_gt zS) (Nat.ne_of_gt OS) (Nat.ne_of_gt i1S) (Nat.ne_of_gt i2S) hS) (by omega) ⟨hG.rise, hG.above, fun j a hj => ?_⟩ hacc)
    obtain ⟨x, y, p1, p2, e3⟩ := hG.pairs j a hj
    have ha := hG.above a (List.mem_of_getElem? hj)
    exact ⟨x, y, p1, p2, he a _ (Nat.ne_of_gt (Nat.lt_trans zS ha)) (Nat.ne_of_gt (Nat.lt_trans OS ha)) (Nat.ne_of_gt (Nat.lt_trans i1S ha)) (Nat.ne_of_gt (Nat.lt_trans i2S ha)) e3⟩
  | succ m ih =>
    intro k h tk c acc as hk hi hst hkeep hS hacc hal hG
    have hlt : k < min n1 n2 := by omega
    have hsz : acc.size = k := by rw [← Array.length_toList, hacc, List.length_map, hal]
    refine codeAny_builtin PySem.F.entry_extend_loop ?_
    rw [Around.under_plainId PySem.F.plain_extend_loop _]
    show wpAny _ A.in1 (pyNext (.ref z) >>= _) _ _ _
    have hSl : S < h.objs.size := Heap.lt_size hS
    refine wpAny_bind (nextZ (s := { s with heap := h, toks := tk }) (A := A.in1) hh D D1 D2 hst hSl m1 m2 (by omega) (by omega) fun h' tk' x y px py hst' ht hz hkp => ?_)
    dsimp only at ht hz hkp ⊢
    have hS' := hkp S _ (Nat.ne_of_gt zS) (Nat.ne_of_gt OS) (Nat.ne_of_gt i1S) (Nat.ne_of_gt i2S) hS
    have up : ∀ b o, b ≠ S → h'.get? b = some o → (h'.update S (Obj.mapSeq (·.push (Value.ref h.objs.size)))).get? b = some o := fun b o hb e => (Heap.get?_update_other _ _ (Ne.symm hb)).trans e
    show wpAny _ A.in1 (updateSeq S (·.push (Value.ref h.objs.size)) >>= _) _ _ _
    refine wpAny_bind ?_
    refine wpAny_updateSeq hS' rfl (wpAny_pure ⟨plainId_quiet PySem.F.plain_extend_loop _, ih (k + 1) _ tk' _ (acc.push (Value.ref h.objs.size)) (as ++ [h.objs.size]) (by omega) hlt (ZS.but (b := S) (D1 _ hh) (D2 _ hh) hst' up s1 s2 (Nat.ne_of_lt zS) (Nat.ne_of_lt IS) (Nat.ne_of_lt OS))
      (fun b o h1 h2 h3 h4 h5 e => up b o h1 (hkp b o h2 h3 h4 h5 (hkeep b o h1 h2 h3 h4 h5 e))) (Heap.get?_update_self _ hS' rfl) (by rw [Array.toList_push, hacc, List.map_append]; rfl) (by rw [List.length_append, hal]; rfl) ⟨?_, ?_, ?_⟩⟩) (by rw [hsz]; omega) (by show (acc.push (Value.ref h.objs.size)).size ≤ sizeLine + 1; rw [Array.size_push, hsz]; omega)
    · refine List.pairwise_append.mpr ⟨hG.rise, List.pairwise_singleton _ _, fun a ha b hb => ?_⟩
      rw [List.mem_singleton.mp hb]
      exact hG.there ha
    · intro a ha
      rcases List.mem_append.mp ha with ha | ha
      · exact hG.above a ha
      · rw [List.mem_singleton.mp ha]; exact hSl
    · intro j b hj
      rcases Nat.lt_trichotomy j as.length with h1 | h1 | h1
      · rw [List.getElem?_append_left h1] at hj
        obtain ⟨x', y', p1, p2, e3⟩ := hG.pairs j b hj
        have hb := hG.above b (List.mem_of_getElem? hj)
        exact ⟨x', y', p1, p2, up b _ (Nat.ne_of_gt hb) (hkp b _ (Nat.ne_of_gt (Nat.lt_trans zS hb)) (Nat.ne_of_gt (Nat.lt_trans OS hb)) (Nat.ne_of_gt (Nat.lt_trans i1S hb)) (Nat.ne_of_gt (Nat.lt_trans i2S hb)) e3)⟩
      · subst h1
        have hb : h.objs.size = b := by simpa using hj
        subst hb
        subst hal
        exact ⟨x, y, px, py, up _ _ (Nat.ne_of_gt hSl) ht⟩
      · have hnone : (as ++ [h.objs.size])[j]? = none := List.getElem?_eq_none (by rw [List.length_append, List.length_singleton]; omega)
        rw [hnone] at hj; cases hj
theorem hint_zip (hT : s.TypeIs (.ref z) "zip") {Q : Bool → Shared → Prop} (h : Q true s) : wpAny (model prog w) A (Builtin.List.listLengthHint (.ref z)) Q E s := by
  have m1 : typeLookup (.type "zip") "__len__" = pure none := am_miss_of_fast (by decide +kernel)
  have m2 : typeLookup (.type "zip") "__length_hint__" = pure none := am_miss_of_fast (by decide +kernel)
  unfold Builtin.List.listLengthHint
  refine wpAny_bind (wpAny_specialOf hT m1 ?_)
  show wpAny _ _ (specialOf (.ref z) "__length_hint__" >>= _) _ _ _
  refine wpAny_bind (wpAny_specialOf hT m2 ?_)
  exact wpAny_pure h
theorem extZ {R : Result → Shared → Prop} (hh : A.handled = none) (D : ZAp z TI TO i1 i2 fp1 fp2) (D1 : ∀ A : Around, A.handled = none → Draws prog w A i1 fp1 n1 P1 St1) (D2 : ∀ A : Around, A.handled = none → Draws prog w A i2 fp2 n2 P2 St2) (m1 : i1 ∈ fp1) (m2 : i2 ∈ fp2) {S : Addr}
    (s1 : S ∉ fp1) (s2 : S ∉ fp2) (zS : z < S) (IS : TI < S) (OS : TO < S) (i1S : i1 < S) (i2S : i2 < S) (hn : min n1 n2 ≤ sizeLine) (res : Value) (c₀ : Nat) (hS : s.heap.get? S = some { cls := .type "list", data := .seq #[] c₀ }) {a b : Value}
    (hz : IsZip s.heap z TI TO .none) (hTI : IsPair s.heap TI (.ref i1) (.ref i2)) (hTO : IsPair s.heap TO a b) (h1 : St1 0 s.heap) (h2 : St2 0 s.heap)
    (hR : ∀ h' tk acc c as, (∀ b o, b ≠ S → b ≠ z → b ≠ TO → b ≠ i1 → b ≠ i2 → s.heap.get? b = some o → h'.get? b = some o) → h'.get? S = some { cls := .type "list", dict := none, data := .seq acc c, slots := #[] } → as.length = min n1 n2 → ZG P1 P2 S h' as →
      acc.toList = as.map Value.ref → R (.ok (.ret res)) { s with heap := h', toks := tk }) :
    wpAny (model prog w) A.in1 (Builtin.List.listExtendWith (.ref S) (.ref z) res)
      (fun fin s' => match fin with | .done f => R (.ok f) s' | .again c' => c'.quiet = true ∧ codeAny (model prog w) A c' R s') (fun e s' => R (.error e) s') s := by
  have hT : s.TypeIs (.ref z) "zip" := ⟨_, hz, rfl⟩
  unfold Builtin.List.listExtendWith
  refine wpAny_bind (wpAny_typeOf (T := "zip") hT ?_)
  have e1 : Builtin.List.listSameRef (.ref S) (.ref z) = false := by
    simp only [Builtin.List.listSameRef, beq_eq_false_iff_ne]
    exact Nat.ne_of_gt zS
  have e2 : (Value.type "zip" == Value.type "list") = false := by decide
  have e3 : (Value.type "zip" == Value.type "tuple") = false := by decide
  simp only [e1, e2, e3, Bool.or_false, Bool.false_eq_true, if_false]
  refine wpAny_bind (wpAny_pyIter_zip hz ?_)
  refine wpAny_bind (wpAny_holding (hint_zip hT ?_))
  refine wpAny_ite_split (fun _ => ?_) (fun h => absurd rfl h)
  refine wpAny_bind (wpAny_rule ?_)
  refine wpAny_bind ?_
  show wpAny _ _ (updateSeq S (·.push .none) >>= fun _ => updateSeq S (·.pop)) _ _ _
  refine wpAny_bind (wpAny_updateSeq hS rfl ?_)
  have hS₂ := Heap.get?_update_self (Obj.mapSeq (·.push Value.none)) hS rfl
  refine wpAny_updateSeq (hz := by seq_fits) hS₂ rfl ?_
  have hS₃ := Heap.get?_update_self (Obj.mapSeq (·.pop)) hS₂ rfl
  have oth : ∀ b o, b ≠ S → s.heap.get? b = some o → ((s.heap.update S (Obj.mapSeq (·.push Value.none))).update S (Obj.mapSeq (·.pop))).get? b = some o := fun b o hb e => (Heap.get?_update_other _ _ (Ne.symm hb)).trans ((Heap.get?_update_other _ _ (Ne.symm hb)).trans e)
  refine wpAny_pure ⟨plainId_quiet PySem.F.plain_extend_loop _, ?_⟩
  refine loopZ (s := s) (h₁ := s.heap) hh D D1 D2 m1 m2 s1 s2 zS IS OS i1S i2S hn res hR (min n1 n2) 0 _ _ _ #[] [] (Nat.sub_zero _) (Nat.zero_le _) ⟨oth _ _ (Nat.ne_of_lt IS) hTI, Draws.but (D1 A hh) h1 (fun c o hc e => oth c o hc e) s1, Draws.but (D2 A hh) h2 (fun c o hc e => oth c o hc e) s2, .inl ⟨oth _ _ (Nat.ne_of_lt zS) hz, a, b, oth _ _ (Nat.ne_of_lt OS) hTO⟩⟩
    (fun b o hb _ _ _ _ e => oth b o hb e) hS₃ rfl rfl ⟨List.Pairwise.nil, (fun _ ha => nomatch ha), (fun j a hj => by simp at hj)⟩
theorem callZ {Q : Value → Shared → Prop} (hh : A.handled = none) (D : ZAp z TI TO i1 i2 fp1 fp2) (D1 : ∀ A : Around, A.handled = none → Draws prog w A i1 fp1 n1 P1 St1) (D2 : ∀ A : Around, A.handled = none → Draws prog w A i2 fp2 n2 P2 St2) (m1 : i1 ∈ fp1) (m2 : i2 ∈ fp2)
    (s1 : s.heap.objs.size ∉ fp1) (s2 : s.heap.objs.size ∉ fp2) (hn : min n1 n2 ≤ sizeLine) {a b : Value} (hz : IsZip s.heap z TI TO .none) (hTI : IsPair s.heap TI (.ref i1) (.ref i2)) (hTO : IsPair s.heap TO a b) (h1 : St1 0 s.heap) (h2 : St2 0 s.heap)
    (hQ : ∀ h' tk acc c as, (∀ b o, b ≠ z → b ≠ TO → b ≠ i1 → b ≠ i2 → s.heap.get? b = some o → h'.get? b = some o) → h'.get? s.heap.objs.size = some { cls := .type "list", dict := none, data := .seq acc c, slots := #[] } → as.length = min n1 n2 → ZG P1 P2 s.heap.objs.size h' as →
      acc.toList = as.map Value.ref → Q (.ref s.heap.objs.size) { s with heap := h', toks := tk }) :
    wpAny (model prog w) A (call (.type "list") [.ref z]) Q E s := by
  refine callType_codes (Q₁ := fun obj s₁ => obj = .ref s.heap.objs.size ∧ s₁ = { s with heap := s.heap.push { cls := .type "list", data := .seq #[] } }) PySem.F.called_list (PySem.F.typeCall_list_1 _) PySem.F.entry_list_init
    (code_list_new _ ⟨rfl, rfl⟩) fun obj s₁ h₁ => ?_
  obtain ⟨rfl, rfl⟩ := h₁
  have hS : (s.heap.push { cls := .type "list", data := .seq #[] }).get? s.heap.objs.size = some { cls := .type "list", data := .seq #[] } := Heap.get?_push_size _ rfl
  have pu : ∀ {b o}, s.heap.get? b = some o → (s.heap.push { cls := .type "list", data := .seq #[] }).get? b = some o := fun e => Heap.get?_push_of_some _ e
  have hi1 : i1 < s.heap.objs.size := let ⟨_, e⟩ := (D1 A hh).live 0 _ h1; Heap.lt_size e
  have hi2 : i2 < s.heap.objs.size := let ⟨_, e⟩ := (D2 A hh).live 0 _ h2; Heap.lt_size e
  refine ⟨⟨_, hS, rfl⟩, PySem.F.args_list_init_2 _ _, ?_⟩
  show wpAny _ _ (do let old ← Builtin.List.listItems (.ref s.heap.objs.size); Builtin.List.listUpdate (.ref s.heap.objs.size) (fun _ => #[]); letGo old.toList.reverse; Builtin.List.listExtendWith (.ref s.heap.objs.size) (.ref z) .none) _ _ _
  refine wpAny_bind ?_
  unfold Builtin.List.listItems
  refine wpAny_bind (wpAny_seqItems hS rfl (wpAny_pure ?_))
  show wpAny _ _ (updateSeq s.heap.objs.size (fun _ => #[]) >>= fun _ => letGo (#[] : Array Value).toList.reverse >>= fun _ => Builtin.List.listExtendWith (.ref s.heap.objs.size) (.ref z) .none) _ _ _
  refine wpAny_bind (wpAny_updateSeq hS rfl ?_)
  have hS₂ := Heap.get?_update_self (Obj.mapSeq (fun _ => (#[] : Array Value))) hS rfl
  have oth : ∀ b o, b ≠ s.heap.objs.size → s.heap.get? b = some o → ((s.heap.push { cls := .type "list", data := .seq #[] }).update s.heap.objs.size (Obj.mapSeq (fun _ => (#[] : Array Value)))).get? b = some o :=
    fun b o hb e => (Heap.get?_update_other _ _ (Ne.symm hb)).trans (pu e)
  have ne : ∀ {b o}, s.heap.get? b = some o → b ≠ s.heap.objs.size := fun e => Nat.ne_of_lt (Heap.lt_size e)
  refine wpAny_bind (wpAny_letGo ?_)
  refine extZ (A := A.in1) hh D D1 D2 m1 m2 s1 s2 (Heap.lt_size hz) (Heap.lt_size hTI) (Heap.lt_size hTO) hi1 hi2 hn .none _ hS₂ (oth _ _ (ne hz) hz) (oth _ _ (ne hTI) hTI) (oth _ _ (ne hTO) hTO) ((D1 A hh).frame _ _ _ h1 fun c hc o e => oth c o (ne e) e) ((D2 A hh).frame _ _ _ h2 fun c hc o e => oth c o (ne e) e) fun h' tk acc c as hk hS' hl hG hacc => ?_
  exact ⟨rfl, hQ h' tk acc c as (fun b o b1 b2 b3 b4 e => hk b o (ne e) b1 b2 b3 b4 (oth b o (ne e) e)) hS' hl hG hacc⟩
end
/-! ### the layer's rule -/
theorem zap_mk (N a b : Nat) (la : a < N) (lb : b < N) : ZAp (N + 4) (N + 2) (N + 3) N (N + 1) [N, a] [N + 1, b] := by
  have t : ∀ {x y : Nat}, (x = y → False) → x ≠ y := fun h => h
  have m : ∀ {x u v : Nat}, (x = u → False) → (x = v → False) → x ∉ [u, v] := fun h1 h2 h => by
    rcases List.mem_cons.mp h with e | e
    · exact h1 e
    · exact h2 (List.mem_singleton.mp e)
  exact ⟨t (by omega), t (by omega), t (by omega), t (by omega), t (by omega), t (by omega), t (by omega), t (by omega), t (by omega), t (by omega), m (by omega) (by omega), m (by omega) (by omega), m (by omega) (by omega), m (by omega) (by omega), m (by omega) (by omega), m (by omega) (by omega)⟩
def putP : Hp → List Addr → List (V × V) → Hp
  | H, a :: as, p :: kvs => putP (upd H a (.tup [p.1, p.2])) as kvs
  | H, _, _ => H
theorem putP_off {b : Addr} : ∀ (as : List Addr) (kvs : List (V × V)) (H : Hp), b ∉ as → putP H as kvs b = H b
  | [], _, _, _ => rfl
  | _ :: _, [], _, _ => rfl
  | a :: as, p :: kvs, H, h => by
    show putP (upd H a (.tup [p.1, p.2])) as kvs b = H b
    rw [putP_off as kvs _ (fun z => h (List.mem_cons_of_mem _ z)), upd_ne (fun z => h (by rw [z]; exact List.mem_cons_self))]
theorem putP_at : ∀ (as : List Addr) (kvs : List (V × V)) (H : Hp), as.length = kvs.length → as.Nodup → ∀ (j : Nat) (t : Addr), as[j]? = some t → ∃ p, kvs[j]? = some p ∧ putP H as kvs t = some (.tup [p.1, p.2])
  | [], [], _, _, _, j, t, e => by simp at e
  | [], _ :: _, _, h, _, _, _, _ => by cases h
  | _ :: _, [], _, h, _, _, _, _ => by cases h
  | a :: as, p :: kvs, H, h, hn, j, t, e => by
    have hn' := List.nodup_cons.mp hn
    cases j with
    | zero =>
      cases e
      refine ⟨p, rfl, ?_⟩
      show putP (upd H a (.tup [p.1, p.2])) as kvs a = some (.tup [p.1, p.2])
      rw [putP_off as kvs _ hn'.1, upd_same]
    | succ j => exact putP_at as kvs (upd H a (.tup [p.1, p.2])) (Nat.succ.inj h) hn'.2 j t e
theorem vals_refs' : ∀ as : List Addr, Vals (as.map V.ref) (as.map Value.ref)
  | [] => .nil
  | _ :: as => .cons rfl (vals_refs' as)
section
variable {X : Cx}
theorem pairs_laid {pins : List (Addr × Obj)} {σ : L2.St} {H : Hp} {s : Shared} {h' : Heap} {tk : Nat} {xs ys : List V} {xv yv : List Value} {acc : Array Value} {c : Nat} {as : List Addr} {S : Addr} (I : Inv X pins σ H s) (rx : Vals xs xv) (ry : Vals ys yv) (hz : min xs.length ys.length ≤ sizeLine)
    (hk : ∀ b o, s.heap.get? b = some o → h'.get? b = some o) (hSn0 : s.heap.objs.size ≤ S) (hS : h'.get? S = some { cls := .type "list", dict := none, data := .seq acc c, slots := #[] }) (hl : as.length = min xs.length ys.length) (hG : ZG (fun i v => xv[i]? = some v) (fun i v => yv[i]? = some v) S h' as) (hacc : acc.toList = as.map Value.ref) :
    ∃ H' : Hp, New H H' ∧ H S = none ∧ H' S = some (.lst (as.map V.ref)) ∧ (∀ (i : Nat) (T : Addr), as[i]? = some T → ∃ v w, xs[i]? = some v ∧ ys[i]? = some w ∧ H' T = some (.tup [v, w])) ∧ Inv X pins σ H' { s with heap := h', toks := tk } := by
  have lz : (xs.zip ys).length = min xs.length ys.length := List.length_zip
  have hSn : S ∉ as := fun z => Nat.lt_irrefl _ (hG.above _ z)
  have nd : as.Nodup := List.Pairwise.imp (fun {a b} (h : a < b) => Nat.ne_of_lt h) hG.rise
  have new : ∀ t ∈ as, H t = none := fun t ht => I.hok.fresh (Nat.le_trans hSn0 (Nat.le_of_lt (hG.above t ht)))
  have newS : H S = none := I.hok.fresh hSn0
  have atP := putP_at as (xs.zip ys) (upd H S (.lst (as.map V.ref))) (by omega) nd
  have off : ∀ b, b ∉ as → b ≠ S → putP (upd H S (.lst (as.map V.ref))) as (xs.zip ys) b = H b := fun b h1 h2 => by rw [putP_off as _ _ h1, upd_ne h2]
  have low : ∀ b o, s.heap.get? b = some o → b ∉ as ∧ b ≠ S := fun b o e => ⟨fun z => absurd (Heap.lt_size e) (Nat.not_lt.mpr (Nat.le_trans hSn0 (Nat.le_of_lt (hG.above b z)))), Nat.ne_of_lt (Nat.lt_of_lt_of_le (Heap.lt_size e) hSn0)⟩
  have kp : ∀ b u, H b = some u → (putP (upd H S (.lst (as.map V.ref))) as (xs.zip ys)) b = some u := fun b u e => by
    rw [off b (fun z => by rw [new b z] at e; cases e) (fun z => by rw [z, newS] at e; cases e)]
    exact e
  have eS : putP (upd H S (.lst (as.map V.ref))) as (xs.zip ys) S = some (.lst (as.map V.ref)) := by rw [putP_off as _ _ hSn, upd_same]
  refine ⟨putP (upd H S (.lst (as.map V.ref))) as (xs.zip ys), kp, newS, eS, fun i T e => ?_, ?_⟩
  · obtain ⟨p, e1, e2⟩ := atP i T e
    rw [List.getElem?_zip_eq_some] at e1
    exact ⟨p.1, p.2, e1.1, e1.2, e2⟩
  refine I.call' (ch := []) rfl ⟨fun b o q _ _ _ => hk b o q, fun b o q _ _ _ => ⟨o.slots, hk b o q⟩, fun b o q n _ => ?_, fun b o q _ => ⟨o, hk b o q⟩, fun b xs q => kp b _ q, fun b o u q => kp b _ q, fun b ps q => ⟨#[], by rw [kp b _ q]; simp⟩⟩ (fun b u q => ?_) I.bare fun b z => by simp at z
  · obtain ⟨z1, z2⟩ := low b o q
    rw [off b z1 z2]
    exact n
  · by_cases hb : b ∈ as
    · obtain ⟨j, ej⟩ := List.mem_iff_getElem?.mp hb
      obtain ⟨pk, e2, e3⟩ := atP j b ej
      rw [e3] at q
      cases q
      obtain ⟨xk, yk, f1, f2, f3⟩ := hG.pairs j b ej
      rw [List.getElem?_zip_eq_some] at e2
      obtain ⟨u1, g1, g2⟩ := rx.get e2.1
      obtain ⟨u2, g3, g4⟩ := ry.get e2.2
      rw [f1] at g1
      rw [f2] at g3
      cases g1
      cases g3
      exact ⟨by show 2 ≤ sizeLine; decide, [xk, yk], .cons g2 (.cons g4 .nil), ⟨_, f3, rfl, _, rfl⟩⟩
    · by_cases hb2 : b = S
      · rw [hb2] at q ⊢
        rw [eS] at q
        cases q
        refine ⟨by rw [List.length_map]; omega, acc.toList, c, by rw [hacc]; exact vals_refs' as, ?_⟩
        rw [Array.toArray_toList]
        exact hS
      · rw [off b hb hb2] at q
        exact (I.hok b u q).stay (fun d v _ y => hk d v y) (fun d y => kp d _ y) fun d xs y => kp d _ y
theorem pe_zipl {l r : Expr} {ta tb : TE} {p q pos pos2 : Pos} (hl : Gl X "list") (hl2 : X.mg "list" = none) (hz : Gl X "zip") (hz2 : X.mg "zip" = none) (p1 : plE l = true) (p2 : plE r = true) (ha : PE X l ta) (hb : PE X r tb) (hc : X.calm = true) :
    PE X (.Call (.Name "list" p) [.Call (.Name "zip" q) [l, r] [] pos] [] pos2) (tOp (rZipL X.K) ta tb) := by
  refine ⟨fun pins s σ H Q I h => ?_⟩
  have hs : starEach [.Call (.Name "zip" q) [l, r] [] pos] X.env = (false, eval (.Call (.Name "zip" q) [l, r] [] pos) X.env) :: starEach [] X.env := rfl
  refine Call_ (ld_blt I hl hl2 boot_list (PyProof.Rows.callWith_type1 ?_ hs rfl))
  rw [hs]
  show wpAny _ _ (spliced ((false, eval (.Call (.Name "zip" q) [l, r] [] pos) X.env) :: backTo pos2 (starEach [] X.env))) _ _ s
  refine Calls.spliced_cons ?_
  have pa : PA X [l, r] (tCons ta (tCons tb tNil)) := pa_cons ha (pa_cons hb pa_nil (plE_star p2 [] X.env)) (plE_star p1 [r] X.env)
  have hpl : (backTo pos (starEach [r] X.env)).any (·.1) = false := by rw [plE_star p2 [] X.env]; rfl
  refine Call_ (ld_blt I hz hz2 PyProof.Rows.boot_zip (PyProof.Rows.callWith_type1 (thn (pa.run pos pins s σ H (fun vs H2 => match vs with
    | [x, y] => rZipL X.K x y H2 Q
    | _ => False) I h) fun us s1 ⟨vs, H1, I1, r1, q1⟩ => ?_) (plE_star p1 [r] X.env) hpl))
  match vs, r1, q1 with
  | [], _, z => exact z.elim
  | [_], _, z => exact z.elim
  | _ :: _ :: _ :: _, _, z => exact z.elim
  | [x, y], r1, q1 =>
    obtain ⟨a, b, xs, ys, rfl, rfl, hab, q1⟩ := q1
    cases r1 with
    | cons r rr =>
    cases rr with
    | cons r' rr =>
    cases rr
    cases r
    cases r'
    have hh : X.A.handled = none := I1.ok.hd hc
    have fin : ∀ {xv yv : List Value} {o1 o2 : Obj} {H1' H2' : Heap → Prop} {St1 St2 : Nat → Heap → Prop} (rx : Vals xs xv) (ry : Vals ys yv) (zx : xs.length ≤ sizeLine) (B1 : Begins (.ref a) o1 H1') (B2 : Begins (.ref b) o2 H2') (b1 : H1' s1.heap) (b2 : H2' s1.heap) (la : a < s1.heap.objs.size) (lb : b < s1.heap.objs.size)
        (D1 : ∀ A : Around, A.handled = none → Draws X.prog X.w A s1.heap.objs.size [s1.heap.objs.size, a] xv.toArray.size (fun i v => xv.toArray[i]? = some v) St1) (D2 : ∀ A : Around, A.handled = none → Draws X.prog X.w A (s1.heap.objs.size + 1) [s1.heap.objs.size + 1, b] yv.toArray.size (fun i v => yv.toArray[i]? = some v) St2)
        (k1 : ∀ h' : Heap, h'.get? s1.heap.objs.size = some o1 → (∀ c o, s1.heap.get? c = some o → h'.get? c = some o) → St1 0 h') (k2 : ∀ h' : Heap, h'.get? (s1.heap.objs.size + 1) = some o2 → (∀ c o, s1.heap.get? c = some o → h'.get? c = some o) → St2 0 h'),
        wpAny (model X.prog X.w) X.A (PySem.call (.type "zip") [.ref a, .ref b]) (fun v s₁ => wpAny (model X.prog X.w) X.A (spliced (backTo pos2 (starEach [] X.env))) (fun vs s₂ => wpAny (model X.prog X.w) X.A (PySem.call (.type "list") (v :: vs)) (EP X pins σ Q) X.xe s₂) X.xe s₁) X.xe s1 := by
      intro xv yv o1 o2 H1' H2' St1 St2 rx ry zx B1 B2 b1 b2 la lb D1 D2 k1 k2
      refine zip_begins2 B1 B2 b1 b2 fun h' hz hTI hTO g1 g2 hsz hk => ?_
      refine Calls.spliced_nil ?_
      have lx := rx.length
      have ly := ry.length
      have na : ∀ {n : Nat}, s1.heap.objs.size ≤ n → a ≠ n := fun h => Nat.ne_of_lt (Nat.lt_of_lt_of_le la h)
      have nb : ∀ {n : Nat}, s1.heap.objs.size ≤ n → b ≠ n := fun h => Nat.ne_of_lt (Nat.lt_of_lt_of_le lb h)
      have ap := zap_mk s1.heap.objs.size a b la lb
      refine callZ (s := { s1 with heap := h' }) hh ap D1 D2 (by simp) (by simp) ?_ ?_ ?_ hz hTI hTO (k1 h' g1 hk) (k2 h' g2 hk) fun h'' tk acc c as hk' hS hl hG hacc => ?_
      · show h'.objs.size ∉ _
        rw [hsz]
        have := na (n := s1.heap.objs.size + 5) (by omega)
        simp only [List.mem_cons, List.not_mem_nil, or_false, not_or]
        exact ⟨by omega, this.symm⟩
      · show h'.objs.size ∉ _
        rw [hsz]
        have := nb (n := s1.heap.objs.size + 5) (by omega)
        simp only [List.mem_cons, List.not_mem_nil, or_false, not_or]
        exact ⟨by omega, this.symm⟩
      · simp only [List.size_toArray]
        omega
      · have ok : ∀ b o, s1.heap.get? b = some o → h''.get? b = some o := fun b o e => by
          have lt := Heap.lt_size e
          exact hk' b o (Nat.ne_of_lt (Nat.lt_of_lt_of_le lt (by omega))) (Nat.ne_of_lt (Nat.lt_of_lt_of_le lt (by omega))) (Nat.ne_of_lt lt) (Nat.ne_of_lt (Nat.lt_of_lt_of_le lt (by omega))) (hk b o e)
        simp only [List.size_toArray, ← lx, ← ly] at hl
        obtain ⟨H', n1, n2, n3, n4, J⟩ := pairs_laid (tk := tk) I1 rx ry (by omega) ok (S := h'.objs.size) (by rw [hsz]; omega) hS hl (by simpa using hG) hacc
        exact ⟨.ref _, H', J, rfl, q1 _ H' as n2 n1 n3 hl n4⟩
    rcases hab with ⟨hx, hy⟩ | ⟨hx, hy⟩
    · obtain ⟨its, rv, e1, z1⟩ := I1.list hx
      obtain ⟨its2, rv2, e2, z2⟩ := I1.list hy
      have la : a < s1.heap.objs.size := e1.lt
      have lb : b < s1.heap.objs.size := e2.lt
      refine fin rv rv2 z1 (begins_list a its.toArray) (begins_list b its2.toArray) e1.isList e2.isList la lb (fun A hA => Draws.list hA s1.heap.objs.size a (Nat.ne_of_lt la) its.toArray) (fun A hA => Draws.list hA (s1.heap.objs.size + 1) b (Nat.ne_of_lt (Nat.lt_succ_of_lt lb)) its2.toArray) (fun h' g hk => ⟨⟨_, g, rfl, rfl⟩, e1.isList.at fun o e => hk _ o e⟩) fun h' g hk => ⟨⟨_, g, rfl, rfl⟩, e2.isList.at fun o e => hk _ o e⟩
    · obtain ⟨its, rv, e1, z1⟩ := I1.tuple hx
      obtain ⟨its2, rv2, e2, z2⟩ := I1.tuple hy
      have la : a < s1.heap.objs.size := let ⟨_, e, _⟩ := e1; Heap.lt_size e
      have lb : b < s1.heap.objs.size := let ⟨_, e, _⟩ := e2; Heap.lt_size e
      refine fin rv rv2 z1 (begins_tuple a its.toArray) (begins_tuple b its2.toArray) e1 e2 la lb (fun A hA => Draws.tuple hA s1.heap.objs.size a (Nat.ne_of_lt la) its.toArray) (fun A hA => Draws.tuple hA (s1.heap.objs.size + 1) b (Nat.ne_of_lt (Nat.lt_succ_of_lt lb)) its2.toArray) (fun h' g hk => ⟨⟨_, g, rfl, rfl⟩, let ⟨o, x, y⟩ := e1; ⟨o, hk _ _ x, y⟩⟩) fun h' g hk => ⟨⟨_, g, rfl, rfl⟩, let ⟨o, x, y⟩ := e2; ⟨o, hk _ _ x, y⟩⟩
end
end Ev
/-! Tr5: expressions. -/
namespace Ev
open PySem PySem.Spec PyProof.Rows L2 RZ StX
section
variable {X : Cx}
theorem sl_all : L2.SlR X (rSlc X.K) := L2.SlR.or L2.sl_list (L2.SlR.or L2.sl_tup L2.sl_str)
theorem mu_ok {m : Mu} {i : Nat} {x : Str} {p apos pos : Pos} {l : List Expr} {t : TA} (hv : PE X (.Name x p) (tVar i)) (hl : (apos.endLine == pos.line) = true) (hm : (match m, l with
      | .pop, [] => true
      | .clear, [] => true
      | .append, [y] => plE y
      | .extend, [y] => plE y
      | .popAt, [y] => plE y
      | _, _ => false) = true) (ha : PA X l t) (h0 : l = [] → t = tNil) : PE X (.Call (.Attribute (.Name x p) (muN m) apos) l [] pos) (tBM X.K "list" (rMu X.K m) (tVar i) t) := by
  have one : ∀ {y : Expr} {id : String} {r : V → List V → Hp → VK → Prop} {n : Str}, l = [y] → plE y = true → PySem.Slot "list" n id → typeOf (.builtin id) = pure (.type "method_descriptor") → MtR X id r → PE X (.Call (.Attribute (.Name x p) n apos) l [] pos) (tBM X.K "list" r (tVar i) t) := by
    intro y id r n el hp sl ty mt
    subst el
    have e1 := plE_star hp [] X.env
    exact pe_bm PySem.F.plainAttrs_list sl ty mt hv ha rfl (by rw [e1]; rfl) hl e1 rfl
  split at hm
  · rw [h0 rfl]
    exact pe_bm0 PySem.F.plainAttrs_list PySem.F.slot_list_pop PySem.F.type_list_pop mt_pop hv rfl hl
  · rw [h0 rfl]
    exact pe_bm0 PySem.F.plainAttrs_list PySem.F.slot_list_clear PySem.F.type_list_clear mt_clear hv rfl hl
  · exact one rfl hm PySem.F.slot_list_append PySem.F.type_list_append mt_append
  · exact one rfl hm PySem.F.slot_list_extend PySem.F.type_list_extend mt_extA
  · exact one rfl hm PySem.F.slot_list_pop PySem.F.type_list_pop mt_popAt
  · cases hm
theorem tE_test {te : TE} : tB te = tTest te := rfl
end
section
variable {tb : Tb} {dn : Dn} {k : Nat}
mutual
theorem ckE_ok : ∀ (t : Tm) (sx : Sx) (X : Cx) (e : Expr), XOk tb dn k sx X → ckE tb t sx e = true → PE X e (denE dn t)
  | .var i, sx, X, e, ok, h => by
    rw [ckE] at h
    unfold mVar at h
    rw [denE]
    split at h
    · exact visB_ok ok h
    · cases h
  | .cst d, sx, X, e, ok, h => by
    rw [ckE] at h
    unfold mCst at h
    rw [denE]
    split at h
    · exact cstB_ok h
    · cases h
  | .gl i, sx, X, e, ok, h => by
    rw [ckE] at h
    unfold mGl at h
    rw [denE]
    split at h
    · rw [Bool.and_eq_true, decide_eq_true_eq] at h
      obtain ⟨h1, h2⟩ := h
      obtain ⟨g1, g2⟩ := glB_ok ok h1
      obtain ⟨u, m1, m2⟩ := ok.tb.gc _ _ h2
      exact pe_glob g1 m1 m2 g2
    · split at h
      · rw [Bool.and_eq_true, decide_eq_true_eq] at h
        obtain ⟨h1, h2⟩ := h
        obtain ⟨g1, g2⟩ := glB_ok ok h1
        obtain ⟨a, mc, u, m1, m2, m3⟩ := ok.tb.cl _ _ _ h2
        exact PE.imp (ClX.pe_cval (pe_glob (v := .ref a) g1 m1 rfl g2)) fun σ H Q q => ⟨a, mc, _, u, rfl, m2, m3, q⟩
      · cases h
    · cases h
  | .fnv i, sx, X, e, ok, h => by
    rw [ckE] at h
    unfold mFnv at h
    rw [denE]
    split at h
    · rw [Bool.and_eq_true, decide_eq_true_eq] at h
      obtain ⟨h1, h2⟩ := h
      obtain ⟨g1, g2⟩ := glB_ok ok h1
      obtain ⟨a, m1, m2⟩ := ok.tb.fn _ _ h2
      rw [m2]
      exact pe_glob g1 m1 rfl g2
    · cases h
  | .bin o a b, sx, X, e, ok, h => by
    rw [ckE] at h
    unfold mBin at h
    rw [denE]
    split at h
    · rw [Bool.and_eq_true, Bool.and_eq_true, decide_eq_true_eq] at h
      obtain ⟨rfl, h1, h2⟩ := h
      exact pe_op (op_bin o) (ckE_ok a sx X _ ok h1) (ckE_ok b sx X _ ok h2)
    · cases h
  | .neg a, sx, X, e, ok, h => by
    rw [ckE] at h
    unfold mNeg at h
    rw [denE]
    split at h
    · rw [Bool.and_eq_true, decide_eq_true_eq] at h
      obtain ⟨rfl, h1⟩ := h
      exact pe_un un_neg (ckE_ok a sx X _ ok h1)
    · cases h
  | .notv a, sx, X, e, ok, h => by
    rw [ckE] at h
    unfold mNotv at h
    rw [denE]
    split at h
    · rw [Bool.and_eq_true, decide_eq_true_eq] at h
      obtain ⟨rfl, h1⟩ := h
      rw [ok.K]
      exact pe_notT (ckE_ok a sx X _ ok h1)
    · cases h
  | .cmp o a b, sx, X, e, ok, h => by
    rw [ckE] at h
    unfold mCmp at h
    rw [denE]
    split at h
    · rw [Bool.and_eq_true, Bool.and_eq_true, Bool.and_eq_true, decide_eq_true_eq] at h
      obtain ⟨⟨rfl, hp⟩, h1, h2⟩ := h
      rw [ok.K]
      have hu := units ok
      exact pe_cmpR (op_cmp (by omega) o) (ckE_ok a sx X _ ok h1) (ckE_ok b sx X _ ok h2) (plE_mark hp _)
    · cases h
  | .isN a, sx, X, e, ok, h => by
    rw [ckE] at h
    unfold mIsn at h
    rw [denE]
    split at h
    · rw [Bool.and_eq_true, decide_eq_true_eq] at h
      obtain ⟨rfl, h1⟩ := h
      exact pe_cmp (pc_isN (ckE_ok a sx X _ ok h1))
    · cases h
  | .isNN a, sx, X, e, ok, h => by
    rw [ckE] at h
    unfold mIsnn at h
    rw [denE]
    split at h
    · rw [Bool.and_eq_true, decide_eq_true_eq] at h
      obtain ⟨rfl, h1⟩ := h
      exact pe_cmp (pc_notN (ckE_ok a sx X _ ok h1))
    · cases h
  | .chain o p a b c, sx, X, e, ok, h => by
    rw [ckE] at h
    unfold mChain at h
    rw [denE]
    split at h
    · simp only [Bool.and_eq_true, decide_eq_true_eq] at h
      obtain ⟨⟨⟨rfl, rfl⟩, hp⟩, h1, h2, h3⟩ := h
      rw [ok.K]
      have hu := units ok
      exact pe_chain (op_cmp (by omega) o) (op_cmp (by omega) p) (ckE_ok a sx X _ ok h1) (ckE_ok b sx X _ ok h2) (ckE_ok c sx X _ ok h3) (plE_mark hp _)
    · cases h
  | .andv a b, sx, X, e, ok, h => by
    rw [ckE] at h
    unfold mAndv at h
    rw [denE]
    split at h
    · simp only [Bool.and_eq_true, decide_eq_true_eq] at h
      obtain ⟨rfl, h1, h2⟩ := h
      rw [ok.K]
      exact pe_andT (ckE_ok a sx X _ ok h1) (pe_one (ckE_ok b sx X _ ok h2))
    · simp only [Bool.and_eq_true, decide_eq_true_eq] at h
      obtain ⟨rfl, h1, h2⟩ := h
      rw [ok.K]
      exact pe_andT (ckE_ok a sx X _ ok h1) (ckE_ok b sx X _ ok h2)
    · cases h
  | .orv a b, sx, X, e, ok, h => by
    rw [ckE] at h
    unfold mOrv at h
    rw [denE]
    split at h
    · simp only [Bool.and_eq_true, decide_eq_true_eq] at h
      obtain ⟨rfl, h1, h2⟩ := h
      rw [ok.K]
      exact pe_orT (ckE_ok a sx X _ ok h1) (pe_one (ckE_ok b sx X _ ok h2))
    · simp only [Bool.and_eq_true, decide_eq_true_eq] at h
      obtain ⟨rfl, h1, h2⟩ := h
      rw [ok.K]
      exact pe_orT (ckE_ok a sx X _ ok h1) (ckE_ok b sx X _ ok h2)
    · cases h
  | .ife c a b, sx, X, e, ok, h => by
    rw [ckE] at h
    unfold mIfe at h
    rw [denE]
    split at h
    · simp only [Bool.and_eq_true] at h
      obtain ⟨h0, h1, h2⟩ := h
      exact pe_ifExp (ckC_ok c sx X _ ok h0) (ckE_ok a sx X _ ok h1) (ckE_ok b sx X _ ok h2)
    · cases h
  | .idx a b, sx, X, e, ok, h => by
    rw [ckE] at h
    unfold mIdx at h
    rw [denE]
    split at h
    · simp only [Bool.and_eq_true] at h
      obtain ⟨hp, h1, h2⟩ := h
      rw [ok.K]
      have hu := units ok
      exact pe_ix (ix_all (by omega)) (ckE_ok a sx X _ ok h1) (ckE_ok b sx X _ ok h2) (plE_ix hp)
    · cases h
  | .slc a lo hi, sx, X, e, ok, h => by
    rw [ckE] at h
    unfold mSlc at h
    rw [denE]
    split at h
    · simp only [Bool.and_eq_true] at h
      obtain ⟨h1, h2, h3⟩ := h
      rw [ok.K]
      refine pe_slice ?_ (ckE_ok a sx X _ ok h1) (ckTo_ok lo sx X _ ok h2) (ckTo_ok hi sx X _ ok h3)
      exact sl_all
    · cases h
  | .evn a lo, sx, X, e, ok, h => by
    rw [ckE] at h
    unfold mEvn at h
    rw [denE]
    split at h
    · simp only [Bool.and_eq_true, decide_eq_true_eq] at h
      obtain ⟨rfl, h1, h2⟩ := h
      rw [ok.K]
      exact pe_evn (ckE_ok a sx X _ ok h1) (ckTo_ok lo sx X _ ok h2)
    · cases h
  | .rev a, sx, X, e, ok, h => by
    rw [ckE] at h
    unfold mRev at h
    rw [denE]
    split at h
    · simp only [Bool.and_eq_true, decide_eq_true_eq] at h
      obtain ⟨⟨rfl, rfl⟩, h1⟩ := h
      rw [ok.K]
      exact pe_revL (ckE_ok a sx X _ ok h1)
    · cases h
  | .bi f a, sx, X, e, ok, h => by
    rw [ckE] at h
    unfold mBi at h
    rw [denE]
    split at h
    · split at h
      · rename_i n v hb
        simp only [Bool.and_eq_true, decide_eq_true_eq] at h
        obtain ⟨⟨⟨rfl, hf⟩, hp⟩, h1⟩ := h
        exact bi_ok ok hb hf hp (ckE_ok a sx X _ ok h1)
      · cases h
    · simp only [Bool.and_eq_true, decide_eq_true_eq] at h
      obtain ⟨⟨⟨⟨⟨⟨hi, rfl⟩, hf⟩, rfl⟩, ht⟩, hp⟩, h1⟩ := h
      exact isi_ok ok hi hf ht hp (ckE_ok a sx X _ ok h1)
    · cases h
  | .join s a, sx, X, e, ok, h => by
    rw [ckE] at h
    unfold mJoin at h
    rw [denE]
    split at h
    · simp only [Bool.and_eq_true, decide_eq_true_eq] at h
      obtain ⟨⟨⟨⟨rfl, hn⟩, hl⟩, hp⟩, h1, h2⟩ := h
      rw [ok.K]
      exact pe_join (ckE_ok s sx X _ ok h1) (ckE_ok a sx X _ ok h2) (plE_star hp _ _) (ncE_base hn _ _ _) hl
    · cases h
  | .dget d kk x, sx, X, e, ok, h => by
    rw [ckE] at h
    unfold mDget at h
    rw [denE]
    split at h
    · simp only [Bool.and_eq_true, decide_eq_true_eq] at h
      obtain ⟨⟨⟨⟨⟨rfl, hn⟩, hl⟩, hp⟩, hq⟩, h1, h2, h3⟩ := h
      have hu := units ok
      refine pe_dget2 (by omega) (ckE_ok d sx X _ ok h1) (ckE_ok kk sx X _ ok h2) (ckE_ok x sx X _ ok h3) ⟨ncE_base hn _ _ _, ?_, hl, ?_⟩
      · rw [plE_star hp, plE_star hq]
        rfl
      · rw [plE_star hp, plE_star hq]
        rfl
    · cases h
  | .zipl a b, sx, X, e, ok, h => by
    rw [ckE] at h
    unfold mZipl at h
    rw [denE]
    split at h
    · simp only [Bool.and_eq_true, decide_eq_true_eq] at h
      obtain ⟨⟨⟨⟨⟨⟨rfl, hf⟩, rfl⟩, hf2⟩, hp⟩, hq⟩, h1, h2⟩ := h
      rw [ok.K]
      obtain ⟨g1, g2⟩ := frB_ok ok hf
      obtain ⟨g3, g4⟩ := frB_ok ok hf2
      exact pe_zipl g1 g2 g3 g4 hp hq (ckE_ok a sx X _ ok h1) (ckE_ok b sx X _ ok h2) ok.calm
    · cases h
  | .gin g a, sx, X, e, ok, h => by
    rw [ckE] at h
    unfold mGin at h
    rw [denE]
    split at h
    · simp only [Bool.and_eq_true, decide_eq_true_eq] at h
      obtain ⟨⟨⟨rfl, hg⟩, hl⟩, h1⟩ := h
      obtain ⟨g1, g2⟩ := glB_ok ok hg
      obtain ⟨m1, ⟨es, n, D⟩, _⟩ := ok.tb.gd _ _ hl
      rw [ok.K]
      exact PE.imp (pe_cmpR (op_in_kd D) (ckE_ok a sx X _ ok h1) (pe_glob (v := .ref (dn.gda g)) g1 m1 rfl g2) rfl) fun σ H Q q => q
    · cases h
  | .gidx g a, sx, X, e, ok, h => by
    rw [ckE] at h
    unfold mGidx at h
    rw [denE]
    split at h
    · simp only [Bool.and_eq_true, decide_eq_true_eq] at h
      obtain ⟨⟨⟨hg, hl⟩, hp⟩, h1⟩ := h
      obtain ⟨g1, g2⟩ := glB_ok ok hg
      obtain ⟨m1, ⟨es, n, D⟩, _⟩ := ok.tb.gd _ _ hl
      rw [ok.K, ok.w]
      exact PE.imp (pe_ix ix_kdict (pe_glob (v := .ref (dn.gda g)) g1 m1 rfl g2) (ckE_ok a sx X _ ok h1) (plE_ix hp)) fun σ H Q q => q
    · cases h
  | .gdict g, sx, X, e, ok, h => by
    rw [ckE] at h
    unfold mGdict at h
    rw [denE]
    split at h
    · simp only [Bool.and_eq_true, decide_eq_true_eq] at h
      obtain ⟨⟨⟨rfl, hf⟩, hg⟩, hl⟩ := h
      obtain ⟨f1, f2⟩ := frB_ok ok hf
      obtain ⟨g1, g2⟩ := glB_ok ok hg
      obtain ⟨m1, ⟨es, n, D⟩, hz, vs, kv, hd⟩ := ok.tb.gd _ _ hl
      exact pe_gcopy f1 f2 g1 m1 g2 D.low hz kv hd
    · cases h
  | .tupd es, sx, X, e, ok, h => by
    rw [ckE] at h
    unfold mTupd at h
    rw [denE]
    split at h
    · exact pe_tup (ckA_ok es sx X _ ok h)
    · cases h
  | .lstd es, sx, X, e, ok, h => by
    rw [ckE] at h
    unfold mLstd at h
    rw [denE]
    split at h
    · exact pe_lst (ckA_ok es sx X _ ok h)
    · cases h
  | .dctd .nil, sx, X, e, ok, h => by
    rw [ckE] at h
    unfold mDctd at h
    rw [denE]
    split at h
    · simp only [Bool.and_eq_true, decide_eq_true_eq] at h
      obtain ⟨_, h⟩ := h
      rw [ckP] at h
      first | unfold mpNil at h | unfold mpCons at h
      split at h
      · exact pe_dnewK
      · cases h
    · cases h
  | .dctd (.cons a b r), sx, X, e, ok, h => by
    rw [ckE] at h
    unfold mDctd at h
    rw [denE]
    split at h
    · simp only [Bool.and_eq_true, decide_eq_true_eq] at h
      obtain ⟨hl, h⟩ := h
      rename_i ks vs pos
      rw [ckP] at h
      first | unfold mpNil at h | unfold mpCons at h
      split at h
      · rename_i x ks y vs
        simp only [Bool.and_eq_true] at h
        obtain ⟨h1, h2, h3⟩ := h
        obtain ⟨q1, q2, q3⟩ := ckP_ok r sx X _ _ pos ok h3
        refine pe_disp (pps_cons (ckE_ok a sx X _ ok h1) (ckE_ok b sx X _ ok h2) q1) ?_ ?_ (by simp) hl
        · rw [List.all_cons, q2]
          rfl
        · simp only [List.length_cons, q3]
      · cases h
    · cases h
  | .call f as, sx, X, e, ok, h => by
    rw [ckE] at h
    unfold mCall at h
    rw [denE]
    split at h
    · simp only [Bool.and_eq_true, decide_eq_true_eq] at h
      obtain ⟨⟨⟨hg, hl⟩, hp⟩, h1⟩ := h
      obtain ⟨g1, g2⟩ := glB_ok ok hg
      obtain ⟨a, m1, m2⟩ := ok.tb.fn _ _ hl
      obtain ⟨F, hk⟩ := ok.tb.fa _ _ m2
      rename_i l _
      cases l with
      | nil =>
        cases as with
        | nil =>
          rw [denA]
          exact pe_callG0 F ok.gu ok.room g1 m1 hk g2
        | cons a r => rw [ckA] at h1; cases h1
        | star a r => rw [ckA] at h1; cases h1
      | cons y l => exact pe_callG F ok.gu ok.room g1 m1 hk g2 hp (ckA_ok as sx X _ ok h1)
    · cases h
  | .callv i as, sx, X, e, ok, h => by
    rw [ckE] at h
    unfold mCallv at h
    rw [denE]
    split at h
    · simp only [Bool.and_eq_true] at h
      obtain ⟨⟨hv, hp⟩, h1⟩ := h
      exact pe_callV ok.tb.fa ok.gu ok.room (visB_ok ok hv) hp (ckA_ok as sx X _ ok h1)
    · cases h
  | .comp x tg one it c own, sx, X, e, ok, h => by
    rw [ckE] at h
    unfold mComp at h
    rw [denE]
    split at h
    · simp only [Bool.and_eq_true, decide_eq_true_eq] at h
      obtain ⟨⟨⟨⟨⟨⟨rfl, hb⟩, hp⟩, hi⟩, ht⟩, hc⟩, hx⟩ := h
      rename_i elt t iter ifs scope pos
      have B : BlkOk X.N X.env.scope scope (ownP sx own) := by
        rw [ok.N, ok.sc]
        exact blkOk_by hb
      have z := pe_lc (pos := pos) ok.calm (by rw [ok.N]; exact ok.nd) (ckI_ok it sx X t _ ok hi) B (fun s H C cl fp => ckTg_ok (ok.blk B s H C cl fp) ht) (fun s H C cl fp => ckTc_ok c _ _ _ (ok.blk B s H C cl fp) hc) (fun s H C cl fp => ckE_ok x _ _ _ (ok.blk B s H C cl fp) hx) (plE_fold hp _)
      rw [ownP_snd] at z
      exact z
    · cases h
  | .dcomp kk v tg one it own, sx, X, e, ok, h => by
    rw [ckE] at h
    unfold mDcomp at h
    rw [denE]
    split at h
    · simp only [Bool.and_eq_true, decide_eq_true_eq] at h
      obtain ⟨⟨⟨⟨⟨⟨rfl, hb⟩, hp⟩, hi⟩, ht⟩, hc⟩, hx⟩ := h
      rename_i kx vx t iter scope pos
      have B : BlkOk X.N X.env.scope scope (ownP sx own) := by
        rw [ok.N, ok.sc]
        exact blkOk_by hb
      have z := pe_dc (pos := pos) ok.calm (by rw [ok.N]; exact ok.nd) (ckI_ok it sx X t _ ok hi) B (fun s H C cl fp => ckTg_ok (ok.blk B s H C cl fp) ht) (fun s H C cl fp => pts_nil) (fun s H C cl fp => ckE_ok kk _ _ _ (ok.blk B s H C cl fp) hc) (fun s H C cl fp => ckE_ok v _ _ _ (ok.blk B s H C cl fp) hx) (plE_fold hp _)
      rw [ownP_snd] at z
      exact z
    · cases h
  | .mu m i as, sx, X, e, ok, h => by
    rw [ckE] at h
    unfold mMu at h
    rw [denE]
    split at h
    · simp only [Bool.and_eq_true, decide_eq_true_eq] at h
      obtain ⟨⟨⟨⟨rfl, hv⟩, hl⟩, hm⟩, h1⟩ := h
      rename_i x p apos l pos
      rw [ok.K]
      refine mu_ok (visB_ok ok hv) hl hm (ckA_ok as sx X _ ok h1) fun el => ?_
      subst el
      cases as with
      | nil => rw [denA]
      | cons a r => rw [ckA] at h1; cases h1
      | star a r => rw [ckA] at h1; cases h1
    · cases h
theorem ckTo_ok : ∀ (t : To) (sx : Sx) (X : Cx) (e : Option Expr), XOk tb dn k sx X → ckTo tb t sx e = true → PO X e (denTo dn t)
  | .no, sx, X, e, ok, h => by
    rw [ckTo] at h
    unfold moNo at h
    rw [denTo]
    split at h
    · exact po_none
    · cases h
  | .yes a, sx, X, e, ok, h => by
    rw [ckTo] at h
    unfold moYes at h
    rw [denTo]
    split at h
    · exact po_some (ckE_ok a sx X _ ok h)
    · cases h
theorem ckTc_ok : ∀ (t : To') (sx : Sx) (X : Cx) (e : List Expr), XOk tb dn k sx X → ckTc tb t sx e = true → PTs X e (denTc dn t)
  | .no, sx, X, e, ok, h => by
    rw [ckTc] at h
    unfold mcNo at h
    rw [denTc]
    split at h
    · exact pts_nil
    · cases h
  | .yes c, sx, X, e, ok, h => by
    rw [ckTc] at h
    unfold mcYes at h
    rw [denTc]
    split at h
    · exact pts_one (ckC_ok c sx X _ ok h)
    · cases h
theorem ckA_ok : ∀ (t : Tms) (sx : Sx) (X : Cx) (e : List Expr), XOk tb dn k sx X → ckA tb t sx e = true → PA X e (denA dn t)
  | .nil, sx, X, e, ok, h => by
    rw [ckA] at h
    unfold maNil at h
    rw [denA]
    split at h
    · exact pa_nil
    · cases h
  | .cons a r, sx, X, e, ok, h => by
    rw [ckA] at h
    unfold maCons at h
    rw [denA]
    split at h
    · simp only [Bool.and_eq_true] at h
      obtain ⟨hp, h1, h2⟩ := h
      exact pa_cons (ckE_ok a sx X _ ok h1) (ckA_ok r sx X _ ok h2) (plE_star hp _ _)
    · cases h
  | .star a r, sx, X, e, ok, h => by
    rw [ckA] at h
    unfold maStar at h
    rw [denA]
    split at h
    · simp only [Bool.and_eq_true] at h
      obtain ⟨h1, h2⟩ := h
      rw [ok.K]
      exact pa_star (ckE_ok a sx X _ ok h1) (ckA_ok r sx X _ ok h2)
    · cases h
theorem ckP_ok : ∀ (t : Tps) (sx : Sx) (X : Cx) (ks : List (Option Expr)) (vs : List Expr) (pos : Pos), XOk tb dn k sx X → ckP tb t sx ks vs = true → PPs X pos ks vs (denP dn t) ∧ ks.all (·.isSome) = true ∧ ks.length = vs.length
  | .nil, sx, X, ks, vs, pos, ok, h => by
    rw [ckP] at h
    unfold mpNil at h
    rw [denP]
    split at h
    · exact ⟨pps_nil, rfl, rfl⟩
    · cases h
  | .cons a b r, sx, X, ks, vs, pos, ok, h => by
    rw [ckP] at h
    unfold mpCons at h
    rw [denP]
    split at h
    · simp only [Bool.and_eq_true] at h
      obtain ⟨h1, h2, h3⟩ := h
      obtain ⟨q1, q2, q3⟩ := ckP_ok r sx X _ _ pos ok h3
      refine ⟨pps_cons (ckE_ok a sx X _ ok h1) (ckE_ok b sx X _ ok h2) q1, ?_, ?_⟩
      · rw [List.all_cons, q2]
        rfl
      · simp only [List.length_cons, q3]
    · cases h
theorem ckI_ok : ∀ (t : It) (sx : Sx) (X : Cx) (tg e : Expr), XOk tb dn k sx X → ckI tb t sx tg e = true → PI X tg e (denI dn t)
  | .seq a, sx, X, tg, e, ok, h => by
    rw [ckI] at h
    unfold miSeq at h
    rw [denI, ok.K]
    exact pi_seq (ckE_ok a sx X _ ok h)
  | .rng1 a, sx, X, tg, e, ok, h => by
    rw [ckI] at h
    unfold miRng1 at h
    rw [denI]
    split at h
    · simp only [Bool.and_eq_true, decide_eq_true_eq] at h
      obtain ⟨⟨⟨rfl, hf⟩, hp⟩, h1⟩ := h
      obtain ⟨g1, g2⟩ := frB_ok ok hf
      have e1 := plE_star hp [] X.env
      exact pi_range1 g1 g2 (pa_cons (ckE_ok a sx X _ ok h1) pa_nil e1) e1
    · cases h
  | .rng2 a b, sx, X, tg, e, ok, h => by
    rw [ckI] at h
    unfold miRng2 at h
    rw [denI]
    split at h
    · simp only [Bool.and_eq_true, decide_eq_true_eq] at h
      obtain ⟨⟨⟨⟨rfl, hf⟩, hp⟩, hq⟩, h1, h2⟩ := h
      obtain ⟨g1, g2⟩ := frB_ok ok hf
      rename_i y z _
      have e1 := plE_star hp [z] X.env
      have e2 := plE_star hq [] X.env
      exact pi_range2 g1 g2 (pa_cons (ckE_ok a sx X _ ok h1) (pa_cons (ckE_ok b sx X _ ok h2) pa_nil e2) e1) (by rw [e1, e2]; rfl) e2
    · cases h
  | .enum a, sx, X, tg, e, ok, h => by
    rw [ckI] at h
    unfold miEnum at h
    rw [denI]
    split at h
    · simp only [Bool.and_eq_true, decide_eq_true_eq] at h
      obtain ⟨⟨⟨⟨ht, rfl⟩, hf⟩, hp⟩, h1⟩ := h
      obtain ⟨g1, g2⟩ := frB_ok ok hf
      rw [ok.K]
      cases tg <;> first | (cases ht; done) | skip
      exact pi_enumA g1 g2 (ckE_ok a sx X _ ok h1) (plE_star hp [] X.env)
    · cases h
  | .zip a b, sx, X, tg, e, ok, h => by
    rw [ckI] at h
    unfold miZip at h
    rw [denI]
    split at h
    · simp only [Bool.and_eq_true, decide_eq_true_eq] at h
      obtain ⟨⟨⟨⟨⟨ht, rfl⟩, hf⟩, hp⟩, hq⟩, h1, h2⟩ := h
      obtain ⟨g1, g2⟩ := frB_ok ok hf
      rw [ok.K]
      cases tg <;> first | (cases ht; done) | skip
      rename_i y z _ _ _ _
      have e2 := plE_star hq [] X.env
      exact pi_zipA g1 g2 (pa_cons (ckE_ok a sx X _ ok h1) (pa_cons (ckE_ok b sx X _ ok h2) pa_nil e2) (plE_star hp _ _)) (plE_star hp _ _) (by rw [e2]; rfl)
    · cases h
theorem ckC_ok : ∀ (t : Ct) (sx : Sx) (X : Cx) (e : Expr), XOk tb dn k sx X → ckC tb t sx e = true → PT X e (denC dn t)
  | .val a, sx, X, e, ok, h => by
    rw [ckC] at h
    unfold mtVal at h
    rw [denC, ok.K]
    simp only [Bool.and_eq_true] at h
    exact pt_truth (ckE_ok a sx X _ ok h.2) fun w => trE_ok h.1 X.env w
  | .cmp a, sx, X, e, ok, h => by
    rw [ckC] at h
    unfold mtCmp at h
    rw [denC]
    exact ckQ_ok a sx X e ok h
  | .and a b, sx, X, e, ok, h => by
    rw [ckC] at h
    unfold mtAnd at h
    rw [denC]
    split at h
    · simp only [Bool.and_eq_true, decide_eq_true_eq] at h
      obtain ⟨rfl, h1, h2⟩ := h
      exact (pw_and (ckC_ok a sx X _ ok h1) (pw_and1 (ckC_ok b sx X _ ok h2))).pt
    · simp only [Bool.and_eq_true, decide_eq_true_eq] at h
      obtain ⟨rfl, h1, h2⟩ := h
      exact (pw_and (ckC_ok a sx X _ ok h1) (pt_pw (ckC_ok b sx X _ ok h2))).pt
    · cases h
  | .or a b, sx, X, e, ok, h => by
    rw [ckC] at h
    unfold mtOr at h
    rw [denC]
    split at h
    · simp only [Bool.and_eq_true, decide_eq_true_eq] at h
      obtain ⟨rfl, h1, h2⟩ := h
      exact (pw_or (ckC_ok a sx X _ ok h1) (pw_or1 (ckC_ok b sx X _ ok h2))).pt
    · simp only [Bool.and_eq_true, decide_eq_true_eq] at h
      obtain ⟨rfl, h1, h2⟩ := h
      exact (pw_or (ckC_ok a sx X _ ok h1) (pt_pw (ckC_ok b sx X _ ok h2))).pt
    · cases h
  | .not a, sx, X, e, ok, h => by
    rw [ckC] at h
    unfold mtNot at h
    rw [denC]
    split at h
    · simp only [Bool.and_eq_true, decide_eq_true_eq] at h
      obtain ⟨rfl, h1⟩ := h
      exact pt_not (ckC_ok a sx X _ ok h1)
    · cases h
theorem ckQ_ok : ∀ (t : Tm) (sx : Sx) (X : Cx) (e : Expr), XOk tb dn k sx X → ckQ tb t sx e = true → PT X e (tTest (denE dn t))
  | .cmp o a b, sx, X, e, ok, h => by
    rw [ckQ] at h
    unfold mCmp at h
    rw [denE]
    split at h
    · simp only [Bool.and_eq_true, decide_eq_true_eq] at h
      obtain ⟨⟨rfl, hp⟩, h1, h2⟩ := h
      rw [ok.K]
      have hu := units ok
      exact pt_cmpR (op_cmp (by omega) o) (ckE_ok a sx X _ ok h1) (ckE_ok b sx X _ ok h2) (plE_mark hp _)
    · cases h
  | .isN a, sx, X, e, ok, h => by
    rw [ckQ] at h
    unfold mIsn at h
    rw [denE]
    split at h
    · simp only [Bool.and_eq_true, decide_eq_true_eq] at h
      obtain ⟨rfl, h1⟩ := h
      exact pt_cmp (pc_isN (ckE_ok a sx X _ ok h1))
    · cases h
  | .isNN a, sx, X, e, ok, h => by
    rw [ckQ] at h
    unfold mIsnn at h
    rw [denE]
    split at h
    · simp only [Bool.and_eq_true, decide_eq_true_eq] at h
      obtain ⟨rfl, h1⟩ := h
      exact pt_cmp (pc_notN (ckE_ok a sx X _ ok h1))
    · cases h
  | .chain o p a b c, sx, X, e, ok, h => by
    rw [ckQ] at h
    unfold mChain at h
    rw [denE]
    split at h
    · simp only [Bool.and_eq_true, decide_eq_true_eq] at h
      obtain ⟨⟨⟨rfl, rfl⟩, hp⟩, h1, h2, h3⟩ := h
      rw [ok.K]
      have hu := units ok
      exact pt_chain (op_cmp (by omega) o) (op_cmp (by omega) p) (ckE_ok a sx X _ ok h1) (ckE_ok b sx X _ ok h2) (ckE_ok c sx X _ ok h3) (plE_mark hp _)
    · cases h
  | .gin g a, sx, X, e, ok, h => by
    rw [ckQ] at h
    unfold mGin at h
    rw [denE]
    split at h
    · simp only [Bool.and_eq_true, decide_eq_true_eq] at h
      obtain ⟨⟨⟨rfl, hg⟩, hl⟩, h1⟩ := h
      obtain ⟨g1, g2⟩ := glB_ok ok hg
      obtain ⟨m1, ⟨es, n, D⟩, _⟩ := ok.tb.gd _ _ hl
      rw [ok.K]
      exact PT.imp (pt_cmpR (op_in_kd D) (ckE_ok a sx X _ ok h1) (pe_glob (v := .ref (dn.gda g)) g1 m1 rfl g2) rfl) fun σ H Q q => q
    · cases h
  | .var _, sx, X, e, ok, h => nomatch (show false = true from h)
  | .cst _, sx, X, e, ok, h => nomatch (show false = true from h)
  | .gl _, sx, X, e, ok, h => nomatch (show false = true from h)
  | .fnv _, sx, X, e, ok, h => nomatch (show false = true from h)
  | .bin _ _ _, sx, X, e, ok, h => nomatch (show false = true from h)
  | .neg _, sx, X, e, ok, h => nomatch (show false = true from h)
  | .notv _, sx, X, e, ok, h => nomatch (show false = true from h)
  | .andv _ _, sx, X, e, ok, h => nomatch (show false = true from h)
  | .orv _ _, sx, X, e, ok, h => nomatch (show false = true from h)
  | .ife _ _ _, sx, X, e, ok, h => nomatch (show false = true from h)
  | .idx _ _, sx, X, e, ok, h => nomatch (show false = true from h)
  | .slc _ _ _, sx, X, e, ok, h => nomatch (show false = true from h)
  | .evn _ _, sx, X, e, ok, h => nomatch (show false = true from h)
  | .rev _, sx, X, e, ok, h => nomatch (show false = true from h)
  | .bi _ _, sx, X, e, ok, h => nomatch (show false = true from h)
  | .join _ _, sx, X, e, ok, h => nomatch (show false = true from h)
  | .dget _ _ _, sx, X, e, ok, h => nomatch (show false = true from h)
  | .zipl _ _, sx, X, e, ok, h => nomatch (show false = true from h)
  | .gidx _ _, sx, X, e, ok, h => nomatch (show false = true from h)
  | .gdict _, sx, X, e, ok, h => nomatch (show false = true from h)
  | .tupd _, sx, X, e, ok, h => nomatch (show false = true from h)
  | .lstd _, sx, X, e, ok, h => nomatch (show false = true from h)
  | .dctd _, sx, X, e, ok, h => nomatch (show false = true from h)
  | .call _ _, sx, X, e, ok, h => nomatch (show false = true from h)
  | .callv _ _, sx, X, e, ok, h => nomatch (show false = true from h)
  | .comp _ _ _ _ _ _, sx, X, e, ok, h => nomatch (show false = true from h)
  | .dcomp _ _ _ _ _ _, sx, X, e, ok, h => nomatch (show false = true from h)
  | .mu _ _ _, sx, X, e, ok, h => nomatch (show false = true from h)
end
end
end Ev
/-! Tr6: statements. -/
namespace Ev
open PySem PySem.Spec PyProof.Rows L2 RZ StX
/-- what is wanted may be weakened -/
def mcA (t : TA) : TA := fun σ H Q' => ∃ Q : List V → Hp → Prop, t σ H Q ∧ ∀ vs H1, Q vs H1 → Q' vs H1
theorem PA.mc {X : Cx} {es : List Expr} {t : TA} (h : PA X es t) : PA X es (mcA t) := ⟨fun pos pins s σ H Q I ⟨Q0, q, m⟩ => thn (h.run pos pins s σ H Q0 I q) fun us s' ⟨vs, H1, I1, r, z⟩ => ⟨vs, H1, I1, r, m _ _ z⟩⟩
section
variable {tb : Tb} {dn : Dn} {k : Nat}
theorem asg_ok {i : Nat} {a : Tm} {sx : Sx} {X : Cx} {x : Str} {p pos : Pos} {e : Expr} (ok : XOk tb dn k sx X) (hl : locB sx i x = true) (h : ckE tb a sx e = true) (hs : nsE e = true) : PS X (.Assign [.Name x p] e pos) (tAsg (denE dn a) (gName i)) := by
  obtain ⟨l1, l2, l3⟩ := locB_ok ok hl
  have nd : X.N.Nodup := by rw [ok.N]; exact ok.nd
  have kf : X.env.scope.kind = .function := by rw [ok.sc]; exact ok.kind
  by_cases hn : nkE e = true
  · exact ps_set nd l1 l2 (ckE_ok a sx X e ok h) (nkE_sw hn _ _ _) l3
  · cases e <;> first | (exact absurd rfl hn) | (cases hs; done) | skip
    · rename_i elt gens scope cp
      cases hsw : swB X.env.scope x p scope cp with
      | false => exact ps_set nd l1 l2 (ckE_ok a sx X _ ok h) (by rw [sw_of kf (.inl ⟨_, _, rfl⟩), hsw]) l3
      | true =>
        cases a <;> first | (exact absurd (show false = true from h) (by decide)) | skip
        rename_i y tg one it c own
        rw [ckE] at h
        unfold mComp at h
        rw [denE]
        split at h
        · rename_i heq
          cases heq
          simp only [Bool.and_eq_true, decide_eq_true_eq] at h
          obtain ⟨⟨⟨⟨⟨⟨rfl, hb⟩, hp⟩, hi⟩, ht⟩, hc⟩, hx⟩ := h
          have B : BlkOk X.N X.env.scope scope (ownP sx own) := by
            rw [ok.N, ok.sc]
            exact blkOk_by hb
          have z := ps_setLc (spos := pos) (pos := cp) (py := p) ok.calm nd l1 (swB_local hsw) (by rw [sw_of kf (.inl ⟨_, _, rfl⟩), hsw]) (ckI_ok it sx X _ _ ok hi) B (fun s H C cl fp => ckTg_ok (ok.blk B s H C cl fp) ht) (fun s H C cl fp => ckTc_ok c _ _ _ (ok.blk B s H C cl fp) hc) (fun s H C cl fp => ckE_ok y _ _ _ (ok.blk B s H C cl fp) hx) (plE_fold hp _)
          rw [ownP_snd] at z
          exact z
        · cases h
    · rename_i kx vx gens scope cp
      cases hsw : swB X.env.scope x p scope cp with
      | false => exact ps_set nd l1 l2 (ckE_ok a sx X _ ok h) (by rw [sw_of kf (.inr ⟨_, _, _, rfl⟩), hsw]) l3
      | true =>
        cases a <;> first | (exact absurd (show false = true from h) (by decide)) | skip
        rename_i kk v tg one it own
        rw [ckE] at h
        unfold mDcomp at h
        rw [denE]
        split at h
        · rename_i heq
          cases heq
          simp only [Bool.and_eq_true, decide_eq_true_eq] at h
          obtain ⟨⟨⟨⟨⟨⟨rfl, hb⟩, hp⟩, hi⟩, ht⟩, hc⟩, hx⟩ := h
          have B : BlkOk X.N X.env.scope scope (ownP sx own) := by
            rw [ok.N, ok.sc]
            exact blkOk_by hb
          have z := ps_setDc (spos := pos) (pos := cp) (py := p) ok.calm nd l1 (swB_local hsw) (by rw [sw_of kf (.inr ⟨_, _, _, rfl⟩), hsw]) (ckI_ok it sx X _ _ ok hi) B (fun s H C cl fp => ckTg_ok (ok.blk B s H C cl fp) ht) (fun s H C cl fp => pts_nil) (fun s H C cl fp => ckE_ok kk _ _ _ (ok.blk B s H C cl fp) hc) (fun s H C cl fp => ckE_ok v _ _ _ (ok.blk B s H C cl fp) hx) (plE_fold hp _)
          rw [ownP_snd] at z
          exact z
        · cases h
theorem sub_sw {e o i : Expr} {p : Pos} {l : Nat} {env : Env} : swapsWith e (some (.Subscript o i p)) l env = pure false := by cases e <;> rfl
theorem sole_sw {t e : Expr} {l : Nat} {env : Env} (h : nkE e = true) : swapsWithSole [t] e l env = pure false := nkE_sw h (some t) l env
theorem notTup_sw {ts : List Expr} {kk : Nat} {p : Pos} {e : Expr} {env : Env} (h : isTup e = false) : swappedStores [.Tuple ts kk p] e env = pure none := by cases e <;> first | rfl | cases h
theorem ckNs_two {sx : Sx} {is : List Nat} {x y : Str} {px py : Pos} (h : ckNs sx is [.Name x px, .Name y py] = true) : ∃ i j, is = [i, j] ∧ locB sx i x = true ∧ locB sx j y = true := by
  match is, h with
  | [], h => exact absurd (show false = true from h) (by decide)
  | [i], h =>
    have h : (locB sx i x && false) = true := h
    rw [Bool.and_false] at h
    cases h
  | [i, j], h =>
    have h : (locB sx i x && (locB sx j y && true)) = true := h
    simp only [Bool.and_eq_true] at h
    exact ⟨i, j, rfl, h.1, h.2.1⟩
  | i :: j :: l :: r, h =>
    have h : (locB sx i x && (locB sx j y && false)) = true := h
    simp only [Bool.and_false] at h
    cases h
theorem ckNs_three {sx : Sx} {is : List Nat} {x y z : Str} {px py pz : Pos} (h : ckNs sx is [.Name x px, .Name y py, .Name z pz] = true) : ∃ i j l, is = [i, j, l] ∧ locB sx i x = true ∧ locB sx j y = true ∧ locB sx l z = true := by
  match is, h with
  | [], h => exact absurd (show false = true from h) (by decide)
  | i :: r, h =>
    have h : (locB sx i x && ckNs sx r [.Name y py, .Name z pz]) = true := h
    rw [Bool.and_eq_true] at h
    obtain ⟨j, l, rfl, h1, h2⟩ := ckNs_two h.2
    exact ⟨i, j, l, rfl, h.1, h1, h2⟩
theorem sw2_true {sc : Scope} {x y : Str} {px py : Pos} {a b : Expr} (h : sw2 sc x y px py a b = some true) : lcB sc x = true ∧ lcB sc y = true ∧ x ≠ y := by
  unfold sw2 at h
  split at h
  · rename_i h1
    split at h
    · rename_i h2
      simp only [Bool.and_eq_true, decide_eq_true_eq] at h1 h2
      exact ⟨h1.1, h1.2.1, h2.1.1.1⟩
    · cases h
  · cases h
theorem sw3_true {sc : Scope} {x y z : Str} {px py pz : Pos} {a b c : Expr} (h : sw3 sc x y z px py pz a b c = some true) : lcB sc x = true ∧ lcB sc y = true ∧ lcB sc z = true ∧ x ≠ y ∧ x ≠ z ∧ y ≠ z := by
  unfold sw3 at h
  split at h
  · rename_i h1
    split at h
    · rename_i h2
      simp only [Bool.and_eq_true, decide_eq_true_eq] at h1 h2
      exact ⟨h1.1.1, h1.1.2.1, h1.2.1, h2.1.1.1.1.1, h2.1.1.1.1.2, h2.1.1.1.2⟩
    · cases h
  · cases h
theorem idx_ne {N : List Str} {i j : Nat} {x y : Str} (h1 : N[i]? = some x) (h2 : N[j]? = some y) (h : x ≠ y) : i ≠ j := fun e => by
  subst e
  rw [h1] at h2
  cases h2
  exact h rfl
theorem par_asg {X : Cx} {is : List Nat} {ts es : List Expr} {ta : TA} {kt k2 : Nat} {pt p2 pos : Pos} (hc : X.calm = true) (ha : PA X es ta) (hg : PGs X ts (gNames is)) (hn : (assignEach ts X.env).length = is.length) (hst : (assignEach ts X.env).findIdx? (·.1) = none)
    (hw : swappedStores [.Tuple ts kt pt] (.Tuple es k2 p2) X.env = pure none) : PS X (.Assign [.Tuple ts kt pt] (.Tuple es k2 p2) pos) (tPars is ta) := by
  refine PS.imp (ps_asg (pe_tup (PA.mc ha)) (pg_tup hc hg hn hst) rfl hw rfl) fun D σ H h => ?_
  refine ⟨_, h, fun vs H1 ⟨q1, q2, q3, q4⟩ => ⟨q2, fun p hp => ⟨p, vs, rfl, SqT.of upd_same, q1, q4 p hp⟩⟩⟩
theorem par_ok {is : List Nat} {es : Tms} {sx : Sx} {X : Cx} {s : Stmt} (ok : XOk tb dn k sx X) (h : msPar is (ckA tb es) sx s = true) : PS X s (tPars is (denA dn es)) := by
  have nd : X.N.Nodup := by rw [ok.N]; exact ok.nd
  have kf : X.env.scope.kind = .function := by rw [ok.sc]; exact ok.kind
  unfold msPar at h
  split at h
  · rename_i x px y py kt pt a b k2 p2 pos
    simp only [Bool.and_eq_true] at h
    obtain ⟨⟨h1, h2⟩, h3⟩ := h
    have ha := ckA_ok es sx X _ ok h3
    obtain ⟨r, hr⟩ := Option.isSome_iff_exists.mp h2
    have hw := sw2_ok (X := X) (pt := pt) (pt2 := p2) (kt := kt) (k2 := k2) kf (by rw [ok.sc]; exact hr)
    cases r with
    | false =>
      obtain ⟨q1, q2, q3⟩ := pgs_names ok h1
      exact par_asg ok.calm ha q1 q2 q3 hw
    | true =>
      obtain ⟨i, j, rfl, g1, g2⟩ := ckNs_two h1
      obtain ⟨c1, c2, c3⟩ := sw2_true hr
      obtain ⟨n1, _, _⟩ := locB_ok ok g1
      obtain ⟨n2, _, _⟩ := locB_ok ok g2
      have lx := lcB_ok c1
      have ly := lcB_ok c2
      rw [← ok.sc] at lx ly
      refine PS.imp (ps_par ok.calm nd n1 n2 (idx_ne n1 n2 c3) lx ly (PA.mc ha) hw rfl) fun D σ H h => ?_
      refine ⟨_, h, fun vs H1 ⟨q1, q2, ⟨v, r, e1, w, r2, e2, e3, q3⟩, q4⟩ => ?_⟩
      subst e1 e2 e3
      exact ⟨v, w, rfl, q3⟩
  · rename_i x px y py z pz kt pt a b c k2 p2 pos
    simp only [Bool.and_eq_true] at h
    obtain ⟨⟨h1, h2⟩, h3⟩ := h
    have ha := ckA_ok es sx X _ ok h3
    obtain ⟨r, hr⟩ := Option.isSome_iff_exists.mp h2
    have hw := sw3_ok (X := X) (pt := pt) (pt2 := p2) (kt := kt) (k2 := k2) kf (by rw [ok.sc]; exact hr)
    cases r with
    | false =>
      obtain ⟨q1, q2, q3⟩ := pgs_names ok h1
      exact par_asg ok.calm ha q1 q2 q3 hw
    | true =>
      obtain ⟨i, j, l, rfl, g1, g2, g3⟩ := ckNs_three h1
      obtain ⟨c1, c2, c3, c4, c5, c6⟩ := sw3_true hr
      obtain ⟨n1, _, _⟩ := locB_ok ok g1
      obtain ⟨n2, _, _⟩ := locB_ok ok g2
      obtain ⟨n3, _, _⟩ := locB_ok ok g3
      have lx := lcB_ok c1
      have ly := lcB_ok c2
      have lz := lcB_ok c3
      rw [← ok.sc] at lx ly lz
      refine PS.imp (ps_par3 ok.calm nd n1 n2 n3 (idx_ne n1 n2 c4) (idx_ne n1 n3 c5) (idx_ne n2 n3 c6) lx ly lz (PA.mc ha) hw rfl) fun D σ H h => ?_
      refine ⟨_, h, fun vs H1 ⟨q1, q2, ⟨v, r, e1, w, r2, e2, u, r3, e3, e4, q3⟩, q4⟩ => ?_⟩
      subst e1 e2 e3 e4
      exact ⟨v, w, u, rfl, q3⟩
  · cases h
mutual
theorem ckS_ok : ∀ (t : Sm) (sx : Sx) (X : Cx) (s : Stmt), XOk tb dn k sx X → ckS tb t sx s = true → PS X s (denS dn t)
  | .asg i a, sx, X, s, ok, h => by
    rw [ckS] at h
    unfold msAsg at h
    rw [denS]
    split at h
    · rw [Bool.and_eq_true, Bool.and_eq_true] at h
      exact asg_ok ok h.1.1 h.1.2 h.2
    · cases h
  | .unp is a, sx, X, s, ok, h => by
    rw [ckS] at h
    unfold msUnp at h
    rw [denS]
    split at h
    · simp only [Bool.and_eq_true, Bool.not_eq_true'] at h
      obtain ⟨⟨⟨h1, h2⟩, h3⟩, h4⟩ := h
      obtain ⟨q1, q2, q3⟩ := pgs_names ok h1
      rw [ok.K]
      exact ps_asg (ckE_ok a sx X _ ok h4) (pg_tup ok.calm q1 q2 q3) (sole_sw h2) (notTup_sw h3) rfl
    · cases h
  | .par is es, sx, X, s, ok, h => by
    rw [ckS] at h
    rw [denS]
    exact par_ok ok h
  | .setk i a v, sx, X, s, ok, h => by
    rw [ckS] at h
    unfold msSetk at h
    rw [denS]
    split at h
    · simp only [Bool.and_eq_true] at h
      obtain ⟨⟨h1, h3⟩, h4⟩ := h
      have hu := units ok
      exact ps_dput (by omega) (visB_ok ok h1) (ckE_ok a sx X _ ok h3) (ckE_ok v sx X _ ok h4) sub_sw
    · cases h
  | .aug i a, sx, X, s, ok, h => by
    rw [ckS] at h
    unfold msAug at h
    rw [denS]
    split at h
    · simp only [Bool.and_eq_true, decide_eq_true_eq] at h
      obtain ⟨⟨h1, rfl⟩, h2⟩ := h
      obtain ⟨l1, l2, l3⟩ := locB_ok ok h1
      exact ps_aug (by rw [ok.N]; exact ok.nd) l1 l2 (ckE_ok a sx X _ ok h2) ip_add l3
    · cases h
  | .ifs c a b, sx, X, s, ok, h => by
    rw [ckS] at h
    unfold msIfs at h
    rw [denS]
    split at h
    · simp only [Bool.and_eq_true] at h
      obtain ⟨⟨h1, h2⟩, h3⟩ := h
      exact ps_if (ckC_ok c sx X _ ok h1) (ckSs_ok a sx X _ ok h2) (ckSs_ok b sx X _ ok h3)
    · cases h
  | .fors tg one it b, sx, X, s, ok, h => by
    rw [ckS] at h
    unfold msFors at h
    rw [denS]
    split at h
    · simp only [Bool.and_eq_true] at h
      obtain ⟨⟨⟨h1, h2⟩, h3⟩, h4⟩ := h
      exact ps_for (by rw [ok.xe]; exact PassesOwn.never) ok.calm (ckI_ok it sx X _ _ ok h2) (ckTg_ok ok h3) (ckSs_ok b sx X _ ok h4) (plE_fold h1 _)
    · cases h
  | .whiles c b, sx, X, s, ok, h => by
    rw [ckS] at h
    unfold msWhiles at h
    rw [denS]
    split at h
    · simp only [Bool.and_eq_true] at h
      obtain ⟨h1, h2⟩ := h
      exact ps_while (by rw [ok.xe]; exact PassesOwn.never) (ckC_ok c sx X _ ok h1) (ckSs_ok b sx X _ ok h2)
    · cases h
  | .ret a, sx, X, s, ok, h => by
    rw [ckS] at h
    unfold msRet at h
    rw [denS]
    split at h
    · exact ps_ret (ckE_ok a sx X _ ok h)
    · cases h
  | .retn, sx, X, s, ok, h => by
    rw [ckS] at h
    unfold msRetn at h
    rw [denS]
    split at h
    · exact ps_retN
    · cases h
  | .expr a, sx, X, s, ok, h => by
    rw [ckS] at h
    unfold msExpr at h
    rw [denS]
    split at h
    · simp only [Bool.and_eq_true] at h
      exact ps_expr (ckE_ok a sx X _ ok h.2) (nkE_sw h.1 _ _ _)
    · cases h
  | .pass, sx, X, s, ok, h => by
    rw [ckS] at h
    unfold msPass at h
    rw [denS]
    split at h
    · exact ps_pass
    · exact ps_doc
    · cases h
  | .brk, sx, X, s, ok, h => by
    rw [ckS] at h
    unfold msBrk at h
    rw [denS]
    split at h
    · exact ps_break
    · cases h
  | .cont, sx, X, s, ok, h => by
    rw [ckS] at h
    unfold msCont at h
    rw [denS]
    split at h
    · exact ps_continue
    · cases h
  | .rais _ _, sx, X, s, ok, h => by
    rw [denS]
    exact ps_never
theorem ckSs_ok : ∀ (t : Sms) (sx : Sx) (X : Cx) (s : List Stmt), XOk tb dn k sx X → ckSs tb t sx s = true → PSs X s (denSs dn t)
  | .nil, sx, X, s, ok, h => by
    rw [ckSs] at h
    unfold mlNil at h
    rw [denSs]
    split at h
    · exact pss_nil
    · cases h
  | .cons a r, sx, X, s, ok, h => by
    rw [ckSs] at h
    unfold mlCons at h
    rw [denSs]
    split at h
    · simp only [Bool.and_eq_true] at h
      exact pss_cons (ckS_ok a sx X _ ok h.1) (ckSs_ok r sx X _ ok h.2)
    · cases h
end
end
end Ev
/-! Tr7: a def keeps what the evaluator says, at every level. -/
namespace Ev
open PySem PySem.Spec PyProof.Rows L2 RZ StX
structure Df where
  d : Fd
  N : List Str
  ps : List Str
  nm : Str
  params : Arguments
  body : List Stmt
  scope : Scope
/-- how a def's arguments are bound: all are given; or those behind the last but one in a tuple -/
def Df.Binds (x : Df) : Prop := ∀ (kV doc pm : Value) (an : Option Addr) (cdv ct : Value), match x.d.star with
  | false => ∀ us : List Value, us.length = x.ps.length → bindArgs (PySem.W.fnOf x.nm x.nm x.params x.body x.scope .none kV doc pm an cdv ct) ⟨us, []⟩ = pure (x.ps.zip us)
  | true => ∃ (qs : List Str) (pv : Str), x.ps = qs ++ [pv] ∧ ∀ us rest : List Value, us.length = qs.length → bindArgs (PySem.W.fnOf x.nm x.nm x.params x.body x.scope .none kV doc pm an cdv ct) ⟨us ++ rest, []⟩ = (newTuple rest >>= fun t => pure (qs.zip us ++ [(pv, t)]))
structure DfOk (tb : Tb) (x : Df) : Prop where
  sc : FnScope x.N x.ps x.scope
  ln : x.N.length = x.d.nn
  lp : x.ps.length = x.d.np
  kp : x.d.keep ≤ x.d.np
  ck : ckSs tb x.d.body ⟨x.N, x.scope, x.scope⟩ x.body = true
  bd : x.Binds
section
variable {tb : Tb} {dn : Dn} {pg : Pg} {cf : Nat → List Rv → COut} {wf k : Nat} {P : Program} {w : World} {K : PySem.W.Frag} {mg : Str → Option Value} {base : Heap}
theorem cx_ok {x : Df} (D : DfOk tb x) (T : TbOk tb dn P w K mg base k) (hK : dn.g.K = K) (hw : dn.w = w) {A : Around} {outer : List Env} {s : Shared} {H : Hp} {f : Addr} {cd : Value} (hg : A.guards = some []) (hr : Room k (A.deeper (envOfC x.nm x.scope s.heap.objs.size f cd))) :
    XOk tb dn k ⟨x.N, x.scope, x.scope⟩ ((cxOf CX0 P w K mg base x.N x.nm x.scope f cd A outer s H E0).nox) :=
  ⟨T, hK, hw, rfl, D.sc.nd, rfl, D.sc.kind, rfl, hr, hg, rfl, fun _ _ => rfl⟩
theorem np_le {x : Df} (D : DfOk tb x) : x.d.np ≤ x.d.nn := by
  have h := congrArg List.length D.sc.pre
  rw [List.length_take, D.lp, D.ln] at h
  omega
theorem def_ok (gok : Gok pg dn) (hsp : ∀ f, dn.sp f = spOf dn.g cf pg.keeps f) {x : Df} (D : DfOk tb x) (T : TbOk tb dn P w K mg base k) (hK : dn.g.K = K) (hw : dn.w = w) (hok : okSs dn.g.fa x.d.body) {f : Addr} {fd : FuncData} (F : FunD K x.nm x.nm x.params x.body x.scope [] [] f fd) {i : Nat} (hkp : pg.keeps i = x.d.keep)
    {cf' : Nat → List Rv → COut} (hcf : ∀ rs r outs, cf' i rs = .ok r outs → (packR x.d.star x.d.np rs).length = x.d.np ∧ rs.length ≤ sizeLine ∧ starOk x.d rs = true ∧ ∃ fl e, exSs pg cf x.d.keep wf x.d.body ((packR x.d.star x.d.np rs).map some ++ List.replicate (x.d.nn - x.d.np) none) = .ok fl e ∧ (fl = .ret r ∨ (fl = .nx ∧ r = fz .non)) ∧ outs = e.take x.d.np) :
    FnG P w K mg base (k + 1) f (spOf dn.g cf' pg.keeps i) := by
  intro A outer s H us vs Q hg hr e0 rv h
  obtain ⟨Fz, rs, r, outs, AO, hc, back⟩ := h
  obtain ⟨hl, hz, hso, fl, e, hx, hfl, rfl⟩ := hcf rs r outs hc
  obtain ⟨oc, od, dV, kV, doc, pm, an, cdv, ct, osl, rfl, lk, hcd, hD, hKw⟩ := F.ex
  have eD : dV = .none := by
    rcases hD with ⟨_, e⟩ | ⟨z, _⟩
    · exact e
    · exact absurd rfl z
  subst eD
  rw [hkp] at back
  have bd := D.bd kV doc pm an cdv ct
  -- the body, from its bound arguments
  have body : ∀ (s2 : Shared) (H2 : Hp) (ws : List V) (ps : List Rv) (Fz2 : Addr → Prop), ArgsOk dn.g Fz2 H2 ps ws → ps.length = x.d.np → exSs pg cf x.d.keep wf x.d.body (ps.map some ++ List.replicate (x.d.nn - x.d.np) none) = .ok fl e → Back dn.g x.d.keep Fz2 H2 ps ws r (e.take x.d.np) Q → Room k (A.deeper (envOfC x.nm x.scope s2.heap.objs.size f cdv)) →
      ∃ t, PSs (cxOf CX0 P w K mg base x.N x.nm x.scope f cdv A outer s2 H2 E0) x.body t ∧ t { nx := fun _ H' => Q .non H', rt := Q } (L2.start x.N ws) H2 := by
    intro s2 H2 ws ps Fz2 AO2 hl2 hx2 bk hr2
    refine ⟨denSs dn x.d.body, PSs.nox (ckSs_ok x.d.body _ _ _ (cx_ok D T hK hw hg hr2) D.ck), ?_⟩
    exact body_ok gok hsp D.ln (np_le D) D.kp hok AO2 hl2 hx2 hfl bk
  cases hs : x.d.star with
  | false =>
    rw [hs] at bd hl hx
    have hp : packR false x.d.np rs = rs := rfl
    rw [hp] at hl hx
    have hvl : vs.length = x.ps.length := by rw [← AO.len, hl, D.lp]
    refine run_bnd (G := fun ws H2 => ws = vs ∧ H2 = H) lk hcd D.sc hr e0 (fun A' Ex Q' hq => ?_) fun s2 H2 ws ⟨e1, e2⟩ hr2 => ?_
    · refine wpAny_of_eq (bd us (by rw [← rv.length]; exact hvl)) ?_
      exact hq s H vs us e0 Un.refl rfl (fun _ _ z => z) rv hvl ⟨rfl, rfl⟩
    · subst e1 e2
      exact body s2 H2 ws rs Fz AO hl hx back hr2
  | true =>
    rw [hs] at bd hl hx
    obtain ⟨qs, pv, eps, hb⟩ := bd
    unfold starOk at hso
    rw [hs] at hso
    simp only [Bool.not_true, Bool.false_or, Bool.and_eq_true, decide_eq_true_eq] at hso
    obtain ⟨hfr, hkn⟩ := hso
    have hlp := D.lp
    rw [eps, List.length_append, List.length_singleton] at hlp
    have hql : qs.length = x.d.np - 1 := by omega
    have hp : packR true x.d.np rs = rs.take (x.d.np - 1) ++ [fz (.tup ((rs.drop (x.d.np - 1)).map (·.2)))] := rfl
    have hrl : x.d.np - 1 ≤ rs.length := by
      rw [hp, List.length_append, List.length_take, List.length_singleton] at hl
      omega
    have hvl := AO.len
    have hS := D.sc
    rw [eps] at hS
    have ev : vs = vs.take (x.d.np - 1) ++ vs.drop (x.d.np - 1) := (List.take_append_drop _ _).symm
    rw [ev] at rv
    obtain ⟨u1, u2, eu, r1, r2⟩ := vals_split rv
    subst eu
    have l1 := r1.length
    have l2 := r2.length
    rw [List.length_take] at l1
    rw [List.length_drop] at l2
    have hn : H s.heap.objs.size = Option.none := e0.hok.fresh (Nat.le_refl _)
    have hrz : (vs.drop (x.d.np - 1)).length ≤ sizeLine := by rw [List.length_drop]; omega
    refine run_bnd (ps := qs ++ [pv]) (G := fun ws H2 => ∃ p, H p = Option.none ∧ ws = vs.take (x.d.np - 1) ++ [V.ref p] ∧ H2 = upd H p (.tup (vs.drop (x.d.np - 1)))) lk hcd hS hr e0 (fun A' Ex Q' hq => ?_) fun s2 H2 ws ⟨p, hpn, e1, e2⟩ hr2 => ?_
    · rw [hb u1 u2 (by omega)]
      refine wpAny_bind (wpAny_newTuple (wpAny_pure ?_) (by omega))
      have new : ObjOk P w (upd H s.heap.objs.size (.tup (vs.drop (x.d.np - 1)))) (s.heap.push ({ cls := .type "tuple", data := .seq u2.toArray } : Obj)) s.heap.objs.size (.tup (vs.drop (x.d.np - 1))) := ⟨hrz, u2, r2, ⟨_, Heap.get?_push_size _ rfl, rfl, _, rfl⟩⟩
      have un := un_laid (fs := frs outer) (s := s) (o := ({ cls := .type "tuple", data := .seq u2.toArray } : Obj)) (u := .tup (vs.drop (x.d.np - 1))) hn
      have z := hq _ _ (vs.take (x.d.np - 1) ++ [V.ref s.heap.objs.size]) (u1 ++ [Value.ref s.heap.objs.size]) (env0_laid e0 new) un rfl (fun e s' z => z.elim) (r1.append (.cons rfl .nil)) (by rw [List.length_append, List.length_append, List.length_take, hql]; simp; omega) ⟨_, hn, rfl, rfl⟩
      rw [List.zip_append (by omega)] at z
      exact z
    · subst e1 e2
      have nw : New H (upd H p (.tup (vs.drop (x.d.np - 1)))) := New.upd hpn
      -- the items beside their values
      have pre : ∀ (i : Nat) (rr : Rv) (v : V), i < x.d.np - 1 → (packR true x.d.np rs)[i]? = some rr → (vs.take (x.d.np - 1) ++ [V.ref p])[i]? = some v → rs[i]? = some rr ∧ vs[i]? = some v := by
        intro i rr v hi h1 h2
        rw [hp, List.getElem?_append_left (by rw [List.length_take]; omega), List.getElem?_take_of_lt hi] at h1
        rw [List.getElem?_append_left (by rw [List.length_take]; omega), List.getElem?_take_of_lt hi] at h2
        exact ⟨h1, h2⟩
      have lst : ∀ (i : Nat) (rr : Rv), ¬ i < x.d.np - 1 → (packR true x.d.np rs)[i]? = some rr → i = x.d.np - 1 ∧ rr = fz (.tup ((rs.drop (x.d.np - 1)).map (·.2))) := by
        intro i rr hi h1
        rw [hp, List.getElem?_append_right (by rw [List.length_take]; omega), List.length_take] at h1
        have hm : min (x.d.np - 1) rs.length = x.d.np - 1 := by omega
        rw [hm] at h1
        cases hj : i - (x.d.np - 1) with
        | zero =>
          rw [hj] at h1
          cases h1
          exact ⟨by omega, rfl⟩
        | succ j =>
          rw [hj] at h1
          simp at h1
      have tl : ∀ (rt : List Rv) (vt : List V), rt.length = vt.length → (∀ (i : Nat) rr v, rt[i]? = some rr → vt[i]? = some v → Sl dn.g Fz H rr v) → rt.all (fun r => !r.1) = true → FrL dn.g Fz H (rt.map (·.2)) vt := by
        intro rt
        induction rt with
        | nil =>
          intro vt h1 _ _
          cases vt with
          | nil => exact FrL.nil
          | cons _ _ => simp at h1
        | cons rr rt ih =>
          intro vt h1 h2 h3
          cases vt with
          | nil => simp at h1
          | cons v vt =>
            rw [List.all_cons, Bool.and_eq_true] at h3
            obtain ⟨o, dd⟩ := rr
            have ho : o = false := by simpa using h3.1
            subst ho
            exact FrL.cons (sl_fz.mp (h2 0 _ _ rfl rfl)) (ih vt (by simpa using h1) (fun i r' v' e1 e2 => h2 (i + 1) r' v' (by simpa using e1) (by simpa using e2)) h3.2)
      have ft := tl (rs.drop (x.d.np - 1)) (vs.drop (x.d.np - 1)) (by rw [List.length_drop, List.length_drop, hvl]) (fun i rr v h1 h2 => AO.item _ rr v (by rw [List.getElem?_drop] at h1; exact h1) (by rw [List.getElem?_drop] at h2; exact h2)) hfr
      have own : ∀ a, OwnArg (packR true x.d.np rs) (vs.take (x.d.np - 1) ++ [V.ref p]) a → OwnArg rs vs a := by
        rintro a ⟨i, dd, h1, h2⟩
        by_cases hi : i < x.d.np - 1
        · obtain ⟨q1, q2⟩ := pre i _ _ hi h1 h2
          exact ⟨i, dd, q1, q2⟩
        · obtain ⟨_, q⟩ := lst i _ hi h1
          cases q
      have slN : ∀ {rr : Rv} {v : V}, Sl dn.g Fz H rr v → Sl dn.g Fz (upd H p (.tup (vs.drop (x.d.np - 1)))) rr v := by
        intro rr v h
        obtain ⟨o, dd⟩ := rr
        cases o with
        | false => exact sl_fz.mpr ((sl_fz.mp h).new nw)
        | true =>
          have o1 := sl_ow.mp h
          obtain ⟨a, ea, nf, _⟩ := o1.at
          subst ea
          exact sl_ow.mpr (o1.ext (W := fun _ => False) nw.ext (fun _ z => z.elim) (fun z => z) nf)
      have AO2 : ArgsOk dn.g Fz (upd H p (.tup (vs.drop (x.d.np - 1)))) (packR true x.d.np rs) (vs.take (x.d.np - 1) ++ [V.ref p]) := by
        refine ⟨by rw [hp, List.length_append, List.length_append, List.length_take, List.length_take, hvl]; rfl, fun i rr v h1 h2 => ?_, fun i j dd dd' a h1 h2 h3 h4 => ?_, fun a fa z => AO.trk a fa (nw.none z)⟩
        · by_cases hi : i < x.d.np - 1
          · obtain ⟨q1, q2⟩ := pre i _ _ hi h1 h2
            exact slN (AO.item i _ _ q1 q2)
          · obtain ⟨ei, q⟩ := lst i _ hi h1
            subst q
            have hm : min (x.d.np - 1) vs.length = x.d.np - 1 := by omega
            rw [ei, List.getElem?_append_right (by rw [List.length_take]; omega), List.length_take, hm, Nat.sub_self] at h2
            cases h2
            exact sl_fz.mpr (fr_tup upd_same (ft.new nw))
        · have gi : i < x.d.np - 1 := by
            by_cases hi : i < x.d.np - 1
            · exact hi
            · obtain ⟨_, q⟩ := lst i _ hi h1
              cases q
          have gj : j < x.d.np - 1 := by
            by_cases hj : j < x.d.np - 1
            · exact hj
            · obtain ⟨_, q⟩ := lst j _ hj h2
              cases q
          obtain ⟨q1, q3⟩ := pre i _ _ gi h1 h3
          obtain ⟨q2, q4⟩ := pre j _ _ gj h2 h4
          exact AO.inj i j dd dd' a q1 q2 q3 q4
      refine body s2 _ _ (packR true x.d.np rs) Fz AO2 hl hx (fun F' H' v ext tk sl fr ou => ?_) hr2
      refine back F' H' v (nw.ext.trans ext fun a h => .inl (own a h)) tk sl (fun z => ?_) fun j dd a hj h1 h2 => ?_
      · obtain ⟨a, ea, h⟩ := fr z
        refine ⟨a, ea, ?_⟩
        rcases h with h | ⟨j, dd, h1, h2, h3⟩
        · exact .inl (nw.none h)
        · by_cases hj : j < x.d.np - 1
          · obtain ⟨q1, q2⟩ := pre j _ _ hj h2 h3
            exact .inr ⟨j, dd, h1, q1, q2⟩
          · obtain ⟨_, q⟩ := lst j _ hj h2
            cases q
      · have hj2 : j < x.d.np - 1 := by omega
        refine ou j dd a hj ?_ ?_
        · rw [hp, List.getElem?_append_left (by rw [List.length_take]; omega), List.getElem?_take_of_lt hj2]
          exact h1
        · rw [List.getElem?_append_left (by rw [List.length_take]; omega), List.getElem?_take_of_lt hj2]
          exact h2
end
end Ev
/-! Tr8: all levels; the law's own call. -/
namespace Ev
open PySem PySem.Spec PyProof.Rows L2 RZ StX
theorem callF_ok {pg : Pg} {ft : Nat → Option Fd} {wf k f : Nat} {rs : List Rv} {r : Rv} {outs : List Slot} {d : Fd} (hd : ft f = some d) (h : callF pg ft wf (k + 1) f rs = .ok r outs) :
    (packR d.star d.np rs).length = d.np ∧ rs.length ≤ sizeLine ∧ starOk d rs = true ∧ ∃ fl e, exSs pg (callF pg ft wf k) d.keep wf d.body ((packR d.star d.np rs).map some ++ List.replicate (d.nn - d.np) none) = .ok fl e ∧ (fl = .ret r ∨ (fl = .nx ∧ r = fz .non)) ∧ outs = e.take d.np := by
  rw [callF, hd] at h
  simp only at h
  split at h
  · rename_i c
    refine ⟨c.1, c.2.1, c.2.2, ?_⟩
    split at h
    · rename_i r' e hx
      cases h
      exact ⟨_, _, hx, .inl rfl, rfl⟩
    · rename_i e hx
      cases h
      exact ⟨_, _, hx, .inr ⟨rfl, rfl⟩, rfl⟩
    · cases h
    · cases h
    · cases h
  · cases h
/-- what is known of the module behind its top -/
structure Su (tb : Tb) (pg : Pg) (dfs : Nat → Option Df) (dn : Dn) (P : Program) (w : World) (K : PySem.W.Frag) (mg : Str → Option Value) : Prop where
  hK : dn.g.K = K
  hw : dn.w = w
  gok : Gok pg dn
  fa : ∀ i a, dn.g.fa i = some a → PySem.W.keepIn K (.ref a) = true ∧ ∀ x, dfs i = some x → ∃ fd, FunD K x.nm x.nm x.params x.body x.scope [] [] a fd
  df : ∀ i x, dfs i = some x → DfOk tb x ∧ okSs dn.g.fa x.d.body ∧ pg.keeps i = x.d.keep
  fn : ∀ x i, tb.fns.lookup x = some i → ∃ a, mg x = some (.ref a) ∧ dn.g.fa i = some a
  gc : ∀ x i, tb.gcs.lookup x = some i → ∃ u, mg x = some u ∧ RelV (dn.gcv i) u
  gd : ∀ x i, tb.gds.lookup x = some i → mg x = some (.ref (dn.gda i)) ∧ (∃ es n, KDict K w (dn.gda i) es n) ∧ (dn.gdw i).length ≤ sizeLine ∧ ∃ vs, KV (dn.gdw i) vs ∧ ∀ h : Heap, K.In h → h.DictOf (mixKind P w) (dn.gda i) vs
  cl : ∀ c f i, tb.cls.lookup (c, f) = some i → ∃ a mc u, mg c = some (.ref a) ∧ ClX.CRead K a mc ∧ ClX.CVal K a mc f (dn.gcv i) u
  free : ∀ x, x ∈ tb.free → mg x = none
section
variable {tb : Tb} {pg : Pg} {dfs : Nat → Option Df} {dn : Dn} {P : Program} {w : World} {K : PySem.W.Frag} {mg : Str → Option Value}
def ftOf (dfs : Nat → Option Df) : Nat → Option Fd := fun i => (dfs i).map (·.d)
theorem levels (S : Su tb pg dfs dn P w K mg) (wf : Nat) (base : Heap) : ∀ (k i : Nat) (a : Addr), dn.g.fa i = some a → FnG P w K mg base k a (spOf dn.g (callF pg (ftOf dfs) wf k) pg.keeps i)
  | 0, i, a, h => by
    intro A outer s H us vs Q _ _ _ _ hs
    obtain ⟨F, rs, r, outs, _, hc, _⟩ := hs
    rw [callF] at hc
    cases hc
  | k + 1, i, a, h => by
    cases hx : dfs i with
    | none =>
      intro A outer s H us vs Q _ _ _ _ hs
      obtain ⟨F, rs, r, outs, _, hc, _⟩ := hs
      rw [callF] at hc
      unfold ftOf at hc
      rw [hx] at hc
      cases hc
    | some x =>
    obtain ⟨fd, F⟩ := (S.fa i a h).2 x hx
    obtain ⟨D, hok, hkp⟩ := S.df i x hx
    have T : TbOk tb { dn with sp := fun j => spOf dn.g (callF pg (ftOf dfs) wf k) pg.keeps j } P w K mg base k := ⟨S.fn, fun j b hb => ⟨levels S wf base k j b hb, (S.fa j b hb).1⟩, S.gc, S.gd, S.cl, S.free⟩
    have gok : Gok pg { dn with sp := fun j => spOf dn.g (callF pg (ftOf dfs) wf k) pg.keeps j } := ⟨S.gok.gc, S.gok.gin, S.gok.gix, S.gok.gcp⟩
    exact def_ok (dn := { dn with sp := fun j => spOf dn.g (callF pg (ftOf dfs) wf k) pg.keeps j }) gok (fun _ => rfl) D T S.hK S.hw hok F hkp fun rs r outs h => callF_ok (by unfold ftOf; rw [hx]; rfl) h
/-- the law's call, from the evaluator's word -/
theorem law_sp (S : Su tb pg dfs dn P w K mg) {wf k i : Nat} {ns : List Int} {o : Bool} {outs : List Slot} (hc : callF pg (ftOf dfs) wf k i [fz (.scr ns)] = .ok (o, .bl true) outs) {H : Hp} {a : Addr} (hO : Only H) (hs : SqL K H a (ns.map V.int)) :
    spOf dn.g (callF pg (ftOf dfs) wf k) pg.keeps i [.ref a] H (fun v _ => v = .bl true) E0 := by
  refine ⟨fun _ => False, _, _, _, ⟨rfl, fun j r v h1 h2 => ?_, fun j l d d' b h1 h2 h3 h4 => ?_, fun _ z => z.elim⟩, hc, fun F' H' v ext tk sl fr ou => ?_⟩
  · cases j with
    | zero =>
      cases h1
      cases h2
      refine sl_fz.mpr ?_
      rw [Fr, S.hK]
      refine ⟨a, rfl, ?_⟩
      rcases hs with (z | ⟨ob, z⟩) | z
      · rcases hO a with q | ⟨_, _, q⟩ <;> rw [z] at q <;> cases q
      · exact .inl ⟨ob, z⟩
      · exact .inr (.inr z)
    | succ j => simp at h1
  · cases j with
    | zero => cases h1
    | succ j => simp at h1
  · cases o with
    | false =>
      have f := sl_fz.mp sl
      rw [Fr] at f
      exact f
    | true =>
      have f := sl_ow.mp sl
      exact f.elim
theorem law_callG {mb : Str → Option Value} {k : Nat} {fa a : Addr} {sp : Sp} {s1 : Shared} {vs : List Value} {ns : List Int} (KX : K.In s1.heap) (hns : s1.heap.Ns mainGlobals mg) (hb : s1.heap.Ns builtinsNs mb) (hbb : ∀ x : Str, x ≠ "__name__" → mb x = bootBuiltins x) (hlim : s1.heap.NoLimit) (hg : s1.gens = #[])
    (ha : s1.heap.get? a = some { cls := .type "list", data := .seq vs.toArray }) (hi : IntsAre vs ns) (hl : ns.length ≤ sizeLine) (hr : Room k callerA) (F : ∀ base : Heap, FnG P w K mg base k fa sp) (hsp : ∀ H : Hp, Only H → SqL K H a (ns.map V.int) → sp [.ref a] H (fun v _ => v = .bl true) E0) :
    codeAny (model P w) callerA (.call (.ref fa) ⟨[.ref a], []⟩) (fun r s' => r = .ok (.ret (.bool true)) ∧ OldK s1.heap s'.heap ∧ s'.os = s1.os ∧ AllBare s'.gens) s1 := by
  have rv := vals_ints hi
  have lenV := hi.length
  obtain ⟨H, hO, hS, hok, hA, hN⟩ : ∃ H : Hp, Only H ∧ SqL K H a (ns.map V.int) ∧ HOk P w H s1.heap ∧ (∀ b, H b ≠ none → b = a) ∧ (H a ≠ none → K.lookup a = none) := by
    cases hk : K.lookup a with
    | some o =>
      have e := KX a o hk
      rw [ha] at e
      cases e
      refine ⟨fun _ => none, fun _ => .inl rfl, .inr ⟨_, vs.toArray, _, hk, rfl, rfl, rfl, ?_, ?_⟩, fun b u z => ?_, fun b z => absurd rfl z, fun z => absurd rfl z⟩
      · rw [List.size_toArray, lenV]
        exact hl
      · simpa using rv
      · have z2 : (none : Option HO) = some u := z
        cases z2
    | none =>
      refine ⟨upd (fun _ => none) a (.frz { cls := .type "list", data := .seq vs.toArray } (.lst (ns.map V.int))), fun b => ?_, .inl (.inr ⟨_, upd_same⟩), fun b u z => ?_, fun b z => ?_, fun _ => rfl⟩
      · by_cases e : b = a
        · subst e
          exact .inr ⟨_, _, upd_same⟩
        · exact .inl (upd_ne e)
      · by_cases e : b = a
        · subst e
          rw [upd_same] at z
          cases z
          exact ⟨ha, by rw [List.length_map]; exact hl, vs, _, rv, ha⟩
        · rw [upd_ne e] at z
          cases z
      · by_cases e : b = a
        · exact e
        · exact absurd (upd_ne e) z
  have only : ∀ b, H b = none ∨ b = a := fun b => by
    cases q : H b with
    | none => exact .inl rfl
    | some u => exact .inr (hA b (by rw [q]; exact fun z => nomatch z))
  have noD : ∀ {b : Addr} {o : Obj} {es : Array DictEntry} {ep : Nat}, s1.heap.get? b = some o → o.data = .dict es ep → H b = none := fun {b o es ep} e d => by
    rcases only b with q | q
    · exact q
    · subst q
      rw [ha] at e
      cases e
      cases d
  have nsK : ∀ {b : Addr} {m : Str → Option Value}, s1.heap.Ns b m → (hidT s1.heap H).Ns b m := fun {b m} ⟨o, es, ep, e, d, r⟩ => ⟨o, es, ep, hidT_get e (noD e d), d, r⟩
  have hKb : K.In (hidT s1.heap H) := fun b o e => hidT_get (KX b o e) (by
    cases q : H b with
    | none => rfl
    | some u =>
      have e2 := hA b (by rw [q]; exact fun z => nomatch z)
      subst e2
      rw [hN (by rw [q]; exact fun z => nomatch z)] at e
      cases e)
  obtain ⟨mc, c1, c2⟩ := hlim
  have e0 : Env0 P w K mg (hidT s1.heap H) callerA [] s1 H := ⟨rfl, ⟨hKb, nsK hns, ⟨mb, nsK hb, hbb⟩, ⟨mc, nsK c1, c2⟩⟩, fun b o e => of_hidT e, Nat.le_of_eq (hidT_size _ _), trivial, fun b z => absurd (show b ∈ ([] : List Addr) from z) (by simp), hok, .of_eq hg⟩
  refine codeAny_mono (F _ callerA [] s1 H [.ref a] [.ref a] _ rfl hr e0 (.cons rfl .nil) (hsp H hO hS)) fun r s' h => ?_
  cases r with
  | error e => exact False.elim h
  | ok fl => cases fl with
    | next => exact False.elim h
    | brk => exact False.elim h
    | cont => exact False.elim h
    | ret u =>
      obtain ⟨v, H', os, bare, un, hok2, r2, q⟩ := h
      have q : v = .bl true := q
      subst q
      obtain rfl : u = Value.bool true := r2
      refine ⟨rfl, OldK.of_keep fun b o e => ?_, os, bare⟩
      rcases hO b with z | ⟨ob, xs, z⟩
      · exact un.keep b o e z (fun y => absurd (show b ∈ ([] : List Addr) from y) (by simp)) (by simp)
      · obtain ⟨e1, _⟩ := hok b _ z
        obtain ⟨e2, _⟩ := hok2 b _ (un.frzs b ob _ z)
        rw [e] at e1
        cases e1
        exact e2
end
end Ev
/-! Hd: what the module's names hold behind its top, looked up in the kernel, for Su. -/
namespace Ev
open PySem PySem.Spec PyProof.Rows L2 RZ StX
/-- a written value as the layer has it -/
def uV : Value → V
  | .bool b => .bl b
  | .int i _ => .int i
  | .str s _ => .str s
  | .ref a => .ref a
  | _ => .non
def wNon : Value → Bool
  | .none => true
  | _ => false
def wBl (b : Bool) : Value → Bool
  | .bool c => b == c
  | _ => false
def wInt (i : Int) : Value → Bool
  | .int j _ => decide (i = j)
  | _ => false
def wStr (s : Str) : Value → Bool
  | .str t _ => decide (s = t)
  | _ => false
def wTup (K : PySem.W.Frag) (f : List Value → Bool) : Value → Bool
  | .ref a => (match K.lookup a with
    | some ⟨.type c, _, .seq its _, _⟩ => decide (c = "tuple") && (decide (its.size ≤ sizeLine) && f its.toList)
    | _ => false)
  | _ => false
def wCons (f : Value → Bool) (g : List Value → Bool) : List Value → Bool
  | u :: r => f u && g r
  | [] => false
mutual
/-- a written value is the tree -/
def wB (K : PySem.W.Frag) : D → Value → Bool
  | .non => wNon
  | .bl b => wBl b
  | .int i => wInt i
  | .str s => wStr s
  | .tup ds => wTup K (wsB K ds)
  | .lst _ => fun _ => false
  | .dct _ => fun _ => false
  | .fn _ => fun _ => false
  | .scr _ => fun _ => false
def wsB (K : PySem.W.Frag) : List D → List Value → Bool
  | [] => fun us => us.isEmpty
  | d :: ds => wCons (wB K d) (wsB K ds)
end
theorem ba' {a b : Bool} (h : (a && b) = true) : a = true ∧ b = true := Bool.and_eq_true_iff.mp h
mutual
theorem wB_ok {K : PySem.W.Frag} : ∀ (d : D) (u : Value), wB K d u = true → RelV (uV u) u ∧ ∀ (g : Gx) (F : Addr → Prop) (H : Hp), g.K = K → Fr g F H d (uV u)
  | .non, u, h => by
    rw [wB] at h
    unfold wNon at h
    split at h
    · exact ⟨rfl, fun g F H _ => by rw [Fr]; rfl⟩
    · cases h
  | .bl b, u, h => by
    rw [wB] at h
    unfold wBl at h
    split at h
    · obtain rfl := eq_of_beq h
      exact ⟨rfl, fun g F H _ => by rw [Fr]; rfl⟩
    · cases h
  | .int i, u, h => by
    rw [wB] at h
    unfold wInt at h
    split at h
    · obtain rfl := of_decide_eq_true h
      exact ⟨⟨_, rfl⟩, fun g F H _ => by rw [Fr]; rfl⟩
    · cases h
  | .str s, u, h => by
    rw [wB] at h
    unfold wStr at h
    split at h
    · obtain rfl := of_decide_eq_true h
      exact ⟨⟨_, rfl⟩, fun g F H _ => by rw [Fr]; rfl⟩
    · cases h
  | .tup ds, u, h => by
    rw [wB] at h
    unfold wTup at h
    split at h
    · rename_i a
      split at h
      · rename_i c od its n sl q
        obtain ⟨h1, h2⟩ := ba' h
        obtain ⟨h3, h4⟩ := ba' h2
        obtain ⟨k1, k2⟩ := wsB_ok ds its.toList h4
        refine ⟨rfl, fun g F H e => ?_⟩
        rw [Fr]
        refine ⟨a, its.toList.map uV, rfl, ?_, k2 g F H e⟩
        rw [e]
        exact .inr ⟨_, its, n, q, congrArg Value.type (of_decide_eq_true h1), rfl, of_decide_eq_true h3, k1⟩
      · cases h
    · cases h
  | .lst _, u, h => by rw [wB] at h; cases h
  | .dct _, u, h => by rw [wB] at h; cases h
  | .fn _, u, h => by rw [wB] at h; cases h
  | .scr _, u, h => by rw [wB] at h; cases h
theorem wsB_ok {K : PySem.W.Frag} : ∀ (ds : List D) (us : List Value), wsB K ds us = true → Vals (us.map uV) us ∧ ∀ (g : Gx) (F : Addr → Prop) (H : Hp), g.K = K → FrL g F H ds (us.map uV)
  | [], us, h => by
    rw [wsB] at h
    cases us with
    | nil => exact ⟨.nil, fun g F H _ => by rw [FrL]; rfl⟩
    | cons _ _ => cases h
  | d :: ds, us, h => by
    rw [wsB] at h
    cases us with
    | nil => cases h
    | cons u r =>
      obtain ⟨h1, h2⟩ := ba' (show (wB K d u && wsB K ds r) = true from h)
      obtain ⟨a1, a2⟩ := wB_ok d u h1
      obtain ⟨b1, b2⟩ := wsB_ok ds r h2
      exact ⟨.cons a1 b1, fun g F H e => by rw [FrL]; exact ⟨_, _, rfl, a2 g F H e, b2 g F H e⟩⟩
end
/-! ### a written dict -/
def keyB : Key → Value → Bool
  | .inr x, .str y _ => decide (x = y)
  | _, _ => false
theorem keyB_ok {k : Key} {v : Value} (h : keyB k v = true) : ∃ x t, k = .inr x ∧ v = .str x t := by
  unfold keyB at h
  split at h
  · obtain rfl := of_decide_eq_true h
    exact ⟨_, _, rfl, rfl⟩
  · cases h
def entsB (K : PySem.W.Frag) : List DictEntry → List (Key × D) → Bool
  | [], [] => true
  | e :: es, (k, d) :: r => keyB k e.key && (wB K d e.val && entsB K es r)
  | _, _ => false
def kOf : Value → Key
  | .str x _ => .inr x
  | _ => .inl 0
def entsV (es : List DictEntry) : List (Key × V) := es.map fun e => (kOf e.key, uV e.val)
def entsU (es : List DictEntry) : List (Key × Value) := es.map fun e => (kOf e.key, e.val)
def esAt (K : PySem.W.Frag) (a : Addr) : List DictEntry := match K.lookup a with
  | some ⟨_, _, .dict es _, _⟩ => es.toList
  | _ => []
def dcB (K : PySem.W.Frag) (a : Addr) (kvs : List (Key × D)) : Bool := entsB K (esAt K a) kvs && (decide (kvs.length ≤ sizeLine) && decide ((kvs.map (·.1)).Nodup))
section
variable {K : PySem.W.Frag}
theorem ents_ok : ∀ {es : List DictEntry} {kvs : List (Key × D)}, entsB K es kvs = true → (∀ (g : Gx) (F : Addr → Prop) (H : Hp), g.K = K → FrK g F H kvs (entsV es)) ∧ KV (entsV es) (entsU es) ∧ (entsU es).map (·.1) = kvs.map (·.1) ∧ es.length = kvs.length
  | [], [], _ => ⟨fun g F H _ => by rw [FrK]; rfl, .nil, rfl, rfl⟩
  | [], _ :: _, h => by cases h
  | _ :: _, [], h => by cases h
  | e :: es, (k, d) :: r, h => by
    have h' : (keyB k e.key && (wB K d e.val && entsB K es r)) = true := h
    obtain ⟨h1, h2⟩ := ba' h'
    obtain ⟨h3, h4⟩ := ba' h2
    obtain ⟨a1, a2⟩ := wB_ok d e.val h3
    obtain ⟨b1, b2, b3, b4⟩ := ents_ok h4
    have ek : kOf e.key = k := by
      obtain ⟨x, t, rfl, q⟩ := keyB_ok h1
      rw [q]
      rfl
    refine ⟨fun g F H eg => ?_, ?_, ?_, ?_⟩
    · rw [FrK]
      refine ⟨uV e.val, entsV es, ?_, a2 g F H eg, b1 g F H eg⟩
      show (kOf e.key, uV e.val) :: entsV es = _
      rw [ek]
    · exact .cons ⟨rfl, a1⟩ b2
    · show kOf e.key :: (entsU es).map (·.1) = k :: r.map (·.1)
      rw [ek, b3]
    · show es.length + 1 = r.length + 1
      rw [b4]
theorem ents_find (z : Str) : ∀ {es : List DictEntry} {kvs : List (Key × D)}, entsB K es kvs = true → (match es.find? (·.key.isStr z), valD kvs (.inr z) with
      | some e, some d => wB K d e.val = true
      | none, none => True
      | _, _ => False) ∧ es.any (·.refKey) = false
  | [], [], _ => ⟨trivial, rfl⟩
  | [], _ :: _, h => by cases h
  | _ :: _, [], h => by cases h
  | e :: es, (k, d) :: r, h => by
    have h' : (keyB k e.key && (wB K d e.val && entsB K es r)) = true := h
    obtain ⟨h1, h2⟩ := ba' h'
    obtain ⟨h3, h4⟩ := ba' h2
    obtain ⟨ih1, ih2⟩ := ents_find z h4
    obtain ⟨x, t, rfl, ek⟩ := keyB_ok h1
    have hk : e.key.isStr z = decide (x = z) := by
      rw [ek]
      show (x == z) = decide (x = z)
      by_cases e' : x = z
      · subst e'; simp
      · rw [decide_eq_false e', beq_eq_false_iff_ne.mpr e']
    constructor
    · unfold valD
      rw [List.find?_cons, List.find?_cons, hk]
      by_cases e' : x = z
      · subst e'
        simp only [decide_true, Option.map_some]
        exact h3
      · have e2 : ¬ (Sum.inr x : Key) = Sum.inr z := fun q => e' (Sum.inr.inj q)
        rw [decide_eq_false e', decide_eq_false e2]
        exact ih1
    · rw [List.any_cons, ih2, Bool.or_false]
      unfold DictEntry.refKey
      rw [ek]
theorem dc_ok {w : World} {a : Addr} {es : Array DictEntry} {n : Nat} {kvs : List (Key × D)} (D0 : KDict K w a es n) (h : dcB K a kvs = true) :
    (∀ z : Str, ∃ r, PySem.W.nsIn K a z = some r ∧ r.isSome = (valD kvs (.inr z)).isSome) ∧
    (∀ (z : Str) (d : D), valD kvs (.inr z) = some d → ∃ v, KDct K w a z v ∧ ∀ (g : Gx) (F : Addr → Prop) (H : Hp), g.K = K → Fr g F H d v) ∧
    (∀ (g : Gx) (F : Addr → Prop) (H : Hp), g.K = K → FrK g F H kvs (entsV (esAt K a))) ∧
    (entsV (esAt K a)).length ≤ sizeLine ∧ ∀ P : Program, ∃ vs, KV (entsV (esAt K a)) vs ∧ ∀ hp : Heap, K.In hp → hp.DictOf (mixKind P w) a vs := by
  have ea : esAt K a = es.toList := by
    unfold esAt
    rw [D0.at_]
  unfold dcB at h
  obtain ⟨h1, h2⟩ := ba' h
  obtain ⟨h3, h4⟩ := ba' h2
  have hl := of_decide_eq_true h3
  have hn := of_decide_eq_true h4
  rw [ea] at h1 ⊢
  obtain ⟨p1, p2, p3, p4⟩ := ents_ok h1
  have ns : ∀ z : Str, PySem.W.nsIn K a z = some ((es.toList.find? (·.key.isStr z)).map (·.val)) := fun z => by
    obtain ⟨_, q2⟩ := ents_find (K := K) z h1
    unfold PySem.W.nsIn
    rw [D0.at_]
    show (match es.toList.find? (·.key.isStr z) with
      | some e => some (some e.val)
      | none => if es.toList.any (·.refKey) then none else some none) = _
    cases hf : es.toList.find? (·.key.isStr z) with
    | some e => rfl
    | none =>
      show (if es.toList.any (·.refKey) = true then none else some none) = _
      rw [q2]
      rfl
  refine ⟨fun z => ⟨_, ns z, ?_⟩, fun z d hd => ?_, p1, ?_, fun P => ⟨entsU es.toList, p2, fun hp KX => ?_⟩⟩
  · obtain ⟨q1, _⟩ := ents_find (K := K) z h1
    cases hf : es.toList.find? (·.key.isStr z) with
    | some e =>
      cases hv : valD kvs (.inr z) with
      | some d => rfl
      | none => rw [hf, hv] at q1; exact q1.elim
    | none =>
      cases hv : valD kvs (.inr z) with
      | some d => rw [hf, hv] at q1; exact q1.elim
      | none => rfl
  · obtain ⟨q1, _⟩ := ents_find (K := K) z h1
    cases hf : es.toList.find? (·.key.isStr z) with
    | some e =>
      rw [hf, hd] at q1
      obtain ⟨a1, a2⟩ := wB_ok d e.val q1
      refine ⟨uV e.val, ⟨es, n, e.val, D0.at_, D0.lit, ?_, a1⟩, a2⟩
      rw [ns z, hf]
      rfl
    | none => rw [hf, hd] at q1; exact q1.elim
  · show (List.map _ es.toList).length ≤ sizeLine
    rw [List.length_map, p4]
    exact hl
  · refine ⟨_, es, n, KX _ _ D0.at_, ⟨rfl, rfl, rfl⟩, rfl, fun e he => ?_, ?_, ?_⟩
    · obtain ⟨x, t, e1, e2⟩ := D0.lit.all e (Array.mem_toList_iff.mpr he)
      exact ⟨.inr x, by rw [e1]; exact keyIs_str x t, e2⟩
    · have key : ∀ l : List DictEntry, PySem.W.KeysLit w.params l → Pairs (mixKind P w) l (entsU l) := by
        intro l
        induction l with
        | nil => intro _; exact .nil
        | cons e r ih =>
          intro hl
          obtain ⟨⟨x, t, e1, _⟩, hr⟩ := hl
          refine .cons ?_ rfl (ih hr)
          show keyIs (kOf e.key) e.key = true
          rw [e1]
          exact keyIs_str x t
      exact key _ D0.lit
    · rw [p3]
      exact hn
/-! ### a constant of a written class -/
def clsB (K : PySem.W.Frag) (C : Str) : Bool := PySem.W.readsIn K (He.ga K C) (.type "type") && He.eqO (PySem.W.specialIn K (.ref (He.ga K C)) "__getattribute__") (some (some (.builtin "type.__getattribute__")))
def cvlB (K : PySem.W.Frag) (C f : Str) (d : D) : Bool := match PySem.W.findCls K (.ref (He.ga K C)) (.type "type") f with
  | some (.val u) => flatD d && wB K d u
  | _ => false
theorem cls_okB {C : Str} (h : clsB K C = true) : ClX.CRead K (He.ga K C) (.type "type") := by
  obtain ⟨h1, h2⟩ := ba' h
  exact ⟨h1, He.eqO_ok h2⟩
theorem uV_cV {d : D} {u : Value} (hf : flatD d = true) (h : wB K d u = true) : uV u = cV d := by
  have := (wB_ok d u h).2 ⟨K, fun _ => none⟩ (fun _ => False) (fun _ => none) rfl
  cases d <;> first | (rw [Fr] at this; exact this) | (cases hf)
theorem cvl_ok {C f : Str} {d : D} (h : cvlB K C f d = true) : ∃ u, ClX.CVal K (He.ga K C) (.type "type") f (cV d) u := by
  unfold cvlB at h
  split at h
  · rename_i u q
    obtain ⟨h1, h2⟩ := ba' h
    exact ⟨u, q, by rw [← uV_cV h1 h2]; exact (wB_ok d u h2).1⟩
  · cases h
end
end Ev
/-! OkB: a Bool that says okSs. Printed by genok.py. -/
namespace Ev
open PySem L2
mutual
def okEB (ids : Nat → Bool) : Tm → Bool
  | .var _ => true
  | .cst d => flatD d
  | .gl _ => true
  | .fnv i => ids i
  | .bin _ a b => (okEB ids a && okEB ids b)
  | .neg a => okEB ids a
  | .notv a => okEB ids a
  | .cmp _ a b => (okEB ids a && okEB ids b)
  | .isN a => okEB ids a
  | .isNN a => okEB ids a
  | .chain _ _ a b c => (okEB ids a && (okEB ids b && okEB ids c))
  | .andv a b => (okEB ids a && okEB ids b)
  | .orv a b => (okEB ids a && okEB ids b)
  | .ife c a b => (okCB ids c && (okEB ids a && okEB ids b))
  | .idx a b => (okEB ids a && okEB ids b)
  | .slc a lo hi => (okEB ids a && (okToB ids lo && okToB ids hi))
  | .evn a lo => (okEB ids a && okToB ids lo)
  | .rev a => okEB ids a
  | .bi _ a => okEB ids a
  | .join s a => (okEB ids s && okEB ids a)
  | .dget d k x => (okEB ids d && (okEB ids k && okEB ids x))
  | .zipl a b => (okEB ids a && okEB ids b)
  | .gin _ a => okEB ids a
  | .gidx _ a => okEB ids a
  | .gdict _ => true
  | .tupd es => okAB ids es
  | .lstd es => okAB ids es
  | .dctd ps => okPB ids ps
  | .call _ as => okAB ids as
  | .callv _ as => okAB ids as
  | .comp e _ _ it c _ => (okEB ids e && (okIB ids it && okTcB ids c))
  | .dcomp k v _ _ it _ => (okEB ids k && (okEB ids v && okIB ids it))
  | .mu _ _ as => okAB ids as
def okToB (ids : Nat → Bool) : To → Bool
  | .no => true
  | .yes a => okEB ids a
def okTcB (ids : Nat → Bool) : To' → Bool
  | .no => true
  | .yes c => okCB ids c
def okAB (ids : Nat → Bool) : Tms → Bool
  | .nil => true
  | .cons a r => (okEB ids a && okAB ids r)
  | .star a r => (okEB ids a && okAB ids r)
def okPB (ids : Nat → Bool) : Tps → Bool
  | .nil => true
  | .cons k v r => (okEB ids k && (okEB ids v && okPB ids r))
def okIB (ids : Nat → Bool) : It → Bool
  | .seq a => okEB ids a
  | .rng1 a => okEB ids a
  | .rng2 a b => (okEB ids a && okEB ids b)
  | .enum a => okEB ids a
  | .zip a b => (okEB ids a && okEB ids b)
def okCB (ids : Nat → Bool) : Ct → Bool
  | .val a => okEB ids a
  | .cmp a => okEB ids a
  | .and a b => (okCB ids a && okCB ids b)
  | .or a b => (okCB ids a && okCB ids b)
  | .not a => okCB ids a
end
mutual
theorem okEB_ok {ids : Nat → Bool} {fa : Nat → Option Addr} (hf : ∀ i, ids i = true → (fa i).isSome = true) : ∀ t : Tm, okEB ids t = true → okE fa t
  | .var _, h => by rw [okE]; trivial
  | .cst d, h => by rw [okE]; rw [okEB] at h; exact h
  | .gl _, h => by rw [okE]; trivial
  | .fnv i, h => by rw [okE]; rw [okEB] at h; exact hf _ h
  | .bin _ a b, h => by rw [okE]; rw [okEB] at h; exact ⟨okEB_ok hf a (ba' h).1, okEB_ok hf b (ba' h).2⟩
  | .neg a, h => by rw [okE]; rw [okEB] at h; exact okEB_ok hf a h
  | .notv a, h => by rw [okE]; rw [okEB] at h; exact okEB_ok hf a h
  | .cmp _ a b, h => by rw [okE]; rw [okEB] at h; exact ⟨okEB_ok hf a (ba' h).1, okEB_ok hf b (ba' h).2⟩
  | .isN a, h => by rw [okE]; rw [okEB] at h; exact okEB_ok hf a h
  | .isNN a, h => by rw [okE]; rw [okEB] at h; exact okEB_ok hf a h
  | .chain _ _ a b c, h => by rw [okE]; rw [okEB] at h; exact ⟨okEB_ok hf a (ba' h).1, okEB_ok hf b (ba' (ba' h).2).1, okEB_ok hf c (ba' (ba' h).2).2⟩
  | .andv a b, h => by rw [okE]; rw [okEB] at h; exact ⟨okEB_ok hf a (ba' h).1, okEB_ok hf b (ba' h).2⟩
  | .orv a b, h => by rw [okE]; rw [okEB] at h; exact ⟨okEB_ok hf a (ba' h).1, okEB_ok hf b (ba' h).2⟩
  | .ife c a b, h => by rw [okE]; rw [okEB] at h; exact ⟨okCB_ok hf c (ba' h).1, okEB_ok hf a (ba' (ba' h).2).1, okEB_ok hf b (ba' (ba' h).2).2⟩
  | .idx a b, h => by rw [okE]; rw [okEB] at h; exact ⟨okEB_ok hf a (ba' h).1, okEB_ok hf b (ba' h).2⟩
  | .slc a lo hi, h => by rw [okE]; rw [okEB] at h; exact ⟨okEB_ok hf a (ba' h).1, okToB_ok hf lo (ba' (ba' h).2).1, okToB_ok hf hi (ba' (ba' h).2).2⟩
  | .evn a lo, h => by rw [okE]; rw [okEB] at h; exact ⟨okEB_ok hf a (ba' h).1, okToB_ok hf lo (ba' h).2⟩
  | .rev a, h => by rw [okE]; rw [okEB] at h; exact okEB_ok hf a h
  | .bi _ a, h => by rw [okE]; rw [okEB] at h; exact okEB_ok hf a h
  | .join s a, h => by rw [okE]; rw [okEB] at h; exact ⟨okEB_ok hf s (ba' h).1, okEB_ok hf a (ba' h).2⟩
  | .dget d k x, h => by rw [okE]; rw [okEB] at h; exact ⟨okEB_ok hf d (ba' h).1, okEB_ok hf k (ba' (ba' h).2).1, okEB_ok hf x (ba' (ba' h).2).2⟩
  | .zipl a b, h => by rw [okE]; rw [okEB] at h; exact ⟨okEB_ok hf a (ba' h).1, okEB_ok hf b (ba' h).2⟩
  | .gin _ a, h => by rw [okE]; rw [okEB] at h; exact okEB_ok hf a h
  | .gidx _ a, h => by rw [okE]; rw [okEB] at h; exact okEB_ok hf a h
  | .gdict _, h => by rw [okE]; trivial
  | .tupd es, h => by rw [okE]; rw [okEB] at h; exact okAB_ok hf es h
  | .lstd es, h => by rw [okE]; rw [okEB] at h; exact okAB_ok hf es h
  | .dctd ps, h => by rw [okE]; rw [okEB] at h; exact okPB_ok hf ps h
  | .call _ as, h => by rw [okE]; rw [okEB] at h; exact okAB_ok hf as h
  | .callv _ as, h => by rw [okE]; rw [okEB] at h; exact okAB_ok hf as h
  | .comp e _ _ it c _, h => by rw [okE]; rw [okEB] at h; exact ⟨okEB_ok hf e (ba' h).1, okIB_ok hf it (ba' (ba' h).2).1, okTcB_ok hf c (ba' (ba' h).2).2⟩
  | .dcomp k v _ _ it _, h => by rw [okE]; rw [okEB] at h; exact ⟨okEB_ok hf k (ba' h).1, okEB_ok hf v (ba' (ba' h).2).1, okIB_ok hf it (ba' (ba' h).2).2⟩
  | .mu _ _ as, h => by rw [okE]; rw [okEB] at h; exact okAB_ok hf as h
theorem okToB_ok {ids : Nat → Bool} {fa : Nat → Option Addr} (hf : ∀ i, ids i = true → (fa i).isSome = true) : ∀ t : To, okToB ids t = true → okTo fa t
  | .no, h => by rw [okTo]; trivial
  | .yes a, h => by rw [okTo]; rw [okToB] at h; exact okEB_ok hf a h
theorem okTcB_ok {ids : Nat → Bool} {fa : Nat → Option Addr} (hf : ∀ i, ids i = true → (fa i).isSome = true) : ∀ t : To', okTcB ids t = true → okTc fa t
  | .no, h => by rw [okTc]; trivial
  | .yes c, h => by rw [okTc]; rw [okTcB] at h; exact okCB_ok hf c h
theorem okAB_ok {ids : Nat → Bool} {fa : Nat → Option Addr} (hf : ∀ i, ids i = true → (fa i).isSome = true) : ∀ t : Tms, okAB ids t = true → okA fa t
  | .nil, h => by rw [okA]; trivial
  | .cons a r, h => by rw [okA]; rw [okAB] at h; exact ⟨okEB_ok hf a (ba' h).1, okAB_ok hf r (ba' h).2⟩
  | .star a r, h => by rw [okA]; rw [okAB] at h; exact ⟨okEB_ok hf a (ba' h).1, okAB_ok hf r (ba' h).2⟩
theorem okPB_ok {ids : Nat → Bool} {fa : Nat → Option Addr} (hf : ∀ i, ids i = true → (fa i).isSome = true) : ∀ t : Tps, okPB ids t = true → okP fa t
  | .nil, h => by rw [okP]; trivial
  | .cons k v r, h => by rw [okP]; rw [okPB] at h; exact ⟨okEB_ok hf k (ba' h).1, okEB_ok hf v (ba' (ba' h).2).1, okPB_ok hf r (ba' (ba' h).2).2⟩
theorem okIB_ok {ids : Nat → Bool} {fa : Nat → Option Addr} (hf : ∀ i, ids i = true → (fa i).isSome = true) : ∀ t : It, okIB ids t = true → okI fa t
  | .seq a, h => by rw [okI]; rw [okIB] at h; exact okEB_ok hf a h
  | .rng1 a, h => by rw [okI]; rw [okIB] at h; exact okEB_ok hf a h
  | .rng2 a b, h => by rw [okI]; rw [okIB] at h; exact ⟨okEB_ok hf a (ba' h).1, okEB_ok hf b (ba' h).2⟩
  | .enum a, h => by rw [okI]; rw [okIB] at h; exact okEB_ok hf a h
  | .zip a b, h => by rw [okI]; rw [okIB] at h; exact ⟨okEB_ok hf a (ba' h).1, okEB_ok hf b (ba' h).2⟩
theorem okCB_ok {ids : Nat → Bool} {fa : Nat → Option Addr} (hf : ∀ i, ids i = true → (fa i).isSome = true) : ∀ t : Ct, okCB ids t = true → okC fa t
  | .val a, h => by rw [okC]; rw [okCB] at h; exact okEB_ok hf a h
  | .cmp a, h => by rw [okC]; rw [okCB] at h; exact okEB_ok hf a h
  | .and a b, h => by rw [okC]; rw [okCB] at h; exact ⟨okCB_ok hf a (ba' h).1, okCB_ok hf b (ba' h).2⟩
  | .or a b, h => by rw [okC]; rw [okCB] at h; exact ⟨okCB_ok hf a (ba' h).1, okCB_ok hf b (ba' h).2⟩
  | .not a, h => by rw [okC]; rw [okCB] at h; exact okCB_ok hf a h
end
mutual
def okSB (ids : Nat → Bool) : Sm → Bool
  | .asg _ a => okEB ids a
  | .unp _ a => okEB ids a
  | .par is es => (decide (is.length ≤ sizeLine) && okAB ids es)
  | .setk _ k v => (okEB ids k && okEB ids v)
  | .aug _ a => okEB ids a
  | .ifs c a b => (okCB ids c && (okSsB ids a && okSsB ids b))
  | .fors _ _ it b => (okIB ids it && okSsB ids b)
  | .whiles c b => (okCB ids c && okSsB ids b)
  | .ret a => okEB ids a
  | .retn => true
  | .expr a => okEB ids a
  | .pass => true
  | .brk => true
  | .cont => true
  | .rais _ _ => true
def okSsB (ids : Nat → Bool) : Sms → Bool
  | .nil => true
  | .cons s r => (okSB ids s && okSsB ids r)
end
mutual
theorem okSB_ok {ids : Nat → Bool} {fa : Nat → Option Addr} (hf : ∀ i, ids i = true → (fa i).isSome = true) : ∀ t : Sm, okSB ids t = true → okS fa t
  | .asg _ a, h => by rw [okS]; rw [okSB] at h; exact okEB_ok hf a h
  | .unp _ a, h => by rw [okS]; rw [okSB] at h; exact okEB_ok hf a h
  | .par is es, h => by rw [okS]; rw [okSB] at h; exact ⟨of_decide_eq_true (ba' h).1, okAB_ok hf es (ba' h).2⟩
  | .setk _ k v, h => by rw [okS]; rw [okSB] at h; exact ⟨okEB_ok hf k (ba' h).1, okEB_ok hf v (ba' h).2⟩
  | .aug _ a, h => by rw [okS]; rw [okSB] at h; exact okEB_ok hf a h
  | .ifs c a b, h => by rw [okS]; rw [okSB] at h; exact ⟨okCB_ok hf c (ba' h).1, okSsB_ok hf a (ba' (ba' h).2).1, okSsB_ok hf b (ba' (ba' h).2).2⟩
  | .fors _ _ it b, h => by rw [okS]; rw [okSB] at h; exact ⟨okIB_ok hf it (ba' h).1, okSsB_ok hf b (ba' h).2⟩
  | .whiles c b, h => by rw [okS]; rw [okSB] at h; exact ⟨okCB_ok hf c (ba' h).1, okSsB_ok hf b (ba' h).2⟩
  | .ret a, h => by rw [okS]; rw [okSB] at h; exact okEB_ok hf a h
  | .retn, h => by rw [okS]; trivial
  | .expr a, h => by rw [okS]; rw [okSB] at h; exact okEB_ok hf a h
  | .pass, h => by rw [okS]; trivial
  | .brk, h => by rw [okS]; trivial
  | .cont, h => by rw [okS]; trivial
  | .rais _ _, h => by rw [okS]; trivial
theorem okSsB_ok {ids : Nat → Bool} {fa : Nat → Option Addr} (hf : ∀ i, ids i = true → (fa i).isSome = true) : ∀ t : Sms, okSsB ids t = true → okSs fa t
  | .nil, h => by rw [okSs]; trivial
  | .cons s r, h => by rw [okSs]; rw [okSsB] at h; exact ⟨okSB_ok hf s (ba' h).1, okSsB_ok hf r (ba' h).2⟩
end
end Ev
/-! Lw: a law's data, what is looked up of it behind the top, its end. -/
namespace Ev
open PySem PySem.Spec PyProof.Rows L2 RZ StX
/-! ### the Hook: what the module's names reach, and the statics -/
structure SaysY (fa : List He.Fa) (fn : List He.DefD) (ts : List He.Tab) (ex : PySem.W.Frag → Bool) (w : World) (K : PySem.W.Frag) : Prop where
  t : He.SaysT fa fn ts w K
  more : ex K = true
def frY (g : Addr → Option Obj) (n : Nat) : PySem.W.Frag := He.frT g (cStatics :: He.asD g n)
abbrev AlY : Type := He.AlT × Bool
def obsY (n : Nat) (fa : List He.Fa) (fn : List He.DefD) (ts : List He.Tab) (ex : PySem.W.Frag → Bool) (g : Addr → Option Obj) : AlY := (fun K => (He.obsT fa fn ts K, ex K)) (frY g n)
def hookY (n : Nat) (fa : List He.Fa) (fn : List He.DefD) (ts : List He.Tab) (ex : PySem.W.Frag → Bool) : PySem.W.Hook where
  α := AlY
  obs := fun s => obsY n fa fn ts ex s.heap.get?
  val := fun w => (He.valT fn ts w, true)
  says := fun w h => ∃ K : PySem.W.Frag, K.In h ∧ SaysY fa fn ts ex w K
  of := fun _ _ e => ⟨_, He.frT_in, congrArg (fun z : AlY => z.1) e, congrArg (fun z : AlY => z.2) e⟩
  keeps := fun _ _ _ ⟨K, hK, c⟩ k => ⟨K, PySem.W.Frag.In.keeps hK k, c⟩
theorem obsY_eq {n : Nat} {fa : List He.Fa} {fn : List He.DefD} {ts : List He.Tab} {ex : PySem.W.Frag → Bool} {g : Addr → Option Obj} {s : Shared} (h : ∀ a, g a = s.heap.get? a) : obsY n fa fn ts ex g = (hookY n fa fn ts ex).obs s := by
  have e : g = s.heap.get? := funext h
  rw [e] <;> rfl
structure Law where
  tb : Tb
  dfl : List (Nat × Df)
  ext : List He.DefD
  gcs : List D
  gds : List (List (Key × D))
  gdn : List Str
namespace Law
def dfs (l : Law) (i : Nat) : Option Df := l.dfl.lookup i
def pg (l : Law) : Pg := { gc := l.gcs, gd := l.gds, keeps := fun f => match l.dfs f with | some x => x.d.keep | none => 0 }
def nm (l : Law) : List (Nat × Str) := l.tb.fns.map fun p => (p.2, p.1)
def ddOf (x : Df) : He.DefD := ⟨(x.nm, none), x.nm, x.nm, x.params, x.body, x.scope, [], []⟩
def fn (l : Law) : List He.DefD := (l.dfl.map fun p => ddOf p.2) ++ l.ext
def fa (l : Law) : List He.Fa := (l.tb.fns.map fun p => .glo p.1) ++ ((l.gdn.map .glo) ++ ((l.tb.cls.map fun p => .glo p.1.1) ++ l.tb.free.map .free))
def keyS : Key → Str
  | .inr x => x
  | .inl _ => ⟨#[]⟩
def ts (l : Law) : List He.Tab := (l.gdn.zip l.gds).map fun p => (fun K => He.ga K p.1, p.2.map fun kv => keyS kv.1)
def gcB (K : PySem.W.Frag) (l : Law) (p : Str × Nat) : Bool := match PySem.W.nsIn K mainGlobals p.1, l.gcs[p.2]? with
  | some (some u), some d => flatD d && wB K d u
  | _, _ => false
def clB (K : PySem.W.Frag) (l : Law) (p : (Str × Str) × Nat) : Bool := match l.gcs[p.2]? with
  | some d => cvlB K p.1.1 p.1.2 d
  | _ => false
def clns (l : Law) : List Str := (l.tb.cls.map fun p => p.1.1).eraseDups
def ex (l : Law) (K : PySem.W.Frag) : Bool := (l.tb.gcs.all (gcB K l)) && (((l.gdn.zip l.gds).all fun p => dcB K (He.ga K p.1) p.2) && ((l.clns.all (clsB K)) && l.tb.cls.all (clB K l)))
/-- what is seen of the data alone -/
structure Good (l : Law) : Prop where
  nm : ∀ p ∈ l.tb.fns, l.nm.lookup p.2 = some p.1
  at_ : ∀ p ∈ l.nm, (p.2, (none : Option Str)) ∈ l.fn.map (·.at_)
  df : ∀ p ∈ l.dfl, l.nm.lookup p.1 = some p.2.nm
  gd : ∀ p ∈ l.tb.gds, l.gdn[p.2]? = some p.1
  gl : l.gdn.length = l.gds.length
  flat : l.gcs.all flatD = true
  ok : ∀ p ∈ l.dfl, okSsB (fun i => (l.nm.lookup i).isSome) p.2.d.body = true
  cls : ∀ p ∈ l.tb.cls, p.1.1 ∈ l.clns
def goodB (l : Law) : Bool := (l.tb.fns.all fun p => decide (l.nm.lookup p.2 = some p.1)) && ((l.nm.all fun p => (l.fn.map (·.at_)).contains (p.2, (none : Option Str))) && ((l.dfl.all fun p => decide (l.nm.lookup p.1 = some p.2.nm)) && ((l.tb.gds.all fun p => decide (l.gdn[p.2]? = some p.1)) && (decide (l.gdn.length = l.gds.length) && (l.gcs.all flatD && ((l.dfl.all fun p => okSsB (fun i => (l.nm.lookup i).isSome) p.2.d.body) && l.tb.cls.all fun p => decide (p.1.1 ∈ l.clns)))))))
theorem good_of {l : Law} (h : l.goodB = true) : l.Good := by
  unfold goodB at h
  obtain ⟨h1, h⟩ := ba' h
  obtain ⟨h2, h⟩ := ba' h
  obtain ⟨h3, h⟩ := ba' h
  obtain ⟨h4, h⟩ := ba' h
  obtain ⟨h5, h⟩ := ba' h
  obtain ⟨h6, h⟩ := ba' h
  obtain ⟨h7, h8⟩ := ba' h
  exact ⟨fun p m => of_decide_eq_true (List.all_eq_true.mp h1 p m), fun p m => List.contains_iff_mem.mp (List.all_eq_true.mp h2 p m), fun p m => of_decide_eq_true (List.all_eq_true.mp h3 p m), fun p m => of_decide_eq_true (List.all_eq_true.mp h4 p m), of_decide_eq_true h5, h6, fun p m => List.all_eq_true.mp h7 p m, fun p m => of_decide_eq_true (List.all_eq_true.mp h8 p m)⟩
def dn (l : Law) (K : PySem.W.Frag) (w : World) : Dn where
  g := ⟨K, fun i => (l.nm.lookup i).map (He.ga K)⟩
  sp := fun _ _ _ _ _ => False
  w := w
  gcv := fun i => match l.gcs[i]? with | some d => cV d | none => .non
  gda := fun i => match l.gdn[i]? with | some n => He.ga K n | none => 0
  gdw := fun i => match l.gdn[i]? with | some n => entsV (esAt K (He.ga K n)) | none => []
theorem lookup_mem' {α β : Type} [BEq α] [LawfulBEq α] {a : α} {b : β} : ∀ {l : List (α × β)}, l.lookup a = some b → (a, b) ∈ l
  | [], h => by cases h
  | (c, d) :: r, h => by
    rw [List.lookup_cons] at h
    split at h
    · rename_i e
      rw [Option.some.inj h, eq_of_beq e]
      exact List.mem_cons_self ..
    · exact List.mem_cons_of_mem _ (lookup_mem' h)
theorem su {l : Law} (good : l.Good) (hD : ∀ p ∈ l.dfl, DfOk l.tb p.2) {P : Program} {w : World} {K : PySem.W.Frag} {h : Heap} {mg : Str → Option Value} (KX : K.In h) (G : h.Ns mainGlobals mg) (c : SaysY l.fa l.fn l.ts l.ex w K) :
    Su l.tb l.pg l.dfs (l.dn K w) P w K mg := by
  have glo : ∀ {x : Str}, He.Fa.glo x ∈ l.fa → mg x = some (.ref (He.ga K x)) := fun m => He.glo_ok KX G (c.t.d.facts m)
  obtain ⟨x1, hx⟩ := ba' (show (l.tb.gcs.all (gcB K l) && (((l.gdn.zip l.gds).all fun p => dcB K (He.ga K p.1) p.2) && ((l.clns.all (clsB K)) && l.tb.cls.all (clB K l)))) = true from c.more)
  obtain ⟨x2, hx⟩ := ba' hx
  obtain ⟨x3, x4⟩ := ba' hx
  have dict : ∀ i kvs, l.gds[i]? = some kvs → ∃ n, l.gdn[i]? = some n ∧ (∃ es m, KDict K w (He.ga K n) es m) ∧ dcB K (He.ga K n) kvs = true := fun i kvs hi => by
    have lt := (List.getElem?_eq_some_iff.mp hi).1
    rw [← good.gl] at lt
    refine ⟨l.gdn[i], List.getElem?_eq_getElem lt, ?_, ?_⟩
    · have hz : (l.gdn.zip l.gds)[i]? = some (l.gdn[i], kvs) := by
        rw [List.getElem?_zip_eq_some]
        exact ⟨List.getElem?_eq_getElem lt, hi⟩
      have ht : l.ts[i]? = some (fun K => He.ga K l.gdn[i], kvs.map fun kv => keyS kv.1) := by
        unfold ts
        rw [List.getElem?_map, hz]
        rfl
      exact c.t.tab i ht
    · have hz : (l.gdn.zip l.gds)[i]? = some (l.gdn[i], kvs) := by
        rw [List.getElem?_zip_eq_some]
        exact ⟨List.getElem?_eq_getElem lt, hi⟩
      exact List.all_eq_true.mp x2 _ (List.mem_of_getElem? hz)
  have gda : ∀ {i n}, l.gdn[i]? = some n → (l.dn K w).gda i = He.ga K n := fun {i n} e => by
    show (match l.gdn[i]? with | some n => He.ga K n | none => 0) = _
    rw [e]
  have gdw : ∀ {i n}, l.gdn[i]? = some n → (l.dn K w).gdw i = entsV (esAt K (He.ga K n)) := fun {i n} e => by
    show (match l.gdn[i]? with | some n => entsV (esAt K (He.ga K n)) | none => []) = _
    rw [e]
  have gcv : ∀ {i d}, l.gcs[i]? = some d → (l.dn K w).gcv i = cV d := fun {i d} e => by
    show (match l.gcs[i]? with | some d => cV d | none => .non) = _
    rw [e]
  refine ⟨rfl, rfl, ⟨fun i d hi => ⟨List.all_eq_true.mp good.flat d (List.mem_of_getElem? hi), gcv hi⟩, fun i kvs z hi => ?_, fun i kvs z d hi hv => ?_, fun i kvs hi F H => ?_⟩, fun i a hi => ?_, fun i x hi => ?_, fun x i hi => ?_, fun x i hi => ?_, fun x i hi => ?_, fun C f i hi => ?_, fun x m => ?_⟩
  · obtain ⟨n, hn, ⟨es, m, D0⟩, hd⟩ := dict i kvs hi
    rw [gda hn]
    exact (dc_ok D0 hd).1 z
  · obtain ⟨n, hn, ⟨es, m, D0⟩, hd⟩ := dict i kvs hi
    rw [gda hn]
    obtain ⟨v, k1, k2⟩ := (dc_ok D0 hd).2.1 z d hv
    exact ⟨v, k1, fun F H => k2 _ F H rfl⟩
  · obtain ⟨n, hn, ⟨es, m, D0⟩, hd⟩ := dict i kvs hi
    rw [gdw hn]
    exact (dc_ok D0 hd).2.2.1 _ F H rfl
  · have hi' : (l.nm.lookup i).map (He.ga K) = some a := hi
    cases hn : l.nm.lookup i with
    | none => rw [hn] at hi'; cases hi'
    | some x =>
      rw [hn] at hi'
      obtain rfl : He.ga K x = a := Option.some.inj hi'
      have m := good.at_ _ (lookup_mem' hn)
      obtain ⟨dd, md, ed⟩ := List.mem_map.mp m
      have kp : PySem.W.keepIn K (.ref (He.ga K x)) = true := by
        have c2 := (ba' (show ((l.fa.all fun f => f.ok K) && l.fn.all fun d => d.ok K) = true from congrArg (fun z : He.AlD => z.1) c.t.d)).2
        have o := (ba' (show (PySem.W.keepIn K (.ref (He.fAd K dd.at_)) && _) = true from List.all_eq_true.mp c2 dd md)).1
        rw [ed] at o
        exact o
      refine ⟨kp, fun y hy => ?_⟩
      have my := lookup_mem' (show l.dfl.lookup i = some y from hy)
      have en := good.df _ my
      simp only at en
      rw [hn] at en
      obtain rfl := Option.some.inj en
      exact c.t.d.defs (d := ddOf y) (List.mem_append_left _ (List.mem_map.mpr ⟨_, my, rfl⟩))
  · have my := lookup_mem' (show l.dfl.lookup i = some x from hi)
    refine ⟨hD _ my, okSsB_ok (ids := fun i => (l.nm.lookup i).isSome) (fun j hj => ?_) _ (good.ok _ my), ?_⟩
    · show ((l.nm.lookup j).map (He.ga K)).isSome = true
      rw [Option.isSome_map]
      exact hj
    · show (match l.dfs i with | some x => x.d.keep | none => 0) = _
      rw [hi]
  · have m := lookup_mem' hi
    refine ⟨He.ga K x, glo (List.mem_append_left _ (List.mem_map.mpr ⟨_, m, rfl⟩)), ?_⟩
    show (l.nm.lookup i).map (He.ga K) = _
    rw [good.nm _ m]
    rfl
  · have m := lookup_mem' hi
    have o := List.all_eq_true.mp x1 _ m
    unfold gcB at o
    simp only at o
    split at o
    · rename_i u d e1 e2
      obtain ⟨o1, o2⟩ := ba' o
      refine ⟨u, PySem.W.mg_of KX G e1, ?_⟩
      rw [gcv e2, ← uV_cV o1 o2]
      exact (wB_ok d u o2).1
    · cases o
  · have m := lookup_mem' hi
    have e := good.gd _ m
    simp only at e
    have lt := (List.getElem?_eq_some_iff.mp e).1
    rw [good.gl] at lt
    obtain ⟨n, hn, hk, hd⟩ := dict i _ (List.getElem?_eq_getElem lt)
    rw [e] at hn
    obtain rfl := Option.some.inj hn
    rw [gda e, gdw e]
    obtain ⟨es, k, D0⟩ := hk
    obtain ⟨_, _, _, d4, d5⟩ := dc_ok D0 hd
    obtain ⟨vs, d6, d7⟩ := d5 P
    exact ⟨glo (List.mem_append_right _ (List.mem_append_left _ (List.mem_map.mpr ⟨_, List.mem_of_getElem? e, rfl⟩))), ⟨es, k, D0⟩, d4, vs, d6, d7⟩
  · have m := lookup_mem' hi
    have o := List.all_eq_true.mp x4 _ m
    have oc := List.all_eq_true.mp x3 _ (good.cls _ m)
    unfold clB at o
    simp only at o
    split at o
    · rename_i d e1
      obtain ⟨u, hu⟩ := cvl_ok o
      refine ⟨He.ga K C, .type "type", u, glo (List.mem_append_right _ (List.mem_append_right _ (List.mem_append_left _ (List.mem_map.mpr ⟨_, m, rfl⟩)))), cls_okB oc, ?_⟩
      rw [gcv e1]
      exact hu
    · cases o
  · exact He.free_ok KX G (c.t.d.facts (List.mem_append_right _ (List.mem_append_right _ (List.mem_append_right _ (List.mem_map.mpr ⟨_, m, rfl⟩)))))
/-- the law's end -/
theorem walk {l : Law} (good : l.Good) (hD : ∀ p ∈ l.dfl, DfOk l.tb p.2) {ol : PySem.W.OpenLaw} {m n wf k i : Nat} {q : Program} {loose : List Str} {XP : (Str → Option Value) → Heap → Prop} {d : DefRec}
    (hn : ol.most = some n) (hn2 : n ≤ sizeLine) (hdf : d.params.defaults = []) (hr : Room k callerA) (hnm : l.nm.lookup i = some d.name)
    (hc : ∀ ns : List Int, ns.length ≤ n → ∃ o outs, callF l.pg (ftOf l.dfs) wf k i [fz (.scr ns)] = .ok (o, .bl true) outs) :
    PySem.W.WalkO q loose XP (hookY m l.fa l.fn l.ts l.ex).says ol.row.toRowW d [] (fun f vs => PySem.call f vs) := by
  refine Att.attach_call hn hdf fun w s₀ s₁ mg mb f o pm cd doc a vs ns G Y ho hd hcd hmg hobj hints hlen hg => ?_
  obtain ⟨K, KX, c⟩ := Y
  have S : Su l.tb l.pg l.dfs (l.dn K w) ol.prog w K mg := su good hD KX G.T.g c
  have hfi : (l.dn K w).g.fa i = some f := by
    have m := lookup_mem' hnm
    obtain ⟨p, mp, ep⟩ := List.mem_map.mp m
    have e : p.1 = d.name := congrArg Prod.snd ep
    have g1 := He.glo_ok KX G.T.g (c.t.d.facts (f := .glo d.name) (List.mem_append_left _ (List.mem_map.mpr ⟨p, mp, by rw [e]⟩)))
    rw [hmg] at g1
    have e2 : f = He.ga K d.name := Value.ref.inj (Option.some.inj g1)
    show (l.nm.lookup i).map (He.ga K) = _
    rw [hnm, e2]
    rfl
  obtain ⟨ob, outs, he⟩ := hc ns hlen
  exact law_callG KX G.T.g G.T.b G.T.builtins G.T.nolimit hg hobj hints (Nat.le_trans hlen hn2) hr (fun base => levels S wf base k i f hfi) fun H hO hS => law_sp S he hO hS
end Law
end Ev
namespace Ev.G
open PySem L2
/-! the defs of the graph laws as terms -/
def d_is_integer : Fd := { np := 1, nn := 1, keep := 1, star := false, body := (.cons (.ret (.andv (.bi .isInt (.var 0)) (.notv (.bi .isBool (.var 0))))) .nil) }
def d_is_between : Fd := { np := 3, nn := 3, keep := 3, star := false, body := (.cons (.ret (.andv (.call 0 (.cons (.var 0) .nil)) (.chain .le .le (.var 1) (.var 0) (.var 2)))) .nil) }
def d_is_name : Fd := { np := 1, nn := 2, keep := 1, star := false, body := (.cons (.ifs (.or (.not (.val (.bi .isStr (.var 0)))) (.not (.cmp (.chain .le .le (.cst (.int 1)) (.bi .len (.var 0)) (.gl 1))))) (.cons (.ret (.cst (.bl false))) .nil) .nil) (.cons (.ret (.bi .all (.comp (.cmp .isin (.var 1) (.gl 0)) [1] true (.seq (.var 0)) .no [1]))) .nil)) }
def d_is_tuple : Fd := { np := 3, nn := 3, keep := 3, star := false, body := (.cons (.ret (.andv (.bi .isTuple (.var 0)) (.chain .le .le (.var 1) (.bi .len (.var 0)) (.var 2)))) .nil) }
def d_are_names : Fd := { np := 3, nn := 4, keep := 3, star := false, body := (.cons (.ret (.andv (.call 3 (.cons (.var 0) (.cons (.var 1) (.cons (.var 2) .nil)))) (.bi .all (.comp (.call 2 (.cons (.var 3) .nil)) [3] true (.seq (.var 0)) .no [3])))) .nil) }
def d_fits_part : Fd := { np := 2, nn := 2, keep := 2, star := false, body := (.cons (.ifs (.cmp (.cmp .eq (.var 0) (.cst (.str "integer")))) (.cons (.ret (.call 1 (.cons (.var 1) (.cons (.neg (.gl 2)) (.cons (.gl 2) .nil))))) .nil) .nil) (.cons (.ifs (.cmp (.cmp .eq (.var 0) (.cst (.str "args")))) (.cons (.ret (.call 4 (.cons (.var 1) (.cons (.cst (.int 0)) (.cons (.gl 8) .nil))))) .nil) .nil) (.cons (.ret (.call 2 (.cons (.var 1) .nil))) .nil))) }
def d_fits_shape : Fd := { np := 2, nn := 5, keep := 2, star := false, body := (.cons (.ifs (.or (.not (.val (.bi .isTuple (.var 1)))) (.or (.cmp (.cmp .eq (.bi .len (.var 1)) (.cst (.int 0)))) (.or (.not (.val (.bi .isStr (.idx (.var 1) (.cst (.int 0)))))) (.cmp (.cmp .notin (.idx (.var 1) (.cst (.int 0))) (.var 0)))))) (.cons (.ret (.cst (.bl false))) .nil) .nil) (.cons (.asg 2 (.idx (.var 0) (.idx (.var 1) (.cst (.int 0))))) (.cons (.ret (.andv (.cmp .eq (.bi .len (.var 1)) (.bin .add (.bi .len (.var 2)) (.cst (.int 1)))) (.bi .all (.comp (.call 5 (.cons (.var 3) (.cons (.var 4) .nil))) [3, 4] false (.zip (.var 2) (.slc (.var 1) (.yes (.cst (.int 1))) .no)) .no [3, 4])))) .nil))) }
def d_parts_of : Fd := { np := 1, nn := 2, keep := 1, star := false, body := (.cons (.asg 1 (.ife (.cmp (.gin 0 (.idx (.var 0) (.cst (.int 0))))) (.gidx 0 (.idx (.var 0) (.cst (.int 0)))) (.gidx 1 (.idx (.var 0) (.cst (.int 0)))))) (.cons (.ret (.zipl (.var 1) (.slc (.var 0) (.yes (.cst (.int 1))) .no))) .nil)) }
def d_part_of : Fd := { np := 2, nn := 5, keep := 2, star := false, body := (.cons (.asg 2 (.comp (.var 4) [3, 4] false (.seq (.call 7 (.cons (.var 0) .nil))) (.yes (.cmp (.cmp .eq (.var 3) (.var 1)))) [3, 4])) (.cons (.ret (.ife (.cmp (.cmp .ne (.var 2) (.lstd .nil))) (.idx (.var 2) (.cst (.int 0))) (.cst .non))) .nil)) }
def d_defined_by : Fd := { np := 1, nn := 1, keep := 1, star := false, body := (.cons (.ret (.call 8 (.cons (.var 0) (.cons (.cst (.str "define")) .nil)))) .nil) }
def d_used_by : Fd := { np := 1, nn := 4, keep := 1, star := false, body := (.cons (.asg 1 (.lstd .nil)) (.cons (.fors [2, 3] false (.seq (.call 7 (.cons (.var 0) .nil))) (.cons (.ifs (.cmp (.cmp .eq (.var 2) (.cst (.str "use")))) (.cons (.expr (.mu .append 1 (.cons (.var 3) .nil))) .nil) .nil) (.cons (.ifs (.cmp (.cmp .eq (.var 2) (.cst (.str "args")))) (.cons (.expr (.mu .extend 1 (.cons (.var 3) .nil))) .nil) .nil) .nil))) (.cons (.ret (.var 1)) .nil))) }
def d_arms_of : Fd := { np := 1, nn := 4, keep := 1, star := false, body := (.cons (.asg 1 (.comp (.var 3) [2, 3] false (.seq (.call 7 (.cons (.var 0) .nil))) (.yes (.cmp (.cmp .isin (.var 2) (.tupd (.cons (.cst (.str "block")) (.cons (.cst (.str "args")) .nil)))))) [2, 3])) (.cons (.ret (.zipl (.evn (.var 1) .no) (.evn (.var 1) (.yes (.cst (.int 1)))))) .nil)) }
def d_names_of : Fd := { np := 1, nn := 2, keep := 1, star := false, body := (.cons (.ret (.comp (.idx (.var 1) (.cst (.int 0))) [1] true (.seq (.idx (.var 0) (.cst (.int 2)))) .no [1])) .nil) }
def d_block_of : Fd := { np := 2, nn := 3, keep := 2, star := false, body := (.cons (.ret (.idx (.comp (.var 2) [2] true (.seq (.idx (.var 0) (.cst (.int 2)))) (.yes (.cmp (.cmp .eq (.idx (.var 2) (.cst (.int 0))) (.var 1)))) [2]) (.cst (.int 0)))) .nil) }
def d_goals_of : Fd := { np := 1, nn := 3, keep := 1, star := false, body := (.cons (.ret (.comp (.var 1) [1, 2] false (.seq (.call 11 (.cons (.idx (.var 0) (.cst (.int 3))) .nil))) .no [1, 2])) .nil) }
def d_reached_without : Fd := { np := 2, nn := 6, keep := 2, star := false, body := (.cons (.asg 2 (.idx (.idx (.idx (.var 0) (.cst (.int 2))) (.cst (.int 0))) (.cst (.int 0)))) (.cons (.par [3, 4] (.cons (.ife (.cmp (.cmp .eq (.var 2) (.var 1))) (.lstd .nil) (.lstd (.cons (.var 2) .nil))) (.cons (.cst (.int 0)) .nil))) (.cons (.whiles (.cmp (.cmp .lt (.var 4) (.bi .len (.var 3)))) (.cons (.fors [5] true (.seq (.call 14 (.cons (.call 13 (.cons (.var 0) (.cons (.idx (.var 3) (.var 4)) .nil))) .nil))) (.cons (.ifs (.and (.cmp (.cmp .ne (.var 5) (.var 1))) (.cmp (.cmp .notin (.var 5) (.var 3)))) (.cons (.expr (.mu .append 3 (.cons (.var 5) .nil))) .nil) .nil) .nil)) (.cons (.aug 4 (.cst (.int 1))) .nil))) (.cons (.ret (.var 3)) .nil)))) }
def d_reached_in : Fd := { np := 1, nn := 3, keep := 1, star := false, body := (.cons (.asg 1 (.call 15 (.cons (.var 0) (.cons (.cst .non) .nil)))) (.cons (.ret (.comp (.var 2) [2] true (.seq (.call 12 (.cons (.var 0) .nil))) (.yes (.cmp (.cmp .isin (.var 2) (.var 1)))) [2])) .nil)) }
def d_covered_by : Fd := { np := 1, nn := 6, keep := 1, star := false, body := (.cons (.asg 1 (.call 16 (.cons (.var 0) .nil))) (.cons (.asg 2 (.dctd .nil)) (.cons (.fors [3] true (.seq (.var 1)) (.cons (.asg 4 (.call 15 (.cons (.var 0) (.cons (.var 3) .nil)))) (.cons (.setk 2 (.var 3) (.comp (.var 5) [5] true (.seq (.var 1)) (.yes (.cmp (.cmp .notin (.var 5) (.var 4)))) [5])) .nil))) (.cons (.ret (.var 2)) .nil)))) }
def d_is_function_form : Fd := { np := 1, nn := 1, keep := 1, star := false, body := (.cons (.ifs (.or (.not (.val (.call 3 (.cons (.var 0) (.cons (.cst (.int 3)) (.cons (.cst (.int 3)) .nil)))))) (.not (.val (.call 2 (.cons (.idx (.var 0) (.cst (.int 0))) .nil))))) (.cons (.ret (.cst (.bl false))) .nil) .nil) (.cons (.ret (.andv (.call 4 (.cons (.idx (.var 0) (.cst (.int 1))) (.cons (.cst (.int 0)) (.cons (.gl 6) .nil)))) (.call 3 (.cons (.idx (.var 0) (.cst (.int 2))) (.cons (.cst (.int 1)) (.cons (.gl 7) .nil)))))) .nil)) }
def d_is_block_form : Fd := { np := 1, nn := 1, keep := 1, star := false, body := (.cons (.ifs (.or (.not (.val (.call 3 (.cons (.var 0) (.cons (.cst (.int 4)) (.cons (.cst (.int 4)) .nil)))))) (.not (.val (.call 2 (.cons (.idx (.var 0) (.cst (.int 0))) .nil))))) (.cons (.ret (.cst (.bl false))) .nil) .nil) (.cons (.ret (.andv (.call 4 (.cons (.idx (.var 0) (.cst (.int 1))) (.cons (.cst (.int 0)) (.cons (.gl 8) .nil)))) (.call 3 (.cons (.idx (.var 0) (.cst (.int 2))) (.cons (.cst (.int 0)) (.cons (.gl 9) .nil)))))) .nil)) }
def d_row_fault : Fd := { np := 3, nn := 5, keep := 3, star := false, body := (.cons (.fors [3, 4] false (.enum (.var 1)) (.cons (.ifs (.or (.not (.val (.callv 2 (.cons (.var 4) .nil)))) (.and (.cmp (.cmp .gt (.var 3) (.cst (.int 0)))) (.cmp (.cmp .le (.idx (.var 4) (.cst (.int 0))) (.idx (.idx (.var 1) (.bin .sub (.var 3) (.cst (.int 1)))) (.cst (.int 0))))))) (.cons (.ret (.tupd (.cons (.var 0) (.cons (.var 3) .nil)))) .nil) .nil) .nil)) (.cons (.ret (.cst .non)) .nil)) }
def d_block_fault : Fd := { np := 1, nn := 6, keep := 1, star := false, body := (.cons (.fors [1, 2] false (.enum (.var 0)) (.cons (.asg 3 (.lstd .nil)) (.cons (.fors [4, 5] false (.enum (.idx (.var 2) (.cst (.int 2)))) (.cons (.ifs (.or (.not (.val (.call 20 (.cons (.var 5) .nil)))) (.or (.cmp (.cmp .isin (.idx (.var 5) (.cst (.int 0))) (.var 3))) (.and (.cmp (.cmp .eq (.var 4) (.cst (.int 0)))) (.cmp (.cmp .ne (.idx (.var 5) (.cst (.int 1))) (.tupd .nil)))))) (.cons (.ret (.tupd (.cons (.cst (.str "block")) (.cons (.var 1) (.cons (.var 4) .nil))))) .nil) .nil) (.cons (.expr (.mu .append 3 (.cons (.idx (.var 5) (.cst (.int 0))) .nil))) .nil))) .nil))) (.cons (.ret (.cst .non)) .nil)) }
def d_places_in : Fd := { np := 1, nn := 8, keep := 1, star := false, body := (.cons (.asg 1 (.lstd .nil)) (.cons (.fors [2, 3] false (.enum (.var 0)) (.cons (.fors [4, 5] false (.enum (.idx (.var 3) (.cst (.int 2)))) (.cons (.expr (.mu .extend 1 (.cons (.comp (.tupd (.cons (.var 2) (.cons (.var 4) (.cons (.var 6) (.cons (.var 7) .nil))))) [6, 7] false (.enum (.idx (.var 5) (.cst (.int 2)))) .no [6, 7]) .nil))) (.cons (.expr (.mu .append 1 (.cons (.tupd (.cons (.var 2) (.cons (.var 4) (.cons (.bi .len (.idx (.var 5) (.cst (.int 2)))) (.cons (.idx (.var 5) (.cst (.int 3))) .nil))))) .nil))) .nil))) .nil)) (.cons (.ret (.var 1)) .nil))) }
def d_instruction_fault : Fd := { np := 1, nn := 6, keep := 1, star := false, body := (.cons (.fors [1, 2, 3, 4] false (.seq (.call 23 (.cons (.var 0) .nil))) (.cons (.asg 5 (.ife (.cmp (.cmp .eq (.var 3) (.bi .len (.idx (.idx (.idx (.idx (.var 0) (.var 1)) (.cst (.int 2))) (.var 2)) (.cst (.int 2)))))) (.gdict 1) (.gdict 0))) (.cons (.ifs (.not (.val (.call 6 (.cons (.var 5) (.cons (.var 4) .nil))))) (.cons (.ret (.tupd (.cons (.cst (.str "instruction")) (.cons (.var 1) (.cons (.var 2) (.cons (.var 3) .nil)))))) .nil) .nil) .nil))) (.cons (.ret (.cst .non)) .nil)) }
def d_parameters_of : Fd := { np := 2, nn := 4, keep := 2, star := false, body := (.cons (.asg 2 (.comp (.idx (.var 3) (.cst (.int 1))) [3] true (.seq (.var 0)) (.yes (.cmp (.cmp .eq (.idx (.var 3) (.cst (.int 0))) (.var 1)))) [3])) (.cons (.ret (.ife (.cmp (.cmp .ne (.var 2) (.lstd .nil))) (.idx (.var 2) (.cst (.int 0))) (.cst .non))) .nil)) }
def d_arms_fit : Fd := { np := 2, nn := 6, keep := 2, star := false, body := (.cons (.asg 2 (.dcomp (.idx (.var 3) (.cst (.int 0))) (.bi .len (.idx (.var 3) (.cst (.int 1)))) [3] true (.seq (.slc (.idx (.var 0) (.cst (.int 2))) (.yes (.cst (.int 1))) .no)) [3])) (.cons (.ret (.bi .all (.comp (.andv (.cmp .isin (.var 4) (.var 2)) (.cmp .eq (.idx (.var 2) (.var 4)) (.bi .len (.var 5)))) [4, 5] false (.seq (.call 11 (.cons (.var 1) .nil))) .no [4, 5]))) .nil)) }
def d_names_fit : Fd := { np := 3, nn := 8, keep := 3, star := false, body := (.cons (.unp [3, 4] (.var 0)) (.cons (.asg 5 (.idx (.var 2) (.cst (.int 0)))) (.cons (.ifs (.cmp (.gin 1 (.var 5))) (.cons (.ret (.call 26 (.cons (.var 1) (.cons (.var 2) .nil)))) .nil) .nil) (.cons (.ifs (.cmp (.cmp .eq (.var 5) (.cst (.str "new")))) (.cons (.ret (.cmp .isin (.idx (.var 2) (.cst (.int 2))) (.comp (.idx (.var 6) (.cst (.int 0))) [6] true (.seq (.var 3)) .no [6]))) .nil) .nil) (.cons (.ifs (.cmp (.cmp .isin (.var 5) (.tupd (.cons (.cst (.str "get")) (.cons (.cst (.str "put")) .nil))))) (.cons (.ret (.bi .any (.comp (.cmp .isin (.call 8 (.cons (.var 2) (.cons (.cst (.str "field")) .nil))) (.idx (.var 6) (.cst (.int 1)))) [6] true (.seq (.var 3)) .no [6]))) .nil) .nil) (.cons (.ifs (.cmp (.cmp .isin (.var 5) (.tupd (.cons (.cst (.str "fun")) (.cons (.cst (.str "call")) .nil))))) (.cons (.asg 7 (.call 25 (.cons (.var 4) (.cons (.idx (.var 2) (.cst (.int 2))) .nil)))) (.cons (.ret (.andv (.isNN (.var 7)) (.orv (.cmp .eq (.var 5) (.cst (.str "fun"))) (.cmp .eq (.bi .len (.var 7)) (.bi .len (.idx (.var 2) (.cst (.int 3)))))))) .nil)) .nil) (.cons (.ret (.cst (.bl true))) .nil))))))) }
def d_name_fault : Fd := { np := 1, nn := 5, keep := 1, star := false, body := (.cons (.fors [1, 2, 3, 4] false (.seq (.call 23 (.cons (.idx (.var 0) (.cst (.int 1))) .nil))) (.cons (.ifs (.not (.val (.call 27 (.cons (.var 0) (.cons (.idx (.idx (.var 0) (.cst (.int 1))) (.var 1)) (.cons (.var 4) .nil)))))) (.cons (.ret (.tupd (.cons (.cst (.str "name")) (.cons (.var 1) (.cons (.var 2) (.cons (.var 3) .nil)))))) .nil) .nil) .nil)) (.cons (.ret (.cst .non)) .nil)) }
def d_definitions_of : Fd := { np := 1, nn := 6, keep := 1, star := false, body := (.cons (.asg 1 (.comp (.tupd (.cons (.var 2) (.cons (.cst .non) (.cons (.neg (.cst (.int 1))) .nil)))) [2] true (.seq (.idx (.var 0) (.cst (.int 1)))) .no [2])) (.cons (.fors [3] true (.seq (.idx (.var 0) (.cst (.int 2)))) (.cons (.expr (.mu .extend 1 (.cons (.comp (.tupd (.cons (.var 2) (.cons (.idx (.var 3) (.cst (.int 0))) (.cons (.neg (.cst (.int 1))) .nil)))) [2] true (.seq (.idx (.var 3) (.cst (.int 1)))) .no [2]) .nil))) (.cons (.fors [4, 5] false (.enum (.idx (.var 3) (.cst (.int 2)))) (.cons (.ifs (.cmp (.isNN (.call 9 (.cons (.var 5) .nil)))) (.cons (.expr (.mu .append 1 (.cons (.tupd (.cons (.call 9 (.cons (.var 5) .nil)) (.cons (.idx (.var 3) (.cst (.int 0))) (.cons (.var 4) .nil)))) .nil))) .nil) .nil) .nil)) .nil))) (.cons (.ret (.var 1)) .nil))) }
def d_twice_fault : Fd := { np := 1, nn := 8, keep := 1, star := false, body := (.cons (.fors [1, 2] false (.enum (.var 0)) (.cons (.asg 3 (.comp (.var 4) [4, 5, 6] false (.seq (.call 29 (.cons (.var 2) .nil))) .no [4, 5, 6])) (.cons (.fors [7, 4] false (.enum (.var 3)) (.cons (.ifs (.cmp (.cmp .isin (.var 4) (.slc (.var 3) .no (.yes (.var 7))))) (.cons (.ret (.tupd (.cons (.cst (.str "twice")) (.cons (.var 1) (.cons (.var 4) .nil))))) .nil) .nil) .nil)) .nil))) (.cons (.ret (.cst .non)) .nil)) }
def d_is_covered : Fd := { np := 4, nn := 7, keep := 4, star := false, body := (.cons (.unp [4, 5, 6] (.var 0)) (.cons (.ifs (.cmp (.isN (.var 5))) (.cons (.ret (.cst (.bl true))) .nil) .nil) (.cons (.ifs (.cmp (.cmp .eq (.var 5) (.var 1))) (.cons (.ret (.cmp .lt (.var 6) (.var 2))) .nil) .nil) (.cons (.ret (.cmp .isin (.var 1) (.dget (.var 3) (.var 5) (.lstd .nil)))) .nil)))) }
def d_use_fault : Fd := { np := 1, nn := 13, keep := 1, star := false, body := (.cons (.fors [1, 2] false (.enum (.var 0)) (.cons (.asg 3 (.dcomp (.idx (.var 4) (.cst (.int 0))) (.var 4) [4] true (.seq (.call 29 (.cons (.var 2) .nil))) [4])) (.cons (.par [5, 6] (.cons (.call 17 (.cons (.var 2) .nil)) (.cons (.call 16 (.cons (.var 2) .nil)) .nil))) (.cons (.fors [7, 8] false (.enum (.idx (.var 2) (.cst (.int 2)))) (.cons (.fors [9, 10] false (.enum (.tupd (.star (.idx (.var 8) (.cst (.int 2))) (.cons (.idx (.var 8) (.cst (.int 3))) .nil)))) (.cons (.fors [11] true (.seq (.call 10 (.cons (.var 10) .nil))) (.cons (.asg 12 (.andv (.cmp .isin (.var 11) (.var 3)) (.call 31 (.cons (.idx (.var 3) (.var 11)) (.cons (.idx (.var 8) (.cst (.int 0))) (.cons (.var 9) (.cons (.var 5) .nil))))))) (.cons (.ifs (.and (.cmp (.cmp .isin (.idx (.var 8) (.cst (.int 0))) (.var 6))) (.not (.val (.var 12)))) (.cons (.ret (.tupd (.cons (.cst (.str "use")) (.cons (.var 1) (.cons (.var 7) (.cons (.var 9) (.cons (.var 11) .nil))))))) .nil) .nil) .nil))) .nil)) .nil)) .nil)))) (.cons (.ret (.cst .non)) .nil)) }
def d_has_form : Fd := { np := 1, nn := 1, keep := 1, star := false, body := (.cons (.ifs (.or (.not (.val (.call 3 (.cons (.var 0) (.cons (.cst (.int 2)) (.cons (.cst (.int 2)) .nil)))))) (.not (.val (.call 3 (.cons (.idx (.var 0) (.cst (.int 0))) (.cons (.cst (.int 0)) (.cons (.gl 3) .nil))))))) (.cons (.ret (.cst (.bl false))) .nil) .nil) (.cons (.ret (.call 3 (.cons (.idx (.var 0) (.cst (.int 1))) (.cons (.cst (.int 1)) (.cons (.gl 5) .nil))))) .nil)) }
def d_form_error : Fd := { np := 1, nn := 4, keep := 1, star := false, body := (.cons (.ifs (.not (.val (.call 33 (.cons (.var 0) .nil)))) (.cons (.ret (.tupd (.cons (.cst (.str "form")) .nil))) .nil) .nil) (.cons (.unp [1, 2] (.var 0)) (.cons (.asg 3 (.orv (.call 21 (.cons (.cst (.str "kind")) (.cons (.var 1) (.cons (.fnv 18) .nil)))) (.call 21 (.cons (.cst (.str "function")) (.cons (.var 2) (.cons (.fnv 19) .nil)))))) (.cons (.ret (.orv (.var 3) (.orv (.call 22 (.cons (.var 2) .nil)) (.call 24 (.cons (.var 2) .nil))))) .nil)))) }
def d_module_error : Fd := { np := 1, nn := 4, keep := 1, star := false, body := (.cons (.asg 1 (.call 34 (.cons (.var 0) .nil))) (.cons (.ifs (.cmp (.isNN (.var 1))) (.cons (.ret (.var 1)) .nil) .nil) (.cons (.asg 2 (.idx (.var 0) (.cst (.int 1)))) (.cons (.ifs (.cmp (.cmp .notin (.cst (.str "main")) (.comp (.idx (.var 3) (.cst (.int 0))) [3] true (.seq (.var 2)) .no [3]))) (.cons (.ret (.tupd (.cons (.cst (.str "main")) .nil))) .nil) .nil) (.cons (.ifs (.cmp (.cmp .gt (.bi .len (.call 23 (.cons (.var 2) .nil))) (.gl 10))) (.cons (.ret (.tupd (.cons (.cst (.str "size")) .nil))) .nil) .nil) (.cons (.ret (.orv (.call 28 (.cons (.var 0) .nil)) (.orv (.call 30 (.cons (.var 2) .nil)) (.call 32 (.cons (.var 2) .nil))))) .nil)))))) }
def d_require_module : Fd := { np := 1, nn := 2, keep := 1, star := false, body := (.cons (.asg 1 (.call 35 (.cons (.var 0) .nil))) (.cons (.ifs (.cmp (.isNN (.var 1))) (.cons (.rais 0 (.cons (.var 1) .nil)) .nil) .nil) .nil)) }
def d_function_of : Fd := { np := 2, nn := 4, keep := 2, star := false, body := (.cons (.asg 2 (.comp (.var 3) [3] true (.seq (.idx (.var 0) (.cst (.int 1)))) (.yes (.cmp (.cmp .eq (.idx (.var 3) (.cst (.int 0))) (.var 1)))) [3])) (.cons (.ifs (.or (.not (.val (.bi .isStr (.var 1)))) (.cmp (.cmp .eq (.var 2) (.lstd .nil)))) (.cons (.rais 2 (.cons (.var 1) .nil)) .nil) .nil) (.cons (.ret (.idx (.var 2) (.cst (.int 0)))) .nil))) }
def d_require_block : Fd := { np := 2, nn := 2, keep := 2, star := false, body := (.cons (.ifs (.or (.not (.val (.bi .isStr (.var 1)))) (.cmp (.cmp .notin (.var 1) (.call 16 (.cons (.var 0) .nil))))) (.cons (.rais 2 (.cons (.var 1) .nil)) .nil) .nil) .nil) }
def d_parts_for : Fd := { np := 3, nn := 5, keep := 2, star := true, body := (.cons (.expr (.call 36 (.cons (.var 0) .nil))) (.cons (.asg 3 (.call 37 (.cons (.var 0) (.cons (.var 1) .nil)))) (.cons (.fors [4] true (.seq (.var 2)) (.cons (.expr (.call 38 (.cons (.var 3) (.cons (.var 4) .nil)))) .nil)) (.cons (.ret (.var 3)) .nil)))) }
def d_reached : Fd := { np := 2, nn := 2, keep := 2, star := false, body := (.cons (.ret (.call 16 (.cons (.call 39 (.cons (.var 0) (.cons (.var 1) .nil))) .nil))) .nil) }
def d_law_pen : Fd := { np := 1, nn := 1, keep := 1, star := false, body := (.cons (.ret (.dctd (.cons (.cst (.str "cells")) (.bi .list (.slc (.var 0) .no (.yes (.cst (.int 63))))) (.cons (.cst (.str "used")) (.cst (.int 0)) (.cons (.cst (.str "left")) (.cst (.int 0)) .nil))))) .nil) }
def d_law_draw : Fd := { np := 2, nn := 6, keep := 2, star := false, body := (.cons (.ifs (.cmp (.cmp .gt (.idx (.var 0) (.cst (.str "left"))) (.cst (.int 0)))) (.cons (.asg 2 (.bin .mod (.bi .int (.idx (.var 0) (.cst (.str "left")))) (.var 1))) (.cons (.setk 0 (.cst (.str "left")) (.bin .fdiv (.idx (.var 0) (.cst (.str "left"))) (.var 1))) (.cons (.ret (.var 2)) .nil))) .nil) (.cons (.asg 3 (.idx (.var 0) (.cst (.str "used")))) (.cons (.setk 0 (.cst (.str "used")) (.bin .add (.var 3) (.cst (.int 1)))) (.cons (.asg 4 (.bin .add (.bin .mul (.cst (.int 59)) (.var 3)) (.cst (.int 17)))) (.cons (.ifs (.cmp (.cmp .ne (.idx (.var 0) (.cst (.str "cells"))) (.lstd .nil))) (.cons (.asg 4 (.idx (.idx (.var 0) (.cst (.str "cells"))) (.bin .mod (.bi .int (.var 3)) (.bi .len (.idx (.var 0) (.cst (.str "cells"))))))) .nil) .nil) (.cons (.ifs (.and (.cmp (.cmp .lt (.var 3) (.bi .len (.idx (.var 0) (.cst (.str "cells")))))) (.cmp (.cmp .ge (.bi .abs (.var 4)) (.bin .pow (.cst (.int 10)) (.cst (.int 18)))))) (.cons (.setk 0 (.cst (.str "left")) (.bin .fdiv (.bin .sub (.bi .abs (.var 4)) (.bin .pow (.cst (.int 10)) (.cst (.int 18)))) (.var 1))) (.cons (.ret (.bin .mod (.bin .sub (.bi .abs (.var 4)) (.bin .pow (.cst (.int 10)) (.cst (.int 18)))) (.var 1))) .nil)) .nil) (.cons (.asg 5 (.bin .mod (.bi .int (.bin .add (.bin .add (.bin .add (.bin .mul (.bin .mod (.bi .int (.var 4)) (.cst (.int 4294967279))) (.cst (.int 48271))) (.bin .mul (.bin .mul (.cst (.int 50021)) (.var 3)) (.var 3))) (.bin .mul (.cst (.int 69621)) (.var 3))) (.cst (.int 13)))) (.cst (.int 4294967231)))) (.cons (.asg 5 (.bin .mod (.bi .int (.bin .add (.bin .add (.bin .add (.bin .mul (.var 5) (.var 5)) (.bin .mul (.cst (.int 40692)) (.var 5))) (.bin .mul (.cst (.int 7)) (.var 3))) (.cst (.int 5)))) (.cst (.int 4294967197)))) (.cons (.ret (.bin .mod (.bi .int (.bin .fdiv (.bin .mod (.bi .int (.bin .mul (.var 5) (.bin .add (.var 5) (.cst (.int 16777259))))) (.cst (.int 4294967189))) (.cst (.int 32)))) (.var 1))) .nil))))))))) }
def d_law_pick : Fd := { np := 2, nn := 2, keep := 2, star := false, body := (.cons (.ret (.idx (.var 1) (.call 42 (.cons (.var 0) (.cons (.bi .len (.var 1)) .nil))))) .nil) }
def d_law_names : Fd := { np := 2, nn := 10, keep := 2, star := false, body := (.cons (.asg 2 (.cst (.str "abcdefghijklmnopqrstuvwxyz"))) (.cons (.asg 3 (.join (.cst (.str "")) (.comp (.call 43 (.cons (.var 0) (.cons (.var 2) .nil))) [4] true (.rng1 (.call 42 (.cons (.var 0) (.cons (.cst (.int 6)) .nil)))) .no [4]))) (.cons (.par [5, 6, 7] (.cons (.call 42 (.cons (.var 0) (.cons (.bin .add (.bi .len (.var 3)) (.cst (.int 1))) .nil))) (.cons (.call 42 (.cons (.var 0) (.cons (.cst (.int 26)) .nil))) (.cons (.call 43 (.cons (.var 0) (.cons (.lstd (.cons (.cst (.int 1)) (.cons (.cst (.int 3)) (.cons (.cst (.int 5)) (.cons (.cst (.int 7)) (.cons (.cst (.int 9)) (.cons (.cst (.int 11)) .nil))))))) .nil))) .nil)))) (.cons (.asg 8 (.comp (.bin .add (.bin .add (.slc (.var 3) .no (.yes (.var 5))) (.idx (.var 2) (.bin .mod (.bi .int (.bin .add (.var 6) (.bin .mul (.var 7) (.var 4)))) (.cst (.int 26))))) (.slc (.var 3) (.yes (.var 5)) .no)) [4] true (.rng1 (.var 1)) .no [4])) (.cons (.ret (.comp (.ife (.cmp (.cmp .ne (.var 9) (.cst (.str "main")))) (.var 9) (.cst (.str "mainly"))) [9] true (.seq (.var 8)) .no [9])) .nil))))) }
def d_law_goals : Fd := { np := 1, nn := 2, keep := 1, star := false, body := (.cons (.asg 1 (.idx (.var 0) (.cst (.int 3)))) (.cons (.ifs (.cmp (.cmp .eq (.idx (.var 1) (.cst (.int 0))) (.cst (.str "give")))) (.cons (.ret (.lstd .nil)) .nil) .nil) (.cons (.ret (.ife (.cmp (.cmp .eq (.idx (.var 1) (.cst (.int 0))) (.cst (.str "go")))) (.lstd (.cons (.idx (.var 1) (.cst (.int 1))) .nil)) (.lstd (.cons (.idx (.var 1) (.cst (.int 2))) (.cons (.idx (.var 1) (.cst (.int 4))) .nil))))) .nil))) }
def d_law_reached : Fd := { np := 3, nn := 7, keep := 3, star := false, body := (.cons (.par [3, 4] (.cons (.lstd .nil) (.cons (.lstd (.cons (.var 1) .nil)) .nil))) (.cons (.whiles (.cmp (.cmp .ne (.var 4) (.lstd .nil))) (.cons (.asg 5 (.mu .pop 4 .nil)) (.cons (.ifs (.and (.cmp (.cmp .ne (.var 5) (.var 2))) (.cmp (.cmp .notin (.var 5) (.var 3)))) (.cons (.expr (.mu .append 3 (.cons (.var 5) .nil))) (.cons (.fors [6] true (.seq (.var 0)) (.cons (.ifs (.cmp (.cmp .eq (.idx (.var 6) (.cst (.int 0))) (.var 5))) (.cons (.expr (.mu .extend 4 (.cons (.call 45 (.cons (.var 6) .nil)) .nil))) .nil) .nil) .nil)) .nil)) .nil) .nil))) (.cons (.ret (.var 3)) .nil))) }
def d_law_there : Fd := { np := 1, nn := 3, keep := 1, star := false, body := (.cons (.asg 1 (.call 46 (.cons (.var 0) (.cons (.idx (.idx (.var 0) (.cst (.int 0))) (.cst (.int 0))) (.cons (.cst .non) .nil))))) (.cons (.ret (.comp (.idx (.var 2) (.cst (.int 0))) [2] true (.seq (.var 0)) (.yes (.cmp (.cmp .isin (.idx (.var 2) (.cst (.int 0))) (.var 1)))) [2])) .nil)) }
def d_law_graph : Fd := { np := 2, nn := 9, keep := 2, star := false, body := (.cons (.par [2, 3] (.cons (.call 44 (.cons (.var 0) (.cons (.bin .add (.cst (.int 1)) (.call 42 (.cons (.var 0) (.cons (.var 1) .nil)))) .nil))) (.cons (.lstd .nil) .nil))) (.cons (.fors [4] true (.rng1 (.bi .len (.var 2))) (.cons (.asg 5 (.bin .add (.bin .mul (.slc (.var 2) (.yes (.bin .add (.var 4) (.cst (.int 1)))) (.yes (.bin .add (.var 4) (.cst (.int 3))))) (.cst (.int 2))) (.slc (.var 2) (.yes (.cst (.int 1))) .no))) (.cons (.par [6, 7] (.cons (.call 42 (.cons (.var 0) (.cons (.cst (.int 6)) .nil))) (.cons (.tupd (.cons (.cst (.str "give")) (.cons (.cst (.str "x")) .nil))) .nil))) (.cons (.ifs (.and (.cmp (.cmp .ne (.var 5) (.lstd .nil))) (.cmp (.cmp .gt (.bin .add (.var 6) (.bi .int (.cmp .eq (.var 4) (.cst (.int 0))))) (.cst (.int 1))))) (.cons (.asg 7 (.tupd (.cons (.cst (.str "go")) (.cons (.call 43 (.cons (.var 0) (.cons (.var 5) .nil))) (.cons (.tupd .nil) .nil))))) (.cons (.ifs (.cmp (.cmp .gt (.var 6) (.cst (.int 2)))) (.cons (.asg 7 (.tupd (.cons (.cst (.str "if")) (.cons (.cst (.str "x")) (.cons (.call 43 (.cons (.var 0) (.cons (.var 5) .nil))) (.cons (.tupd .nil) (.cons (.call 43 (.cons (.var 0) (.cons (.var 5) .nil))) (.cons (.tupd .nil) .nil)))))))) .nil) .nil) .nil)) .nil) (.cons (.asg 8 (.slc (.lstd (.cons (.tupd (.cons (.cst (.str "num")) (.cons (.bin .add (.cst (.str "q")) (.idx (.cst (.str "abcdefghijkl")) (.var 4))) (.cons (.var 4) .nil)))) .nil)) .no (.yes (.call 42 (.cons (.var 0) (.cons (.cst (.int 2)) .nil)))))) (.cons (.expr (.mu .append 3 (.cons (.tupd (.cons (.idx (.var 2) (.var 4)) (.cons (.tupd .nil) (.cons (.bi .tuple (.var 8)) (.cons (.var 7) .nil))))) .nil))) .nil)))))) (.cons (.ret (.bi .tuple (.var 3))) .nil))) }
def d_law_graphs : Fd := { np := 2, nn := 5, keep := 2, star := false, body := (.cons (.asg 2 (.call 43 (.cons (.var 0) (.cons (.lstd (.cons (.cst (.str "a")) (.cons (.cst (.str "graph")) (.cons (.cst (.str "mainz")) (.cons (.cst (.str "z")) .nil))))) .nil)))) (.cons (.asg 3 (.comp (.tupd (.cons (.var 4) (.cons (.tupd (.cons (.cst (.str "x")) .nil)) (.cons (.call 48 (.cons (.var 0) (.cons (.var 1) .nil))) .nil)))) [4] true (.seq (.tupd (.cons (.cst (.str "main")) (.cons (.var 2) .nil)))) .no [4])) (.cons (.ret (.tupd (.cons (.tupd .nil) (.cons (.bi .tuple (.bi .sorted (.var 3))) .nil)))) .nil))) }
def d_found_from : Fd := { np := 3, nn := 7, keep := 3, star := false, body := (.cons (.asg 3 (.ife (.cmp (.cmp .eq (.var 1) (.var 2))) (.dctd .nil) (.dctd (.cons (.var 1) (.cst .non) .nil)))) (.cons (.asg 4 (.bi .list (.var 3))) (.cons (.whiles (.cmp (.cmp .ne (.var 4) (.lstd .nil))) (.cons (.asg 5 (.mu .popAt 4 (.cons (.cst (.int 0)) .nil))) (.cons (.fors [6] true (.seq (.call 14 (.cons (.call 13 (.cons (.var 0) (.cons (.var 5) .nil))) .nil))) (.cons (.ifs (.and (.cmp (.cmp .ne (.var 6) (.var 2))) (.cmp (.cmp .notin (.var 6) (.var 3)))) (.cons (.setk 3 (.var 6) (.var 5)) (.cons (.expr (.mu .append 4 (.cons (.var 6) .nil))) .nil)) .nil) .nil)) .nil))) (.cons (.ret (.var 3)) .nil)))) }
def d_dominates : Fd := { np := 4, nn := 4, keep := 4, star := false, body := (.cons (.ret (.cmp .isin (.var 3) (.idx (.call 17 (.cons (.call 39 (.cons (.var 0) (.cons (.var 1) (.cons (.var 2) (.cons (.var 3) .nil))))) .nil)) (.var 2)))) .nil) }
def d_way_around : Fd := { np := 4, nn := 7, keep := 4, star := false, body := (.cons (.asg 4 (.call 39 (.cons (.var 0) (.cons (.var 1) (.cons (.var 2) (.cons (.var 3) .nil)))))) (.cons (.asg 5 (.call 60 (.cons (.var 4) (.cons (.idx (.idx (.idx (.var 4) (.cst (.int 2))) (.cst (.int 0))) (.cst (.int 0))) (.cons (.var 2) .nil))))) (.cons (.ifs (.cmp (.cmp .notin (.var 3) (.var 5))) (.cons (.ret (.cst .non)) .nil) .nil) (.cons (.asg 6 (.lstd (.cons (.var 3) .nil))) (.cons (.whiles (.cmp (.isNN (.idx (.var 5) (.idx (.var 6) (.neg (.cst (.int 1))))))) (.cons (.expr (.mu .append 6 (.cons (.idx (.var 5) (.idx (.var 6) (.neg (.cst (.int 1))))) .nil))) .nil)) (.cons (.ret (.rev (.var 6))) .nil)))))) }
def d_law_arrows : Fd := { np := 1, nn := 5, keep := 1, star := false, body := (.cons (.par [1, 2] (.cons (.call 47 (.cons (.var 0) .nil)) (.cons (.lstd .nil) .nil))) (.cons (.fors [3] true (.seq (.var 0)) (.cons (.ifs (.cmp (.cmp .isin (.idx (.var 3) (.cst (.int 0))) (.var 1))) (.cons (.expr (.mu .extend 2 (.cons (.comp (.tupd (.cons (.idx (.var 3) (.cst (.int 0))) (.cons (.var 4) .nil))) [4] true (.seq (.call 45 (.cons (.var 3) .nil))) .no [4]) .nil))) .nil) .nil) .nil)) (.cons (.ret (.var 2)) .nil))) }
def d_law_over : Fd := { np := 1, nn := 6, keep := 1, star := false, body := (.cons (.par [1, 2] (.cons (.call 47 (.cons (.var 0) .nil)) (.cons (.dctd .nil) .nil))) (.cons (.fors [3] true (.seq (.var 1)) (.cons (.asg 4 (.call 46 (.cons (.var 0) (.cons (.idx (.idx (.var 0) (.cst (.int 0))) (.cst (.int 0))) (.cons (.var 3) .nil))))) (.cons (.setk 2 (.var 3) (.comp (.var 5) [5] true (.seq (.var 1)) (.yes (.cmp (.cmp .notin (.var 5) (.var 4)))) [5])) .nil))) (.cons (.ret (.var 2)) .nil))) }
def d_law_pairs : Fd := { np := 3, nn := 7, keep := 3, star := false, body := (.cons (.asg 3 (.lstd .nil)) (.cons (.fors [4] true (.seq (.var 1)) (.cons (.expr (.mu .extend 3 (.cons (.comp (.tupd (.cons (.var 4) (.cons (.var 5) .nil))) [5] true (.seq (.var 1)) .no [5]) .nil))) .nil)) (.cons (.ret (.ife (.cmp (.cmp .le (.bi .len (.var 3)) (.var 2))) (.var 3) (.comp (.call 43 (.cons (.var 0) (.cons (.var 3) .nil))) [6] true (.rng1 (.var 2)) .no [6]))) .nil))) }
def d_law_is_way : Fd := { np := 4, nn := 6, keep := 4, star := false, body := (.cons (.asg 4 (.call 58 (.cons (.var 0) .nil))) (.cons (.ifs (.or (.not (.val (.bi .isList (.var 1)))) (.or (.cmp (.cmp .eq (.var 1) (.lstd .nil))) (.cmp (.cmp .isin (.var 3) (.var 1))))) (.cons (.ret (.cst (.bl false))) .nil) .nil) (.cons (.ifs (.or (.cmp (.cmp .ne (.idx (.var 1) (.cst (.int 0))) (.idx (.idx (.var 0) (.cst (.int 0))) (.cst (.int 0))))) (.cmp (.cmp .ne (.idx (.var 1) (.neg (.cst (.int 1)))) (.var 2)))) (.cons (.ret (.cst (.bl false))) .nil) .nil) (.cons (.ret (.cmp .eq (.comp (.var 5) [5] true (.rng2 (.cst (.int 1)) (.bi .len (.var 1))) (.yes (.cmp (.cmp .notin (.tupd (.cons (.idx (.var 1) (.bin .sub (.var 5) (.cst (.int 1)))) (.cons (.idx (.var 1) (.var 5)) .nil))) (.var 4)))) [5]) (.lstd .nil))) .nil)))) }
def d_dominators_in : Fd := { np := 1, nn := 8, keep := 1, star := false, body := (.cons (.par [1, 2] (.cons (.call 17 (.cons (.var 0) .nil)) (.cons (.dctd .nil) .nil))) (.cons (.fors [3] true (.seq (.var 1)) (.cons (.asg 4 (.comp (.var 5) [5] true (.seq (.var 1)) (.yes (.and (.cmp (.cmp .ne (.var 5) (.var 3))) (.cmp (.cmp .isin (.var 3) (.idx (.var 1) (.var 5)))))) [5])) (.cons (.asg 6 (.comp (.var 5) [5] true (.seq (.var 4)) (.yes (.val (.bi .all (.comp (.cmp .isin (.var 5) (.idx (.var 1) (.var 7))) [7] true (.seq (.var 4)) .no [7])))) [5])) (.cons (.setk 2 (.var 3) (.ife (.cmp (.cmp .ne (.var 6) (.lstd .nil))) (.idx (.var 6) (.cst (.int 0))) (.cst .non))) .nil)))) (.cons (.ret (.var 2)) .nil))) }
def d_immediate_dominator : Fd := { np := 3, nn := 3, keep := 3, star := false, body := (.cons (.ret (.idx (.call 51 (.cons (.call 39 (.cons (.var 0) (.cons (.var 1) (.cons (.var 2) .nil)))) .nil)) (.var 2))) .nil) }
def d_law_above : Fd := { np := 2, nn := 6, keep := 2, star := false, body := (.cons (.asg 2 (.comp (.var 3) [3] true (.seq (.var 0)) (.yes (.and (.cmp (.cmp .ne (.var 3) (.var 1))) (.cmp (.cmp .isin (.var 1) (.idx (.var 0) (.var 3)))))) [3])) (.cons (.asg 4 (.comp (.var 3) [3] true (.seq (.var 2)) (.yes (.cmp (.cmp .eq (.comp (.var 5) [5] true (.seq (.var 2)) (.yes (.cmp (.cmp .notin (.var 3) (.idx (.var 0) (.var 5))))) [5]) (.lstd .nil)))) [3])) (.cons (.ret (.ife (.cmp (.cmp .ne (.var 4) (.lstd .nil))) (.idx (.var 4) (.cst (.int 0))) (.cst .non))) .nil))) }
def d_edges_of : Fd := { np := 1, nn := 5, keep := 1, star := false, body := (.cons (.asg 1 (.lstd .nil)) (.cons (.fors [2] true (.seq (.call 16 (.cons (.var 0) .nil))) (.cons (.fors [3, 4] false (.enum (.call 14 (.cons (.call 13 (.cons (.var 0) (.cons (.var 2) .nil))) .nil))) (.cons (.expr (.mu .append 1 (.cons (.tupd (.cons (.var 2) (.cons (.var 3) (.cons (.var 4) .nil)))) .nil))) .nil)) .nil)) (.cons (.ret (.var 1)) .nil))) }
def d_frontiers_in : Fd := { np := 1, nn := 11, keep := 1, star := false, body := (.cons (.par [1, 2, 3] (.cons (.call 17 (.cons (.var 0) .nil)) (.cons (.call 55 (.cons (.var 0) .nil)) (.cons (.dctd .nil) .nil)))) (.cons (.fors [4] true (.seq (.var 1)) (.cons (.asg 5 (.comp (.var 8) [6, 7, 8] false (.seq (.var 2)) (.yes (.cmp (.cmp .isin (.var 6) (.idx (.var 1) (.var 4))))) [6, 7, 8])) (.cons (.asg 9 (.comp (.var 10) [10] true (.seq (.var 1)) (.yes (.or (.cmp (.cmp .eq (.var 10) (.var 4))) (.cmp (.cmp .notin (.var 10) (.idx (.var 1) (.var 4)))))) [10])) (.cons (.setk 3 (.var 4) (.comp (.var 10) [10] true (.seq (.var 9)) (.yes (.cmp (.cmp .isin (.var 10) (.var 5)))) [10])) .nil)))) (.cons (.ret (.var 3)) .nil))) }
def d_frontier : Fd := { np := 3, nn := 3, keep := 3, star := false, body := (.cons (.ret (.idx (.call 56 (.cons (.call 39 (.cons (.var 0) (.cons (.var 1) (.cons (.var 2) .nil)))) .nil)) (.var 2))) .nil) }
def d_law_border : Fd := { np := 3, nn := 9, keep := 3, star := false, body := (.cons (.par [3, 4] (.cons (.call 58 (.cons (.var 0) .nil)) (.cons (.lstd .nil) .nil))) (.cons (.fors [5] true (.seq (.var 1)) (.cons (.asg 6 (.comp (.var 7) [7, 8] false (.seq (.var 3)) (.yes (.and (.cmp (.cmp .eq (.var 8) (.var 5))) (.cmp (.cmp .isin (.var 7) (.idx (.var 1) (.var 2)))))) [7, 8])) (.cons (.ifs (.and (.cmp (.cmp .ne (.var 6) (.lstd .nil))) (.or (.cmp (.cmp .eq (.var 5) (.var 2))) (.cmp (.cmp .notin (.var 5) (.idx (.var 1) (.var 2)))))) (.cons (.expr (.mu .append 4 (.cons (.var 5) .nil))) .nil) .nil) .nil))) (.cons (.ret (.var 4)) .nil))) }
def d_gives_from : Fd := { np := 3, nn := 4, keep := 3, star := false, body := (.cons (.ret (.bi .any (.comp (.cmp .eq (.idx (.idx (.call 13 (.cons (.var 0) (.cons (.var 3) .nil))) (.cst (.int 3))) (.cst (.int 0))) (.cst (.str "give"))) [3] true (.seq (.call 60 (.cons (.var 0) (.cons (.var 1) (.cons (.var 2) .nil))))) .no [3]))) .nil) }
def d_post_dominates : Fd := { np := 4, nn := 5, keep := 4, star := false, body := (.cons (.asg 4 (.call 39 (.cons (.var 0) (.cons (.var 1) (.cons (.var 2) (.cons (.var 3) .nil)))))) (.cons (.ret (.andv (.call 61 (.cons (.var 4) (.cons (.var 3) (.cons (.cst .non) .nil)))) (.notv (.call 61 (.cons (.var 4) (.cons (.var 3) (.cons (.var 2) .nil))))))) .nil)) }
def d_law_gives : Fd := { np := 3, nn := 5, keep := 3, star := false, body := (.cons (.asg 3 (.call 46 (.cons (.var 0) (.cons (.var 1) (.cons (.var 2) .nil))))) (.cons (.ret (.cmp .ne (.comp (.var 4) [4] true (.seq (.var 0)) (.yes (.and (.cmp (.cmp .isin (.idx (.var 4) (.cst (.int 0))) (.var 3))) (.cmp (.cmp .eq (.idx (.idx (.var 4) (.cst (.int 3))) (.cst (.int 0))) (.cst (.str "give")))))) [4]) (.lstd .nil))) .nil)) }
def d_back_edges_in : Fd := { np := 1, nn := 3, keep := 1, star := false, body := (.cons (.asg 1 (.call 17 (.cons (.var 0) .nil))) (.cons (.ret (.comp (.var 2) [2] true (.seq (.call 55 (.cons (.var 0) .nil))) (.yes (.cmp (.cmp .isin (.idx (.var 2) (.cst (.int 0))) (.idx (.var 1) (.idx (.var 2) (.cst (.int 2))))))) [2])) .nil)) }
def d_loop_in : Fd := { np := 3, nn := 9, keep := 3, star := false, body := (.cons (.par [3, 4] (.cons (.dctd (.cons (.var 1) (.cst (.bl true)) .nil)) (.cons (.bi .list (.var 2)) .nil))) (.cons (.whiles (.cmp (.cmp .ne (.var 4) (.lstd .nil))) (.cons (.asg 5 (.mu .pop 4 .nil)) (.cons (.ifs (.cmp (.cmp .notin (.var 5) (.var 3))) (.cons (.setk 3 (.var 5) (.cst (.bl true))) (.cons (.expr (.mu .extend 4 (.cons (.comp (.var 6) [6, 7, 8] false (.seq (.call 55 (.cons (.var 0) .nil))) (.yes (.cmp (.cmp .eq (.var 8) (.var 5)))) [6, 7, 8]) .nil))) .nil)) .nil) .nil))) (.cons (.ret (.bi .tuple (.comp (.var 5) [5] true (.seq (.call 16 (.cons (.var 0) .nil))) (.yes (.cmp (.cmp .isin (.var 5) (.var 3)))) [5]))) .nil))) }
def d_loops_in : Fd := { np := 1, nn := 8, keep := 1, star := false, body := (.cons (.par [1, 2] (.cons (.call 65 (.cons (.var 0) .nil)) (.cons (.lstd .nil) .nil))) (.cons (.fors [3] true (.seq (.call 16 (.cons (.var 0) .nil))) (.cons (.asg 4 (.comp (.var 5) [5, 6, 7] false (.seq (.var 1)) (.yes (.cmp (.cmp .eq (.var 7) (.var 3)))) [5, 6, 7])) (.cons (.ifs (.cmp (.cmp .ne (.var 4) (.lstd .nil))) (.cons (.expr (.mu .append 2 (.cons (.tupd (.cons (.var 3) (.cons (.call 66 (.cons (.var 0) (.cons (.var 3) (.cons (.var 4) .nil)))) .nil))) .nil))) .nil) .nil) .nil))) (.cons (.ret (.var 2)) .nil))) }
def d_loops : Fd := { np := 2, nn := 2, keep := 2, star := false, body := (.cons (.ret (.call 67 (.cons (.call 39 (.cons (.var 0) (.cons (.var 1) .nil))) .nil))) .nil) }
def d_depth : Fd := { np := 3, nn := 5, keep := 3, star := false, body := (.cons (.ret (.bi .len (.comp (.var 3) [3, 4] false (.seq (.call 67 (.cons (.call 39 (.cons (.var 0) (.cons (.var 1) (.cons (.var 2) .nil)))) .nil))) (.yes (.cmp (.cmp .isin (.var 2) (.var 4)))) [3, 4]))) .nil) }
def d_law_rounds : Fd := { np := 1, nn := 11, keep := 1, star := false, body := (.cons (.par [1, 2, 3] (.cons (.call 53 (.cons (.var 0) .nil)) (.cons (.call 58 (.cons (.var 0) .nil)) (.cons (.lstd .nil) .nil)))) (.cons (.fors [4] true (.seq (.var 1)) (.cons (.asg 5 (.comp (.var 6) [6, 7] false (.seq (.var 2)) (.yes (.and (.cmp (.cmp .eq (.var 7) (.var 4))) (.cmp (.cmp .isin (.var 6) (.idx (.var 1) (.var 4)))))) [6, 7])) (.cons (.ifs (.cmp (.cmp .ne (.var 5) (.lstd .nil))) (.cons (.asg 8 (.lstd (.cons (.var 4) .nil))) (.cons (.fors [9] true (.seq (.var 1)) (.cons (.asg 10 (.call 46 (.cons (.var 0) (.cons (.var 9) (.cons (.var 4) .nil))))) (.cons (.ifs (.cmp (.cmp .ne (.comp (.var 6) [6] true (.seq (.var 5)) (.yes (.cmp (.cmp .isin (.var 6) (.var 10)))) [6]) (.lstd .nil))) (.cons (.expr (.mu .append 8 (.cons (.var 9) .nil))) .nil) .nil) .nil))) (.cons (.expr (.mu .append 3 (.cons (.tupd (.cons (.var 4) (.cons (.bi .tuple (.comp (.var 9) [9] true (.seq (.var 1)) (.yes (.cmp (.cmp .isin (.var 9) (.var 8)))) [9])) .nil))) .nil))) .nil))) .nil) .nil))) (.cons (.ret (.var 3)) .nil))) }
def d_is_reducible : Fd := { np := 2, nn := 11, keep := 2, star := false, body := (.cons (.asg 2 (.call 39 (.cons (.var 0) (.cons (.var 1) .nil)))) (.cons (.asg 3 (.call 65 (.cons (.var 2) .nil))) (.cons (.asg 4 (.comp (.tupd (.cons (.var 5) (.cons (.var 7) .nil))) [5, 6, 7] false (.seq (.call 55 (.cons (.var 2) .nil))) (.yes (.cmp (.cmp .notin (.tupd (.cons (.var 5) (.cons (.var 6) (.cons (.var 7) .nil)))) (.var 3)))) [5, 6, 7])) (.cons (.asg 8 (.call 16 (.cons (.var 2) .nil))) (.cons (.whiles (.cmp (.cmp .ne (.var 8) (.lstd .nil))) (.cons (.asg 9 (.comp (.var 10) [10] true (.seq (.var 8)) (.yes (.cmp (.cmp .eq (.comp (.var 5) [5, 7] false (.seq (.var 4)) (.yes (.and (.cmp (.cmp .eq (.var 7) (.var 10))) (.cmp (.cmp .isin (.var 5) (.var 8))))) [5, 7]) (.lstd .nil)))) [10])) (.cons (.ifs (.cmp (.cmp .eq (.var 9) (.lstd .nil))) (.cons (.ret (.cst (.bl false))) .nil) .nil) (.cons (.asg 8 (.comp (.var 10) [10] true (.seq (.var 8)) (.yes (.cmp (.cmp .notin (.var 10) (.var 9)))) [10])) .nil)))) (.cons (.ret (.cst (.bl true))) .nil)))))) }
def d_law_is_calm : Fd := { np := 1, nn := 9, keep := 1, star := false, body := (.cons (.asg 1 (.call 53 (.cons (.var 0) .nil))) (.cons (.asg 2 (.comp (.tupd (.cons (.var 3) (.cons (.var 4) .nil))) [3, 4] false (.seq (.call 58 (.cons (.var 0) .nil))) (.yes (.cmp (.cmp .notin (.var 3) (.idx (.var 1) (.var 4))))) [3, 4])) (.cons (.fors [5] true (.seq (.var 1)) (.cons (.par [6, 7] (.cons (.lstd .nil) (.cons (.comp (.var 4) [3, 4] false (.seq (.var 2)) (.yes (.cmp (.cmp .eq (.var 3) (.var 5)))) [3, 4]) .nil))) (.cons (.whiles (.cmp (.cmp .ne (.var 7) (.lstd .nil))) (.cons (.asg 8 (.mu .pop 7 .nil)) (.cons (.ifs (.cmp (.cmp .notin (.var 8) (.var 6))) (.cons (.expr (.mu .append 6 (.cons (.var 8) .nil))) (.cons (.expr (.mu .extend 7 (.cons (.comp (.var 4) [3, 4] false (.seq (.var 2)) (.yes (.cmp (.cmp .eq (.var 3) (.var 8)))) [3, 4]) .nil))) .nil)) .nil) .nil))) (.cons (.ifs (.cmp (.cmp .isin (.var 5) (.var 6))) (.cons (.ret (.cst (.bl false))) .nil) .nil) .nil)))) (.cons (.ret (.cst (.bl true))) .nil)))) }
def gcs : List D := [(.str "abcdefghijklmnopqrstuvwxyz"), (.int 8), (.int 10000000000000000000000000000000000000000), (.int 8), (.int 6), (.int 8), (.int 4), (.int 12), (.int 6), (.int 40), (.int 120), (.int 60), (.int 20000), (.int 40)]
def gds : List (List (Key × D)) := [[(.inr (Str.ofString "num"), (.tup [(.str "define"), (.str "integer")])), (.inr (Str.ofString "none"), (.tup [(.str "define")])), (.inr (Str.ofString "fun"), (.tup [(.str "define"), (.str "function")])), (.inr (Str.ofString "add"), (.tup [(.str "define"), (.str "use"), (.str "use")])), (.inr (Str.ofString "sub"), (.tup [(.str "define"), (.str "use"), (.str "use")])), (.inr (Str.ofString "mul"), (.tup [(.str "define"), (.str "use"), (.str "use")])), (.inr (Str.ofString "less"), (.tup [(.str "define"), (.str "use"), (.str "use")])), (.inr (Str.ofString "same"), (.tup [(.str "define"), (.str "use"), (.str "use")])), (.inr (Str.ofString "not"), (.tup [(.str "define"), (.str "use")])), (.inr (Str.ofString "new"), (.tup [(.str "define"), (.str "kind")])), (.inr (Str.ofString "row"), (.tup [(.str "define"), (.str "use")])), (.inr (Str.ofString "get"), (.tup [(.str "define"), (.str "use"), (.str "field")])), (.inr (Str.ofString "put"), (.tup [(.str "use"), (.str "field"), (.str "use")])), (.inr (Str.ofString "at"), (.tup [(.str "define"), (.str "use"), (.str "use")])), (.inr (Str.ofString "set"), (.tup [(.str "use"), (.str "use"), (.str "use")])), (.inr (Str.ofString "call"), (.tup [(.str "define"), (.str "function"), (.str "args")])), (.inr (Str.ofString "ask"), (.tup [(.str "define"), (.str "use"), (.str "args")])), (.inr (Str.ofString "show"), (.tup [(.str "use")]))], [(.inr (Str.ofString "go"), (.tup [(.str "block"), (.str "args")])), (.inr (Str.ofString "if"), (.tup [(.str "use"), (.str "block"), (.str "args"), (.str "block"), (.str "args")])), (.inr (Str.ofString "give"), (.tup [(.str "use")]))]]
/-- a table that has the shared defs -/
structure Tab (ft : Nat → Option Fd) : Prop where
  is_integer : ft 0 = some d_is_integer
  is_between : ft 1 = some d_is_between
  is_name : ft 2 = some d_is_name
  is_tuple : ft 3 = some d_is_tuple
  are_names : ft 4 = some d_are_names
  fits_part : ft 5 = some d_fits_part
  fits_shape : ft 6 = some d_fits_shape
  parts_of : ft 7 = some d_parts_of
  part_of : ft 8 = some d_part_of
  defined_by : ft 9 = some d_defined_by
  used_by : ft 10 = some d_used_by
  arms_of : ft 11 = some d_arms_of
  names_of : ft 12 = some d_names_of
  block_of : ft 13 = some d_block_of
  goals_of : ft 14 = some d_goals_of
  reached_without : ft 15 = some d_reached_without
  reached_in : ft 16 = some d_reached_in
  covered_by : ft 17 = some d_covered_by
  is_function_form : ft 19 = some d_is_function_form
  is_block_form : ft 20 = some d_is_block_form
  row_fault : ft 21 = some d_row_fault
  block_fault : ft 22 = some d_block_fault
  places_in : ft 23 = some d_places_in
  instruction_fault : ft 24 = some d_instruction_fault
  parameters_of : ft 25 = some d_parameters_of
  arms_fit : ft 26 = some d_arms_fit
  names_fit : ft 27 = some d_names_fit
  name_fault : ft 28 = some d_name_fault
  definitions_of : ft 29 = some d_definitions_of
  twice_fault : ft 30 = some d_twice_fault
  is_covered : ft 31 = some d_is_covered
  use_fault : ft 32 = some d_use_fault
  has_form : ft 33 = some d_has_form
  form_error : ft 34 = some d_form_error
  module_error : ft 35 = some d_module_error
  require_module : ft 36 = some d_require_module
  function_of : ft 37 = some d_function_of
  require_block : ft 38 = some d_require_block
  parts_for : ft 39 = some d_parts_for
  law_pen : ft 41 = some d_law_pen
  law_draw : ft 42 = some d_law_draw
  law_pick : ft 43 = some d_law_pick
  law_names : ft 44 = some d_law_names
  law_goals : ft 45 = some d_law_goals
  law_reached : ft 46 = some d_law_reached
  law_there : ft 47 = some d_law_there
  law_graph : ft 48 = some d_law_graph
  law_graphs : ft 49 = some d_law_graphs
end Ev.G
section
namespace Ev.K20
open PySem L2
/-! the defs as terms -/
def d_law : Fd := { np := 1, nn := 12, keep := 1, star := false, body := (.cons (.asg 1 (.call 41 (.cons (.var 0) .nil))) (.cons (.fors [2] true (.rng1 (.cst (.int 5))) (.cons (.asg 3 (.call 49 (.cons (.var 1) (.cons (.call 43 (.cons (.var 1) (.cons (.lstd (.cons (.cst (.int 4)) (.cons (.cst (.int 4)) (.cons (.cst (.int 7)) (.cons (.cst (.int 12)) .nil))))) .nil))) .nil)))) (.cons (.fors [4, 5, 6] false (.seq (.idx (.var 3) (.cst (.int 1)))) (.cons (.asg 7 (.call 53 (.cons (.var 6) .nil))) (.cons (.fors [8, 9] false (.seq (.call 63 (.cons (.var 1) (.cons (.bi .list (.var 7)) (.cons (.cst (.int 12)) .nil))))) (.cons (.par [10, 11] (.cons (.cmp .isin (.var 9) (.idx (.var 7) (.var 8))) (.cons (.call 79 (.cons (.var 3) (.cons (.var 4) (.cons (.var 8) (.cons (.var 9) .nil))))) .nil))) (.cons (.ifs (.or (.cmp (.cmp .ne (.bi .repr (.call 73 (.cons (.var 3) (.cons (.var 4) (.cons (.var 8) (.cons (.var 9) .nil)))))) (.bi .repr (.var 10)))) (.cmp (.cmp .ne (.isN (.var 11)) (.var 10)))) (.cons (.ret (.cst (.bl false))) .nil) .nil) (.cons (.ifs (.and (.cmp (.isNN (.var 11))) (.not (.val (.call 90 (.cons (.var 6) (.cons (.var 11) (.cons (.var 9) (.cons (.var 8) .nil)))))))) (.cons (.ret (.cst (.bl false))) .nil) .nil) .nil)))) .nil))) .nil))) (.cons (.ret (.cst (.bl true))) .nil))) }
abbrev gcs := Ev.G.gcs
abbrev gds := Ev.G.gds
end Ev.K20
end
section
set_option maxHeartbeats 0
namespace Ev.K20
open PySem PySem.Spec PyProof.Rows L2
def top (i : Nat) : Stmt := PySem.Challenge.pw_clobberwalk_k20_dominating_blocks.main.body.getD i (.Pass ⟨0, 0, 0, 0⟩)
def x_is_integer : Df := ⟨Ev.G.d_is_integer, ["value"], ["value"], "is_integer", defArgs (top 6), defBody (top 6), defScope (top 6)⟩
def x_is_between : Df := ⟨Ev.G.d_is_between, ["value", "least", "greatest"], ["value", "least", "greatest"], "is_between", defArgs (top 7), defBody (top 7), defScope (top 7)⟩
def x_is_name : Df := ⟨Ev.G.d_is_name, ["value", "letter"], ["value"], "is_name", defArgs (top 8), defBody (top 8), defScope (top 8)⟩
def x_is_tuple : Df := ⟨Ev.G.d_is_tuple, ["value", "least", "greatest"], ["value", "least", "greatest"], "is_tuple", defArgs (top 9), defBody (top 9), defScope (top 9)⟩
def x_are_names : Df := ⟨Ev.G.d_are_names, ["value", "least", "greatest", "part"], ["value", "least", "greatest"], "are_names", defArgs (top 10), defBody (top 10), defScope (top 10)⟩
def x_fits_part : Df := ⟨Ev.G.d_fits_part, ["sort", "value"], ["sort", "value"], "fits_part", defArgs (top 17), defBody (top 17), defScope (top 17)⟩
def x_fits_shape : Df := ⟨Ev.G.d_fits_shape, ["shapes", "value", "sorts", "sort", "part"], ["shapes", "value"], "fits_shape", defArgs (top 18), defBody (top 18), defScope (top 18)⟩
def x_parts_of : Df := ⟨Ev.G.d_parts_of, ["instruction", "sorts"], ["instruction"], "parts_of", defArgs (top 19), defBody (top 19), defScope (top 19)⟩
def x_part_of : Df := ⟨Ev.G.d_part_of, ["instruction", "wanted", "found", "sort", "part"], ["instruction", "wanted"], "part_of", defArgs (top 20), defBody (top 20), defScope (top 20)⟩
def x_defined_by : Df := ⟨Ev.G.d_defined_by, ["instruction"], ["instruction"], "defined_by", defArgs (top 21), defBody (top 21), defScope (top 21)⟩
def x_used_by : Df := ⟨Ev.G.d_used_by, ["instruction", "found", "sort", "part"], ["instruction"], "used_by", defArgs (top 22), defBody (top 22), defScope (top 22)⟩
def x_arms_of : Df := ⟨Ev.G.d_arms_of, ["end", "parts", "sort", "part"], ["end"], "arms_of", defArgs (top 23), defBody (top 23), defScope (top 23)⟩
def x_names_of : Df := ⟨Ev.G.d_names_of, ["function", "block"], ["function"], "names_of", defArgs (top 25), defBody (top 25), defScope (top 25)⟩
def x_block_of : Df := ⟨Ev.G.d_block_of, ["function", "name", "block"], ["function", "name"], "block_of", defArgs (top 26), defBody (top 26), defScope (top 26)⟩
def x_goals_of : Df := ⟨Ev.G.d_goals_of, ["block", "goal", "args"], ["block"], "goals_of", defArgs (top 27), defBody (top 27), defScope (top 27)⟩
def x_reached_without : Df := ⟨Ev.G.d_reached_without, ["function", "hidden", "entry", "found", "at", "goal"], ["function", "hidden"], "reached_without", defArgs (top 28), defBody (top 28), defScope (top 28)⟩
def x_reached_in : Df := ⟨Ev.G.d_reached_in, ["function", "found", "name"], ["function"], "reached_in", defArgs (top 29), defBody (top 29), defScope (top 29)⟩
def x_covered_by : Df := ⟨Ev.G.d_covered_by, ["function", "every", "found", "name", "others", "other"], ["function"], "covered_by", defArgs (top 30), defBody (top 30), defScope (top 30)⟩
def x_is_function_form : Df := ⟨Ev.G.d_is_function_form, ["value"], ["value"], "is_function_form", defArgs (top 33), defBody (top 33), defScope (top 33)⟩
def x_is_block_form : Df := ⟨Ev.G.d_is_block_form, ["value"], ["value"], "is_block_form", defArgs (top 34), defBody (top 34), defScope (top 34)⟩
def x_row_fault : Df := ⟨Ev.G.d_row_fault, ["word", "rows", "fits", "at", "row"], ["word", "rows", "fits"], "row_fault", defArgs (top 35), defBody (top 35), defScope (top 35)⟩
def x_block_fault : Df := ⟨Ev.G.d_block_fault, ["functions", "f", "function", "names", "b", "block"], ["functions"], "block_fault", defArgs (top 36), defBody (top 36), defScope (top 36)⟩
def x_places_in : Df := ⟨Ev.G.d_places_in, ["functions", "found", "f", "function", "b", "block", "i", "instruction"], ["functions"], "places_in", defArgs (top 37), defBody (top 37), defScope (top 37)⟩
def x_instruction_fault : Df := ⟨Ev.G.d_instruction_fault, ["functions", "f", "b", "i", "instruction", "shapes"], ["functions"], "instruction_fault", defArgs (top 38), defBody (top 38), defScope (top 38)⟩
def x_parameters_of : Df := ⟨Ev.G.d_parameters_of, ["functions", "name", "found", "function"], ["functions", "name"], "parameters_of", defArgs (top 39), defBody (top 39), defScope (top 39)⟩
def x_arms_fit : Df := ⟨Ev.G.d_arms_fit, ["function", "end", "counts", "block", "goal", "args"], ["function", "end"], "arms_fit", defArgs (top 40), defBody (top 40), defScope (top 40)⟩
def x_names_fit : Df := ⟨Ev.G.d_names_fit, ["module", "function", "instruction", "kinds", "functions", "word", "kind", "wanted"], ["module", "function", "instruction"], "names_fit", defArgs (top 41), defBody (top 41), defScope (top 41)⟩
def x_name_fault : Df := ⟨Ev.G.d_name_fault, ["module", "f", "b", "i", "instruction"], ["module"], "name_fault", defArgs (top 42), defBody (top 42), defScope (top 42)⟩
def x_definitions_of : Df := ⟨Ev.G.d_definitions_of, ["function", "found", "name", "block", "index", "instruction"], ["function"], "definitions_of", defArgs (top 43), defBody (top 43), defScope (top 43)⟩
def x_twice_fault : Df := ⟨Ev.G.d_twice_fault, ["functions", "f", "function", "names", "name", "block", "index", "at"], ["functions"], "twice_fault", defArgs (top 44), defBody (top 44), defScope (top 44)⟩
def x_is_covered : Df := ⟨Ev.G.d_is_covered, ["definition", "block", "index", "covered", "name", "own_block", "own_index"], ["definition", "block", "index", "covered"], "is_covered", defArgs (top 45), defBody (top 45), defScope (top 45)⟩
def x_use_fault : Df := ⟨Ev.G.d_use_fault, ["functions", "f", "function", "defined", "row", "covered", "every", "b", "block", "i", "instruction", "name", "is_fine"], ["functions"], "use_fault", defArgs (top 46), defBody (top 46), defScope (top 46)⟩
def x_has_form : Df := ⟨Ev.G.d_has_form, ["value"], ["value"], "has_form", defArgs (top 47), defBody (top 47), defScope (top 47)⟩
def x_form_error : Df := ⟨Ev.G.d_form_error, ["value", "kinds", "functions", "fault"], ["value"], "form_error", defArgs (top 48), defBody (top 48), defScope (top 48)⟩
def x_module_error : Df := ⟨Ev.G.d_module_error, ["value", "fault", "functions", "function"], ["value"], "module_error", defArgs (top 49), defBody (top 49), defScope (top 49)⟩
def x_require_module : Df := ⟨Ev.G.d_require_module, ["value", "reason"], ["value"], "require_module", defArgs (top 50), defBody (top 50), defScope (top 50)⟩
def x_function_of : Df := ⟨Ev.G.d_function_of, ["module", "name", "found", "function"], ["module", "name"], "function_of", defArgs (top 51), defBody (top 51), defScope (top 51)⟩
def x_require_block : Df := ⟨Ev.G.d_require_block, ["function", "name"], ["function", "name"], "require_block", defArgs (top 53), defBody (top 53), defScope (top 53)⟩
def x_parts_for : Df := ⟨Ev.G.d_parts_for, ["module", "f", "names", "function", "name"], ["module", "f", "names"], "parts_for", defArgs (top 54), defBody (top 54), defScope (top 54)⟩
def x_found_from : Df := ⟨Ev.G.d_found_from, ["function", "start", "hidden", "before", "left", "name", "goal"], ["function", "start", "hidden"], "found_from", defArgs (top 55), defBody (top 55), defScope (top 55)⟩
def x_dominates : Df := ⟨Ev.G.d_dominates, ["module", "f", "block", "other"], ["module", "f", "block", "other"], "dominates", defArgs (top 56), defBody (top 56), defScope (top 56)⟩
def x_way_around : Df := ⟨Ev.G.d_way_around, ["module", "f", "block", "other", "function", "before", "found"], ["module", "f", "block", "other"], "way_around", defArgs (top 57), defBody (top 57), defScope (top 57)⟩
def x_law_pen : Df := ⟨Ev.G.d_law_pen, ["_law_script"], ["_law_script"], "_law_pen", defArgs (top 59), defBody (top 59), defScope (top 59)⟩
def x_law_draw : Df := ⟨Ev.G.d_law_draw, ["_law_pen_here", "_law_many", "_law_digit", "_law_k", "_law_cell", "_law_mixed"], ["_law_pen_here", "_law_many"], "_law_draw", defArgs (top 60), defBody (top 60), defScope (top 60)⟩
def x_law_pick : Df := ⟨Ev.G.d_law_pick, ["_law_pen_here", "_law_options"], ["_law_pen_here", "_law_options"], "_law_pick", defArgs (top 61), defBody (top 61), defScope (top 61)⟩
def x_law_names : Df := ⟨Ev.G.d_law_names, ["_law_pen_here", "_law_many", "_law_letters", "_law_stem", "_law_k", "_law_at", "_law_first", "_law_by", "_law_found", "_law_name"], ["_law_pen_here", "_law_many"], "_law_names", defArgs (top 62), defBody (top 62), defScope (top 62)⟩
def x_law_goals : Df := ⟨Ev.G.d_law_goals, ["_law_block", "_law_end"], ["_law_block"], "_law_goals", defArgs (top 63), defBody (top 63), defScope (top 63)⟩
def x_law_reached : Df := ⟨Ev.G.d_law_reached, ["_law_blocks", "_law_start", "_law_hidden", "_law_found", "_law_left", "_law_name", "_law_block"], ["_law_blocks", "_law_start", "_law_hidden"], "_law_reached", defArgs (top 64), defBody (top 64), defScope (top 64)⟩
def x_law_there : Df := ⟨Ev.G.d_law_there, ["_law_blocks", "_law_found", "_law_block"], ["_law_blocks"], "_law_there", defArgs (top 65), defBody (top 65), defScope (top 65)⟩
def x_law_arrows : Df := ⟨Ev.G.d_law_arrows, ["_law_blocks", "_law_there_here", "_law_found", "_law_block", "_law_goal"], ["_law_blocks"], "_law_arrows", defArgs (top 66), defBody (top 66), defScope (top 66)⟩
def x_law_over : Df := ⟨Ev.G.d_law_over, ["_law_blocks", "_law_there_here", "_law_found", "_law_name", "_law_others", "_law_other"], ["_law_blocks"], "_law_over", defArgs (top 67), defBody (top 67), defScope (top 67)⟩
def x_law_graph : Df := ⟨Ev.G.d_law_graph, ["_law_pen_here", "_law_most", "_law_names_here", "_law_blocks", "_law_k", "_law_near", "_law_way", "_law_end", "_law_things"], ["_law_pen_here", "_law_most"], "_law_graph", defArgs (top 68), defBody (top 68), defScope (top 68)⟩
def x_law_graphs : Df := ⟨Ev.G.d_law_graphs, ["_law_pen_here", "_law_most", "_law_other", "_law_functions", "_law_name"], ["_law_pen_here", "_law_most"], "_law_graphs", defArgs (top 69), defBody (top 69), defScope (top 69)⟩
def x_law_pairs : Df := ⟨Ev.G.d_law_pairs, ["_law_pen_here", "_law_there_here", "_law_most", "_law_found", "_law_one", "_law_other", "_law_k"], ["_law_pen_here", "_law_there_here", "_law_most"], "_law_pairs", defArgs (top 70), defBody (top 70), defScope (top 70)⟩
def x_law_is_way : Df := ⟨Ev.G.d_law_is_way, ["_law_blocks", "_law_value", "_law_goal", "_law_hidden", "_law_arrows_here", "_law_k"], ["_law_blocks", "_law_value", "_law_goal", "_law_hidden"], "_law_is_way", defArgs (top 71), defBody (top 71), defScope (top 71)⟩
def x_law : Df := ⟨d_law, ["_law_script", "_law_pen_here", "_law_turn", "_law_module", "_law_f", "_law_params", "_law_blocks", "_law_over_here", "_law_block", "_law_other", "_law_due", "_law_way"], ["_law_script"], "law", defArgs (top 72), defBody (top 72), defScope (top 72)⟩
def fns0 : List (Str × Nat) := [((Str.ofString "is_integer"), 0), ((Str.ofString "is_between"), 1), ((Str.ofString "is_name"), 2), ((Str.ofString "is_tuple"), 3), ((Str.ofString "are_names"), 4), ((Str.ofString "fits_part"), 5), ((Str.ofString "fits_shape"), 6), ((Str.ofString "parts_of"), 7), ((Str.ofString "part_of"), 8), ((Str.ofString "defined_by"), 9), ((Str.ofString "used_by"), 10), ((Str.ofString "arms_of"), 11), ((Str.ofString "names_of"), 12), ((Str.ofString "block_of"), 13), ((Str.ofString "goals_of"), 14), ((Str.ofString "reached_without"), 15), ((Str.ofString "reached_in"), 16), ((Str.ofString "covered_by"), 17), ((Str.ofString "is_kind"), 18), ((Str.ofString "is_function_form"), 19)]
def fns1 : List (Str × Nat) := [((Str.ofString "is_block_form"), 20), ((Str.ofString "row_fault"), 21), ((Str.ofString "block_fault"), 22), ((Str.ofString "places_in"), 23), ((Str.ofString "instruction_fault"), 24), ((Str.ofString "parameters_of"), 25), ((Str.ofString "arms_fit"), 26), ((Str.ofString "names_fit"), 27), ((Str.ofString "name_fault"), 28), ((Str.ofString "definitions_of"), 29), ((Str.ofString "twice_fault"), 30), ((Str.ofString "is_covered"), 31), ((Str.ofString "use_fault"), 32), ((Str.ofString "has_form"), 33), ((Str.ofString "form_error"), 34), ((Str.ofString "module_error"), 35), ((Str.ofString "require_module"), 36), ((Str.ofString "function_of"), 37), ((Str.ofString "require_block"), 38), ((Str.ofString "parts_for"), 39)]
def fns2 : List (Str × Nat) := [((Str.ofString "found_from"), 60), ((Str.ofString "dominates"), 73), ((Str.ofString "way_around"), 79), ((Str.ofString "_law_pen"), 41), ((Str.ofString "_law_draw"), 42), ((Str.ofString "_law_pick"), 43), ((Str.ofString "_law_names"), 44), ((Str.ofString "_law_goals"), 45), ((Str.ofString "_law_reached"), 46), ((Str.ofString "_law_there"), 47), ((Str.ofString "_law_arrows"), 58), ((Str.ofString "_law_over"), 53), ((Str.ofString "_law_graph"), 48), ((Str.ofString "_law_graphs"), 49), ((Str.ofString "_law_pairs"), 63), ((Str.ofString "_law_is_way"), 90), ((Str.ofString "law"), 50)]
def tb : Tb := ⟨fns0 ++ fns1 ++ fns2, [((Str.ofString "LETTERS"), 0), ((Str.ofString "LONGEST_NAME"), 1), ((Str.ofString "GREATEST"), 2)], [((Str.ofString "SHAPES"), 0), ((Str.ofString "ENDS"), 1)], [(((Str.ofString "Limits"), (Str.ofString "MOST_KINDS")), 3), (((Str.ofString "Limits"), (Str.ofString "MOST_FIELDS")), 4), (((Str.ofString "Limits"), (Str.ofString "MOST_FUNCTIONS")), 5), (((Str.ofString "Limits"), (Str.ofString "MOST_PARAMETERS")), 6), (((Str.ofString "Limits"), (Str.ofString "MOST_BLOCKS")), 7), (((Str.ofString "Limits"), (Str.ofString "MOST_BLOCK_PARAMETERS")), 8), (((Str.ofString "Limits"), (Str.ofString "MOST_INSTRUCTIONS")), 9), (((Str.ofString "Limits"), (Str.ofString "MOST_PLACES")), 10), (((Str.ofString "Limits"), (Str.ofString "MOST_ELEMENTS")), 11), (((Str.ofString "Limits"), (Str.ofString "MOST_STEPS")), 12), (((Str.ofString "Limits"), (Str.ofString "MOST_CALLS")), 13)], [(Str.ofString "len"), (Str.ofString "all"), (Str.ofString "any"), (Str.ofString "list"), (Str.ofString "tuple"), (Str.ofString "sorted"), (Str.ofString "int"), (Str.ofString "abs"), (Str.ofString "repr"), (Str.ofString "dict"), (Str.ofString "isinstance"), (Str.ofString "bool"), (Str.ofString "str"), (Str.ofString "range"), (Str.ofString "enumerate"), (Str.ofString "zip")]⟩
def dfl0 : List (Nat × Df) := [(0, x_is_integer), (1, x_is_between), (2, x_is_name), (3, x_is_tuple), (4, x_are_names), (5, x_fits_part), (6, x_fits_shape), (7, x_parts_of), (8, x_part_of), (9, x_defined_by), (10, x_used_by), (11, x_arms_of), (12, x_names_of), (13, x_block_of), (14, x_goals_of), (15, x_reached_without), (16, x_reached_in), (17, x_covered_by), (19, x_is_function_form), (20, x_is_block_form)]
def dfl1 : List (Nat × Df) := [(21, x_row_fault), (22, x_block_fault), (23, x_places_in), (24, x_instruction_fault), (25, x_parameters_of), (26, x_arms_fit), (27, x_names_fit), (28, x_name_fault), (29, x_definitions_of), (30, x_twice_fault), (31, x_is_covered), (32, x_use_fault), (33, x_has_form), (34, x_form_error), (35, x_module_error), (36, x_require_module), (37, x_function_of), (38, x_require_block), (39, x_parts_for), (60, x_found_from)]
def dfl2 : List (Nat × Df) := [(73, x_dominates), (79, x_way_around), (41, x_law_pen), (42, x_law_draw), (43, x_law_pick), (44, x_law_names), (45, x_law_goals), (46, x_law_reached), (47, x_law_there), (58, x_law_arrows), (53, x_law_over), (48, x_law_graph), (49, x_law_graphs), (63, x_law_pairs), (90, x_law_is_way), (50, x_law)]
def law : Law := ⟨tb, dfl0 ++ dfl1 ++ dfl2, [⟨((Str.ofString "is_kind"), none), (Str.ofString "is_kind"), (Str.ofString "is_kind"), defArgs (top 32), defBody (top 32), defScope (top 32), [], []⟩], gcs, gds, [(Str.ofString "SHAPES"), (Str.ofString "ENDS")]⟩
theorem ok_is_integer : DfOk tb x_is_integer := ⟨⟨rfl, rfl, rfl, by decide +kernel, rfl, by decide +kernel, by decide +kernel⟩, rfl, rfl, by decide, by kernel_rfl, fun _ _ _ _ _ _ us hl => match us, hl with | [_], _ => rfl⟩
theorem ok_is_between : DfOk tb x_is_between := ⟨⟨rfl, rfl, rfl, by decide +kernel, rfl, by decide +kernel, by decide +kernel⟩, rfl, rfl, by decide, by kernel_rfl, fun _ _ _ _ _ _ us hl => match us, hl with | [_, _, _], _ => rfl⟩
theorem ok_is_name : DfOk tb x_is_name := ⟨⟨rfl, rfl, rfl, by decide +kernel, rfl, by decide +kernel, by decide +kernel⟩, rfl, rfl, by decide, by kernel_rfl, fun _ _ _ _ _ _ us hl => match us, hl with | [_], _ => rfl⟩
theorem ok_is_tuple : DfOk tb x_is_tuple := ⟨⟨rfl, rfl, rfl, by decide +kernel, rfl, by decide +kernel, by decide +kernel⟩, rfl, rfl, by decide, by kernel_rfl, fun _ _ _ _ _ _ us hl => match us, hl with | [_, _, _], _ => rfl⟩
theorem ok_are_names : DfOk tb x_are_names := ⟨⟨rfl, rfl, rfl, by decide +kernel, rfl, by decide +kernel, by decide +kernel⟩, rfl, rfl, by decide, by kernel_rfl, fun _ _ _ _ _ _ us hl => match us, hl with | [_, _, _], _ => rfl⟩
theorem ok_fits_part : DfOk tb x_fits_part := ⟨⟨rfl, rfl, rfl, by decide +kernel, rfl, by decide +kernel, by decide +kernel⟩, rfl, rfl, by decide, by kernel_rfl, fun _ _ _ _ _ _ us hl => match us, hl with | [_, _], _ => rfl⟩
theorem ok_fits_shape : DfOk tb x_fits_shape := ⟨⟨rfl, rfl, rfl, by decide +kernel, rfl, by decide +kernel, by decide +kernel⟩, rfl, rfl, by decide, by kernel_rfl, fun _ _ _ _ _ _ us hl => match us, hl with | [_, _], _ => rfl⟩
theorem ok_parts_of : DfOk tb x_parts_of := ⟨⟨rfl, rfl, rfl, by decide +kernel, rfl, by decide +kernel, by decide +kernel⟩, rfl, rfl, by decide, by kernel_rfl, fun _ _ _ _ _ _ us hl => match us, hl with | [_], _ => rfl⟩
theorem ok_part_of : DfOk tb x_part_of := ⟨⟨rfl, rfl, rfl, by decide +kernel, rfl, by decide +kernel, by decide +kernel⟩, rfl, rfl, by decide, by kernel_rfl, fun _ _ _ _ _ _ us hl => match us, hl with | [_, _], _ => rfl⟩
theorem ok_defined_by : DfOk tb x_defined_by := ⟨⟨rfl, rfl, rfl, by decide +kernel, rfl, by decide +kernel, by decide +kernel⟩, rfl, rfl, by decide, by kernel_rfl, fun _ _ _ _ _ _ us hl => match us, hl with | [_], _ => rfl⟩
theorem ok_used_by : DfOk tb x_used_by := ⟨⟨rfl, rfl, rfl, by decide +kernel, rfl, by decide +kernel, by decide +kernel⟩, rfl, rfl, by decide, by kernel_rfl, fun _ _ _ _ _ _ us hl => match us, hl with | [_], _ => rfl⟩
theorem ok_arms_of : DfOk tb x_arms_of := ⟨⟨rfl, rfl, rfl, by decide +kernel, rfl, by decide +kernel, by decide +kernel⟩, rfl, rfl, by decide, by kernel_rfl, fun _ _ _ _ _ _ us hl => match us, hl with | [_], _ => rfl⟩
theorem ok_names_of : DfOk tb x_names_of := ⟨⟨rfl, rfl, rfl, by decide +kernel, rfl, by decide +kernel, by decide +kernel⟩, rfl, rfl, by decide, by kernel_rfl, fun _ _ _ _ _ _ us hl => match us, hl with | [_], _ => rfl⟩
theorem ok_block_of : DfOk tb x_block_of := ⟨⟨rfl, rfl, rfl, by decide +kernel, rfl, by decide +kernel, by decide +kernel⟩, rfl, rfl, by decide, by kernel_rfl, fun _ _ _ _ _ _ us hl => match us, hl with | [_, _], _ => rfl⟩
theorem ok_goals_of : DfOk tb x_goals_of := ⟨⟨rfl, rfl, rfl, by decide +kernel, rfl, by decide +kernel, by decide +kernel⟩, rfl, rfl, by decide, by kernel_rfl, fun _ _ _ _ _ _ us hl => match us, hl with | [_], _ => rfl⟩
theorem ok_reached_without : DfOk tb x_reached_without := ⟨⟨rfl, rfl, rfl, by decide +kernel, rfl, by decide +kernel, by decide +kernel⟩, rfl, rfl, by decide, by kernel_rfl, fun _ _ _ _ _ _ us hl => match us, hl with | [_, _], _ => rfl⟩
theorem ok_reached_in : DfOk tb x_reached_in := ⟨⟨rfl, rfl, rfl, by decide +kernel, rfl, by decide +kernel, by decide +kernel⟩, rfl, rfl, by decide, by kernel_rfl, fun _ _ _ _ _ _ us hl => match us, hl with | [_], _ => rfl⟩
theorem ok_covered_by : DfOk tb x_covered_by := ⟨⟨rfl, rfl, rfl, by decide +kernel, rfl, by decide +kernel, by decide +kernel⟩, rfl, rfl, by decide, by kernel_rfl, fun _ _ _ _ _ _ us hl => match us, hl with | [_], _ => rfl⟩
theorem ok_is_function_form : DfOk tb x_is_function_form := ⟨⟨rfl, rfl, rfl, by decide +kernel, rfl, by decide +kernel, by decide +kernel⟩, rfl, rfl, by decide, by kernel_rfl, fun _ _ _ _ _ _ us hl => match us, hl with | [_], _ => rfl⟩
theorem ok_is_block_form : DfOk tb x_is_block_form := ⟨⟨rfl, rfl, rfl, by decide +kernel, rfl, by decide +kernel, by decide +kernel⟩, rfl, rfl, by decide, by kernel_rfl, fun _ _ _ _ _ _ us hl => match us, hl with | [_], _ => rfl⟩
theorem ok_row_fault : DfOk tb x_row_fault := ⟨⟨rfl, rfl, rfl, by decide +kernel, rfl, by decide +kernel, by decide +kernel⟩, rfl, rfl, by decide, by kernel_rfl, fun _ _ _ _ _ _ us hl => match us, hl with | [_, _, _], _ => rfl⟩
theorem ok_block_fault : DfOk tb x_block_fault := ⟨⟨rfl, rfl, rfl, by decide +kernel, rfl, by decide +kernel, by decide +kernel⟩, rfl, rfl, by decide, by kernel_rfl, fun _ _ _ _ _ _ us hl => match us, hl with | [_], _ => rfl⟩
theorem ok_places_in : DfOk tb x_places_in := ⟨⟨rfl, rfl, rfl, by decide +kernel, rfl, by decide +kernel, by decide +kernel⟩, rfl, rfl, by decide, by kernel_rfl, fun _ _ _ _ _ _ us hl => match us, hl with | [_], _ => rfl⟩
theorem ok_instruction_fault : DfOk tb x_instruction_fault := ⟨⟨rfl, rfl, rfl, by decide +kernel, rfl, by decide +kernel, by decide +kernel⟩, rfl, rfl, by decide, by kernel_rfl, fun _ _ _ _ _ _ us hl => match us, hl with | [_], _ => rfl⟩
theorem ok_parameters_of : DfOk tb x_parameters_of := ⟨⟨rfl, rfl, rfl, by decide +kernel, rfl, by decide +kernel, by decide +kernel⟩, rfl, rfl, by decide, by kernel_rfl, fun _ _ _ _ _ _ us hl => match us, hl with | [_, _], _ => rfl⟩
theorem ok_arms_fit : DfOk tb x_arms_fit := ⟨⟨rfl, rfl, rfl, by decide +kernel, rfl, by decide +kernel, by decide +kernel⟩, rfl, rfl, by decide, by kernel_rfl, fun _ _ _ _ _ _ us hl => match us, hl with | [_, _], _ => rfl⟩
theorem ok_names_fit : DfOk tb x_names_fit := ⟨⟨rfl, rfl, rfl, by decide +kernel, rfl, by decide +kernel, by decide +kernel⟩, rfl, rfl, by decide, by kernel_rfl, fun _ _ _ _ _ _ us hl => match us, hl with | [_, _, _], _ => rfl⟩
theorem ok_name_fault : DfOk tb x_name_fault := ⟨⟨rfl, rfl, rfl, by decide +kernel, rfl, by decide +kernel, by decide +kernel⟩, rfl, rfl, by decide, by kernel_rfl, fun _ _ _ _ _ _ us hl => match us, hl with | [_], _ => rfl⟩
theorem ok_definitions_of : DfOk tb x_definitions_of := ⟨⟨rfl, rfl, rfl, by decide +kernel, rfl, by decide +kernel, by decide +kernel⟩, rfl, rfl, by decide, by kernel_rfl, fun _ _ _ _ _ _ us hl => match us, hl with | [_], _ => rfl⟩
theorem ok_twice_fault : DfOk tb x_twice_fault := ⟨⟨rfl, rfl, rfl, by decide +kernel, rfl, by decide +kernel, by decide +kernel⟩, rfl, rfl, by decide, by kernel_rfl, fun _ _ _ _ _ _ us hl => match us, hl with | [_], _ => rfl⟩
theorem ok_is_covered : DfOk tb x_is_covered := ⟨⟨rfl, rfl, rfl, by decide +kernel, rfl, by decide +kernel, by decide +kernel⟩, rfl, rfl, by decide, by kernel_rfl, fun _ _ _ _ _ _ us hl => match us, hl with | [_, _, _, _], _ => rfl⟩
theorem ok_use_fault : DfOk tb x_use_fault := ⟨⟨rfl, rfl, rfl, by decide +kernel, rfl, by decide +kernel, by decide +kernel⟩, rfl, rfl, by decide, by kernel_rfl, fun _ _ _ _ _ _ us hl => match us, hl with | [_], _ => rfl⟩
theorem ok_has_form : DfOk tb x_has_form := ⟨⟨rfl, rfl, rfl, by decide +kernel, rfl, by decide +kernel, by decide +kernel⟩, rfl, rfl, by decide, by kernel_rfl, fun _ _ _ _ _ _ us hl => match us, hl with | [_], _ => rfl⟩
theorem ok_form_error : DfOk tb x_form_error := ⟨⟨rfl, rfl, rfl, by decide +kernel, rfl, by decide +kernel, by decide +kernel⟩, rfl, rfl, by decide, by kernel_rfl, fun _ _ _ _ _ _ us hl => match us, hl with | [_], _ => rfl⟩
theorem ok_module_error : DfOk tb x_module_error := ⟨⟨rfl, rfl, rfl, by decide +kernel, rfl, by decide +kernel, by decide +kernel⟩, rfl, rfl, by decide, by kernel_rfl, fun _ _ _ _ _ _ us hl => match us, hl with | [_], _ => rfl⟩
theorem ok_require_module : DfOk tb x_require_module := ⟨⟨rfl, rfl, rfl, by decide +kernel, rfl, by decide +kernel, by decide +kernel⟩, rfl, rfl, by decide, by kernel_rfl, fun _ _ _ _ _ _ us hl => match us, hl with | [_], _ => rfl⟩
theorem ok_function_of : DfOk tb x_function_of := ⟨⟨rfl, rfl, rfl, by decide +kernel, rfl, by decide +kernel, by decide +kernel⟩, rfl, rfl, by decide, by kernel_rfl, fun _ _ _ _ _ _ us hl => match us, hl with | [_, _], _ => rfl⟩
theorem ok_require_block : DfOk tb x_require_block := ⟨⟨rfl, rfl, rfl, by decide +kernel, rfl, by decide +kernel, by decide +kernel⟩, rfl, rfl, by decide, by kernel_rfl, fun _ _ _ _ _ _ us hl => match us, hl with | [_, _], _ => rfl⟩
theorem ok_parts_for : DfOk tb x_parts_for := ⟨⟨rfl, rfl, rfl, by decide +kernel, rfl, by decide +kernel, by decide +kernel⟩, rfl, rfl, by decide, by kernel_rfl, fun _ _ _ _ _ _ => ⟨["module", "f"], "names", rfl, StX.bind_star2 (B := fun us => bindArgs _ ⟨us, []⟩) (fun _ _ => rfl) (fun _ _ _ _ => rfl)⟩⟩
theorem ok_found_from : DfOk tb x_found_from := ⟨⟨rfl, rfl, rfl, by decide +kernel, rfl, by decide +kernel, by decide +kernel⟩, rfl, rfl, by decide, by kernel_rfl, fun _ _ _ _ _ _ us hl => match us, hl with | [_, _, _], _ => rfl⟩
theorem ok_dominates : DfOk tb x_dominates := ⟨⟨rfl, rfl, rfl, by decide +kernel, rfl, by decide +kernel, by decide +kernel⟩, rfl, rfl, by decide, by kernel_rfl, fun _ _ _ _ _ _ us hl => match us, hl with | [_, _, _, _], _ => rfl⟩
theorem ok_way_around : DfOk tb x_way_around := ⟨⟨rfl, rfl, rfl, by decide +kernel, rfl, by decide +kernel, by decide +kernel⟩, rfl, rfl, by decide, by kernel_rfl, fun _ _ _ _ _ _ us hl => match us, hl with | [_, _, _, _], _ => rfl⟩
theorem ok_law_pen : DfOk tb x_law_pen := ⟨⟨rfl, rfl, rfl, by decide +kernel, rfl, by decide +kernel, by decide +kernel⟩, rfl, rfl, by decide, by kernel_rfl, fun _ _ _ _ _ _ us hl => match us, hl with | [_], _ => rfl⟩
theorem ok_law_draw : DfOk tb x_law_draw := ⟨⟨rfl, rfl, rfl, by decide +kernel, rfl, by decide +kernel, by decide +kernel⟩, rfl, rfl, by decide, by kernel_rfl, fun _ _ _ _ _ _ us hl => match us, hl with | [_, _], _ => rfl⟩
theorem ok_law_pick : DfOk tb x_law_pick := ⟨⟨rfl, rfl, rfl, by decide +kernel, rfl, by decide +kernel, by decide +kernel⟩, rfl, rfl, by decide, by kernel_rfl, fun _ _ _ _ _ _ us hl => match us, hl with | [_, _], _ => rfl⟩
theorem ok_law_names : DfOk tb x_law_names := ⟨⟨rfl, rfl, rfl, by decide +kernel, rfl, by decide +kernel, by decide +kernel⟩, rfl, rfl, by decide, by kernel_rfl, fun _ _ _ _ _ _ us hl => match us, hl with | [_, _], _ => rfl⟩
theorem ok_law_goals : DfOk tb x_law_goals := ⟨⟨rfl, rfl, rfl, by decide +kernel, rfl, by decide +kernel, by decide +kernel⟩, rfl, rfl, by decide, by kernel_rfl, fun _ _ _ _ _ _ us hl => match us, hl with | [_], _ => rfl⟩
theorem ok_law_reached : DfOk tb x_law_reached := ⟨⟨rfl, rfl, rfl, by decide +kernel, rfl, by decide +kernel, by decide +kernel⟩, rfl, rfl, by decide, by kernel_rfl, fun _ _ _ _ _ _ us hl => match us, hl with | [_, _, _], _ => rfl⟩
theorem ok_law_there : DfOk tb x_law_there := ⟨⟨rfl, rfl, rfl, by decide +kernel, rfl, by decide +kernel, by decide +kernel⟩, rfl, rfl, by decide, by kernel_rfl, fun _ _ _ _ _ _ us hl => match us, hl with | [_], _ => rfl⟩
theorem ok_law_arrows : DfOk tb x_law_arrows := ⟨⟨rfl, rfl, rfl, by decide +kernel, rfl, by decide +kernel, by decide +kernel⟩, rfl, rfl, by decide, by kernel_rfl, fun _ _ _ _ _ _ us hl => match us, hl with | [_], _ => rfl⟩
theorem ok_law_over : DfOk tb x_law_over := ⟨⟨rfl, rfl, rfl, by decide +kernel, rfl, by decide +kernel, by decide +kernel⟩, rfl, rfl, by decide, by kernel_rfl, fun _ _ _ _ _ _ us hl => match us, hl with | [_], _ => rfl⟩
theorem ok_law_graph : DfOk tb x_law_graph := ⟨⟨rfl, rfl, rfl, by decide +kernel, rfl, by decide +kernel, by decide +kernel⟩, rfl, rfl, by decide, by kernel_rfl, fun _ _ _ _ _ _ us hl => match us, hl with | [_, _], _ => rfl⟩
theorem ok_law_graphs : DfOk tb x_law_graphs := ⟨⟨rfl, rfl, rfl, by decide +kernel, rfl, by decide +kernel, by decide +kernel⟩, rfl, rfl, by decide, by kernel_rfl, fun _ _ _ _ _ _ us hl => match us, hl with | [_, _], _ => rfl⟩
theorem ok_law_pairs : DfOk tb x_law_pairs := ⟨⟨rfl, rfl, rfl, by decide +kernel, rfl, by decide +kernel, by decide +kernel⟩, rfl, rfl, by decide, by kernel_rfl, fun _ _ _ _ _ _ us hl => match us, hl with | [_, _, _], _ => rfl⟩
theorem ok_law_is_way : DfOk tb x_law_is_way := ⟨⟨rfl, rfl, rfl, by decide +kernel, rfl, by decide +kernel, by decide +kernel⟩, rfl, rfl, by decide, by kernel_rfl, fun _ _ _ _ _ _ us hl => match us, hl with | [_, _, _, _], _ => rfl⟩
theorem ok_law : DfOk tb x_law := ⟨⟨rfl, rfl, rfl, by decide +kernel, rfl, by decide +kernel, by decide +kernel⟩, rfl, rfl, by decide, by kernel_rfl, fun _ _ _ _ _ _ us hl => match us, hl with | [_], _ => rfl⟩
theorem dfl_ok : ∀ p ∈ law.dfl, DfOk law.tb p.2 := by
  intro p h
  have h2 : p ∈ dfl0 ++ dfl1 ++ dfl2 := h
  simp only [dfl0, dfl1, dfl2, List.cons_append, List.nil_append, List.mem_cons, List.not_mem_nil, or_false] at h2
  rcases h2 with rfl | rfl | rfl | rfl | rfl | rfl | rfl | rfl | rfl | rfl | rfl | rfl | rfl | rfl | rfl | rfl | rfl | rfl | rfl | rfl | rfl | rfl | rfl | rfl | rfl | rfl | rfl | rfl | rfl | rfl | rfl | rfl | rfl | rfl | rfl | rfl | rfl | rfl | rfl | rfl | rfl | rfl | rfl | rfl | rfl | rfl | rfl | rfl | rfl | rfl | rfl | rfl | rfl | rfl | rfl | rfl
  · exact ok_is_integer
  · exact ok_is_between
  · exact ok_is_name
  · exact ok_is_tuple
  · exact ok_are_names
  · exact ok_fits_part
  · exact ok_fits_shape
  · exact ok_parts_of
  · exact ok_part_of
  · exact ok_defined_by
  · exact ok_used_by
  · exact ok_arms_of
  · exact ok_names_of
  · exact ok_block_of
  · exact ok_goals_of
  · exact ok_reached_without
  · exact ok_reached_in
  · exact ok_covered_by
  · exact ok_is_function_form
  · exact ok_is_block_form
  · exact ok_row_fault
  · exact ok_block_fault
  · exact ok_places_in
  · exact ok_instruction_fault
  · exact ok_parameters_of
  · exact ok_arms_fit
  · exact ok_names_fit
  · exact ok_name_fault
  · exact ok_definitions_of
  · exact ok_twice_fault
  · exact ok_is_covered
  · exact ok_use_fault
  · exact ok_has_form
  · exact ok_form_error
  · exact ok_module_error
  · exact ok_require_module
  · exact ok_function_of
  · exact ok_require_block
  · exact ok_parts_for
  · exact ok_found_from
  · exact ok_dominates
  · exact ok_way_around
  · exact ok_law_pen
  · exact ok_law_draw
  · exact ok_law_pick
  · exact ok_law_names
  · exact ok_law_goals
  · exact ok_law_reached
  · exact ok_law_there
  · exact ok_law_arrows
  · exact ok_law_over
  · exact ok_law_graph
  · exact ok_law_graphs
  · exact ok_law_pairs
  · exact ok_law_is_way
  · exact ok_law
theorem good : law.Good := Law.good_of (by kernel_rfl)
end Ev.K20
end
section
set_option maxHeartbeats 0
namespace Ev.K20
open PySem PySem.Spec PyProof.Rows L2
def names0 : List Str := [(Str.ofString "InvalidModule"), (Str.ofString "UnknownName"), (Str.ofString "LETTERS"), (Str.ofString "LONGEST_NAME"), (Str.ofString "is_integer"), (Str.ofString "is_between"), (Str.ofString "is_name"), (Str.ofString "is_tuple"), (Str.ofString "are_names"), (Str.ofString "Limits"), (Str.ofString "GREATEST"), (Str.ofString "SHAPES"), (Str.ofString "ENDS"), (Str.ofString "fits_part"), (Str.ofString "fits_shape"), (Str.ofString "parts_of"), (Str.ofString "part_of"), (Str.ofString "defined_by"), (Str.ofString "used_by"), (Str.ofString "arms_of")]
def names1 : List Str := [(Str.ofString "names_of"), (Str.ofString "block_of"), (Str.ofString "goals_of"), (Str.ofString "reached_without"), (Str.ofString "reached_in"), (Str.ofString "covered_by"), (Str.ofString "is_kind"), (Str.ofString "is_function_form"), (Str.ofString "is_block_form"), (Str.ofString "row_fault"), (Str.ofString "block_fault"), (Str.ofString "places_in"), (Str.ofString "instruction_fault"), (Str.ofString "parameters_of"), (Str.ofString "arms_fit"), (Str.ofString "names_fit"), (Str.ofString "name_fault"), (Str.ofString "definitions_of"), (Str.ofString "twice_fault"), (Str.ofString "is_covered")]
def names2 : List Str := [(Str.ofString "use_fault"), (Str.ofString "has_form"), (Str.ofString "form_error"), (Str.ofString "module_error"), (Str.ofString "require_module"), (Str.ofString "function_of"), (Str.ofString "require_block"), (Str.ofString "parts_for"), (Str.ofString "found_from"), (Str.ofString "dominates"), (Str.ofString "way_around"), (Str.ofString "_law_pen"), (Str.ofString "_law_draw"), (Str.ofString "_law_pick"), (Str.ofString "_law_names"), (Str.ofString "_law_goals"), (Str.ofString "_law_reached"), (Str.ofString "_law_there"), (Str.ofString "_law_arrows"), (Str.ofString "_law_over")]
def names3 : List Str := [(Str.ofString "_law_graph"), (Str.ofString "_law_graphs"), (Str.ofString "_law_pairs"), (Str.ofString "_law_is_way")]
def names : List Str := names0 ++ names1 ++ names2 ++ names3
abbrev R : PySem.W.OpenRow := PySem.W.OpenLaw.row PySem.Challenge.rw_clobberwalk_k20_dominating_blocks
abbrev hk : PySem.W.Hook := hookY 4 law.fa law.fn law.ts law.ex
def ob (s : PySem.W.SharedT) : AlY := obsY 4 law.fa law.fn law.ts law.ex (HandSHeadRun.getT s)
theorem ob_eq (s : PySem.W.SharedT) : ob s = hk.obs s.abs := obsY_eq (HandSHeadRun.getT_eq s)
theorem run0 (w : World) : (fun w => HandSHeadRun.RunEq R (PySem.W.view R.prog [72]) hk ob 60000 names w) (w.withFollow "special-get-raises" false) := by
  intro os
  kernel_rfl
theorem run1 (w : World) : (fun w => HandSHeadRun.RunEq R (PySem.W.view R.prog [72]) hk ob 60000 names w) (w.withFollow "special-get-raises" true) := by
  intro os
  kernel_rfl
theorem run (w : World) : HandSHeadRun.RunEq R (PySem.W.view R.prog [72]) hk ob 60000 names w := PySem.W.byRow2 "special-get-raises" (P := fun w => HandSHeadRun.RunEq R (PySem.W.view R.prog [72]) hk ob 60000 names w) run0 run1 w
end Ev.K20
open PySem PySem.W PySem.Calls PyProof.Rows
theorem Ev.K20.holds_of {wf k : Nat} (hr : L2.Room k callerA) (hc : ∀ ns : List Int, ns.length ≤ 63 → ∃ o outs, Ev.callF Ev.K20.law.pg (Ev.ftOf Ev.K20.law.dfs) wf k 50 [Ev.fz (.scr ns)] = .ok (o, .bl true) outs) : PySem.Challenge.rw_clobberwalk_k20_dominating_blocks.Holds := by
  w_on; o_law
  refine HandSHeadRun.head_any (r := OpenLaw.row PySem.Challenge.rw_clobberwalk_k20_dominating_blocks) (q := view (OpenLaw.row PySem.Challenge.rw_clobberwalk_k20_dominating_blocks).prog [72]) (H := Ev.K20.hk) (ob := Ev.K20.ob) (M := 60000) (loose := Ev.K20.names) (d := HandSHeadRun.topDef (OpenLaw.row PySem.Challenge.rw_clobberwalk_k20_dominating_blocks).prog 72) (kwd := []) Ev.K20.ob_eq
    (by kernel_rfl) (fun s => by kernel_rfl) Ev.K20.run (by kernel_rfl) (by kernel_rfl) (by kernel_rfl) (by rfl) (by first | assumption | decide +kernel) (by decide +kernel) ⟨rfl, rfl, rfl, rfl, rfl, by decide +kernel⟩ ?hw ?hc
  case hw => w_witness2
  case hc => exact Ev.Law.walk Ev.K20.good Ev.K20.dfl_ok (n := 63) rfl (by decide) (by kernel_rfl) hr (by kernel_rfl) hc
end
/-! Gr: ways in graphs; plain Lean. -/
namespace Gr
variable {α : Type} [DecidableEq α]
/-- y is reached from a, by edges, without h -/
inductive Rch (S : α → List α) (h : Option α) (a : α) : α → Prop
  | base : some a ≠ h → Rch S h a a
  | step {x y : α} : Rch S h a x → y ∈ S x → some y ≠ h → Rch S h a y

variable {S : α → List α} {h : Option α} {a : α}
theorem Rch.ne {x : α} (r : Rch S h a x) : some x ≠ h := by
  cases r with
  | base z => exact z
  | step _ _ z => exact z
theorem Rch.start {x : α} (r : Rch S h a x) : some a ≠ h := by
  induction r with
  | base z => exact z
  | step _ _ _ ih => exact ih
theorem Rch.sub {x : α} {L : List α} (r : Rch S h a x) (h0 : some a ≠ h → a ∈ L) (hc : ∀ x ∈ L, ∀ y ∈ S x, some y ≠ h → y ∈ L) : x ∈ L := by
  induction r with
  | base z => exact h0 z
  | step _ m z ih => exact hc _ ih _ m z

/-- L lists what is reached -/
structure IsR (S : α → List α) (h : Option α) (a : α) (L : List α) : Prop where
  nd : L.Nodup
  iff : ∀ x, x ∈ L ↔ Rch S h a x

theorem length_le_of_sub {L M : List α} (nd : L.Nodup) (hs : ∀ x ∈ L, x ∈ M) : L.length ≤ M.length := by
  induction L generalizing M with
  | nil => exact Nat.zero_le _
  | cons x L ih =>
    have hx := hs x (List.mem_cons_self ..)
    have nd2 := List.nodup_cons.mp nd
    have := ih (M := M.erase x) nd2.2 fun y hy => by
      have hne : y ≠ x := fun e => nd2.1 (e ▸ hy)
      exact (List.mem_erase_of_ne hne).mpr (hs y (List.mem_cons_of_mem _ hy))
    rw [List.length_erase_of_mem hx] at this
    have p : 0 < M.length := List.length_pos_of_mem hx
    simp only [List.length_cons]
    omega

/-! ### the search by a queue -/
def add1 (h : Option α) (f : List α) (g : α) : List α := if some g ≠ h ∧ g ∉ f then f ++ [g] else f
def addAll (h : Option α) (gs f : List α) : List α := gs.foldl (add1 h) f
theorem add1_mem {f : List α} {g x : α} : x ∈ add1 h f g ↔ x ∈ f ∨ (x = g ∧ some g ≠ h) := by
  unfold add1
  split
  · rename_i c
    simp only [List.mem_append, List.mem_singleton]
    exact ⟨fun z => z.elim .inl fun e => .inr ⟨e, c.1⟩, fun z => z.elim .inl fun e => .inr e.1⟩
  · rename_i c
    constructor
    · exact .inl
    · rintro (z | ⟨rfl, z⟩)
      · exact z
      · by_cases m : x ∈ f
        · exact m
        · exact absurd ⟨z, m⟩ c
theorem add1_nodup {f : List α} {g : α} (nd : f.Nodup) : (add1 h f g).Nodup := by
  unfold add1
  split
  · rename_i c
    rw [List.nodup_append]
    refine ⟨nd, by simp, fun x hx y hy => ?_⟩
    rw [List.mem_singleton] at hy
    subst hy
    intro e
    subst e
    exact c.2 hx
  · exact nd
theorem add1_pre {f : List α} {g : α} {i : Nat} {x : α} (e : f[i]? = some x) : (add1 h f g)[i]? = some x := by
  unfold add1
  split
  · have := (List.getElem?_eq_some_iff.mp e).1
    rw [List.getElem?_append_left this]
    exact e
  · exact e
theorem addAll_mem {gs f : List α} {x : α} : x ∈ addAll h gs f ↔ x ∈ f ∨ (x ∈ gs ∧ some x ≠ h) := by
  induction gs generalizing f with
  | nil => simp [addAll]
  | cons g gs ih =>
    show x ∈ addAll h gs (add1 h f g) ↔ _
    rw [ih, add1_mem, List.mem_cons]
    constructor
    · rintro ((z | ⟨rfl, z⟩) | ⟨z, w⟩)
      · exact .inl z
      · exact .inr ⟨.inl rfl, z⟩
      · exact .inr ⟨.inr z, w⟩
    · rintro (z | ⟨rfl | z, w⟩)
      · exact .inl (.inl z)
      · exact .inl (.inr ⟨rfl, w⟩)
      · exact .inr ⟨z, w⟩
theorem addAll_nodup {gs f : List α} (nd : f.Nodup) : (addAll h gs f).Nodup := by
  induction gs generalizing f with
  | nil => exact nd
  | cons g gs ih => exact ih (add1_nodup nd)
theorem addAll_pre {gs f : List α} {i : Nat} {x : α} (e : f[i]? = some x) : (addAll h gs f)[i]? = some x := by
  induction gs generalizing f with
  | nil => exact e
  | cons g gs ih => exact ih (add1_pre e)
structure BInv (S : α → List α) (h : Option α) (a : α) (f : List α) (at' : Nat) : Prop where
  nd : f.Nodup
  rc : ∀ x ∈ f, Rch S h a x
  st : some a ≠ h → a ∈ f
  cl : ∀ (i : Nat) (x : α), i < at' → f[i]? = some x → ∀ y ∈ S x, some y ≠ h → y ∈ f
  le : at' ≤ f.length
theorem BInv.zero : BInv S h a (if some a = h then [] else [a]) 0 := by
  split
  · rename_i c
    exact ⟨by simp, fun x m => (nomatch m), fun z => absurd c z, fun i x l => absurd l (Nat.not_lt_zero _), Nat.zero_le _⟩
  · rename_i c
    exact ⟨by simp, fun x m => by rw [List.mem_singleton.mp m]; exact .base c, fun _ => List.mem_singleton.mpr rfl, fun i x l => absurd l (Nat.not_lt_zero _), Nat.zero_le _⟩
theorem BInv.next {f : List α} {k : Nat} {x : α} (I : BInv S h a f k) (e : f[k]? = some x) : BInv S h a (addAll h (S x) f) (k + 1) := by
  have hx : x ∈ f := List.mem_of_getElem? e
  refine ⟨addAll_nodup I.nd, fun y m => ?_, fun z => addAll_mem.mpr (.inl (I.st z)), fun i y l ey z m w => ?_, ?_⟩
  · rcases addAll_mem.mp m with q | ⟨q, w⟩
    · exact I.rc y q
    · exact .step (I.rc x hx) q w
  · rcases Nat.lt_succ_iff_lt_or_eq.mp l with q | q
    · have lt : i < f.length := Nat.lt_of_lt_of_le q I.le
      have ef : f[i]? = some f[i] := List.getElem?_eq_getElem lt
      have := addAll_pre (h := h) (gs := S x) ef
      rw [this] at ey
      cases ey
      exact addAll_mem.mpr (.inl (I.cl i _ q ef z m w))
    · subst q
      have := addAll_pre (h := h) (gs := S x) e
      rw [this] at ey
      cases ey
      exact addAll_mem.mpr (.inr ⟨m, w⟩)
  · have lt := (List.getElem?_eq_some_iff.mp (addAll_pre (h := h) (gs := S x) e)).1
    omega
theorem BInv.done {f : List α} {k : Nat} (I : BInv S h a f k) (e : ¬ k < f.length) : IsR S h a f := by
  refine ⟨I.nd, fun x => ⟨I.rc x, fun r => r.sub I.st fun y m z mz w => ?_⟩⟩
  obtain ⟨i, hi, rfl⟩ := List.getElem_of_mem m
  exact I.cl i _ (by omega) (List.getElem?_eq_getElem hi) z mz w

/-! ### the search by a pile -/
structure DInv (S : α → List α) (h : Option α) (a : α) (f left : List α) : Prop where
  nd : f.Nodup
  rc : ∀ x ∈ f, Rch S h a x
  lf : ∀ x ∈ left, some x ≠ h → Rch S h a x
  st : some a ≠ h → a ∈ f ∨ a ∈ left
  cl : ∀ x ∈ f, ∀ y ∈ S x, some y ≠ h → y ∈ f ∨ y ∈ left
theorem DInv.zero : DInv S h a [] [a] := ⟨by simp, fun _ m => (nomatch m), fun x m w => by cases List.mem_singleton.mp m; exact .base w, fun _ => .inr (List.mem_singleton.mpr rfl), fun _ m => (nomatch m)⟩
theorem DInv.skip {f left : List α} {x : α} (I : DInv S h a f (left ++ [x])) (c : some x = h ∨ x ∈ f) : DInv S h a f left := by
  refine ⟨I.nd, I.rc, fun y m => I.lf y (List.mem_append_left _ m), fun w => ?_, fun y m z mz w => ?_⟩
  · rcases I.st w with q | q
    · exact .inl q
    · rcases List.mem_append.mp q with q | q
      · exact .inr q
      · rw [List.mem_singleton] at q
        subst q
        exact c.elim (fun e => absurd e w) .inl
  · rcases I.cl y m z mz w with q | q
    · exact .inl q
    · rcases List.mem_append.mp q with q | q
      · exact .inr q
      · rw [List.mem_singleton] at q
        subst q
        exact c.elim (fun e => absurd e w) .inl
theorem DInv.take {f left : List α} {x : α} (I : DInv S h a f (left ++ [x])) (c1 : some x ≠ h) (c2 : x ∉ f) : DInv S h a (f ++ [x]) (left ++ S x) := by
  have rx := I.lf x (List.mem_append_right _ (List.mem_singleton.mpr rfl)) c1
  refine ⟨?_, fun y m => ?_, fun y m w => ?_, fun w => ?_, fun y m z mz w => ?_⟩
  · rw [List.nodup_append]
    refine ⟨I.nd, by simp, fun y hy z hz => ?_⟩
    rw [List.mem_singleton] at hz
    subst hz
    exact fun e => c2 (e ▸ hy)
  · rcases List.mem_append.mp m with q | q
    · exact I.rc y q
    · rw [List.mem_singleton.mp q]; exact rx
  · rcases List.mem_append.mp m with q | q
    · exact I.lf y (List.mem_append_left _ q) w
    · exact .step rx q w
  · rcases I.st w with q | q
    · exact .inl (List.mem_append_left _ q)
    · rcases List.mem_append.mp q with q | q
      · exact .inr (List.mem_append_left _ q)
      · exact .inl (List.mem_append_right _ q)
  · rcases List.mem_append.mp m with q | q
    · rcases I.cl y q z mz w with q | q
      · exact .inl (List.mem_append_left _ q)
      · rcases List.mem_append.mp q with q | q
        · exact .inr (List.mem_append_left _ q)
        · exact .inl (List.mem_append_right _ q)
    · rw [List.mem_singleton.mp q] at mz
      exact .inr (List.mem_append_right _ mz)
theorem DInv.done {f : List α} (I : DInv S h a f []) : IsR S h a f :=
  ⟨I.nd, fun x => ⟨I.rc x, fun r => r.sub (fun w => (I.st w).elim id fun z => nomatch z) fun y m z mz w => (I.cl y m z mz w).elim id fun z => nomatch z⟩⟩
theorem IsR.same {L M : List α} (i : IsR S h a L) (j : IsR S h a M) (x : α) : x ∈ L ↔ x ∈ M := (i.iff x).trans (j.iff x).symm
theorem IsR.congr {T : α → List α} {L : List α} (i : IsR S h a L) (e : ∀ x ∈ L, S x = T x) : IsR T h a L := by
  refine ⟨i.nd, fun x => ⟨fun m => ?_, fun r => ?_⟩⟩
  · have r := (i.iff x).mp m
    induction r with
    | base z => exact .base z
    | step r' m' w ih =>
      have mx := (i.iff _).mpr r'
      exact .step (ih mx) (e _ mx ▸ m') w
  · induction r with
    | base z => exact (i.iff _).mpr (.base z)
    | step r' m' w ih => exact (i.iff _).mpr (.step ((i.iff _).mp ih) (e _ ih ▸ m') w)
end Gr
/-! W: what must hold so that the evaluator comes through (its own small calculus). -/
namespace Ev
open PySem L2
section
variable (pg : Pg) (cf : Nat → List Rv → COut) (keep wf : Nat)
structure WE (t : Tm) (env : Ev) (Q : Rv → Ev → Prop) : Prop where
  ex : ∃ r e, evE pg cf keep t env = .ok r e ∧ Q r e
structure WO (t : Tm) (env : Ev) (Q : Opd → Ev → Prop) : Prop where
  ex : ∃ r e, opd t (evE pg cf keep t) env = .ok r e ∧ Q r e
structure WA (t : Tms) (env : Ev) (Q : List Opd → Ev → Prop) : Prop where
  ex : ∃ r e, evA pg cf keep t env = .ok r e ∧ Q r e
structure WF (t : Tms) (env : Ev) (Q : List D → Ev → Prop) : Prop where
  ex : ∃ r e, evF pg cf keep t env = .ok r e ∧ Q r e
structure WR (t : Tms) (env : Ev) (Q : List Rv → Ev → Prop) : Prop where
  ex : ∃ r e, evR pg cf keep t env = .ok r e ∧ Q r e
structure WP (t : Tps) (env : Ev) (Q : List (Key × D) → Ev → Prop) : Prop where
  ex : ∃ r e, evP pg cf keep t env = .ok r e ∧ Q r e
structure WTo (t : To) (env : Ev) (Q : Option Int → Ev → Prop) : Prop where
  ex : ∃ r e, evTo pg cf keep t env = .ok r e ∧ Q r e
structure WTc (t : To') (env : Ev) (Q : Bool → Ev → Prop) : Prop where
  ex : ∃ r e, evTc pg cf keep t env = .ok r e ∧ Q r e
structure WI (t : It) (env : Ev) (Q : List D → Ev → Prop) : Prop where
  ex : ∃ r e, evI pg cf keep t env = .ok r e ∧ Q r e
structure WC (t : Ct) (env : Ev) (Q : Bool → Ev → Prop) : Prop where
  ex : ∃ r e, evC pg cf keep t env = .ok r e ∧ Q r e
/-- N: the next statement; R: another way out -/
structure WS (s : Sm) (env : Ev) (N : Ev → Prop) (R : Flow' → Ev → Prop) : Prop where
  ex : ∃ f e, exS pg cf keep wf s env = .ok f e ∧ ((f = .nx ∧ N e) ∨ (f ≠ .nx ∧ R f e))
structure WSs (s : Sms) (env : Ev) (N : Ev → Prop) (R : Flow' → Ev → Prop) : Prop where
  ex : ∃ f e, exSs pg cf keep wf s env = .ok f e ∧ ((f = .nx ∧ N e) ∨ (f ≠ .nx ∧ R f e))
end
section
variable {pg : Pg} {cf : Nat → List Rv → COut} {keep wf : Nat} {env : Ev}
namespace W
theorem o_own {i : Nat} {d : D} {Q : Opd → Ev → Prop} (h : getS env i = some (true, d)) (q : Q (.s i) env) : WO pg cf keep (.var i) env Q := ⟨.s i, env, by simp only [opd, h], q⟩
theorem o_fz {i : Nat} {d : D} {Q : Opd → Ev → Prop} (h : getS env i = some (false, d)) (q : Q (.v (fz d)) env) : WO pg cf keep (.var i) env Q := ⟨.v (fz d), env, by simp only [opd, h], q⟩
theorem o_tm {t : Tm} {Q : Opd → Ev → Prop} (hv : ∀ i, t ≠ .var i) (q : WE pg cf keep t env fun r e => Q (.v r) e) : WO pg cf keep t env Q := by
  obtain ⟨r, e, h, q⟩ := q
  refine ⟨.v r, e, ?_, q⟩
  unfold opd
  split
  · exact absurd rfl (hv _)
  · rw [h]; rfl
theorem var_fz {i : Nat} {d : D} {Q : Rv → Ev → Prop} (h : getS env i = some (false, d)) (q : Q (fz d) env) : WE pg cf keep (.var i) env Q := ⟨_, _, by simp only [evE, readV, h], q⟩
theorem var_ow {i : Nat} {d : D} {Q : Rv → Ev → Prop} (h : getS env i = some (true, d)) (q : Q (fz d) (env.set i (some (fz d)))) : WE pg cf keep (.var i) env Q := ⟨_, _, by simp only [evE, readV, h], q⟩
theorem cst {d : D} {Q : Rv → Ev → Prop} (q : Q (fz d) env) : WE pg cf keep (.cst d) env Q := ⟨_, _, by simp only [evE], q⟩
theorem gl {i : Nat} {d : D} {Q : Rv → Ev → Prop} (h : pg.gc[i]? = some d) (q : Q (fz d) env) : WE pg cf keep (.gl i) env Q := ⟨_, _, by simp only [evE, h]; rfl, q⟩
theorem fnv {i : Nat} {Q : Rv → Ev → Prop} (q : Q (fz (.fn i)) env) : WE pg cf keep (.fnv i) env Q := ⟨_, _, by simp only [evE], q⟩
theorem wop1 {a : Tm} {f : D → Option Rv} {Q : Rv → Ev → Prop} (q : WO pg cf keep a env fun x e => ∃ d r, rdO e x = some d ∧ f d = some r ∧ Q r e) : ∃ r e, op1 a (evE pg cf keep a) f env = .ok r e ∧ Q r e := by
  obtain ⟨x, e, h, d, r, h1, h2, q⟩ := q
  refine ⟨r, e, ?_, q⟩
  unfold op1
  rw [h]
  simp only [Out.bind, h1, h2, lift]
theorem wop2 {a b : Tm} {f : D → D → Option Rv} {Q : Rv → Ev → Prop} (q : WO pg cf keep a env fun x e1 => WO pg cf keep b e1 fun y e => ∃ d d' r, rdO e x = some d ∧ rdO e y = some d' ∧ f d d' = some r ∧ Q r e) : ∃ r e, op2 a (evE pg cf keep a) b (evE pg cf keep b) f env = .ok r e ∧ Q r e := by
  obtain ⟨x, e1, h, y, e, h', d, d', r, h1, h2, h3, q⟩ := q
  refine ⟨r, e, ?_, q⟩
  unfold op2
  rw [h]
  simp only [Out.bind, h', h1, h2, h3, lift]
/-- what an operator asks -/
def BinK : BOp → D → D → (Rv → Prop) → Prop
  | .add, .int i, .int j, K => K (fz (.int (i + j)))
  | .add, .str a, .str b, K => a.length + b.length ≤ sizeLine ∧ K (fz (.str (a ++ b)))
  | .add, .lst a, .lst b, K => a.length + b.length ≤ sizeLine ∧ K (ow (.lst (a ++ b)))
  | .sub, .int i, .int j, K => K (fz (.int (i - j)))
  | .mul, .int i, .int j, K => ((-18446744073709551616 < i ∧ i < 18446744073709551616) ∨ (-18446744073709551616 < j ∧ j < 18446744073709551616)) ∧ K (fz (.int (i * j)))
  | .mul, .lst a, .int k, K => (-(2 ^ 63) ≤ k ∧ k < 2 ^ 63 ∧ a.length * k.toNat ≤ sizeLine) ∧ K (ow (.lst (List.replicate k.toNat a).flatten))
  | .fdiv, .int i, .int j, K => (0 < j ∧ j < 1073741824) ∧ K (fz (.int (i / j)))
  | .mod, .int i, .int j, K => 0 < j ∧ K (fz (.int (i % j)))
  | .pow, .int i, .int j, K => powOk i j = true ∧ K (fz (.int (i ^ j.toNat)))
  | _, _, _, _ => False
theorem binK {o : BOp} {d d' : D} {K : Rv → Prop} (h : BinK o d d' K) : ∃ r, binD o d d' = some r ∧ K r := by
  unfold BinK at h
  split at h
  · exact ⟨_, rfl, h⟩
  · exact ⟨_, if_pos h.1, h.2⟩
  · exact ⟨_, if_pos h.1, h.2⟩
  · exact ⟨_, rfl, h⟩
  · rename_i i j
    refine ⟨_, if_pos ?_, h.2⟩
    unfold mulOk
    rcases h.1 with ⟨h1, h2⟩ | ⟨h1, h2⟩
    · rw [decide_eq_true (show -(2 ^ 64) < i from h1), decide_eq_true (show i < 2 ^ 64 from h2)]
      rfl
    · rw [decide_eq_true (show -(2 ^ 64) < j from h1), decide_eq_true (show j < 2 ^ 64 from h2)]
      exact Bool.or_true _
  · exact ⟨_, if_pos h.1, h.2⟩
  · exact ⟨_, if_pos h.1, h.2⟩
  · exact ⟨_, if_pos h.1, h.2⟩
  · exact ⟨_, if_pos h.1, h.2⟩
  · exact h.elim
theorem add_ii {i j : Int} {K : Rv → Prop} (h : K (fz (.int (i + j)))) : BinK .add (.int i) (.int j) K := h
theorem add_ss {a b : Str} {K : Rv → Prop} (h1 : a.length + b.length ≤ sizeLine) (h : K (fz (.str (a ++ b)))) : BinK .add (.str a) (.str b) K := ⟨h1, h⟩
theorem add_ll {a b : List D} {K : Rv → Prop} (h1 : a.length + b.length ≤ sizeLine) (h : K (ow (.lst (a ++ b)))) : BinK .add (.lst a) (.lst b) K := ⟨h1, h⟩
theorem sub_ii {i j : Int} {K : Rv → Prop} (h : K (fz (.int (i - j)))) : BinK .sub (.int i) (.int j) K := h
theorem mul_ii {i j : Int} {K : Rv → Prop} (h1 : (-18446744073709551616 < i ∧ i < 18446744073709551616) ∨ (-18446744073709551616 < j ∧ j < 18446744073709551616)) (h : K (fz (.int (i * j)))) : BinK .mul (.int i) (.int j) K := ⟨h1, h⟩
theorem mul_li {a : List D} {k : Int} {K : Rv → Prop} (h1 : -(2 ^ 63) ≤ k ∧ k < 2 ^ 63 ∧ a.length * k.toNat ≤ sizeLine) (h : K (ow (.lst (List.replicate k.toNat a).flatten))) : BinK .mul (.lst a) (.int k) K := ⟨h1, h⟩
theorem fdiv_ii {i j : Int} {K : Rv → Prop} (h1 : 0 < j ∧ j < 1073741824) (h : K (fz (.int (i / j)))) : BinK .fdiv (.int i) (.int j) K := ⟨h1, h⟩
theorem mod_ii {i j : Int} {K : Rv → Prop} (h1 : 0 < j) (h : K (fz (.int (i % j)))) : BinK .mod (.int i) (.int j) K := ⟨h1, h⟩
theorem pow_ii {i j : Int} {K : Rv → Prop} (h1 : powOk i j = true) (h : K (fz (.int (i ^ j.toNat)))) : BinK .pow (.int i) (.int j) K := ⟨h1, h⟩
theorem bin {o : BOp} {a b : Tm} {Q : Rv → Ev → Prop} (q : WO pg cf keep a env fun x e1 => WO pg cf keep b e1 fun y e => ∃ d d', rdO e x = some d ∧ rdO e y = some d' ∧ BinK o d d' fun r => Q r e) : WE pg cf keep (.bin o a b) env Q := by
  constructor; simp only [evE]
  obtain ⟨x, e1, h, y, e, h', d, d', h1, h2, h3⟩ := q
  obtain ⟨r, h4, q⟩ := binK h3
  exact wop2 ⟨x, e1, h, y, e, h', d, d', r, h1, h2, h4, q⟩
theorem neg {a : Tm} {Q : Rv → Ev → Prop} (q : WO pg cf keep a env fun x e => ∃ i, rdO e x = some (.int i) ∧ Q (fz (.int (-i))) e) : WE pg cf keep (.neg a) env Q := by
  constructor; simp only [evE]; obtain ⟨x, e, h, i, h1, q⟩ := q; exact wop1 ⟨x, e, h, _, _, h1, rfl, q⟩
theorem notv {a : Tm} {Q : Rv → Ev → Prop} (q : WO pg cf keep a env fun x e => ∃ d k, rdO e x = some d ∧ truD d = some k ∧ Q (fz (.bl (!k))) e) : WE pg cf keep (.notv a) env Q := by
  constructor; simp only [evE]; obtain ⟨x, e, h, d, k, h1, h2, q⟩ := q; exact wop1 ⟨x, e, h, _, _, h1, by simp only [h2]; rfl, q⟩
theorem cmp {o : COp} {a b : Tm} {Q : Rv → Ev → Prop} (q : WO pg cf keep a env fun x e1 => WO pg cf keep b e1 fun y e => ∃ d d' k, rdO e x = some d ∧ rdO e y = some d' ∧ cmpD o d d' = some k ∧ Q (fz (.bl k)) e) : WE pg cf keep (.cmp o a b) env Q := by
  constructor; simp only [evE]
  obtain ⟨x, e1, h, y, e, h', d, d', k, h1, h2, h3, q⟩ := q
  exact wop2 ⟨x, e1, h, y, e, h', d, d', _, h1, h2, by simp only [h3]; rfl, q⟩
theorem isN {a : Tm} {Q : Rv → Ev → Prop} (q : WO pg cf keep a env fun x e => ∃ d, rdO e x = some d ∧ Q (fz (.bl (match d with | .non => true | _ => false))) e) : WE pg cf keep (.isN a) env Q := by
  constructor; simp only [evE]; obtain ⟨x, e, h, d, h1, q⟩ := q; exact wop1 ⟨x, e, h, _, _, h1, rfl, q⟩
theorem isNN {a : Tm} {Q : Rv → Ev → Prop} (q : WO pg cf keep a env fun x e => ∃ d, rdO e x = some d ∧ Q (fz (.bl (match d with | .non => false | _ => true))) e) : WE pg cf keep (.isNN a) env Q := by
  constructor; simp only [evE]; obtain ⟨x, e, h, d, h1, q⟩ := q; exact wop1 ⟨x, e, h, _, _, h1, rfl, q⟩
theorem chain {o p : COp} {a b c : Tm} {Q : Rv → Ev → Prop} (q : WO pg cf keep a env fun x e1 => WO pg cf keep b e1 fun y e2 => ∃ d d' k, rdO e2 x = some d ∧ rdO e2 y = some d' ∧ cmpD o d d' = some k ∧
      (k = false → Q (fz (.bl false)) e2) ∧ (k = true → WO pg cf keep c e2 fun z e3 => ∃ u u' k, rdO e3 y = some u ∧ rdO e3 z = some u' ∧ cmpD p u u' = some k ∧ Q (fz (.bl k)) e3)) : WE pg cf keep (.chain o p a b c) env Q := by
  obtain ⟨x, e1, h, y, e2, h', d, d', k, h1, h2, h3, q1, q2⟩ := q
  constructor; simp only [evE]
  rw [h]
  simp only [Out.bind, h', h1, h2, h3]
  cases k with
  | false => exact ⟨_, _, rfl, q1 rfl⟩
  | true =>
    obtain ⟨z, e3, h4, u, u', k, h5, h6, h7, q⟩ := q2 rfl
    exact ⟨_, _, by simp only [h4, h5, h6, h7]; rfl, q⟩
theorem andv {a b : Tm} {Q : Rv → Ev → Prop} (q : WE pg cf keep a env fun r e => ∃ k, truD r.2 = some k ∧ (k = false → Q r e) ∧ (k = true → WE pg cf keep b e Q)) : WE pg cf keep (.andv a b) env Q := by
  obtain ⟨r, e, h, k, h1, q1, q2⟩ := q
  constructor; simp only [evE]
  rw [h]
  simp only [Out.bind, h1]
  cases k with
  | false => exact ⟨_, _, rfl, q1 rfl⟩
  | true => exact (q2 rfl).ex
theorem orv {a b : Tm} {Q : Rv → Ev → Prop} (q : WE pg cf keep a env fun r e => ∃ k, truD r.2 = some k ∧ (k = true → Q r e) ∧ (k = false → WE pg cf keep b e Q)) : WE pg cf keep (.orv a b) env Q := by
  obtain ⟨r, e, h, k, h1, q1, q2⟩ := q
  constructor; simp only [evE]
  rw [h]
  simp only [Out.bind, h1]
  cases k with
  | false => exact (q2 rfl).ex
  | true => exact ⟨_, _, rfl, q1 rfl⟩
theorem ife {c : Ct} {a b : Tm} {Q : Rv → Ev → Prop} (q : WC pg cf keep c env fun t e => (t = true → WE pg cf keep a e Q) ∧ (t = false → WE pg cf keep b e Q)) : WE pg cf keep (.ife c a b) env Q := by
  obtain ⟨t, e, h, q1, q2⟩ := q
  constructor; simp only [evE]
  rw [h]
  cases t with
  | false => exact (q2 rfl).ex
  | true => exact (q1 rfl).ex
theorem idx {a b : Tm} {Q : Rv → Ev → Prop} (q : WO pg cf keep a env fun x e1 => WO pg cf keep b e1 fun y e => ∃ d d' r, rdO e x = some d ∧ rdO e y = some d' ∧ idxD d d' = some r ∧ Q (fz r) e) : WE pg cf keep (.idx a b) env Q := by
  constructor; simp only [evE]
  obtain ⟨x, e1, h, y, e, h', d, d', k, h1, h2, h3, q⟩ := q
  exact wop2 ⟨x, e1, h, y, e, h', d, d', _, h1, h2, by simp only [h3]; rfl, q⟩
theorem slc {a : Tm} {lo hi : To} {Q : Rv → Ev → Prop} (q : WO pg cf keep a env fun x e1 => WTo pg cf keep lo e1 fun l e2 => WTo pg cf keep hi e2 fun h e3 => ∃ d r, rdO e3 x = some d ∧ slcD l h d = some r ∧ Q r e3) : WE pg cf keep (.slc a lo hi) env Q := by
  obtain ⟨x, e1, h, l, e2, h', u, e3, h'', d, r, h1, h2, q⟩ := q
  constructor; simp only [evE]
  rw [h]
  exact ⟨_, _, by simp only [Out.bind, h', h'', h1, h2]; rfl, q⟩
theorem evn {a : Tm} {lo : To} {Q : Rv → Ev → Prop} (q : WO pg cf keep a env fun x e1 => WTo pg cf keep lo e1 fun l e2 => ∃ xs, rdO e2 x = some (.lst xs) ∧ (l = none ∧ Q (ow (.lst (evens xs))) e2 ∨ l = some 1 ∧ Q (ow (.lst (evens (xs.drop 1)))) e2)) : WE pg cf keep (.evn a lo) env Q := by
  obtain ⟨x, e1, h, l, e2, h', xs, h1, q⟩ := q
  constructor; simp only [evE]
  rw [h]
  rcases q with ⟨rfl, q⟩ | ⟨rfl, q⟩
  · exact ⟨_, _, by simp only [Out.bind, h', h1]; rfl, q⟩
  · exact ⟨_, _, by simp only [Out.bind, h', h1]; rfl, q⟩
theorem rev {a : Tm} {Q : Rv → Ev → Prop} (q : WO pg cf keep a env fun x e => ∃ xs, rdO e x = some (.lst xs) ∧ Q (ow (.lst xs.reverse)) e) : WE pg cf keep (.rev a) env Q := by
  constructor; simp only [evE]; obtain ⟨x, e, h, d, h1, q⟩ := q; exact wop1 ⟨x, e, h, _, _, h1, rfl, q⟩
theorem bi {f : Bi} {a : Tm} {Q : Rv → Ev → Prop} (q : WO pg cf keep a env fun x e => ∃ d r, rdO e x = some d ∧ biD f d = some r ∧ Q r e) : WE pg cf keep (.bi f a) env Q := by
  constructor; simp only [evE]; exact wop1 q
theorem join {s a : Tm} {Q : Rv → Ev → Prop} (q : WE pg cf keep s env fun x e1 => ∃ z, x.2 = .str z ∧ WO pg cf keep a e1 fun y e => ∃ ys ss, rdO e y = some (.lst ys) ∧ strsD ys = some ss ∧ (ss.map (·.length)).sum + ss.length * z.length ≤ 16777216 ∧ Q (fz (.str (Txt.join z ss))) e) : WE pg cf keep (.join s a) env Q := by
  obtain ⟨x, e1, h, z, hz, y, e, h', ys, ss, h1, h2, h3, q⟩ := q
  constructor; simp only [evE]
  rw [h]
  simp only [Out.bind, hz]
  exact wop1 ⟨y, e, h', _, _, h1, by simp only [h2, Option.bind_some, h3, if_true], q⟩
theorem dget {d k x : Tm} {Q : Rv → Ev → Prop} (q : WO pg cf keep d env fun x1 e1 => ∃ kvs, rdO e1 x1 = some (.dct kvs) ∧ WO pg cf keep k e1 fun y e2 => WE pg cf keep x e2 fun z e3 => ∃ kvs u key, rdO e3 x1 = some (.dct kvs) ∧ rdO e3 y = some u ∧ keyD u = some key ∧ Q (fz ((valD kvs key).getD z.2)) e3) : WE pg cf keep (.dget d k x) env Q := by
  obtain ⟨x1, e1, h, kvs, hk, y, e2, h', z, e3, h'', kvs', u, key, h1, h2, h3, q⟩ := q
  constructor; simp only [evE]
  rw [h]
  exact ⟨_, _, by simp only [Out.bind, hk, h', h'', h1, h2, h3], q⟩
theorem zipl {a b : Tm} {Q : Rv → Ev → Prop} (q : WO pg cf keep a env fun x e1 => WO pg cf keep b e1 fun y e => ∃ xs ys, ((rdO e x = some (.lst xs) ∧ rdO e y = some (.lst ys)) ∨ (rdO e x = some (.tup xs) ∧ rdO e y = some (.tup ys))) ∧ Q (ow (.lst (zipD xs ys))) e) : WE pg cf keep (.zipl a b) env Q := by
  constructor; simp only [evE]
  obtain ⟨x, e1, h, y, e, h', xs, ys, ⟨h1, h2⟩ | ⟨h1, h2⟩, q⟩ := q
  · exact wop2 ⟨x, e1, h, y, e, h', _, _, _, h1, h2, rfl, q⟩
  · exact wop2 ⟨x, e1, h, y, e, h', _, _, _, h1, h2, rfl, q⟩
theorem gin {g : Nat} {a : Tm} {Q : Rv → Ev → Prop} (q : WO pg cf keep a env fun x e => ∃ s kvs, rdO e x = some (.str s) ∧ pg.gd[g]? = some kvs ∧ Q (fz (.bl (valD kvs (.inr s)).isSome)) e) : WE pg cf keep (.gin g a) env Q := by
  constructor; simp only [evE]; obtain ⟨x, e, h, s, kvs, h1, h2, q⟩ := q; exact wop1 ⟨x, e, h, _, _, h1, by simp only [h2], q⟩
theorem gidx {g : Nat} {a : Tm} {Q : Rv → Ev → Prop} (q : WO pg cf keep a env fun x e => ∃ s kvs d, rdO e x = some (.str s) ∧ pg.gd[g]? = some kvs ∧ valD kvs (.inr s) = some d ∧ Q (fz d) e) : WE pg cf keep (.gidx g a) env Q := by
  constructor; simp only [evE]; obtain ⟨x, e, h, s, kvs, d, h1, h2, h3, q⟩ := q; exact wop1 ⟨x, e, h, _, _, h1, by simp only [h2, h3]; rfl, q⟩
theorem gdict {g : Nat} {kvs : List (Key × D)} {Q : Rv → Ev → Prop} (h : pg.gd[g]? = some kvs) (q : Q (ow (.dct kvs)) env) : WE pg cf keep (.gdict g) env Q := ⟨_, _, by simp only [evE, h]; rfl, q⟩
theorem tupd {es : Tms} {Q : Rv → Ev → Prop} (q : WF pg cf keep es env fun ds e => ds.length ≤ sizeLine ∧ Q (fz (.tup ds)) e) : WE pg cf keep (.tupd es) env Q := by
  obtain ⟨ds, e, h, h1, q⟩ := q
  exact ⟨_, _, by simp only [evE, h, Out.bind, h1, if_true], q⟩
theorem lstd {es : Tms} {Q : Rv → Ev → Prop} (q : WF pg cf keep es env fun ds e => ds.length ≤ sizeLine ∧ Q (ow (.lst ds)) e) : WE pg cf keep (.lstd es) env Q := by
  obtain ⟨ds, e, h, h1, q⟩ := q
  exact ⟨_, _, by simp only [evE, h, Out.bind, h1, if_true], q⟩
theorem dctd {ps : Tps} {Q : Rv → Ev → Prop} (q : WP pg cf keep ps env fun kvs e => kvs.length ≤ 15 ∧ Q (ow (.dct (kvs.foldl (fun acc kv => putD acc kv.1 kv.2) []))) e) : WE pg cf keep (.dctd ps) env Q := by
  obtain ⟨ds, e, h, h1, q⟩ := q
  exact ⟨_, _, by simp only [evE, h, Out.bind, h1, if_true], q⟩
/-- a call of f -/
def Cl (pg : Pg) (cf : Nat → List Rv → COut) (f : Nat) (os : List Opd) (e1 : Ev) (Q : Rv → Ev → Prop) : Prop := (slotsOf os).Nodup ∧ ∃ rs e2, lendAll (pg.keeps f) 0 os e1 = some (rs, e2) ∧ ∃ r outs, cf f rs = .ok r outs ∧ Q r (giveBack os rs outs e2)
theorem docall {f : Nat} {os : List Opd} {e1 : Ev} {Q : Rv → Ev → Prop} (q : Cl pg cf f os e1 Q) : ∃ r e, doCall pg cf f os e1 = .ok r e ∧ Q r e := by
  obtain ⟨nd, rs, e2, h1, r, outs, h2, q⟩ := q
  exact ⟨_, _, by simp only [doCall, nd, if_true, h1, h2], q⟩
theorem call {f : Nat} {as : Tms} {Q : Rv → Ev → Prop} (q : WA pg cf keep as env fun os e1 => Cl pg cf f os e1 Q) : WE pg cf keep (.call f as) env Q := by
  obtain ⟨os, e1, h, q⟩ := q
  constructor; simp only [evE]
  rw [h]
  exact docall q
theorem callv {i f : Nat} {as : Tms} {Q : Rv → Ev → Prop} (hg : getS env i = some (false, .fn f)) (q : WA pg cf keep as env fun os e1 => Cl pg cf f os e1 Q) : WE pg cf keep (.callv i as) env Q := by
  obtain ⟨os, e1, h, q⟩ := q
  constructor; simp only [evE, hg]
  rw [h]
  exact docall q
/-- a turn of a comprehension -/
def cturn (pg : Pg) (cf : Nat → List Rv → COut) (keep : Nat) (e : Tm) (tg : List Nat) (one : Bool) (c : To') (own : List Nat) (d : D) (en : Ev) : Out (Option D) := match target keep tg one d en with
  | none => .stuck
  | some en1 => (evTc pg cf keep c en1).bind fun t en2 => if t then (evE pg cf keep e en2).bind fun r en3 => .ok (some r.2) (wipeE en3 own) else .ok none (wipeE en2 own)
theorem cturn_ok {e : Tm} {tg : List Nat} {one : Bool} {c : To'} {own : List Nat} {d : D} {en en1 : Ev} {Q : Option D → Ev → Prop} (ht : target keep tg one d en = some en1) (q : WTc pg cf keep c en1 fun t en2 => (t = true → WE pg cf keep e en2 fun r en3 => Q (some r.2) (wipeE en3 own)) ∧ (t = false → Q none (wipeE en2 own))) :
    ∃ o e', cturn pg cf keep e tg one c own d en = .ok o e' ∧ Q o e' := by
  obtain ⟨t, en2, h, q1, q2⟩ := q
  unfold cturn
  rw [ht]
  simp only [h, Out.bind]
  cases t with
  | true =>
    obtain ⟨r, en3, h3, q⟩ := q1 rfl
    exact ⟨_, _, by simp only [if_true, h3], q⟩
  | false => exact ⟨_, _, rfl, q2 rfl⟩
theorem compLoop_inv {f : D → Ev → Out (Option D)} {items : List D} (I : Nat → List D → Ev → Prop) (h : ∀ k d acc e, items[k]? = some d → I k acc e → ∃ o e', f d e = .ok o e' ∧ I (k + 1) (acc ++ o.toList) e') : ∀ (rest pre : List D) (acc : List D) (e : Ev), items = pre ++ rest → I pre.length acc e → ∃ r e', compLoop f rest e = .ok r e' ∧ I items.length (acc ++ r) e'
  | [], pre, acc, e, hi, I0 => ⟨[], e, rfl, by rw [List.append_nil]; rw [hi, List.append_nil]; exact I0⟩
  | d :: ds, pre, acc, e, hi, I0 => by
    obtain ⟨o, e1, h1, I1⟩ := h pre.length d acc e (by rw [hi]; simp) I0
    obtain ⟨r, e2, h2, I2⟩ := compLoop_inv I h ds (pre ++ [d]) (acc ++ o.toList) e1 (by rw [hi]; simp) (by simpa using I1)
    cases o with
    | none => exact ⟨r, e2, by simp only [compLoop, h1, h2, Out.bind], by simpa using I2⟩
    | some y => exact ⟨y :: r, e2, by simp only [compLoop, h1, h2, Out.bind], by simpa using I2⟩
/-- a comprehension's loop -/
structure WCl (f : D → Ev → Out (Option D)) (items : List D) (e : Ev) (Q : List D → Ev → Prop) : Prop where
  ex : ∃ r e', compLoop f items e = .ok r e' ∧ Q r e'
theorem cl_nil {f : D → Ev → Out (Option D)} {e : Ev} {Q : List D → Ev → Prop} (q : Q [] e) : WCl f [] e Q := ⟨_, _, rfl, q⟩
theorem cl_cons {f : D → Ev → Out (Option D)} {d : D} {ds : List D} {e : Ev} {Q : List D → Ev → Prop} (q : ∃ o e1, f d e = .ok o e1 ∧ WCl f ds e1 fun r e' => Q (o.toList ++ r) e') : WCl f (d :: ds) e Q := by
  obtain ⟨o, e1, h1, r, e', h2, q⟩ := q
  cases o with
  | none => exact ⟨r, e', by simp only [compLoop, h1, h2, Out.bind], q⟩
  | some y => exact ⟨y :: r, e', by simp only [compLoop, h1, h2, Out.bind], q⟩
theorem comp {e : Tm} {tg : List Nat} {one : Bool} {it : It} {c : To'} {own : List Nat} {Q : Rv → Ev → Prop} (q : WI pg cf keep it env fun items e1 => items.length ≤ sizeLine ∧ tg.all own.contains = true ∧ WCl (cturn pg cf keep e tg one c own) items (wipeE e1 own) fun r e2 => Q (ow (.lst r)) (restE e2 e1 own)) : WE pg cf keep (.comp e tg one it c own) env Q := by
  obtain ⟨items, e1, h, h1, h2, r, e2, h3, q⟩ := q
  refine ⟨_, _, ?_, q⟩
  have e0 : evE pg cf keep (.comp e tg one it c own) env = (evI pg cf keep it env).bind fun items e1 => if items.length ≤ sizeLine ∧ tg.all own.contains = true then (compLoop (cturn pg cf keep e tg one c own) items (wipeE e1 own)).bind fun r e2 => .ok (ow (.lst r)) (restE e2 e1 own) else .stuck := by
    rw [evE]; rfl
  rw [e0, h]
  simp only [Out.bind, h1, h2, and_self, if_true, h3]
/-- a comprehension that leaves the slots as they are -/
theorem comp_map {e : Tm} {tg : List Nat} {one : Bool} {it : It} {c : To'} {own : List Nat} {Q : Rv → Ev → Prop} (g : D → Option D) (q : WI pg cf keep it env fun items e1 => items.length ≤ sizeLine ∧ tg.all own.contains = true ∧ (∀ d ∈ items, ∃ o e', cturn pg cf keep e tg one c own d (wipeE e1 own) = .ok o e' ∧ o = g d ∧ e' = wipeE e1 own) ∧ Q (ow (.lst (items.filterMap g))) (restE (wipeE e1 own) e1 own)) : WE pg cf keep (.comp e tg one it c own) env Q := by
  obtain ⟨items, e1, h, h1, h2, h3, q⟩ := q
  refine comp ⟨items, e1, h, h1, h2, _, _, ?_, q⟩
  have key : ∀ l : List D, (∀ d ∈ l, ∃ o e', cturn pg cf keep e tg one c own d (wipeE e1 own) = .ok o e' ∧ o = g d ∧ e' = wipeE e1 own) → compLoop (cturn pg cf keep e tg one c own) l (wipeE e1 own) = .ok (l.filterMap g) (wipeE e1 own) := by
    intro l
    induction l with
    | nil => intro _; rfl
    | cons d l ih =>
      intro hl
      obtain ⟨o, e', k1, rfl, rfl⟩ := hl d (List.mem_cons_self ..)
      simp only [compLoop, k1, Out.bind, ih fun x hx => hl x (List.mem_cons_of_mem _ hx), List.filterMap_cons]
      cases g d <;> rfl
  exact key items h3
/-- a turn of a dict's comprehension -/
def dturn (pg : Pg) (cf : Nat → List Rv → COut) (keep : Nat) (k v : Tm) (tg : List Nat) (one : Bool) (own : List Nat) (d : D) (en : Ev) : Out (Key × D) := match target keep tg one d en with
  | none => .stuck
  | some en1 => (evE pg cf keep k en1).bind fun r en2 => (evE pg cf keep v en2).bind fun r' en3 => match keyD r.2 with
    | some key => .ok (key, r'.2) (wipeE en3 own)
    | none => .stuck
theorem dturn_ok {k v : Tm} {tg : List Nat} {one : Bool} {own : List Nat} {d : D} {en en1 : Ev} {Q : Key × D → Ev → Prop} (ht : target keep tg one d en = some en1) (q : WE pg cf keep k en1 fun r en2 => WE pg cf keep v en2 fun r' en3 => ∃ key, keyD r.2 = some key ∧ Q (key, r'.2) (wipeE en3 own)) :
    ∃ o e', dturn pg cf keep k v tg one own d en = .ok o e' ∧ Q o e' := by
  obtain ⟨r, en2, h, r', en3, h', key, h1, q⟩ := q
  refine ⟨_, _, ?_, q⟩
  unfold dturn
  rw [ht]
  simp only [h, h', h1, Out.bind]
theorem dcomp_map {k v : Tm} {tg : List Nat} {one : Bool} {it : It} {own : List Nat} {Q : Rv → Ev → Prop} (g : D → Key × D) (q : WI pg cf keep it env fun items e1 => items.length ≤ sizeLine ∧ tg.all own.contains = true ∧ (∀ d ∈ items, ∃ o e', dturn pg cf keep k v tg one own d (wipeE e1 own) = .ok o e' ∧ o = g d ∧ e' = wipeE e1 own) ∧ Q (ow (.dct ((items.map g).foldl (fun acc kv => putD acc kv.1 kv.2) []))) (restE (wipeE e1 own) e1 own)) : WE pg cf keep (.dcomp k v tg one it own) env Q := by
  obtain ⟨items, e1, h, h1, h2, h3, q⟩ := q
  refine ⟨_, _, ?_, q⟩
  have e0 : evE pg cf keep (.dcomp k v tg one it own) env = (evI pg cf keep it env).bind fun items e1 => if items.length ≤ sizeLine ∧ tg.all own.contains = true then (dcompLoop (dturn pg cf keep k v tg one own) items [] (wipeE e1 own)).bind fun r e2 => .ok (ow (.dct r)) (restE e2 e1 own) else .stuck := by
    rw [evE]; rfl
  rw [e0, h]
  simp only [Out.bind, h1, h2, and_self, if_true]
  have key : ∀ (l : List D) (acc : List (Key × D)), (∀ d ∈ l, ∃ o e', dturn pg cf keep k v tg one own d (wipeE e1 own) = .ok o e' ∧ o = g d ∧ e' = wipeE e1 own) → dcompLoop (dturn pg cf keep k v tg one own) l acc (wipeE e1 own) = .ok ((l.map g).foldl (fun acc kv => putD acc kv.1 kv.2) acc) (wipeE e1 own) := by
    intro l
    induction l with
    | nil => intro acc _; rfl
    | cons d l ih =>
      intro acc hl
      obtain ⟨o, e', k1, rfl, rfl⟩ := hl d (List.mem_cons_self ..)
      simp only [dcompLoop, k1, Out.bind, List.map_cons, List.foldl_cons]
      exact ih _ fun x hx => hl x (List.mem_cons_of_mem _ hx)
  rw [key items [] h3]
theorem mu {m : Mu} {i : Nat} {as : Tms} {Q : Rv → Ev → Prop} {xs : List D} (h0 : getS env i = some (true, .lst xs)) (q : WF pg cf keep as env fun ds e1 => ∃ xs d ys, getS e1 i = some (true, .lst xs) ∧ muD m xs ds = some (d, ys) ∧ Q (fz d) (e1.set i (some (ow (.lst ys))))) : WE pg cf keep (.mu m i as) env Q := by
  obtain ⟨ds, e1, h, ys, d, zs, h1, h2, q⟩ := q
  exact ⟨_, _, by simp only [evE, h0, h, Out.bind, h1, h2], q⟩
/-! items, arguments -/
theorem f_nil {Q : List D → Ev → Prop} (q : Q [] env) : WF pg cf keep .nil env Q := ⟨_, _, by simp only [evF], q⟩
theorem f_cons {a : Tm} {r : Tms} {Q : List D → Ev → Prop} (q : WE pg cf keep a env fun x e1 => WF pg cf keep r e1 fun xs e2 => Q (x.2 :: xs) e2) : WF pg cf keep (.cons a r) env Q := by
  obtain ⟨x, e1, h, xs, e2, h', q⟩ := q
  exact ⟨_, _, by simp only [evF, h, h', Out.bind], q⟩
theorem f_star {a : Tm} {r : Tms} {Q : List D → Ev → Prop} (q : WE pg cf keep a env fun x e1 => ∃ ys, seqD x.2 = some ys ∧ WF pg cf keep r e1 fun xs e2 => Q (ys ++ xs) e2) : WF pg cf keep (.star a r) env Q := by
  obtain ⟨x, e1, h, ys, hy, xs, e2, h', q⟩ := q
  exact ⟨_, _, by simp only [evF, h, hy, h', Out.bind], q⟩
theorem a_nil {Q : List Opd → Ev → Prop} (q : Q [] env) : WA pg cf keep .nil env Q := ⟨_, _, by simp only [evA], q⟩
theorem a_cons {a : Tm} {r : Tms} {Q : List Opd → Ev → Prop} (q : WO pg cf keep a env fun x e1 => WA pg cf keep r e1 fun xs e2 => Q (x :: xs) e2) : WA pg cf keep (.cons a r) env Q := by
  obtain ⟨x, e1, h, xs, e2, h', q⟩ := q
  exact ⟨_, _, by simp only [evA, h, h', Out.bind], q⟩
theorem r_nil {Q : List Rv → Ev → Prop} (q : Q [] env) : WR pg cf keep .nil env Q := ⟨_, _, by simp only [evR], q⟩
theorem r_cons {a : Tm} {r : Tms} {Q : List Rv → Ev → Prop} (q : WE pg cf keep a env fun x e1 => WR pg cf keep r e1 fun xs e2 => Q (x :: xs) e2) : WR pg cf keep (.cons a r) env Q := by
  obtain ⟨x, e1, h, xs, e2, h', q⟩ := q
  exact ⟨_, _, by simp only [evR, h, h', Out.bind], q⟩
theorem p_nil {Q : List (Key × D) → Ev → Prop} (q : Q [] env) : WP pg cf keep .nil env Q := ⟨_, _, by simp only [evP], q⟩
theorem p_cons {k v : Tm} {r : Tps} {Q : List (Key × D) → Ev → Prop} (q : WE pg cf keep k env fun x e1 => WE pg cf keep v e1 fun y e2 => ∃ key, keyD x.2 = some key ∧ WP pg cf keep r e2 fun xs e3 => Q ((key, y.2) :: xs) e3) : WP pg cf keep (.cons k v r) env Q := by
  obtain ⟨x, e1, h, y, e2, h', key, hk, xs, e3, h'', q⟩ := q
  exact ⟨_, _, by simp only [evP, h, h', hk, h'', Out.bind], q⟩
theorem to_no {Q : Option Int → Ev → Prop} (q : Q none env) : WTo pg cf keep .no env Q := ⟨_, _, by simp only [evTo], q⟩
theorem to_yes {a : Tm} {Q : Option Int → Ev → Prop} (q : WE pg cf keep a env fun r e => ∃ i, r.2 = .int i ∧ Q (some i) e) : WTo pg cf keep (.yes a) env Q := by
  obtain ⟨r, e, h, i, h1, q⟩ := q
  exact ⟨_, _, by simp only [evTo, h, Out.bind, h1], q⟩
theorem tc_no {Q : Bool → Ev → Prop} (q : Q true env) : WTc pg cf keep .no env Q := ⟨_, _, by simp only [evTc], q⟩
theorem tc_yes {c : Ct} {Q : Bool → Ev → Prop} (q : WC pg cf keep c env Q) : WTc pg cf keep (.yes c) env Q := by
  obtain ⟨r, e, h, q⟩ := q
  exact ⟨_, _, by simp only [evTc, h], q⟩
theorem i_seq {a : Tm} {Q : List D → Ev → Prop} (q : WE pg cf keep a env fun r e => ∃ xs, itemsD r.2 = some xs ∧ Q xs e) : WI pg cf keep (.seq a) env Q := by
  obtain ⟨r, e, h, xs, h1, q⟩ := q
  exact ⟨_, _, by simp only [evI, h, Out.bind, h1]; rfl, q⟩
structure RngI (n : Int) : Prop where
  lo : -4611686018427387904 ≤ n
  hi : n < 4611686018427387904
theorem RngI.ok {n : Int} (h : RngI n) : rngOk n = true := by
  unfold rngOk
  rw [decide_eq_true (show -(2 ^ 62) ≤ n from h.lo), decide_eq_true (show n < 2 ^ 62 from h.hi)]
  rfl
theorem i_rng1 {a : Tm} {Q : List D → Ev → Prop} (q : WE pg cf keep a env fun r e => ∃ n, r.2 = .int n ∧ RngI n ∧ Q (rngD 0 n.toNat) e) : WI pg cf keep (.rng1 a) env Q := by
  obtain ⟨r, e, h, n, h1, h2, q⟩ := q
  exact ⟨_, _, by simp only [evI, h, Out.bind, h1, h2.ok, if_true], q⟩
theorem i_rng2 {a b : Tm} {Q : List D → Ev → Prop} (q : WE pg cf keep a env fun r e1 => WE pg cf keep b e1 fun r' e => ∃ i j, r.2 = .int i ∧ r'.2 = .int j ∧ RngI i ∧ RngI j ∧ Q (rngD i (j - i).toNat) e) : WI pg cf keep (.rng2 a b) env Q := by
  obtain ⟨r, e1, h, r', e, h', i, j, h1, h2, h3, h4, q⟩ := q
  exact ⟨_, _, by simp only [evI, h, h', Out.bind, h1, h2, h3.ok, h4.ok, Bool.and_self, if_true], q⟩
theorem i_enum {a : Tm} {Q : List D → Ev → Prop} (q : WE pg cf keep a env fun r e => ∃ xs, seqD r.2 = some xs ∧ Q (enumD 0 xs) e) : WI pg cf keep (.enum a) env Q := by
  obtain ⟨r, e, h, xs, h1, q⟩ := q
  exact ⟨_, _, by simp only [evI, h, Out.bind, h1], q⟩
theorem i_zip {a b : Tm} {Q : List D → Ev → Prop} (q : WE pg cf keep a env fun r e1 => WE pg cf keep b e1 fun r' e => ∃ xs ys, ((r.2 = .lst xs ∧ r'.2 = .lst ys) ∨ (r.2 = .tup xs ∧ r'.2 = .tup ys)) ∧ Q (zipD xs ys) e) : WI pg cf keep (.zip a b) env Q := by
  obtain ⟨r, e1, h, r', e, h', xs, ys, ⟨h1, h2⟩ | ⟨h1, h2⟩, q⟩ := q
  · exact ⟨_, _, by simp only [evI, h, h', Out.bind, h1, h2], q⟩
  · exact ⟨_, _, by simp only [evI, h, h', Out.bind, h1, h2], q⟩
theorem c_val {a : Tm} {Q : Bool → Ev → Prop} (q : WO pg cf keep a env fun x e => ∃ d k, rdO e x = some d ∧ truD d = some k ∧ Q k e) : WC pg cf keep (.val a) env Q := by
  obtain ⟨x, e, h, d, k, h1, h2, q⟩ := q
  refine ⟨k, e, ?_, q⟩
  simp only [evC, h, Out.bind, h1, Option.bind_some, h2]
theorem c_cmp {a : Tm} {Q : Bool → Ev → Prop} (q : WE pg cf keep a env fun r e => ∃ k, r.2 = .bl k ∧ Q k e) : WC pg cf keep (.cmp a) env Q := by
  obtain ⟨r, e, h, k, h1, q⟩ := q
  exact ⟨_, _, by simp only [evC, h, Out.bind, h1], q⟩
theorem c_and {a b : Ct} {Q : Bool → Ev → Prop} (q : WC pg cf keep a env fun t e => (t = true → WC pg cf keep b e Q) ∧ (t = false → Q false e)) : WC pg cf keep (.and a b) env Q := by
  obtain ⟨t, e, h, q1, q2⟩ := q
  constructor; simp only [evC]
  rw [h]
  cases t with
  | true => exact (q1 rfl).ex
  | false => exact ⟨_, _, rfl, q2 rfl⟩
theorem c_or {a b : Ct} {Q : Bool → Ev → Prop} (q : WC pg cf keep a env fun t e => (t = true → Q true e) ∧ (t = false → WC pg cf keep b e Q)) : WC pg cf keep (.or a b) env Q := by
  obtain ⟨t, e, h, q1, q2⟩ := q
  constructor; simp only [evC]
  rw [h]
  cases t with
  | true => exact ⟨_, _, rfl, q1 rfl⟩
  | false => exact (q2 rfl).ex
theorem c_not {a : Ct} {Q : Bool → Ev → Prop} (q : WC pg cf keep a env fun t e => Q (!t) e) : WC pg cf keep (.not a) env Q := by
  obtain ⟨t, e, h, q⟩ := q
  exact ⟨_, _, by simp only [evC, h, Out.bind], q⟩
/-! statements -/
section
variable {N : Ev → Prop} {R : Flow' → Ev → Prop}
theorem ss_nil (q : N env) : WSs pg cf keep wf .nil env N R := ⟨_, _, by simp only [exSs], .inl ⟨rfl, q⟩⟩
theorem ss_cons {s : Sm} {r : Sms} (q : WS pg cf keep wf s env (fun e => WSs pg cf keep wf r e N R) R) : WSs pg cf keep wf (.cons s r) env N R := by
  obtain ⟨f, e, h, ⟨rfl, q⟩ | ⟨hf, q⟩⟩ := q
  · obtain ⟨f', e', h', q'⟩ := q
    exact ⟨f', e', by simp only [exSs, h, h'], q'⟩
  · refine ⟨f, e, ?_, .inr ⟨hf, q⟩⟩
    cases f with
    | nx => exact absurd rfl hf
    | _ => simp only [exSs, h]
theorem asg {i : Nat} {a : Tm} (q : WE pg cf keep a env fun r e => ∃ e2, putE keep i r e = some e2 ∧ N e2) : WS pg cf keep wf (.asg i a) env N R := by
  obtain ⟨r, e, h, e2, h1, q⟩ := q
  exact ⟨_, _, by simp only [exS, h, Out.bind, h1, lift], .inl ⟨rfl, q⟩⟩
theorem unp {is : List Nat} {a : Tm} (q : WE pg cf keep a env fun r e => ∃ e2, target keep is false r.2 e = some e2 ∧ N e2) : WS pg cf keep wf (.unp is a) env N R := by
  obtain ⟨r, e, h, e2, h1, q⟩ := q
  exact ⟨_, _, by simp only [exS, h, Out.bind, h1, lift], .inl ⟨rfl, q⟩⟩
theorem par {is : List Nat} {es : Tms} (q : WR pg cf keep es env fun rs e => ∃ e2, putRs keep is rs e = some e2 ∧ N e2) : WS pg cf keep wf (.par is es) env N R := by
  obtain ⟨r, e, h, e2, h1, q⟩ := q
  exact ⟨_, _, by simp only [exS, h, Out.bind, h1, lift], .inl ⟨rfl, q⟩⟩
theorem setk {i : Nat} {k v : Tm} (q : WE pg cf keep v env fun x e1 => ∃ kvs0, getS e1 i = some (true, .dct kvs0) ∧ WO pg cf keep k e1 fun y e2 => ∃ kvs u key, getS e2 i = some (true, .dct kvs) ∧ rdO e2 y = some u ∧ keyD u = some key ∧ kvs.length < sizeLine ∧ N (e2.set i (some (ow (.dct (putD kvs key x.2)))))) : WS pg cf keep wf (.setk i k v) env N R := by
  obtain ⟨x, e1, h, kvs0, h1, y, e2, h2, kvs, u, key, h3, h4, h5, h6, q⟩ := q
  refine ⟨_, _, ?_, .inl ⟨rfl, q⟩⟩
  simp only [exS, h, Out.bind, h1, h2, h3, h4, Option.bind_some, h5, h6, if_true]
theorem aug {i : Nat} {a : Tm} {m : Int} (h0 : getS env i = some (false, .int m)) (q : WE pg cf keep a env fun x e1 => ∃ n e2, x.2 = .int n ∧ putE keep i (fz (.int (m + n))) e1 = some e2 ∧ N e2) : WS pg cf keep wf (.aug i a) env N R := by
  obtain ⟨x, e1, h, n, e2, h1, h2, q⟩ := q
  exact ⟨_, _, by simp only [exS, h0, h, Out.bind, h1, h2, lift], .inl ⟨rfl, q⟩⟩
theorem ifs {c : Ct} {a b : Sms} (q : WC pg cf keep c env fun t e => (t = true → WSs pg cf keep wf a e N R) ∧ (t = false → WSs pg cf keep wf b e N R)) : WS pg cf keep wf (.ifs c a b) env N R := by
  obtain ⟨t, e, h, q1, q2⟩ := q
  constructor; simp only [exS]
  rw [h]
  cases t with
  | true => exact (q1 rfl).ex
  | false => exact (q2 rfl).ex
theorem ret {a : Tm} (hv : ∀ i, a ≠ .var i) (q : WE pg cf keep a env fun r e => R (.ret r) e) : WS pg cf keep wf (.ret a) env N R := by
  obtain ⟨r, e, h, q⟩ := q
  refine ⟨.ret r, e, ?_, .inr ⟨fun z => (nomatch z), q⟩⟩
  cases a <;> first | exact absurd rfl (hv _) | simp only [exS, h, Out.bind]
theorem ret_own {i : Nat} {d : D} (h : getS env i = some (true, d)) (hk : keep ≤ i) (q : R (.ret (ow d)) env) : WS pg cf keep wf (.ret (.var i)) env N R := ⟨.ret (ow d), env, by simp only [exS, h, hk, if_true], .inr ⟨fun z => (nomatch z), q⟩⟩
theorem ret_fz {i : Nat} {d : D} (h : getS env i = some (false, d)) (q : R (.ret (fz d)) env) : WS pg cf keep wf (.ret (.var i)) env N R := ⟨.ret (fz d), env, by simp only [exS, h], .inr ⟨fun z => (nomatch z), q⟩⟩
theorem retn (q : R (.ret (fz .non)) env) : WS pg cf keep wf .retn env N R := ⟨.ret (fz .non), env, by simp only [exS], .inr ⟨fun z => (nomatch z), q⟩⟩
theorem expr {a : Tm} (q : WE pg cf keep a env fun _ e => N e) : WS pg cf keep wf (.expr a) env N R := by
  obtain ⟨r, e, h, q⟩ := q
  exact ⟨_, _, by simp only [exS, h, Out.bind], .inl ⟨rfl, q⟩⟩
theorem pass (q : N env) : WS pg cf keep wf .pass env N R := ⟨_, _, by simp only [exS], .inl ⟨rfl, q⟩⟩
/-- a for by an invariant: I k e ahead of the k-th item -/
theorem fors {tg : List Nat} {one : Bool} {it : It} {b : Sms} (q : WI pg cf keep it env fun items e1 => ∃ I : Nat → Ev → Prop, I 0 e1 ∧ (∀ k d e, items[k]? = some d → I k e → ∃ en1, target keep tg one d e = some en1 ∧ WSs pg cf keep wf b en1 (fun e' => I (k + 1) e') fun f e' => (f = .cont ∧ I (k + 1) e') ∨ (f = .brk ∧ N e') ∨ (∃ r, f = .ret r ∧ R (.ret r) e')) ∧ ∀ e, I items.length e → N e) : WS pg cf keep wf (.fors tg one it b) env N R := by
  obtain ⟨items, e1, h, I, I0, hs, hN⟩ := q
  constructor; simp only [exS, h, Out.bind]
  have key : ∀ (rest pre : List D) (e : Ev), items = pre ++ rest → I pre.length e → ∃ f e', forLoop (fun d en => match target keep tg one d en with
        | none => .stuck
        | some en1 => exSs pg cf keep wf b en1) rest e = .ok f e' ∧ ((f = .nx ∧ N e') ∨ (f ≠ .nx ∧ R f e')) := by
    intro rest
    induction rest with
    | nil =>
      intro pre e hi i0
      exact ⟨.nx, e, rfl, .inl ⟨rfl, hN e (by rw [hi, List.append_nil]; exact i0)⟩⟩
    | cons d ds ih =>
      intro pre e hi i0
      obtain ⟨en1, ht, f, e', hb, hq⟩ := hs pre.length d e (by rw [hi]; simp) i0
      have go : I (pre.length + 1) e' → ∃ f e'', forLoop (fun d en => match target keep tg one d en with
        | none => .stuck
        | some en1 => exSs pg cf keep wf b en1) ds e' = .ok f e'' ∧ ((f = .nx ∧ N e'') ∨ (f ≠ .nx ∧ R f e'')) := fun i1 => ih (pre ++ [d]) e' (by rw [hi]; simp) (by simpa using i1)
      simp only [forLoop, ht, hb]
      rcases hq with ⟨rfl, i1⟩ | ⟨hf, ⟨rfl, i1⟩ | ⟨rfl, n1⟩ | ⟨r, rfl, r1⟩⟩
      · exact go i1
      · exact go i1
      · exact ⟨_, _, rfl, .inl ⟨rfl, n1⟩⟩
      · exact ⟨_, _, rfl, .inr ⟨fun z => (nomatch z), r1⟩⟩
  exact key items [] e1 rfl I0
def fturn (pg : Pg) (cf : Nat → List Rv → COut) (keep wf : Nat) (tg : List Nat) (one : Bool) (b : Sms) (d : D) (en : Ev) : Out Flow' := match target keep tg one d en with
  | none => .stuck
  | some en1 => exSs pg cf keep wf b en1
/-- a for over items that are written out -/
structure WFl (pg : Pg) (cf : Nat → List Rv → COut) (keep wf : Nat) (tg : List Nat) (one : Bool) (b : Sms) (items : List D) (env : Ev) (N : Ev → Prop) (R : Flow' → Ev → Prop) : Prop where
  ex : ∃ f e, forLoop (fturn pg cf keep wf tg one b) items env = .ok f e ∧ ((f = .nx ∧ N e) ∨ (f ≠ .nx ∧ R f e))
theorem fors_l {tg : List Nat} {one : Bool} {it : It} {b : Sms} (q : WI pg cf keep it env fun items e1 => WFl pg cf keep wf tg one b items e1 N R) : WS pg cf keep wf (.fors tg one it b) env N R := by
  obtain ⟨items, e1, h, f, e, h2, q⟩ := q
  refine ⟨f, e, ?_, q⟩
  have e0 : exS pg cf keep wf (.fors tg one it b) env = (evI pg cf keep it env).bind fun items e1 => forLoop (fturn pg cf keep wf tg one b) items e1 := by
    rw [exS]; rfl
  rw [e0, h]
  exact h2
theorem fl_nil {tg : List Nat} {one : Bool} {b : Sms} (q : N env) : WFl pg cf keep wf tg one b [] env N R := ⟨_, _, rfl, .inl ⟨rfl, q⟩⟩
theorem fl_cons {tg : List Nat} {one : Bool} {b : Sms} {d : D} {ds : List D} {en1 : Ev} (ht : target keep tg one d env = some en1) (q : WSs pg cf keep wf b en1 (fun e' => WFl pg cf keep wf tg one b ds e' N R) fun f e' => (f = .cont ∧ WFl pg cf keep wf tg one b ds e' N R) ∨ (f = .brk ∧ N e') ∨ (∃ r, f = .ret r ∧ R (.ret r) e')) : WFl pg cf keep wf tg one b (d :: ds) env N R := by
  obtain ⟨f, e', hb, hq⟩ := q
  constructor
  simp only [forLoop, fturn, ht, hb]
  rcases hq with ⟨rfl, i1⟩ | ⟨hf, ⟨rfl, i1⟩ | ⟨rfl, n1⟩ | ⟨r, rfl, r1⟩⟩
  · exact i1.ex
  · exact i1.ex
  · exact ⟨_, _, rfl, .inl ⟨rfl, n1⟩⟩
  · exact ⟨_, _, rfl, .inr ⟨fun z => (nomatch z), r1⟩⟩
/-- a while by an invariant and a number that falls -/
theorem whiles {c : Ct} {b : Sms} (I : Nat → Ev → Prop) (n : Nat) (hn : n < wf) (i0 : I n env) (hs : ∀ k e, k ≤ n → I k e → WC pg cf keep c e fun t e1 => (t = false → N e1) ∧ (t = true → WSs pg cf keep wf b e1 (fun e' => ∃ k', k' < k ∧ I k' e') fun f e' => (f = .cont ∧ ∃ k', k' < k ∧ I k' e') ∨ (f = .brk ∧ N e') ∨ (∃ r, f = .ret r ∧ R (.ret r) e'))) : WS pg cf keep wf (.whiles c b) env N R := by
  constructor; simp only [exS]
  have key : ∀ (m k : Nat) (e : Ev), k < m → k ≤ n → I k e → ∃ f e', whileLoop (evC pg cf keep c) (exSs pg cf keep wf b) m e = .ok f e' ∧ ((f = .nx ∧ N e') ∨ (f ≠ .nx ∧ R f e')) := by
    intro m
    induction m with
    | zero => intro k e hk; omega
    | succ m ih =>
      intro k e hk hkn i1
      obtain ⟨t, e1, hc, q1, q2⟩ := hs k e hkn i1
      simp only [whileLoop, hc, Out.bind]
      cases t with
      | false => exact ⟨_, _, rfl, .inl ⟨rfl, q1 rfl⟩⟩
      | true =>
        obtain ⟨f, e', hb, hq⟩ := q2 rfl
        simp only [if_true, hb]
        rcases hq with ⟨rfl, k', l', i2⟩ | ⟨hf, ⟨rfl, k', l', i2⟩ | ⟨rfl, n1⟩ | ⟨r, rfl, r1⟩⟩
        · exact ih k' e' (by omega) (by omega) i2
        · exact ih k' e' (by omega) (by omega) i2
        · exact ⟨_, _, rfl, .inl ⟨rfl, n1⟩⟩
        · exact ⟨_, _, rfl, .inr ⟨fun z => (nomatch z), r1⟩⟩
  exact key wf n env hn (Nat.le_refl _) i0
end
theorem ws_mono {s : Sm} {N N' : Ev → Prop} {R : Flow' → Ev → Prop} (q : WS pg cf keep wf s env N R) (h : ∀ e, N e → N' e) : WS pg cf keep wf s env N' R := by
  obtain ⟨f, e, h1, ⟨rfl, q⟩ | q⟩ := q
  · exact ⟨_, _, h1, .inl ⟨rfl, h e q⟩⟩
  · exact ⟨_, _, h1, .inr q⟩
theorem ss_mono {s : Sms} {N N' : Ev → Prop} {R R' : Flow' → Ev → Prop} (q : WSs pg cf keep wf s env N R) (h : ∀ e, N e → N' e) (h' : ∀ f e, R f e → R' f e) : WSs pg cf keep wf s env N' R' := by
  obtain ⟨f, e, h1, ⟨rfl, q⟩ | ⟨hf, q⟩⟩ := q
  · exact ⟨_, _, h1, .inl ⟨rfl, h e q⟩⟩
  · exact ⟨_, _, h1, .inr ⟨hf, h' f e q⟩⟩
theorem we_mono {t : Tm} {Q Q' : Rv → Ev → Prop} (q : WE pg cf keep t env Q) (h : ∀ r e, Q r e → Q' r e) : WE pg cf keep t env Q' := by
  obtain ⟨r, e, h1, q⟩ := q
  exact ⟨_, _, h1, h r e q⟩
/-- a def's call, by its body -/
theorem fn {ft : Nat → Option Fd} {k f : Nat} {rs : List Rv} {d : Fd} {P : Rv → List Slot → Prop} (env : Ev) (hd : ft f = some d) (he : (packR d.star d.np rs).map some ++ List.replicate (d.nn - d.np) none = env) (h1 : (packR d.star d.np rs).length = d.np) (h3 : starOk d rs = true)
    (q : WSs pg (callF pg ft wf k) d.keep wf d.body env (fun e => P (fz .non) (e.take d.np)) fun f e => ∃ r, f = .ret r ∧ P r (e.take d.np)) (h2 : rs.length ≤ sizeLine) : ∃ r outs, callF pg ft wf (k + 1) f rs = .ok r outs ∧ P r outs := by
  obtain ⟨f', e, h, hq⟩ := q
  subst he
  simp only [callF, hd, h1, h2, h3, and_self, if_true, h]
  rcases hq with ⟨rfl, p⟩ | ⟨_, r, rfl, p⟩
  · exact ⟨_, _, rfl, p⟩
  · exact ⟨_, _, rfl, p⟩
theorem iff_f {A B : Prop} (h : B) : (false = true → A) ∧ (false = false → B) := ⟨fun z => (nomatch z), fun _ => h⟩
theorem iff_t {A B : Prop} (h : A) : (true = true → A) ∧ (true = false → B) := ⟨fun _ => h, fun z => (nomatch z)⟩
theorem iff_f2 {A B : Prop} (h : A) : (false = false → A) ∧ (false = true → B) := ⟨fun _ => h, fun z => (nomatch z)⟩
theorem iff_t2 {A B : Prop} (h : B) : (true = false → A) ∧ (true = true → B) := ⟨fun z => (nomatch z), fun _ => h⟩
theorem len_id {α : Type} {xs : List α} {m : Nat} (h : xs.length ≤ m) : xs.length ≤ m := h
theorem len_le {α : Type} {xs : List α} {n m : Nat} (h : xs.length = n) (h2 : n ≤ m) : xs.length ≤ m := h ▸ h2
end W
end
end Ev
open Ev in
local macro_rules | `(tactic| walk_at "ev1") => `(tactic| first
  | ((with_reducible show WO _ _ _ _ _ _); first | refine W.o_own rfl ?_ | refine W.o_fz rfl ?_ | refine W.o_tm nofun ?_)
  | ((with_reducible show WE _ _ _ _ _ _); first | refine W.var_fz rfl ?_ | refine W.cst ?_ | refine W.idx ?_ | refine W.cmp ?_ | refine W.bi ?_ | refine W.call ?_ | refine W.bin ?_ | refine W.tupd ?_ | refine W.gl rfl ?_ | refine W.var_ow rfl ?_ | refine W.lstd ?_ | refine W.slc ?_ | refine W.andv ?_ | refine W.orv ?_ | refine W.ife ?_ | refine W.isN ?_ | refine W.isNN ?_ | refine W.mu rfl ?_ | refine W.chain ?_ | refine W.neg ?_ | refine W.notv ?_ | refine W.callv rfl ?_ | refine W.gidx ?_ | refine W.gin ?_ | refine W.gdict rfl ?_ | refine W.fnv ?_ | refine W.dctd ?_ | refine W.evn ?_ | refine W.rev ?_ | refine W.join ?_ | refine W.dget ?_ | refine W.zipl ?_)
  | ((with_reducible show WS _ _ _ _ _ _ _ _); first | refine W.asg ?_ | refine W.expr ?_ | refine W.ret_own rfl (by decide) ?_ | refine W.ret_fz rfl ?_ | refine W.ret nofun ?_ | refine W.par ?_ | refine W.unp ?_ | refine W.setk ?_ | refine W.retn ?_ | refine W.aug rfl ?_ | refine W.pass ?_)
  | ((with_reducible show WC _ _ _ _ _ _); first | refine W.c_cmp ?_ | refine W.c_and ?_ | refine W.c_or ?_ | refine W.c_not ?_ | refine W.c_val ?_)
  | ((with_reducible show WA _ _ _ _ _ _); first | refine W.a_cons ?_ | refine W.a_nil ?_)
  | ((with_reducible show WF _ _ _ _ _ _); first | refine W.f_cons ?_ | refine W.f_nil ?_ | refine W.f_star ?_)
  | ((with_reducible show WR _ _ _ _ _ _); first | refine W.r_cons ?_ | refine W.r_nil ?_)
  | ((with_reducible show WP _ _ _ _ _ _); first | refine W.p_cons ?_ | refine W.p_nil ?_)
  | ((with_reducible show WTo _ _ _ _ _ _); first | refine W.to_no ?_ | refine W.to_yes ?_)
  | ((with_reducible show WTc _ _ _ _ _ _); first | refine W.tc_no ?_ | refine W.tc_yes ?_)
  | ((with_reducible show WI _ _ _ _ _ _); first | refine W.i_seq ?_ | refine W.i_rng1 ?_ | refine W.i_rng2 ?_ | refine W.i_enum ?_ | refine W.i_zip ?_))
open Ev in
local macro_rules | `(tactic| walk_at "ev2") => `(tactic| first
  | (refine Exists.intro _ (Exists.intro _ (Exists.intro _ ⟨rfl, rfl, rfl, ?_⟩)); try dsimp only)
  | (refine Exists.intro _ (Exists.intro _ ⟨rfl, rfl, ?_⟩); try dsimp only)
  | (refine Exists.intro _ ⟨rfl, ?_⟩; try dsimp only [List.set])
  | refine And.intro (W.len_id (by simp only [List.length_cons, List.length_nil]; decide)) ?_
  | (refine Exists.intro _ (Exists.intro _ ⟨Or.inl ⟨rfl, rfl⟩, ?_⟩); try dsimp only)
  | (refine Exists.intro _ (Exists.intro _ ⟨Or.inr ⟨rfl, rfl⟩, ?_⟩); try dsimp only)
  | (refine Exists.intro _ (Exists.intro _ (Exists.intro _ ⟨rfl, rfl, ?_⟩)); try dsimp only [List.set])
  | refine Or.inl (And.intro rfl ?_)
  | refine Or.inr (And.intro rfl ?_)
  | refine W.iff_f ?_
  | refine W.iff_t ?_
  | refine W.iff_f2 ?_
  | refine W.iff_t2 ?_
  | refine And.intro (W.RngI.mk (by omega) (by omega)) ?_
  | refine W.add_ii ?_
  | refine W.sub_ii ?_
  | refine W.mod_ii (by omega) ?_
  | refine W.mul_ii (by omega) ?_
  | refine W.fdiv_ii (by omega) ?_
  | refine W.pow_ii (by decide) ?_)
open Ev in
local macro_rules | `(tactic| walk_at "ev") => `(tactic| repeat (first | walk_at "ev1" | refine W.ss_cons ?_ | refine W.ifs ?_ | refine W.ss_nil ?_ | walk_at "ev2"))
open Ev in
local macro_rules | `(tactic| walk_at "evn") => `(tactic| repeat (first | walk_at "ev1" | refine W.ss_cons ?_ | refine W.ss_nil ?_ | walk_at "ev2"))
open Ev in
local macro_rules | `(tactic| walk_at "evx") => `(tactic| repeat (first | walk_at "ev1" | refine W.ss_cons ?_ | walk_at "ev2"))
open Ev in
local macro_rules | `(tactic| walk_at "norm") => `(tactic| try dsimp only [wipeE, restE, List.set, getS, List.getElem?_cons_zero, List.getElem?_cons_succ, Option.getD_some, Option.toList, List.cons_append, List.nil_append])
open Ev in
local macro_rules | `(tactic| walk_at "evu") => `(tactic| repeat (first | walk_at "ev1" | refine W.ss_cons ?_ | refine W.ifs ?_ | refine W.ss_nil ?_ | (refine W.comp ?_; walk_at "norm") | refine W.fors_l ?_ | (refine W.fl_cons rfl ?_; walk_at "norm") | refine W.fl_nil ?_ | ((with_reducible refine W.cl_cons ?_); refine W.cturn_ok rfl ?_; walk_at "norm") | ((with_reducible refine W.cl_nil ?_); walk_at "norm") | walk_at "ev2" | (refine And.intro rfl ?_; walk_at "norm")))
open Ev in
local macro_rules | `(tactic| walk_at "evy") => `(tactic| repeat (first | walk_at "ev1" | walk_at "ev2"))
/-! P1: the pen. -/
namespace Ev.G
open PySem L2
/-- the graph laws' data over a table of keeps -/
def pg0 (kp : Nat → Nat) : Pg := ⟨gcs, gds, kp⟩
structure Fx (kp : Nat → Nat) (ft : Nat → Option Fd) : Prop extends Tab ft where
  kp : ∀ f d, ft f = some d → kp f = d.keep
section
variable {kp : Nat → Nat} {ft : Nat → Option Fd} {cf : Nat → List Rv → COut}
theorem cl (X : Fx kp ft) {f : Nat} {os : List Opd} {e1 : Ev} {Q : Rv → Ev → Prop} {d : Fd} (hf : ft f = some d) {rs : List Rv} {r : Rv} {outs : List Slot} (hc : cf f rs = .ok r outs) (e3 : Ev) {e2 : Ev} (nd : (slotsOf os).Nodup) (hl : lendAll d.keep 0 os e1 = some (rs, e2)) (hg : giveBack os rs outs e2 = e3) (q : Q r e3) : W.Cl (pg0 kp) cf f os e1 Q :=
  ⟨nd, rs, e2, by rw [show (pg0 kp).keeps f = d.keep from X.kp f d hf]; exact hl, r, outs, hc, by rw [hg]; exact q⟩
end
structure Pen where
  c : List Int
  u : Nat
  l : Int
def penK (p : Pen) : List (Key × D) := [(.inr "cells", .lst (p.c.map D.int)), (.inr "used", .int p.u), (.inr "left", .int p.l)]
def Pen.d (p : Pen) : Rv := ow (.dct (penK p))
structure Pen.ok (p : Pen) (n : Nat) : Prop where
  u : p.u ≤ n
  l : 0 ≤ p.l
theorem Pen.ok.mono {p : Pen} {n m : Nat} (h : p.ok n) (l : n ≤ m) : p.ok m := ⟨Nat.le_trans h.u l, h.l⟩
theorem pen_setl (c : List Int) (u : Nat) (l v : Int) : putD (penK ⟨c, u, l⟩) (.inr "left") (.int v) = penK ⟨c, u, v⟩ := rfl
theorem pen_setu (c : List Int) (u : Nat) (l : Int) : putD (penK ⟨c, u, l⟩) (.inr "used") (.int ((u : Int) + 1)) = penK ⟨c, u + 1, l⟩ := rfl
theorem atI_nat {α : Type} {xs : List α} {i : Nat} {x : α} (h : xs[i]? = some x) : atI xs (i : Int) = some x := by
  have lt := (List.getElem?_eq_some_iff.mp h).1
  unfold atI ixN
  rw [if_pos (by omega), if_pos (by omega)]
  simpa using h
theorem atI_mod {c : List Int} {u : Nat} (h : c ≠ []) : ∃ x : Int, atI (c.map D.int) ((u : Int) % ((c.map D.int).length : Int)) = some (.int x) := by
  have hl : 0 < c.length := List.length_pos_iff.mpr h
  rw [List.length_map]
  have e : (u : Int) % (c.length : Int) = ((u % c.length : Nat) : Int) := by omega
  have lt := Nat.mod_lt u hl
  rw [e]
  refine ⟨c[u % c.length], atI_nat ?_⟩
  rw [List.getElem?_map, List.getElem?_eq_getElem lt]
  rfl
section
variable {kp : Nat → Nat} {ft : Nat → Option Fd} {wf k : Nat} (X : Fx kp ft)
include X
theorem draw_ok {p : Pen} {n : Nat} (hp : p.ok n) (hn : n < 1099511627776) {m : Int} (hm : 0 < m) (hm2 : m < 1073741824) :
    ∃ r outs, callF (pg0 kp) ft wf (k + 1) 42 [p.d, fz (.int m)] = .ok r outs ∧ ∃ (p' : Pen) (i : Int), r = fz (.int i) ∧ outs = [some p'.d, some (fz (.int m))] ∧ 0 ≤ i ∧ i < m ∧ p'.ok (n + 1) := by
  obtain ⟨hu, hl⟩ := hp
  obtain ⟨c, u, l⟩ := p
  dsimp only at hu hl
  refine W.fn [some (Pen.d ⟨c, u, l⟩), some (fz (.int m)), none, none, none, none] X.law_draw rfl rfl rfl ?_ (by show 2 ≤ sizeLine; decide)
  unfold d_law_draw Pen.d
  dsimp only
  walk_at "ev"
  refine ⟨fun h => ?_, fun h => ?_⟩
  · walk_at "ev"
    refine ⟨(by decide : 3 < sizeLine), ?_⟩
    walk_at "ev"
    refine ⟨⟨c, u, l / m⟩, l % m, rfl, rfl, Int.emod_nonneg _ (by omega), Int.emod_lt_of_pos _ hm, ⟨by dsimp only; omega, Int.ediv_nonneg hl (by omega)⟩⟩
  · walk_at "ev"
    refine ⟨(by decide : 3 < sizeLine), ?_⟩
    rw [pen_setu]
    have last : ∀ (x : Int) (N : Ev → Prop), WSs (pg0 kp) (callF (pg0 kp) ft wf k) 2 wf (match d_law_draw.body with
        | .cons _ (.cons _ (.cons _ (.cons _ (.cons _ (.cons _ r))))) => r
        | _ => .nil) [some (Pen.d ⟨c, u + 1, l⟩), some (fz (.int m)), none, some (fz (.int u)), some (fz (.int x)), none] N fun f e => ∃ r, f = .ret r ∧ ∃ (p' : Pen) (i : Int), r = fz (.int i) ∧ e.take 2 = [some p'.d, some (fz (.int m))] ∧ 0 ≤ i ∧ i < m ∧ p'.ok (n + 1) := by
      intro x N
      unfold d_law_draw Pen.d
      dsimp only
      walk_at "ev"
      exact ⟨Int.emod_nonneg _ (by omega), Int.emod_lt_of_pos _ hm, ⟨by show u + 1 ≤ n + 1; omega, hl⟩⟩
    have tail : ∀ (x : Int) (N : Ev → Prop), WSs (pg0 kp) (callF (pg0 kp) ft wf k) 2 wf (match d_law_draw.body with
        | .cons _ (.cons _ (.cons _ (.cons _ (.cons _ r)))) => r
        | _ => .nil) [some (Pen.d ⟨c, u + 1, l⟩), some (fz (.int m)), none, some (fz (.int u)), some (fz (.int x)), none] N fun f e => ∃ r, f = .ret r ∧ ∃ (p' : Pen) (i : Int), r = fz (.int i) ∧ e.take 2 = [some p'.d, some (fz (.int m))] ∧ 0 ≤ i ∧ i < m ∧ p'.ok (n + 1) := by
      intro x N
      unfold d_law_draw Pen.d
      dsimp only
      walk_at "ev"
      refine ⟨fun h1 => ?_, fun h1 => ?_⟩
      · walk_at "ev"
        refine ⟨fun h2 => ?_, fun h2 => ?_⟩
        · walk_at "ev"
          refine ⟨(by decide : 3 < sizeLine), ?_⟩
          walk_at "ev"
          have h3 := of_decide_eq_true h2
          refine ⟨⟨c, u + 1, _⟩, _, rfl, rfl, Int.emod_nonneg _ (by omega), Int.emod_lt_of_pos _ hm, ⟨by show u + 1 ≤ n + 1; omega, Int.ediv_nonneg ?_ (by omega)⟩⟩
          generalize (10 : Int) ^ Int.toNat 18 = z at h3 ⊢
          omega
        · refine W.ss_nil ?_
          exact last x N
      · refine ⟨fun h2 => (by cases h2), fun _ => ?_⟩
        refine W.ss_nil ?_
        exact last x N
    cases c with
    | nil =>
      walk_at "evx"
      refine W.ifs ?_
      walk_at "evx"
      refine W.ss_nil ?_
      exact tail _ _
    | cons y c =>
      walk_at "evx"
      refine W.ifs ?_
      walk_at "evx"
      obtain ⟨x, hx⟩ := atI_mod (c := y :: c) (u := u) (by simp)
      refine W.mod_ii (by simp only [List.length_map, List.length_cons]; omega) ?_
      refine ⟨_, _, _, rfl, rfl, hx, ?_⟩
      walk_at "ev2"
      refine W.ss_nil ?_
      exact tail _ _
end
end Ev.G
/-! P2: picks, names. -/
namespace Ev.G
open PySem L2
theorem bi_len {d : D} {n : Int} (h : lenD d = some n) : biD .len d = some (fz (.int n)) := by
  show (lenD d).map (fun n => fz (.int n)) = _
  rw [h]
  rfl
section
variable {kp : Nat → Nat} {ft : Nat → Option Fd} {wf k : Nat} (X : Fx kp ft)
include X
theorem pick_ok {p : Pen} {n : Nat} (hp : p.ok n) (hn : n < 1099511627776) {o : Bool} {opts : D} {len : Nat} (hl : lenD opts = some (len : Int)) (h0 : 0 < len) (h1 : len < 1073741824) (hx : ∀ i : Nat, i < len → ∃ d, idxD opts (.int i) = some d) :
    ∃ r outs, callF (pg0 kp) ft wf (k + 2) 43 [p.d, (o, opts)] = .ok r outs ∧ ∃ (p' : Pen) (i : Nat) (d : D), r = fz d ∧ outs = [some p'.d, some (o, opts)] ∧ i < len ∧ idxD opts (.int i) = some d ∧ p'.ok (n + 1) := by
  obtain ⟨r, outs, hc, p', i, rfl, rfl, i0, i1, hp'⟩ := draw_ok (wf := wf) (k := k) X hp hn (m := len) (by omega) (by omega)
  obtain ⟨j, rfl⟩ : ∃ j : Nat, i = j := ⟨i.toNat, by omega⟩
  obtain ⟨d, hd⟩ := hx j (by omega)
  refine W.fn [some p.d, some (o, opts)] X.law_pick rfl rfl rfl ?_ (by show 2 ≤ sizeLine; decide)
  unfold d_law_pick
  dsimp only
  cases o with
  | false =>
    walk_at "ev"
    refine ⟨_, _, rfl, bi_len hl, ?_⟩
    walk_at "ev"
    refine cl X X.law_draw hc [some p'.d, some (_, opts)] (by simp [slotsOf]) rfl rfl ?_
    refine ⟨_, _, _, rfl, rfl, hd, ?_⟩
    exact ⟨_, rfl, p', j, d, rfl, rfl, by omega, hd, hp'⟩
  | true =>
    walk_at "ev"
    refine ⟨_, _, rfl, bi_len hl, ?_⟩
    walk_at "ev"
    refine cl X X.law_draw hc [some p'.d, some (_, opts)] (by simp [slotsOf]) rfl rfl ?_
    refine ⟨_, _, _, rfl, rfl, hd, ?_⟩
    exact ⟨_, rfl, p', j, d, rfl, rfl, by omega, hd, hp'⟩
end
end Ev.G
/-! P3: names. -/
namespace Ev.G
open PySem L2
abbrev tl (s : Str) : List Nat := s.cps.toList
theorem tl_inj {a b : Str} (h : tl a = tl b) : a = b := by
  cases a; cases b
  simp only [tl] at h
  simpa using Array.toList_inj.mp h
abbrev lett : Str := Str.ofString "abcdefghijklmnopqrstuvwxyz"
theorem lett_tl : tl lett = List.range' 97 26 := by decide +kernel
theorem lett_len : lett.length = 26 := by decide +kernel
theorem main_tl : tl (Str.ofString "main") = [109, 97, 105, 110] := by decide +kernel
theorem mainly_tl : tl (Str.ofString "mainly") = [109, 97, 105, 110, 108, 121] := by decide +kernel
/-- a name: one to eight letters -/
structure IsNm (s : Str) : Prop where
  len : 1 ≤ (tl s).length ∧ (tl s).length ≤ 8
  low : ∀ c ∈ tl s, 97 ≤ c ∧ c ≤ 122
theorem len_tl (s : Str) : s.length = (tl s).length := by simp [Str.length, tl]
theorem idx_lett (i : Nat) (h : i < 26) : idxD (.str lett) (.int i) = some (.str ⟨#[97 + i]⟩) := by
  have e : atI (tl lett) (i : Int) = some (97 + i) := atI_nat (by rw [lett_tl]; simp [List.getElem?_range', h])
  show (if lett.length ≤ sizeLine then (atI (tl lett) (i : Int)).map (fun c => D.str ⟨#[c]⟩) else none) = _
  rw [if_pos (by rw [lett_len]; decide), e]
  rfl
theorem rngD_get {n k : Nat} {d : D} (h : (rngD 0 n)[k]? = some d) : k < n ∧ d = .int k := by
  unfold rngD at h
  rw [List.getElem?_map] at h
  cases hr : (List.range n)[k]? with
  | none => rw [hr] at h; cases h
  | some i =>
    rw [hr] at h
    have e := List.getElem?_eq_some_iff.mp hr
    obtain ⟨lt, ei⟩ := e
    rw [List.getElem_range] at ei
    rw [List.length_range] at lt
    subst ei
    cases h
    exact ⟨lt, by simp⟩
theorem rngD_len (n : Nat) : (rngD 0 n).length = n := by simp [rngD]
theorem rngD_mem {n : Nat} {d : D} (h : d ∈ rngD 0 n) : ∃ k : Nat, k < n ∧ d = .int k := by
  obtain ⟨k, hk⟩ := List.mem_iff_getElem?.mp h
  obtain ⟨a, b⟩ := rngD_get hk
  exact ⟨k, a, b⟩
def chD (c : Nat) : D := .str ⟨#[c]⟩
theorem strsD_ch : ∀ cs : List Nat, strsD (cs.map chD) = some (cs.map fun c => ⟨#[c]⟩)
  | [] => rfl
  | c :: cs => by
    show (strsD (cs.map chD)).map (Str.mk #[c] :: ·) = _
    rw [strsD_ch cs]
    rfl
theorem joinL_nil : ∀ ps : List (List Nat), TL.joinL [] ps = ps.flatten
  | [] => rfl
  | [p] => by simp [TL.joinL]
  | p :: q :: r => by
    show p ++ ([] ++ TL.joinL [] (q :: r)) = _
    rw [joinL_nil (q :: r)]
    simp
theorem join_ch (cs : List Nat) : tl (Txt.join (Str.ofString "") (cs.map fun c => ⟨#[c]⟩)) = cs := by
  rw [TL.join_eq]
  show TL.tl _ = _
  rw [TL.tl_join]
  have e : TL.tl (Str.ofString "") = [] := by decide +kernel
  rw [e, joinL_nil, List.map_map]
  induction cs with
  | nil => rfl
  | cons c cs ih => simp only [List.map_cons, List.flatten_cons, ih]; rfl
theorem lenD_str {s : Str} (h : s.length ≤ sizeLine) : lenD (.str s) = some (s.length : Int) := if_pos h
/-- the name at k: a letter put into the stem -/
def nameAt (stem : Str) (a f b k : Nat) : Str := ⟨((tl stem).take a ++ (97 + (f + b * k) % 26) :: (tl stem).drop a).toArray⟩
def fixN (s : Str) : Str := if s = Str.ofString "main" then Str.ofString "mainly" else s
theorem nameAt_tl (stem : Str) (a f b k : Nat) : tl (nameAt stem a f b k) = (tl stem).take a ++ (97 + (f + b * k) % 26) :: (tl stem).drop a := by simp [nameAt, tl]
theorem nameAt_len (stem : Str) (a f b k : Nat) : (tl (nameAt stem a f b k)).length = (tl stem).length + 1 := by
  rw [nameAt_tl, List.length_append, List.length_cons, List.length_take, List.length_drop]
  omega
theorem nameAt_inj {stem : Str} {a f b k k' : Nat} (hb : b = 1 ∨ b = 3 ∨ b = 5 ∨ b = 7 ∨ b = 9 ∨ b = 11) (hk : k < 26) (hk' : k' < 26) (e : nameAt stem a f b k = nameAt stem a f b k') : k = k' := by
  have e2 := congrArg tl e
  rw [nameAt_tl, nameAt_tl, List.append_cancel_left_eq, List.cons.injEq] at e2
  have e3 := e2.1
  rcases hb with rfl | rfl | rfl | rfl | rfl | rfl <;> omega
theorem fixN_inj {s t : Str} (hl : (tl s).length = (tl t).length) (e : fixN s = fixN t) : s = t := by
  unfold fixN at e
  by_cases h1 : s = Str.ofString "main"
  · by_cases h2 : t = Str.ofString "main"
    · rw [h1, h2]
    · rw [if_pos h1, if_neg h2] at e
      rw [h1, ← e, main_tl, mainly_tl] at hl
      simp at hl
  · by_cases h2 : t = Str.ofString "main"
    · rw [if_neg h1, if_pos h2] at e
      rw [h2, e, main_tl, mainly_tl] at hl
      simp at hl
    · rw [if_neg h1, if_neg h2] at e
      exact e
theorem fixN_nm {s : Str} (h : IsNm s) : IsNm (fixN s) := by
  unfold fixN
  split
  · refine ⟨?_, ?_⟩
    · rw [mainly_tl]; decide
    · rw [mainly_tl]; decide
  · exact h
theorem nameAt_nm {stem : Str} {a f b k : Nat} (hl : (tl stem).length ≤ 6) (low : ∀ c ∈ tl stem, 97 ≤ c ∧ c ≤ 122) : IsNm (nameAt stem a f b k) := by
  refine ⟨?_, ?_⟩
  · rw [nameAt_len]; omega
  · rw [nameAt_tl]
    intro c hc
    rcases List.mem_append.mp hc with h | h
    · exact low c (List.mem_of_mem_take h)
    · rcases List.mem_cons.mp h with h | h
      · omega
      · exact low c (List.mem_of_mem_drop h)
theorem filterMap_rng {n : Nat} {g : D → Option D} {h : Nat → D} (hg : ∀ k : Nat, g (.int k) = some (h k)) : (rngD 0 n).filterMap g = (List.range n).map h := by
  unfold rngD
  rw [List.filterMap_map]
  have e : (g ∘ fun i : Nat => D.int (0 + (i : Int))) = fun k => some (h k) := funext fun k => by
    show g (.int (0 + (k : Int))) = _
    rw [Int.zero_add, hg]
  rw [e]
  exact congrFun List.filterMap_eq_map (List.range n)
theorem nodup_map_range {α : Type} {n : Nat} {h : Nat → α} (inj : ∀ i j, i < n → j < n → h i = h j → i = j) : ((List.range n).map h).Nodup := by
  rw [List.Nodup, List.pairwise_map]
  refine List.Pairwise.imp_of_mem (R := fun a b => a ≠ b) (fun {a b} ha hb hn e => hn (inj a b (List.mem_range.mp ha) (List.mem_range.mp hb) e)) List.nodup_range
theorem cut_lo {stem : Str} {a : Nat} (h : a ≤ stem.length) : cutS stem none (some (a : Int)) = ⟨((tl stem).take a).toArray⟩ := by
  unfold cutS
  rw [HT.sIx_none, HT.sIx_nat]
  simp only [List.drop_zero, Nat.sub_zero, Nat.min_eq_left h]
theorem cut_hi {stem : Str} {a : Nat} (h : a ≤ stem.length) : cutS stem (some (a : Int)) none = ⟨((tl stem).drop a).toArray⟩ := by
  unfold cutS
  rw [HT.sIx_none, HT.sIx_nat, Nat.min_eq_left h, List.take_of_length_le (by rw [List.length_drop, ← len_tl]; exact Nat.le_refl _)]
theorem slc_str {s : Str} {lo hi : Option Int} (h : s.length ≤ sizeLine) : slcD lo hi (.str s) = some (fz (.str (cutS s lo hi))) := if_pos h
section
variable {kp : Nat → Nat} {ft : Nat → Option Fd} {wf k : Nat} (X : Fx kp ft)
include X
theorem names_ok {p : Pen} {n : Nat} (hp : p.ok n) (hn : n < 1099511627) {m : Nat} (hm : m ≤ 26) :
    ∃ r outs, callF (pg0 kp) ft wf (k + 3) 44 [p.d, fz (.int m)] = .ok r outs ∧ ∃ (p' : Pen) (ns : List Str), r = ow (.lst (ns.map D.str)) ∧ outs = [some p'.d, some (fz (.int m))] ∧ ns.length = m ∧ ns.Nodup ∧ (∀ s ∈ ns, IsNm s) ∧ p'.ok (n + 9) := by
  refine W.fn [some p.d, some (fz (.int m)), none, none, none, none, none, none, none, none] X.law_names rfl rfl rfl ?_ (by show 2 ≤ sizeLine; decide)
  unfold d_law_names
  dsimp only
  walk_at "ev"
  refine W.comp ?_
  walk_at "ev"
  obtain ⟨_, _, hc, p1, i, rfl, rfl, i0, i1, hp1⟩ := draw_ok (wf := wf) (k := k + 1) X hp (by omega) (m := 6) (by omega) (by omega)
  refine cl X X.law_draw hc [some p1.d, some (fz (.int m)), some (fz (.str lett)), none, none, none, none, none, none, none] (by simp [slotsOf]) rfl rfl ?_
  obtain ⟨j, rfl⟩ : ∃ j : Nat, i = j := ⟨i.toNat, by omega⟩
  refine ⟨_, rfl, ⟨by omega, by omega⟩, ?_⟩
  rw [Int.toNat_natCast]
  refine ⟨by rw [rngD_len]; exact Nat.le_trans (show j ≤ 6 by omega) (by decide), rfl, ?_⟩
  have loop := W.compLoop_inv (f := W.cturn (pg0 kp) (callF (pg0 kp) ft wf (k + 2)) 2 (Tm.call 43 (Tms.cons (Tm.var 0) (Tms.cons (Tm.var 2) Tms.nil))) [4] true To'.no [4]) (items := rngD 0 j)
    (fun t acc e => ∃ (q : Pen) (cs : List Nat), q.ok (n + 1 + t) ∧ acc = cs.map chD ∧ cs.length = t ∧ (∀ c ∈ cs, 97 ≤ c ∧ c ≤ 122) ∧ e = [some q.d, some (fz (.int m)), some (fz (.str lett)), none, none, none, none, none, none, none]) ?_ (rngD 0 j) [] [] [some p1.d, some (fz (.int m)), some (fz (.str lett)), none, none, none, none, none, none, none] rfl ⟨p1, [], hp1, rfl, rfl, by simp, rfl⟩
  · obtain ⟨r, e2, hl, q1, cs, hq1, hcs, lcs, low, he2⟩ := loop
    rw [rngD_len] at lcs hq1
    rw [List.nil_append] at hcs
    subst hcs he2
    refine ⟨⟨_, _, hl, ?_⟩⟩
    have hs : (tl (Txt.join (Str.ofString "") (cs.map fun c => ⟨#[c]⟩))) = cs := join_ch cs
    refine ⟨_, _, rfl, strsD_ch cs, ?_, ?_⟩
    · have e0 : (Str.ofString "").length = 0 := by decide +kernel
      have e1 : ∀ l : List Nat, (List.map (fun x : Str => x.length) (List.map (fun c => (⟨#[c]⟩ : Str)) l)).sum = l.length := by
        intro l
        induction l with
        | nil => rfl
        | cons c l ih => simp only [List.map_cons, List.sum_cons, ih, List.length_cons]; show 1 + l.length = _; omega
      rw [e0, e1]
      omega
    generalize Txt.join (Str.ofString "") (cs.map fun c => ⟨#[c]⟩) = stem at hs
    walk_at "ev"
    have ls : stem.length = j := by rw [len_tl, hs, lcs]
    have lz : stem.length ≤ sizeLine := Nat.le_trans (show stem.length ≤ 6 by omega) (by decide)
    refine ⟨_, _, rfl, bi_len (lenD_str lz), ?_⟩
    walk_at "ev"
    obtain ⟨_, _, hc3, p3, i3, rfl, rfl, i30, i31, hp3⟩ := draw_ok (wf := wf) (k := k + 1) X hq1 (by omega) (m := (stem.length : Int) + 1) (by omega) (by omega)
    refine cl X X.law_draw hc3 [some p3.d, some (fz (.int m)), some (fz (.str lett)), some (fz (.str stem)), none, none, none, none, none, none] (by simp [slotsOf]) rfl rfl ?_
    walk_at "ev"
    obtain ⟨_, _, hc4, p4, i4, rfl, rfl, i40, i41, hp4⟩ := draw_ok (wf := wf) (k := k + 1) X hp3 (by omega) (m := 26) (by omega) (by omega)
    refine cl X X.law_draw hc4 [some p4.d, some (fz (.int m)), some (fz (.str lett)), some (fz (.str stem)), none, none, none, none, none, none] (by simp [slotsOf]) rfl rfl ?_
    walk_at "ev"
    obtain ⟨_, _, hc5, p5, i5, d5, rfl, rfl, l5, e5, hp5⟩ := pick_ok (wf := wf) (k := k) X hp4 (by omega) (o := true) (opts := .lst [.int 1, .int 3, .int 5, .int 7, .int 9, .int 11]) (len := 6) rfl (by omega) (by omega) fun i hi => (by
      match i, hi with
      | 0, _ => exact ⟨_, rfl⟩
      | 1, _ => exact ⟨_, rfl⟩
      | 2, _ => exact ⟨_, rfl⟩
      | 3, _ => exact ⟨_, rfl⟩
      | 4, _ => exact ⟨_, rfl⟩
      | 5, _ => exact ⟨_, rfl⟩)
    obtain ⟨b, rfl, hb⟩ : ∃ b : Nat, d5 = .int b ∧ (b = 1 ∨ b = 3 ∨ b = 5 ∨ b = 7 ∨ b = 9 ∨ b = 11) := by
      match i5, l5, e5 with
      | 0, _, e => cases e; exact ⟨1, rfl, by omega⟩
      | 1, _, e => cases e; exact ⟨3, rfl, by omega⟩
      | 2, _, e => cases e; exact ⟨5, rfl, by omega⟩
      | 3, _, e => cases e; exact ⟨7, rfl, by omega⟩
      | 4, _, e => cases e; exact ⟨9, rfl, by omega⟩
      | 5, _, e => cases e; exact ⟨11, rfl, by omega⟩
    refine cl X X.law_pick hc5 [some p5.d, some (fz (.int m)), some (fz (.str lett)), some (fz (.str stem)), none, none, none, none, none, none] (by simp [slotsOf]) rfl rfl ?_
    walk_at "ev"
    obtain ⟨a, rfl⟩ : ∃ a : Nat, i3 = a := ⟨i3.toNat, by omega⟩
    obtain ⟨f, rfl⟩ : ∃ f : Nat, i4 = f := ⟨i4.toNat, by omega⟩
    refine W.comp_map (fun d => match d with | .int t => some (.str (nameAt stem a f b t.toNat)) | _ => none) ?_
    walk_at "ev"
    rw [Int.toNat_natCast]
    have ha : a ≤ stem.length := by omega
    refine ⟨by rw [rngD_len]; exact Nat.le_trans hm (by decide), rfl, fun d hd => ?_, ?_⟩
    · obtain ⟨t, lt, rfl⟩ := rngD_mem hd
      refine W.cturn_ok (en1 := [some p5.d, some (fz (.int m)), some (fz (.str lett)), some (fz (.str stem)), some (fz (.int t)), some (fz (.int a)), some (fz (.int f)), some (fz (.int b)), none, none]) rfl ?_
      walk_at "ev"
      refine ⟨_, _, rfl, slc_str lz, ?_⟩
      walk_at "ev"
      have ei : ((f : Int) + (b : Int) * (t : Int)) % 26 = (((f + b * t) % 26 : Nat) : Int) := by
        have : (f : Int) + (b : Int) * (t : Int) = ((f + b * t : Nat) : Int) := by rw [Int.natCast_add, Int.natCast_mul]
        rw [this]
        omega
      rw [ei]
      refine ⟨_, _, _, rfl, rfl, idx_lett _ (Nat.mod_lt _ (by omega)), ?_⟩
      refine ⟨_, _, rfl, rfl, W.add_ss ?_ ?_⟩
      · rw [cut_lo ha]
        refine Nat.le_trans (m := 20) ?_ (by decide)
        show ((tl stem).take a).toArray.size + 1 ≤ 20
        rw [List.size_toArray, List.length_take, ← len_tl]
        omega
      walk_at "ev"
      refine ⟨_, _, rfl, slc_str lz, ?_⟩
      refine ⟨_, _, rfl, rfl, W.add_ss ?_ ?_⟩
      · rw [cut_lo ha, cut_hi ha]
        refine Nat.le_trans (m := 20) ?_ (by decide)
        show (((tl stem).take a).toArray ++ #[_]).size + ((tl stem).drop a).toArray.size ≤ 20
        simp only [Array.size_append, List.size_toArray, List.length_take, List.length_drop, ← len_tl, List.length_cons, List.length_nil]
        omega
      refine ⟨?_, rfl⟩
      rw [cut_lo ha, cut_hi ha]
      refine congrArg (fun z => some (D.str z)) (tl_inj ?_)
      rw [nameAt_tl, Int.toNat_natCast]
      show (((tl stem).take a).toArray ++ #[97 + (f + b * t) % 26] ++ ((tl stem).drop a).toArray).toList = _
      simp
    rw [filterMap_rng (h := fun k => .str (nameAt stem a f b k)) fun k => (by show some (D.str (nameAt stem a f b (k : Int).toNat)) = _; rw [Int.toNat_natCast])]
    refine ⟨[some p5.d, some (fz (.int m)), some (fz (.str lett)), some (fz (.str stem)), none, some (fz (.int a)), some (fz (.int f)), some (fz (.int b)), some (ow (.lst ((List.range m).map fun k => .str (nameAt stem a f b k)))), none], rfl, ?_⟩
    walk_at "ev"
    refine W.comp_map (fun d => match d with | .str s => some (.str (fixN s)) | _ => none) ?_
    walk_at "ev"
    refine ⟨by rw [List.length_map, List.length_range]; exact Nat.le_trans hm (by decide), rfl, fun d hd => ?_, ?_⟩
    · obtain ⟨t, _, rfl⟩ := List.mem_map.mp hd
      refine W.cturn_ok (en1 := [some p5.d, some (fz (.int m)), some (fz (.str lett)), some (fz (.str stem)), none, some (fz (.int a)), some (fz (.int f)), some (fz (.int b)), some (fz (.lst ((List.range m).map fun k => .str (nameAt stem a f b k)))), some (fz (.str (nameAt stem a f b t)))]) rfl ?_
      walk_at "ev"
      refine ⟨fun h => ?_, fun h => ?_⟩
      · walk_at "ev"
        refine ⟨?_, rfl⟩
        have hne : ¬ nameAt stem a f b t = Str.ofString "main" := by
          intro e
          rw [e] at h
          revert h
          decide +kernel
        show some (D.str (nameAt stem a f b t)) = some (D.str (fixN (nameAt stem a f b t)))
        unfold fixN
        rw [if_neg hne]
      · walk_at "ev"
        refine ⟨?_, rfl⟩
        have he : nameAt stem a f b t = Str.ofString "main" := of_decide_eq_true (by simpa using h)
        show some (D.str (Str.ofString "mainly")) = some (D.str (fixN (nameAt stem a f b t)))
        unfold fixN
        rw [if_pos he]
    · refine ⟨_, rfl, p5, (List.range m).map fun k => fixN (nameAt stem a f b k), ?_, rfl, by rw [List.length_map, List.length_range], ?_, ?_, hp5.mono (by omega)⟩
      · rw [List.filterMap_map, List.map_map]
        refine congrArg (fun z => ow (.lst z)) ?_
        exact congrFun List.filterMap_eq_map (List.range m)
      · exact nodup_map_range fun i j hi hj e => nameAt_inj hb (by omega) (by omega) (fixN_inj (by rw [nameAt_len, nameAt_len]) e)
      · intro s hs2
        obtain ⟨t, _, rfl⟩ := List.mem_map.mp hs2
        exact fixN_nm (nameAt_nm (by rw [hs]; omega) (by rw [hs]; exact low))
  · intro t d acc e hd hi
    obtain ⟨lt, rfl⟩ := rngD_get hd
    obtain ⟨q, cs, hq, rfl, lcs, low, rfl⟩ := hi
    refine W.cturn_ok (en1 := [some q.d, some (fz (.int m)), some (fz (.str lett)), none, some (fz (.int t)), none, none, none, none, none]) rfl ?_
    walk_at "ev"
    obtain ⟨_, _, hc2, q2, i2, d2, rfl, rfl, l2, e2, hq2⟩ := pick_ok (wf := wf) (k := k) X hq (by omega) (o := false) (opts := .str lett) (len := 26) (by show (if lett.length ≤ sizeLine then some (lett.length : Int) else none) = _; rw [lett_len]; rfl) (by omega) (by omega) fun i hi => ⟨_, idx_lett i hi⟩
    refine cl X X.law_pick hc2 [some q2.d, some (fz (.int m)), some (fz (.str lett)), none, some (fz (.int t)), none, none, none, none, none] (by simp [slotsOf]) rfl rfl ?_
    rw [idx_lett i2 l2] at e2
    cases e2
    refine ⟨q2, cs ++ [97 + i2], hq2, by simp [chD], by simp [lcs], ?_, rfl⟩
    intro c hc
    rcases List.mem_append.mp hc with h | h
    · exact low c h
    · rw [List.mem_singleton] at h
      omega
end
end Ev.G
/-! P4: drawn graphs. -/
namespace Ev.G
open PySem L2
/-- an end -/
inductive En where
  | give | go (g : Str) | iff (g h : Str)
def En.goals : En → List Str
  | .give => []
  | .go g => [g]
  | .iff g h => [g, h]
def enD : En → D
  | .give => .tup [.str "give", .str "x"]
  | .go g => .tup [.str "go", .str g, .tup []]
  | .iff g h => .tup [.str "if", .str "x", .str g, .tup [], .str h, .tup []]
structure Bk where
  nm : Str
  it : Bool
  en : En
/-- the k-th register that a block may define -/
def qreg (k : Nat) : Str := Str.ofString "q" ++ ⟨#[97 + k]⟩
def insD (k : Nat) : D := .tup [.str "num", .str (qreg k), .int k]
def thD (k : Nat) (b : Bool) : List D := if b then [insD k] else []
def bkD (k : Nat) (b : Bk) : D := .tup [.str b.nm, .tup [], .tup (thD k b.it), enD b.en]
def bksD : Nat → List Bk → List D
  | _, [] => []
  | k, b :: r => bkD k b :: bksD (k + 1) r
theorem bksD_app : ∀ (k : Nat) (l : List Bk) (b : Bk), bksD k (l ++ [b]) = bksD k l ++ [bkD (k + l.length) b]
  | k, [], b => rfl
  | k, a :: l, b => by
    show bkD k a :: bksD (k + 1) (l ++ [b]) = bkD k a :: (bksD (k + 1) l ++ [bkD (k + (l.length + 1)) b])
    rw [bksD_app (k + 1) l b, show k + 1 + l.length = k + (l.length + 1) by omega]
theorem bksD_len : ∀ (k : Nat) (l : List Bk), (bksD k l).length = l.length
  | _, [] => rfl
  | k, _ :: l => by show (bksD (k + 1) l).length + 1 = l.length + 1; rw [bksD_len (k + 1) l]
def names (bs : List Bk) : List Str := bs.map (·.nm)
/-- what is known of a drawn graph -/
structure WfG (bs : List Bk) : Prop where
  len : 1 ≤ bs.length ∧ bs.length ≤ 12
  nd : (names bs).Nodup
  nm : ∀ s ∈ names bs, IsNm s
  gl : ∀ b ∈ bs, ∀ g ∈ b.en.goals, g ∈ (names bs).drop 1
theorem eq_nil (xs : List D) : cmpD .ne (.lst xs) (.lst []) = some (!xs.isEmpty) := by cases xs <;> rfl
theorem cutL_mem {α : Type} {xs : List α} {lo hi : Option Int} {x : α} (h : x ∈ cutL xs lo hi) : x ∈ xs.drop (HT.sIx xs.length 0 lo) := List.mem_of_mem_take h
theorem cutL_map {α β : Type} (f : α → β) (xs : List α) (lo hi : Option Int) : cutL (xs.map f) lo hi = (cutL xs lo hi).map f := by
  unfold cutL
  rw [List.length_map, List.map_take, List.map_drop]
theorem cutL_len {α : Type} (xs : List α) (lo hi : Option Int) : (cutL xs lo hi).length ≤ xs.length := by
  unfold cutL
  rw [List.length_take, List.length_drop]
  omega
/-- the blocks that stand near -/
def nearOf (ns : List Str) (k : Nat) : List Str := (List.replicate 2 (cutL ns (some ((k : Int) + 1)) (some ((k : Int) + 3)))).flatten ++ cutL ns (some 1) none
theorem nearOf_mem {ns : List Str} {k : Nat} {s : Str} (h : s ∈ nearOf ns k) : s ∈ ns.drop 1 := by
  unfold nearOf at h
  rcases List.mem_append.mp h with h | h
  · obtain ⟨l, hl, hs⟩ := List.mem_flatten.mp h
    rw [List.eq_of_mem_replicate hl] at hs
    have := cutL_mem hs
    rw [show ((k : Int) + 1) = ((k + 1 : Nat) : Int) by omega, HT.sIx_nat] at this
    obtain ⟨i, hi, e⟩ := List.mem_iff_getElem.mp this
    rw [List.length_drop] at hi
    rw [List.getElem_drop] at e
    refine List.mem_iff_getElem.mpr ⟨min (k + 1) ns.length + i - 1, ?_, ?_⟩
    · rw [List.length_drop]; omega
    · rw [List.getElem_drop, ← e]
      congr 1
      omega
  · have := cutL_mem h
    rw [show (1 : Int) = ((1 : Nat) : Int) by omega, HT.sIx_nat] at this
    obtain ⟨i, hi, e⟩ := List.mem_iff_getElem.mp this
    rw [List.length_drop] at hi
    rw [List.getElem_drop] at e
    refine List.mem_iff_getElem.mpr ⟨min 1 ns.length + i - 1, ?_, ?_⟩
    · rw [List.length_drop]; omega
    · rw [List.getElem_drop, ← e]
      congr 1
      omega
theorem nearOf_len (ns : List Str) (k : Nat) : (nearOf ns k).length ≤ 3 * ns.length := by
  unfold nearOf
  have h1 := cutL_len ns (some ((k : Int) + 1)) (some ((k : Int) + 3))
  have h2 := cutL_len ns (some 1) none
  rw [List.length_append, List.length_flatten, List.map_replicate, List.sum_replicate_nat]
  omega
theorem nearOf_map (ns : List Str) (k : Nat) : (List.replicate (2 : Int).toNat (cutL (ns.map D.str) (some ((k : Int) + 1)) (some ((k : Int) + 3)))).flatten ++ cutL (ns.map D.str) (some 1) none = (nearOf ns k).map D.str := by
  unfold nearOf
  rw [cutL_map, cutL_map, List.map_append, List.map_flatten, List.map_replicate]
  rfl
theorem idx12 (k : Nat) (h : k < 12) : idxD (.str "abcdefghijkl") (.int k) = some (.str ⟨#[97 + k]⟩) := by
  have e : tl (Str.ofString "abcdefghijkl") = List.range' 97 12 := by decide +kernel
  have l : (Str.ofString "abcdefghijkl").length = 12 := by decide +kernel
  have e2 : atI (tl (Str.ofString "abcdefghijkl")) (k : Int) = some (97 + k) := atI_nat (by rw [e]; simp [List.getElem?_range', h])
  show (if (Str.ofString "abcdefghijkl").length ≤ sizeLine then (atI (tl (Str.ofString "abcdefghijkl")) (k : Int)).map (fun c => D.str ⟨#[c]⟩) else none) = _
  rw [if_pos (by rw [l]; decide), e2]
  rfl
/-- ahead of the k-th block -/
structure GI (n m : Nat) (ns : List Str) (k : Nat) (e : Ev) : Prop where
  ex : ∃ (p : Pen) (bs : List Bk) (s4 s5 s6 s7 s8 : Slot), p.ok (n + 5 * k) ∧ names bs = ns.take k ∧ bs.length = k ∧ (∀ b ∈ bs, ∀ g ∈ b.en.goals, g ∈ ns.drop 1) ∧
    e = [some p.d, some (fz (.int m)), some (ow (.lst (ns.map D.str))), some (ow (.lst (bksD 0 bs))), s4, s5, s6, s7, s8]
/-- behind the k-th end -/
structure GE (n m : Nat) (ns : List Str) (bs : List Bk) (near : List Str) (k : Nat) (e : Ev) : Prop where
  ex : ∃ (p : Pen) (en : En) (s6 s8 : Slot), p.ok (n + 5 * k + 4) ∧ (∀ g ∈ en.goals, g ∈ ns.drop 1) ∧
    e = [some p.d, some (fz (.int m)), some (ow (.lst (ns.map D.str))), some (ow (.lst (bksD 0 bs))), some (fz (.int k)), some (ow (.lst (near.map D.str))), s6, some (fz (enD en)), s8]
theorem mu_app {xs : List D} {d : D} (h : xs.length < sizeLine) : muD .append xs [d] = some (.non, xs ++ [d]) := if_pos h
theorem idx_strs {ns : List Str} (i : Nat) (h : i < ns.length) : idxD (.lst (ns.map D.str)) (.int i) = some (.str ns[i]) := atI_nat (by rw [List.getElem?_map, List.getElem?_eq_getElem h]; rfl)
section
variable {kp : Nat → Nat} {ft : Nat → Option Fd} {wf k : Nat} (X : Fx kp ft)
include X
theorem pick_str {p : Pen} {n : Nat} (hp : p.ok n) (hn : n < 1099511627776) {o : Bool} {ns : List Str} (h0 : ns ≠ []) (h1 : ns.length < 1073741824) :
    ∃ r outs, callF (pg0 kp) ft wf (k + 2) 43 [p.d, (o, .lst (ns.map D.str))] = .ok r outs ∧ ∃ (p' : Pen) (s : Str), r = fz (.str s) ∧ outs = [some p'.d, some (o, .lst (ns.map D.str))] ∧ s ∈ ns ∧ p'.ok (n + 1) := by
  obtain ⟨r, outs, hc, p', i, d, rfl, rfl, hi, hd, hp'⟩ := pick_ok (wf := wf) (k := k) X hp hn (o := o) (opts := .lst (ns.map D.str)) (len := ns.length) (by show some (((ns.map D.str).length : Nat) : Int) = _; rw [List.length_map]) (List.length_pos_iff.mpr h0) h1 fun i hi => ⟨_, idx_strs i hi⟩
  rw [idx_strs i hi] at hd
  cases hd
  exact ⟨_, _, hc, p', _, rfl, rfl, List.getElem_mem hi, hp'⟩
theorem graph_ok {p : Pen} {n : Nat} (hp : p.ok n) (hn : n < 1099511) {m : Nat} (h1 : 1 ≤ m) (hm : m ≤ 12) :
    ∃ r outs, callF (pg0 kp) ft wf (k + 4) 48 [p.d, fz (.int m)] = .ok r outs ∧ ∃ (p' : Pen) (bs : List Bk), r = fz (.tup (bksD 0 bs)) ∧ outs = [some p'.d, some (fz (.int m))] ∧ WfG bs ∧ bs.length ≤ m ∧ p'.ok (n + 80) := by
  refine W.fn [some p.d, some (fz (.int m)), none, none, none, none, none, none, none] X.law_graph rfl rfl rfl ?_ (by show 2 ≤ sizeLine; decide)
  unfold d_law_graph
  dsimp only
  walk_at "ev"
  obtain ⟨_, _, hc, p1, i, rfl, rfl, i0, i1, hp1⟩ := draw_ok (wf := wf) (k := k + 2) X hp (by omega) (m := m) (by omega) (by omega)
  refine cl X X.law_draw hc [some p1.d, some (fz (.int m)), none, none, none, none, none, none, none] (by simp [slotsOf]) rfl rfl ?_
  obtain ⟨j, rfl⟩ : ∃ j : Nat, i = j := ⟨i.toNat, by omega⟩
  walk_at "ev"
  obtain ⟨_, _, hc2, p2, ns, rfl, rfl, lns, nd, nm, hp2⟩ := names_ok (wf := wf) (k := k) X hp1 (by omega) (m := 1 + j) (by omega)
  rw [show (((1 + j : Nat) : Int)) = 1 + (j : Int) by omega] at hc2
  refine cl X X.law_names hc2 [some p2.d, some (fz (.int m)), none, none, none, none, none, none, none] (by simp [slotsOf]) rfl rfl ?_
  walk_at "ev"
  refine W.fors ?_
  walk_at "ev"
  rw [List.length_map, Int.toNat_natCast]
  have l12 : ns.length ≤ 12 := by omega
  refine ⟨⟨by omega, by omega⟩, ?_⟩
  refine ⟨GI (n + 10) m ns, ⟨p2, [], _, _, _, _, _, hp2.mono (by omega), rfl, rfl, by simp, rfl⟩, fun t d e hd hi => ?_, fun e hi => ?_⟩
  · obtain ⟨lt, rfl⟩ := rngD_get hd
    obtain ⟨q, bs, s4, s5, s6, s7, s8, hq, hnm, hlb, hg, rfl⟩ := hi
    refine ⟨[some q.d, some (fz (.int m)), some (ow (.lst (ns.map D.str))), some (ow (.lst (bksD 0 bs))), some (fz (.int t)), s5, s6, s7, s8], rfl, ?_⟩
    walk_at "ev"
    have c1 := cutL_len (ns.map D.str) (some ((t : Int) + 1)) (some ((t : Int) + 3))
    have c2 := cutL_len (ns.map D.str) (some 1) none
    rw [List.length_map] at c1 c2
    refine W.mul_li ⟨by decide, by decide, Nat.le_trans (m := 24) (by show _ * 2 ≤ 24; omega) (by decide)⟩ ?_
    walk_at "ev"
    refine W.add_ll (Nat.le_trans (m := 36) (by
      show (List.replicate 2 _).flatten.length + _ ≤ 36
      rw [List.length_flatten, List.map_replicate, List.sum_replicate_nat]
      omega) (by decide)) ?_
    rw [nearOf_map ns t]
    walk_at "ev"
    obtain ⟨_, _, hc3, q3, i3, rfl, rfl, i30, i31, hq3⟩ := draw_ok (wf := wf) (k := k + 2) X hq (by omega) (m := 6) (by omega) (by omega)
    refine cl X X.law_draw hc3 [some q3.d, some (fz (.int m)), some (ow (.lst (ns.map D.str))), some (ow (.lst (bksD 0 bs))), some (fz (.int t)), some (ow (.lst ((nearOf ns t).map D.str))), s6, s7, s8] (by simp [slotsOf]) rfl rfl ?_
    walk_at "evn"
    have lnear : (nearOf ns t).length < 1073741824 := Nat.lt_of_le_of_lt (nearOf_len ns t) (by omega)
    refine W.ws_mono (N := GE (n + 10) m ns bs (nearOf ns t) t) ?_ ?_
    · walk_at "ev"
      refine ⟨fun hne => ?_, fun _ => ?_⟩
      · have h0 : nearOf ns t ≠ [] := fun z => by rw [z] at hne; cases hne
        walk_at "ev"
        refine ⟨fun _ => ?_, fun _ => ?_⟩
        · walk_at "ev"
          obtain ⟨_, _, hc4, q4, g4, rfl, rfl, m4, hq4⟩ := pick_str (wf := wf) (k := k + 1) X hq3 (by omega) (o := true) h0 lnear
          refine cl X X.law_pick hc4 [some q4.d, some (fz (.int m)), some (ow (.lst (ns.map D.str))), some (ow (.lst (bksD 0 bs))), some (fz (.int t)), some (ow (.lst ((nearOf ns t).map D.str))), some (fz (.int i3)), some (fz (.tup [.str "give", .str "x"])), s8] (by simp [slotsOf]) rfl rfl ?_
          walk_at "ev"
          refine ⟨fun _ => ?_, fun _ => ?_⟩
          · walk_at "ev"
            obtain ⟨_, _, hc5, q5, g5, rfl, rfl, m5, hq5⟩ := pick_str (wf := wf) (k := k + 1) X hq4 (by omega) (o := true) h0 lnear
            refine cl X X.law_pick hc5 [some q5.d, some (fz (.int m)), some (ow (.lst (ns.map D.str))), some (ow (.lst (bksD 0 bs))), some (fz (.int t)), some (ow (.lst ((nearOf ns t).map D.str))), some (fz (.int i3)), some (fz (enD (.go g4))), s8] (by simp [slotsOf]) rfl rfl ?_
            walk_at "ev"
            obtain ⟨_, _, hc6, q6, g6, rfl, rfl, m6, hq6⟩ := pick_str (wf := wf) (k := k + 1) X hq5 (by omega) (o := true) h0 lnear
            refine cl X X.law_pick hc6 [some q6.d, some (fz (.int m)), some (ow (.lst (ns.map D.str))), some (ow (.lst (bksD 0 bs))), some (fz (.int t)), some (ow (.lst ((nearOf ns t).map D.str))), some (fz (.int i3)), some (fz (enD (.go g4))), s8] (by simp [slotsOf]) rfl rfl ?_
            walk_at "ev"
            exact ⟨q6, .iff g5 g6, _, _, hq6, fun g hg => by
              rcases List.mem_cons.mp hg with rfl | hg
              · exact nearOf_mem m5
              · rw [List.mem_singleton.mp hg]; exact nearOf_mem m6, rfl⟩
          · walk_at "ev"
            exact ⟨q4, .go g4, _, _, hq4.mono (by omega), fun g hg => by rw [List.mem_singleton.mp hg]; exact nearOf_mem m4, rfl⟩
        · walk_at "ev"
          exact ⟨q3, .give, _, _, hq3.mono (by omega), fun g hg => (by cases hg), rfl⟩
      · walk_at "ev"
        exact ⟨q3, .give, _, _, hq3.mono (by omega), fun g hg => (by cases hg), rfl⟩
    · rintro e ⟨q4, en, s6', s8', hq4, hen, rfl⟩
      walk_at "evn"
      refine ⟨_, _, _, rfl, rfl, idx12 t (by omega), ?_⟩
      walk_at "evn"
      refine W.add_ss (by rw [show (Str.ofString "q").length = 1 by decide +kernel]; show 1 + 1 ≤ sizeLine; decide) ?_
      walk_at "evn"
      obtain ⟨_, _, hc7, q7, i7, rfl, rfl, i70, i71, hq7⟩ := draw_ok (wf := wf) (k := k + 2) X hq4 (by omega) (m := 2) (by omega) (by omega)
      refine cl X X.law_draw hc7 [some q7.d, some (fz (.int m)), some (ow (.lst (ns.map D.str))), some (ow (.lst (bksD 0 bs))), some (fz (.int t)), some (ow (.lst ((nearOf ns t).map D.str))), s6', some (fz (enD en)), s8'] (by simp [slotsOf]) rfl rfl ?_
      walk_at "evn"
      obtain ⟨bit, ec⟩ : ∃ bit : Bool, cutL [D.tup [D.str (Str.ofString "num"), D.str (Str.ofString "q" ++ { cps := #[97 + t] }), D.int ↑t]] none (some i7) = thD t bit := by
        obtain rfl | rfl : i7 = 0 ∨ i7 = 1 := by omega
        · exact ⟨false, rfl⟩
        · exact ⟨true, rfl⟩
      rw [ec]
      refine ⟨_, _, _, rfl, rfl, idx_strs t (by omega), ?_⟩
      walk_at "evn"
      refine ⟨_, _, _, rfl, mu_app (by rw [bksD_len]; exact Nat.lt_of_le_of_lt (show bs.length ≤ 12 by omega) (by decide)), ?_⟩
      walk_at "evn"
      have eb : bksD 0 bs ++ [D.tup [D.str ns[t], D.tup [], D.tup (thD t bit), (fz (enD en)).snd]] = bksD 0 (bs ++ [⟨ns[t], bit, en⟩]) := by
        rw [bksD_app, hlb, Nat.zero_add]
        rfl
      rw [eb]
      exact ⟨q7, bs ++ [⟨ns[t], bit, en⟩], _, _, _, _, _, hq7.mono (by omega), by
        unfold names at hnm ⊢
        rw [List.map_append, hnm, List.map_cons, List.map_nil, List.take_append_getElem], by rw [List.length_append, hlb]; rfl, fun b hb g hg2 => by
        rcases List.mem_append.mp hb with h | h
        · exact hg b h g hg2
        · rw [List.mem_singleton.mp h] at hg2
          exact hen g hg2, rfl⟩
  · rw [rngD_len] at hi
    obtain ⟨q, bs, s4, s5, s6, s7, s8, hq, hnm, hlb, hg, rfl⟩ := hi
    rw [List.take_length] at hnm
    walk_at "ev"
    refine ⟨⟨by omega, by rw [hnm]; exact nd, by rw [hnm]; exact nm, by rw [hnm]; exact hg⟩, by omega, hq.mono (by omega)⟩
end
end Ev.G
/-! P5: drawn modules. -/
namespace Ev.G
open PySem L2
def fnD (nm : Str) (bs : List Bk) : D := .tup [.str nm, .tup [.str "x"], .tup (bksD 0 bs)]
def mdD (n1 : Str) (b1 : List Bk) (n2 : Str) (b2 : List Bk) : D := .tup [.tup [], .tup [fnD n1 b1, fnD n2 b2]]
/-- the names of the two functions -/
def twoNs : List (Str × Str) := [("a", "main"), ("graph", "main"), ("main", "mainz"), ("main", "z")]
section
variable {kp : Nat → Nat} {ft : Nat → Option Fd} {wf k : Nat} (X : Fx kp ft)
include X
theorem pen_ok (ns : List Int) : ∃ r outs, callF (pg0 kp) ft wf (k + 1) 41 [fz (.scr ns)] = .ok r outs ∧ ∃ (p : Pen), r = p.d ∧ outs = [some (fz (.scr ns))] ∧ p.ok 0 := by
  refine W.fn [some (fz (.scr ns))] X.law_pen rfl rfl rfl ?_ (by show 1 ≤ sizeLine; decide)
  unfold d_law_pen
  dsimp only
  walk_at "ev"
  exact ⟨⟨cutL ns none (some 63), 0, 0⟩, rfl, rfl, ⟨Nat.le_refl _, Int.le_refl _⟩⟩
theorem graphs_ok {p : Pen} {n : Nat} (hp : p.ok n) (hn : n < 109951) {m : Nat} (h1 : 1 ≤ m) (hm : m ≤ 12) :
    ∃ r outs, callF (pg0 kp) ft wf (k + 5) 49 [p.d, fz (.int m)] = .ok r outs ∧ ∃ (p' : Pen) (n1 n2 : Str) (b1 b2 : List Bk), r = fz (mdD n1 b1 n2 b2) ∧ outs = [some p'.d, some (fz (.int m))] ∧ (n1, n2) ∈ twoNs ∧ WfG b1 ∧ WfG b2 ∧ b1.length ≤ m ∧ b2.length ≤ m ∧ p'.ok (n + 161) := by
  refine W.fn [some p.d, some (fz (.int m)), none, none, none] X.law_graphs rfl rfl rfl ?_ (by show 2 ≤ sizeLine; decide)
  unfold d_law_graphs
  dsimp only
  walk_at "ev"
  obtain ⟨_, _, hc, p1, other, rfl, rfl, mo, hp1⟩ := pick_str (wf := wf) (k := k + 2) X hp (by omega) (o := true) (ns := ["a", "graph", "mainz", "z"]) (by simp) (by decide)
  refine cl X X.law_pick hc [some p1.d, some (fz (.int m)), none, none, none] (by simp [slotsOf]) rfl rfl ?_
  walk_at "ev"
  refine W.comp ?_
  walk_at "ev"
  refine ⟨rfl, ?_⟩
  refine W.cl_cons (W.cturn_ok (en1 := [some p1.d, some (fz (.int m)), some (fz (.str other)), none, some (fz (.str "main"))]) rfl ?_)
  walk_at "ev"
  obtain ⟨_, _, hc2, p2, b1, rfl, rfl, w1, l1, hp2⟩ := graph_ok (wf := wf) (k := k) X hp1 (by omega) h1 hm
  refine cl X X.law_graph hc2 [some p2.d, some (fz (.int m)), some (fz (.str other)), none, some (fz (.str "main"))] (by simp [slotsOf]) rfl rfl ?_
  walk_at "ev"
  refine W.cl_cons (W.cturn_ok (en1 := [some p2.d, some (fz (.int m)), some (fz (.str other)), none, some (fz (.str other))]) rfl ?_)
  walk_at "ev"
  obtain ⟨_, _, hc3, p3, b2, rfl, rfl, w2, l2, hp3⟩ := graph_ok (wf := wf) (k := k) X hp2 (by omega) h1 hm
  refine cl X X.law_graph hc3 [some p3.d, some (fz (.int m)), some (fz (.str other)), none, some (fz (.str other))] (by simp [slotsOf]) rfl rfl ?_
  walk_at "ev"
  refine W.cl_nil ?_
  walk_at "ev"
  simp only [List.mem_cons, List.not_mem_nil, or_false] at mo
  rcases mo with rfl | rfl | rfl | rfl
  · walk_at "ev"
    exact ⟨p3, "a", "main", b2, b1, rfl, rfl, by simp [twoNs], w2, w1, l2, l1, hp3⟩
  · walk_at "ev"
    exact ⟨p3, "graph", "main", b2, b1, rfl, rfl, by simp [twoNs], w2, w1, l2, l1, hp3⟩
  · walk_at "ev"
    exact ⟨p3, "main", "mainz", b1, b2, rfl, rfl, by simp [twoNs], w1, w2, l1, l2, hp3⟩
  · walk_at "ev"
    exact ⟨p3, "main", "z", b1, b2, rfl, rfl, by simp [twoNs], w1, w2, l1, l2, hp3⟩
end
end Ev.G
/-! P6: small questions about instructions and ends. -/
namespace Ev.G
open PySem L2
/-- a call that leaves its arguments -/
def Ret (kp : Nat → Nat) (ft : Nat → Option Fd) (wf k f : Nat) (rs : List Rv) (r : Rv) : Prop := callF (pg0 kp) ft wf k f rs = .ok r (rs.map some)
theorem Ret.of {kp : Nat → Nat} {ft : Nat → Option Fd} {wf k f : Nat} {rs : List Rv} {r : Rv} (h : ∃ r' outs, callF (pg0 kp) ft wf k f rs = .ok r' outs ∧ r' = r ∧ outs = rs.map some) : Ret kp ft wf k f rs r := by
  obtain ⟨_, _, h, rfl, rfl⟩ := h
  exact h
def prD (a b : D) : D := .tup [a, b]
def insParts (k : Nat) : List D := [prD (.str "define") (.str (qreg k)), prD (.str "integer") (.int k)]
def enParts : En → List D
  | .give => [prD (.str "use") (.str "x")]
  | .go g => [prD (.str "block") (.str g), prD (.str "args") (.tup [])]
  | .iff g h => [prD (.str "use") (.str "x"), prD (.str "block") (.str g), prD (.str "args") (.tup []), prD (.str "block") (.str h), prD (.str "args") (.tup [])]
def enUses : En → List D
  | .give => [.str "x"]
  | .go _ => []
  | .iff _ _ => [.str "x"]
theorem clr {kp : Nat → Nat} {ft : Nat → Option Fd} {wf k : Nat} (X : Fx kp ft) {f : Nat} {os : List Opd} {e1 : Ev} {Q : Rv → Ev → Prop} {d : Fd} (hf : ft f = some d) {rs : List Rv} {r : Rv} (hc : Ret kp ft wf k f rs r) {e2 : Ev} (nd : (slotsOf os).Nodup) (hl : lendAll d.keep 0 os e1 = some (rs, e2)) (hg : giveBack os rs (rs.map some) e2 = e1) (q : Q r e1) : W.Cl (pg0 kp) (callF (pg0 kp) ft wf k) f os e1 Q :=
  cl X hf hc e1 nd hl hg q
def enArms (en : En) : List D := en.goals.map fun g => prD (.str g) (.tup [])
section
variable {kp : Nat → Nat} {ft : Nat → Option Fd} {wf k : Nat} (X : Fx kp ft)
include X
theorem parts_ins (i : Nat) : Ret kp ft wf (k + 1) 7 [fz (insD i)] (ow (.lst (insParts i))) := by
  refine .of (W.fn [some (fz (insD i)), none] X.parts_of rfl rfl rfl ?_ (by show 1 ≤ sizeLine; decide))
  unfold d_parts_of insD
  dsimp only
  walk_at "evu"
  rfl
theorem parts_en (en : En) : Ret kp ft wf (k + 1) 7 [fz (enD en)] (ow (.lst (enParts en))) := by
  refine .of (W.fn [some (fz (enD en)), none] X.parts_of rfl rfl rfl ?_ (by show 1 ≤ sizeLine; decide))
  unfold d_parts_of
  dsimp only
  cases en <;> (unfold enD; walk_at "evu"; rfl)
theorem defined_ins (i : Nat) : Ret kp ft wf (k + 3) 9 [fz (insD i)] (fz (.str (qreg i))) := by
  have h : Ret kp ft wf (k + 2) 8 [fz (insD i), fz (.str "define")] (fz (.str (qreg i))) := by
    refine .of (W.fn [some (fz (insD i)), some (fz (.str "define")), none, none, none] X.part_of rfl rfl rfl ?_ (by show 2 ≤ sizeLine; decide))
    unfold d_part_of
    dsimp only
    walk_at "evu"
    refine clr X X.parts_of (parts_ins X i) (by simp [slotsOf]) rfl rfl ?_
    unfold insParts prD
    walk_at "evu"
    rfl
  refine .of (W.fn [some (fz (insD i))] X.defined_by rfl rfl rfl ?_ (by show 1 ≤ sizeLine; decide))
  unfold d_defined_by
  dsimp only
  walk_at "evu"
  refine clr X X.part_of h (by simp [slotsOf]) rfl rfl ?_
  exact ⟨_, rfl, rfl, rfl⟩
theorem used_ins (i : Nat) : Ret kp ft wf (k + 2) 10 [fz (insD i)] (ow (.lst [])) := by
  refine .of (W.fn [some (fz (insD i)), none, none, none] X.used_by rfl rfl rfl ?_ (by show 1 ≤ sizeLine; decide))
  unfold d_used_by
  dsimp only
  walk_at "evu"
  refine clr X X.parts_of (parts_ins X i) (by simp [slotsOf]) rfl rfl ?_
  unfold insParts prD
  walk_at "evu"
  rfl
theorem used_en (en : En) : Ret kp ft wf (k + 2) 10 [fz (enD en)] (ow (.lst (enUses en))) := by
  refine .of (W.fn [some (fz (enD en)), none, none, none] X.used_by rfl rfl rfl ?_ (by show 1 ≤ sizeLine; decide))
  unfold d_used_by
  dsimp only
  walk_at "evu"
  refine clr X X.parts_of (parts_en X en) (by simp [slotsOf]) rfl rfl ?_
  cases en <;> (unfold enParts prD; walk_at "evu"; rfl)
theorem arms_en (en : En) : Ret kp ft wf (k + 2) 11 [fz (enD en)] (ow (.lst (enArms en))) := by
  refine .of (W.fn [some (fz (enD en)), none, none, none] X.arms_of rfl rfl rfl ?_ (by show 1 ≤ sizeLine; decide))
  unfold d_arms_of
  dsimp only
  walk_at "evu"
  refine clr X X.parts_of (parts_en X en) (by simp [slotsOf]) rfl rfl ?_
  cases en <;> (unfold enParts prD; walk_at "evu"; rfl)
theorem goals_bk (i : Nat) (b : Bk) : Ret kp ft wf (k + 3) 14 [fz (bkD i b)] (ow (.lst (b.en.goals.map D.str))) := by
  refine .of (W.fn [some (fz (bkD i b)), none, none] X.goals_of rfl rfl rfl ?_ (by show 1 ≤ sizeLine; decide))
  unfold d_goals_of
  dsimp only
  walk_at "evu"
  refine clr X X.arms_of (arms_en X b.en) (by simp [slotsOf]) rfl rfl ?_
  obtain ⟨nm, it, en⟩ := b
  cases en <;> (unfold enArms En.goals prD; dsimp only [List.map]; walk_at "evu"; rfl)
end
end Ev.G
/-! P7: forms of names, instructions, ends. -/
namespace Ev.G
open PySem L2
theorem occ (i : Nat) (h : i < 26) : (Builtin.Str.occurrences lett ⟨#[97 + i]⟩ 0 lett.length 1).isEmpty = false := by
  have : ∀ i : Fin 26, (Builtin.Str.occurrences lett ⟨#[97 + i.val]⟩ 0 lett.length 1).isEmpty = false := by decide +kernel
  exact this ⟨i, h⟩
theorem in_lett {c : Nat} (h : 97 ≤ c ∧ c ≤ 122) : cmpD .isin (.str ⟨#[c]⟩) (.str lett) = some true := by
  obtain ⟨i, rfl⟩ : ∃ i, c = 97 + i := ⟨c - 97, by omega⟩
  show some (!(Builtin.Str.occurrences lett ⟨#[97 + i]⟩ 0 lett.length 1).isEmpty) = _
  rw [occ i (by omega)]
  rfl
theorem all_true {α : Type} (l : List α) : biD .all (.lst (l.map fun _ => .bl true)) = some (fz (.bl true)) := by
  show (blsD (l.map fun _ => .bl true)).map (fun bs => fz (.bl (bs.all id))) = _
  have h : ∀ l : List α, blsD (l.map fun _ => .bl true) = some (l.map fun _ => true) := by
    intro l
    induction l with
    | nil => rfl
    | cons a l ih =>
      show (blsD (l.map fun _ => .bl true)).map (true :: ·) = _
      rw [ih]
      rfl
  rw [h]
  have h2 : (l.map fun _ => true).all id = true := by
    rw [List.all_eq_true]
    intro x hx
    obtain ⟨_, _, rfl⟩ := List.mem_map.mp hx
    rfl
  show some (fz (.bl ((l.map fun _ => true).all id))) = _
  rw [h2]
theorem filterMap_true (l : List D) : l.filterMap (fun _ => some (D.bl true)) = l.map fun _ => .bl true := by
  exact congrFun List.filterMap_eq_map l
theorem nm_x : IsNm (Str.ofString "x") := by
  have e : tl (Str.ofString "x") = [120] := by decide +kernel
  exact ⟨by rw [e]; decide, by rw [e]; decide⟩
theorem qreg_tl (k : Nat) : tl (qreg k) = [113, 97 + k] := by
  have e : (Str.ofString "q").cps = #[113] := by decide +kernel
  show ((Str.ofString "q").cps ++ #[97 + k]).toList = _
  rw [e]
  simp
theorem nm_q {k : Nat} (h : k < 26) : IsNm (qreg k) := ⟨by rw [qreg_tl]; simp, by rw [qreg_tl]; intro c hc; simp at hc; omega⟩
section
variable {kp : Nat → Nat} {ft : Nat → Option Fd} {wf k : Nat} (X : Fx kp ft)
include X
theorem is_name {s : Str} (h : IsNm s) : Ret kp ft wf (k + 1) 2 [fz (.str s)] (fz (.bl true)) := by
  have l8 : s.length ≤ 8 := by rw [len_tl]; exact h.len.2
  have l1 : 1 ≤ s.length := by rw [len_tl]; exact h.len.1
  have lz : s.length ≤ sizeLine := Nat.le_trans l8 (by decide)
  refine .of (W.fn [some (fz (.str s)), none] X.is_name rfl rfl rfl ?_ (by show 1 ≤ sizeLine; decide))
  unfold d_is_name
  dsimp only
  walk_at "ev"
  refine ⟨_, _, rfl, bi_len (lenD_str lz), ?_⟩
  walk_at "ev"
  rw [decide_eq_true (show (1 : Int) ≤ s.length by omega)]
  walk_at "ev"
  rw [decide_eq_true (show (s.length : Int) ≤ 8 by omega)]
  walk_at "ev"
  refine W.comp_map (fun _ => some (.bl true)) ?_
  walk_at "ev"
  refine ⟨by rw [List.length_map, ← len_tl]; exact lz, rfl, fun d hd => ?_, ?_⟩
  · obtain ⟨c, hc, rfl⟩ := List.mem_map.mp hd
    refine W.cturn_ok rfl ?_
    walk_at "ev"
    exact ⟨congrArg (fun z => some (D.bl z)) (Option.some.inj (in_lett (h.low c hc))), rfl⟩
  · refine ⟨_, _, rfl, by rw [filterMap_true]; exact all_true _, ?_⟩
    exact ⟨_, rfl, rfl, rfl⟩
theorem is_tuple {xs : List D} {a b : Int} (h1 : a ≤ xs.length) (h2 : (xs.length : Int) ≤ b) : Ret kp ft wf (k + 1) 3 [fz (.tup xs), fz (.int a), fz (.int b)] (fz (.bl true)) := by
  refine .of (W.fn [some (fz (.tup xs)), some (fz (.int a)), some (fz (.int b))] X.is_tuple rfl rfl rfl ?_ (by show 3 ≤ sizeLine; decide))
  unfold d_is_tuple
  dsimp only
  walk_at "ev"
  rw [decide_eq_true h1]
  walk_at "ev"
  rw [decide_eq_true h2]
  exact ⟨rfl, rfl⟩
theorem are_none {b : Int} (h : 0 ≤ b) : Ret kp ft wf (k + 2) 4 [fz (.tup []), fz (.int 0), fz (.int b)] (fz (.bl true)) := by
  refine .of (W.fn [some (fz (.tup [])), some (fz (.int 0)), some (fz (.int b)), none] X.are_names rfl rfl rfl ?_ (by show 3 ≤ sizeLine; decide))
  unfold d_are_names
  dsimp only
  walk_at "ev"
  refine clr X X.is_tuple (is_tuple (k := k) X (xs := []) (Int.le_refl _) h) (by simp [slotsOf]) rfl rfl ?_
  walk_at "evu"
  rfl
theorem are_x {b : Int} (h : 1 ≤ b) : Ret kp ft wf (k + 2) 4 [fz (.tup [.str "x"]), fz (.int 0), fz (.int b)] (fz (.bl true)) := by
  refine .of (W.fn [some (fz (.tup [.str "x"])), some (fz (.int 0)), some (fz (.int b)), none] X.are_names rfl rfl rfl ?_ (by show 3 ≤ sizeLine; decide))
  unfold d_are_names
  dsimp only
  walk_at "ev"
  refine clr X X.is_tuple (is_tuple (k := k) X (xs := [.str "x"]) (by decide) h) (by simp [slotsOf]) rfl rfl ?_
  walk_at "evu"
  refine clr X X.is_name (is_name (k := k) X nm_x) (by simp [slotsOf]) rfl rfl ?_
  walk_at "evu"
  rfl
theorem fits_name {s : Str} (h : IsNm s) {so : Str} (h1 : so ≠ Str.ofString "integer") (h2 : so ≠ Str.ofString "args") : Ret kp ft wf (k + 3) 5 [fz (.str so), fz (.str s)] (fz (.bl true)) := by
  refine .of (W.fn [some (fz (.str so)), some (fz (.str s))] X.fits_part rfl rfl rfl ?_ (by show 2 ≤ sizeLine; decide))
  unfold d_fits_part
  dsimp only
  walk_at "ev"
  rw [decide_eq_false h1]
  walk_at "ev"
  rw [decide_eq_false h2]
  walk_at "ev"
  refine clr X X.is_name (is_name (k := k + 1) X h) (by simp [slotsOf]) rfl rfl ?_
  exact ⟨_, rfl, rfl, rfl⟩
theorem fits_args : Ret kp ft wf (k + 3) 5 [fz (.str "args"), fz (.tup [])] (fz (.bl true)) := by
  refine .of (W.fn [some (fz (.str "args")), some (fz (.tup []))] X.fits_part rfl rfl rfl ?_ (by show 2 ≤ sizeLine; decide))
  unfold d_fits_part
  dsimp only
  walk_at "ev"
  refine clr X X.are_names (are_none (k := k) X (by decide)) (by simp [slotsOf]) rfl rfl ?_
  exact ⟨_, rfl, rfl, rfl⟩
theorem fits_int {i : Nat} (h : i < 1000) : Ret kp ft wf (k + 3) 5 [fz (.str "integer"), fz (.int i)] (fz (.bl true)) := by
  have hb : Ret kp ft wf (k + 2) 1 [fz (.int i), fz (.int (-10000000000000000000000000000000000000000)), fz (.int 10000000000000000000000000000000000000000)] (fz (.bl true)) := by
    have hi : Ret kp ft wf (k + 1) 0 [fz (.int i)] (fz (.bl true)) := by
      refine .of (W.fn [some (fz (.int i))] X.is_integer rfl rfl rfl ?_ (by show 1 ≤ sizeLine; decide))
      unfold d_is_integer
      dsimp only
      walk_at "ev"
      exact ⟨rfl, rfl⟩
    refine .of (W.fn [some (fz (.int i)), some (fz (.int (-10000000000000000000000000000000000000000))), some (fz (.int 10000000000000000000000000000000000000000))] X.is_between rfl rfl rfl ?_ (by show 3 ≤ sizeLine; decide))
    unfold d_is_between
    dsimp only
    walk_at "ev"
    refine clr X X.is_integer hi (by simp [slotsOf]) rfl rfl ?_
    walk_at "ev"
    rw [decide_eq_true (show (i : Int) ≤ 10000000000000000000000000000000000000000 by omega)]
    exact ⟨rfl, rfl⟩
  refine .of (W.fn [some (fz (.str "integer")), some (fz (.int i))] X.fits_part rfl rfl rfl ?_ (by show 2 ≤ sizeLine; decide))
  unfold d_fits_part
  dsimp only
  walk_at "ev"
  refine clr X X.is_between hb (by simp [slotsOf]) rfl rfl ?_
  exact ⟨_, rfl, rfl, rfl⟩
end
def ends : List (Key × D) := [(.inr "go", .tup [.str "block", .str "args"]), (.inr "if", .tup [.str "use", .str "block", .str "args", .str "block", .str "args"]), (.inr "give", .tup [.str "use"])]
theorem ends_eq : gds[1]? = some ends := rfl
section
variable {kp : Nat → Nat} {ft : Nat → Option Fd} {wf k : Nat} (X : Fx kp ft)
include X
theorem fits_ins {i : Nat} (h : i < 26) : Ret kp ft wf (k + 4) 6 [ow (.dct gds[0]), fz (insD i)] (fz (.bl true)) := by
  refine .of (W.fn [some (ow (.dct gds[0])), some (fz (insD i)), none, none, none] X.fits_shape rfl rfl rfl ?_ (by show 2 ≤ sizeLine; decide))
  unfold d_fits_shape insD
  dsimp only
  walk_at "evu"
  rw [show zipD [D.str (Str.ofString "define"), D.str (Str.ofString "integer")] (cutL [D.str (Str.ofString "num"), D.str (qreg i), D.int ↑i] (some 1) none) = [.tup [.str "define", .str (qreg i)], .tup [.str "integer", .int i]] from rfl]
  walk_at "evu"
  refine clr X X.fits_part (fits_name (k := k) X (nm_q h) (by decide +kernel) (by decide +kernel)) (by simp [slotsOf]) rfl rfl ?_
  walk_at "evu"
  refine clr X X.fits_part (fits_int (k := k) X (by omega)) (by simp [slotsOf]) rfl rfl ?_
  walk_at "evu"
  rfl
theorem fits_en {en : En} (h : ∀ g ∈ en.goals, IsNm g) : Ret kp ft wf (k + 4) 6 [ow (.dct ends), fz (enD en)] (fz (.bl true)) := by
  refine .of (W.fn [some (ow (.dct ends)), some (fz (enD en)), none, none, none] X.fits_shape rfl rfl rfl ?_ (by show 2 ≤ sizeLine; decide))
  unfold d_fits_shape
  dsimp only
  cases en with
  | give =>
    unfold enD
    walk_at "evu"
    rw [show zipD [D.str (Str.ofString "use")] (cutL [D.str (Str.ofString "give"), D.str (Str.ofString "x")] (some 1) none) = [.tup [.str "use", .str "x"]] from rfl]
    walk_at "evu"
    refine clr X X.fits_part (fits_name (k := k) X nm_x (by decide +kernel) (by decide +kernel)) (by simp [slotsOf]) rfl rfl ?_
    walk_at "evu"
    rfl
  | go g =>
    unfold enD
    walk_at "evu"
    rw [show zipD [D.str (Str.ofString "block"), D.str (Str.ofString "args")] (cutL [D.str (Str.ofString "go"), D.str g, D.tup []] (some 1) none) = [.tup [.str "block", .str g], .tup [.str "args", .tup []]] from rfl]
    walk_at "evu"
    refine clr X X.fits_part (fits_name (k := k) X (h g (by simp [En.goals])) (by decide +kernel) (by decide +kernel)) (by simp [slotsOf]) rfl rfl ?_
    walk_at "evu"
    refine clr X X.fits_part (fits_args (k := k) X) (by simp [slotsOf]) rfl rfl ?_
    walk_at "evu"
    rfl
  | iff g g' =>
    unfold enD
    walk_at "evu"
    rw [show zipD [D.str (Str.ofString "use"), D.str (Str.ofString "block"), D.str (Str.ofString "args"), D.str (Str.ofString "block"), D.str (Str.ofString "args")] (cutL [D.str (Str.ofString "if"), D.str (Str.ofString "x"), D.str g, D.tup [], D.str g', D.tup []] (some 1) none) = [.tup [.str "use", .str "x"], .tup [.str "block", .str g], .tup [.str "args", .tup []], .tup [.str "block", .str g'], .tup [.str "args", .tup []]] from rfl]
    walk_at "evu"
    refine clr X X.fits_part (fits_name (k := k) X nm_x (by decide +kernel) (by decide +kernel)) (by simp [slotsOf]) rfl rfl ?_
    walk_at "evu"
    refine clr X X.fits_part (fits_name (k := k) X (h g (by simp [En.goals])) (by decide +kernel) (by decide +kernel)) (by simp [slotsOf]) rfl rfl ?_
    walk_at "evu"
    refine clr X X.fits_part (fits_args (k := k) X) (by simp [slotsOf]) rfl rfl ?_
    walk_at "evu"
    refine clr X X.fits_part (fits_name (k := k) X (h g' (by simp [En.goals])) (by decide +kernel) (by decide +kernel)) (by simp [slotsOf]) rfl rfl ?_
    walk_at "evu"
    refine clr X X.fits_part (fits_args (k := k) X) (by simp [slotsOf]) rfl rfl ?_
    walk_at "evu"
    rfl
end
end Ev.G
/-! P8: blocks and what is reached. -/
namespace Ev.G
open PySem L2 Gr
def hidD : Option Str → D
  | none => .non
  | some s => .str s
/-- the blocks to which an end leads -/
def succ (bs : List Bk) (s : Str) : List Str := match bs.find? (fun b => decide (b.nm = s)) with
  | some b => b.en.goals
  | none => []
def entry (bs : List Bk) : Str := match bs with
  | b :: _ => b.nm
  | [] => ⟨#[]⟩
theorem eqF_str (a b : Str) : eqF (.str a) (.str b) = decide (a = b) := by
  show (a == b) = _
  by_cases h : a = b
  · subst h; simp
  · rw [decide_eq_false h, beq_eq_false_iff_ne.mpr h]
theorem any_strs (s : Str) (L : List Str) : ((L.map D.str).any fun z => eqF z (.str s)) = decide (s ∈ L) := by
  induction L with
  | nil => simp
  | cons a L ih =>
    rw [List.map_cons, List.any_cons, ih, eqF_str]
    by_cases h : a = s
    · subst h; simp
    · have h' : ¬ s = a := fun e => h e.symm
      simp [h, h']
theorem flat_strs (L : List Str) : (L.map D.str).all flatD = true := by
  rw [List.all_eq_true]
  intro x hx
  obtain ⟨s, _, rfl⟩ := List.mem_map.mp hx
  rfl
theorem in_strs (s : Str) (L : List Str) : cmpD .isin (.str s) (.lst (L.map D.str)) = some (decide (s ∈ L)) := by
  show inD (.str s) (.lst (L.map D.str)) = _
  unfold inD
  simp only
  rw [if_pos (by rw [flat_strs]; rfl), any_strs]
theorem notin_strs (s : Str) (L : List Str) : cmpD .notin (.str s) (.lst (L.map D.str)) = some (!decide (s ∈ L)) := by
  show (inD (.str s) (.lst (L.map D.str))).map (! ·) = _
  rw [show inD (.str s) (.lst (L.map D.str)) = some (decide (s ∈ L)) from in_strs s L]
  rfl
theorem ne_hid (s : Str) (h : Option Str) : cmpD .ne (.str s) (hidD h) = some (!decide (some s = h)) := by
  cases h with
  | none => rfl
  | some t =>
    show some (!decide (s = t)) = some (!decide (some s = some t))
    congr 2
    simp
theorem eq_hid (s : Str) (h : Option Str) : cmpD .eq (.str s) (hidD h) = some (decide (some s = h)) := by
  cases h with
  | none => rfl
  | some t =>
    show some (decide (s = t)) = some (decide (some s = some t))
    congr 1
    simp
theorem idx_hd (x : D) (r : List D) : idxD (.lst (x :: r)) (.int 0) = some x := atI_nat (i := 0) rfl
theorem idx_hdT (x : D) (r : List D) : idxD (.tup (x :: r)) (.int 0) = some x := atI_nat (i := 0) rfl
theorem bksD_get : ∀ {k : Nat} {bs : List Bk} {i : Nat} {d : D}, (bksD k bs)[i]? = some d → ∃ b, bs[i]? = some b ∧ d = bkD (k + i) b
  | k, [], i, d, h => by simp [bksD] at h
  | k, b :: bs, 0, d, h => by
    simp only [bksD, List.getElem?_cons_zero, Option.some.injEq] at h
    exact ⟨b, rfl, h ▸ rfl⟩
  | k, b :: bs, i + 1, d, h => by
    simp only [bksD, List.getElem?_cons_succ] at h
    obtain ⟨c, h1, h2⟩ := bksD_get h
    exact ⟨c, by simpa using h1, by rw [h2, show k + 1 + i = k + (i + 1) by omega]⟩
theorem bksD_at {k : Nat} : ∀ {bs : List Bk} {i : Nat} {b : Bk}, bs[i]? = some b → (bksD k bs)[i]? = some (bkD (k + i) b) := by
  intro bs
  induction bs generalizing k with
  | nil => intro i b h; simp at h
  | cons c bs ih =>
    intro i b h
    cases i with
    | zero =>
      simp only [List.getElem?_cons_zero, Option.some.injEq] at h
      subst h
      rfl
    | succ i =>
      simp only [List.getElem?_cons_succ] at h
      show (bksD (k + 1) bs)[i]? = _
      rw [ih h, show k + 1 + i = k + (i + 1) by omega]
theorem bksD_mem {k : Nat} {bs : List Bk} {d : D} (h : d ∈ bksD k bs) : ∃ i b, bs[i]? = some b ∧ d = bkD (k + i) b := by
  obtain ⟨i, hi⟩ := List.mem_iff_getElem?.mp h
  obtain ⟨b, h1, h2⟩ := bksD_get hi
  exact ⟨i, b, h1, h2⟩
/-- the blocks of a name -/
def pickB (s : Str) (d : D) : Option D := match d with
  | .tup (.str t :: _) => if decide (t = s) then some d else none
  | _ => none
theorem find_bk {s : Str} : ∀ {k : Nat} {bs : List Bk}, s ∈ names bs → ∃ i b rest, (bksD k bs).filterMap (pickB s) = bkD (k + i) b :: rest ∧ bs[i]? = some b ∧ b.nm = s ∧ bs.find? (fun b => decide (b.nm = s)) = some b
  | k, [], h => by simp [names] at h
  | k, b :: bs, h => by
    by_cases e : b.nm = s
    · refine ⟨0, b, (bksD (k + 1) bs).filterMap (pickB s), ?_, rfl, e, ?_⟩
      · show (bkD k b :: bksD (k + 1) bs).filterMap (pickB s) = _
        rw [List.filterMap_cons, show pickB s (bkD k b) = some (bkD k b) by show (if decide (b.nm = s) then some (bkD k b) else none) = _; rw [decide_eq_true e]; rfl]
        rfl
      · rw [List.find?_cons, decide_eq_true e]
    · have h' : s ∈ names bs := by
        rcases List.mem_cons.mp h with h | h
        · exact absurd h.symm e
        · exact h
      obtain ⟨i, c, rest, h1, h2, h3, h4⟩ := find_bk (k := k + 1) h'
      refine ⟨i + 1, c, rest, ?_, by simpa using h2, h3, ?_⟩
      · show (bkD k b :: bksD (k + 1) bs).filterMap (pickB s) = _
        rw [List.filterMap_cons, show pickB s (bkD k b) = none by show (if decide (b.nm = s) then some (bkD k b) else none) = _; rw [decide_eq_false e]; rfl, h1, show k + 1 + i = k + (i + 1) by omega]
      · rw [List.find?_cons, decide_eq_false e, h4]
theorem mem_names {bs : List Bk} {i : Nat} {b : Bk} (h : bs[i]? = some b) : b.nm ∈ names bs := List.mem_map.mpr ⟨b, List.mem_of_getElem? h, rfl⟩
theorem WfG.rch {bs : List Bk} (w : WfG bs) {h : Option Str} {a x : Str} (ha : a ∈ names bs) (r : Rch (succ bs) h a x) : x ∈ names bs := by
  induction r with
  | base _ => exact ha
  | step r m z ih =>
    unfold succ at m
    split at m
    · rename_i b hb
      exact List.mem_of_mem_drop (w.gl b (List.mem_of_find?_eq_some hb) _ m)
    · cases m
theorem WfG.entry {bs : List Bk} (w : WfG bs) : entry bs ∈ names bs := by
  cases bs with
  | nil => have := w.len.1; simp at this
  | cons b bs => exact List.mem_cons_self ..
theorem addAll_take {h : Option Str} {gs f : List Str} {j : Nat} {g : Str} (hg : gs[j]? = some g) : addAll h (gs.take (j + 1)) f = add1 h (addAll h (gs.take j) f) g := by
  unfold addAll
  rw [List.take_add_one, hg, List.foldl_append]
  rfl
theorem addAll_len {h : Option Str} {gs f : List Str} (j : Nat) : (addAll h (gs.take j) f).length ≤ f.length + gs.length := by
  have key : ∀ l f : List Str, (addAll h l f).length ≤ f.length + l.length := by
    intro l
    induction l with
    | nil => intro f; exact Nat.le_refl _
    | cons g l ih =>
      intro f
      have h1 := ih (add1 h f g)
      have h2 : (add1 h f g).length ≤ f.length + 1 := by
        unfold add1
        split
        · rw [List.length_append]; exact Nat.le_refl _
        · omega
      show (addAll h l (add1 h f g)).length ≤ _
      rw [List.length_cons]
      omega
  have := key (gs.take j) f
  rw [List.length_take] at this
  omega
section
variable {kp : Nat → Nat} {ft : Nat → Option Fd} {wf k : Nat} (X : Fx kp ft)
include X
theorem block_of {nm : Str} {bs : List Bk} {s : Str} (w : WfG bs) (h : s ∈ names bs) : ∃ i b, bs[i]? = some b ∧ b.nm = s ∧ succ bs s = b.en.goals ∧ Ret kp ft wf (k + 1) 13 [fz (fnD nm bs), fz (.str s)] (fz (bkD i b)) := by
  obtain ⟨i, b, rest, h1, h2, h3, h4⟩ := find_bk (k := 0) h
  refine ⟨i, b, h2, h3, by unfold succ; rw [h4], .of (W.fn [some (fz (fnD nm bs)), some (fz (.str s)), none] X.block_of rfl rfl rfl ?_ (by show 2 ≤ sizeLine; decide))⟩
  unfold d_block_of
  dsimp only
  walk_at "ev"
  refine W.comp_map (pickB s) ?_
  walk_at "ev"
  refine ⟨by rw [bksD_len]; exact Nat.le_trans w.len.2 (by decide), rfl, fun d hd => ?_, ?_⟩
  · obtain ⟨j, c, _, rfl⟩ := bksD_mem hd
    refine W.cturn_ok rfl ?_
    walk_at "ev"
    refine ⟨fun e => ?_, fun e => ?_⟩
    · walk_at "ev"
      refine ⟨?_, rfl⟩
      show some (bkD (0 + j) c) = (if decide (c.nm = s) then some (bkD (0 + j) c) else none)
      rw [show decide (c.nm = s) = true from e]
      rfl
    · refine ⟨?_, rfl⟩
      show none = (if decide (c.nm = s) then some (bkD (0 + j) c) else none)
      rw [show decide (c.nm = s) = false from e]
      rfl
  · rw [h1, Nat.zero_add]
    walk_at "ev"
    refine ⟨_, _, _, rfl, rfl, idx_hd _ _, ?_⟩
    exact ⟨_, rfl, rfl, rfl⟩
theorem reached_without {nm : Str} {bs : List Bk} (w : WfG bs) (hwf : 100 ≤ wf) (h : Option Str) : ∃ L : List Str, IsR (succ bs) h (entry bs) L ∧ Ret kp ft wf (k + 4) 15 [fz (fnD nm bs), fz (hidD h)] (ow (.lst (L.map D.str))) := by
  suffices hs : ∃ r outs, callF (pg0 kp) ft wf (k + 4) 15 [fz (fnD nm bs), fz (hidD h)] = .ok r outs ∧ ∃ L : List Str, IsR (succ bs) h (entry bs) L ∧ r = ow (.lst (L.map D.str)) ∧ outs = [some (fz (fnD nm bs)), some (fz (hidD h))] by
    obtain ⟨_, _, hc, L, hL, rfl, rfl⟩ := hs
    exact ⟨L, hL, hc⟩
  refine W.fn [some (fz (fnD nm bs)), some (fz (hidD h)), none, none, none, none] X.reached_without rfl rfl rfl ?_ (by show 2 ≤ sizeLine; decide)
  unfold d_reached_without
  dsimp only
  obtain ⟨b0, bs', rfl⟩ : ∃ b bs', bs = b :: bs' := by
    cases bs with
    | nil => have := w.len.1; simp at this
    | cons b bs' => exact ⟨b, bs', rfl⟩
  walk_at "ev"
  refine ⟨_, _, _, rfl, rfl, idx_hdT _ _, ?_⟩
  walk_at "ev"
  refine ⟨_, _, _, rfl, rfl, eq_hid _ _, ?_⟩
  have main : ∀ F : List Str, F = (if some b0.nm = h then [] else [b0.nm]) → WSs (pg0 kp) (callF (pg0 kp) ft wf (k + 3)) 2 wf (match d_reached_without.body with
      | .cons _ (.cons _ r) => r
      | _ => .nil) [some (fz (fnD nm (b0 :: bs'))), some (fz (hidD h)), some (fz (.str b0.nm)), some (ow (.lst (F.map D.str))), some (fz (.int 0)), none] (fun e => ∃ L : List Str, IsR (succ (b0 :: bs')) h (entry (b0 :: bs')) L ∧ fz D.non = ow (.lst (L.map D.str)) ∧ e.take 2 = [some (fz (fnD nm (b0 :: bs'))), some (fz (hidD h))])
      fun f e => ∃ r, f = .ret r ∧ ∃ L : List Str, IsR (succ (b0 :: bs')) h (entry (b0 :: bs')) L ∧ r = ow (.lst (L.map D.str)) ∧ e.take 2 = [some (fz (fnD nm (b0 :: bs'))), some (fz (hidD h))] := by
    intro F hF
    unfold d_reached_without
    dsimp only
    have I0 : BInv (succ (b0 :: bs')) h b0.nm F 0 := by rw [hF]; exact BInv.zero
    have sub : ∀ {f : List Str} {at' : Nat}, BInv (succ (b0 :: bs')) h b0.nm f at' → f.length ≤ 12 ∧ ∀ x ∈ f, x ∈ names (b0 :: bs') := fun {f at'} I => by
      have hm : ∀ x ∈ f, x ∈ names (b0 :: bs') := fun x hx => w.rch w.entry (I.rc x hx)
      have := length_le_of_sub I.nd hm
      rw [show (names (b0 :: bs')).length = (b0 :: bs').length from List.length_map ..] at this
      exact ⟨Nat.le_trans this w.len.2, hm⟩
    refine W.ss_cons ?_
    refine W.whiles (fun n e => ∃ (f : List Str) (t : Nat) (s5 : Slot), n + t = 12 ∧ BInv (succ (b0 :: bs')) h b0.nm f t ∧ e = [some (fz (fnD nm (b0 :: bs'))), some (fz (hidD h)), some (fz (.str b0.nm)), some (ow (.lst (f.map D.str))), some (fz (.int t)), s5]) 12 (by omega) ⟨F, 0, none, rfl, I0, rfl⟩ ?_
    rintro n e hn ⟨f, t, s5, ht, I, rfl⟩
    obtain ⟨lf, mf⟩ := sub I
    walk_at "ev"
    rw [List.length_map]
    refine ⟨fun e => ?_, fun e => ?_⟩
    · have e' := of_decide_eq_false e
      walk_at "ev"
      exact ⟨f, I.done (by omega), rfl, rfl⟩
    · have e' := of_decide_eq_true e
      have lt : t < f.length := by omega
      obtain ⟨i, b, hb1, hb2, hb3, hb4⟩ := block_of (wf := wf) (k := k + 2) X (nm := nm) w (mf f[t] (List.getElem_mem lt))
      walk_at "ev"
      refine W.fors ?_
      walk_at "ev"
      refine ⟨_, _, _, rfl, rfl, idx_strs t lt, ?_⟩
      walk_at "ev"
      refine clr X X.block_of hb4 (by simp [slotsOf]) rfl rfl ?_
      walk_at "ev"
      refine clr X X.goals_of (goals_bk (k := k) X i b) (by simp [slotsOf]) rfl rfl ?_
      walk_at "ev"
      rw [← hb3]
      generalize hS : succ (b0 :: bs') f[t] = gs
      refine ⟨fun j e => ∃ s5, e = [some (fz (fnD nm (b0 :: bs'))), some (fz (hidD h)), some (fz (.str b0.nm)), some (ow (.lst ((addAll h (gs.take j) f).map D.str))), some (fz (.int t)), s5], ⟨s5, rfl⟩, ?_, ?_⟩
      · rintro j d e hd ⟨s5', rfl⟩
        obtain ⟨g, hg, rfl⟩ : ∃ g, gs[j]? = some g ∧ d = .str g := by
          rw [List.getElem?_map] at hd
          cases hj : gs[j]? with
          | none => rw [hj] at hd; cases hd
          | some g => rw [hj] at hd; cases hd; exact ⟨g, rfl, rfl⟩
        dsimp only
        rw [addAll_take hg]
        generalize hF2 : addAll h (gs.take j) f = F2
        have lF2 : F2.length ≤ f.length + gs.length := by rw [← hF2]; exact addAll_len j
        have lgs : gs.length ≤ 2 := by rw [← hS, hb3]; cases b.en <;> simp [En.goals]
        refine ⟨_, rfl, ?_⟩
        walk_at "ev"
        refine ⟨_, _, _, rfl, rfl, ne_hid _ _, ?_⟩
        walk_at "ev"
        by_cases c1 : some g = h
        · rw [decide_eq_true c1]
          walk_at "ev"
          refine ⟨some (fz (.str g)), ?_⟩
          unfold add1
          rw [if_neg (fun z => z.1 c1)]
        · rw [decide_eq_false c1]
          walk_at "ev"
          refine ⟨_, _, _, rfl, rfl, notin_strs _ _, ?_⟩
          by_cases c2 : g ∈ F2
          · rw [decide_eq_true c2]
            walk_at "ev"
            refine ⟨some (fz (.str g)), ?_⟩
            unfold add1
            rw [if_neg (fun z => z.2 c2)]
          · rw [decide_eq_false c2]
            walk_at "ev"
            refine ⟨_, _, _, rfl, mu_app (by rw [List.length_map]; exact Nat.lt_of_le_of_lt (show F2.length ≤ 14 by omega) (by decide)), ?_⟩
            walk_at "ev"
            refine ⟨some (fz (.str g)), ?_⟩
            unfold add1
            rw [if_pos ⟨c1, c2⟩, List.map_append]
            rfl
      · rintro e ⟨s5', rfl⟩
        rw [List.length_map, List.take_length]
        walk_at "ev"
        exact ⟨n - 1, by omega, addAll h gs f, t + 1, s5', by omega, by rw [← hS]; exact I.next (List.getElem?_eq_getElem lt), rfl⟩
  by_cases e : some b0.nm = h
  · rw [decide_eq_true e]
    walk_at "evy"
    exact main [] (by rw [if_pos e])
  · rw [decide_eq_false e]
    walk_at "evy"
    exact main [b0.nm] (by rw [if_neg e])
end
end Ev.G
/-! P9: the law's own search; lists in the order of the function. -/
namespace Ev.G
open PySem L2 Gr
theorem pop_last (l : List D) (x : D) : muD .pop (l ++ [x]) [] = some (x, l) := by
  show (match (l ++ [x])[(l ++ [x]).length - 1]? with
    | some y => some (y, (l ++ [x]).dropLast)
    | none => none) = _
  rw [List.length_append, List.length_singleton, Nat.add_sub_cancel, List.getElem?_append_right (Nat.le_refl _), Nat.sub_self, List.dropLast_concat]
  rfl
theorem mu_ext {xs ys : List D} (h : xs.length + ys.length ≤ sizeLine) : muD .extend xs [.lst ys] = some (.non, xs ++ ys) := if_pos h
/-- the goals of the blocks of a name -/
def goalsN (s : Str) (bs : List Bk) : List Str := (bs.filter fun b => decide (b.nm = s)).flatMap fun b => b.en.goals
theorem goalsN_none {s : Str} : ∀ {bs : List Bk}, s ∉ names bs → goalsN s bs = []
  | [], _ => rfl
  | b :: bs, h => by
    have h1 : ¬ b.nm = s := fun e => h (e ▸ List.mem_cons_self ..)
    have h2 : s ∉ names bs := fun m => h (List.mem_cons_of_mem _ m)
    have := goalsN_none h2
    unfold goalsN at this ⊢
    rw [List.filter_cons, decide_eq_false h1]
    exact this
theorem goalsN_eq {s : Str} : ∀ {bs : List Bk}, (names bs).Nodup → goalsN s bs = succ bs s
  | [], _ => rfl
  | b :: bs, nd => by
    have nd' := List.nodup_cons.mp (show (b.nm :: names bs).Nodup from nd)
    by_cases e : b.nm = s
    · have h := goalsN_none (s := s) (bs := bs) (e ▸ nd'.1)
      unfold goalsN at h ⊢
      unfold succ
      rw [List.filter_cons, decide_eq_true e, List.find?_cons, decide_eq_true e]
      simp only [if_true, List.flatMap_cons, h, List.append_nil]
    · have h := goalsN_eq (s := s) nd'.2
      unfold goalsN at h ⊢
      unfold succ at h ⊢
      rw [List.filter_cons, decide_eq_false e, List.find?_cons, decide_eq_false e]
      exact h
theorem goalsN_take {s : Str} {bs : List Bk} {j : Nat} {b : Bk} (h : bs[j]? = some b) : goalsN s (bs.take (j + 1)) = goalsN s (bs.take j) ++ (if decide (b.nm = s) then b.en.goals else []) := by
  unfold goalsN
  rw [List.take_add_one, h, List.filter_append, List.flatMap_append]
  congr 1
  by_cases e : b.nm = s
  · simp [e]
  · simp [e]
theorem goalsN_len {s : Str} : ∀ (bs : List Bk), (goalsN s bs).length ≤ 2 * bs.length
  | [] => Nat.le_refl _
  | b :: bs => by
    have := goalsN_len (s := s) bs
    have l2 : b.en.goals.length ≤ 2 := by cases b.en <;> simp [En.goals]
    unfold goalsN at this ⊢
    rw [List.filter_cons]
    split
    · rw [List.flatMap_cons, List.length_append, List.length_cons]
      omega
    · rw [List.length_cons]
      omega
def headD' : D → Option D
  | .tup (x :: _) => some x
  | _ => none
theorem heads_bk : ∀ {k : Nat} {bs : List Bk}, (bksD k bs).filterMap headD' = (names bs).map D.str
  | _, [] => rfl
  | k, b :: bs => by
    show (bkD k b :: bksD (k + 1) bs).filterMap headD' = .str b.nm :: (names bs).map D.str
    rw [List.filterMap_cons, ← heads_bk (k := k + 1) (bs := bs)]
    rfl
def inL (L : List Str) : D → Option D
  | .str s => if decide (s ∈ L) then some (.str s) else none
  | _ => none
theorem filter_inL (L : List Str) : ∀ ns : List Str, (ns.map D.str).filterMap (inL L) = (ns.filter fun s => decide (s ∈ L)).map D.str
  | [] => rfl
  | s :: ns => by
    rw [List.map_cons, List.filterMap_cons, List.filter_cons]
    rw [filter_inL L ns, show inL L (.str s) = if decide (s ∈ L) then some (D.str s) else none from rfl]
    by_cases e : s ∈ L
    · rw [decide_eq_true e]; rfl
    · rw [decide_eq_false e]; rfl
def headIn (L : List Str) : D → Option D
  | .tup (.str s :: _) => if decide (s ∈ L) then some (.str s) else none
  | _ => none
theorem filter_headIn (L : List Str) : ∀ {k : Nat} {bs : List Bk}, (bksD k bs).filterMap (headIn L) = ((names bs).filter fun s => decide (s ∈ L)).map D.str
  | _, [] => rfl
  | k, b :: bs => by
    show (bkD k b :: bksD (k + 1) bs).filterMap (headIn L) = ((b.nm :: names bs).filter fun s => decide (s ∈ L)).map D.str
    rw [List.filterMap_cons, List.filter_cons]
    rw [filter_headIn L (k := k + 1) (bs := bs), show headIn L (bkD k b) = if decide (b.nm ∈ L) then some (D.str b.nm) else none from rfl]
    by_cases e : b.nm ∈ L
    · rw [decide_eq_true e]; rfl
    · rw [decide_eq_false e]; rfl
theorem succ_len (bs : List Bk) (s : Str) : (succ bs s).length ≤ 2 := by
  unfold succ
  split
  · rename_i b _
    cases b.en <;> simp [En.goals]
  · exact Nat.zero_le _
section
variable {kp : Nat → Nat} {ft : Nat → Option Fd} {wf k : Nat} (X : Fx kp ft)
include X
theorem law_goals (i : Nat) (b : Bk) : Ret kp ft wf (k + 1) 45 [fz (bkD i b)] (ow (.lst (b.en.goals.map D.str))) := by
  refine .of (W.fn [some (fz (bkD i b)), none] X.law_goals rfl rfl rfl ?_ (by show 1 ≤ sizeLine; decide))
  unfold d_law_goals bkD
  dsimp only
  obtain ⟨nm, it, en⟩ := b
  cases en <;> (unfold enD; walk_at "evu"; first | rfl | exact ⟨rfl, rfl⟩)
theorem law_reached {bs : List Bk} (w : WfG bs) (hwf : 1000 ≤ wf) (h : Option Str) {a : Str} (ha : a ∈ names bs) : ∃ L : List Str, IsR (succ bs) h a L ∧ Ret kp ft wf (k + 2) 46 [fz (.tup (bksD 0 bs)), fz (.str a), fz (hidD h)] (ow (.lst (L.map D.str))) := by
  suffices hs : ∃ r outs, callF (pg0 kp) ft wf (k + 2) 46 [fz (.tup (bksD 0 bs)), fz (.str a), fz (hidD h)] = .ok r outs ∧ ∃ L : List Str, IsR (succ bs) h a L ∧ r = ow (.lst (L.map D.str)) ∧ outs = [some (fz (.tup (bksD 0 bs))), some (fz (.str a)), some (fz (hidD h))] by
    obtain ⟨_, _, hc, L, hL, rfl, rfl⟩ := hs
    exact ⟨L, hL, hc⟩
  refine W.fn [some (fz (.tup (bksD 0 bs))), some (fz (.str a)), some (fz (hidD h)), none, none, none, none] X.law_reached rfl rfl rfl ?_ (by show 3 ≤ sizeLine; decide)
  unfold d_law_reached
  dsimp only
  walk_at "ev"
  have sub : ∀ {f l : List Str}, DInv (succ bs) h a f l → f.length ≤ 12 ∧ f.length ≤ bs.length := fun {f l} I => by
    have := length_le_of_sub I.nd (fun x hx => w.rch ha (I.rc x hx))
    rw [show (names bs).length = bs.length from List.length_map ..] at this
    exact ⟨Nat.le_trans this w.len.2, this⟩
  refine W.whiles (fun n e => ∃ (f l : List Str) (s5 s6 : Slot), n + 3 * f.length = 40 + l.length ∧ DInv (succ bs) h a f l ∧ l.length ≤ 1 + 2 * f.length ∧ e = [some (fz (.tup (bksD 0 bs))), some (fz (.str a)), some (fz (hidD h)), some (ow (.lst (f.map D.str))), some (ow (.lst (l.map D.str))), s5, s6]) 41 (by omega) ⟨[], [a], none, none, rfl, DInv.zero, Nat.le_refl _, rfl⟩ ?_
  rintro n e hn ⟨f, l, s5, s6, ht, I, ll, rfl⟩
  obtain ⟨lf, _⟩ := sub I
  rcases List.eq_nil_or_concat l with rfl | ⟨l', x, rfl⟩
  · walk_at "ev"
    exact ⟨f, I.done, rfl, rfl⟩
  · rw [List.concat_eq_append] at *
    rw [List.map_append] at *
    walk_at "ev"
    have hne : (!(l'.map D.str ++ [x].map D.str).isEmpty) = true := by simp
    rw [hne]
    rw [List.length_append, List.length_singleton] at ht ll
    walk_at "ev"
    refine ⟨_, _, _, rfl, pop_last _ _, ?_⟩
    dsimp only [List.set]
    refine ⟨_, rfl, ?_⟩
    walk_at "ev"
    refine ⟨_, _, _, rfl, rfl, ne_hid _ _, ?_⟩
    walk_at "ev"
    by_cases c1 : some x = h
    · rw [decide_eq_true c1]
      walk_at "ev"
      exact ⟨n - 1, by omega, f, l', some (fz (.str x)), s6, by omega, I.skip (.inl c1), by omega, rfl⟩
    · rw [decide_eq_false c1]
      walk_at "ev"
      refine ⟨_, _, _, rfl, rfl, notin_strs _ _, ?_⟩
      by_cases c2 : x ∈ f
      · rw [decide_eq_true c2]
        walk_at "ev"
        exact ⟨n - 1, by omega, f, l', some (fz (.str x)), s6, by omega, I.skip (.inr c2), by omega, rfl⟩
      · rw [decide_eq_false c2]
        have J := I.take c1 c2
        obtain ⟨lJ, _⟩ := sub J
        rw [List.length_append, List.length_singleton] at lJ
        walk_at "ev"
        refine ⟨_, _, _, rfl, mu_app (by rw [List.length_map]; exact Nat.lt_of_le_of_lt (show f.length ≤ 12 by omega) (by decide)), ?_⟩
        walk_at "ev"
        refine W.fors ?_
        walk_at "ev"
        refine ⟨fun j e => ∃ s6', e = [some (fz (.tup (bksD 0 bs))), some (fz (.str a)), some (fz (hidD h)), some (ow (.lst ((f ++ [x]).map D.str))), some (ow (.lst ((l' ++ goalsN x (bs.take j)).map D.str))), some (fz (.str x)), s6'], ⟨s6, ?_⟩, ?_, ?_⟩
        · rw [List.map_append]
          simp [goalsN]
        · rintro j d e hd ⟨s6', rfl⟩
          obtain ⟨b, hb, rfl⟩ := bksD_get hd
          dsimp only
          rw [goalsN_take hb]
          generalize hl2 : l' ++ goalsN x (bs.take j) = l2
          have lg : (goalsN x (bs.take j)).length ≤ 24 := by
            have := goalsN_len (s := x) (bs.take j)
            rw [List.length_take] at this
            have := w.len.2
            omega
          have ll2 : l2.length ≤ 60 := by rw [← hl2, List.length_append]; omega
          rw [← List.append_assoc, hl2]
          refine ⟨_, rfl, ?_⟩
          walk_at "ev"
          refine ⟨fun e => ?_, fun e => ?_⟩
          · rw [e]
            walk_at "ev"
            refine clr X X.law_goals (law_goals (k := k) X _ b) (by simp [slotsOf]) rfl rfl ?_
            walk_at "ev"
            refine ⟨_, _, _, rfl, mu_ext (by
              rw [List.length_map, List.length_map]
              have l2' : b.en.goals.length ≤ 2 := by cases b.en <;> simp [En.goals]
              exact Nat.le_trans (show l2.length + b.en.goals.length ≤ 62 by omega) (by decide)), ?_⟩
            walk_at "ev"
            refine ⟨some (fz (bkD (0 + j) b)), ?_⟩
            rw [if_pos rfl, List.map_append (l₁ := l2)]
            rfl
          · rw [e]
            walk_at "ev"
            refine ⟨some (fz (bkD (0 + j) b)), ?_⟩
            rw [if_neg Bool.false_ne_true, List.append_nil]
        · rintro e ⟨s6', rfl⟩
          rw [bksD_len, List.take_length, goalsN_eq w.nd]
          have := succ_len bs x
          walk_at "ev"
          exact ⟨n - 4 + (succ bs x).length, by omega, f ++ [x], l' ++ succ bs x, _, _, by simp only [List.length_append, List.length_singleton]; omega, J, by simp only [List.length_append, List.length_singleton]; omega, rfl⟩
theorem names_of {nm : Str} {bs : List Bk} (w : WfG bs) : Ret kp ft wf (k + 1) 12 [fz (fnD nm bs)] (ow (.lst ((names bs).map D.str))) := by
  refine .of (W.fn [some (fz (fnD nm bs)), none] X.names_of rfl rfl rfl ?_ (by show 1 ≤ sizeLine; decide))
  unfold d_names_of
  dsimp only
  walk_at "ev"
  refine W.comp_map headD' ?_
  walk_at "ev"
  refine ⟨by rw [bksD_len]; exact Nat.le_trans w.len.2 (by decide), rfl, fun d hd => ?_, ?_⟩
  · obtain ⟨j, c, _, rfl⟩ := bksD_mem hd
    refine W.cturn_ok rfl ?_
    walk_at "ev"
    exact ⟨rfl, rfl⟩
  · rw [heads_bk]
    exact ⟨_, rfl, rfl, rfl⟩
/-- the reached blocks, in the order of the function -/
theorem reached_in {nm : Str} {bs : List Bk} (w : WfG bs) (hwf : 1000 ≤ wf) : ∃ L : List Str, IsR (succ bs) none (entry bs) L ∧ Ret kp ft wf (k + 5) 16 [fz (fnD nm bs)] (ow (.lst (((names bs).filter fun s => decide (s ∈ L)).map D.str))) := by
  obtain ⟨L, hL, hc⟩ := reached_without (wf := wf) (k := k) X (nm := nm) w (by omega) none
  refine ⟨L, hL, .of (W.fn [some (fz (fnD nm bs)), none, none] X.reached_in rfl rfl rfl ?_ (by show 1 ≤ sizeLine; decide))⟩
  unfold d_reached_in
  dsimp only
  walk_at "ev"
  refine clr X X.reached_without hc (by simp [slotsOf]) rfl rfl ?_
  walk_at "ev"
  refine W.comp_map (inL L) ?_
  walk_at "ev"
  refine clr X X.names_of (names_of (k := k + 3) X w) (by simp [slotsOf]) rfl rfl ?_
  walk_at "ev"
  refine ⟨by rw [List.length_map, show (names bs).length = bs.length from List.length_map ..]; exact Nat.le_trans w.len.2 (by decide), rfl, fun d hd => ?_, ?_⟩
  · obtain ⟨s, _, rfl⟩ := List.mem_map.mp hd
    refine W.cturn_ok rfl ?_
    walk_at "ev"
    refine ⟨_, _, _, rfl, rfl, in_strs _ _, ?_⟩
    walk_at "ev"
    refine ⟨fun e => ?_, fun e => ?_⟩
    · walk_at "ev"
      refine ⟨?_, rfl⟩
      show some (D.str s) = (if decide (s ∈ L) then some (D.str s) else none)
      rw [e]
      rfl
    · refine ⟨?_, rfl⟩
      show none = (if decide (s ∈ L) then some (D.str s) else none)
      rw [e]
      rfl
  · rw [filter_inL]
    exact ⟨_, rfl, rfl, rfl⟩
theorem law_there {bs : List Bk} (w : WfG bs) (hwf : 1000 ≤ wf) : ∃ L : List Str, IsR (succ bs) none (entry bs) L ∧ Ret kp ft wf (k + 3) 47 [fz (.tup (bksD 0 bs))] (ow (.lst (((names bs).filter fun s => decide (s ∈ L)).map D.str))) := by
  obtain ⟨L, hL, hc⟩ := law_reached (wf := wf) (k := k) X w hwf none w.entry
  refine ⟨L, hL, .of (W.fn [some (fz (.tup (bksD 0 bs))), none, none] X.law_there rfl rfl rfl ?_ (by show 1 ≤ sizeLine; decide))⟩
  unfold d_law_there
  dsimp only
  obtain ⟨b0, bs', rfl⟩ : ∃ b bs', bs = b :: bs' := by
    cases bs with
    | nil => have := w.len.1; simp at this
    | cons b bs' => exact ⟨b, bs', rfl⟩
  walk_at "ev"
  refine ⟨_, _, _, rfl, rfl, idx_hdT _ _, ?_⟩
  walk_at "ev"
  refine clr X X.law_reached hc (by simp [slotsOf]) rfl rfl ?_
  walk_at "ev"
  refine W.comp_map (headIn L) ?_
  walk_at "ev"
  refine ⟨by rw [bksD_len]; exact Nat.le_trans w.len.2 (by decide), rfl, fun d hd => ?_, ?_⟩
  · obtain ⟨j, c, _, rfl⟩ := bksD_mem hd
    refine W.cturn_ok rfl ?_
    walk_at "ev"
    refine ⟨_, _, _, rfl, rfl, in_strs _ _, ?_⟩
    walk_at "ev"
    refine ⟨fun e => ?_, fun e => ?_⟩
    · walk_at "ev"
      refine ⟨?_, rfl⟩
      show some (D.str c.nm) = (if decide (c.nm ∈ L) then some (D.str c.nm) else none)
      rw [e]
      rfl
    · refine ⟨?_, rfl⟩
      show none = (if decide (c.nm ∈ L) then some (D.str c.nm) else none)
      rw [e]
      rfl
  · rw [filter_headIn]
    exact ⟨_, rfl, rfl, rfl⟩
end
end Ev.G
/-! P10: a drawn module has its form. -/
namespace Ev.G
open PySem L2 Gr
/-- two functions as they are drawn -/
structure WfM (n1 : Str) (b1 : List Bk) (n2 : Str) (b2 : List Bk) : Prop where
  ns : (n1, n2) ∈ twoNs
  w1 : WfG b1
  w2 : WfG b2
def fsD (n1 : Str) (b1 : List Bk) (n2 : Str) (b2 : List Bk) : D := .tup [fnD n1 b1, fnD n2 b2]
theorem two_nm {n1 n2 : Str} (h : (n1, n2) ∈ twoNs) : IsNm n1 ∧ IsNm n2 ∧ cmpD .le (.str n2) (.str n1) = some false ∧ n1 ≠ n2 ∧ (n1 = Str.ofString "main" ∨ n2 = Str.ofString "main") := by
  have a : ∀ s ∈ [Str.ofString "a", Str.ofString "main", Str.ofString "graph", Str.ofString "mainz", Str.ofString "z"], IsNm s := by
    intro s hs
    have h2 : ∀ s ∈ [Str.ofString "a", Str.ofString "main", Str.ofString "graph", Str.ofString "mainz", Str.ofString "z"], (1 ≤ (tl s).length ∧ (tl s).length ≤ 8) ∧ ∀ c ∈ tl s, 97 ≤ c ∧ c ≤ 122 := by decide +kernel
    exact ⟨(h2 s hs).1, (h2 s hs).2⟩
  have c : ∀ p ∈ twoNs, cmpD .le (.str p.2) (.str p.1) = some false ∧ p.1 ≠ p.2 ∧ (p.1 = Str.ofString "main" ∨ p.2 = Str.ofString "main") := by
    have c1 : ∀ p ∈ twoNs, (!decide (p.1.cps.toList < p.2.cps.toList)) = false ∧ p.1 ≠ p.2 ∧ (p.1 = Str.ofString "main" ∨ p.2 = Str.ofString "main") := by decide +kernel
    intro p hp
    refine ⟨?_, (c1 p hp).2⟩
    show some (!decide (p.1.cps.toList < p.2.cps.toList)) = _
    rw [(c1 p hp).1]
  have d : ∀ p ∈ twoNs, p.1 ∈ [Str.ofString "a", Str.ofString "main", Str.ofString "graph", Str.ofString "mainz", Str.ofString "z"] ∧ p.2 ∈ [Str.ofString "a", Str.ofString "main", Str.ofString "graph", Str.ofString "mainz", Str.ofString "z"] := by decide +kernel
  exact ⟨a _ (d _ h).1, a _ (d _ h).2, (c _ h).1, (c _ h).2⟩
theorem enum_get : ∀ {xs : List D} {n k : Nat} {d : D}, (enumD n xs)[k]? = some d → ∃ x, xs[k]? = some x ∧ d = .tup [.int ((n + k : Nat) : Int), x]
  | [], n, k, d, h => by simp [enumD] at h
  | x :: xs, n, 0, d, h => by
    simp only [enumD, List.getElem?_cons_zero, Option.some.injEq] at h
    exact ⟨x, rfl, h ▸ rfl⟩
  | x :: xs, n, k + 1, d, h => by
    simp only [enumD, List.getElem?_cons_succ] at h
    obtain ⟨y, h1, h2⟩ := enum_get h
    exact ⟨y, by simpa using h1, by rw [h2, show n + 1 + k = n + (k + 1) by omega]⟩
theorem enum_len : ∀ (n : Nat) (xs : List D), (enumD n xs).length = xs.length
  | _, [] => rfl
  | n, _ :: xs => by show (enumD (n + 1) xs).length + 1 = xs.length + 1; rw [enum_len]
section
variable {kp : Nat → Nat} {ft : Nat → Option Fd} {wf k : Nat} (X : Fx kp ft) {n1 n2 : Str} {b1 b2 : List Bk}
include X
theorem has_form : Ret kp ft wf (k + 2) 33 [fz (mdD n1 b1 n2 b2)] (fz (.bl true)) := by
  refine .of (W.fn [some (fz (mdD n1 b1 n2 b2))] X.has_form rfl rfl rfl ?_ (by show 1 ≤ sizeLine; decide))
  unfold d_has_form
  dsimp only
  walk_at "ev"
  refine clr X X.is_tuple (is_tuple (k := k) X (xs := [.tup [], fsD n1 b1 n2 b2]) (by show (2 : Int) ≤ 2; decide) (by show (2 : Int) ≤ 2; decide)) (by simp [slotsOf]) rfl rfl ?_
  walk_at "ev"
  refine clr X X.is_tuple (is_tuple (k := k) X (xs := []) (by decide) (by decide)) (by simp [slotsOf]) rfl rfl ?_
  walk_at "ev"
  refine clr X X.is_tuple (is_tuple (k := k) X (xs := [fnD n1 b1, fnD n2 b2]) (by show (1 : Int) ≤ 2; decide) (by show (2 : Int) ≤ 8; decide)) (by simp [slotsOf]) rfl rfl ?_
  exact ⟨_, rfl, rfl, rfl⟩
theorem function_form {nm : Str} {bs : List Bk} (hn : IsNm nm) (w : WfG bs) : Ret kp ft wf (k + 3) 19 [fz (fnD nm bs)] (fz (.bl true)) := by
  refine .of (W.fn [some (fz (fnD nm bs))] X.is_function_form rfl rfl rfl ?_ (by show 1 ≤ sizeLine; decide))
  unfold d_is_function_form
  dsimp only
  walk_at "ev"
  refine clr X X.is_tuple (is_tuple (k := k + 1) X (xs := [.str nm, .tup [.str "x"], .tup (bksD 0 bs)]) (by show (3 : Int) ≤ 3; decide) (by show (3 : Int) ≤ 3; decide)) (by simp [slotsOf]) rfl rfl ?_
  walk_at "ev"
  refine clr X X.is_name (is_name (k := k + 1) X hn) (by simp [slotsOf]) rfl rfl ?_
  walk_at "ev"
  refine clr X X.are_names (are_x (k := k) X (by decide)) (by simp [slotsOf]) rfl rfl ?_
  walk_at "ev"
  refine clr X X.is_tuple (is_tuple (k := k + 1) X (xs := bksD 0 bs) (by rw [bksD_len]; have := w.len.1; omega) (b := 12) (by rw [bksD_len]; have := w.len.2; omega)) (by simp [slotsOf]) rfl rfl ?_
  exact ⟨_, rfl, rfl, rfl⟩
theorem block_form {i : Nat} {b : Bk} (hn : IsNm b.nm) : Ret kp ft wf (k + 3) 20 [fz (bkD i b)] (fz (.bl true)) := by
  refine .of (W.fn [some (fz (bkD i b))] X.is_block_form rfl rfl rfl ?_ (by show 1 ≤ sizeLine; decide))
  unfold d_is_block_form
  dsimp only
  walk_at "ev"
  refine clr X X.is_tuple (is_tuple (k := k + 1) X (xs := [.str b.nm, .tup [], .tup (thD i b.it), enD b.en]) (by show (4 : Int) ≤ 4; decide) (by show (4 : Int) ≤ 4; decide)) (by simp [slotsOf]) rfl rfl ?_
  walk_at "ev"
  refine clr X X.is_name (is_name (k := k + 1) X hn) (by simp [slotsOf]) rfl rfl ?_
  walk_at "ev"
  refine clr X X.are_names (are_none (k := k) X (by decide)) (by simp [slotsOf]) rfl rfl ?_
  walk_at "ev"
  refine clr X X.is_tuple (is_tuple (k := k + 1) X (xs := thD i b.it) (a := 0) (b := 40) (by omega) (by unfold thD; split <;> simp)) (by simp [slotsOf]) rfl rfl ?_
  exact ⟨_, rfl, rfl, rfl⟩
theorem row_kinds : Ret kp ft wf (k + 4) 21 [fz (.str "kind"), fz (.tup []), fz (.fn 18)] (fz .non) := by
  refine .of (W.fn [some (fz (.str "kind")), some (fz (.tup [])), some (fz (.fn 18)), none, none] X.row_fault rfl rfl rfl ?_ (by show 3 ≤ sizeLine; decide))
  unfold d_row_fault
  dsimp only
  walk_at "evu"
  first | rfl | exact ⟨rfl, rfl⟩
theorem row_functions (m : WfM n1 b1 n2 b2) : Ret kp ft wf (k + 4) 21 [fz (.str "function"), fz (fsD n1 b1 n2 b2), fz (.fn 19)] (fz .non) := by
  obtain ⟨h1, h2, h3, h4, h5⟩ := two_nm m.ns
  refine .of (W.fn [some (fz (.str "function")), some (fz (fsD n1 b1 n2 b2)), some (fz (.fn 19)), none, none] X.row_fault rfl rfl rfl ?_ (by show 3 ≤ sizeLine; decide))
  unfold d_row_fault
  dsimp only
  walk_at "evu"
  refine clr X X.is_function_form (function_form (k := k) X h1 m.w1) (by simp [slotsOf]) rfl rfl ?_
  walk_at "evu"
  refine clr X X.is_function_form (function_form (k := k) X h2 m.w2) (by simp [slotsOf]) rfl rfl ?_
  walk_at "evu"
  rw [show (!decide (n1.cps.toList < n2.cps.toList)) = false from Option.some.inj h3]
  walk_at "evu"
  first | rfl | exact ⟨rfl, rfl⟩
theorem block_fault (m : WfM n1 b1 n2 b2) : Ret kp ft wf (k + 4) 22 [fz (fsD n1 b1 n2 b2)] (fz .non) := by
  have one : ∀ (nm : Str) (bs : List Bk) (w : WfG bs) (s1 s2 s3 s4 s5 : Slot) (N : Ev → Prop) (R : Flow' → Ev → Prop), (∀ t1 t2 t3 t4 t5, N [some (fz (fsD n1 b1 n2 b2)), t1, t2, t3, t4, t5]) → ∀ i : Int,
      WSs (pg0 kp) (callF (pg0 kp) ft wf (k + 3)) 1 wf (match d_block_fault.body with
        | .cons (.fors _ _ _ b) _ => b
        | _ => .nil) [some (fz (fsD n1 b1 n2 b2)), some (fz (.int i)), some (fz (fnD nm bs)), s3, s4, s5] N R := by
    intro nm bs w s1 s2 s3 s4 s5 N R hN i
    unfold d_block_fault
    dsimp only
    walk_at "ev"
    refine W.fors ?_
    walk_at "ev"
    refine ⟨fun j e => ∃ t4 t5, e = [some (fz (fsD n1 b1 n2 b2)), some (fz (.int i)), some (fz (fnD nm bs)), some (ow (.lst (((names bs).take j).map D.str))), t4, t5], ⟨s4, s5, rfl⟩, ?_, ?_⟩
    · rintro j d e hd ⟨t4, t5, rfl⟩
      obtain ⟨x, hx, rfl⟩ := enum_get hd
      obtain ⟨b, hb, rfl⟩ := bksD_get hx
      rw [Nat.zero_add]
      have hbn : (names bs)[j]? = some b.nm := by unfold names; rw [List.getElem?_map, hb]; rfl
      have nin : b.nm ∉ (names bs).take j := by
        intro hm
        obtain ⟨i', hi', e'⟩ := List.mem_iff_getElem.mp hm
        rw [List.length_take] at hi'
        rw [List.getElem_take] at e'
        have lt := (List.getElem?_eq_some_iff.mp hbn).1
        have ej := (List.getElem?_eq_some_iff.mp hbn).2
        have := (List.getElem_inj w.nd).mp (e'.trans ej.symm)
        omega
      have ljn := (List.getElem?_eq_some_iff.mp hb).1
      refine ⟨_, rfl, ?_⟩
      walk_at "ev"
      refine clr X X.is_block_form (block_form (k := k) X (w.nm _ (mem_names hb))) (by simp [slotsOf]) rfl rfl ?_
      walk_at "ev"
      refine ⟨_, _, _, rfl, rfl, in_strs _ _, ?_⟩
      rw [decide_eq_false nin]
      walk_at "ev"
      have et : ((names bs).take (j + 1)).map D.str = ((names bs).take j).map D.str ++ [.str b.nm] := by
        rw [List.take_add_one, hbn, List.map_append]
        rfl
      have lj : (((names bs).take j).map D.str).length < sizeLine := by
        rw [List.length_map, List.length_take]
        have := w.len.2
        exact Nat.lt_of_le_of_lt (show min j (names bs).length ≤ 12 by omega) (by decide)
      refine ⟨fun _ => ?_, fun _ => ?_⟩
      · walk_at "ev"
        refine ⟨_, _, _, rfl, mu_app lj, ?_⟩
        walk_at "ev"
        rw [et]
        exact ⟨_, _, rfl⟩
      · walk_at "ev"
        refine ⟨_, _, _, rfl, mu_app lj, ?_⟩
        walk_at "ev"
        rw [et]
        exact ⟨_, _, rfl⟩
    · rintro e ⟨t4, t5, rfl⟩
      walk_at "ev"
      exact hN _ _ _ _ _
  refine .of (W.fn [some (fz (fsD n1 b1 n2 b2)), none, none, none, none, none] X.block_fault rfl rfl rfl ?_ (by show 1 ≤ sizeLine; decide))
  unfold d_block_fault
  dsimp only
  refine W.ss_cons (W.fors_l ?_)
  walk_at "ev"
  refine W.fl_cons rfl ?_
  refine one n1 b1 m.w1 none none _ _ _ _ _ (fun t1 t2 t3 t4 t5 => ?_) _
  refine W.fl_cons rfl ?_
  refine one n2 b2 m.w2 none none _ _ _ _ _ (fun t1 t2 t3 t4 t5 => ?_) _
  refine W.fl_nil ?_
  walk_at "ev"
  exact ⟨rfl, rfl⟩
end
end Ev.G
/-! P11: places; instructions and names fit. -/
namespace Ev.G
open PySem L2 Gr
def plD (f j i : Nat) (x : D) : D := .tup [.int f, .int j, .int i, x]
def thN (b : Bk) : Nat := if b.it then 1 else 0
def plB (f j : Nat) (b : Bk) : List D := (if b.it then [plD f j 0 (insD j)] else []) ++ [plD f j (thN b) (enD b.en)]
def pls (f : Nat) : Nat → List Bk → List D
  | _, [] => []
  | j, b :: r => plB f j b ++ pls f (j + 1) r
theorem pls_app (f : Nat) : ∀ (j : Nat) (l : List Bk) (b : Bk), pls f j (l ++ [b]) = pls f j l ++ plB f (j + l.length) b
  | j, [], b => by simp [pls]
  | j, c :: l, b => by
    show plB f j c ++ pls f (j + 1) (l ++ [b]) = plB f j c ++ pls f (j + 1) l ++ plB f (j + (l.length + 1)) b
    rw [pls_app f (j + 1) l b, List.append_assoc, show j + 1 + l.length = j + (l.length + 1) by omega]
theorem plB_len (f j : Nat) (b : Bk) : (plB f j b).length ≤ 2 := by
  unfold plB
  split <;> simp
theorem pls_len (f : Nat) : ∀ (j : Nat) (l : List Bk), (pls f j l).length ≤ 2 * l.length
  | _, [] => Nat.le_refl _
  | j, b :: l => by
    have h1 := pls_len f (j + 1) l
    have h2 := plB_len f j b
    show (plB f j b ++ pls f (j + 1) l).length ≤ _
    rw [List.length_append, List.length_cons]
    omega
theorem pls_mem {f : Nat} {d : D} : ∀ {k : Nat} {bs : List Bk}, d ∈ pls f k bs → ∃ j b, bs[j]? = some b ∧ ((b.it = true ∧ d = plD f (k + j) 0 (insD (k + j))) ∨ d = plD f (k + j) (thN b) (enD b.en))
  | _, [], h => by cases h
  | k, b :: bs, h => by
    rcases List.mem_append.mp (show d ∈ plB f k b ++ pls f (k + 1) bs from h) with h | h
    · refine ⟨0, b, rfl, ?_⟩
      rw [Nat.add_zero]
      unfold plB at h
      rcases List.mem_append.mp h with h | h
      · split at h
        · rename_i e
          exact .inl ⟨e, List.mem_singleton.mp h⟩
        · cases h
      · exact .inr (List.mem_singleton.mp h)
    · obtain ⟨j, c, h1, h2⟩ := pls_mem h
      refine ⟨j + 1, c, by simpa using h1, ?_⟩
      rw [show k + (j + 1) = k + 1 + j by omega]
      exact h2
theorem th_len (j : Nat) (b : Bk) : (thD j b.it).length = thN b := by
  unfold thD thN
  split <;> rfl
section
variable {kp : Nat → Nat} {ft : Nat → Option Fd} {wf k : Nat} (X : Fx kp ft) {n1 n2 : Str} {b1 b2 : List Bk}
include X
theorem places_in (m : WfM n1 b1 n2 b2) : Ret kp ft wf (k + 1) 23 [fz (fsD n1 b1 n2 b2)] (ow (.lst (pls 0 0 b1 ++ pls 1 0 b2))) := by
  have one : ∀ (nm : Str) (bs : List Bk) (w : WfG bs) (i : Nat) (acc : List D), acc.length ≤ 100 → ∀ (s4 s5 s6 s7 : Slot) (N : Ev → Prop) (R : Flow' → Ev → Prop), (∀ t2 t3 t4 t5 t6 t7, N [some (fz (fsD n1 b1 n2 b2)), some (ow (.lst (acc ++ pls i 0 bs))), t2, t3, t4, t5, t6, t7]) →
      WSs (pg0 kp) (callF (pg0 kp) ft wf k) 1 wf (match d_places_in.body with
        | .cons _ (.cons (.fors _ _ _ b) _) => b
        | _ => .nil) [some (fz (fsD n1 b1 n2 b2)), some (ow (.lst acc)), some (fz (.int i)), some (fz (fnD nm bs)), s4, s5, s6, s7] N R := by
    intro nm bs w i acc la s4 s5 s6 s7 N R hN
    unfold d_places_in
    dsimp only
    walk_at "ev"
    refine W.fors ?_
    walk_at "ev"
    refine ⟨fun j e => ∃ t4 t5 t6 t7, e = [some (fz (fsD n1 b1 n2 b2)), some (ow (.lst (acc ++ pls i 0 (bs.take j)))), some (fz (.int i)), some (fz (fnD nm bs)), t4, t5, t6, t7], ⟨s4, s5, s6, s7, by simp [pls]⟩, ?_, ?_⟩
    · rintro j d e hd ⟨t4, t5, t6, t7, rfl⟩
      obtain ⟨x, hx, rfl⟩ := enum_get hd
      obtain ⟨b, hb, rfl⟩ := bksD_get hx
      rw [Nat.zero_add]
      have lj := (List.getElem?_eq_some_iff.mp hb).1
      have ep : pls i 0 (bs.take (j + 1)) = pls i 0 (bs.take j) ++ plB i j b := by
        rw [List.take_add_one, hb]
        show pls i 0 (bs.take j ++ [b]) = _
        rw [pls_app, List.length_take, Nat.min_eq_left (Nat.le_of_lt lj), Nat.zero_add]
      dsimp only
      rw [ep, ← List.append_assoc]
      have lp := pls_len i 0 (bs.take j)
      rw [List.length_take] at lp
      have := w.len.2
      generalize hA : acc ++ pls i 0 (bs.take j) = A
      have lA : A.length ≤ 130 := by rw [← hA, List.length_append]; omega
      refine ⟨_, rfl, ?_⟩
      obtain ⟨bn, it, en⟩ := b
      cases it with
      | true =>
        walk_at "evu"
        rw [show enumD 0 (thD j true) = [.tup [.int ((0 : Nat) : Int), insD j]] from rfl]
        walk_at "evu"
        refine ⟨_, _, _, rfl, mu_ext (by rw [List.length_singleton]; exact Nat.le_trans (show A.length + 1 ≤ 131 by omega) (by decide)), ?_⟩
        walk_at "evu"
        refine ⟨_, _, _, rfl, mu_app (by rw [List.length_append, List.length_singleton]; exact Nat.lt_of_le_of_lt (show A.length + 1 ≤ 131 by omega) (by decide)), ?_⟩
        walk_at "evu"
        rw [List.append_assoc]
        exact ⟨_, _, _, _, rfl⟩
      | false =>
        walk_at "evu"
        rw [show enumD 0 (thD j false) = [] from rfl]
        walk_at "evu"
        refine ⟨_, _, _, rfl, mu_ext (by rw [List.length_nil]; exact Nat.le_trans (show A.length + 0 ≤ 131 by omega) (by decide)), ?_⟩
        walk_at "evu"
        refine ⟨_, _, _, rfl, mu_app (by rw [List.length_append, List.length_nil]; exact Nat.lt_of_le_of_lt (show A.length + 0 ≤ 131 by omega) (by decide)), ?_⟩
        walk_at "evu"
        rw [List.append_nil]
        exact ⟨_, _, _, _, rfl⟩
    · rintro e ⟨t4, t5, t6, t7, rfl⟩
      rw [enum_len, bksD_len, List.take_length]
      walk_at "ev"
      exact hN _ _ _ _ _ _
  refine .of (W.fn [some (fz (fsD n1 b1 n2 b2)), none, none, none, none, none, none, none] X.places_in rfl rfl rfl ?_ (by show 1 ≤ sizeLine; decide))
  unfold d_places_in
  dsimp only
  refine W.ss_cons ?_
  walk_at "evy"
  refine W.ss_cons (W.fors_l ?_)
  walk_at "ev"
  have l1 := pls_len 0 0 b1
  have := m.w1.len.2
  refine W.fl_cons rfl ?_
  refine one n1 b1 m.w1 0 [] (by simp) _ _ _ _ _ _ (fun t1 t2 t3 t4 t5 t6 => ?_)
  refine W.fl_cons rfl ?_
  refine one n2 b2 m.w2 1 _ (by rw [List.nil_append]; omega) _ _ _ _ _ _ (fun t1 t2 t3 t4 t5 t6 => ?_)
  refine W.fl_nil ?_
  walk_at "ev"
  rw [List.nil_append]
  exact ⟨rfl, rfl⟩
theorem instruction_fault (m : WfM n1 b1 n2 b2) : Ret kp ft wf (k + 5) 24 [fz (fsD n1 b1 n2 b2)] (fz .non) := by
  have lz := pls_len 0 0 b1
  have lz2 := pls_len 1 0 b2
  have l1 := m.w1.len.2
  have l2 := m.w2.len.2
  refine .of (W.fn [some (fz (fsD n1 b1 n2 b2)), none, none, none, none, none] X.instruction_fault rfl rfl rfl ?_ (by show 1 ≤ sizeLine; decide))
  unfold d_instruction_fault
  dsimp only
  walk_at "ev"
  refine W.fors ?_
  walk_at "ev"
  refine clr X X.places_in (places_in (k := k + 3) X m) (by simp [slotsOf]) rfl rfl ?_
  walk_at "ev"
  refine ⟨fun _ e => ∃ t1 t2 t3 t4 t5, e = [some (fz (fsD n1 b1 n2 b2)), t1, t2, t3, t4, t5], ⟨_, _, _, _, _, rfl⟩, ?_, ?_⟩
  · rintro t d e hd ⟨t1, t2, t3, t4, t5, rfl⟩
    have hm := List.mem_of_getElem? hd
    have go : ∀ (f : Nat) (nm : Str) (bs : List Bk), WfG bs → idxD (fsD n1 b1 n2 b2) (.int f) = some (fnD nm bs) → ∀ d ∈ pls f 0 bs, ∃ en1, target 1 [1, 2, 3, 4] false d [some (fz (fsD n1 b1 n2 b2)), t1, t2, t3, t4, t5] = some en1 ∧ WSs (pg0 kp) (callF (pg0 kp) ft wf (k + 4)) 1 wf (match d_instruction_fault.body with
        | .cons (.fors _ _ _ b) _ => b
        | _ => .nil) en1 (fun e' => ∃ t1 t2 t3 t4 t5, e' = [some (fz (fsD n1 b1 n2 b2)), t1, t2, t3, t4, t5]) fun _ _ => False := by
      intro f nm bs w hf d hd
      obtain ⟨j, b, hb, h⟩ := pls_mem hd
      rw [Nat.zero_add] at h
      have lj := (List.getElem?_eq_some_iff.mp hb).1
      have l12 := w.len.2
      have hbk : idxD (.tup (bksD 0 bs)) (.int j) = some (bkD j b) := atI_nat (by rw [bksD_at hb, Nat.zero_add])
      rcases h with ⟨hit, rfl⟩ | rfl
      · refine ⟨_, rfl, ?_⟩
        unfold d_instruction_fault
        dsimp only
        walk_at "ev"
        refine ⟨_, _, _, rfl, rfl, hf, ?_⟩
        walk_at "ev"
        refine ⟨_, _, _, rfl, rfl, hbk, ?_⟩
        walk_at "ev"
        rw [th_len, show thN b = 1 by unfold thN; rw [hit]; rfl, show decide (((0 : Nat) : Int) = ((1 : Nat) : Int)) = false from rfl]
        walk_at "ev"
        refine clr X X.fits_shape (fits_ins (k := k) X (i := j) (by omega)) (by simp [slotsOf]) rfl rfl ?_
        walk_at "ev"
        exact ⟨_, _, _, _, _, rfl⟩
      · refine ⟨_, rfl, ?_⟩
        unfold d_instruction_fault
        dsimp only
        walk_at "ev"
        refine ⟨_, _, _, rfl, rfl, hf, ?_⟩
        walk_at "ev"
        refine ⟨_, _, _, rfl, rfl, hbk, ?_⟩
        walk_at "ev"
        rw [th_len, decide_eq_true (show ((thN b : Nat) : Int) = ((thN b : Nat) : Int) from rfl)]
        walk_at "ev"
        refine clr X X.fits_shape (fits_en (k := k) X (en := b.en) fun g hg => w.nm g (List.mem_of_mem_drop (w.gl b (List.mem_of_getElem? hb) g hg))) (by simp [slotsOf]) rfl rfl ?_
        walk_at "ev"
        exact ⟨_, _, _, _, _, rfl⟩
    rcases List.mem_append.mp hm with h | h
    · obtain ⟨en1, h1, h2⟩ := go 0 n1 b1 m.w1 rfl d h
      exact ⟨en1, h1, W.ss_mono h2 (fun _ z => z) fun _ _ z => z.elim⟩
    · obtain ⟨en1, h1, h2⟩ := go 1 n2 b2 m.w2 rfl d h
      exact ⟨en1, h1, W.ss_mono h2 (fun _ z => z) fun _ _ z => z.elim⟩
  · rintro e ⟨t1, t2, t3, t4, t5, rfl⟩
    walk_at "ev"
    exact ⟨rfl, rfl⟩
end
end Ev.G
/-! P12: names that are there. -/
namespace Ev.G
open PySem L2 Gr
theorem valD_putD (kvs : List (Key × D)) (k k' : Key) (v : D) : valD (putD kvs k v) k' = if k = k' then some v else valD kvs k' := by
  unfold putD
  by_cases h : (kvs.any fun kv => decide (kv.1 = k)) = true
  · rw [if_pos h]
    induction kvs with
    | nil => cases h
    | cons p r ih =>
      unfold valD at ih ⊢
      rw [List.map_cons, List.find?_cons, List.find?_cons]
      by_cases e : p.1 = k
      · rw [if_pos e]
        by_cases e2 : k = k'
        · subst e2
          simp [e]
        · have e3 : ¬ p.1 = k' := fun z => e2 (e ▸ z)
          simp only [decide_eq_false e3, e2, if_false]
          by_cases h2 : (r.any fun kv => decide (kv.1 = k)) = true
          · have := ih h2
            rw [if_neg e2] at this
            exact this
          · have hr : r.map (fun kv => if kv.1 = k then (kv.1, v) else kv) = r := by
              rw [List.map_congr_left (g := id) fun x hx => ?_, List.map_id]
              have : ¬ x.1 = k := fun z => h2 (List.any_eq_true.mpr ⟨x, hx, decide_eq_true z⟩)
              rw [if_neg this]
              rfl
            rw [hr]
      · rw [if_neg e]
        have h2 : (r.any fun kv => decide (kv.1 = k)) = true := by simpa [e] using h
        by_cases e3 : p.1 = k'
        · have e4 : ¬ k = k' := fun z => e (z ▸ e3)
          simp [e3, e4]
        · simp only [decide_eq_false e3]
          exact ih h2
  · rw [if_neg h]
    unfold valD
    rw [List.find?_append]
    by_cases e2 : k = k'
    · subst e2
      have : kvs.find? (fun kv => decide (kv.1 = k)) = none := by
        rw [List.find?_eq_none]
        intro x hx z
        exact h (List.any_eq_true.mpr ⟨x, hx, z⟩)
      rw [this]
      simp
    · have : ([(k, v)] : List (Key × D)).find? (fun kv => decide (kv.1 = k')) = none := by simp [e2]
      rw [this, if_neg e2, Option.or_none]
/-- a dict that is filled -/
def fillD (l : List (Key × D)) (acc : List (Key × D)) : List (Key × D) := l.foldl (fun acc kv => putD acc kv.1 kv.2) acc
theorem fill_const {f : Str → D} : ∀ (ns : List Str) (acc : List (Key × D)) (s : Str), valD (fillD (ns.map fun n => (.inr n, f n)) acc) (.inr s) = if s ∈ ns then some (f s) else valD acc (.inr s)
  | [], acc, s => by simp [fillD]
  | n :: ns, acc, s => by
    show valD (fillD (ns.map fun n => (.inr n, f n)) (putD acc (.inr n) (f n))) (.inr s) = _
    rw [fill_const ns, valD_putD]
    by_cases h : s ∈ ns
    · simp [h]
    · by_cases e : n = s
      · subst e; simp
      · have e' : ¬ s = n := fun z => e z.symm
        simp [h, e, e']
theorem slc1 {xs : List D} (h : xs ≠ []) : slcD (some 1) none (.tup xs) = some (fz (.tup (xs.drop 1))) := by
  have l : 1 ≤ xs.length := List.length_pos_iff.mpr h
  have e : HT.sIx xs.length 0 (some 1) = 1 := by rw [show (1 : Int) = ((1 : Nat) : Int) from rfl, HT.sIx_nat]; omega
  show (if HT.sIx xs.length 0 (some 1) = 0 ∧ HT.sIx xs.length xs.length none = xs.length then none else some (fz (.tup (cutL xs (some 1) none)))) = _
  rw [if_neg (fun z => by rw [e] at z; omega)]
  unfold cutL
  rw [e, HT.sIx_none, List.take_of_length_le (by rw [List.length_drop]; exact Nat.le_refl _)]
theorem bks_drop1 : ∀ (bs : List Bk), (bksD 0 bs).drop 1 = bksD 1 (bs.drop 1)
  | [] => rfl
  | _ :: _ => rfl
def cntK : D → Key × D
  | .tup (.str s :: _) => (.inr s, .int 0)
  | _ => (.inl 0, .int 0)
theorem cnt_map : ∀ (k : Nat) (bs : List Bk), (bksD k bs).map cntK = (names bs).map fun n => (.inr n, .int 0)
  | _, [] => rfl
  | k, b :: bs => by
    show cntK (bkD k b) :: (bksD (k + 1) bs).map cntK = _ :: (names bs).map _
    rw [cnt_map (k + 1) bs]
    rfl
section
variable {kp : Nat → Nat} {ft : Nat → Option Fd} {wf k : Nat} (X : Fx kp ft) {n1 n2 : Str} {b1 b2 : List Bk}
include X
theorem arms_fit {nm : Str} {bs : List Bk} (w : WfG bs) {en : En} (he : ∀ g ∈ en.goals, g ∈ (names bs).drop 1) : Ret kp ft wf (k + 3) 26 [fz (fnD nm bs), fz (enD en)] (fz (.bl true)) := by
  refine .of (W.fn [some (fz (fnD nm bs)), some (fz (enD en)), none, none, none, none] X.arms_fit rfl rfl rfl ?_ (by show 2 ≤ sizeLine; decide))
  unfold d_arms_fit
  dsimp only
  walk_at "ev"
  refine W.dcomp_map cntK ?_
  walk_at "ev"
  refine ⟨_, _, rfl, slc1 (fun z => by have := w.len.1; have := bksD_len 0 bs; rw [z] at this; simp at this; omega), ?_⟩
  rw [bks_drop1]
  walk_at "ev"
  refine ⟨by rw [bksD_len, List.length_drop]; exact Nat.le_trans (show bs.length - 1 ≤ 12 by have := w.len.2; omega) (by decide), rfl, fun d hd => ?_, ?_⟩
  · obtain ⟨j, c, _, rfl⟩ := bksD_mem hd
    refine W.dturn_ok rfl ?_
    walk_at "ev"
    exact ⟨rfl, rfl⟩
  · rw [cnt_map]
    have hv : ∀ g ∈ en.goals, valD (((names (bs.drop 1)).map fun n => ((Sum.inr n, D.int 0) : Key × D)).foldl (fun acc kv => putD acc kv.1 kv.2) []) (.inr g) = some (.int 0) := by
      intro g hg
      have := fill_const (f := fun _ => D.int 0) (names (bs.drop 1)) [] g
      unfold fillD at this
      rw [this, if_pos]
      have e : names (bs.drop 1) = (names bs).drop 1 := by unfold names; rw [List.map_drop]
      rw [e]
      exact he g hg
    generalize ((names (bs.drop 1)).map fun n => ((Sum.inr n, D.int 0) : Key × D)).foldl (fun acc kv => putD acc kv.1 kv.2) [] = cnt at hv
    walk_at "ev"
    walk_at "norm"
    refine W.comp_map (fun _ => some (.bl true)) ?_
    walk_at "ev"
    refine clr X X.arms_of (arms_en (k := k) X en) (by simp [slotsOf]) rfl rfl ?_
    walk_at "ev"
    refine ⟨Nat.le_trans (m := 2) (by unfold enArms; rw [List.length_map]; cases en <;> simp [En.goals]) (by decide), rfl, fun d hd => ?_, ?_⟩
    · obtain ⟨g, hg, rfl⟩ := List.mem_map.mp hd
      refine W.cturn_ok rfl ?_
      walk_at "ev"
      rw [hv g hg]
      walk_at "ev"
      refine ⟨_, _, _, rfl, rfl, hv g hg, ?_⟩
      walk_at "ev"
      exact ⟨rfl, rfl⟩
    · refine ⟨_, _, rfl, by rw [filterMap_true]; exact all_true _, ?_⟩
      exact ⟨_, rfl, rfl, rfl⟩
theorem names_fit_ins {f : D} (i : Nat) : Ret kp ft wf (k + 4) 27 [fz (mdD n1 b1 n2 b2), fz f, fz (insD i)] (fz (.bl true)) := by
  refine .of (W.fn [some (fz (mdD n1 b1 n2 b2)), some (fz f), some (fz (insD i)), none, none, none, none, none] X.names_fit rfl rfl rfl ?_ (by show 3 ≤ sizeLine; decide))
  unfold d_names_fit
  dsimp only
  walk_at "ev"
  first | rfl | exact ⟨rfl, rfl⟩
theorem names_fit_en {nm : Str} {bs : List Bk} (w : WfG bs) {en : En} (he : ∀ g ∈ en.goals, g ∈ (names bs).drop 1) : Ret kp ft wf (k + 4) 27 [fz (mdD n1 b1 n2 b2), fz (fnD nm bs), fz (enD en)] (fz (.bl true)) := by
  refine .of (W.fn [some (fz (mdD n1 b1 n2 b2)), some (fz (fnD nm bs)), some (fz (enD en)), none, none, none, none, none] X.names_fit rfl rfl rfl ?_ (by show 3 ≤ sizeLine; decide))
  unfold d_names_fit
  dsimp only
  have h := arms_fit (k := k) (wf := wf) X (nm := nm) w he
  cases en with
  | give =>
    walk_at "ev"
    refine clr X X.arms_fit h (by simp [slotsOf]) rfl rfl ?_
    exact ⟨_, rfl, rfl, rfl⟩
  | go g =>
    walk_at "ev"
    refine clr X X.arms_fit h (by simp [slotsOf]) rfl rfl ?_
    exact ⟨_, rfl, rfl, rfl⟩
  | iff g g' =>
    walk_at "ev"
    refine clr X X.arms_fit h (by simp [slotsOf]) rfl rfl ?_
    exact ⟨_, rfl, rfl, rfl⟩
theorem name_fault (m : WfM n1 b1 n2 b2) : Ret kp ft wf (k + 5) 28 [fz (mdD n1 b1 n2 b2)] (fz .non) := by
  have lz := pls_len 0 0 b1
  have lz2 := pls_len 1 0 b2
  have l1 := m.w1.len.2
  have l2 := m.w2.len.2
  refine .of (W.fn [some (fz (mdD n1 b1 n2 b2)), none, none, none, none] X.name_fault rfl rfl rfl ?_ (by show 1 ≤ sizeLine; decide))
  unfold d_name_fault
  dsimp only
  walk_at "ev"
  refine W.fors ?_
  walk_at "ev"
  refine clr X X.places_in (places_in (k := k + 3) X m) (by simp [slotsOf]) rfl rfl ?_
  walk_at "ev"
  refine ⟨fun _ e => ∃ t1 t2 t3 t4, e = [some (fz (mdD n1 b1 n2 b2)), t1, t2, t3, t4], ⟨_, _, _, _, rfl⟩, ?_, ?_⟩
  · rintro t d e hd ⟨t1, t2, t3, t4, rfl⟩
    have hm := List.mem_of_getElem? hd
    have go : ∀ (f : Nat) (nm : Str) (bs : List Bk), WfG bs → idxD (fsD n1 b1 n2 b2) (.int f) = some (fnD nm bs) → ∀ d ∈ pls f 0 bs, ∃ en1, target 1 [1, 2, 3, 4] false d [some (fz (mdD n1 b1 n2 b2)), t1, t2, t3, t4] = some en1 ∧ WSs (pg0 kp) (callF (pg0 kp) ft wf (k + 4)) 1 wf (match d_name_fault.body with
        | .cons (.fors _ _ _ b) _ => b
        | _ => .nil) en1 (fun e' => ∃ t1 t2 t3 t4, e' = [some (fz (mdD n1 b1 n2 b2)), t1, t2, t3, t4]) fun _ _ => False := by
      intro f nm bs w hf d hd
      obtain ⟨j, b, hb, h⟩ := pls_mem hd
      rw [Nat.zero_add] at h
      rcases h with ⟨hit, rfl⟩ | rfl
      · refine ⟨_, rfl, ?_⟩
        unfold d_name_fault
        dsimp only
        walk_at "ev"
        refine ⟨_, _, _, rfl, rfl, hf, ?_⟩
        walk_at "ev"
        refine clr X X.names_fit (names_fit_ins (k := k) X j) (by simp [slotsOf]) rfl rfl ?_
        walk_at "ev"
        exact ⟨_, _, _, _, rfl⟩
      · refine ⟨_, rfl, ?_⟩
        unfold d_name_fault
        dsimp only
        walk_at "ev"
        refine ⟨_, _, _, rfl, rfl, hf, ?_⟩
        walk_at "ev"
        refine clr X X.names_fit (names_fit_en (k := k) X w (w.gl b (List.mem_of_getElem? hb))) (by simp [slotsOf]) rfl rfl ?_
        walk_at "ev"
        exact ⟨_, _, _, _, rfl⟩
    rcases List.mem_append.mp hm with h | h
    · obtain ⟨en1, h1, h2⟩ := go 0 n1 b1 m.w1 rfl d h
      exact ⟨en1, h1, W.ss_mono h2 (fun _ z => z) fun _ _ z => z.elim⟩
    · obtain ⟨en1, h1, h2⟩ := go 1 n2 b2 m.w2 rfl d h
      exact ⟨en1, h1, W.ss_mono h2 (fun _ z => z) fun _ _ z => z.elim⟩
  · rintro e ⟨t1, t2, t3, t4, rfl⟩
    walk_at "ev"
    exact ⟨rfl, rfl⟩
end
end Ev.G
/-! P13: registers are defined once, uses are covered; which blocks cover others. -/
namespace Ev.G
open PySem L2 Gr
open Classical in
/-- the reached blocks, in order -/
noncomputable def rl (bs : List Bk) : List Str := (names bs).filter fun s => decide (Rch (succ bs) none (entry bs) s)
open Classical in
/-- the reached blocks that are not reached without a block, in order -/
noncomputable def cov (bs : List Bk) (s : Str) : List Str := (rl bs).filter fun o => decide (¬ Rch (succ bs) (some s) (entry bs) o)
theorem rl_of {bs : List Bk} {L : List Str} (h : IsR (succ bs) none (entry bs) L) : (names bs).filter (fun s => decide (s ∈ L)) = rl bs := by
  unfold rl
  refine List.filter_congr fun s _ => ?_
  exact decide_eq_decide.mpr (h.iff s)
theorem cov_of {bs : List Bk} {L : List Str} {s : Str} (h : IsR (succ bs) (some s) (entry bs) L) : (rl bs).filter (fun o => !decide (o ∈ L)) = cov bs s := by
  unfold cov
  refine List.filter_congr fun o _ => ?_
  rw [← decide_not]
  exact decide_eq_decide.mpr (not_congr (h.iff o))
theorem rl_nd {bs : List Bk} (w : WfG bs) : (rl bs).Nodup := w.nd.filter _
theorem rl_sub {bs : List Bk} {s : Str} (h : s ∈ rl bs) : s ∈ names bs := (List.mem_filter.mp h).1
theorem rl_mem {bs : List Bk} (w : WfG bs) {s : Str} : s ∈ rl bs ↔ Rch (succ bs) none (entry bs) s := by
  simp only [rl, List.mem_filter, decide_eq_true_eq]
  exact ⟨fun h => h.2, fun h => ⟨w.rch w.entry h, h⟩⟩
theorem rl_len {bs : List Bk} (w : WfG bs) : (rl bs).length ≤ 12 := by
  unfold rl
  refine Nat.le_trans (List.length_filter_le ..) ?_
  rw [show (names bs).length = bs.length from List.length_map ..]
  exact w.len.2
theorem putD_new {kvs : List (Key × D)} {k : Key} {v : D} (h : ∀ p ∈ kvs, p.1 ≠ k) : putD kvs k v = kvs ++ [(k, v)] := by
  unfold putD
  rw [if_neg]
  intro z
  obtain ⟨p, hp, e⟩ := List.any_eq_true.mp z
  exact h p hp (of_decide_eq_true e)
def notL (L : List Str) : D → Option D
  | .str s => if (!decide (s ∈ L)) then some (.str s) else none
  | _ => none
theorem filter_notL (L : List Str) : ∀ ns : List Str, (ns.map D.str).filterMap (notL L) = (ns.filter fun s => !decide (s ∈ L)).map D.str
  | [] => rfl
  | s :: ns => by
    rw [List.map_cons, List.filterMap_cons, List.filter_cons]
    rw [filter_notL L ns, show notL L (.str s) = if (!decide (s ∈ L)) then some (D.str s) else none from rfl]
    by_cases e : s ∈ L
    · rw [decide_eq_true e]; rfl
    · rw [decide_eq_false e]; rfl
noncomputable def covK (bs : List Bk) : List (Key × D) := (rl bs).map fun s => (.inr s, .lst ((cov bs s).map D.str))
section
variable {kp : Nat → Nat} {ft : Nat → Option Fd} {wf k : Nat} (X : Fx kp ft) {n1 n2 : Str} {b1 b2 : List Bk}
include X
theorem reached_in' {nm : Str} {bs : List Bk} (w : WfG bs) (hwf : 1000 ≤ wf) : Ret kp ft wf (k + 5) 16 [fz (fnD nm bs)] (ow (.lst ((rl bs).map D.str))) := by
  obtain ⟨L, hL, h⟩ := reached_in (wf := wf) (k := k) X (nm := nm) w hwf
  rw [rl_of hL] at h
  exact h
theorem law_there' {bs : List Bk} (w : WfG bs) (hwf : 1000 ≤ wf) : Ret kp ft wf (k + 3) 47 [fz (.tup (bksD 0 bs))] (ow (.lst ((rl bs).map D.str))) := by
  obtain ⟨L, hL, h⟩ := law_there (wf := wf) (k := k) X w hwf
  rw [rl_of hL] at h
  exact h
theorem covered_by {nm : Str} {bs : List Bk} (w : WfG bs) (hwf : 1000 ≤ wf) : Ret kp ft wf (k + 6) 17 [fz (fnD nm bs)] (ow (.dct (covK bs))) := by
  refine .of (W.fn [some (fz (fnD nm bs)), none, none, none, none, none] X.covered_by rfl rfl rfl ?_ (by show 1 ≤ sizeLine; decide))
  unfold d_covered_by
  dsimp only
  walk_at "ev"
  refine clr X X.reached_in (reached_in' (k := k) X w hwf) (by simp [slotsOf]) rfl rfl ?_
  walk_at "ev"
  refine W.fors ?_
  walk_at "ev"
  refine ⟨fun j e => ∃ t3 t4 t5, e = [some (fz (fnD nm bs)), some (fz (.lst ((rl bs).map D.str))), some (ow (.dct ((covK bs).take j))), t3, t4, t5], ⟨_, _, _, rfl⟩, ?_, ?_⟩
  · rintro j d e hd ⟨t3, t4, t5, rfl⟩
    obtain ⟨s, hs, rfl⟩ : ∃ s, (rl bs)[j]? = some s ∧ d = .str s := by
      rw [List.getElem?_map] at hd
      cases hj : (rl bs)[j]? with
      | none => rw [hj] at hd; cases hd
      | some s => rw [hj] at hd; cases hd; exact ⟨s, rfl, rfl⟩
    obtain ⟨L, hL, hc⟩ := reached_without (wf := wf) (k := k + 1) X (nm := nm) w (by omega) (some s)
    have lr := rl_len w
    have lc : (covK bs).length = (rl bs).length := List.length_map ..
    refine ⟨_, rfl, ?_⟩
    walk_at "ev"
    refine clr X X.reached_without hc (by simp [slotsOf]) rfl rfl ?_
    walk_at "ev"
    refine W.comp_map (notL L) ?_
    walk_at "ev"
    refine ⟨by rw [List.length_map]; exact Nat.le_trans lr (by decide), rfl, fun d hd => ?_, ?_⟩
    · obtain ⟨o, _, rfl⟩ := List.mem_map.mp hd
      refine W.cturn_ok rfl ?_
      walk_at "ev"
      refine ⟨_, _, _, rfl, rfl, notin_strs _ _, ?_⟩
      walk_at "ev"
      refine ⟨fun e => ?_, fun e => ?_⟩
      · walk_at "ev"
        refine ⟨?_, rfl⟩
        show some (D.str o) = (if (!decide (o ∈ L)) then some (D.str o) else none)
        rw [e]
        rfl
      · refine ⟨?_, rfl⟩
        show none = (if (!decide (o ∈ L)) then some (D.str o) else none)
        rw [e]
        rfl
    · rw [filter_notL, cov_of hL]
      walk_at "ev"
      refine ⟨by rw [List.length_take]; exact Nat.lt_of_le_of_lt (show min j (covK bs).length ≤ 12 by omega) (by decide), ?_⟩
      have hk : (covK bs)[j]? = some (.inr s, .lst ((cov bs s).map D.str)) := by
        unfold covK
        rw [List.getElem?_map, hs]
        rfl
      have et : (covK bs).take (j + 1) = (covK bs).take j ++ [(.inr s, .lst ((cov bs s).map D.str))] := by
        rw [List.take_add_one, hk]
        rfl
      rw [putD_new (fun p hp e => ?_), ← et]
      · walk_at "ev"
        exact ⟨_, _, _, rfl⟩
      · obtain ⟨i, hi, rfl⟩ := List.mem_iff_getElem.mp hp
        rw [List.length_take] at hi
        rw [List.getElem_take] at e
        unfold covK at e
        rw [List.getElem_map] at e
        have e2 := Sum.inr.inj e
        obtain ⟨lt, ej⟩ := List.getElem?_eq_some_iff.mp hs
        have := (List.getElem_inj (rl_nd w)).mp (e2.trans ej.symm)
        omega
  · rintro e ⟨t3, t4, t5, rfl⟩
    rw [List.length_map, ← show (covK bs).length = (rl bs).length from List.length_map .., List.take_length]
    walk_at "ev"
    exact ⟨rfl, rfl⟩
theorem is_covered_x {blk idx : D} {cv : Rv} : Ret kp ft wf (k + 1) 31 [fz (.tup [.str "x", .non, .int (-1)]), fz blk, fz idx, cv] (fz (.bl true)) := by
  refine .of (W.fn [some (fz (.tup [.str "x", .non, .int (-1)])), some (fz blk), some (fz idx), some cv, none, none, none] X.is_covered rfl rfl rfl ?_ (by show 4 ≤ sizeLine; decide))
  unfold d_is_covered
  dsimp only
  walk_at "ev"
  first | rfl | exact ⟨rfl, rfl⟩
end
theorem cut_take {α : Type} {xs : List α} {j : Nat} (h : j ≤ xs.length) : cutL xs none (some (j : Int)) = xs.take j := by
  unfold cutL
  rw [HT.sIx_none, HT.sIx_nat, Nat.min_eq_left h, Nat.sub_zero]
  rfl
theorem nin_take {α : Type} {xs : List α} {j : Nat} {s : α} (nd : xs.Nodup) (hs : xs[j]? = some s) : s ∉ xs.take j := by
  intro hm
  obtain ⟨i, hi, e⟩ := List.mem_iff_getElem.mp hm
  rw [List.length_take] at hi
  rw [List.getElem_take] at e
  obtain ⟨lt, ej⟩ := List.getElem?_eq_some_iff.mp hs
  have := (List.getElem_inj nd).mp (e.trans ej.symm)
  omega
def xDef : D := .tup [.str "x", .non, .int (-1)]
def dfB (j : Nat) (b : Bk) : List D := if b.it then [.tup [.str (qreg j), .str b.nm, .int 0]] else []
def dfsD : Nat → List Bk → List D
  | _, [] => []
  | j, b :: r => dfB j b ++ dfsD (j + 1) r
theorem dfsD_app : ∀ (j : Nat) (l : List Bk) (b : Bk), dfsD j (l ++ [b]) = dfsD j l ++ dfB (j + l.length) b
  | j, [], b => by simp [dfsD]
  | j, c :: l, b => by
    show dfB j c ++ dfsD (j + 1) (l ++ [b]) = dfB j c ++ dfsD (j + 1) l ++ dfB (j + (l.length + 1)) b
    rw [dfsD_app (j + 1) l b, List.append_assoc, show j + 1 + l.length = j + (l.length + 1) by omega]
theorem dfsD_len : ∀ (j : Nat) (l : List Bk), (dfsD j l).length ≤ l.length
  | _, [] => Nat.le_refl _
  | j, b :: l => by
    have h1 := dfsD_len (j + 1) l
    have h2 : (dfB j b).length ≤ 1 := by unfold dfB; split <;> simp
    show (dfB j b ++ dfsD (j + 1) l).length ≤ _
    rw [List.length_append, List.length_cons]
    omega
def regs : Nat → List Bk → List Str
  | _, [] => []
  | j, b :: r => (if b.it then [qreg j] else []) ++ regs (j + 1) r
theorem regs_mem {s : Str} : ∀ {j : Nat} {bs : List Bk}, s ∈ regs j bs → ∃ i, j ≤ i ∧ s = qreg i
  | _, [], h => by cases h
  | j, b :: bs, h => by
    rcases List.mem_append.mp (show s ∈ (if b.it then [qreg j] else []) ++ regs (j + 1) bs from h) with h | h
    · split at h
      · exact ⟨j, Nat.le_refl _, List.mem_singleton.mp h⟩
      · cases h
    · obtain ⟨i, h1, h2⟩ := regs_mem h
      exact ⟨i, by omega, h2⟩
theorem qreg_inj {i j : Nat} (h : qreg i = qreg j) : i = j := by
  have := congrArg tl h
  rw [qreg_tl, qreg_tl] at this
  simp at this
  exact this
theorem regs_nd : ∀ (j : Nat) (bs : List Bk), (regs j bs).Nodup
  | _, [] => List.nodup_nil
  | j, b :: bs => by
    show ((if b.it then [qreg j] else []) ++ regs (j + 1) bs).Nodup
    have ih := regs_nd (j + 1) bs
    split
    · refine List.nodup_cons.mpr ⟨fun h => ?_, ih⟩
      obtain ⟨i, h1, h2⟩ := regs_mem h
      have := qreg_inj h2
      omega
    · exact ih
theorem x_notin (j : Nat) (bs : List Bk) : Str.ofString "x" ∉ regs j bs := by
  intro h
  obtain ⟨i, _, h2⟩ := regs_mem h
  have := congrArg (fun s => (tl s).length) h2
  rw [show (tl (qreg i)).length = 2 by rw [qreg_tl]; rfl] at this
  rw [show tl (Str.ofString "x") = [120] by decide +kernel] at this
  simp at this
def dnames (bs : List Bk) : List Str := Str.ofString "x" :: regs 0 bs
theorem dnames_nd (bs : List Bk) : (dnames bs).Nodup := List.nodup_cons.mpr ⟨x_notin 0 bs, regs_nd 0 bs⟩
theorem heads_dfs : ∀ {j : Nat} {bs : List Bk}, (dfsD j bs).filterMap headD' = (regs j bs).map D.str
  | _, [] => rfl
  | j, b :: bs => by
    show (dfB j b ++ dfsD (j + 1) bs).filterMap headD' = ((if b.it then [qreg j] else []) ++ regs (j + 1) bs).map D.str
    rw [List.filterMap_append, List.map_append, heads_dfs (j := j + 1) (bs := bs)]
    congr 1
    unfold dfB
    split <;> rfl
theorem dfsD_mem {d : D} : ∀ {j : Nat} {bs : List Bk}, d ∈ dfsD j bs → ∃ (i : Nat) (b : Bk), j ≤ i ∧ d = .tup [.str (qreg i), .str b.nm, .int 0]
  | _, [], h => by cases h
  | j, b :: bs, h => by
    rcases List.mem_append.mp (show d ∈ dfB j b ++ dfsD (j + 1) bs from h) with h | h
    · unfold dfB at h
      split at h
      · exact ⟨j, b, Nat.le_refl _, List.mem_singleton.mp h⟩
      · cases h
    · obtain ⟨i, c, h1, h2⟩ := dfsD_mem h
      exact ⟨i, c, by omega, h2⟩
section
variable {kp : Nat → Nat} {ft : Nat → Option Fd} {wf k : Nat} (X : Fx kp ft) {n1 n2 : Str} {b1 b2 : List Bk}
include X
theorem definitions_of {nm : Str} {bs : List Bk} (w : WfG bs) : Ret kp ft wf (k + 4) 29 [fz (fnD nm bs)] (ow (.lst (xDef :: dfsD 0 bs))) := by
  refine .of (W.fn [some (fz (fnD nm bs)), none, none, none, none, none] X.definitions_of rfl rfl rfl ?_ (by show 1 ≤ sizeLine; decide))
  unfold d_definitions_of
  dsimp only
  refine W.ss_cons ?_
  walk_at "evy"
  refine W.comp ?_
  walk_at "norm"
  walk_at "ev"
  refine ⟨rfl, ?_⟩
  refine W.cl_cons (W.cturn_ok rfl ?_)
  walk_at "ev"
  walk_at "norm"
  refine W.cl_nil ?_
  walk_at "norm"
  walk_at "ev"
  refine W.fors ?_
  walk_at "ev"
  refine ⟨fun j e => ∃ t2 t3 t4 t5, e = [some (fz (fnD nm bs)), some (ow (.lst (xDef :: dfsD 0 (bs.take j)))), t2, t3, t4, t5], ⟨_, _, _, _, rfl⟩, ?_, ?_⟩
  · rintro j d e hd ⟨t2, t3, t4, t5, rfl⟩
    obtain ⟨b, hb, rfl⟩ := bksD_get hd
    rw [Nat.zero_add]
    have lj := (List.getElem?_eq_some_iff.mp hb).1
    have ep : dfsD 0 (bs.take (j + 1)) = dfsD 0 (bs.take j) ++ dfB j b := by
      rw [List.take_add_one, hb]
      show dfsD 0 (bs.take j ++ [b]) = _
      rw [dfsD_app, List.length_take, Nat.min_eq_left (Nat.le_of_lt lj), Nat.zero_add]
    have lp := dfsD_len 0 (bs.take j)
    rw [List.length_take] at lp
    have := w.len.2
    dsimp only
    rw [ep, ← List.cons_append]
    generalize hA : xDef :: dfsD 0 (bs.take j) = A
    have lA : A.length ≤ 13 := by rw [← hA, List.length_cons]; omega
    refine ⟨_, rfl, ?_⟩
    obtain ⟨bn, it, en⟩ := b
    cases it with
    | true =>
      walk_at "evu"
      refine ⟨_, _, _, rfl, mu_ext (by rw [List.length_nil]; exact Nat.le_trans (show A.length + 0 ≤ 13 by omega) (by decide)), ?_⟩
      rw [List.append_nil]
      dsimp only [List.set]
      walk_at "evu"
      refine clr X X.defined_by (defined_ins (k := k) X j) (by simp [slotsOf]) rfl rfl ?_
      walk_at "evu"
      refine clr X X.defined_by (defined_ins (k := k) X j) (by simp [slotsOf]) rfl rfl ?_
      walk_at "evu"
      refine ⟨_, _, _, rfl, mu_app (Nat.lt_of_le_of_lt lA (by decide)), ?_⟩
      walk_at "evu"
      exact ⟨_, _, _, _, rfl⟩
    | false =>
      walk_at "evu"
      refine ⟨_, _, _, rfl, mu_ext (by rw [List.length_nil]; exact Nat.le_trans (show A.length + 0 ≤ 13 by omega) (by decide)), ?_⟩
      rw [List.append_nil]
      dsimp only [List.set]
      walk_at "evu"
      refine ⟨t2, some (fz (bkD j ⟨bn, false, en⟩)), t4, t5, ?_⟩
      rw [show dfB j ⟨bn, false, en⟩ = [] from rfl, List.append_nil]
  · rintro e ⟨t2, t3, t4, t5, rfl⟩
    rw [bksD_len, List.take_length]
    walk_at "ev"
    exact ⟨rfl, rfl⟩
theorem twice_fault (m : WfM n1 b1 n2 b2) : Ret kp ft wf (k + 5) 30 [fz (fsD n1 b1 n2 b2)] (fz .non) := by
  have one : ∀ (nm : Str) (bs : List Bk) (w : WfG bs) (i : Int) (s3 s4 s5 s6 s7 : Slot) (N : Ev → Prop) (R : Flow' → Ev → Prop), (∀ t1 t2 t3 t4 t5 t6 t7, N [some (fz (fsD n1 b1 n2 b2)), t1, t2, t3, t4, t5, t6, t7]) →
      WSs (pg0 kp) (callF (pg0 kp) ft wf (k + 4)) 1 wf (match d_twice_fault.body with
        | .cons (.fors _ _ _ b) _ => b
        | _ => .nil) [some (fz (fsD n1 b1 n2 b2)), some (fz (.int i)), some (fz (fnD nm bs)), s3, s4, s5, s6, s7] N R := by
    intro nm bs w i s3 s4 s5 s6 s7 N R hN
    unfold d_twice_fault
    dsimp only
    walk_at "ev"
    refine W.comp_map headD' ?_
    walk_at "ev"
    refine clr X X.definitions_of (definitions_of (k := k) X w) (by simp [slotsOf]) rfl rfl ?_
    walk_at "ev"
    have ld := dfsD_len 0 bs
    have l12 := w.len.2
    refine ⟨by rw [List.length_cons]; exact Nat.le_trans (show (dfsD 0 bs).length + 1 ≤ 13 by omega) (by decide), rfl, fun d hd => ?_, ?_⟩
    · rcases List.mem_cons.mp hd with rfl | hd
      · refine W.cturn_ok rfl ?_
        walk_at "ev"
        exact ⟨rfl, rfl⟩
      · obtain ⟨j, c, _, rfl⟩ := dfsD_mem hd
        refine W.cturn_ok rfl ?_
        walk_at "ev"
        exact ⟨rfl, rfl⟩
    · have eh : (xDef :: dfsD 0 bs).filterMap headD' = (dnames bs).map D.str := by
        rw [List.filterMap_cons, heads_dfs]
        rfl
      rw [eh]
      refine ⟨_, rfl, ?_⟩
      walk_at "norm"
      walk_at "ev"
      refine W.fors ?_
      walk_at "ev"
      refine ⟨fun _ e => ∃ t4 t5 t6 t7, e = [some (fz (fsD n1 b1 n2 b2)), some (fz (.int i)), some (fz (fnD nm bs)), some (fz (.lst ((dnames bs).map D.str))), t4, t5, t6, t7], ⟨_, _, _, _, rfl⟩, ?_, ?_⟩
      · rintro j d e hd ⟨t4, t5, t6, t7, rfl⟩
        obtain ⟨x, hx, rfl⟩ := enum_get hd
        obtain ⟨s, hs, rfl⟩ : ∃ s, (dnames bs)[j]? = some s ∧ x = .str s := by
          rw [List.getElem?_map] at hx
          cases hj : (dnames bs)[j]? with
          | none => rw [hj] at hx; cases hx
          | some s => rw [hj] at hx; cases hx; exact ⟨s, rfl, rfl⟩
        rw [Nat.zero_add]
        obtain ⟨lj, ej⟩ := List.getElem?_eq_some_iff.mp hs
        refine ⟨_, rfl, ?_⟩
        walk_at "ev"
        rw [cut_take (by rw [List.length_map]; omega), ← List.map_take]
        refine ⟨_, _, _, rfl, rfl, in_strs _ _, ?_⟩
        rw [decide_eq_false (nin_take (dnames_nd bs) hs)]
        walk_at "ev"
        exact ⟨_, _, _, _, rfl⟩
      · rintro e ⟨t4, t5, t6, t7, rfl⟩
        walk_at "ev"
        exact hN _ _ _ _ _ _ _
  refine .of (W.fn [some (fz (fsD n1 b1 n2 b2)), none, none, none, none, none, none, none] X.twice_fault rfl rfl rfl ?_ (by show 1 ≤ sizeLine; decide))
  unfold d_twice_fault
  dsimp only
  refine W.ss_cons (W.fors_l ?_)
  walk_at "ev"
  refine W.fl_cons rfl ?_
  refine one n1 b1 m.w1 _ _ _ _ _ _ _ _ (fun t1 t2 t3 t4 t5 t6 t7 => ?_)
  refine W.fl_cons rfl ?_
  refine one n2 b2 m.w2 _ _ _ _ _ _ _ _ (fun t1 t2 t3 t4 t5 t6 t7 => ?_)
  refine W.fl_nil ?_
  walk_at "ev"
  exact ⟨rfl, rfl⟩
end
end Ev.G
/-! P14: a drawn module is a module. -/
namespace Ev.G
open PySem L2 Gr
def rowK : D → Key × D
  | .tup (.str s :: r) => (.inr s, .tup (.str s :: r))
  | _ => (.inl 0, .non)
/-- a dict of rows by their first names -/
def defK (bs : List Bk) : List (Key × D) := ((xDef :: dfsD 0 bs).map rowK).foldl (fun acc kv => putD acc kv.1 kv.2) []
theorem fold_other {s : Str} : ∀ (l : List (Key × D)) (acc : List (Key × D)), (∀ p ∈ l, p.1 ≠ .inr s) → valD (l.foldl (fun acc kv => putD acc kv.1 kv.2) acc) (.inr s) = valD acc (.inr s)
  | [], acc, _ => rfl
  | p :: l, acc, h => by
    rw [List.foldl_cons, fold_other l _ fun q hq => h q (List.mem_cons_of_mem _ hq), valD_putD, if_neg (h p (List.mem_cons_self ..))]
theorem defK_x (bs : List Bk) : valD (defK bs) (.inr "x") = some xDef := by
  unfold defK
  rw [List.map_cons, List.foldl_cons, fold_other]
  · rfl
  · intro p hp e
    obtain ⟨d, hd, rfl⟩ := List.mem_map.mp hp
    obtain ⟨i, c, _, rfl⟩ := dfsD_mem hd
    have e2 : qreg i = Str.ofString "x" := Sum.inr.inj e
    have := congrArg (fun s => (tl s).length) e2
    rw [show (tl (qreg i)).length = 2 by rw [qreg_tl]; rfl] at this
    rw [show tl (Str.ofString "x") = [120] by decide +kernel] at this
    simp at this
section
variable {kp : Nat → Nat} {ft : Nat → Option Fd} {wf k : Nat} (X : Fx kp ft) {n1 n2 : Str} {b1 b2 : List Bk}
include X
theorem use_fault (m : WfM n1 b1 n2 b2) (hwf : 1000 ≤ wf) : Ret kp ft wf (k + 7) 32 [fz (fsD n1 b1 n2 b2)] (fz .non) := by
  have one : ∀ (nm : Str) (bs : List Bk) (w : WfG bs) (i : Int) (s3 s4 s5 s6 s7 s8 s9 s10 s11 s12 : Slot) (N : Ev → Prop) (R : Flow' → Ev → Prop), (∀ t1 t2 t3 t4 t5 t6 t7 t8 t9 t10 t11 t12, N [some (fz (fsD n1 b1 n2 b2)), t1, t2, t3, t4, t5, t6, t7, t8, t9, t10, t11, t12]) →
      WSs (pg0 kp) (callF (pg0 kp) ft wf (k + 6)) 1 wf (match d_use_fault.body with
        | .cons (.fors _ _ _ b) _ => b
        | _ => .nil) [some (fz (fsD n1 b1 n2 b2)), some (fz (.int i)), some (fz (fnD nm bs)), s3, s4, s5, s6, s7, s8, s9, s10, s11, s12] N R := by
    intro nm bs w i s3 s4 s5 s6 s7 s8 s9 s10 s11 s12 N R hN
    unfold d_use_fault
    dsimp only
    walk_at "ev"
    refine W.dcomp_map rowK ?_
    walk_at "ev"
    refine clr X X.definitions_of (definitions_of (k := k + 2) X w) (by simp [slotsOf]) rfl rfl ?_
    walk_at "ev"
    have ld := dfsD_len 0 bs
    have l12 := w.len.2
    refine ⟨by rw [List.length_cons]; exact Nat.le_trans (show (dfsD 0 bs).length + 1 ≤ 13 by omega) (by decide), rfl, fun d hd => ?_, ?_⟩
    · rcases List.mem_cons.mp hd with rfl | hd
      · refine W.dturn_ok rfl ?_
        walk_at "ev"
        exact ⟨rfl, rfl⟩
      · obtain ⟨j, c, _, rfl⟩ := dfsD_mem hd
        refine W.dturn_ok rfl ?_
        walk_at "ev"
        exact ⟨rfl, rfl⟩
    · rw [show ((xDef :: dfsD 0 bs).map rowK).foldl (fun acc kv => putD acc kv.1 kv.2) [] = defK bs from rfl]
      refine ⟨_, rfl, ?_⟩
      walk_at "norm"
      walk_at "ev"
      refine clr X X.covered_by (covered_by (k := k) X w hwf) (by simp [slotsOf]) rfl rfl ?_
      walk_at "ev"
      refine clr X X.reached_in (reached_in' (k := k + 1) X w hwf) (by simp [slotsOf]) rfl rfl ?_
      walk_at "ev"
      refine W.fors ?_
      walk_at "ev"
      refine ⟨fun _ e => ∃ (t4 t7 t8 t9 t10 t11 t12 : Slot), e = [some (fz (fsD n1 b1 n2 b2)), some (fz (.int i)), some (fz (fnD nm bs)), some (ow (.dct (defK bs))), t4, some (ow (.dct (covK bs))), some (ow (.lst ((rl bs).map D.str))), t7, t8, t9, t10, t11, t12], ⟨_, _, _, _, _, _, _, rfl⟩, ?_, ?_⟩
      · rintro j d e hd ⟨t4, t7, t8, t9, t10, t11, t12, rfl⟩
        obtain ⟨x, hx, rfl⟩ := enum_get hd
        obtain ⟨b, hb, rfl⟩ := bksD_get hx
        rw [Nat.zero_add]
        have inner : ∀ (ins : D) (us : List D) (q : Int), (us = [] ∨ us = [.str "x"]) → Ret kp ft wf (k + 6) 10 [fz ins] (ow (.lst us)) → ∀ (t11 t12 : Slot) (N : Ev → Prop) (R : Flow' → Ev → Prop), (∀ t11 t12, N [some (fz (fsD n1 b1 n2 b2)), some (fz (.int i)), some (fz (fnD nm bs)), some (ow (.dct (defK bs))), t4, some (ow (.dct (covK bs))), some (ow (.lst ((rl bs).map D.str))), some (fz (.int j)), some (fz (bkD j b)), some (fz (.int q)), some (fz ins), t11, t12]) →
            WSs (pg0 kp) (callF (pg0 kp) ft wf (k + 6)) 1 wf (match d_use_fault.body with
              | .cons (.fors _ _ _ (.cons _ (.cons _ (.cons (.fors _ _ _ (.cons (.fors _ _ _ b) _)) _)))) _ => b
              | _ => .nil) [some (fz (fsD n1 b1 n2 b2)), some (fz (.int i)), some (fz (fnD nm bs)), some (ow (.dct (defK bs))), t4, some (ow (.dct (covK bs))), some (ow (.lst ((rl bs).map D.str))), some (fz (.int j)), some (fz (bkD j b)), some (fz (.int q)), some (fz ins), t11, t12] N R := by
          intro ins us q hus hr t11 t12 N R hN
          unfold d_use_fault
          dsimp only
          refine W.ss_cons (W.fors_l ?_)
          walk_at "ev"
          refine clr X X.used_by hr (by simp [slotsOf]) rfl rfl ?_
          walk_at "ev"
          rcases hus with rfl | rfl
          · refine W.fl_nil ?_
            walk_at "ev"
            exact hN _ _
          · refine W.fl_cons rfl ?_
            walk_at "ev"
            rw [defK_x]
            walk_at "ev"
            refine ⟨_, _, _, rfl, rfl, defK_x bs, ?_⟩
            walk_at "ev"
            refine clr X X.is_covered (is_covered_x (k := k + 5) X) (by simp [slotsOf]) rfl rfl ?_
            walk_at "ev"
            refine ⟨_, _, _, rfl, rfl, in_strs _ _, ?_⟩
            walk_at "ev"
            refine ⟨fun _ => ?_, fun _ => ?_⟩
            · walk_at "ev"
              refine W.fl_nil ?_
              walk_at "ev"
              exact hN _ _
            · walk_at "ev"
              refine W.fl_nil ?_
              walk_at "ev"
              exact hN _ _
        refine ⟨_, rfl, ?_⟩
        obtain ⟨bn, it, en⟩ := b
        refine W.ss_cons (W.fors_l ?_)
        have hue : enUses en = [] ∨ enUses en = [.str "x"] := by cases en <;> simp [enUses]
        cases it with
        | true =>
          walk_at "ev"
          refine ⟨(by decide : 2 ≤ sizeLine), _, rfl, ?_⟩
          refine W.fl_cons rfl ?_
          refine inner _ [] _ (.inl rfl) (used_ins (k := k + 4) X j) _ _ _ _ (fun t11 t12 => ?_)
          refine W.fl_cons rfl ?_
          refine inner _ _ _ hue (used_en (k := k + 4) X en) _ _ _ _ (fun t11 t12 => ?_)
          refine W.fl_nil ?_
          walk_at "ev"
          exact ⟨_, _, _, _, _, _, _, rfl⟩
        | false =>
          walk_at "ev"
          refine ⟨(by decide : 1 ≤ sizeLine), _, rfl, ?_⟩
          refine W.fl_cons rfl ?_
          refine inner _ _ _ hue (used_en (k := k + 4) X en) _ _ _ _ (fun t11 t12 => ?_)
          refine W.fl_nil ?_
          walk_at "ev"
          exact ⟨_, _, _, _, _, _, _, rfl⟩
      · rintro e ⟨t4, t7, t8, t9, t10, t11, t12, rfl⟩
        walk_at "ev"
        exact hN _ _ _ _ _ _ _ _ _ _ _ _
  refine .of (W.fn [some (fz (fsD n1 b1 n2 b2)), none, none, none, none, none, none, none, none, none, none, none, none] X.use_fault rfl rfl rfl ?_ (by show 1 ≤ sizeLine; decide))
  unfold d_use_fault
  dsimp only
  refine W.ss_cons (W.fors_l ?_)
  walk_at "ev"
  refine W.fl_cons rfl ?_
  refine one n1 b1 m.w1 _ _ _ _ _ _ _ _ _ _ _ _ _ (fun t1 t2 t3 t4 t5 t6 t7 t8 t9 t10 t11 t12 => ?_)
  refine W.fl_cons rfl ?_
  refine one n2 b2 m.w2 _ _ _ _ _ _ _ _ _ _ _ _ _ (fun t1 t2 t3 t4 t5 t6 t7 t8 t9 t10 t11 t12 => ?_)
  refine W.fl_nil ?_
  walk_at "ev"
  exact ⟨rfl, rfl⟩
theorem form_error (m : WfM n1 b1 n2 b2) : Ret kp ft wf (k + 6) 34 [fz (mdD n1 b1 n2 b2)] (fz .non) := by
  refine .of (W.fn [some (fz (mdD n1 b1 n2 b2)), none, none, none] X.form_error rfl rfl rfl ?_ (by show 1 ≤ sizeLine; decide))
  unfold d_form_error
  dsimp only
  walk_at "ev"
  refine clr X X.has_form (has_form (k := k + 3) X) (by simp [slotsOf]) rfl rfl ?_
  walk_at "ev"
  refine clr X X.row_fault (row_kinds (k := k + 1) X) (by simp [slotsOf]) rfl rfl ?_
  walk_at "ev"
  refine clr X X.row_fault (row_functions (k := k + 1) X m) (by simp [slotsOf]) rfl rfl ?_
  walk_at "ev"
  refine clr X X.block_fault (block_fault (k := k + 1) X m) (by simp [slotsOf]) rfl rfl ?_
  walk_at "ev"
  refine clr X X.instruction_fault (instruction_fault (k := k) X m) (by simp [slotsOf]) rfl rfl ?_
  exact ⟨_, rfl, rfl, rfl⟩
theorem module_error (m : WfM n1 b1 n2 b2) (hwf : 1000 ≤ wf) : Ret kp ft wf (k + 8) 35 [fz (mdD n1 b1 n2 b2)] (fz .non) := by
  obtain ⟨h1, h2, h3, h4, h5⟩ := two_nm m.ns
  refine .of (W.fn [some (fz (mdD n1 b1 n2 b2)), none, none, none] X.module_error rfl rfl rfl ?_ (by show 1 ≤ sizeLine; decide))
  unfold d_module_error
  dsimp only
  walk_at "ev"
  refine clr X X.form_error (form_error (k := k + 1) X m) (by simp [slotsOf]) rfl rfl ?_
  walk_at "evu"
  have hm : ([D.str n1, D.str n2].any fun z => eqF z (D.str (Str.ofString "main"))) = true := by
    rw [show [D.str n1, D.str n2] = [n1, n2].map D.str from rfl, any_strs]
    refine decide_eq_true ?_
    rcases h5 with h | h <;> simp [h]
  rw [hm]
  walk_at "evu"
  refine clr X X.places_in (places_in (k := k + 6) X m) (by simp [slotsOf]) rfl rfl ?_
  have l1 := pls_len 0 0 b1
  have l2 := pls_len 1 0 b2
  have := m.w1.len.2
  have := m.w2.len.2
  walk_at "ev"
  rw [decide_eq_false (show ¬ (120 : Int) < ((pls 0 0 b1 ++ pls 1 0 b2).length : Int) by rw [List.length_append]; omega)]
  walk_at "ev"
  refine clr X X.name_fault (name_fault (k := k + 2) X m) (by simp [slotsOf]) rfl rfl ?_
  walk_at "ev"
  refine clr X X.twice_fault (twice_fault (k := k + 2) X m) (by simp [slotsOf]) rfl rfl ?_
  walk_at "ev"
  refine clr X X.use_fault (use_fault (k := k) X m hwf) (by simp [slotsOf]) rfl rfl ?_
  exact ⟨_, rfl, rfl, rfl⟩
theorem require_module (m : WfM n1 b1 n2 b2) (hwf : 1000 ≤ wf) : Ret kp ft wf (k + 9) 36 [fz (mdD n1 b1 n2 b2)] (fz .non) := by
  refine .of (W.fn [some (fz (mdD n1 b1 n2 b2)), none] X.require_module rfl rfl rfl ?_ (by show 1 ≤ sizeLine; decide))
  unfold d_require_module
  dsimp only
  walk_at "ev"
  refine clr X X.module_error (module_error (k := k) X m hwf) (by simp [slotsOf]) rfl rfl ?_
  walk_at "ev"
  exact ⟨rfl, rfl⟩
/-- f is one of the two functions -/
def isFn (n1 : Str) (b1 : List Bk) (n2 : Str) (b2 : List Bk) (f : Str) (bs : List Bk) : Prop := (f = n1 ∧ bs = b1) ∨ (f = n2 ∧ bs = b2)
theorem function_of (m : WfM n1 b1 n2 b2) {f : Str} {bs : List Bk} (hf : isFn n1 b1 n2 b2 f bs) : Ret kp ft wf (k + 1) 37 [fz (mdD n1 b1 n2 b2), fz (.str f)] (fz (fnD f bs)) := by
  obtain ⟨h1, h2, h3, h4, h5⟩ := two_nm m.ns
  refine .of (W.fn [some (fz (mdD n1 b1 n2 b2)), some (fz (.str f)), none, none] X.function_of rfl rfl rfl ?_ (by show 2 ≤ sizeLine; decide))
  unfold d_function_of
  dsimp only
  rcases hf with ⟨rfl, rfl⟩ | ⟨rfl, rfl⟩
  · walk_at "evu"
    rw [decide_eq_true (show f = f from rfl)]
    walk_at "evu"
    rw [decide_eq_false (show ¬ n2 = f from fun e => h4 e.symm)]
    walk_at "evu"
    first | rfl | exact ⟨rfl, rfl⟩
  · walk_at "evu"
    rw [decide_eq_false (show ¬ n1 = f from h4)]
    walk_at "evu"
    rw [decide_eq_true (show f = f from rfl)]
    walk_at "evu"
    first | rfl | exact ⟨rfl, rfl⟩
theorem parts_for0 (m : WfM n1 b1 n2 b2) (hwf : 1000 ≤ wf) {f : Str} {bs : List Bk} (hf : isFn n1 b1 n2 b2 f bs) : ∃ x, callF (pg0 kp) ft wf (k + 10) 39 [fz (mdD n1 b1 n2 b2), fz (.str f)] = .ok (fz (fnD f bs)) [some (fz (mdD n1 b1 n2 b2)), some (fz (.str f)), x] := by
  suffices hs : ∃ r outs, callF (pg0 kp) ft wf (k + 10) 39 [fz (mdD n1 b1 n2 b2), fz (.str f)] = .ok r outs ∧ r = fz (fnD f bs) ∧ ∃ x, outs = [some (fz (mdD n1 b1 n2 b2)), some (fz (.str f)), x] by
    obtain ⟨_, _, hc, rfl, x, rfl⟩ := hs
    exact ⟨x, hc⟩
  refine W.fn [some (fz (mdD n1 b1 n2 b2)), some (fz (.str f)), some (fz (.tup [])), none, none] X.parts_for rfl rfl rfl ?_ (by show 2 ≤ sizeLine; decide)
  unfold d_parts_for
  dsimp only
  walk_at "evu"
  refine clr X X.require_module (require_module (k := k) X m hwf) (by simp [slotsOf]) rfl rfl ?_
  walk_at "evu"
  refine clr X X.function_of (function_of (k := k + 8) X m hf) (by simp [slotsOf]) rfl rfl ?_
  walk_at "evu"
  exact ⟨_, rfl⟩
theorem wfg_of (m : WfM n1 b1 n2 b2) {f : Str} {bs : List Bk} (hf : isFn n1 b1 n2 b2 f bs) : WfG bs := by
  rcases hf with ⟨_, rfl⟩ | ⟨_, rfl⟩
  · exact m.w1
  · exact m.w2
theorem reached (hR : ft 40 = some d_reached) (m : WfM n1 b1 n2 b2) (hwf : 1000 ≤ wf) {f : Str} {bs : List Bk} (hf : isFn n1 b1 n2 b2 f bs) : Ret kp ft wf (k + 11) 40 [fz (mdD n1 b1 n2 b2), fz (.str f)] (ow (.lst ((rl bs).map D.str))) := by
  obtain ⟨x, hc⟩ := parts_for0 (k := k) X m hwf hf
  refine .of (W.fn [some (fz (mdD n1 b1 n2 b2)), some (fz (.str f))] hR rfl rfl rfl ?_ (by show 2 ≤ sizeLine; decide))
  unfold d_reached
  dsimp only
  walk_at "ev"
  refine cl X X.parts_for hc [some (fz (mdD n1 b1 n2 b2)), some (fz (.str f))] (by simp [slotsOf]) rfl rfl ?_
  walk_at "ev"
  refine clr X X.reached_in (reached_in' (k := k + 5) X (wfg_of X m hf) hwf) (by simp [slotsOf]) rfl rfl ?_
  exact ⟨_, rfl, rfl, rfl⟩
end
end Ev.G
/-! P15: shown lists of names; law k19. -/
namespace Ev.G
open PySem L2 Gr
theorem py_strs : ∀ L : List Str, pys (L.map D.str) = L.map PyData.str
  | [] => by rw [List.map_nil, List.map_nil, pys]
  | s :: L => by rw [List.map_cons, List.map_cons, pys, py, py_strs L]
theorem strs_showable : ∀ L : List Str, PyData.showableAll (L.map PyData.str) = true
  | [] => by simp [PyData.showableAll]
  | s :: L => by
    rw [List.map_cons, PyData.showableAll, strs_showable L]
    simp [PyData.showable]
theorem strs_hasDict : ∀ L : List Str, PyData.hasDictAll (L.map PyData.str) = false
  | [] => by simp [PyData.hasDictAll]
  | s :: L => by
    rw [List.map_cons, PyData.hasDictAll, strs_hasDict L]
    simp [PyData.hasDict]
theorem strs_depth : ∀ L : List Str, PyData.depthAll (L.map PyData.str) = 0
  | [] => by simp [PyData.depthAll]
  | s :: L => by
    rw [List.map_cons, PyData.depthAll, strs_depth L]
    simp [PyData.depth]
theorem textFrom_le {m : Nat} : ∀ (ts : List Str) (k : Nat) (acc : Str), (∀ t ∈ ts, t.length ≤ m) → (textFrom k acc ts).length ≤ acc.length + ts.length * (m + 2)
  | [], k, acc, _ => by show acc.length ≤ _; omega
  | t :: r, k, acc, h => by
    have h1 := h t (List.mem_cons_self ..)
    have ih := textFrom_le r (k + 1) (acc ++ (if k > 0 then ", " else "" : String) ++ t) fun u hu => h u (List.mem_cons_of_mem _ hu)
    have e : (acc ++ (if k > 0 then ", " else "" : String) ++ t).length ≤ acc.length + 2 + m := by
      rw [Str.length_append, Str.length_append]
      have : (Str.ofString (if k > 0 then ", " else "" : String)).length ≤ 2 := by
        split <;> decide +kernel
      omega
    rw [List.length_cons, Nat.add_mul]
    show (textFrom (k + 1) (acc ++ (if k > 0 then ", " else "" : String) ++ t) r).length ≤ _
    omega
theorem shownAll_strs : ∀ L : List Str, PyData.shownAll (L.map PyData.str) = L.map reprText
  | [] => by simp [PyData.shownAll]
  | s :: L => by
    rw [List.map_cons, List.map_cons, PyData.shownAll, shownAll_strs L, PyData.shown]
theorem repr_strs {L : List Str} (hn : ∀ s ∈ L, IsNm s) (hl : L.length ≤ 12) : biD .repr (.lst (L.map D.str)) = some (fz (.str (listText (L.map reprText)))) := by
  have e : py (.lst (L.map D.str)) = .list (L.map PyData.str) := by rw [py, py_strs]
  have es : (PyData.list (L.map PyData.str)).shown = listText (L.map reprText) := by rw [PyData.shown, shownAll_strs]
  show (if dispD (.lst (L.map D.str)) = true ∧ (py (.lst (L.map D.str))).showable = true ∧ (py (.lst (L.map D.str))).hasDict = false ∧ (py (.lst (L.map D.str))).shown.length ≤ sizeLine ∧ (py (.lst (L.map D.str))).depth ≤ 64 then some (fz (.str (py (.lst (L.map D.str))).shown)) else none) = _
  rw [e, es, if_pos]
  refine ⟨rfl, by rw [PyData.showable, strs_showable], by rw [PyData.hasDict, strs_hasDict], ?_, by rw [PyData.depth, strs_depth]; decide⟩
  unfold listText
  have h1 : ∀ t ∈ L.map reprText, t.length ≤ 82 := by
    intro t ht
    obtain ⟨s, hs, rfl⟩ := List.mem_map.mp ht
    have n := hn s hs
    have := StrLaws.reprText_len s fun c hc => by
      have := n.low c hc
      have : (16 : Nat) ^ 8 = 4294967296 := by decide
      omega
    have l := len_tl s
    have := n.len.2
    omega
  have h2 := textFrom_le (L.map reprText) 0 (Str.ofString "[") h1
  rw [Str.length_append]
  rw [List.length_map, show (Str.ofString "[").length = 1 by decide +kernel] at h2
  have : (Str.ofString "]").length = 1 := by decide +kernel
  have : 4096 ≤ sizeLine := by decide
  omega
end Ev.G
/-! P16: dicts by names, the blocks over others. -/
namespace Ev.G
open PySem L2 Gr
/-- a dict of a list of names -/
def kvs (L : List Str) (f : Str → D) : List (Key × D) := L.map fun s => (.inr s, f s)
theorem kvs_len (L : List Str) (f : Str → D) : (kvs L f).length = L.length := List.length_map ..
theorem kvs_put {L : List Str} {f : Str → D} (nd : L.Nodup) {j : Nat} {s : Str} (hs : L[j]? = some s) : putD ((kvs L f).take j) (.inr s) (f s) = (kvs L f).take (j + 1) := by
  have hk : (kvs L f)[j]? = some (.inr s, f s) := by
    unfold kvs
    rw [List.getElem?_map, hs]
    rfl
  rw [putD_new (fun p hp e => ?_), List.take_add_one, hk]
  · rfl
  · obtain ⟨i, hi, rfl⟩ := List.mem_iff_getElem.mp hp
    rw [List.length_take] at hi
    rw [List.getElem_take] at e
    unfold kvs at e
    rw [List.getElem_map] at e
    have e2 := Sum.inr.inj e
    obtain ⟨lt, ej⟩ := List.getElem?_eq_some_iff.mp hs
    have := (List.getElem_inj nd).mp (e2.trans ej.symm)
    omega
theorem kvs_val {f : Str → D} {s : Str} : ∀ {L : List Str}, s ∈ L → valD (kvs L f) (.inr s) = some (f s)
  | [], h => nomatch h
  | t :: L, h => by
    unfold kvs valD
    rw [List.map_cons, List.find?_cons]
    by_cases e : t = s
    · subst e
      simp
    · rw [show decide ((Sum.inr t : Key) = .inr s) = false from decide_eq_false fun z => e (Sum.inr.inj z)]
      have := kvs_val (f := f) (L := L) ((List.mem_cons.mp h).resolve_left fun z => e z.symm)
      exact this
theorem kvs_keys (L : List Str) (f : Str → D) : (kvs L f).map (fun kv => kD kv.1) = L.map D.str := by
  unfold kvs
  rw [List.map_map]
  rfl
/-- names that pass -/
def fl (p : Str → Bool) : D → Option D
  | .str s => if p s then some (.str s) else none
  | _ => none
theorem filter_fl (p : Str → Bool) : ∀ ns : List Str, (ns.map D.str).filterMap (fl p) = (ns.filter p).map D.str
  | [] => rfl
  | s :: ns => by
    rw [List.map_cons, List.filterMap_cons, List.filter_cons]
    rw [filter_fl p ns, show fl p (.str s) = if p s then some (D.str s) else none from rfl]
    cases p s <;> rfl
theorem covK_kvs (bs : List Bk) : covK bs = kvs (rl bs) fun s => .lst ((cov bs s).map D.str) := rfl
theorem strs_get {L : List Str} {j : Nat} {d : D} (hd : (L.map D.str)[j]? = some d) : ∃ s, L[j]? = some s ∧ d = .str s := by
  rw [List.getElem?_map] at hd
  cases hj : L[j]? with
  | none => rw [hj] at hd; cases hd
  | some s => rw [hj] at hd; cases hd; exact ⟨s, rfl, rfl⟩
theorem cov_sub {bs : List Bk} {s o : Str} (h : o ∈ cov bs s) : o ∈ rl bs := (List.mem_filter.mp h).1
theorem cov_len {bs : List Bk} (w : WfG bs) (s : Str) : (cov bs s).length ≤ 12 := Nat.le_trans (List.length_filter_le ..) (rl_len w)
section
variable {kp : Nat → Nat} {ft : Nat → Option Fd} {wf k : Nat} (X : Fx kp ft) {n1 n2 : Str} {b1 b2 : List Bk}
include X
theorem law_over (hO : ft 53 = some d_law_over) {bs : List Bk} (w : WfG bs) (hwf : 1000 ≤ wf) : Ret kp ft wf (k + 4) 53 [fz (.tup (bksD 0 bs))] (ow (.dct (covK bs))) := by
  refine .of (W.fn [some (fz (.tup (bksD 0 bs))), none, none, none, none, none] hO rfl rfl rfl ?_ (by show 1 ≤ sizeLine; decide))
  unfold d_law_over
  dsimp only
  walk_at "ev"
  refine clr X X.law_there (law_there' (k := k) X w hwf) (by simp [slotsOf]) rfl rfl ?_
  walk_at "ev"
  refine W.fors ?_
  walk_at "ev"
  refine ⟨fun j e => ∃ t3 t4 t5, e = [some (fz (.tup (bksD 0 bs))), some (fz (.lst ((rl bs).map D.str))), some (ow (.dct ((covK bs).take j))), t3, t4, t5], ⟨_, _, _, rfl⟩, ?_, ?_⟩
  · rintro j d e hd ⟨t3, t4, t5, rfl⟩
    obtain ⟨s, hs, rfl⟩ := strs_get hd
    obtain ⟨L, hL, hc⟩ := law_reached (wf := wf) (k := k + 1) X w hwf (some s) w.entry
    have lr := rl_len w
    have lc : (covK bs).length = (rl bs).length := List.length_map ..
    refine ⟨_, rfl, ?_⟩
    walk_at "norm"
    have ei : ∃ x, idxD (.tup (bksD 0 bs)) (.int 0) = some x ∧ idxD x (.int 0) = some (.str (entry bs)) := by
      cases bs with
      | nil => have := w.len.1; simp at this
      | cons b bs' => exact ⟨_, idx_hdT _ _, rfl⟩
    obtain ⟨x0, e1, e2⟩ := ei
    walk_at "ev"
    refine ⟨_, _, _, rfl, rfl, e1, ?_⟩
    walk_at "ev"
    refine ⟨_, _, _, rfl, rfl, e2, ?_⟩
    walk_at "ev"
    refine clr X X.law_reached hc (by simp [slotsOf]) rfl rfl ?_
    walk_at "ev"
    refine W.comp_map (notL L) ?_
    walk_at "ev"
    refine ⟨by rw [List.length_map]; exact Nat.le_trans lr (by decide), rfl, fun d hd => ?_, ?_⟩
    · obtain ⟨o, _, rfl⟩ := List.mem_map.mp hd
      refine W.cturn_ok rfl ?_
      walk_at "ev"
      refine ⟨_, _, _, rfl, rfl, notin_strs _ _, ?_⟩
      walk_at "ev"
      refine ⟨fun e => ?_, fun e => ?_⟩
      · walk_at "ev"
        refine ⟨?_, rfl⟩
        show some (D.str o) = (if (!decide (o ∈ L)) then some (D.str o) else none)
        rw [e]
        rfl
      · refine ⟨?_, rfl⟩
        show none = (if (!decide (o ∈ L)) then some (D.str o) else none)
        rw [e]
        rfl
    · rw [filter_notL, cov_of hL]
      walk_at "ev"
      refine ⟨by rw [List.length_take]; exact Nat.lt_of_le_of_lt (show min j (covK bs).length ≤ 12 by omega) (by decide), ?_⟩
      rw [covK_kvs, kvs_put (f := fun s => .lst ((cov bs s).map D.str)) (rl_nd w) hs]
      walk_at "ev"
      exact ⟨_, _, _, rfl⟩
  · rintro e ⟨t3, t4, t5, rfl⟩
    rw [List.length_map, ← show (covK bs).length = (rl bs).length from List.length_map .., List.take_length]
    walk_at "ev"
    exact ⟨rfl, rfl⟩
theorem require_block {nm : Str} {bs : List Bk} (w : WfG bs) (hwf : 1000 ≤ wf) {s : Str} (hs : s ∈ rl bs) : Ret kp ft wf (k + 6) 38 [fz (fnD nm bs), fz (.str s)] (fz .non) := by
  refine .of (W.fn [some (fz (fnD nm bs)), some (fz (.str s))] X.require_block rfl rfl rfl ?_ (by show 2 ≤ sizeLine; decide))
  unfold d_require_block
  dsimp only
  walk_at "ev"
  refine clr X X.reached_in (reached_in' (k := k) X w hwf) (by simp [slotsOf]) rfl rfl ?_
  walk_at "ev"
  refine ⟨_, _, _, rfl, rfl, notin_strs _ _, ?_⟩
  rw [decide_eq_true hs]
  walk_at "ev"
  first | rfl | exact ⟨rfl, rfl⟩
theorem parts_for1 (m : WfM n1 b1 n2 b2) (hwf : 1000 ≤ wf) {f : Str} {bs : List Bk} (hf : isFn n1 b1 n2 b2 f bs) {s : Str} (hs : s ∈ rl bs) : ∃ x, callF (pg0 kp) ft wf (k + 10) 39 [fz (mdD n1 b1 n2 b2), fz (.str f), fz (.str s)] = .ok (fz (fnD f bs)) [some (fz (mdD n1 b1 n2 b2)), some (fz (.str f)), x] := by
  suffices h : ∃ r outs, callF (pg0 kp) ft wf (k + 10) 39 [fz (mdD n1 b1 n2 b2), fz (.str f), fz (.str s)] = .ok r outs ∧ r = fz (fnD f bs) ∧ ∃ x, outs = [some (fz (mdD n1 b1 n2 b2)), some (fz (.str f)), x] by
    obtain ⟨_, _, hc, rfl, x, rfl⟩ := h
    exact ⟨x, hc⟩
  refine W.fn [some (fz (mdD n1 b1 n2 b2)), some (fz (.str f)), some (fz (.tup [.str s])), none, none] X.parts_for rfl rfl rfl ?_ (by show 3 ≤ sizeLine; decide)
  unfold d_parts_for
  dsimp only
  walk_at "evu"
  refine clr X X.require_module (require_module (k := k) X m hwf) (by simp [slotsOf]) rfl rfl ?_
  walk_at "evu"
  refine clr X X.function_of (function_of (k := k + 8) X m hf) (by simp [slotsOf]) rfl rfl ?_
  walk_at "evu"
  refine clr X X.require_block (require_block (k := k + 3) X (wfg_of X m hf) hwf hs) (by simp [slotsOf]) rfl rfl ?_
  walk_at "evu"
  exact ⟨_, rfl⟩
theorem parts_for2 (m : WfM n1 b1 n2 b2) (hwf : 1000 ≤ wf) {f : Str} {bs : List Bk} (hf : isFn n1 b1 n2 b2 f bs) {s o : Str} (hs : s ∈ rl bs) (ho : o ∈ rl bs) : ∃ x, callF (pg0 kp) ft wf (k + 10) 39 [fz (mdD n1 b1 n2 b2), fz (.str f), fz (.str s), fz (.str o)] = .ok (fz (fnD f bs)) [some (fz (mdD n1 b1 n2 b2)), some (fz (.str f)), x] := by
  suffices h : ∃ r outs, callF (pg0 kp) ft wf (k + 10) 39 [fz (mdD n1 b1 n2 b2), fz (.str f), fz (.str s), fz (.str o)] = .ok r outs ∧ r = fz (fnD f bs) ∧ ∃ x, outs = [some (fz (mdD n1 b1 n2 b2)), some (fz (.str f)), x] by
    obtain ⟨_, _, hc, rfl, x, rfl⟩ := h
    exact ⟨x, hc⟩
  refine W.fn [some (fz (mdD n1 b1 n2 b2)), some (fz (.str f)), some (fz (.tup [.str s, .str o])), none, none] X.parts_for rfl rfl rfl ?_ (by show 4 ≤ sizeLine; decide)
  unfold d_parts_for
  dsimp only
  walk_at "evu"
  refine clr X X.require_module (require_module (k := k) X m hwf) (by simp [slotsOf]) rfl rfl ?_
  walk_at "evu"
  refine clr X X.function_of (function_of (k := k + 8) X m hf) (by simp [slotsOf]) rfl rfl ?_
  walk_at "evu"
  refine clr X X.require_block (require_block (k := k + 3) X (wfg_of X m hf) hwf hs) (by simp [slotsOf]) rfl rfl ?_
  walk_at "evu"
  refine clr X X.require_block (require_block (k := k + 3) X (wfg_of X m hf) hwf ho) (by simp [slotsOf]) rfl rfl ?_
  walk_at "evu"
  exact ⟨_, rfl⟩
end
end Ev.G
/-! P17: the nearest block over a block (law k21). -/
namespace Ev.G
open PySem L2 Gr
noncomputable def aboveL (bs : List Bk) (s : Str) : List Str := (rl bs).filter fun o => !decide (o = s) && decide (s ∈ cov bs o)
noncomputable def nearL (bs : List Bk) (s : Str) : List Str := (aboveL bs s).filter fun o => (aboveL bs s).all fun one => decide (o ∈ cov bs one)
noncomputable def idomD (bs : List Bk) (s : Str) : D := match nearL bs s with
  | [] => .non
  | x :: _ => .str x
theorem idx_cov {bs : List Bk} {o : Str} (h : o ∈ rl bs) : idxD (.dct (covK bs)) (.str o) = some (.lst ((cov bs o).map D.str)) := kvs_val (f := fun s => .lst ((cov bs s).map D.str)) h
theorem above_sub {bs : List Bk} {s o : Str} (h : o ∈ aboveL bs s) : o ∈ rl bs := (List.mem_filter.mp h).1
theorem above_len {bs : List Bk} (w : WfG bs) (s : Str) : (aboveL bs s).length ≤ 12 := Nat.le_trans (List.length_filter_le ..) (rl_len w)
theorem idx_hdL (d : D) (ds : List D) : idxD (.lst (d :: ds)) (.int 0) = some d := idx_hdT d ds
theorem nil_eq (xs : List D) : cmpD .eq (.lst xs) (.lst []) = some xs.isEmpty := by cases xs <;> rfl
theorem none_not (p : Str → Bool) : ∀ L : List Str, ((L.filter fun x => !p x).map D.str).isEmpty = L.all p
  | [] => rfl
  | x :: L => by
    rw [List.filter_cons, List.all_cons]
    cases p x
    · rfl
    · exact none_not p L
def boolOf (p : Str → Bool) : D → Option D
  | .str s => some (.bl (p s))
  | _ => none
theorem map_boolOf (p : Str → Bool) : ∀ L : List Str, (L.map D.str).filterMap (boolOf p) = L.map fun s => .bl (p s)
  | [] => rfl
  | s :: L => by rw [List.map_cons, List.filterMap_cons, map_boolOf p L]; rfl
theorem bls_map (p : Str → Bool) : ∀ L : List Str, blsD (L.map fun s => D.bl (p s)) = some (L.map p)
  | [] => rfl
  | s :: L => by rw [List.map_cons, blsD, bls_map p L]; rfl
theorem all_bools (p : Str → Bool) (L : List Str) : biD .all (.lst (L.map fun s => D.bl (p s))) = some (fz (.bl (L.all p))) := by
  show (blsD (L.map fun s => D.bl (p s))).map (fun bs => fz (.bl (bs.all id))) = _
  rw [bls_map]
  show some (fz (.bl ((L.map p).all id))) = _
  rw [List.all_map]
  rfl
section
variable {kp : Nat → Nat} {ft : Nat → Option Fd} {wf k : Nat} (X : Fx kp ft) {n1 n2 : Str} {b1 b2 : List Bk}
include X
theorem dominators_in (hO : ft 51 = some d_dominators_in) {nm : Str} {bs : List Bk} (w : WfG bs) (hwf : 1000 ≤ wf) : Ret kp ft wf (k + 7) 51 [fz (fnD nm bs)] (ow (.dct (kvs (rl bs) (idomD bs)))) := by
  refine .of (W.fn [some (fz (fnD nm bs)), none, none, none, none, none, none, none] hO rfl rfl rfl ?_ (by show 1 ≤ sizeLine; decide))
  unfold d_dominators_in
  dsimp only
  walk_at "ev"
  refine clr X X.covered_by (covered_by (k := k) X w hwf) (by simp [slotsOf]) rfl rfl ?_
  walk_at "ev"
  refine W.fors ?_
  walk_at "ev"
  rw [covK_kvs, kvs_keys, ← covK_kvs]
  have lr := rl_len w
  have lk := kvs_len (rl bs) (idomD bs)
  refine ⟨fun j e => ∃ t3 t4 t5 t6 t7, e = [some (fz (fnD nm bs)), some (fz (.dct (covK bs))), some (ow (.dct ((kvs (rl bs) (idomD bs)).take j))), t3, t4, t5, t6, t7], ⟨_, _, _, _, _, rfl⟩, ?_, ?_⟩
  · rintro j d e hd ⟨t3, t4, t5, t6, t7, rfl⟩
    obtain ⟨s, hs, rfl⟩ := strs_get hd
    refine ⟨_, rfl, ?_⟩
    walk_at "norm"
    walk_at "ev"
    refine W.comp_map (fl fun o => !decide (o = s) && decide (s ∈ cov bs o)) ?_
    walk_at "ev"
    rw [covK_kvs, kvs_keys, ← covK_kvs]
    refine ⟨by rw [List.length_map]; exact Nat.le_trans lr (by decide), rfl, fun d hd => ?_, ?_⟩
    · obtain ⟨o, ho, rfl⟩ := List.mem_map.mp hd
      refine W.cturn_ok rfl ?_
      walk_at "ev"
      refine ⟨fun e => ?_, fun e => ?_⟩
      · walk_at "ev"
        refine ⟨_, _, _, rfl, rfl, idx_cov ho, ?_⟩
        walk_at "ev"
        refine ⟨_, _, _, rfl, rfl, in_strs _ _, ?_⟩
        walk_at "ev"
        refine ⟨fun e2 => ?_, fun e2 => ?_⟩
        · walk_at "ev"
          refine ⟨?_, rfl⟩
          show some (D.str o) = (if (!decide (o = s) && decide (s ∈ cov bs o)) then some (D.str o) else none)
          rw [e, e2]
          rfl
        · refine ⟨?_, rfl⟩
          show none = (if (!decide (o = s) && decide (s ∈ cov bs o)) then some (D.str o) else none)
          rw [e, e2]
          rfl
      · refine ⟨nofun, fun _ => ⟨?_, rfl⟩⟩
        show none = (if (!decide (o = s) && decide (s ∈ cov bs o)) then some (D.str o) else none)
        rw [e]
        rfl
    · rw [filter_fl]
      walk_at "ev"
      rw [show (rl bs).filter (fun o => !decide (o = s) && decide (s ∈ cov bs o)) = aboveL bs s from rfl]
      walk_at "norm"
      have la := above_len w s
      refine W.comp_map (fl fun o => (aboveL bs s).all fun one => decide (o ∈ cov bs one)) ?_
      walk_at "ev"
      refine ⟨by rw [List.length_map]; exact Nat.le_trans la (by decide), rfl, fun d hd => ?_, ?_⟩
      · obtain ⟨o, ho, rfl⟩ := List.mem_map.mp hd
        refine W.cturn_ok rfl ?_
        walk_at "norm"
        walk_at "ev"
        refine W.comp_map (boolOf fun one => decide (o ∈ cov bs one)) ?_
        walk_at "ev"
        refine ⟨by rw [List.length_map]; exact Nat.le_trans la (by decide), rfl, fun d hd => ?_, ?_⟩
        · obtain ⟨q, hq, rfl⟩ := List.mem_map.mp hd
          refine W.cturn_ok rfl ?_
          walk_at "norm"
          walk_at "ev"
          refine ⟨_, _, _, rfl, rfl, idx_cov (above_sub hq), ?_⟩
          walk_at "ev"
          refine ⟨_, _, _, rfl, rfl, in_strs _ _, ?_⟩
          walk_at "ev"
          exact ⟨rfl, rfl⟩
        · rw [map_boolOf]
          walk_at "norm"
          walk_at "ev"
          refine ⟨_, _, rfl, all_bools _ _, ?_⟩
          walk_at "ev"
          refine ⟨fun e2 => ?_, fun e2 => ?_⟩
          · walk_at "ev"
            refine ⟨?_, rfl⟩
            show some (D.str o) = (if ((aboveL bs s).all fun one => decide (o ∈ cov bs one)) then some (D.str o) else none)
            rw [e2]
            rfl
          · refine ⟨?_, rfl⟩
            show none = (if ((aboveL bs s).all fun one => decide (o ∈ cov bs one)) then some (D.str o) else none)
            rw [e2]
            rfl
      · rw [filter_fl, show (aboveL bs s).filter (fun o => (aboveL bs s).all fun one => decide (o ∈ cov bs one)) = nearL bs s from rfl]
        have put := kvs_put (f := idomD bs) (rl_nd w) hs
        have ls : ((kvs (rl bs) (idomD bs)).take j).length < sizeLine := by
          rw [List.length_take]
          exact Nat.lt_of_le_of_lt (show min j (kvs (rl bs) (idomD bs)).length ≤ 12 by omega) (by decide)
        cases hn : nearL bs s with
        | nil =>
          rw [show idomD bs s = .non by unfold idomD; rw [hn]] at put
          walk_at "norm"
          walk_at "ev"
          refine ⟨ls, ?_⟩
          rw [put]
          walk_at "ev"
          exact ⟨_, _, _, _, _, rfl⟩
        | cons x r =>
          rw [show idomD bs s = .str x by unfold idomD; rw [hn]] at put
          walk_at "norm"
          walk_at "ev"
          refine ⟨_, _, _, rfl, rfl, idx_hdL (.str x) (r.map D.str), ?_⟩
          walk_at "ev"
          refine ⟨ls, ?_⟩
          rw [put]
          walk_at "ev"
          exact ⟨_, _, _, _, _, rfl⟩
  · rintro e ⟨t3, t4, t5, t6, t7, rfl⟩
    rw [List.length_map, ← lk, List.take_length]
    walk_at "ev"
    exact ⟨rfl, rfl⟩
theorem law_above (hO : ft 54 = some d_law_above) {bs : List Bk} (w : WfG bs) {s : Str} : Ret kp ft wf (k + 1) 54 [fz (.dct (covK bs)), fz (.str s)] (fz (idomD bs s)) := by
  have lr := rl_len w
  have la := above_len w s
  refine .of (W.fn [some (fz (.dct (covK bs))), some (fz (.str s)), none, none, none, none] hO rfl rfl rfl ?_ (by show 2 ≤ sizeLine; decide))
  unfold d_law_above
  dsimp only
  skip
  all_goals
    walk_at "ev"
    refine W.comp_map (fl fun o => !decide (o = s) && decide (s ∈ cov bs o)) ?_
    walk_at "ev"
    rw [covK_kvs, kvs_keys, ← covK_kvs]
    refine ⟨by rw [List.length_map]; exact Nat.le_trans lr (by decide), rfl, fun d hd => ?_, ?_⟩
    · obtain ⟨o, ho, rfl⟩ := List.mem_map.mp hd
      refine W.cturn_ok rfl ?_
      walk_at "norm"
      walk_at "ev"
      refine ⟨fun e => ?_, fun e => ?_⟩
      · walk_at "ev"
        refine ⟨_, _, _, rfl, rfl, idx_cov ho, ?_⟩
        walk_at "ev"
        refine ⟨_, _, _, rfl, rfl, in_strs _ _, ?_⟩
        walk_at "ev"
        refine ⟨fun e2 => ?_, fun e2 => ?_⟩
        · walk_at "ev"
          refine ⟨?_, rfl⟩
          show some (D.str o) = (if (!decide (o = s) && decide (s ∈ cov bs o)) then some (D.str o) else none)
          rw [e, e2]
          rfl
        · refine ⟨?_, rfl⟩
          show none = (if (!decide (o = s) && decide (s ∈ cov bs o)) then some (D.str o) else none)
          rw [e, e2]
          rfl
      · refine ⟨nofun, fun _ => ⟨?_, rfl⟩⟩
        show none = (if (!decide (o = s) && decide (s ∈ cov bs o)) then some (D.str o) else none)
        rw [e]
        rfl
    · rw [filter_fl]
      walk_at "ev"
      rw [show (rl bs).filter (fun o => !decide (o = s) && decide (s ∈ cov bs o)) = aboveL bs s from rfl]
      walk_at "norm"
      refine W.comp_map (fl fun o => (aboveL bs s).all fun one => decide (o ∈ cov bs one)) ?_
      walk_at "ev"
      refine ⟨by rw [List.length_map]; exact Nat.le_trans la (by decide), rfl, fun d hd => ?_, ?_⟩
      · obtain ⟨o, ho, rfl⟩ := List.mem_map.mp hd
        refine W.cturn_ok rfl ?_
        walk_at "norm"
        walk_at "ev"
        refine W.comp_map (fl fun one => !decide (o ∈ cov bs one)) ?_
        walk_at "ev"
        refine ⟨by rw [List.length_map]; exact Nat.le_trans la (by decide), rfl, fun d hd => ?_, ?_⟩
        · obtain ⟨q, hq, rfl⟩ := List.mem_map.mp hd
          refine W.cturn_ok rfl ?_
          walk_at "norm"
          walk_at "ev"
          refine ⟨_, _, _, rfl, rfl, idx_cov (above_sub hq), ?_⟩
          walk_at "ev"
          refine ⟨_, _, _, rfl, rfl, notin_strs _ _, ?_⟩
          walk_at "ev"
          refine ⟨fun e2 => ?_, fun e2 => ?_⟩
          · walk_at "ev"
            refine ⟨?_, rfl⟩
            show some (D.str q) = (if (!decide (o ∈ cov bs q)) then some (D.str q) else none)
            rw [e2]
            rfl
          · refine ⟨?_, rfl⟩
            show none = (if (!decide (o ∈ cov bs q)) then some (D.str q) else none)
            rw [e2]
            rfl
        · rw [filter_fl]
          walk_at "norm"
          walk_at "ev"
          rw [none_not]
          refine ⟨fun e2 => ?_, fun e2 => ?_⟩
          · walk_at "ev"
            refine ⟨?_, rfl⟩
            show some (D.str o) = (if ((aboveL bs s).all fun one => decide (o ∈ cov bs one)) then some (D.str o) else none)
            rw [e2]
            rfl
          · refine ⟨?_, rfl⟩
            show none = (if ((aboveL bs s).all fun one => decide (o ∈ cov bs one)) then some (D.str o) else none)
            rw [e2]
            rfl
      · rw [filter_fl, show (aboveL bs s).filter (fun o => (aboveL bs s).all fun one => decide (o ∈ cov bs one)) = nearL bs s from rfl]
        cases hn : nearL bs s with
        | nil =>
          rw [show idomD bs s = .non by unfold idomD; rw [hn]]
          walk_at "norm"
          walk_at "ev"
          exact ⟨rfl, rfl⟩
        | cons x r =>
          rw [show idomD bs s = .str x by unfold idomD; rw [hn]]
          walk_at "norm"
          walk_at "ev"
          refine ⟨_, _, _, rfl, rfl, idx_hdL (.str x) (r.map D.str), ?_⟩
          walk_at "ev"
          exact ⟨rfl, rfl⟩
theorem immediate_dominator (hO : ft 52 = some d_immediate_dominator) (hD : ft 51 = some d_dominators_in) (m : WfM n1 b1 n2 b2) (hwf : 1000 ≤ wf) {f : Str} {bs : List Bk} (hf : isFn n1 b1 n2 b2 f bs) {s : Str} (hs : s ∈ rl bs) : Ret kp ft wf (k + 11) 52 [fz (mdD n1 b1 n2 b2), fz (.str f), fz (.str s)] (fz (idomD bs s)) := by
  obtain ⟨x, hc⟩ := parts_for1 (k := k) X m hwf hf hs
  refine .of (W.fn [some (fz (mdD n1 b1 n2 b2)), some (fz (.str f)), some (fz (.str s))] hO rfl rfl rfl ?_ (by show 3 ≤ sizeLine; decide))
  unfold d_immediate_dominator
  dsimp only
  walk_at "ev"
  refine cl X X.parts_for hc [some (fz (mdD n1 b1 n2 b2)), some (fz (.str f)), some (fz (.str s))] (by simp [slotsOf]) rfl rfl ?_
  walk_at "ev"
  refine clr X hD (dominators_in (k := k + 3) X hD (wfg_of X m hf) hwf) (by simp [slotsOf]) rfl rfl ?_
  walk_at "ev"
  refine ⟨_, _, _, rfl, rfl, kvs_val (f := idomD bs) hs, ?_⟩
  walk_at "ev"
  exact ⟨rfl, rfl⟩
end
end Ev.G
/-! P18: the search with the blocks before. -/
namespace Ev.G
open PySem L2 Gr
abbrev Pr : Type := List (Str × Option Str)
def fs (P : Pr) : List Str := P.map (·.1)
def prK (P : Pr) : List (Key × D) := P.map fun q => (.inr q.1, hidD q.2)
def addP1 (h : Option Str) (x : Str) (P : Pr) (g : Str) : Pr := if some g ≠ h ∧ g ∉ fs P then P ++ [(g, some x)] else P
def addP (h : Option Str) (x : Str) (gs : List Str) (P : Pr) : Pr := gs.foldl (addP1 h x) P
theorem addP1_fs {h : Option Str} {x g : Str} {P : Pr} : fs (addP1 h x P g) = add1 h (fs P) g := by
  unfold addP1 add1
  by_cases c : some g ≠ h ∧ g ∉ fs P
  · rw [if_pos c, if_pos c]; simp [fs]
  · rw [if_neg c, if_neg c]
theorem addP_fs {h : Option Str} {x : Str} : ∀ {gs : List Str} {P : Pr}, fs (addP h x gs P) = addAll h gs (fs P)
  | [], P => rfl
  | g :: gs, P => by
    show fs (addP h x gs (addP1 h x P g)) = addAll h gs (add1 h (fs P) g)
    rw [addP_fs, addP1_fs]
theorem addP_take {h : Option Str} {x : Str} {gs : List Str} {P : Pr} {j : Nat} {g : Str} (hg : gs[j]? = some g) : addP h x (gs.take (j + 1)) P = addP1 h x (addP h x (gs.take j) P) g := by
  unfold addP
  rw [List.take_add_one, hg, List.foldl_append]
  rfl
/-- each block but the first has the block before it behind it in the list -/
def WayOk (S : Str → List Str) (a : Str) (P : Pr) : Prop := ∀ (i : Nat) (q : Str × Option Str), P[i]? = some q → q = (a, none) ∨ ∃ (j : Nat) (p : Str), j < i ∧ (fs P)[j]? = some p ∧ q.2 = some p ∧ q.1 ∈ S p
theorem WayOk.add {S : Str → List Str} {a x g : Str} {P : Pr} (w : WayOk S a P) (hx : x ∈ fs P) (hg : g ∈ S x) : WayOk S a (P ++ [(g, some x)]) := by
  intro i q hq
  have up : ∀ {j : Nat} {p : Str}, (fs P)[j]? = some p → (fs (P ++ [(g, some x)]))[j]? = some p := by
    intro j p hp
    unfold fs at hp ⊢
    rw [List.map_append, List.getElem?_append_left (List.getElem?_eq_some_iff.mp hp).1]
    exact hp
  by_cases lt : i < P.length
  · rw [List.getElem?_append_left lt] at hq
    rcases w i q hq with e | ⟨j, p, h1, h2, h3, h4⟩
    · exact .inl e
    · exact .inr ⟨j, p, h1, up h2, h3, h4⟩
  · rw [List.getElem?_append_right (by omega)] at hq
    have e0 : i - P.length = 0 := by
      have := (List.getElem?_eq_some_iff.mp hq).1
      simp at this
      omega
    rw [e0] at hq
    cases hq
    obtain ⟨j, hj, e⟩ := List.mem_iff_getElem.mp hx
    have hl : (fs P).length = P.length := List.length_map ..
    exact .inr ⟨j, x, by omega, up (by rw [List.getElem?_eq_getElem hj, e]), rfl, hg⟩
theorem WayOk.addP {S : Str → List Str} {h : Option Str} {a x : Str} : ∀ {gs : List Str} {P : Pr}, WayOk S a P → x ∈ fs P → (∀ g ∈ gs, g ∈ S x) → WayOk S a (addP h x gs P)
  | [], P, w, _, _ => w
  | g :: gs, P, w, hx, hg => by
    show WayOk S a (G.addP h x gs (addP1 h x P g))
    have hx2 : x ∈ fs (addP1 h x P g) := by rw [addP1_fs]; exact add1_mem.mpr (.inl hx)
    refine WayOk.addP ?_ hx2 fun g hm => hg g (List.mem_cons_of_mem _ hm)
    unfold addP1
    split
    · exact w.add hx (hg g (List.mem_cons_self ..))
    · exact w
theorem valD_prK {g : Str} : ∀ P : Pr, (valD (prK P) (.inr g)).isSome = decide (g ∈ fs P)
  | [] => rfl
  | q :: P => by
    have ih := valD_prK (g := g) P
    unfold prK valD fs at ih ⊢
    rw [List.map_cons, List.map_cons, List.find?_cons]
    by_cases e : q.1 = g
    · subst e; simp
    · rw [show decide ((Sum.inr q.1 : Key) = .inr g) = false from decide_eq_false fun z => e (Sum.inr.inj z)]
      rw [ih]
      exact decide_eq_decide.mpr ⟨fun m => List.mem_cons_of_mem _ m, fun m => (List.mem_cons.mp m).resolve_left fun z => e z.symm⟩
theorem notin_prK (g : Str) (P : Pr) : cmpD .notin (.str g) (.dct (prK P)) = some (!decide (g ∈ fs P)) := by
  show (some (valD (prK P) (.inr g)).isSome).map (! ·) = _
  rw [valD_prK]
  rfl
theorem put_prK {g x : Str} {P : Pr} (h : g ∉ fs P) : putD (prK P) (.inr g) (.str x) = prK (P ++ [(g, some x)]) := by
  rw [putD_new]
  · unfold prK
    rw [List.map_append]
    rfl
  · intro p hp e
    obtain ⟨q, hq, rfl⟩ := List.mem_map.mp hp
    exact h (Sum.inr.inj e ▸ List.mem_map.mpr ⟨q, hq, rfl⟩)
theorem keys_prK (P : Pr) : (prK P).map (fun kv => kD kv.1) = (fs P).map D.str := by
  unfold prK fs
  rw [List.map_map, List.map_map]
  rfl
theorem mu_pop0 {d : D} {xs : List D} (h : (d :: xs).length ≤ sizeLine) : muD .popAt (d :: xs) [.int 0] = some (d, xs) := by
  show (if (d :: xs).length ≤ sizeLine then _ else none) = _
  rw [if_pos h]
  have e : ixN (d :: xs).length 0 = some 0 := by
    unfold ixN
    rw [List.length_cons]
    simp
  rw [e]
  rfl
section
variable {kp : Nat → Nat} {ft : Nat → Option Fd} {wf k : Nat} (X : Fx kp ft)
include X
theorem found_from (hO : ft 60 = some d_found_from) {nm : Str} {bs : List Bk} (w : WfG bs) (hwf : 100 ≤ wf) (h : Option Str) {a : Str} (ha : a ∈ names bs) : ∃ P : Pr, IsR (succ bs) h a (fs P) ∧ WayOk (succ bs) a P ∧ Ret kp ft wf (k + 4) 60 [fz (fnD nm bs), fz (.str a), fz (hidD h)] (ow (.dct (prK P))) := by
  suffices hs : ∃ r outs, callF (pg0 kp) ft wf (k + 4) 60 [fz (fnD nm bs), fz (.str a), fz (hidD h)] = .ok r outs ∧ ∃ P : Pr, IsR (succ bs) h a (fs P) ∧ WayOk (succ bs) a P ∧ r = ow (.dct (prK P)) ∧ outs = [some (fz (fnD nm bs)), some (fz (.str a)), some (fz (hidD h))] by
    obtain ⟨_, _, hc, P, h1, h2, rfl, rfl⟩ := hs
    exact ⟨P, h1, h2, hc⟩
  refine W.fn [some (fz (fnD nm bs)), some (fz (.str a)), some (fz (hidD h)), none, none, none, none] hO rfl rfl rfl ?_ (by show 3 ≤ sizeLine; decide)
  unfold d_found_from
  dsimp only
  walk_at "ev"
  refine ⟨_, _, _, rfl, rfl, eq_hid _ _, ?_⟩
  have main : ∀ P : Pr, P = (if some a = h then [] else [(a, none)]) → ∀ e0 : Ev, e0 = [some (fz (fnD nm bs)), some (fz (.str a)), some (fz (hidD h)), some (ow (.dct (prK P))), none, none, none] → WSs (pg0 kp) (callF (pg0 kp) ft wf (k + 3)) 3 wf (match d_found_from.body with
      | .cons _ r => r
      | _ => .nil) e0 (fun e => ∃ P : Pr, IsR (succ bs) h a (fs P) ∧ WayOk (succ bs) a P ∧ fz D.non = ow (.dct (prK P)) ∧ e.take 3 = [some (fz (fnD nm bs)), some (fz (.str a)), some (fz (hidD h))])
      fun f e => ∃ r, f = .ret r ∧ ∃ P : Pr, IsR (succ bs) h a (fs P) ∧ WayOk (succ bs) a P ∧ r = ow (.dct (prK P)) ∧ e.take 3 = [some (fz (fnD nm bs)), some (fz (.str a)), some (fz (hidD h))] := by
    intro P hP e0 he0
    subst he0
    unfold d_found_from
    dsimp only
    have I0 : BInv (succ bs) h a (fs P) 0 := by
      rw [hP, show fs (if some a = h then [] else [(a, none)]) = if some a = h then [] else [a] by split <;> rfl]
      exact BInv.zero
    have W0 : WayOk (succ bs) a P := by
      rw [hP]
      intro i q hq
      split at hq
      · simp at hq
      · cases i with
        | zero => cases hq; exact .inl rfl
        | succ i => simp at hq
    have sub : ∀ {f : List Str} {at' : Nat}, BInv (succ bs) h a f at' → f.length ≤ 12 ∧ ∀ x ∈ f, x ∈ names bs := fun {f at'} I => by
      have hm : ∀ x ∈ f, x ∈ names bs := fun x hx => w.rch ha (I.rc x hx)
      have := length_le_of_sub I.nd hm
      rw [show (names bs).length = bs.length from List.length_map ..] at this
      exact ⟨Nat.le_trans this w.len.2, hm⟩
    refine W.ss_cons ?_
    walk_at "evy"
    rw [keys_prK]
    refine W.ss_cons ?_
    refine W.whiles (fun n e => ∃ (P : Pr) (t : Nat) (s5 s6 : Slot), n + t = 12 ∧ BInv (succ bs) h a (fs P) t ∧ WayOk (succ bs) a P ∧ e = [some (fz (fnD nm bs)), some (fz (.str a)), some (fz (hidD h)), some (ow (.dct (prK P))), some (ow (.lst (((fs P).drop t).map D.str))), s5, s6]) 12 (by omega) ⟨P, 0, none, none, rfl, I0, W0, rfl⟩ ?_
    rintro n e hn ⟨P, t, s5, s6, ht, I, WP, rfl⟩
    obtain ⟨lf, mf⟩ := sub I
    by_cases lt : t < (fs P).length
    · rw [List.drop_eq_getElem_cons lt, List.map_cons]
      walk_at "ev"
      generalize hx : (fs P)[t] = x
      have hxm : x ∈ fs P := hx ▸ List.getElem_mem lt
      obtain ⟨i, b, hb1, hb2, hb3, hb4⟩ := block_of (wf := wf) (k := k + 2) X (nm := nm) w (mf x hxm)
      refine ⟨_, _, _, rfl, mu_pop0 (by rw [List.length_cons, List.length_map, List.length_drop]; exact Nat.le_trans (show (fs P).length - (t + 1) + 1 ≤ 12 by omega) (by decide)), ?_⟩
      walk_at "ev"
      refine W.fors ?_
      walk_at "ev"
      refine clr X X.block_of hb4 (by simp [slotsOf]) rfl rfl ?_
      walk_at "ev"
      refine clr X X.goals_of (goals_bk (k := k) X i b) (by simp [slotsOf]) rfl rfl ?_
      walk_at "ev"
      rw [← hb3]
      generalize hS : succ bs x = gs
      refine ⟨fun j e => ∃ s6, e = [some (fz (fnD nm bs)), some (fz (.str a)), some (fz (hidD h)), some (ow (.dct (prK (addP h x (gs.take j) P)))), some (ow (.lst (((fs (addP h x (gs.take j) P)).drop (t + 1)).map D.str))), some (fz (.str x)), s6], ⟨s6, rfl⟩, ?_, ?_⟩
      · rintro j d e hd ⟨s6', rfl⟩
        obtain ⟨g, hg, rfl⟩ := strs_get hd
        dsimp only
        rw [addP_take hg]
        have lF2 : (fs (addP h x (gs.take j) P)).length ≤ (fs P).length + gs.length := by rw [addP_fs]; exact addAll_len j
        have gF2 : t + 1 ≤ (fs (addP h x (gs.take j) P)).length := by
          have h1 : (fs (addP h x (gs.take j) P))[t]? = some x := by
            rw [addP_fs]
            exact addAll_pre (by rw [List.getElem?_eq_getElem lt, hx])
          exact (List.getElem?_eq_some_iff.mp h1).1
        generalize hF2 : addP h x (gs.take j) P = P2 at lF2 gF2 ⊢
        have lgs : gs.length ≤ 2 := by rw [← hS, hb3]; cases b.en <;> simp [En.goals]
        refine ⟨_, rfl, ?_⟩
        walk_at "ev"
        refine ⟨_, _, _, rfl, rfl, ne_hid _ _, ?_⟩
        walk_at "ev"
        by_cases c1 : some g = h
        · rw [decide_eq_true c1]
          walk_at "ev"
          refine ⟨some (fz (.str g)), ?_⟩
          unfold addP1
          rw [if_neg (fun z => z.1 c1)]
        · rw [decide_eq_false c1]
          walk_at "ev"
          rw [valD_prK]
          by_cases c2 : g ∈ fs P2
          · rw [decide_eq_true c2]
            walk_at "ev"
            refine ⟨some (fz (.str g)), ?_⟩
            unfold addP1
            rw [if_neg (fun z => z.2 c2)]
          · rw [decide_eq_false c2]
            walk_at "ev"
            have lP : (prK P2).length = (fs P2).length := by simp [prK, fs]
            refine ⟨Nat.lt_of_le_of_lt (show (prK P2).length ≤ 14 by omega) (by decide), ?_⟩
            rw [put_prK c2]
            walk_at "ev"
            refine ⟨_, _, _, rfl, mu_app (by rw [List.length_map, List.length_drop]; exact Nat.lt_of_le_of_lt (show (fs P2).length - (t + 1) ≤ 14 by omega) (by decide)), ?_⟩
            walk_at "ev"
            refine ⟨some (fz (.str g)), ?_⟩
            unfold addP1
            rw [if_pos ⟨c1, c2⟩, show fs (P2 ++ [(g, some x)]) = fs P2 ++ [g] by simp [fs], List.drop_append_of_le_length gF2, List.map_append]
            rfl
      · rintro e ⟨s6', rfl⟩
        rw [List.length_map, List.take_length]
        walk_at "ev"
        exact ⟨n - 1, by omega, addP h x gs P, t + 1, _, s6', by omega, by rw [addP_fs, ← hS]; exact I.next (by rw [List.getElem?_eq_getElem lt, hx]), WP.addP hxm (fun g hg => hS ▸ hg), rfl⟩
    · rw [List.drop_eq_nil_of_le (by omega), List.map_nil]
      walk_at "ev"
      exact ⟨P, I.done lt, WP, rfl, rfl⟩
  by_cases e : some a = h
  · rw [decide_eq_true e]
    walk_at "evy"
    exact main [] (by rw [if_pos e]) _ rfl
  · rw [decide_eq_false e]
    walk_at "evy"
    exact main [(a, none)] (by rw [if_neg e]) _ rfl
end
end Ev.G
/-! P19: ends that give; pairs of blocks (law k23). -/
namespace Ev.G
open PySem L2 Gr
open Classical in
/-- a block that gives is reached -/
noncomputable def gvB (bs : List Bk) (h : Option Str) (a : Str) : Bool := decide (∃ x, Rch (succ bs) h a x ∧ succ bs x = [])
open Classical in
theorem gvB_iff {bs : List Bk} {h : Option Str} {a : Str} : gvB bs h a = true ↔ ∃ x, Rch (succ bs) h a x ∧ succ bs x = [] := decide_eq_true_iff
def enHd : En → Str
  | .give => "give"
  | .go _ => "go"
  | .iff _ _ => "if"
theorem enHd_idx (en : En) : idxD (enD en) (.int 0) = some (.str (enHd en)) := by cases en <;> exact idx_hdT _ _
theorem enHd_give (en : En) : decide (enHd en = Str.ofString "give") = en.goals.isEmpty := by
  cases en
  · rfl
  · exact decide_eq_false (by show ¬ Str.ofString "go" = _; decide +kernel)
  · exact decide_eq_false (by show ¬ Str.ofString "if" = _; decide +kernel)
theorem succ_bk {bs : List Bk} (w : WfG bs) {c : Bk} (hc : c ∈ bs) : succ bs c.nm = c.en.goals := by
  have key : ∀ {l : List Bk}, (names l).Nodup → c ∈ l → l.find? (fun b => decide (b.nm = c.nm)) = some c := by
    intro l
    induction l with
    | nil => intro _ h; exact nomatch h
    | cons b l ih =>
      intro nd h
      rw [show names (b :: l) = b.nm :: names l from rfl, List.nodup_cons] at nd
      rw [List.find?_cons]
      rcases List.mem_cons.mp h with rfl | h
      · simp
      · have ne : ¬ b.nm = c.nm := fun e => nd.1 (e ▸ List.mem_map.mpr ⟨c, h, rfl⟩)
        rw [decide_eq_false ne]
        exact ih nd.2 h
  unfold succ
  rw [key w.nd hc]
theorem gv_any {bs : List Bk} {h : Option Str} {a : Str} {L : List Str} (i : IsR (succ bs) h a L) : (L.any fun s => (succ bs s).isEmpty) = gvB bs h a := by
  rw [Bool.eq_iff_iff, List.any_eq_true, gvB_iff]
  exact ⟨fun ⟨x, hx, e⟩ => ⟨x, (i.iff x).mp hx, List.isEmpty_iff.mp e⟩, fun ⟨x, hx, e⟩ => ⟨x, (i.iff x).mpr hx, List.isEmpty_iff.mpr e⟩⟩
theorem gv_bks {bs : List Bk} (w : WfG bs) {h : Option Str} {a : Str} (ha : a ∈ names bs) {L : List Str} (i : IsR (succ bs) h a L) : (bs.any fun c => decide (c.nm ∈ L) && c.en.goals.isEmpty) = gvB bs h a := by
  rw [Bool.eq_iff_iff, List.any_eq_true, gvB_iff]
  constructor
  · rintro ⟨c, hc, e⟩
    rw [Bool.and_eq_true, decide_eq_true_eq] at e
    exact ⟨c.nm, (i.iff _).mp e.1, by rw [succ_bk w hc]; exact List.isEmpty_iff.mp e.2⟩
  · rintro ⟨x, hx, e⟩
    obtain ⟨c, hc, rfl⟩ := List.mem_map.mp (w.rch ha hx)
    refine ⟨c, hc, ?_⟩
    rw [Bool.and_eq_true, decide_eq_true_eq]
    exact ⟨(i.iff _).mpr hx, by rw [← succ_bk w hc]; exact List.isEmpty_iff.mpr e⟩
def giveIn (L : List Str) : D → Option D
  | .tup [.str nm, a, b, .tup (.str hd :: r)] => if decide (nm ∈ L) && decide (hd = Str.ofString "give") then some (.tup [.str nm, a, b, .tup (.str hd :: r)]) else none
  | _ => none
theorem giveIn_bk (L : List Str) (j : Nat) (c : Bk) : giveIn L (bkD j c) = if decide (c.nm ∈ L) && c.en.goals.isEmpty then some (bkD j c) else none := by
  rw [← enHd_give]
  obtain ⟨nm, it, en⟩ := c
  cases en <;> rfl
theorem giveIn_all (L : List Str) : ∀ (k : Nat) (bs : List Bk), ((bksD k bs).filterMap (giveIn L)).isEmpty = !(bs.any fun c => decide (c.nm ∈ L) && c.en.goals.isEmpty)
  | k, [] => rfl
  | k, c :: bs => by
    rw [show bksD k (c :: bs) = bkD k c :: bksD (k + 1) bs from rfl, List.filterMap_cons, giveIn_bk, List.any_cons]
    cases decide (c.nm ∈ L) && c.en.goals.isEmpty
    · exact giveIn_all L (k + 1) bs
    · rfl
theorem any_bools (p : Str → Bool) (L : List Str) : biD .any (.lst (L.map fun s => D.bl (p s))) = some (fz (.bl (L.any p))) := by
  show (blsD (L.map fun s => D.bl (p s))).map (fun bs => fz (.bl (bs.any id))) = _
  rw [bls_map]
  show some (fz (.bl ((L.map p).any id))) = _
  rw [List.any_map]
  rfl
section
variable {kp : Nat → Nat} {ft : Nat → Option Fd} {wf k : Nat} (X : Fx kp ft) {n1 n2 : Str} {b1 b2 : List Bk}
include X
theorem gives_from (hO : ft 61 = some d_gives_from) (hF : ft 60 = some d_found_from) {nm : Str} {bs : List Bk} (w : WfG bs) (hwf : 100 ≤ wf) (h : Option Str) {a : Str} (ha : a ∈ names bs) : Ret kp ft wf (k + 5) 61 [fz (fnD nm bs), fz (.str a), fz (hidD h)] (fz (.bl (gvB bs h a))) := by
  obtain ⟨P, hI, _, hc⟩ := found_from (wf := wf) (k := k) X hF (nm := nm) w hwf h ha
  have mf : ∀ x ∈ fs P, x ∈ names bs := fun x hx => w.rch ha ((hI.iff x).mp hx)
  have lf : (fs P).length ≤ 12 := by
    have := length_le_of_sub hI.nd mf
    rw [show (names bs).length = bs.length from List.length_map ..] at this
    exact Nat.le_trans this w.len.2
  refine .of (W.fn [some (fz (fnD nm bs)), some (fz (.str a)), some (fz (hidD h)), none] hO rfl rfl rfl ?_ (by show 3 ≤ sizeLine; decide))
  unfold d_gives_from
  dsimp only
  walk_at "ev"
  refine W.comp_map (boolOf fun s => (succ bs s).isEmpty) ?_
  walk_at "ev"
  refine clr X hF hc (by simp [slotsOf]) rfl rfl ?_
  walk_at "ev"
  rw [keys_prK]
  refine ⟨by rw [List.length_map]; exact Nat.le_trans lf (by decide), rfl, fun d hd => ?_, ?_⟩
  · obtain ⟨s, hs, rfl⟩ := List.mem_map.mp hd
    obtain ⟨i, b, hb1, hb2, hb3, hb4⟩ := block_of (wf := wf) (k := k + 3) X (nm := nm) w (mf s hs)
    refine W.cturn_ok rfl ?_
    walk_at "norm"
    walk_at "ev"
    refine clr X X.block_of hb4 (by simp [slotsOf]) rfl rfl ?_
    walk_at "ev"
    refine ⟨_, _, _, rfl, rfl, enHd_idx _, ?_⟩
    walk_at "ev"
    rw [enHd_give, ← hb3]
    exact ⟨rfl, rfl⟩
  · rw [map_boolOf]
    walk_at "norm"
    refine ⟨_, _, rfl, any_bools _ _, ?_⟩
    rw [gv_any hI]
    walk_at "ev"
    exact ⟨rfl, rfl⟩
theorem law_gives (hO : ft 64 = some d_law_gives) {bs : List Bk} (w : WfG bs) (hwf : 1000 ≤ wf) (h : Option Str) {a : Str} (ha : a ∈ names bs) : Ret kp ft wf (k + 3) 64 [fz (.tup (bksD 0 bs)), fz (.str a), fz (hidD h)] (fz (.bl (gvB bs h a))) := by
  obtain ⟨L, hL, hc⟩ := law_reached (wf := wf) (k := k) X w hwf h ha
  refine .of (W.fn [some (fz (.tup (bksD 0 bs))), some (fz (.str a)), some (fz (hidD h)), none, none] hO rfl rfl rfl ?_ (by show 3 ≤ sizeLine; decide))
  unfold d_law_gives
  dsimp only
  walk_at "ev"
  refine clr X X.law_reached hc (by simp [slotsOf]) rfl rfl ?_
  walk_at "ev"
  refine W.comp_map (giveIn L) ?_
  walk_at "ev"
  refine ⟨by rw [bksD_len]; exact Nat.le_trans w.len.2 (by decide), rfl, fun d hd => ?_, ?_⟩
  · obtain ⟨j, c, _, rfl⟩ := bksD_mem hd
    refine W.cturn_ok rfl ?_
    walk_at "norm"
    walk_at "ev"
    refine ⟨_, _, _, rfl, rfl, in_strs _ _, ?_⟩
    walk_at "ev"
    refine ⟨fun e => ?_, fun e => ?_⟩
    · walk_at "ev"
      refine ⟨_, _, _, rfl, rfl, enHd_idx _, ?_⟩
      walk_at "ev"
      rw [enHd_give]
      refine ⟨fun e2 => ?_, fun e2 => ?_⟩
      · walk_at "ev"
        refine ⟨?_, rfl⟩
        rw [giveIn_bk, e, e2]
        rfl
      · refine ⟨?_, rfl⟩
        rw [giveIn_bk, e, e2]
        rfl
    · refine ⟨nofun, fun _ => ⟨?_, rfl⟩⟩
      rw [giveIn_bk, e]
      rfl
  · walk_at "norm"
    walk_at "ev"
    rw [giveIn_all, gv_bks w ha hL, Bool.not_not]
    exact ⟨rfl, rfl⟩
theorem post_dominates (hO : ft 62 = some d_post_dominates) (h61 : ft 61 = some d_gives_from) (h60 : ft 60 = some d_found_from) (m : WfM n1 b1 n2 b2) (hwf : 1000 ≤ wf) {f : Str} {bs : List Bk} (hf : isFn n1 b1 n2 b2 f bs) {s o : Str} (hs : s ∈ rl bs) (ho : o ∈ rl bs) : Ret kp ft wf (k + 11) 62 [fz (mdD n1 b1 n2 b2), fz (.str f), fz (.str s), fz (.str o)] (fz (.bl (gvB bs none o && !gvB bs (some s) o))) := by
  obtain ⟨x, hc⟩ := parts_for2 (k := k) X m hwf hf hs ho
  have w := wfg_of X m hf
  refine .of (W.fn [some (fz (mdD n1 b1 n2 b2)), some (fz (.str f)), some (fz (.str s)), some (fz (.str o)), none] hO rfl rfl rfl ?_ (by show 4 ≤ sizeLine; decide))
  unfold d_post_dominates
  dsimp only
  walk_at "ev"
  refine cl X X.parts_for hc [some (fz (mdD n1 b1 n2 b2)), some (fz (.str f)), some (fz (.str s)), some (fz (.str o)), none] (by simp [slotsOf]) rfl rfl ?_
  walk_at "ev"
  refine clr X h61 (gives_from (wf := wf) (k := k + 5) X h61 h60 w (by omega) none (rl_sub ho)) (by simp [slotsOf]) rfl rfl ?_
  walk_at "ev"
  refine ⟨fun e => ?_, fun e => ?_⟩
  · rw [e]
    walk_at "ev"
    exact ⟨rfl, rfl⟩
  · rw [e]
    walk_at "ev"
    refine clr X h61 (gives_from (wf := wf) (k := k + 5) X h61 h60 w (by omega) (some s) (rl_sub ho)) (by simp [slotsOf]) rfl rfl ?_
    walk_at "ev"
    exact ⟨rfl, rfl⟩
end
end Ev.G
/-! P20: pairs of blocks. -/
namespace Ev.G
open PySem L2 Gr
theorem repr_bl (b : Bool) : biD .repr (.bl b) = some (fz (.str (Str.ofString (if b then "True" else "False")))) := rfl
def pairD (s o : Str) : D := .tup [.str s, .str o]
def pairsL (M L : List Str) : List D := M.flatMap fun s => L.map fun o => pairD s o
theorem pairsL_len (M L : List Str) : (pairsL M L).length = M.length * L.length := by
  induction M with
  | nil => simp [pairsL]
  | cons s M ih =>
    unfold pairsL at ih ⊢
    rw [List.flatMap_cons, List.length_append, ih, List.length_map, List.length_cons, Nat.add_mul, Nat.one_mul, Nat.add_comm]
theorem pairsL_take {M L : List Str} {j : Nat} {s : Str} (hs : M[j]? = some s) : pairsL (M.take (j + 1)) L = pairsL (M.take j) L ++ L.map fun o => pairD s o := by
  unfold pairsL
  rw [List.take_add_one, hs, List.flatMap_append]
  simp
def isPair (L : List Str) (d : D) : Prop := ∃ s ∈ L, ∃ o ∈ L, d = pairD s o
theorem pairsL_mem {L : List Str} {d : D} (h : d ∈ pairsL L L) : isPair L d := by
  obtain ⟨s, hs, h2⟩ := List.mem_flatMap.mp h
  obtain ⟨o, ho, rfl⟩ := List.mem_map.mp h2
  exact ⟨s, hs, o, ho, rfl⟩
def mkP (s : Str) : D → Option D := fun d => some (.tup [.str s, d])
theorem mkP_map (s : Str) : ∀ L : List Str, (L.map D.str).filterMap (mkP s) = L.map fun o => pairD s o
  | [] => rfl
  | o :: L => by rw [List.map_cons, List.filterMap_cons, mkP_map s L]; rfl
section
variable {kp : Nat → Nat} {ft : Nat → Option Fd} {wf k : Nat} (X : Fx kp ft)
include X
theorem pick_any2 {p : Pen} {n : Nat} (hp : p.ok n) (hn : n < 1099511627776) {o : Bool} {ds : List D} (h0 : 0 < ds.length) (h1 : ds.length < 1073741824) :
    ∃ r outs, callF (pg0 kp) ft wf (k + 2) 43 [p.d, (o, .lst ds)] = .ok r outs ∧ ∃ (p' : Pen) (d : D), r = fz d ∧ outs = [some p'.d, some (o, .lst ds)] ∧ d ∈ ds ∧ p'.ok (n + 1) := by
  have hx : ∀ (i : Nat) (hi : i < ds.length), idxD (.lst ds) (.int i) = some ds[i] := fun i hi => atI_nat (List.getElem?_eq_getElem hi)
  obtain ⟨r, outs, hc, p', i, d, rfl, rfl, hi, hd, hp'⟩ := pick_ok (wf := wf) (k := k) X hp hn (o := o) (opts := .lst ds) (len := ds.length) rfl h0 h1 fun i hi => ⟨_, hx i hi⟩
  rw [hx i hi] at hd
  cases hd
  exact ⟨_, _, hc, p', _, rfl, rfl, List.getElem_mem hi, hp'⟩
theorem law_pairs (hO : ft 63 = some d_law_pairs) {p : Pen} {n : Nat} (hp : p.ok n) (hn : n < 1099511) {L : List Str} (h0 : L ≠ []) (hl : L.length ≤ 12) {m : Nat} (hm : m ≤ 100) {o : Bool} :
    ∃ r outs, callF (pg0 kp) ft wf (k + 3) 63 [p.d, (o, .lst (L.map D.str)), fz (.int m)] = .ok r outs ∧ ∃ (p' : Pen) (c : Bool) (ds : List D), r = (c, .lst ds) ∧ outs = [some p'.d, some (fz (.lst (L.map D.str))), some (fz (.int m))] ∧ ds.length ≤ 144 ∧ (∀ d ∈ ds, isPair L d) ∧ p'.ok (n + m) := by
  refine W.fn [some p.d, some (o, .lst (L.map D.str)), some (fz (.int m)), none, none, none, none] hO rfl rfl rfl ?_ (by show 3 ≤ sizeLine; decide)
  unfold d_law_pairs
  dsimp only
  cases o
  all_goals
    walk_at "ev"
    refine W.fors ?_
    walk_at "ev"
    refine ⟨fun j e => ∃ s4 s5, e = [some p.d, some (fz (.lst (L.map D.str))), some (fz (.int m)), some (ow (.lst (pairsL (L.take j) L))), s4, s5, none], ⟨_, _, rfl⟩, ?_, ?_⟩
    · rintro j d e hd ⟨s4, s5, rfl⟩
      obtain ⟨s, hs, rfl⟩ := strs_get hd
      refine ⟨_, rfl, ?_⟩
      walk_at "norm"
      walk_at "ev"
      refine W.comp_map (mkP s) ?_
      walk_at "ev"
      refine ⟨by rw [List.length_map]; exact Nat.le_trans hl (by decide), rfl, fun d hd => ?_, ?_⟩
      · obtain ⟨q, _, rfl⟩ := List.mem_map.mp hd
        refine W.cturn_ok rfl ?_
        walk_at "norm"
        walk_at "ev"
        exact ⟨rfl, rfl⟩
      · rw [mkP_map]
        walk_at "norm"
        walk_at "ev"
        have l1 := pairsL_len (L.take j) L
        have l2 : (L.take j).length * L.length ≤ 12 * 12 := Nat.mul_le_mul (by rw [List.length_take]; omega) hl
        refine ⟨_, _, _, rfl, mu_ext (by rw [List.length_map]; exact Nat.le_trans (show (pairsL (L.take j) L).length + L.length ≤ 156 by omega) (by decide)), ?_⟩
        walk_at "ev"
        rw [← pairsL_take hs]
        exact ⟨_, _, rfl⟩
    · rintro e ⟨s4, s5, rfl⟩
      rw [List.length_map, List.take_length]
      have ll := pairsL_len L L
      have l2 : L.length * L.length ≤ 12 * 12 := Nat.mul_le_mul hl hl
      have l3 : 1 ≤ L.length := List.length_pos_iff.mpr h0
      have l4 : 1 ≤ L.length * L.length := Nat.mul_pos l3 l3
      walk_at "ev"
      refine ⟨fun e => ?_, fun e => ?_⟩
      · walk_at "ev"
        exact ⟨by omega, fun d hd => pairsL_mem hd, hp.mono (by omega)⟩
      · refine W.comp ?_
        walk_at "ev"
        rw [Int.toNat_natCast]
        refine ⟨by rw [rngD_len]; exact Nat.le_trans hm (by decide), rfl, ?_⟩
        have loop := W.compLoop_inv (f := W.cturn (pg0 kp) (callF (pg0 kp) ft wf (k + 2)) 3 (Tm.call 43 (Tms.cons (Tm.var 0) (Tms.cons (Tm.var 3) Tms.nil))) [6] true To'.no [6]) (items := rngD 0 m)
          (fun t acc e => ∃ (q : Pen), q.ok (n + t) ∧ acc.length = t ∧ (∀ d ∈ acc, isPair L d) ∧ e = [some q.d, some (fz (.lst (L.map D.str))), some (fz (.int m)), some (ow (.lst (pairsL L L))), s4, s5, none]) ?_ (rngD 0 m) [] [] [some p.d, some (fz (.lst (L.map D.str))), some (fz (.int m)), some (ow (.lst (pairsL L L))), s4, s5, none] rfl ⟨p, hp, rfl, by simp, rfl⟩
        · obtain ⟨r, e2, hl2, q1, hq1, la, hcs, he2⟩ := loop
          rw [rngD_len] at la hq1
          rw [List.nil_append] at hcs la
          subst he2
          refine ⟨⟨_, _, hl2, ?_⟩⟩
          walk_at "norm"
          exact ⟨_, rfl, q1, _, r, rfl, rfl, by omega, hcs, hq1⟩
        · rintro t d acc e hd ⟨q, hq, la, hcs, rfl⟩
          obtain ⟨lt, rfl⟩ := rngD_get hd
          obtain ⟨_, _, hc, q2, d2, rfl, rfl, hd2, hq2⟩ := pick_any2 (wf := wf) (k := k) X hq (by omega) (o := true) (ds := pairsL L L) (by omega) (by omega)
          obtain ⟨o', e', h1, h2⟩ : ∃ o' e', W.cturn (pg0 kp) (callF (pg0 kp) ft wf (k + 2)) 3 (Tm.call 43 (Tms.cons (Tm.var 0) (Tms.cons (Tm.var 3) Tms.nil))) [6] true To'.no [6] (.int t) [some q.d, some (fz (.lst (L.map D.str))), some (fz (.int m)), some (ow (.lst (pairsL L L))), s4, s5, none] = .ok o' e' ∧ (o' = some d2 ∧ e' = [some q2.d, some (fz (.lst (L.map D.str))), some (fz (.int m)), some (ow (.lst (pairsL L L))), s4, s5, none]) := by
            refine W.cturn_ok rfl ?_
            walk_at "norm"
            walk_at "ev"
            refine cl X X.law_pick hc [some q2.d, some (fz (.lst (L.map D.str))), some (fz (.int m)), some (ow (.lst (pairsL L L))), s4, s5, some (fz (.int t))] (by simp [slotsOf]) rfl rfl ?_
            walk_at "ev"
            exact ⟨rfl, rfl⟩
          obtain ⟨rfl, rfl⟩ := h2
          refine ⟨_, _, h1, q2, hq2, by rw [List.length_append, la]; rfl, ?_, rfl⟩
          intro z hz
          rcases List.mem_append.mp hz with hz | hz
          · exact hcs z hz
          · cases List.mem_singleton.mp hz
            exact pairsL_mem hd2
end
end Ev.G
/-! P21: edges and arrows between reached blocks. -/
namespace Ev.W
open PySem L2
/-- a comprehension over a list of things that are written by f: those that pass, each written by h -/
theorem comp_on {pg : Pg} {cf : Nat → List Rv → COut} {keep : Nat} {env : Ev} {e : Tm} {tg : List Nat} {one : Bool} {it : It} {c : To'} {own : List Nat} {Q : Rv → Ev → Prop} {α : Type} (f : α → D) (L : List α) (p : α → Bool) (h : α → D)
    (q : WI pg cf keep it env fun items e1 => items = L.map f ∧ L.length ≤ sizeLine ∧ tg.all own.contains = true ∧ (∀ a ∈ L, ∃ o e', cturn pg cf keep e tg one c own (f a) (wipeE e1 own) = .ok o e' ∧ o = (if p a then some (h a) else none) ∧ e' = wipeE e1 own) ∧ Q (ow (.lst ((L.filter p).map h))) (restE (wipeE e1 own) e1 own)) : WE pg cf keep (.comp e tg one it c own) env Q := by
  obtain ⟨items, e1, h0, rfl, h1, h2, h3, q⟩ := q
  refine comp ⟨_, e1, h0, by rw [List.length_map]; exact h1, h2, _, _, ?_, q⟩
  have key : ∀ l : List α, (∀ a ∈ l, ∃ o e', cturn pg cf keep e tg one c own (f a) (wipeE e1 own) = .ok o e' ∧ o = (if p a then some (h a) else none) ∧ e' = wipeE e1 own) → compLoop (cturn pg cf keep e tg one c own) (l.map f) (wipeE e1 own) = .ok ((l.filter p).map h) (wipeE e1 own) := by
    intro l
    induction l with
    | nil => intro _; rfl
    | cons d l ih =>
      intro hl
      obtain ⟨o, e', k1, rfl, rfl⟩ := hl d (List.mem_cons_self ..)
      rw [List.map_cons, List.filter_cons]
      simp only [compLoop, k1, Out.bind, ih fun x hx => hl x (List.mem_cons_of_mem _ hx)]
      cases p d <;> rfl
  exact key L h3
end Ev.W
namespace Ev.G
open PySem L2 Gr
/-- an edge: source, number of the arm, goal -/
structure Eg where
  s : Str
  i : Nat
  g : Str
def Eg.d (e : Eg) : D := .tup [.str e.s, .int e.i, .str e.g]
def egsOf (s : Str) : Nat → List Str → List Eg
  | _, [] => []
  | i, g :: gs => ⟨s, i, g⟩ :: egsOf s (i + 1) gs
theorem egsOf_app (s : Str) : ∀ (i : Nat) (l : List Str) (g : Str), egsOf s i (l ++ [g]) = egsOf s i l ++ [⟨s, i + l.length, g⟩]
  | i, [], g => rfl
  | i, a :: l, g => by
    show _ :: egsOf s (i + 1) (l ++ [g]) = _ :: (egsOf s (i + 1) l ++ [⟨s, i + (l.length + 1), g⟩])
    rw [egsOf_app s (i + 1) l g, show i + 1 + l.length = i + (l.length + 1) by omega]
theorem egsOf_mem {s : Str} {e : Eg} : ∀ {i : Nat} {l : List Str}, e ∈ egsOf s i l → e.s = s ∧ e.g ∈ l
  | _, [], h => nomatch h
  | i, g :: l, h => by
    rcases List.mem_cons.mp h with rfl | h
    · exact ⟨rfl, List.mem_cons_self ..⟩
    · obtain ⟨h1, h2⟩ := egsOf_mem h
      exact ⟨h1, List.mem_cons_of_mem _ h2⟩
theorem egsOf_of {s g : Str} : ∀ {i : Nat} {l : List Str}, g ∈ l → ∃ j, (⟨s, j, g⟩ : Eg) ∈ egsOf s i l
  | _, [], h => nomatch h
  | i, a :: l, h => by
    rcases List.mem_cons.mp h with rfl | h
    · exact ⟨i, List.mem_cons_self ..⟩
    · obtain ⟨j, h1⟩ := egsOf_of (i := i + 1) h
      exact ⟨j, List.mem_cons_of_mem _ h1⟩
theorem egsOf_len (s : Str) : ∀ (i : Nat) (l : List Str), (egsOf s i l).length = l.length
  | _, [] => rfl
  | i, _ :: l => by show (egsOf s (i + 1) l).length + 1 = l.length + 1; rw [egsOf_len s (i + 1) l]
def egsL (bs : List Bk) (L : List Str) : List Eg := L.flatMap fun s => egsOf s 0 (succ bs s)
noncomputable def egs (bs : List Bk) : List Eg := egsL bs (rl bs)
theorem egsL_len (bs : List Bk) : ∀ L : List Str, (egsL bs L).length ≤ 2 * L.length
  | [] => Nat.le_refl _
  | s :: L => by
    have := egsL_len bs L
    have := succ_len bs s
    unfold egsL at *
    rw [List.flatMap_cons, List.length_append, egsOf_len, List.length_cons]
    omega
theorem egs_len {bs : List Bk} (w : WfG bs) : (egs bs).length ≤ 24 := by
  have := egsL_len bs (rl bs)
  have := rl_len w
  unfold egs
  omega
theorem egs_mem {bs : List Bk} {e : Eg} (h : e ∈ egs bs) : e.s ∈ rl bs ∧ e.g ∈ succ bs e.s := by
  obtain ⟨s, hs, h2⟩ := List.mem_flatMap.mp h
  obtain ⟨rfl, h3⟩ := egsOf_mem h2
  exact ⟨hs, h3⟩
theorem egs_of {bs : List Bk} {s g : Str} (hs : s ∈ rl bs) (hg : g ∈ succ bs s) : ∃ j, (⟨s, j, g⟩ : Eg) ∈ egs bs := by
  obtain ⟨j, h⟩ := egsOf_of (s := s) (i := 0) hg
  exact ⟨j, List.mem_flatMap.mpr ⟨s, hs, h⟩⟩
theorem egsL_take {bs : List Bk} {L : List Str} {j : Nat} {s : Str} (hs : L[j]? = some s) : egsL bs (L.take (j + 1)) = egsL bs (L.take j) ++ egsOf s 0 (succ bs s) := by
  unfold egsL
  rw [List.take_add_one, hs, List.flatMap_append]
  simp
theorem rl_succ {bs : List Bk} (w : WfG bs) {s g : Str} (hs : s ∈ rl bs) (hg : g ∈ succ bs s) : g ∈ rl bs := (rl_mem w).mpr (.step ((rl_mem w).mp hs) hg nofun)
theorem take_snoc {α : Type} {l : List α} {i : Nat} {a : α} (h : l[i]? = some a) : l.take (i + 1) = l.take i ++ [a] := by
  rw [List.take_add_one, h]
  rfl
/-- an arrow: source, goal -/
def arD (a : Str × Str) : D := .tup [.str a.1, .str a.2]
noncomputable def arL (bs l : List Bk) : List (Str × Str) := l.flatMap fun b => if decide (b.nm ∈ rl bs) then b.en.goals.map fun g => (b.nm, g) else []
noncomputable def ars (bs : List Bk) : List (Str × Str) := arL bs bs
theorem arL_len (bs : List Bk) : ∀ l : List Bk, (arL bs l).length ≤ 2 * l.length
  | [] => Nat.le_refl _
  | b :: l => by
    have := arL_len bs l
    have : b.en.goals.length ≤ 2 := by cases b.en <;> simp [En.goals]
    unfold arL at *
    rw [List.flatMap_cons, List.length_append, List.length_cons]
    split
    · rw [List.length_map]; omega
    · simp only [List.length_nil]; omega
theorem ars_mem {bs : List Bk} (w : WfG bs) {s g : Str} : (s, g) ∈ ars bs ↔ s ∈ rl bs ∧ g ∈ succ bs s := by
  constructor
  · intro h
    obtain ⟨b, hb, h2⟩ := List.mem_flatMap.mp h
    split at h2
    · rename_i c
      obtain ⟨g', hg, e⟩ := List.mem_map.mp h2
      cases e
      rw [succ_bk w hb]
      exact ⟨of_decide_eq_true c, hg⟩
    · exact nomatch h2
  · rintro ⟨h1, h2⟩
    obtain ⟨b, hb, rfl⟩ := List.mem_map.mp (rl_sub h1)
    rw [succ_bk w hb] at h2
    refine List.mem_flatMap.mpr ⟨b, hb, ?_⟩
    rw [if_pos (decide_eq_true h1)]
    exact List.mem_map.mpr ⟨g, h2, rfl⟩
theorem arL_take {bs l : List Bk} {j : Nat} {b : Bk} (h : l[j]? = some b) : arL bs (l.take (j + 1)) = arL bs (l.take j) ++ (if decide (b.nm ∈ rl bs) then b.en.goals.map fun g => (b.nm, g) else []) := by
  unfold arL
  rw [take_snoc h, List.flatMap_append]
  simp
section
variable {kp : Nat → Nat} {ft : Nat → Option Fd} {wf k : Nat} (X : Fx kp ft)
include X
theorem edges_of (hO : ft 55 = some d_edges_of) {nm : Str} {bs : List Bk} (w : WfG bs) (hwf : 1000 ≤ wf) : Ret kp ft wf (k + 6) 55 [fz (fnD nm bs)] (ow (.lst ((egs bs).map Eg.d))) := by
  refine .of (W.fn [some (fz (fnD nm bs)), none, none, none, none] hO rfl rfl rfl ?_ (by show 1 ≤ sizeLine; decide))
  unfold d_edges_of
  dsimp only
  walk_at "ev"
  refine W.fors ?_
  walk_at "ev"
  refine clr X X.reached_in (reached_in' (k := k) X w hwf) (by simp [slotsOf]) rfl rfl ?_
  walk_at "ev"
  have lr := rl_len w
  refine ⟨fun j e => ∃ t2 t3 t4, e = [some (fz (fnD nm bs)), some (ow (.lst ((egsL bs ((rl bs).take j)).map Eg.d))), t2, t3, t4], ⟨_, _, _, rfl⟩, ?_, ?_⟩
  · rintro j d e hd ⟨t2, t3, t4, rfl⟩
    obtain ⟨s, hs, rfl⟩ := strs_get hd
    have hm : s ∈ rl bs := List.mem_of_getElem? hs
    obtain ⟨i, b, hb, hbn, hsu, hc⟩ := block_of (wf := wf) (k := k + 4) X (nm := nm) w (rl_sub hm)
    refine ⟨_, rfl, ?_⟩
    walk_at "norm"
    walk_at "evx"
    refine W.fors ?_
    walk_at "ev"
    refine clr X X.block_of hc (by simp [slotsOf]) rfl rfl ?_
    walk_at "ev"
    refine clr X X.goals_of (goals_bk (k := k + 2) X i b) (by simp [slotsOf]) rfl rfl ?_
    walk_at "ev"
    have ls := succ_len bs s
    have l1 := egsL_len bs ((rl bs).take j)
    rw [List.length_take] at l1
    rw [← hsu]
    refine ⟨fun q e => ∃ t3 t4, e = [some (fz (fnD nm bs)), some (ow (.lst ((egsL bs ((rl bs).take j) ++ egsOf s 0 ((succ bs s).take q)).map Eg.d))), some (fz (.str s)), t3, t4], ⟨t3, t4, by simp [egsOf]⟩, ?_, ?_⟩
    · rintro q d e hd ⟨t3, t4, rfl⟩
      obtain ⟨x, hx, rfl⟩ := enum_get hd
      obtain ⟨g, hg, rfl⟩ := strs_get hx
      have l2 := egsOf_len s 0 ((succ bs s).take q)
      rw [List.length_take] at l2
      refine ⟨_, rfl, ?_⟩
      walk_at "norm"
      walk_at "ev"
      refine ⟨_, _, _, rfl, mu_app (by rw [List.length_map, List.length_append]; exact Nat.lt_of_le_of_lt (show _ ≤ 50 by omega) (by decide)), ?_⟩
      walk_at "ev"
      have lq : q ≤ (succ bs s).length := by
        obtain ⟨lt, _⟩ := List.getElem?_eq_some_iff.mp hg
        omega
      rw [take_snoc hg, egsOf_app, List.map_append, List.map_append, List.map_append, List.length_take, Nat.min_eq_left lq, List.append_assoc]
      exact ⟨_, _, rfl⟩
    · rintro e ⟨t3, t4, rfl⟩
      rw [enum_len, List.length_map, List.take_length, ← egsL_take hs]
      walk_at "ev"
      exact ⟨_, _, _, rfl⟩
  · rintro e ⟨t2, t3, t4, rfl⟩
    rw [List.length_map, List.take_length]
    walk_at "ev"
    exact ⟨rfl, rfl⟩
theorem law_arrows (hO : ft 58 = some d_law_arrows) {bs : List Bk} (w : WfG bs) (hwf : 1000 ≤ wf) : Ret kp ft wf (k + 4) 58 [fz (.tup (bksD 0 bs))] (ow (.lst ((ars bs).map arD))) := by
  refine .of (W.fn [some (fz (.tup (bksD 0 bs))), none, none, none, none] hO rfl rfl rfl ?_ (by show 1 ≤ sizeLine; decide))
  unfold d_law_arrows
  dsimp only
  walk_at "ev"
  refine clr X X.law_there (law_there' (k := k) X w hwf) (by simp [slotsOf]) rfl rfl ?_
  walk_at "ev"
  refine W.fors ?_
  walk_at "ev"
  refine ⟨fun j e => ∃ t3, e = [some (fz (.tup (bksD 0 bs))), some (ow (.lst ((rl bs).map D.str))), some (ow (.lst ((arL bs (bs.take j)).map arD))), t3, none], ⟨_, rfl⟩, ?_, ?_⟩
  · rintro j d e hd ⟨t3, rfl⟩
    obtain ⟨b, hb, rfl⟩ := bksD_get hd
    have l1 := arL_len bs (bs.take j)
    have lw := w.len.2
    rw [List.length_take] at l1
    have lg : b.en.goals.length ≤ 2 := by cases b.en <;> simp [En.goals]
    refine ⟨_, rfl, ?_⟩
    walk_at "norm"
    rw [arL_take hb]
    walk_at "ev"
    refine ⟨_, _, _, rfl, rfl, in_strs _ _, ?_⟩
    walk_at "ev"
    refine ⟨fun e => ?_, fun e => ?_⟩
    · rw [if_pos e]
      walk_at "evx"
      refine W.comp_on D.str b.en.goals (fun _ => true) (fun g => arD (b.nm, g)) ?_
      walk_at "ev"
      refine clr X X.law_goals (law_goals (k := k + 2) X (0 + j) b) (by simp [slotsOf]) rfl rfl ?_
      walk_at "ev"
      refine ⟨rfl, Nat.le_trans lg (by decide), rfl, fun g hg => ?_, ?_⟩
      · refine W.cturn_ok rfl ?_
        walk_at "norm"
        walk_at "ev"
        exact ⟨rfl, rfl⟩
      · walk_at "norm"
        rw [List.filter_eq_self.mpr (fun _ _ => rfl)]
        walk_at "ev"
        refine ⟨_, _, _, rfl, mu_ext (by rw [List.length_map, List.length_map]; exact Nat.le_trans (show _ ≤ 50 by omega) (by decide)), ?_⟩
        walk_at "ev"
        rw [List.map_append, List.map_map]
        exact ⟨_, rfl⟩
    · rw [if_neg (by rw [e]; exact Bool.false_ne_true), List.append_nil]
      walk_at "ev"
      exact ⟨_, rfl⟩
  · rintro e ⟨t3, rfl⟩
    rw [bksD_len, List.take_length]
    walk_at "ev"
    exact ⟨rfl, rfl⟩
noncomputable def bks (bs : List Bk) : List Eg := (egs bs).filter fun e => decide (e.s ∈ cov bs e.g)
omit X in
theorem bks_mem {bs : List Bk} {e : Eg} : e ∈ bks bs ↔ e ∈ egs bs ∧ e.s ∈ cov bs e.g := by
  unfold bks
  rw [List.mem_filter, decide_eq_true_iff]
theorem back_edges_in (hO : ft 65 = some d_back_edges_in) (h55 : ft 55 = some d_edges_of) {nm : Str} {bs : List Bk} (w : WfG bs) (hwf : 1000 ≤ wf) : Ret kp ft wf (k + 7) 65 [fz (fnD nm bs)] (ow (.lst ((bks bs).map Eg.d))) := by
  refine .of (W.fn [some (fz (fnD nm bs)), none, none] hO rfl rfl rfl ?_ (by show 1 ≤ sizeLine; decide))
  unfold d_back_edges_in
  dsimp only
  walk_at "ev"
  refine clr X X.covered_by (covered_by (k := k) X w hwf) (by simp [slotsOf]) rfl rfl ?_
  walk_at "ev"
  refine W.comp_on Eg.d (egs bs) (fun e => decide (e.s ∈ cov bs e.g)) Eg.d ?_
  walk_at "ev"
  refine clr X h55 (edges_of (k := k) X h55 w hwf) (by simp [slotsOf]) rfl rfl ?_
  walk_at "ev"
  refine ⟨rfl, Nat.le_trans (egs_len w) (by decide), rfl, fun a ha => ?_, ?_⟩
  · obtain ⟨m1, m2⟩ := egs_mem ha
    refine W.cturn_ok rfl ?_
    walk_at "norm"
    unfold Eg.d
    walk_at "ev"
    refine ⟨_, _, _, rfl, rfl, idx_cov (rl_succ w m1 m2), ?_⟩
    walk_at "ev"
    refine ⟨_, _, _, rfl, rfl, in_strs _ _, ?_⟩
    walk_at "ev"
    refine ⟨fun e => ?_, fun e => ?_⟩
    · walk_at "ev"
      rw [e]
      exact ⟨rfl, rfl⟩
    · rw [e]
      exact ⟨rfl, rfl⟩
  · walk_at "norm"
    exact ⟨_, rfl, rfl, rfl⟩
end
end Ev.G
/-! P22: loops (law k24). -/
namespace Gr
variable {α : Type} {S : α → List α} {h : Option α} {a b c : α}
theorem Rch.trans (r : Rch S h a b) (t : Rch S h b c) : Rch S h a c := by
  induction t with
  | base _ => exact r
  | step _ m z ih => exact .step ih m z
theorem Rch.back {F : α → Prop} {x y : α} {R : α → Prop} (rc : ∀ z, Rch S h x z → R z) (hc : ∀ u, F u → some u ≠ h → ∀ z, R z → u ∈ S z → F z) (r : Rch S h x y) (hy : F y) : F x := by
  induction r with
  | base _ => exact hy
  | step r1 m z ih => exact ih (hc _ hy z _ (rc _ r1) m)
end Gr
namespace Ev.G
open PySem L2 Gr
/-- the search back from the sources S to the head h -/
structure LInv (bs : List Bk) (h : Str) (S F left : List Str) : Prop where
  nd : F.Nodup
  hd : h ∈ F
  fs : ∀ x ∈ F, x ∈ rl bs ∧ (x = h ∨ ∃ s ∈ S, Rch (succ bs) (some h) x s)
  ls : ∀ x ∈ left, x ∈ rl bs ∧ (x = h ∨ ∃ s ∈ S, Rch (succ bs) (some h) x s)
  sr : ∀ s ∈ S, s ∈ F ∨ s ∈ left
  cl : ∀ x ∈ F, x ≠ h → ∀ z ∈ rl bs, x ∈ succ bs z → z ∈ F ∨ z ∈ left
theorem LInv.zero {bs : List Bk} {h : Str} {S : List Str} (hh : h ∈ rl bs) (hS : ∀ s ∈ S, s ∈ rl bs) : LInv bs h S [h] S where
  nd := by simp
  hd := List.mem_singleton.mpr rfl
  fs x hx := by cases List.mem_singleton.mp hx; exact ⟨hh, .inl rfl⟩
  ls x hx := by
    refine ⟨hS x hx, ?_⟩
    by_cases e : x = h
    · exact .inl e
    · exact .inr ⟨x, hx, .base fun z => e (Option.some.inj z)⟩
  sr s hs := .inr hs
  cl x hx n := absurd (List.mem_singleton.mp hx) n
theorem LInv.skip {bs : List Bk} {h : Str} {S F left : List Str} {x : Str} (I : LInv bs h S F (left ++ [x])) (c : x ∈ F) : LInv bs h S F left where
  nd := I.nd
  hd := I.hd
  fs := I.fs
  ls y hy := I.ls y (List.mem_append_left _ hy)
  sr s hs := by
    rcases I.sr s hs with z | z
    · exact .inl z
    · rcases List.mem_append.mp z with z | z
      · exact .inr z
      · cases List.mem_singleton.mp z; exact .inl c
  cl y hy n z hz m := by
    rcases I.cl y hy n z hz m with z | z
    · exact .inl z
    · rcases List.mem_append.mp z with z | z
      · exact .inr z
      · cases List.mem_singleton.mp z; exact .inl c
theorem LInv.take {bs : List Bk} {h : Str} {S F left P : List Str} {x : Str} (I : LInv bs h S F (left ++ [x])) (c : x ∉ F) (hP : ∀ z, z ∈ P ↔ z ∈ rl bs ∧ x ∈ succ bs z) : LInv bs h S (F ++ [x]) (left ++ P) := by
  have hx := I.ls x (List.mem_append_right _ (List.mem_singleton.mpr rfl))
  have ne : x ≠ h := fun e => c (e ▸ I.hd)
  obtain ⟨s0, hs0, r0⟩ := hx.2.resolve_left ne
  have mv : ∀ y, y ∈ F ∨ y ∈ left ++ [x] → y ∈ F ++ [x] ∨ y ∈ left ++ P := by
    rintro y (hy | hy)
    · exact .inl (List.mem_append_left _ hy)
    · rcases List.mem_append.mp hy with hy | hy
      · exact .inr (List.mem_append_left _ hy)
      · exact .inl (List.mem_append_right _ hy)
  refine ⟨?_, List.mem_append_left _ I.hd, ?_, ?_, fun s hs => mv s (I.sr s hs), ?_⟩
  · rw [List.nodup_append]
    refine ⟨I.nd, by simp, ?_⟩
    intro a ha b hb e
    cases List.mem_singleton.mp hb
    exact c (e ▸ ha)
  · intro y hy
    rcases List.mem_append.mp hy with hy | hy
    · exact I.fs y hy
    · cases List.mem_singleton.mp hy; exact hx
  · intro y hy
    rcases List.mem_append.mp hy with hy | hy
    · exact I.ls y (List.mem_append_left _ hy)
    · obtain ⟨h1, h2⟩ := (hP y).mp hy
      refine ⟨h1, ?_⟩
      by_cases e : y = h
      · exact .inl e
      · exact .inr ⟨s0, hs0, (Rch.step (.base fun z => e (Option.some.inj z)) h2 fun z => ne (Option.some.inj z)).trans r0⟩
  · intro y hy n z hz m
    rcases List.mem_append.mp hy with hy | hy
    · exact mv z (I.cl y hy n z hz m)
    · cases List.mem_singleton.mp hy
      exact .inr (List.mem_append_right _ ((hP z).mpr ⟨hz, m⟩))
theorem LInv.done {bs : List Bk} (w : WfG bs) {h : Str} {S F : List Str} (I : LInv bs h S F []) {x : Str} (hx : x ∈ rl bs) : x ∈ F ↔ (x = h ∨ ∃ s ∈ S, Rch (succ bs) (some h) x s) := by
  constructor
  · exact fun m => (I.fs x m).2
  · rintro (rfl | ⟨s, hs, r⟩)
    · exact I.hd
    · have rc : ∀ z, Rch (succ bs) (some h) x z → z ∈ rl bs := by
        intro z r
        induction r with
        | base _ => exact hx
        | step _ m _ ih => exact rl_succ w ih m
      refine Rch.back (F := (· ∈ F)) (R := (· ∈ rl bs)) rc ?_ r ((I.sr s hs).resolve_right (fun z => nomatch z))
      intro u hu n z hz m
      exact (I.cl u hu (fun e => n (by rw [e])) z hz m).resolve_right (fun z => nomatch z)
/-- s is the source of a back edge to h -/
def isSrc (bs : List Bk) (h s : Str) : Prop := s ∈ cov bs h ∧ h ∈ succ bs s
open Classical in
noncomputable def lpL (bs : List Bk) (h : Str) : List Str := (rl bs).filter fun x => decide (x = h ∨ ∃ s, isSrc bs h s ∧ Rch (succ bs) (some h) x s)
open Classical in
noncomputable def lpH (bs : List Bk) (h : Str) : Bool := decide (∃ s, isSrc bs h s)
noncomputable def lpD (bs : List Bk) (h : Str) : D := .tup [.str h, .tup ((lpL bs h).map D.str)]
noncomputable def lps (bs : List Bk) : List D := ((rl bs).filter (lpH bs)).map (lpD bs)
theorem lpL_len {bs : List Bk} (w : WfG bs) (h : Str) : (lpL bs h).length ≤ 12 := Nat.le_trans (List.length_filter_le ..) (rl_len w)
theorem lpL_sub {bs : List Bk} {h s : Str} (m : s ∈ lpL bs h) : s ∈ rl bs := (List.mem_filter.mp m).1
/-- what is known of a list of sources -/
structure IsS (bs : List Bk) (h : Str) (S : List Str) : Prop where
  iff : ∀ s, s ∈ S ↔ isSrc bs h s
  len : S.length ≤ 24
theorem IsS.sub {bs : List Bk} {h : Str} {S : List Str} (i : IsS bs h S) : ∀ s ∈ S, s ∈ rl bs := fun s m => cov_sub ((i.iff s).mp m).1
open Classical in
theorem IsS.lp {bs : List Bk} {h : Str} {S : List Str} (i : IsS bs h S) (p : Str → Bool) (hp : ∀ x ∈ rl bs, p x = true ↔ (x = h ∨ ∃ s ∈ S, Rch (succ bs) (some h) x s)) : (rl bs).filter p = lpL bs h := by
  refine List.filter_congr fun x hx => ?_
  rw [Bool.eq_iff_iff, hp x hx, decide_eq_true_iff]
  constructor
  · rintro (e | ⟨s, h1, h2⟩)
    · exact .inl e
    · exact .inr ⟨s, (i.iff s).mp h1, h2⟩
  · rintro (e | ⟨s, h1, h2⟩)
    · exact .inl e
    · exact .inr ⟨s, (i.iff s).mpr h1, h2⟩
open Classical in
theorem IsS.ne {bs : List Bk} {h : Str} {S : List Str} (i : IsS bs h S) : (!(S.map D.str).isEmpty) = lpH bs h := by
  unfold lpH
  rw [Bool.eq_iff_iff, decide_eq_true_iff]
  cases S with
  | nil => exact ⟨fun z => (nomatch z), fun ⟨s, hs⟩ => nomatch ((i.iff s).mpr hs)⟩
  | cons a S => exact ⟨fun _ => ⟨a, (i.iff a).mp (List.mem_cons_self ..)⟩, fun _ => rfl⟩
def tru (_ : Str) : D := .bl true
theorem kvs_has (s : Str) (L : List Str) (f : Str → D) : (valD (kvs L f) (.inr s)).isSome = decide (s ∈ L) := by
  by_cases m : s ∈ L
  · rw [kvs_val m, decide_eq_true m]; rfl
  · rw [decide_eq_false m]
    have : (kvs L f).find? (fun kv => decide (kv.1 = .inr s)) = none := by
      rw [List.find?_eq_none]
      intro p hp e
      obtain ⟨t, ht, rfl⟩ := List.mem_map.mp hp
      exact m (Sum.inr.inj (of_decide_eq_true e) ▸ ht)
    unfold valD
    rw [this]
    rfl
theorem kvs_add {L : List Str} {f : Str → D} {s : Str} (h : s ∉ L) : putD (kvs L f) (.inr s) (f s) = kvs (L ++ [s]) f := by
  rw [putD_new]
  · unfold kvs
    rw [List.map_append]
    rfl
  · intro p hp e
    obtain ⟨t, ht, rfl⟩ := List.mem_map.mp hp
    exact h (Sum.inr.inj e ▸ ht)
section
variable {kp : Nat → Nat} {ft : Nat → Option Fd} {wf k : Nat} (X : Fx kp ft) {n1 n2 : Str} {b1 b2 : List Bk}
include X
theorem loop_in (hO : ft 66 = some d_loop_in) (h55 : ft 55 = some d_edges_of) {nm : Str} {bs : List Bk} (w : WfG bs) (hwf : 1000 ≤ wf) {h : Str} (hh : h ∈ rl bs) {S : List Str} (hS : IsS bs h S) : Ret kp ft wf (k + 7) 66 [fz (fnD nm bs), fz (.str h), ow (.lst (S.map D.str))] (fz (.tup ((lpL bs h).map D.str))) := by
  refine .of (W.fn [some (fz (fnD nm bs)), some (fz (.str h)), some (ow (.lst (S.map D.str))), none, none, none, none, none, none] hO rfl rfl rfl ?_ (by show 3 ≤ sizeLine; decide))
  unfold d_loop_in
  dsimp only
  walk_at "ev"
  have le := egs_len w
  have sub : ∀ {F l : List Str}, LInv bs h S F l → F.length ≤ 12 := fun {F l} I => Nat.le_trans (length_le_of_sub I.nd fun x hx => (I.fs x hx).1) (rl_len w)
  refine W.whiles (fun n e => ∃ (F l : List Str) (t5 t6 t7 t8 : Slot), n + 25 * F.length = 325 + l.length ∧ LInv bs h S F l ∧ l.length + 1 ≤ 25 * F.length ∧ e = [some (fz (fnD nm bs)), some (fz (.str h)), some (ow (.lst (S.map D.str))), some (ow (.dct (kvs F tru))), some (ow (.lst (l.map D.str))), t5, t6, t7, t8]) (300 + S.length) (by have := hS.len; omega) ⟨[h], S, none, none, none, none, by rw [List.length_singleton]; omega, LInv.zero hh hS.sub, by have := hS.len; rw [List.length_singleton]; omega, rfl⟩ ?_
  rintro n e hn ⟨F, l, t5, t6, t7, t8, ht, I, ll, rfl⟩
  have lf := sub I
  rcases List.eq_nil_or_concat l with rfl | ⟨l', x, rfl⟩
  · walk_at "evn"
    refine W.comp_on D.str (rl bs) (fun x => decide (x ∈ F)) D.str ?_
    walk_at "ev"
    refine clr X X.reached_in (reached_in' (k := k + 1) X w hwf) (by simp [slotsOf]) rfl rfl ?_
    walk_at "ev"
    refine ⟨rfl, Nat.le_trans (rl_len w) (by decide), rfl, fun x hx => ?_, ?_⟩
    · refine W.cturn_ok rfl ?_
      walk_at "norm"
      walk_at "ev"
      rw [kvs_has]
      refine ⟨fun e => ?_, fun e => ?_⟩
      · walk_at "ev"
        rw [e]
        exact ⟨rfl, rfl⟩
      · rw [e]
        exact ⟨rfl, rfl⟩
    · walk_at "norm"
      rw [hS.lp _ fun x hx => by rw [decide_eq_true_iff]; exact I.done w hx]
      walk_at "ev"
      exact ⟨rfl, rfl⟩
  · rw [List.concat_eq_append] at *
    rw [List.map_append] at *
    walk_at "ev"
    have hne : (!(l'.map D.str ++ [x].map D.str).isEmpty) = true := by simp
    rw [hne]
    rw [List.length_append, List.length_singleton] at ht ll
    walk_at "ev"
    refine ⟨_, _, _, rfl, pop_last _ _, ?_⟩
    dsimp only [List.set]
    refine ⟨_, rfl, ?_⟩
    walk_at "ev"
    rw [kvs_has]
    by_cases c : x ∈ F
    · rw [decide_eq_true c]
      walk_at "ev"
      exact ⟨n - 1, by omega, F, l', _, _, _, _, by omega, I.skip c, by omega, rfl⟩
    · rw [decide_eq_false c]
      walk_at "evn"
      refine ⟨Nat.lt_of_le_of_lt (show _ ≤ 12 by rw [kvs_len]; exact lf) (by decide), ?_⟩
      walk_at "norm"
      rw [show putD (kvs F tru) (.inr x) (.bl true) = kvs (F ++ [x]) tru from kvs_add (f := tru) c]
      walk_at "evx"
      refine W.comp_on Eg.d (egs bs) (fun e => decide (e.g = x)) (fun e => .str e.s) ?_
      walk_at "ev"
      refine clr X h55 (edges_of (k := k) X h55 w hwf) (by simp [slotsOf]) rfl rfl ?_
      walk_at "ev"
      refine ⟨rfl, Nat.le_trans le (by decide), rfl, fun a ha => ?_, ?_⟩
      · refine W.cturn_ok rfl ?_
        walk_at "norm"
        walk_at "ev"
        refine ⟨fun e => ?_, fun e => ?_⟩
        · walk_at "ev"
          rw [e]
          exact ⟨rfl, rfl⟩
        · rw [e]
          exact ⟨rfl, rfl⟩
      · walk_at "norm"
        generalize hP : ((egs bs).filter fun e => decide (e.g = x)).map Eg.s = P
        have hP2 : ∀ z, z ∈ P ↔ z ∈ rl bs ∧ x ∈ succ bs z := by
          intro z
          rw [← hP]
          constructor
          · intro m
            obtain ⟨e, m1, rfl⟩ := List.mem_map.mp m
            obtain ⟨m2, m3⟩ := List.mem_filter.mp m1
            obtain ⟨m4, m5⟩ := egs_mem m2
            exact ⟨m4, of_decide_eq_true m3 ▸ m5⟩
          · rintro ⟨m1, m2⟩
            obtain ⟨j, m3⟩ := egs_of m1 m2
            exact List.mem_map.mpr ⟨_, List.mem_filter.mpr ⟨m3, decide_eq_true rfl⟩, rfl⟩
        have lP : P.length ≤ 24 := by rw [← hP, List.length_map]; exact Nat.le_trans (List.length_filter_le ..) le
        have J := I.take c hP2
        have lJ := sub J
        rw [List.length_append, List.length_singleton] at lJ
        have eP : ((egs bs).filter fun e => decide (e.g = x)).map (fun e => D.str e.s) = P.map D.str := by rw [← hP, List.map_map]; rfl
        rw [eP]
        walk_at "ev"
        refine ⟨_, _, _, rfl, mu_ext (by rw [List.length_map, List.length_map]; exact Nat.le_trans (show _ ≤ 400 by omega) (by decide)), ?_⟩
        walk_at "ev"
        rw [← List.map_append]
        exact ⟨n - 26 + P.length, by omega, F ++ [x], l' ++ P, _, _, _, _, by simp only [List.length_append, List.length_singleton]; omega, J, by simp only [List.length_append, List.length_singleton]; omega, rfl⟩
end
end Ev.G
/-! P23: all loops of a function; shown trees. -/
namespace Ev.G
open PySem L2 Gr
/-! ### shown trees -/
structure Sh (dp sz : Nat) (d : PyData) : Prop where
  sh : d.showable = true
  nd : d.hasDict = false
  dp : d.depth ≤ dp
  sz : d.shown.length ≤ sz
theorem Sh.mono {a b a' b' : Nat} {d : PyData} (h : Sh a b d) (ha : a ≤ a') (hb : b ≤ b') : Sh a' b' d := ⟨h.sh, h.nd, Nat.le_trans h.dp ha, Nat.le_trans h.sz hb⟩
theorem Sh.nm {s : Str} (n : IsNm s) : Sh 0 82 (.str s) := by
  refine ⟨by simp [PyData.showable], by simp [PyData.hasDict], by simp [PyData.depth], ?_⟩
  rw [PyData.shown]
  have := StrLaws.reprText_len s fun c hc => by
    have := n.low c hc
    have : (16 : Nat) ^ 8 = 4294967296 := by decide
    omega
  have l := len_tl s
  have := n.len.2
  omega
theorem Sh.all {a b : Nat} : ∀ {ds : List D}, (∀ d ∈ ds, Sh a b (py d)) → PyData.showableAll (pys ds) = true ∧ PyData.hasDictAll (pys ds) = false ∧ PyData.depthAll (pys ds) ≤ a ∧ (PyData.shownAll (pys ds)).length = ds.length ∧ ∀ t ∈ PyData.shownAll (pys ds), t.length ≤ b
  | [], _ => by
    rw [pys]
    simp [PyData.showableAll, PyData.hasDictAll, PyData.depthAll, PyData.shownAll]
  | d :: ds, h => by
    have h1 := h d (List.mem_cons_self ..)
    obtain ⟨i1, i2, i3, i4, i5⟩ := Sh.all fun x hx => h x (List.mem_cons_of_mem _ hx)
    rw [pys, PyData.showableAll, PyData.hasDictAll, PyData.depthAll, PyData.shownAll, h1.sh, h1.nd, i1, i2]
    refine ⟨rfl, rfl, Nat.max_le.mpr ⟨h1.dp, i3⟩, by rw [List.length_cons, List.length_cons, i4], ?_⟩
    intro t ht
    rcases List.mem_cons.mp ht with rfl | ht
    · exact h1.sz
    · exact i5 t ht
theorem Sh.lst {a b n : Nat} {ds : List D} (h : ∀ d ∈ ds, Sh a b (py d)) (l : ds.length ≤ n) : Sh (a + 1) (n * (b + 2) + 4) (py (.lst ds)) := by
  obtain ⟨i1, i2, i3, i4, i5⟩ := Sh.all h
  rw [py]
  refine ⟨by rw [PyData.showable, i1], by rw [PyData.hasDict, i2], by rw [PyData.depth]; omega, ?_⟩
  rw [PyData.shown]
  unfold listText
  have h2 := textFrom_le (PyData.shownAll (pys ds)) 0 (Str.ofString "[") i5
  have h3 : (PyData.shownAll (pys ds)).length * (b + 2) ≤ n * (b + 2) := Nat.mul_le_mul_right _ (by omega)
  rw [Str.length_append]
  have : (Str.ofString "]").length = 1 := by decide +kernel
  have : (Str.ofString "[").length = 1 := by decide +kernel
  omega
theorem join_le {b : Nat} : ∀ ts : List Str, (∀ t ∈ ts, t.length ≤ b) → (Str.join ", " ts).length ≤ ts.length * (b + 2)
  | [], _ => by show (0 : Nat) ≤ _; omega
  | [x], h => by
    show x.length ≤ _
    have := h x (List.mem_cons_self ..)
    rw [List.length_singleton]
    omega
  | x :: y :: r, h => by
    have h1 := h x (List.mem_cons_self ..)
    have ih := join_le (y :: r) fun t ht => h t (List.mem_cons_of_mem _ ht)
    show (x ++ ", " ++ Str.join ", " (y :: r)).length ≤ (y :: r).length.succ * (b + 2)
    rw [Str.length_append, Str.length_append, Nat.succ_mul]
    have : (Str.ofString ", ").length = 2 := by decide +kernel
    omega
theorem Sh.tup {a b n : Nat} {ds : List D} (h : ∀ d ∈ ds, Sh a b (py d)) (l : ds.length ≤ n) : Sh (a + 1) (n * (b + 2) + 4) (py (.tup ds)) := by
  obtain ⟨i1, i2, i3, i4, i5⟩ := Sh.all h
  rw [py]
  refine ⟨by rw [PyData.showable, i1], by rw [PyData.hasDict, i2], by rw [PyData.depth]; omega, ?_⟩
  rw [PyData.shown]
  unfold tupleText
  have h2 := join_le (PyData.shownAll (pys ds)) i5
  have h3 : (PyData.shownAll (pys ds)).length * (b + 2) ≤ n * (b + 2) := Nat.mul_le_mul_right _ (by omega)
  rw [Str.length_append, Str.length_append]
  have h4 : (Str.ofString "(").length = 1 := by decide +kernel
  have h5 : (Str.ofString (if (PyData.shownAll (pys ds)).length == 1 then ",)" else ")" : String)).length ≤ 2 := by split <;> decide +kernel
  omega
theorem Sh.repr {a b : Nat} {d : D} (h : Sh a b (py d)) (ha : a ≤ 64) (hb : b ≤ sizeLine) (hd : dispD d = true) : biD .repr d = some (fz (.str (py d).shown)) := by
  have key : (if dispD d = true ∧ (py d).showable = true ∧ (py d).hasDict = false ∧ (py d).shown.length ≤ sizeLine ∧ (py d).depth ≤ 64 then some (fz (.str (py d).shown)) else none) = some (fz (.str (py d).shown)) := if_pos ⟨hd, h.sh, h.nd, Nat.le_trans h.sz hb, Nat.le_trans h.dp ha⟩
  cases d <;> first | exact key | exact absurd hd Bool.false_ne_true
theorem py_str (s : Str) : py (.str s) = .str s := by rw [py]
theorem sh_names {L : List Str} (h : ∀ s ∈ L, IsNm s) : ∀ d ∈ L.map D.str, Sh 0 82 (py d) := by
  intro d hd
  obtain ⟨s, hs, rfl⟩ := List.mem_map.mp hd
  rw [py_str]
  exact Sh.nm (h s hs)
theorem sh_lp {bs : List Bk} (w : WfG bs) {h : Str} (hh : h ∈ rl bs) : Sh 2 2032 (py (lpD bs h)) := by
  unfold lpD
  refine Sh.tup (a := 1) (b := 1012) (n := 2) ?_ (Nat.le_refl _)
  intro d hd
  rcases List.mem_cons.mp hd with rfl | hd
  · rw [py_str]
    exact (Sh.nm (w.nm h (rl_sub hh))).mono (by omega) (by omega)
  · cases List.mem_singleton.mp hd
    exact Sh.tup (a := 0) (b := 82) (n := 12) (sh_names fun s hs => w.nm s (rl_sub (lpL_sub hs))) (by rw [List.length_map]; exact lpL_len w h)
theorem lps_len {bs : List Bk} (w : WfG bs) : (lps bs).length ≤ 12 := by
  unfold lps
  rw [List.length_map]
  exact Nat.le_trans (List.length_filter_le ..) (rl_len w)
theorem repr_lps {bs : List Bk} (w : WfG bs) : biD .repr (.lst (lps bs)) = some (fz (.str (py (.lst (lps bs))).shown)) := by
  refine Sh.repr (a := 3) (b := 12 * 2034 + 4) (Sh.lst (b := 2032) ?_ (lps_len w)) (by decide) (by decide) rfl
  intro d hd
  obtain ⟨h, hh, rfl⟩ := List.mem_map.mp hd
  exact sh_lp w (List.mem_filter.mp hh).1
theorem filter_take {α : Type} {p : α → Bool} {l : List α} {i : Nat} {a : α} (h : l[i]? = some a) : (l.take (i + 1)).filter p = (l.take i).filter p ++ (if p a then [a] else []) := by
  rw [take_snoc h, List.filter_append, List.filter_cons]
  rfl
section
variable {kp : Nat → Nat} {ft : Nat → Option Fd} {wf k : Nat} (X : Fx kp ft) {n1 n2 : Str} {b1 b2 : List Bk}
include X
theorem loops_in (hO : ft 67 = some d_loops_in) (h66 : ft 66 = some d_loop_in) (h65 : ft 65 = some d_back_edges_in) (h55 : ft 55 = some d_edges_of) {nm : Str} {bs : List Bk} (w : WfG bs) (hwf : 1000 ≤ wf) : Ret kp ft wf (k + 8) 67 [fz (fnD nm bs)] (ow (.lst (lps bs))) := by
  refine .of (W.fn [some (fz (fnD nm bs)), none, none, none, none, none, none, none] hO rfl rfl rfl ?_ (by show 1 ≤ sizeLine; decide))
  unfold d_loops_in
  dsimp only
  walk_at "ev"
  refine clr X h65 (back_edges_in (k := k) X h65 h55 w hwf) (by simp [slotsOf]) rfl rfl ?_
  walk_at "ev"
  refine W.fors ?_
  walk_at "ev"
  refine clr X X.reached_in (reached_in' (k := k + 2) X w hwf) (by simp [slotsOf]) rfl rfl ?_
  walk_at "ev"
  have lr := rl_len w
  refine ⟨fun j e => ∃ (o : Bool) (t3 t4 : Slot), e = [some (fz (fnD nm bs)), some (o, .lst ((bks bs).map Eg.d)), some (ow (.lst ((((rl bs).take j).filter (lpH bs)).map (lpD bs)))), t3, t4, none, none, none], ⟨_, _, _, rfl⟩, ?_, ?_⟩
  · rintro j d e hd ⟨o, t3, t4, rfl⟩
    obtain ⟨h, hs, rfl⟩ := strs_get hd
    have hh : h ∈ rl bs := List.mem_of_getElem? hs
    refine ⟨_, rfl, ?_⟩
    walk_at "norm"
    rw [filter_take hs]
    cases o
    all_goals
      refine W.ss_cons (W.asg ?_)
      refine W.comp_on Eg.d (bks bs) (fun e => decide (e.g = h)) (fun e => .str e.s) ?_
      walk_at "ev"
      refine ⟨rfl, Nat.le_trans (Nat.le_trans (List.length_filter_le ..) (egs_len w)) (by decide), rfl, fun a ha => ?_, ?_⟩
      · refine W.cturn_ok rfl ?_
        walk_at "norm"
        walk_at "ev"
        refine ⟨fun e => ?_, fun e => ?_⟩
        · walk_at "ev"
          rw [e]
          exact ⟨rfl, rfl⟩
        · rw [e]
          exact ⟨rfl, rfl⟩
      · walk_at "norm"
        generalize hP : ((bks bs).filter fun e => decide (e.g = h)).map Eg.s = S
        have eP : ((bks bs).filter fun e => decide (e.g = h)).map (fun e => D.str e.s) = S.map D.str := by rw [← hP, List.map_map]; rfl
        have hS : IsS bs h S := by
          refine ⟨fun z => ?_, ?_⟩
          · rw [← hP]
            constructor
            · intro m
              obtain ⟨e, m1, rfl⟩ := List.mem_map.mp m
              obtain ⟨m2, m3⟩ := List.mem_filter.mp m1
              obtain ⟨m4, m5⟩ := bks_mem.mp m2
              cases of_decide_eq_true m3
              exact ⟨m5, (egs_mem m4).2⟩
            · rintro ⟨m1, m2⟩
              obtain ⟨j, m3⟩ := egs_of (cov_sub m1) m2
              exact List.mem_map.mpr ⟨_, List.mem_filter.mpr ⟨bks_mem.mpr ⟨m3, m1⟩, decide_eq_true rfl⟩, rfl⟩
          · rw [← hP, List.length_map]
            exact Nat.le_trans (List.length_filter_le ..) (Nat.le_trans (List.length_filter_le ..) (egs_len w))
        rw [eP]
        walk_at "ev"
        rw [hS.ne]
        walk_at "ev"
        refine ⟨fun e => ?_, fun e => ?_⟩
        · rw [if_pos e]
          walk_at "ev"
          refine clr X h66 (loop_in (k := k) X h66 h55 w hwf hh hS) (by simp [slotsOf]) rfl rfl ?_
          walk_at "ev"
          refine ⟨_, _, _, rfl, mu_app (by rw [List.length_map]; exact Nat.lt_of_le_of_lt (show _ ≤ 12 from Nat.le_trans (List.length_filter_le ..) (by rw [List.length_take]; omega)) (by decide)), ?_⟩
          walk_at "ev"
          rw [List.map_append]
          exact ⟨_, _, _, rfl⟩
        · rw [if_neg (by rw [e]; exact Bool.false_ne_true), List.append_nil]
          walk_at "ev"
          exact ⟨_, _, _, rfl⟩
  · rintro e ⟨o, t3, t4, rfl⟩
    rw [List.length_map, List.take_length]
    walk_at "ev"
    exact ⟨rfl, rfl⟩
theorem loops (hO : ft 68 = some d_loops) (h67 : ft 67 = some d_loops_in) (h66 : ft 66 = some d_loop_in) (h65 : ft 65 = some d_back_edges_in) (h55 : ft 55 = some d_edges_of) (m : WfM n1 b1 n2 b2) (hwf : 1000 ≤ wf) {f : Str} {bs : List Bk} (hf : isFn n1 b1 n2 b2 f bs) : Ret kp ft wf (k + 11) 68 [fz (mdD n1 b1 n2 b2), fz (.str f)] (ow (.lst (lps bs))) := by
  obtain ⟨x, hc⟩ := parts_for0 (wf := wf) (k := k) X m hwf hf
  refine .of (W.fn [some (fz (mdD n1 b1 n2 b2)), some (fz (.str f))] hO rfl rfl rfl ?_ (by show 2 ≤ sizeLine; decide))
  unfold d_loops
  dsimp only
  walk_at "ev"
  refine cl X X.parts_for hc [some (fz (mdD n1 b1 n2 b2)), some (fz (.str f))] (by simp [slotsOf]) rfl rfl ?_
  walk_at "ev"
  refine clr X h67 (loops_in (k := k + 2) X h67 h66 h65 h55 (wfg_of X m hf) hwf) (by simp [slotsOf]) rfl rfl ?_
  walk_at "ev"
  exact ⟨rfl, rfl⟩
noncomputable def dpN (bs : List Bk) (s : Str) : Nat := (((rl bs).filter (lpH bs)).filter fun h => decide (s ∈ lpL bs h)).length
omit X in
theorem in_tup_strs (s : Str) (L : List Str) : cmpD .isin (.str s) (.tup (L.map D.str)) = some (decide (s ∈ L)) := by
  show inD (.str s) (.tup (L.map D.str)) = _
  unfold inD
  simp only
  rw [if_pos (by rw [flat_strs]; rfl), any_strs]
theorem depth (hO : ft 69 = some d_depth) (h67 : ft 67 = some d_loops_in) (h66 : ft 66 = some d_loop_in) (h65 : ft 65 = some d_back_edges_in) (h55 : ft 55 = some d_edges_of) (m : WfM n1 b1 n2 b2) (hwf : 1000 ≤ wf) {f : Str} {bs : List Bk} (hf : isFn n1 b1 n2 b2 f bs) {s : Str} (hs : s ∈ rl bs) : Ret kp ft wf (k + 11) 69 [fz (mdD n1 b1 n2 b2), fz (.str f), fz (.str s)] (fz (.int (dpN bs s))) := by
  obtain ⟨x, hc⟩ := parts_for1 (wf := wf) (k := k) X m hwf hf hs
  have w := wfg_of X m hf
  refine .of (W.fn [some (fz (mdD n1 b1 n2 b2)), some (fz (.str f)), some (fz (.str s)), none, none] hO rfl rfl rfl ?_ (by show 3 ≤ sizeLine; decide))
  unfold d_depth
  dsimp only
  walk_at "ev"
  refine W.comp_on (lpD bs) ((rl bs).filter (lpH bs)) (fun h => decide (s ∈ lpL bs h)) D.str ?_
  walk_at "ev"
  refine cl X X.parts_for hc [some (fz (mdD n1 b1 n2 b2)), some (fz (.str f)), some (fz (.str s)), none, none] (by simp [slotsOf]) rfl rfl ?_
  walk_at "ev"
  refine clr X h67 (loops_in (k := k + 2) X h67 h66 h65 h55 w hwf) (by simp [slotsOf]) rfl rfl ?_
  walk_at "ev"
  refine ⟨rfl, Nat.le_trans (Nat.le_trans (List.length_filter_le ..) (rl_len w)) (by decide), rfl, fun h _ => ?_, ?_⟩
  · refine W.cturn_ok rfl ?_
    walk_at "norm"
    walk_at "ev"
    refine ⟨_, _, _, rfl, rfl, in_tup_strs _ _, ?_⟩
    walk_at "ev"
    refine ⟨fun e => ?_, fun e => ?_⟩
    · walk_at "ev"
      rw [e]
      exact ⟨rfl, rfl⟩
    · rw [e]
      exact ⟨rfl, rfl⟩
  · walk_at "norm"
    walk_at "ev"
    rw [List.length_map]
    exact ⟨rfl, rfl⟩
theorem law_rounds (hO : ft 70 = some d_law_rounds) (h53 : ft 53 = some d_law_over) (h58 : ft 58 = some d_law_arrows) {bs : List Bk} (w : WfG bs) (hwf : 1000 ≤ wf) : Ret kp ft wf (k + 5) 70 [fz (.tup (bksD 0 bs))] (ow (.lst (lps bs))) := by
  refine .of (W.fn [some (fz (.tup (bksD 0 bs))), none, none, none, none, none, none, none, none, none, none] hO rfl rfl rfl ?_ (by show 1 ≤ sizeLine; decide))
  unfold d_law_rounds
  dsimp only
  walk_at "ev"
  refine clr X h53 (law_over (k := k) X h53 w hwf) (by simp [slotsOf]) rfl rfl ?_
  walk_at "ev"
  refine clr X h58 (law_arrows (k := k) X h58 w hwf) (by simp [slotsOf]) rfl rfl ?_
  walk_at "ev"
  refine W.fors ?_
  walk_at "ev"
  rw [covK_kvs, kvs_keys, ← covK_kvs]
  have lr := rl_len w
  have la : (ars bs).length ≤ 24 := by
    have := arL_len bs bs
    have := w.len.2
    unfold ars
    omega
  refine ⟨fun j e => ∃ (o : Bool) (t4 t5 t8 t9 t10 : Slot), e = [some (fz (.tup (bksD 0 bs))), some (fz (.dct (covK bs))), some (o, .lst ((ars bs).map arD)), some (ow (.lst ((((rl bs).take j).filter (lpH bs)).map (lpD bs)))), t4, t5, none, none, t8, t9, t10], ⟨_, _, _, _, _, _, rfl⟩, ?_, ?_⟩
  · rintro j d e hd ⟨o, t4, t5, t8, t9, t10, rfl⟩
    obtain ⟨h, hs, rfl⟩ := strs_get hd
    have hh : h ∈ rl bs := List.mem_of_getElem? hs
    refine ⟨_, rfl, ?_⟩
    walk_at "norm"
    rw [filter_take hs]
    cases o
    all_goals
      refine W.ss_cons (W.asg ?_)
      refine W.comp_on arD (ars bs) (fun a => decide (a.2 = h) && decide (a.1 ∈ cov bs h)) (fun a => .str a.1) ?_
      walk_at "ev"
      refine ⟨rfl, Nat.le_trans la (by decide), rfl, fun a ha => ?_, ?_⟩
      · refine W.cturn_ok rfl ?_
        walk_at "norm"
        walk_at "ev"
        refine ⟨fun e => ?_, fun e => ?_⟩
        · rw [e]
          walk_at "ev"
          refine ⟨_, _, _, rfl, rfl, idx_cov hh, ?_⟩
          walk_at "ev"
          refine ⟨_, _, _, rfl, rfl, in_strs _ _, ?_⟩
          walk_at "ev"
          refine ⟨fun e => ?_, fun e => ?_⟩
          · walk_at "ev"
            rw [e]
            exact ⟨rfl, rfl⟩
          · rw [e]
            exact ⟨rfl, rfl⟩
        · rw [e]
          walk_at "ev"
          exact ⟨rfl, rfl⟩
      · walk_at "norm"
        generalize hP : ((ars bs).filter fun a => decide (a.2 = h) && decide (a.1 ∈ cov bs h)).map Prod.fst = S
        have eP : ((ars bs).filter fun a => decide (a.2 = h) && decide (a.1 ∈ cov bs h)).map (fun a => D.str a.1) = S.map D.str := by rw [← hP, List.map_map]; rfl
        have hS : IsS bs h S := by
          refine ⟨fun z => ?_, ?_⟩
          · rw [← hP]
            constructor
            · intro m
              obtain ⟨⟨s, g⟩, m1, rfl⟩ := List.mem_map.mp m
              obtain ⟨m2, m3⟩ := List.mem_filter.mp m1
              rw [Bool.and_eq_true, decide_eq_true_iff, decide_eq_true_iff] at m3
              obtain ⟨rfl, m5⟩ := m3
              exact ⟨m5, ((ars_mem w).mp m2).2⟩
            · rintro ⟨m1, m2⟩
              refine List.mem_map.mpr ⟨(z, h), List.mem_filter.mpr ⟨(ars_mem w).mpr ⟨cov_sub m1, m2⟩, ?_⟩, rfl⟩
              rw [Bool.and_eq_true, decide_eq_true_iff, decide_eq_true_iff]
              exact ⟨rfl, m1⟩
          · rw [← hP, List.length_map]
            exact Nat.le_trans (List.length_filter_le ..) la
        rw [eP]
        have lS := hS.len
        walk_at "ev"
        rw [hS.ne]
        walk_at "ev"
        refine ⟨fun e => ?_, fun e => ?_⟩
        · rw [if_pos e]
          clear e
          walk_at "ev"
          refine W.fors ?_
          walk_at "ev"
          rw [covK_kvs, kvs_keys, ← covK_kvs]
          open Classical in
          refine ⟨fun q e => ∃ (o : Bool) (t9 t10 : Slot), e = [some (fz (.tup (bksD 0 bs))), some (fz (.dct (covK bs))), some (fz (.lst ((ars bs).map arD))), some (ow (.lst ((((rl bs).take j).filter (lpH bs)).map (lpD bs)))), some (fz (.str h)), some (o, .lst (S.map D.str)), none, none, some (ow (.lst ((h :: (((rl bs).take q).filter fun x => decide (∃ s ∈ S, Rch (succ bs) (some h) x s))).map D.str))), t9, t10], ⟨_, _, _, rfl⟩, ?_, ?_⟩
          · rintro q d e hd ⟨o, t9, t10, rfl⟩
            obtain ⟨x, hxs, rfl⟩ := strs_get hd
            have hx : x ∈ rl bs := List.mem_of_getElem? hxs
            obtain ⟨L, hL, hc⟩ := law_reached (wf := wf) (k := k + 2) X w hwf (some h) (rl_sub hx)
            refine ⟨_, rfl, ?_⟩
            walk_at "norm"
            rw [filter_take hxs]
            refine W.ss_cons ?_
            walk_at "evy"
            refine clr X X.law_reached hc (by simp [slotsOf]) rfl rfl ?_
            walk_at "evy"
            refine W.ss_cons ?_
            refine W.ifs (W.c_cmp (W.cmp (W.o_tm nofun ?_)))
            cases o
            all_goals
              refine W.comp_on D.str S (fun s => decide (s ∈ L)) D.str ?_
              walk_at "ev"
              refine ⟨rfl, Nat.le_trans lS (by decide), rfl, fun s _ => ?_, ?_⟩
              · refine W.cturn_ok rfl ?_
                walk_at "norm"
                walk_at "ev"
                refine ⟨_, _, _, rfl, rfl, in_strs _ _, ?_⟩
                walk_at "ev"
                refine ⟨fun e => ?_, fun e => ?_⟩
                · walk_at "ev"
                  rw [e]
                  exact ⟨rfl, rfl⟩
                · rw [e]
                  exact ⟨rfl, rfl⟩
              · walk_at "norm"
                walk_at "ev"
                have ee : (!((S.filter fun s => decide (s ∈ L)).map D.str).isEmpty) = decide (∃ s ∈ S, Rch (succ bs) (some h) x s) := by
                  rw [Bool.eq_iff_iff, decide_eq_true_iff]
                  constructor
                  · intro ne
                    cases hf : S.filter fun s => decide (s ∈ L) with
                    | nil => rw [hf] at ne; exact nomatch ne
                    | cons a r =>
                      have ma : a ∈ S.filter fun s => decide (s ∈ L) := by rw [hf]; exact List.mem_cons_self ..
                      obtain ⟨m1, m2⟩ := List.mem_filter.mp ma
                      exact ⟨a, m1, (hL.iff a).mp (of_decide_eq_true m2)⟩
                  · rintro ⟨s, m1, m2⟩
                    have ma : s ∈ S.filter fun s => decide (s ∈ L) := List.mem_filter.mpr ⟨m1, decide_eq_true ((hL.iff s).mpr m2)⟩
                    cases hf : S.filter fun s => decide (s ∈ L) with
                    | nil => rw [hf] at ma; exact nomatch ma
                    | cons a r => rfl
                rw [ee]
                walk_at "ev"
                refine ⟨fun e => ?_, fun e => ?_⟩
                · rw [if_pos e]
                  walk_at "ev"
                  refine ⟨_, _, _, rfl, mu_app (by rw [List.length_map, List.length_cons]; exact Nat.lt_of_le_of_lt (show _ ≤ 13 from Nat.succ_le_succ (Nat.le_trans (List.length_filter_le ..) (by rw [List.length_take]; omega))) (by decide)), ?_⟩
                  walk_at "ev"
                  rw [← List.cons_append, List.map_append]
                  exact ⟨_, _, _, rfl⟩
                · rw [if_neg (by rw [e]; exact Bool.false_ne_true), List.append_nil]
                  walk_at "ev"
                  exact ⟨_, _, _, rfl⟩
          · rintro e ⟨o, t9, t10, rfl⟩
            rw [List.length_map, List.take_length]
            walk_at "evx"
            refine W.comp_on D.str (rl bs) (fun x => decide (x ∈ h :: (rl bs).filter fun x => decide (∃ s ∈ S, Rch (succ bs) (some h) x s))) D.str ?_
            walk_at "ev"
            rw [covK_kvs, kvs_keys, ← covK_kvs]
            refine ⟨rfl, Nat.le_trans lr (by decide), rfl, fun x _ => ?_, ?_⟩
            · refine W.cturn_ok rfl ?_
              walk_at "norm"
              walk_at "ev"
              refine ⟨_, _, _, rfl, rfl, in_strs _ _, ?_⟩
              walk_at "ev"
              refine ⟨fun e => ?_, fun e => ?_⟩
              · walk_at "ev"
                rw [e]
                exact ⟨rfl, rfl⟩
              · rw [e]
                exact ⟨rfl, rfl⟩
            · walk_at "norm"
              open Classical in
              have eL := hS.lp (fun x => decide (x ∈ h :: (rl bs).filter fun x => decide (∃ s ∈ S, Rch (succ bs) (some h) x s))) fun x hx => by
                rw [decide_eq_true_iff, List.mem_cons, List.mem_filter, decide_eq_true_iff]
                exact ⟨fun z => z.imp id And.right, fun z => z.imp id fun y => ⟨hx, y⟩⟩
              rw [eL]
              walk_at "ev"
              refine ⟨_, _, _, rfl, mu_app (by rw [List.length_map]; exact Nat.lt_of_le_of_lt (show _ ≤ 12 from Nat.le_trans (List.length_filter_le ..) (by rw [List.length_take]; omega)) (by decide)), ?_⟩
              walk_at "ev"
              rw [List.map_append]
              exact ⟨_, _, _, _, _, _, rfl⟩
        · rw [if_neg (by rw [e]; exact Bool.false_ne_true), List.append_nil]
          walk_at "ev"
          exact ⟨_, _, _, _, _, _, rfl⟩
  · rintro e ⟨o, t4, t5, t8, t9, t10, rfl⟩
    rw [List.length_map, List.take_length]
    walk_at "ev"
    exact ⟨rfl, rfl⟩
end
end Ev.G
/-! P24: reducible functions (law k25); a row among rows. -/
namespace Ev.W
open PySem L2
/-- as comp_on, with slots that may change from turn to turn -/
theorem comp_onI {pg : Pg} {cf : Nat → List Rv → COut} {keep : Nat} {env : Ev} {e : Tm} {tg : List Nat} {one : Bool} {it : It} {c : To'} {own : List Nat} {Q : Rv → Ev → Prop} {α : Type} (f : α → D) (L : List α) (p : α → Bool) (h : α → D)
    (q : WI pg cf keep it env fun items e1 => items = L.map f ∧ L.length ≤ sizeLine ∧ tg.all own.contains = true ∧ ∃ J : Ev → Prop, J (wipeE e1 own) ∧ (∀ a ∈ L, ∀ e0, J e0 → ∃ o e', cturn pg cf keep e tg one c own (f a) e0 = .ok o e' ∧ o = (if p a then some (h a) else none) ∧ J e') ∧ ∀ e0, J e0 → Q (ow (.lst ((L.filter p).map h))) (restE e0 e1 own)) : WE pg cf keep (.comp e tg one it c own) env Q := by
  obtain ⟨items, e1, h0, rfl, h1, h2, J, j0, h3, q⟩ := q
  have key : ∀ (l : List α) (e0 : Ev), (∀ a ∈ l, a ∈ L) → J e0 → ∃ e', compLoop (cturn pg cf keep e tg one c own) (l.map f) e0 = .ok ((l.filter p).map h) e' ∧ J e' := by
    intro l
    induction l with
    | nil => intro e0 _ j; exact ⟨e0, rfl, j⟩
    | cons d l ih =>
      intro e0 hl j
      obtain ⟨o, e', k1, rfl, j1⟩ := h3 d (hl d (List.mem_cons_self ..)) e0 j
      obtain ⟨e'', k2, j2⟩ := ih e' (fun x hx => hl x (List.mem_cons_of_mem _ hx)) j1
      refine ⟨e'', ?_, j2⟩
      rw [List.map_cons, List.filter_cons]
      simp only [compLoop, k1, Out.bind, k2]
      cases p d <;> rfl
  obtain ⟨e', k1, j1⟩ := key L _ (fun _ m => m) j0
  exact comp ⟨_, e1, h0, by rw [List.length_map]; exact h1, h2, _, _, k1, q e' j1⟩
end Ev.W
namespace Ev.G
open PySem L2 Gr
/-! ### rows among rows -/
structure Ly (n : Nat) (d : PyData) : Prop where
  ly : d.canLay0 = true
  dp : d.depth ≤ n
theorem Ly.mono {a b : Nat} {d : PyData} (h : Ly a d) (l : a ≤ b) : Ly b d := ⟨h.ly, Nat.le_trans h.dp l⟩
theorem Ly.nm {s : Str} (n : IsNm s) : Ly 0 (.str s) := by
  refine ⟨?_, by simp [PyData.depth]⟩
  rw [PyData.canLay0]
  unfold PyData.strOk
  rw [← Array.all_toList, List.all_eq_true]
  intro c hc
  have := n.low c hc
  exact decide_eq_true (by omega)
theorem Ly.int (i : Int) : Ly 0 (.int i) := ⟨by simp [PyData.canLay0], by simp [PyData.depth]⟩
theorem Ly.all {n : Nat} : ∀ {ds : List D}, (∀ d ∈ ds, Ly n (py d)) → PyData.canLayAll0 (pys ds) = true ∧ PyData.depthAll (pys ds) ≤ n
  | [], _ => by
    rw [pys]
    simp [PyData.canLayAll0, PyData.depthAll]
  | d :: ds, h => by
    have h1 := h d (List.mem_cons_self ..)
    obtain ⟨i1, i2⟩ := Ly.all fun x hx => h x (List.mem_cons_of_mem _ hx)
    rw [pys, PyData.canLayAll0, PyData.depthAll, h1.ly, i1]
    exact ⟨rfl, Nat.max_le.mpr ⟨h1.dp, i2⟩⟩
theorem Ly.tup {n : Nat} {ds : List D} (h : ∀ d ∈ ds, Ly n (py d)) : Ly (n + 1) (py (.tup ds)) := by
  obtain ⟨i1, i2⟩ := Ly.all h
  rw [py]
  exact ⟨by rw [PyData.canLay0, i1], by rw [PyData.depth]; omega⟩
theorem Ly.lst {n : Nat} {ds : List D} (h : ∀ d ∈ ds, Ly n (py d)) : Ly (n + 1) (py (.lst ds)) := by
  obtain ⟨i1, i2⟩ := Ly.all h
  rw [py]
  exact ⟨by rw [PyData.canLay0, i1], by rw [PyData.depth]; omega⟩
theorem Ly.shaped {n : Nat} {d : PyData} (h : Ly n d) (hn : n ≤ 64) : SeqAt.shaped d = true := by
  unfold SeqAt.shaped
  rw [h.ly, decide_eq_true (Nat.le_trans h.dp hn)]
  rfl
theorem in_rows {α : Type} [DecidableEq α] {f : α → D} (hq : ∀ a b, PyData.eqv (py (f a)) (py (f b)) = decide (a = b)) (hf : ∀ a, flatD (f a) = false) {n : Nat} (hn : n + 1 ≤ 64) {x : α} {L : List α} (hx : Ly n (py (f x))) (hL : ∀ a ∈ L, Ly n (py (f a))) : inD (f x) (.lst (L.map f)) = some (decide (x ∈ L)) := by
  have e1 : (flatD (f x) && (L.map f).all flatD) = false := by rw [hf]; rfl
  have h2 : Ly (n + 1) (py (.lst (L.map f))) := Ly.lst fun d hd => by
    obtain ⟨a, ha, rfl⟩ := List.mem_map.mp hd
    exact hL a ha
  have e2 : ∀ M : List α, ((pys (M.map f)).any fun z => PyData.eqv z (py (f x))) = decide (x ∈ M) := by
    intro M
    induction M with
    | nil => rw [List.map_nil, pys]; simp
    | cons a M ih =>
      rw [List.map_cons, pys, List.any_cons, ih, hq, Bool.eq_iff_iff]
      simp only [Bool.or_eq_true, decide_eq_true_iff, List.mem_cons]
      constructor
      · rintro (e | e)
        · exact .inl e.symm
        · exact .inr e
      · rintro (e | e)
        · exact .inl e.symm
        · exact .inr e
  unfold inD
  simp only
  rw [e1, if_neg Bool.false_ne_true, if_pos ⟨hx.shaped (by omega), h2.shaped hn⟩, e2]
theorem beq_str (a b : Str) : (a == b) = decide (a = b) := eqF_str a b
instance : DecidableEq Eg := fun a b =>
  if h : a.s = b.s ∧ a.i = b.i ∧ a.g = b.g then isTrue (by cases a; cases b; simp_all) else isFalse (fun e => h (by subst e; exact ⟨rfl, rfl, rfl⟩))
theorem eqv_eg (a b : Eg) : PyData.eqv (py a.d) (py b.d) = decide (a = b) := by
  obtain ⟨s, i, g⟩ := a
  obtain ⟨s', i', g'⟩ := b
  unfold Eg.d
  simp only [py, pys, PyData.eqv, PyData.eqvAll, beq_str, Bool.and_true]
  rw [Bool.eq_iff_iff]
  simp only [Bool.and_eq_true, decide_eq_true_iff, beq_iff_eq, Eg.mk.injEq, Int.ofNat_inj]
theorem eqv_ar (a b : Str × Str) : PyData.eqv (py (arD a)) (py (arD b)) = decide (a = b) := by
  obtain ⟨s, g⟩ := a
  obtain ⟨s', g'⟩ := b
  unfold arD
  simp only [py, pys, PyData.eqv, PyData.eqvAll, beq_str, Bool.and_true]
  rw [Bool.eq_iff_iff]
  simp only [Bool.and_eq_true, decide_eq_true_iff, Prod.mk.injEq]
theorem ly_eg {bs : List Bk} (w : WfG bs) {e : Eg} (h : e ∈ egs bs) : Ly 1 (py e.d) := by
  obtain ⟨h1, h2⟩ := egs_mem h
  unfold Eg.d
  refine Ly.tup fun d hd => ?_
  simp only [List.mem_cons, List.not_mem_nil, or_false] at hd
  rcases hd with rfl | rfl | rfl
  · rw [py_str]; exact .nm (w.nm _ (rl_sub h1))
  · rw [py]; exact .int _
  · rw [py_str]; exact .nm (w.nm _ (rl_sub (rl_succ w h1 h2)))
theorem ly_ar {bs : List Bk} (w : WfG bs) {s g : Str} (h1 : s ∈ names bs) (h2 : g ∈ names bs) : Ly 1 (py (arD (s, g))) := by
  unfold arD
  refine Ly.tup fun d hd => ?_
  simp only [List.mem_cons, List.not_mem_nil, or_false] at hd
  rcases hd with rfl | rfl
  · rw [py_str]; exact .nm (w.nm _ h1)
  · rw [py_str]; exact .nm (w.nm _ h2)
/-! ### edges that lead on -/
noncomputable def fA (bs : List Bk) : List (Str × Str) := (ars bs).filter fun a => !decide (a.1 ∈ cov bs a.2)
noncomputable def fS (bs : List Bk) (x : Str) : List Str := ((fA bs).filter fun a => decide (a.1 = x)).map Prod.snd
theorem fS_mem {bs : List Bk} (w : WfG bs) {x y : Str} : y ∈ fS bs x ↔ x ∈ rl bs ∧ y ∈ succ bs x ∧ x ∉ cov bs y := by
  unfold fS fA
  constructor
  · intro h
    obtain ⟨⟨s, g⟩, m1, rfl⟩ := List.mem_map.mp h
    obtain ⟨m2, m3⟩ := List.mem_filter.mp m1
    obtain ⟨m4, m5⟩ := List.mem_filter.mp m2
    cases of_decide_eq_true m3
    obtain ⟨m6, m7⟩ := (ars_mem w).mp m4
    refine ⟨m6, m7, ?_⟩
    simpa using m5
  · rintro ⟨h1, h2, h3⟩
    exact List.mem_map.mpr ⟨(x, y), List.mem_filter.mpr ⟨List.mem_filter.mpr ⟨(ars_mem w).mpr ⟨h1, h2⟩, by simpa using h3⟩, decide_eq_true rfl⟩, rfl⟩
theorem ars_len {bs : List Bk} (w : WfG bs) : (ars bs).length ≤ 24 := by
  have := arL_len bs bs
  have := w.len.2
  unfold ars
  omega
theorem fS_len {bs : List Bk} (w : WfG bs) (x : Str) : (fS bs x).length ≤ 24 := by
  unfold fS
  rw [List.length_map]
  exact Nat.le_trans (List.length_filter_le ..) (Nat.le_trans (List.length_filter_le ..) (ars_len w))
def Cyc (bs : List Bk) (x : Str) : Prop := ∃ z ∈ fS bs x, Rch (fS bs) none z x
open Classical in
noncomputable def calmB (bs : List Bk) : Bool := decide (¬ ∃ x ∈ rl bs, Cyc bs x)
theorem filter_lt {α : Type} {p q : α → Bool} : ∀ {l : List α}, (∀ x ∈ l, p x = true → q x = true) → ∀ {a : α}, a ∈ l → q a = true → p a = false → (l.filter p).length < (l.filter q).length
  | [], _, _, m, _, _ => nomatch m
  | b :: l, h, a, m, ha, hb => by
    have le : ∀ l : List α, (∀ x ∈ l, p x = true → q x = true) → (l.filter p).length ≤ (l.filter q).length := by
      intro l
      induction l with
      | nil => intro _; exact Nat.le_refl _
      | cons c l ih =>
        intro h
        have i := ih fun x hx => h x (List.mem_cons_of_mem _ hx)
        have hc := h c (List.mem_cons_self ..)
        rw [List.filter_cons, List.filter_cons]
        cases hp : p c
        · rw [if_neg Bool.false_ne_true]
          split
          · rw [List.length_cons]; omega
          · exact i
        · rw [if_pos rfl, if_pos (hc hp), List.length_cons, List.length_cons]; omega
    rw [List.filter_cons, List.filter_cons]
    rcases List.mem_cons.mp m with rfl | m
    · rw [if_neg (by rw [hb]; exact Bool.false_ne_true), if_pos ha, List.length_cons]
      have := le l fun x hx => h x (List.mem_cons_of_mem _ hx)
      omega
    · have i := filter_lt (fun x hx => h x (List.mem_cons_of_mem _ hx)) m ha hb
      have hc := h b (List.mem_cons_self ..)
      cases hp : p b
      · rw [if_neg Bool.false_ne_true]
        split
        · rw [List.length_cons]; omega
        · exact i
      · rw [if_pos rfl, if_pos (hc hp), List.length_cons, List.length_cons]; omega
/-- a way with one edge at least -/
def Way (S : Str → List Str) (x y : Str) : Prop := ∃ z ∈ S x, Rch S none z y
theorem Way.trans {S : Str → List Str} {x y z : Str} (a : Way S x y) (b : Way S y z) : Way S x z := by
  obtain ⟨u, hu, r⟩ := a
  obtain ⟨v, hv, t⟩ := b
  exact ⟨u, hu, (Rch.step r hv nofun).trans t⟩
theorem kahn_cyc {bs : List Bk} {N : List Str} (hN : N ≠ []) (h : ∀ x ∈ N, ∃ s ∈ N, x ∈ fS bs s) : ∃ x ∈ N, Cyc bs x := by
  apply Classical.byContradiction
  intro no
  have no' : ∀ x ∈ N, ¬ Cyc bs x := fun x hx c => no ⟨x, hx, c⟩
  classical
  have key : ∀ (n : Nat) (x : Str), x ∈ N → (N.filter fun y => decide (Way (fS bs) y x)).length ≤ n → False := by
    intro n
    induction n with
    | zero =>
      intro x hx hl
      obtain ⟨s, hs, hm⟩ := h x hx
      have : s ∈ N.filter fun y => decide (Way (fS bs) y x) := List.mem_filter.mpr ⟨hs, decide_eq_true ⟨x, hm, .base nofun⟩⟩
      have := List.length_pos_of_mem this
      omega
    | succ n ih =>
      intro x hx hl
      obtain ⟨s, hs, hm⟩ := h x hx
      have sx : Way (fS bs) s x := ⟨x, hm, .base nofun⟩
      refine ih s hs (Nat.le_of_lt_succ (Nat.lt_of_lt_of_le (filter_lt (a := s) (fun y _ hy => decide_eq_true ((of_decide_eq_true hy).trans sx)) hs (decide_eq_true sx) (decide_eq_false (no' s hs))) hl))
  obtain ⟨x, hx⟩ := List.exists_mem_of_ne_nil N hN
  exact key _ x hx (Nat.le_refl _)
theorem kahn_pred {bs : List Bk} (w : WfG bs) {x : Str} (c : Cyc bs x) : ∃ p ∈ rl bs, Cyc bs p ∧ x ∈ fS bs p := by
  obtain ⟨z, hz, r⟩ := c
  cases r with
  | base _ => exact ⟨x, ((fS_mem w).mp hz).1, ⟨x, hz, .base nofun⟩, hz⟩
  | @step p _ r1 m _ =>
    have t : Rch (fS bs) none x z := .step (.base nofun) hz nofun
    exact ⟨p, ((fS_mem w).mp m).1, ⟨x, m, t.trans r1⟩, m⟩
noncomputable def fE (bs : List Bk) : List (Str × Str) := ((egs bs).filter fun e => !decide (e ∈ bks bs)).map fun e => (e.s, e.g)
theorem fE_mem {bs : List Bk} (w : WfG bs) {s g : Str} : (s, g) ∈ fE bs ↔ g ∈ fS bs s := by
  rw [fS_mem w]
  unfold fE
  constructor
  · intro h
    obtain ⟨e, m1, e1⟩ := List.mem_map.mp h
    cases e1
    obtain ⟨m2, m3⟩ := List.mem_filter.mp m1
    obtain ⟨m4, m5⟩ := egs_mem m2
    refine ⟨m4, m5, fun z => ?_⟩
    rw [Bool.not_eq_true', decide_eq_false_iff_not] at m3
    exact m3 (bks_mem.mpr ⟨m2, z⟩)
  · rintro ⟨h1, h2, h3⟩
    obtain ⟨j, m⟩ := egs_of h1 h2
    refine List.mem_map.mpr ⟨_, List.mem_filter.mpr ⟨m, ?_⟩, rfl⟩
    rw [Bool.not_eq_true', decide_eq_false_iff_not]
    exact fun z => h3 (bks_mem.mp z).2
noncomputable def fstL (bs : List Bk) (N : List Str) : List Str := N.filter fun x => ((fE bs).filter fun a => decide (a.2 = x) && decide (a.1 ∈ N)).isEmpty
theorem fst_iff {bs : List Bk} (w : WfG bs) {N : List Str} {x : Str} : x ∈ fstL bs N ↔ x ∈ N ∧ ¬ ∃ s ∈ N, x ∈ fS bs s := by
  unfold fstL
  rw [List.mem_filter, List.isEmpty_iff, List.filter_eq_nil_iff]
  refine and_congr_right fun _ => ?_
  constructor
  · rintro h ⟨s, hs, hx⟩
    refine h (s, x) ((fE_mem w).mpr hx) ?_
    rw [Bool.and_eq_true, decide_eq_true_iff, decide_eq_true_iff]
    exact ⟨rfl, hs⟩
  · rintro h ⟨s, g⟩ hm hc
    rw [Bool.and_eq_true, decide_eq_true_iff, decide_eq_true_iff] at hc
    obtain ⟨rfl, hs⟩ := hc
    exact h ⟨s, hs, (fE_mem w).mp hm⟩
noncomputable def nxtL (bs : List Bk) (N : List Str) : List Str := N.filter fun x => !decide (x ∈ fstL bs N)
theorem nxt_lt {bs : List Bk} {N : List Str} (h : fstL bs N ≠ []) : (nxtL bs N).length < N.length := by
  obtain ⟨x, hx⟩ := List.exists_mem_of_ne_nil _ h
  have hN : x ∈ N := (List.mem_filter.mp hx).1
  have := filter_lt (p := fun y => !decide (y ∈ fstL bs N)) (q := fun _ => true) (l := N) (fun _ _ _ => rfl) hN rfl (by rw [decide_eq_true hx]; rfl)
  rw [List.filter_eq_self.mpr (fun _ _ => rfl)] at this
  exact this
/-- ahead of a turn: no ring has lost a block -/
def KInv (bs : List Bk) (N : List Str) : Prop := (∀ x ∈ N, x ∈ rl bs) ∧ ∀ x ∈ rl bs, Cyc bs x → x ∈ N
theorem KInv.next {bs : List Bk} (w : WfG bs) {N : List Str} (I : KInv bs N) : KInv bs (nxtL bs N) := by
  refine ⟨fun x hx => I.1 x (List.mem_filter.mp hx).1, fun x hx c => ?_⟩
  obtain ⟨p, hp, cp, m⟩ := kahn_pred w c
  refine List.mem_filter.mpr ⟨I.2 x hx c, ?_⟩
  rw [Bool.not_eq_true', decide_eq_false_iff_not]
  intro z
  exact ((fst_iff w).mp z).2 ⟨p, I.2 p hp cp, m⟩
open Classical in
theorem KInv.none {bs : List Bk} (I : KInv bs []) : calmB bs = true := decide_eq_true fun ⟨x, hx, c⟩ => nomatch I.2 x hx c
open Classical in
theorem KInv.ring {bs : List Bk} (w : WfG bs) {N : List Str} (I : KInv bs N) (hN : N ≠ []) (h : fstL bs N = []) : calmB bs = false := by
  refine decide_eq_false fun no => no ?_
  obtain ⟨x, hx, c⟩ := kahn_cyc hN fun x hx => by
    apply Classical.byContradiction
    intro z
    have : x ∈ fstL bs N := (fst_iff w).mpr ⟨hx, z⟩
    rw [h] at this
    exact nomatch this
  exact ⟨x, I.1 x hx, c⟩
/-- the search from several starts -/
structure MInv (S : Str → List Str) (A f left : List Str) : Prop where
  nd : f.Nodup
  rf : ∀ x ∈ f, ∃ a ∈ A, Rch S none a x
  rl : ∀ x ∈ left, ∃ a ∈ A, Rch S none a x
  st : ∀ a ∈ A, a ∈ f ∨ a ∈ left
  cl : ∀ x ∈ f, ∀ y ∈ S x, y ∈ f ∨ y ∈ left
theorem MInv.zero {S : Str → List Str} {A : List Str} : MInv S A [] A := ⟨by simp, fun _ m => (nomatch m), fun x m => ⟨x, m, .base nofun⟩, fun _ m => .inr m, fun _ m => (nomatch m)⟩
theorem MInv.skip {S : Str → List Str} {A f left : List Str} {x : Str} (I : MInv S A f (left ++ [x])) (c : x ∈ f) : MInv S A f left := by
  have mv : ∀ y, y ∈ f ∨ y ∈ left ++ [x] → y ∈ f ∨ y ∈ left := by
    rintro y (h | h)
    · exact .inl h
    · rcases List.mem_append.mp h with h | h
      · exact .inr h
      · cases List.mem_singleton.mp h; exact .inl c
  exact ⟨I.nd, I.rf, fun y m => I.rl y (List.mem_append_left _ m), fun a m => mv a (I.st a m), fun y m z mz => mv z (I.cl y m z mz)⟩
theorem MInv.take {S : Str → List Str} {A f left : List Str} {x : Str} (I : MInv S A f (left ++ [x])) (c : x ∉ f) : MInv S A (f ++ [x]) (left ++ S x) := by
  have mv : ∀ y, y ∈ f ∨ y ∈ left ++ [x] → y ∈ f ++ [x] ∨ y ∈ left ++ S x := by
    rintro y (h | h)
    · exact .inl (List.mem_append_left _ h)
    · rcases List.mem_append.mp h with h | h
      · exact .inr (List.mem_append_left _ h)
      · exact .inl (List.mem_append_right _ h)
  have hx := I.rl x (List.mem_append_right _ (List.mem_singleton.mpr rfl))
  refine ⟨?_, ?_, ?_, fun a m => mv a (I.st a m), ?_⟩
  · rw [List.nodup_append]
    refine ⟨I.nd, by simp, ?_⟩
    intro a ha b hb e
    cases List.mem_singleton.mp hb
    exact c (e ▸ ha)
  · intro y m
    rcases List.mem_append.mp m with m | m
    · exact I.rf y m
    · cases List.mem_singleton.mp m; exact hx
  · intro y m
    rcases List.mem_append.mp m with m | m
    · exact I.rl y (List.mem_append_left _ m)
    · obtain ⟨a, ha, r⟩ := hx
      exact ⟨a, ha, .step r m nofun⟩
  · intro y m z mz
    rcases List.mem_append.mp m with m | m
    · exact mv z (I.cl y m z mz)
    · cases List.mem_singleton.mp m
      exact .inr (List.mem_append_right _ mz)
theorem MInv.done {S : Str → List Str} {A f : List Str} (I : MInv S A f []) {x : Str} : x ∈ f ↔ ∃ a ∈ A, Rch S none a x := by
  refine ⟨I.rf x, ?_⟩
  rintro ⟨a, ha, r⟩
  exact r.sub (fun _ => (I.st a ha).resolve_right fun z => nomatch z) fun y hy z hz _ => (I.cl y hy z hz).resolve_right fun z => nomatch z
end Ev.G
/-! P25: is_reducible and the law's own look (law k25). -/
namespace Ev.G
open PySem L2 Gr
theorem notin_of {x y : D} {b : Bool} (h : inD x y = some b) : cmpD .notin x y = some (!b) := by
  show (inD x y).map (! ·) = _
  rw [h]
  rfl
theorem notin_bks {bs : List Bk} (w : WfG bs) {e : Eg} (h : e ∈ egs bs) : cmpD .notin e.d (.lst ((bks bs).map Eg.d)) = some (!decide (e ∈ bks bs)) :=
  notin_of (in_rows (f := Eg.d) eqv_eg (fun _ => rfl) (n := 1) (by decide) (ly_eg w h) fun a ha => ly_eg w (bks_mem.mp ha).1)
theorem map_isEmpty {α β : Type} (f : α → β) (l : List α) : (l.map f).isEmpty = l.isEmpty := by cases l <;> rfl
section
variable {kp : Nat → Nat} {ft : Nat → Option Fd} {wf k : Nat} (X : Fx kp ft) {n1 n2 : Str} {b1 b2 : List Bk}
include X
theorem is_reducible (hO : ft 71 = some d_is_reducible) (h65 : ft 65 = some d_back_edges_in) (h55 : ft 55 = some d_edges_of) (m : WfM n1 b1 n2 b2) (hwf : 1000 ≤ wf) {f : Str} {bs : List Bk} (hf : isFn n1 b1 n2 b2 f bs) : Ret kp ft wf (k + 11) 71 [fz (mdD n1 b1 n2 b2), fz (.str f)] (fz (.bl (calmB bs))) := by
  obtain ⟨x, hc⟩ := parts_for0 (wf := wf) (k := k) X m hwf hf
  have w := wfg_of X m hf
  have le : (egs bs).length ≤ 24 := egs_len w
  have lr := rl_len w
  refine .of (W.fn [some (fz (mdD n1 b1 n2 b2)), some (fz (.str f)), none, none, none, none, none, none, none, none, none] hO rfl rfl rfl ?_ (by show 2 ≤ sizeLine; decide))
  unfold d_is_reducible
  dsimp only
  refine W.ss_cons ?_
  walk_at "evy"
  refine cl X X.parts_for hc [some (fz (mdD n1 b1 n2 b2)), some (fz (.str f)), none, none, none, none, none, none, none, none, none] (by simp [slotsOf]) rfl rfl ?_
  walk_at "evy"
  refine W.ss_cons ?_
  walk_at "evy"
  refine clr X h65 (back_edges_in (k := k + 3) X h65 h55 w hwf) (by simp [slotsOf]) rfl rfl ?_
  walk_at "evy"
  refine W.ss_cons (W.asg ?_)
  refine W.comp_on Eg.d (egs bs) (fun e => !decide (e ∈ bks bs)) (fun e => arD (e.s, e.g)) ?_
  walk_at "ev"
  refine clr X h55 (edges_of (k := k + 4) X h55 w hwf) (by simp [slotsOf]) rfl rfl ?_
  walk_at "ev"
  refine ⟨rfl, Nat.le_trans le (by decide), rfl, fun a ha => ?_, ?_⟩
  · refine W.cturn_ok rfl ?_
    walk_at "norm"
    walk_at "ev"
    refine ⟨_, _, _, rfl, rfl, notin_bks w ha, ?_⟩
    walk_at "ev"
    refine ⟨fun e => ?_, fun e => ?_⟩
    · walk_at "ev"
      rw [e]
      exact ⟨rfl, rfl⟩
    · rw [e]
      exact ⟨rfl, rfl⟩
  · walk_at "norm"
    have eE : ((egs bs).filter fun e => !decide (e ∈ bks bs)).map (fun e => arD (e.s, e.g)) = (fE bs).map arD := by
      unfold fE
      rw [List.map_map]
      rfl
    rw [eE]
    have lE : (fE bs).length ≤ 24 := by
      unfold fE
      rw [List.length_map]
      exact Nat.le_trans (List.length_filter_le ..) le
    walk_at "evy"
    refine W.ss_cons ?_
    walk_at "evy"
    refine clr X X.reached_in (reached_in' (k := k + 5) X w hwf) (by simp [slotsOf]) rfl rfl ?_
    walk_at "evy"
    refine W.ss_cons ?_
    refine W.whiles (fun n e => ∃ (N : List Str) (o4 o8 : Bool) (t9 : Slot), n = N.length ∧ KInv bs N ∧ e = [some (fz (mdD n1 b1 n2 b2)), some (fz (.str f)), some (fz (fnD f bs)), some (ow (.lst ((bks bs).map Eg.d))), some (o4, .lst ((fE bs).map arD)), none, none, none, some (o8, .lst (N.map D.str)), t9, none]) (rl bs).length (by omega) ⟨rl bs, _, _, _, rfl, ⟨fun _ h => h, fun _ h _ => h⟩, rfl⟩ ?_
    rintro n e hn ⟨N, o4, o8, t9, rfl, I, rfl⟩
    have lN : N.length ≤ 12 := by omega
    by_cases hN : N = []
    · subst hN
      cases o8 <;> (walk_at "ev"; rw [I.none]; exact ⟨rfl, rfl⟩)
    · have hne : (!(N.map D.str).isEmpty) = true := by
        cases N with
        | nil => exact absurd rfl hN
        | cons => rfl
      refine W.c_cmp (W.cmp ?_)
      have body : WSs (pg0 kp) (callF (pg0 kp) ft wf (k + 10)) 2 wf (match d_is_reducible.body with
          | .cons _ (.cons _ (.cons _ (.cons _ (.cons (.whiles _ b) _)))) => b
          | _ => .nil) [some (fz (mdD n1 b1 n2 b2)), some (fz (.str f)), some (fz (fnD f bs)), some (ow (.lst ((bks bs).map Eg.d))), some (o4, .lst ((fE bs).map arD)), none, none, none, some (o8, .lst (N.map D.str)), t9, none]
          (fun e' => ∃ k', k' < N.length ∧ ∃ (N : List Str) (o4 o8 : Bool) (t9 : Slot), k' = N.length ∧ KInv bs N ∧ e' = [some (fz (mdD n1 b1 n2 b2)), some (fz (.str f)), some (fz (fnD f bs)), some (ow (.lst ((bks bs).map Eg.d))), some (o4, .lst ((fE bs).map arD)), none, none, none, some (o8, .lst (N.map D.str)), t9, none])
          (fun fl e' => fl = .ret (fz (.bl (calmB bs))) ∧ e'.take 2 = [some (fz (mdD n1 b1 n2 b2)), some (fz (.str f))]) := by
        unfold d_is_reducible
        dsimp only
        refine W.ss_cons (W.asg ?_)
        refine W.comp_onI D.str N (fun x => ((fE bs).filter fun a => decide (a.2 = x) && decide (a.1 ∈ N)).isEmpty) D.str ?_
        cases o8
        all_goals
          walk_at "ev"
          refine ⟨rfl, Nat.le_trans lN (by decide), rfl, fun e => ∃ o4 : Bool, e = [some (fz (mdD n1 b1 n2 b2)), some (fz (.str f)), some (fz (fnD f bs)), some (ow (.lst ((bks bs).map Eg.d))), some (o4, .lst ((fE bs).map arD)), none, none, none, some (fz (.lst (N.map D.str))), t9, none], ⟨o4, rfl⟩, ?_, ?_⟩
          · rintro y hy e0 ⟨o4, rfl⟩
            refine W.cturn_ok rfl ?_
            walk_at "norm"
            refine W.tc_yes (W.c_cmp (W.cmp (W.o_tm nofun ?_)))
            refine W.comp_on arD (fE bs) (fun a => decide (a.2 = y) && decide (a.1 ∈ N)) (fun a => .str a.1) ?_
            cases o4
            all_goals
              walk_at "ev"
              refine ⟨rfl, Nat.le_trans lE (by decide), rfl, fun a ha => ?_, ?_⟩
              · refine W.cturn_ok rfl ?_
                walk_at "norm"
                walk_at "ev"
                refine ⟨fun e => ?_, fun e => ?_⟩
                · rw [e]
                  walk_at "ev"
                  refine ⟨_, _, _, rfl, rfl, in_strs _ _, ?_⟩
                  walk_at "ev"
                  refine ⟨fun e => ?_, fun e => ?_⟩
                  · walk_at "ev"
                    rw [e]
                    exact ⟨rfl, rfl⟩
                  · rw [e]
                    exact ⟨rfl, rfl⟩
                · rw [e]
                  walk_at "ev"
                  exact ⟨rfl, rfl⟩
              · walk_at "norm"
                walk_at "ev"
                rw [map_isEmpty]
                refine ⟨fun e => ?_, fun e => ?_⟩
                · walk_at "ev"
                  rw [e]
                  exact ⟨rfl, _, rfl⟩
                · rw [e]
                  exact ⟨rfl, _, rfl⟩
          · rintro e0 ⟨o4, rfl⟩
            walk_at "norm"
            rw [show N.filter (fun x => ((fE bs).filter fun a => decide (a.2 = x) && decide (a.1 ∈ N)).isEmpty) = fstL bs N from rfl]
            walk_at "evn"
            refine W.ifs ?_
            walk_at "ev"
            rw [map_isEmpty]
            refine ⟨fun e => ?_, fun e => ?_⟩
            · rw [List.isEmpty_iff] at e
              walk_at "ev"
              rw [I.ring w hN e]
              exact ⟨rfl, rfl⟩
            · have hF : fstL bs N ≠ [] := fun z => by rw [z] at e; cases e
              walk_at "evx"
              refine W.ss_nil ?_
              refine W.ss_cons (W.asg ?_)
              refine W.comp_on D.str N (fun x => !decide (x ∈ fstL bs N)) D.str ?_
              walk_at "ev"
              refine ⟨rfl, Nat.le_trans lN (by decide), rfl, fun a ha => ?_, ?_⟩
              · refine W.cturn_ok rfl ?_
                walk_at "norm"
                walk_at "ev"
                refine ⟨_, _, _, rfl, rfl, notin_strs _ _, ?_⟩
                walk_at "ev"
                refine ⟨fun e => ?_, fun e => ?_⟩
                · walk_at "ev"
                  rw [e]
                  exact ⟨rfl, rfl⟩
                · rw [e]
                  exact ⟨rfl, rfl⟩
              · walk_at "norm"
                walk_at "ev"
                exact ⟨_, nxt_lt hF, nxtL bs N, _, _, _, rfl, I.next w, rfl⟩
      cases o8
      all_goals
        walk_at "evy"
        rw [hne]
        refine W.iff_t2 ?_
        exact W.ss_mono body (fun _ h => h) (fun fl e' h => .inr (.inr ⟨_, h.1, _, rfl, rfl, h.2⟩))
end
end Ev.G
/-! P26: the law's own look at rings (law k25). -/
namespace Ev.G
open PySem L2 Gr
theorem fA_mem {bs : List Bk} (w : WfG bs) {a : Str × Str} (h : a ∈ ars bs) : a.1 ∈ rl bs ∧ a.2 ∈ rl bs := by
  obtain ⟨s, g⟩ := a
  obtain ⟨h1, h2⟩ := (ars_mem w).mp h
  exact ⟨h1, rl_succ w h1 h2⟩
theorem fS_rch {bs : List Bk} (w : WfG bs) {z x : Str} (hz : z ∈ rl bs) (r : Rch (fS bs) none z x) : x ∈ rl bs := by
  induction r with
  | base _ => exact hz
  | step _ m _ ih => exact rl_succ w ih ((fS_mem w).mp m).2.1
open Classical in
theorem calm_of {bs : List Bk} (h : ∀ x ∈ rl bs, ¬ Cyc bs x) : calmB bs = true := decide_eq_true fun ⟨x, hx, c⟩ => h x hx c
open Classical in
theorem wild_of {bs : List Bk} {x : Str} (hx : x ∈ rl bs) (c : Cyc bs x) : calmB bs = false := decide_eq_false fun no => no ⟨x, hx, c⟩
section
variable {kp : Nat → Nat} {ft : Nat → Option Fd} {wf k : Nat} (X : Fx kp ft) {n1 n2 : Str} {b1 b2 : List Bk}
include X
theorem law_is_calm (hO : ft 72 = some d_law_is_calm) (h53 : ft 53 = some d_law_over) (h58 : ft 58 = some d_law_arrows) {bs : List Bk} (w : WfG bs) (hwf : 1000 ≤ wf) : Ret kp ft wf (k + 5) 72 [fz (.tup (bksD 0 bs))] (fz (.bl (calmB bs))) := by
  have la := ars_len w
  have lr := rl_len w
  refine .of (W.fn [some (fz (.tup (bksD 0 bs))), none, none, none, none, none, none, none, none] hO rfl rfl rfl ?_ (by show 1 ≤ sizeLine; decide))
  unfold d_law_is_calm
  dsimp only
  refine W.ss_cons ?_
  walk_at "evy"
  refine clr X h53 (law_over (k := k) X h53 w hwf) (by simp [slotsOf]) rfl rfl ?_
  walk_at "evy"
  refine W.ss_cons (W.asg ?_)
  refine W.comp_on arD (ars bs) (fun a => !decide (a.1 ∈ cov bs a.2)) arD ?_
  walk_at "ev"
  refine clr X h58 (law_arrows (k := k) X h58 w hwf) (by simp [slotsOf]) rfl rfl ?_
  walk_at "ev"
  refine ⟨rfl, Nat.le_trans la (by decide), rfl, fun a ha => ?_, ?_⟩
  · refine W.cturn_ok rfl ?_
    walk_at "norm"
    walk_at "ev"
    refine ⟨_, _, _, rfl, rfl, idx_cov (fA_mem w ha).2, ?_⟩
    walk_at "ev"
    refine ⟨_, _, _, rfl, rfl, notin_strs _ _, ?_⟩
    walk_at "ev"
    refine ⟨fun e => ?_, fun e => ?_⟩
    · walk_at "ev"
      rw [e]
      exact ⟨rfl, rfl⟩
    · rw [e]
      exact ⟨rfl, rfl⟩
  · walk_at "norm"
    rw [show (ars bs).filter (fun a => !decide (a.1 ∈ cov bs a.2)) = fA bs from rfl]
    have lA : (fA bs).length ≤ 24 := Nat.le_trans (List.length_filter_le ..) la
    -- the comprehension over the arrows from one block
    have pickc : ∀ (v : Nat) (x : Str) (o : Bool) (t5 t6 t7 t8 : Slot) (Q : Rv → Ev → Prop), (v = 5 ∧ t5 = some (fz (.str x)) ∨ v = 8 ∧ t8 = some (fz (.str x))) → Q (ow (.lst ((fS bs x).map D.str))) [some (fz (.tup (bksD 0 bs))), some (fz (.dct (covK bs))), some (fz (.lst ((fA bs).map arD))), none, none, t5, t6, t7, t8] →
        WE (pg0 kp) (callF (pg0 kp) ft wf (k + 4)) 1 (.comp (.var 4) [3, 4] false (.seq (.var 2)) (.yes (.cmp (.cmp .eq (.var 3) (.var v)))) [3, 4]) [some (fz (.tup (bksD 0 bs))), some (fz (.dct (covK bs))), some (o, .lst ((fA bs).map arD)), none, none, t5, t6, t7, t8] Q := by
      intro v x o t5 t6 t7 t8 Q hv hQ
      refine W.comp_on arD (fA bs) (fun a => decide (a.1 = x)) (fun a => .str a.2) ?_
      have eS : ((fA bs).filter fun a => decide (a.1 = x)).map (fun a => D.str a.2) = (fS bs x).map D.str := by
        unfold fS
        rw [List.map_map]
        rfl
      rcases hv with ⟨rfl, rfl⟩ | ⟨rfl, rfl⟩
      all_goals
        cases o
        all_goals
          walk_at "ev"
          refine ⟨rfl, Nat.le_trans lA (by decide), rfl, fun a ha => ?_, ?_⟩
          · refine W.cturn_ok rfl ?_
            walk_at "norm"
            walk_at "ev"
            refine ⟨fun e => ?_, fun e => ?_⟩
            · walk_at "ev"
              rw [e]
              exact ⟨rfl, rfl⟩
            · rw [e]
              exact ⟨rfl, rfl⟩
          · walk_at "norm"
            rw [eS]
            exact hQ
    walk_at "evy"
    refine W.ss_cons (W.fors ?_)
    walk_at "ev"
    rw [covK_kvs, kvs_keys, ← covK_kvs]
    refine ⟨fun j e => (∀ y ∈ (rl bs).take j, ¬ Cyc bs y) ∧ ∃ (o : Bool) (t5 t6 t7 t8 : Slot), e = [some (fz (.tup (bksD 0 bs))), some (fz (.dct (covK bs))), some (o, .lst ((fA bs).map arD)), none, none, t5, t6, t7, t8], ⟨by simp, _, _, _, _, _, rfl⟩, ?_, ?_⟩
    · rintro j d e hd ⟨hno, o, t5, t6, t7, t8, rfl⟩
      obtain ⟨x, hs, rfl⟩ := strs_get hd
      have hx : x ∈ rl bs := List.mem_of_getElem? hs
      refine ⟨_, rfl, ?_⟩
      walk_at "norm"
      refine W.ss_cons (W.par ?_)
      walk_at "evy"
      refine pickc 5 x o _ _ _ _ _ (.inl ⟨rfl, rfl⟩) ?_
      walk_at "evy"
      have sub : ∀ {F l : List Str}, MInv (fS bs) (fS bs x) F l → F.length ≤ 12 := fun {F l} I => Nat.le_trans (length_le_of_sub I.nd fun y hy => by
        obtain ⟨a, ha, r⟩ := I.rf y hy
        exact fS_rch w (rl_succ w hx ((fS_mem w).mp ha).2.1) r) lr
      have lx := fS_len w x
      refine W.ss_cons (W.whiles (fun n e => ∃ (F l : List Str) (o : Bool) (t8 : Slot), n + 25 * F.length = 325 + l.length ∧ MInv (fS bs) (fS bs x) F l ∧ l.length ≤ 24 + 25 * F.length ∧ e = [some (fz (.tup (bksD 0 bs))), some (fz (.dct (covK bs))), some (o, .lst ((fA bs).map arD)), none, none, some (fz (.str x)), some (ow (.lst (F.map D.str))), some (ow (.lst (l.map D.str))), t8]) (325 + (fS bs x).length) (by omega) ⟨[], fS bs x, _, _, rfl, MInv.zero, by simp only [List.length_nil]; omega, rfl⟩ ?_)
      rintro n e hn ⟨F, l, o, t8, ht, I, ll, rfl⟩
      have lf := sub I
      rcases List.eq_nil_or_concat l with rfl | ⟨l', y, rfl⟩
      · walk_at "ev"
        refine ⟨_, _, _, rfl, rfl, in_strs _ _, ?_⟩
        have hcy : x ∈ F ↔ Cyc bs x := I.done
        by_cases c : x ∈ F
        · rw [decide_eq_true c]
          walk_at "ev"
          rw [wild_of hx (hcy.mp c)]
          exact .inr (.inr ⟨_, rfl, _, rfl, rfl, rfl⟩)
        · rw [decide_eq_false c]
          walk_at "ev"
          refine ⟨?_, _, _, _, _, _, rfl⟩
          intro z hz
          rw [take_snoc hs] at hz
          rcases List.mem_append.mp hz with hz | hz
          · exact hno z hz
          · cases List.mem_singleton.mp hz
            exact fun cc => c (hcy.mpr cc)
      · rw [List.concat_eq_append] at *
        rw [List.map_append] at *
        walk_at "ev"
        have hne : (!(l'.map D.str ++ [y].map D.str).isEmpty) = true := by simp
        rw [hne]
        rw [List.length_append, List.length_singleton] at ht ll
        walk_at "ev"
        refine ⟨_, _, _, rfl, pop_last _ _, ?_⟩
        dsimp only [List.set]
        refine ⟨_, rfl, ?_⟩
        walk_at "ev"
        refine ⟨_, _, _, rfl, rfl, notin_strs _ _, ?_⟩
        by_cases c : y ∈ F
        · rw [decide_eq_true c]
          walk_at "ev"
          exact ⟨n - 1, by omega, F, l', _, _, by omega, I.skip c, by omega, rfl⟩
        · rw [decide_eq_false c]
          have J := I.take c
          have lJ := sub J
          have ly := fS_len w y
          rw [List.length_append, List.length_singleton] at lJ
          refine ⟨_, rfl, W.iff_t ?_⟩
          refine W.ss_cons ?_
          walk_at "evy"
          refine ⟨_, _, _, rfl, mu_app (by rw [List.length_map]; exact Nat.lt_of_le_of_lt (show F.length ≤ 12 by omega) (by decide)), ?_⟩
          dsimp only [List.set]
          refine W.ss_cons (W.expr (W.mu rfl (W.f_cons ?_)))
          refine pickc 8 y o _ _ _ _ _ (.inr ⟨rfl, rfl⟩) ?_
          walk_at "evy"
          refine ⟨_, _, _, rfl, mu_ext (by rw [List.length_map, List.length_map]; exact Nat.le_trans (show _ ≤ 400 by omega) (by decide)), ?_⟩
          walk_at "ev"
          rw [← List.map_append, show F.map D.str ++ [D.str y] = (F ++ [y]).map D.str by rw [List.map_append]; rfl]
          refine ⟨n - 26 + (fS bs y).length, by omega, F ++ [y], l' ++ fS bs y, _, _, by simp only [List.length_append, List.length_singleton]; omega, J, by simp only [List.length_append, List.length_singleton]; omega, rfl⟩
    · rintro e ⟨hno, o, t5, t6, t7, t8, rfl⟩
      rw [List.length_map, List.take_length] at hno
      walk_at "ev"
      rw [calm_of hno]
      exact ⟨rfl, rfl⟩
end
end Ev.G
/-! P27: ways around a block (law k20). -/
namespace Ev.G
open PySem L2 Gr
theorem atI_last {α : Type} {xs : List α} {x : α} : atI (xs ++ [x]) (-1) = some x := by
  unfold atI ixN
  rw [if_neg (by decide), if_pos (by rw [List.length_append, List.length_singleton]; omega)]
  show (xs ++ [x])[((-1 : Int) + ((xs ++ [x]).length : Nat)).toNat]? = _
  rw [List.length_append, List.length_singleton, show ((-1 : Int) + ((xs.length + 1 : Nat) : Int)).toNat = xs.length by omega]
  simp
theorem val_prK {P : Pr} (nd : (fs P).Nodup) {i : Nat} {q : Str × Option Str} (h : P[i]? = some q) : valD (prK P) (.inr q.1) = some (hidD q.2) := by
  induction P generalizing i with
  | nil => simp at h
  | cons p P ih =>
    unfold prK valD
    rw [List.map_cons, List.find?_cons]
    rw [show fs (p :: P) = p.1 :: fs P from rfl, List.nodup_cons] at nd
    cases i with
    | zero =>
      cases h
      simp
    | succ i =>
      have h' : P[i]? = some q := by simpa using h
      have m : q.1 ∈ fs P := List.mem_map.mpr ⟨q, List.mem_of_getElem? h', rfl⟩
      rw [show decide ((Sum.inr p.1 : Key) = .inr q.1) = false from decide_eq_false fun z => nd.1 (Sum.inr.inj z ▸ m)]
      exact ih nd.2 h'
/-- a way from the entry to o without s, backwards -/
structure WayR (bs : List Bk) (s o : Str) (R : List Str) : Prop where
  hd : ∃ r, R = o :: r
  sub : ∀ x ∈ R, x ∈ rl bs ∧ x ≠ s
  eg : ∀ k x y, R[k]? = some x → R[k + 1]? = some y → x ∈ succ bs y
  len : R.length ≤ 12
theorem WayR.add {bs : List Bk} {s o x p : Str} {R : List Str} (h : WayR bs s o (R ++ [x])) (hp : p ∈ rl bs) (hs : p ≠ s) (e : x ∈ succ bs p) (l : R.length + 2 ≤ 12) : WayR bs s o (R ++ [x] ++ [p]) := by
  obtain ⟨r, hr⟩ := h.hd
  refine ⟨⟨r ++ [p], by rw [hr]; rfl⟩, ?_, ?_, by simp only [List.length_append, List.length_singleton]; omega⟩
  · intro y hy
    rcases List.mem_append.mp hy with hy | hy
    · exact h.sub y hy
    · cases List.mem_singleton.mp hy; exact ⟨hp, hs⟩
  · intro k a b ha hb
    by_cases c : k + 1 < (R ++ [x]).length
    · rw [List.getElem?_append_left (by omega)] at ha
      rw [List.getElem?_append_left c] at hb
      exact h.eg k a b ha hb
    · have lk : k + 1 < (R ++ [x] ++ [p]).length := (List.getElem?_eq_some_iff.mp hb).1
      rw [List.length_append, List.length_singleton] at lk
      have ek : k + 1 = (R ++ [x]).length := by omega
      rw [ek, List.getElem?_append_right (Nat.le_refl _), Nat.sub_self] at hb
      cases hb
      rw [List.length_append, List.length_singleton] at ek
      rw [List.getElem?_append_left (by simp; omega), show k = R.length by omega, List.getElem?_append_right (Nat.le_refl _), Nat.sub_self] at ha
      cases ha
      exact e
theorem in_prK (g : Str) (P : Pr) : (valD (prK P) (.inr g)).isSome = decide (g ∈ fs P) := valD_prK P
open Classical in
theorem cov_iff {bs : List Bk} {s o : Str} (ho : o ∈ rl bs) : o ∈ cov bs s ↔ ¬ Rch (succ bs) (some s) (entry bs) o := by
  unfold cov
  rw [List.mem_filter, decide_eq_true_iff]
  exact ⟨And.right, fun h => ⟨ho, h⟩⟩
theorem entry_idx {bs : List Bk} (w : WfG bs) : ∃ b r, bs = b :: r ∧ entry bs = b.nm := by
  cases bs with
  | nil => have := w.len.1; simp at this
  | cons b r => exact ⟨b, r, rfl, rfl⟩
section
variable {kp : Nat → Nat} {ft : Nat → Option Fd} {wf k : Nat} (X : Fx kp ft) {n1 n2 : Str} {b1 b2 : List Bk}
include X
theorem dominates (hO : ft 73 = some d_dominates) (m : WfM n1 b1 n2 b2) (hwf : 1000 ≤ wf) {f : Str} {bs : List Bk} (hf : isFn n1 b1 n2 b2 f bs) {s o : Str} (hs : s ∈ rl bs) (ho : o ∈ rl bs) : Ret kp ft wf (k + 11) 73 [fz (mdD n1 b1 n2 b2), fz (.str f), fz (.str s), fz (.str o)] (fz (.bl (decide (o ∈ cov bs s)))) := by
  obtain ⟨x, hc⟩ := parts_for2 (wf := wf) (k := k) X m hwf hf hs ho
  have w := wfg_of X m hf
  refine .of (W.fn [some (fz (mdD n1 b1 n2 b2)), some (fz (.str f)), some (fz (.str s)), some (fz (.str o))] hO rfl rfl rfl ?_ (by show 4 ≤ sizeLine; decide))
  unfold d_dominates
  dsimp only
  walk_at "ev"
  refine cl X X.parts_for hc [some (fz (mdD n1 b1 n2 b2)), some (fz (.str f)), some (fz (.str s)), some (fz (.str o))] (by simp [slotsOf]) rfl rfl ?_
  walk_at "ev"
  refine clr X X.covered_by (covered_by (k := k + 4) X w hwf) (by simp [slotsOf]) rfl rfl ?_
  walk_at "ev"
  refine ⟨_, _, _, rfl, rfl, idx_cov hs, ?_⟩
  walk_at "ev"
  refine ⟨_, _, _, rfl, rfl, in_strs _ _, ?_⟩
  walk_at "ev"
  exact ⟨rfl, rfl⟩
theorem way_around (hO : ft 79 = some d_way_around) (h60 : ft 60 = some d_found_from) (m : WfM n1 b1 n2 b2) (hwf : 1000 ≤ wf) {f : Str} {bs : List Bk} (hf : isFn n1 b1 n2 b2 f bs) {s o : Str} (hs : s ∈ rl bs) (ho : o ∈ rl bs) :
    ∃ r, Ret kp ft wf (k + 11) 79 [fz (mdD n1 b1 n2 b2), fz (.str f), fz (.str s), fz (.str o)] r ∧ ((o ∈ cov bs s ∧ r = fz .non) ∨ (o ∉ cov bs s ∧ ∃ R : List Str, WayR bs s o R ∧ R.getLast? = some (entry bs) ∧ r = ow (.lst (R.reverse.map D.str)))) := by
  obtain ⟨x, hc⟩ := parts_for2 (wf := wf) (k := k) X m hwf hf hs ho
  have w := wfg_of X m hf
  obtain ⟨b0, r0, e0, e1⟩ := entry_idx w
  obtain ⟨P, hP, hW, hc2⟩ := found_from (wf := wf) (k := k + 6) X h60 (nm := f) w (by omega) (some s) w.entry
  have hin : o ∈ fs P ↔ o ∉ cov bs s := by rw [hP.iff, cov_iff ho, Classical.not_not]
  have hsub : ∀ y ∈ fs P, y ∈ rl bs ∧ y ≠ s := by
    intro y hy
    have r := (hP.iff y).mp hy
    refine ⟨(rl_mem w).mpr ?_, fun e => r.ne (by rw [e])⟩
    clear hy
    induction r with
    | base _ => exact .base nofun
    | step _ mm _ ih => exact .step ih mm nofun
  have lP : (fs P).length ≤ 12 := Nat.le_trans (length_le_of_sub hP.nd fun y hy => (hsub y hy).1) (rl_len w)
  suffices hs : ∃ r outs, callF (pg0 kp) ft wf (k + 11) 79 [fz (mdD n1 b1 n2 b2), fz (.str f), fz (.str s), fz (.str o)] = .ok r outs ∧ (outs = [some (fz (mdD n1 b1 n2 b2)), some (fz (.str f)), some (fz (.str s)), some (fz (.str o))] ∧ ((o ∈ cov bs s ∧ r = fz .non) ∨ (o ∉ cov bs s ∧ ∃ R : List Str, WayR bs s o R ∧ R.getLast? = some (entry bs) ∧ r = ow (.lst (R.reverse.map D.str))))) by
    obtain ⟨r, outs, h, rfl, h2⟩ := hs
    exact ⟨r, h, h2⟩
  refine W.fn [some (fz (mdD n1 b1 n2 b2)), some (fz (.str f)), some (fz (.str s)), some (fz (.str o)), none, none, none] hO rfl rfl rfl ?_ (by show 4 ≤ sizeLine; decide)
  unfold d_way_around
  dsimp only
  refine W.ss_cons ?_
  walk_at "evy"
  refine cl X X.parts_for hc [some (fz (mdD n1 b1 n2 b2)), some (fz (.str f)), some (fz (.str s)), some (fz (.str o)), none, none, none] (by simp [slotsOf]) rfl rfl ?_
  walk_at "evy"
  refine W.ss_cons ?_
  walk_at "evy"
  refine ⟨_, _, _, rfl, rfl, (show idxD (.tup (bksD 0 bs)) (.int 0) = some (bkD 0 b0) by rw [e0]; exact idx_hdT _ _), ?_⟩
  walk_at "evy"
  rw [← e1]
  refine clr X h60 hc2 (by simp [slotsOf]) rfl rfl ?_
  walk_at "evy"
  refine W.ss_cons (W.ifs ?_)
  walk_at "evy"
  rw [in_prK]
  by_cases c : o ∈ fs P
  · rw [decide_eq_true c]
    refine W.iff_f ?_
    refine W.ss_nil ?_
    refine W.ss_cons ?_
    walk_at "evy"
    refine W.ss_cons ?_
    obtain ⟨i0, li0, ei0⟩ := List.mem_iff_getElem.mp c
    have hi0 : (fs P)[i0]? = some o := by rw [List.getElem?_eq_getElem li0, ei0]
    refine W.whiles (fun n e => ∃ (R : List Str) (y : Str), WayR bs s o (R ++ [y]) ∧ (fs P)[n]? = some y ∧ R.length + 1 + n ≤ (fs P).length ∧ e = [some (fz (mdD n1 b1 n2 b2)), some (fz (.str f)), some (fz (.str s)), some (fz (.str o)), some (fz (fnD f bs)), some (ow (.dct (prK P))), some (ow (.lst ((R ++ [y]).map D.str)))]) i0 (by omega) ⟨[], o, ⟨⟨[], rfl⟩, ?_, ?_, by simp⟩, hi0, by simp only [List.length_nil]; omega, rfl⟩ ?_
    · intro y hy
      cases List.mem_singleton.mp hy
      exact hsub o c
    · intro j a b _ hb
      simp at hb
    · rintro n e hn ⟨R, y, hR, hy, ln, rfl⟩
      obtain ⟨q, hq, eq1⟩ : ∃ q, P[n]? = some q ∧ q.1 = y := by
        unfold fs at hy
        rw [List.getElem?_map] at hy
        cases h : P[n]? with
        | none => rw [h] at hy; cases hy
        | some q => rw [h] at hy; cases hy; exact ⟨q, rfl, rfl⟩
      have hv := val_prK hP.nd hq
      rw [eq1] at hv
      rw [List.map_append]
      have hidx : idxD (.lst (R.map D.str ++ [y].map D.str)) (.int (-1)) = some (.str y) := atI_last
      have hidx2 : idxD (.dct (prK P)) (.str y) = some (hidD q.2) := hv
      walk_at "evy"
      refine ⟨_, _, _, rfl, rfl, hidx, ?_⟩
      walk_at "evy"
      refine ⟨_, _, _, rfl, rfl, hidx2, ?_⟩
      rcases hW n q hq with e | ⟨j, p, lj, hp, e, mem⟩
      · subst e
        cases eq1
        walk_at "ev"
        refine ⟨rfl, .inr ⟨hin.mp c, R ++ [entry bs], hR, by simp, ?_⟩⟩
        rw [List.map_reverse, List.map_append]
      · rw [e]
        rw [eq1] at mem
        have pm : p ∈ fs P := List.mem_of_getElem? hp
        walk_at "evy"
        refine W.ss_cons ?_
        walk_at "evy"
        refine ⟨_, _, _, rfl, rfl, hidx, ?_⟩
        walk_at "evy"
        refine ⟨_, _, _, rfl, rfl, hidx2, ?_⟩
        rw [e]
        walk_at "evy"
        have lR : R.length + 1 ≤ 12 := by have := hR.len; rw [List.length_append, List.length_singleton] at this; exact this
        refine ⟨_, _, _, rfl, mu_app (by rw [List.length_append, List.length_map]; exact Nat.lt_of_le_of_lt (show _ ≤ 13 by simp only [List.map_cons, List.map_nil, List.length_singleton]; omega) (by decide)), ?_⟩
        walk_at "ev"
        refine ⟨j, lj, R ++ [y], p, hR.add (hsub p pm).1 (hsub p pm).2 mem (by omega), hp, by rw [List.length_append, List.length_singleton]; omega, ?_⟩
        rw [List.map_append (l₁ := R ++ [y]), List.map_append]
        rfl
  · rw [decide_eq_false c]
    walk_at "ev"
    exact ⟨rfl, .inl ⟨Classical.byContradiction fun z => c (hin.mpr z), rfl⟩⟩
end
end Ev.G
/-! P28: the law's own look at ways (law k20). -/
namespace Ev.G
open PySem L2 Gr
structure WayL (bs : List Bk) (s o : Str) (L : List Str) : Prop where
  hd : L[0]? = some (entry bs)
  la : ∃ r, L = r ++ [o]
  ns : s ∉ L
  eg : ∀ k x y, L[k]? = some x → L[k + 1]? = some y → x ∈ rl bs ∧ y ∈ rl bs ∧ y ∈ succ bs x
  len : L.length ≤ 12
theorem WayR.way {bs : List Bk} {s o : Str} {R : List Str} (h : WayR bs s o R) (e : R.getLast? = some (entry bs)) : WayL bs s o R.reverse := by
  refine ⟨?_, ?_, ?_, ?_, by rw [List.length_reverse]; exact h.len⟩
  · rw [← List.head?_eq_getElem?, List.head?_reverse, e]
  · obtain ⟨r, rfl⟩ := h.hd
    exact ⟨r.reverse, by rw [List.reverse_cons]⟩
  · intro m
    exact (h.sub s (List.mem_reverse.mp m)).2 rfl
  · intro k x y hx hy
    have ly : k + 1 < R.length := by
      have := (List.getElem?_eq_some_iff.mp hy).1
      rwa [List.length_reverse] at this
    rw [List.getElem?_reverse (by omega)] at hx
    rw [List.getElem?_reverse ly] at hy
    have := h.eg (R.length - 1 - (k + 1)) y x hy (by rw [show R.length - 1 - (k + 1) + 1 = R.length - 1 - k by omega]; exact hx)
    exact ⟨(h.sub x (List.mem_of_getElem? hx)).1, (h.sub y (List.mem_of_getElem? hy)).1, this⟩
theorem rngD_range (i : Int) (n : Nat) : rngD i n = (List.range n).map fun (j : Nat) => D.int (i + (j : Int)) := rfl
theorem notin_ars {bs : List Bk} (w : WfG bs) {x y : Str} (hx : x ∈ rl bs) (hy : y ∈ rl bs) (e : y ∈ succ bs x) : cmpD .notin (arD (x, y)) (.lst ((ars bs).map arD)) = some false := by
  rw [notin_of (in_rows (f := arD) eqv_ar (fun _ => rfl) (n := 1) (by decide) (ly_ar w (rl_sub hx) (rl_sub hy)) fun a ha => by
    obtain ⟨s, g⟩ := a
    obtain ⟨h1, h2⟩ := (ars_mem w).mp ha
    exact ly_ar w (rl_sub h1) (rl_sub (rl_succ w h1 h2)))]
  have hm := (ars_mem w).mpr ⟨hx, e⟩
  simp only [hm, decide_true, Bool.not_true]
section
variable {kp : Nat → Nat} {ft : Nat → Option Fd} {wf k : Nat} (X : Fx kp ft) {n1 n2 : Str} {b1 b2 : List Bk}
include X
theorem law_is_way (hO : ft 90 = some d_law_is_way) (h58 : ft 58 = some d_law_arrows) {bs : List Bk} (w : WfG bs) (hwf : 1000 ≤ wf) {s o : Str} {L : List Str} (h : WayL bs s o L) : Ret kp ft wf (k + 5) 90 [fz (.tup (bksD 0 bs)), ow (.lst (L.map D.str)), fz (.str o), fz (.str s)] (fz (.bl true)) := by
  obtain ⟨b0, r0, e0, e1⟩ := entry_idx w
  have ll := h.len
  refine .of (W.fn [some (fz (.tup (bksD 0 bs))), some (ow (.lst (L.map D.str))), some (fz (.str o)), some (fz (.str s)), none, none] hO rfl rfl rfl ?_ (by show 4 ≤ sizeLine; decide))
  unfold d_law_is_way
  dsimp only
  refine W.ss_cons ?_
  walk_at "evy"
  refine clr X h58 (law_arrows (k := k) X h58 w hwf) (by simp [slotsOf]) rfl rfl ?_
  walk_at "evy"
  have ne : (L.map D.str).isEmpty = false := by
    obtain ⟨r, rfl⟩ := h.la
    simp
  have i0 : idxD (.lst (L.map D.str)) (.int 0) = some (.str (entry bs)) := atI_nat (i := 0) (by rw [List.getElem?_map, h.hd]; rfl)
  have i1 : idxD (.lst (L.map D.str)) (.int (-1)) = some (.str o) := by
    obtain ⟨r, rfl⟩ := h.la
    rw [List.map_append]
    exact atI_last
  refine W.ss_cons ?_
  refine W.ifs ?_
  walk_at "evy"
  rw [ne]
  walk_at "evy"
  refine ⟨_, _, _, rfl, rfl, in_strs _ _, ?_⟩
  rw [decide_eq_false h.ns]
  walk_at "evy"
  refine W.ss_nil ?_
  refine W.ss_cons (W.ifs ?_)
  walk_at "evy"
  refine ⟨_, _, _, rfl, rfl, i0, ?_⟩
  walk_at "evy"
  refine ⟨_, _, _, rfl, rfl, (show idxD (.tup (bksD 0 bs)) (.int 0) = some (bkD 0 b0) by rw [e0]; exact idx_hdT _ _), ?_⟩
  walk_at "evy"
  rw [← e1, decide_eq_true rfl]
  walk_at "evy"
  refine ⟨_, _, _, rfl, rfl, i1, ?_⟩
  walk_at "evy"
  rw [decide_eq_true rfl]
  walk_at "evy"
  refine W.ss_nil ?_
  refine W.ss_cons (W.ret nofun (W.cmp (W.o_tm nofun ?_)))
  refine W.comp_on (fun (j : Nat) => D.int (1 + (j : Int))) (List.range (((L.length : Int)) - 1).toNat) (fun _ => false) (fun _ => .non) ?_
  walk_at "ev"
  rw [List.length_map]
  refine ⟨⟨by omega, by omega⟩, rfl, by rw [List.length_range]; exact Nat.le_trans (show _ ≤ 12 by omega) (by decide), rfl, fun j hj => ?_, ?_⟩
  · have lj := List.mem_range.mp hj
    obtain ⟨x, hx⟩ : ∃ x, L[j]? = some x := ⟨_, List.getElem?_eq_getElem (by omega)⟩
    obtain ⟨y, hy⟩ : ∃ y, L[j + 1]? = some y := ⟨_, List.getElem?_eq_getElem (by omega)⟩
    obtain ⟨hx1, hy1, he⟩ := h.eg j x y hx hy
    have i2 : idxD (.lst (L.map D.str)) (.int (1 + (j : Int) - 1)) = some (.str x) := by
      rw [show (1 + (j : Int) - 1) = (j : Int) by omega]
      exact atI_nat (by rw [List.getElem?_map, hx]; rfl)
    have i3 : idxD (.lst (L.map D.str)) (.int (1 + (j : Int))) = some (.str y) := by
      rw [show (1 + (j : Int)) = ((j + 1 : Nat) : Int) by omega]
      exact atI_nat (by rw [List.getElem?_map, hy]; rfl)
    refine W.cturn_ok rfl ?_
    walk_at "norm"
    walk_at "ev"
    refine ⟨_, _, _, rfl, rfl, i2, ?_⟩
    walk_at "ev"
    refine ⟨_, _, _, rfl, rfl, i3, ?_⟩
    walk_at "ev"
    refine ⟨_, _, _, rfl, rfl, notin_ars w hx1 hy1 he, ?_⟩
    walk_at "ev"
    exact ⟨rfl, rfl⟩
  · walk_at "norm"
    rw [show (List.range (((L.length : Int)) - 1).toNat).filter (fun _ => false) = [] by simp]
    walk_at "ev"
    exact ⟨rfl, rfl⟩
end
end Ev.G
/-! PL20: law k20 answers True. -/
namespace Ev.G
open PySem L2 Gr
theorem rl_ne0 {bs : List Bk} (w : WfG bs) : rl bs ≠ [] := by
  intro e
  have : entry bs ∈ rl bs := (rl_mem w).mpr (.base nofun)
  rw [e] at this
  exact nomatch this
section
variable {kp : Nat → Nat} {ft : Nat → Option Fd} {k : Nat} (X : Fx kp ft)
include X
theorem law20 (h53 : ft 53 = some d_law_over) (h58 : ft 58 = some d_law_arrows) (h60 : ft 60 = some d_found_from) (h63 : ft 63 = some d_law_pairs) (h73 : ft 73 = some d_dominates) (h79 : ft 79 = some d_way_around) (h90 : ft 90 = some d_law_is_way) (hL : ft 50 = some Ev.K20.d_law) (ns : List Int) : ∃ o outs, callF (pg0 kp) ft 1000 (k + 12) 50 [fz (.scr ns)] = .ok (o, .bl true) outs := by
  suffices hs : ∃ r outs, callF (pg0 kp) ft 1000 (k + 12) 50 [fz (.scr ns)] = .ok r outs ∧ r = fz (.bl true) by
    obtain ⟨_, outs, hc, rfl⟩ := hs
    exact ⟨_, outs, hc⟩
  have one : ∀ (p : Pen) (n : Nat) (hp : p.ok n) (hn : n < 10000) (j : Int) (n1 : Str) (b1 : List Bk) (n2 : Str) (b2 : List Bk) (m : WfM n1 b1 n2 b2) (f : Str) (bs : List Bk) (hf : isFn n1 b1 n2 b2 f bs) (s7 s8 s9 s10 s11 : Slot) (N : Ev → Prop) (R : Flow' → Ev → Prop), (∀ (p' : Pen) t7 t8 t9 t10 t11, p'.ok (n + 12) → N [some (fz (.scr ns)), some p'.d, some (fz (.int j)), some (fz (mdD n1 b1 n2 b2)), some (fz (.str f)), some (fz (.tup [.str "x"])), some (fz (.tup (bksD 0 bs))), t7, t8, t9, t10, t11]) →
      WSs (pg0 kp) (callF (pg0 kp) ft 1000 (k + 11)) 1 1000 (match Ev.K20.d_law.body with
        | .cons _ (.cons (.fors _ _ _ (.cons _ (.cons (.fors _ _ _ b) _))) _) => b
        | _ => .nil) [some (fz (.scr ns)), some p.d, some (fz (.int j)), some (fz (mdD n1 b1 n2 b2)), some (fz (.str f)), some (fz (.tup [.str "x"])), some (fz (.tup (bksD 0 bs))), s7, s8, s9, s10, s11] N R := by
    intro p n hp hn j n1 b1 n2 b2 m f bs hf s7 s8 s9 s10 s11 N R hN
    have w := wfg_of X m hf
    unfold Ev.K20.d_law
    dsimp only
    refine W.ss_cons ?_
    walk_at "evy"
    refine clr X h53 (law_over (k := k + 7) X h53 w (Nat.le_refl _)) (by simp [slotsOf]) rfl rfl ?_
    walk_at "evy"
    refine W.ss_cons (W.fors ?_)
    walk_at "ev"
    rw [covK_kvs, kvs_keys, ← covK_kvs]
    obtain ⟨_, _, hc, p2, c2, ds, rfl, rfl, lds, hds, hp2⟩ := law_pairs (wf := 1000) (k := k + 8) X h63 hp (by omega) (rl_ne0 w) (rl_len w) (m := 12) (by decide) (o := true)
    refine cl X h63 hc [some (fz (.scr ns)), some p2.d, some (fz (.int j)), some (fz (mdD n1 b1 n2 b2)), some (fz (.str f)), some (fz (.tup [.str "x"])), some (fz (.tup (bksD 0 bs))), some (ow (.dct (covK bs))), s8, s9, s10, s11] (by simp [slotsOf]) rfl rfl ?_
    walk_at "ev"
    refine ⟨fun _ e => ∃ (t8 t9 t10 t11 : Slot), e = [some (fz (.scr ns)), some p2.d, some (fz (.int j)), some (fz (mdD n1 b1 n2 b2)), some (fz (.str f)), some (fz (.tup [.str "x"])), some (fz (.tup (bksD 0 bs))), some (ow (.dct (covK bs))), t8, t9, t10, t11], ⟨_, _, _, _, rfl⟩, ?_, ?_⟩
    · rintro i d e hd ⟨t8, t9, t10, t11, rfl⟩
      obtain ⟨s, hs, o, ho, rfl⟩ := hds d (List.mem_of_getElem? hd)
      refine ⟨_, rfl, ?_⟩
      walk_at "norm"
      obtain ⟨r, hr, hcase⟩ := way_around (wf := 1000) (k := k) X h79 h60 m (Nat.le_refl _) hf hs ho
      rcases hcase with ⟨hin, rfl⟩ | ⟨hin, Rl, hR, hl, rfl⟩
      all_goals
        refine W.ss_cons ?_
        walk_at "evy"
        refine ⟨_, _, _, rfl, rfl, idx_cov hs, ?_⟩
        walk_at "evy"
        refine ⟨_, _, _, rfl, rfl, in_strs _ _, ?_⟩
        walk_at "evy"
        refine clr X h79 hr (by simp [slotsOf]) rfl rfl ?_
        walk_at "evy"
        refine W.ss_cons ?_
        refine W.ifs ?_
        walk_at "evy"
        refine clr X h73 (dominates (k := k) X h73 m (Nat.le_refl _) hf hs ho) (by simp [slotsOf]) rfl rfl ?_
        walk_at "evy"
        rw [decide_eq_true rfl]
        walk_at "evy"
      · rw [decide_eq_true hin]
        walk_at "ev"
        exact ⟨_, _, _, _, rfl⟩
      · rw [decide_eq_false hin]
        walk_at "ev"
        refine clr X h90 (law_is_way (k := k + 6) X h90 h58 w (Nat.le_refl _) (hR.way hl)) (by simp [slotsOf]) rfl rfl ?_
        walk_at "ev"
        exact ⟨_, _, _, _, rfl⟩
    · rintro e ⟨t8, t9, t10, t11, rfl⟩
      walk_at "ev"
      exact hN p2 _ _ _ _ _ hp2
  refine W.fn [some (fz (.scr ns)), none, none, none, none, none, none, none, none, none, none, none] hL rfl rfl rfl ?_ (by show 1 ≤ sizeLine; decide)
  unfold Ev.K20.d_law
  dsimp only
  walk_at "ev"
  obtain ⟨_, _, hc, p, rfl, rfl, hp⟩ := pen_ok (wf := 1000) (k := k + 10) X ns
  refine cl X X.law_pen hc [some (fz (.scr ns)), none, none, none, none, none, none, none, none, none, none, none] (by simp [slotsOf]) rfl rfl ?_
  walk_at "ev"
  refine W.fors ?_
  walk_at "ev"
  refine ⟨fun j e => ∃ (p : Pen) (t2 t3 t4 t5 t6 t7 t8 t9 t10 t11 : Slot), e = [some (fz (.scr ns)), some p.d, t2, t3, t4, t5, t6, t7, t8, t9, t10, t11] ∧ p.ok (186 * j), ⟨_, _, _, _, _, _, _, _, _, _, _, rfl, hp⟩, ?_, ?_⟩
  · rintro j d e hd ⟨p, t2, t3, t4, t5, t6, t7, t8, t9, t10, t11, rfl, hp⟩
    obtain ⟨hj, rfl⟩ := rngD_get hd
    refine ⟨_, rfl, ?_⟩
    walk_at "norm"
    walk_at "ev"
    obtain ⟨_, _, hc1, p1, dm, rfl, rfl, hdm, hp1⟩ := pick_any2 (wf := 1000) (k := k + 9) X hp (by omega) (o := true) (ds := [.int 4, .int 4, .int 7, .int 12]) (by decide) (by decide)
    refine cl X X.law_pick hc1 [some (fz (.scr ns)), some p1.d, some (fz (.int j)), t3, t4, t5, t6, t7, t8, t9, t10, t11] (by simp [slotsOf]) rfl rfl ?_
    walk_at "ev"
    obtain ⟨mm, rfl, m1, m2⟩ : ∃ mm : Nat, dm = .int mm ∧ 1 ≤ mm ∧ mm ≤ 12 := by
      simp only [List.mem_cons, List.not_mem_nil, or_false] at hdm
      rcases hdm with rfl | rfl | rfl | rfl
      · exact ⟨4, rfl, by decide, by decide⟩
      · exact ⟨4, rfl, by decide, by decide⟩
      · exact ⟨7, rfl, by decide, by decide⟩
      · exact ⟨12, rfl, by decide, by decide⟩
    obtain ⟨_, _, hc2, p2, n1, n2, b1, b2, rfl, rfl, hn, w1, w2, l1, l2, hp2⟩ := graphs_ok (wf := 1000) (k := k + 6) X hp1 (by omega) (m := mm) m1 m2
    have m : WfM n1 b1 n2 b2 := ⟨hn, w1, w2⟩
    refine cl X X.law_graphs hc2 [some (fz (.scr ns)), some p2.d, some (fz (.int j)), t3, t4, t5, t6, t7, t8, t9, t10, t11] (by simp [slotsOf]) rfl rfl ?_
    walk_at "ev"
    refine W.fors_l ?_
    walk_at "ev"
    refine W.fl_cons rfl ?_
    refine one p2 _ hp2 (by omega) j n1 b1 n2 b2 m n1 b1 (.inl ⟨rfl, rfl⟩) _ _ _ _ _ _ _ (fun p3 t7 t8 t9 t10 t11 hp3 => ?_)
    refine W.fl_cons rfl ?_
    refine one p3 _ hp3 (by omega) j n1 b1 n2 b2 m n2 b2 (.inr ⟨rfl, rfl⟩) _ _ _ _ _ _ _ (fun p4 t7 t8 t9 t10 t11 hp4 => ?_)
    refine W.fl_nil ?_
    walk_at "ev"
    exact ⟨p4, _, _, _, _, _, _, _, _, _, _, rfl, by rw [show 186 * (j + 1) = 186 * j + 1 + 161 + 12 + 12 by omega]; exact hp4⟩
  · rintro e ⟨p, t2, t3, t4, t5, t6, t7, t8, t9, t10, t11, rfl, hp⟩
    walk_at "ev"
end
end Ev.G
namespace Ev.K20
open PySem L2
theorem tab : Ev.G.Tab (Ev.ftOf law.dfs) where
  is_integer := by kernel_rfl
  is_between := by kernel_rfl
  is_name := by kernel_rfl
  is_tuple := by kernel_rfl
  are_names := by kernel_rfl
  fits_part := by kernel_rfl
  fits_shape := by kernel_rfl
  parts_of := by kernel_rfl
  part_of := by kernel_rfl
  defined_by := by kernel_rfl
  used_by := by kernel_rfl
  arms_of := by kernel_rfl
  names_of := by kernel_rfl
  block_of := by kernel_rfl
  goals_of := by kernel_rfl
  reached_without := by kernel_rfl
  reached_in := by kernel_rfl
  covered_by := by kernel_rfl
  is_function_form := by kernel_rfl
  is_block_form := by kernel_rfl
  row_fault := by kernel_rfl
  block_fault := by kernel_rfl
  places_in := by kernel_rfl
  instruction_fault := by kernel_rfl
  parameters_of := by kernel_rfl
  arms_fit := by kernel_rfl
  names_fit := by kernel_rfl
  name_fault := by kernel_rfl
  definitions_of := by kernel_rfl
  twice_fault := by kernel_rfl
  is_covered := by kernel_rfl
  use_fault := by kernel_rfl
  has_form := by kernel_rfl
  form_error := by kernel_rfl
  module_error := by kernel_rfl
  require_module := by kernel_rfl
  function_of := by kernel_rfl
  require_block := by kernel_rfl
  parts_for := by kernel_rfl
  law_pen := by kernel_rfl
  law_draw := by kernel_rfl
  law_pick := by kernel_rfl
  law_names := by kernel_rfl
  law_goals := by kernel_rfl
  law_reached := by kernel_rfl
  law_there := by kernel_rfl
  law_graph := by kernel_rfl
  law_graphs := by kernel_rfl
theorem fx : Ev.G.Fx law.pg.keeps (Ev.ftOf law.dfs) where
  toTab := tab
  kp := by
    intro f d h
    unfold Ev.ftOf at h
    show (match law.dfs f with | some x => x.d.keep | none => 0) = _
    cases hx : law.dfs f with
    | none => rw [hx] at h; cases h
    | some x => rw [hx] at h; cases h; rfl
end Ev.K20
theorem PySem.Challenge.cw_clobberwalk_k20_dominating_blocks_holds : PySem.Challenge.rw_clobberwalk_k20_dominating_blocks.Holds := by
  exact Ev.K20.holds_of (wf := 1000) (k := 12) ⟨rfl, by decide, by decide⟩ fun ns _ => Ev.G.law20 (kp := Ev.K20.law.pg.keeps) (k := 0) Ev.K20.fx (by kernel_rfl) (by kernel_rfl) (by kernel_rfl) (by kernel_rfl) (by kernel_rfl) (by kernel_rfl) (by kernel_rfl) (by kernel_rfl) ns
