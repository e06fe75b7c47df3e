import PyProof.Rows.All
import Wide.All
import OpenK.AllK
import Wide.FinOn
import HandS.ForMost
import HandS.Exc
import HandS.TryOnly
import HandS.ExcOwn
import HandS.ExcInit
import HandS.CallSlots
import HandS.Evl
import HandS.IsInst
import HandS.Wide
import HandS.StrMore
import HandS.StrSplit
import HandS.Deep
import HandS.HeadHook3
import HandS.Conv
import HandS.WrittenGet
import HandS.Walk
import KE.GoesEnum
import HandS.ClsMeth
import HandS.ExcField
import HandS.ExcIs
import HandS.HotCalls
import HandS.HeadHook4
import PyProof.Rows.RegStrFacts
import KE.KExcIs
import HandS.DictComp
import KE.KStateDown
import HandS.HeadEnd
import HandS.Head2
import PyProof.Rows.StrLast
import PySem.Challenge.RW_highenough_k83_one_sign_of_a_log_changed
section
set_option Elab.async false
set_option linter.all false
set_option maxRecDepth 100000
set_option maxHeartbeats 4000000
/-! Pi, part A: data, the store, core programs and what they compute. No heap here. -/
namespace Pi
open PySem L2

inductive D where
  | non | bl (b : Bool) | int (i : Int) | str (x : Str)
  | tup (xs : List D) | lst (xs : List D)
  | scr (ns : List Int)
  | loc (n : Nat)
  | exn (c : Str) (fs : List D)
  | dic (ks : List Key) (ds : List D)
  deriving Inhabited
inductive L where
  | dead | lst (xs : List D)
  | dct (ks : List Key) (ds : List D)
  | ins (c : Str) (own : List Str) (fs : List Str) (ds : List D)
  deriving Inhabited
abbrev Sto := List L
abbrev Tau := List (Option D)
inductive R (α : Type) where
  | ok (a : α) (S : Sto) | exc (c : Str) (fs : List D) (S : Sto) | stuck
def R.bind {α β : Type} : R α → (α → Sto → R β) → R β
  | .ok a S, f => f a S
  | .exc c fs S, _ => .exc c fs S
  | .stuck, _ => .stuck
def R.of {α : Type} (o : Option α) (S : Sto) : R α := match o with
  | some a => .ok a S
  | none => .stuck
inductive SR where
  | nx (τ : Tau) (S : Sto) | ret (d : D) (S : Sto) | bk (τ : Tau) (S : Sto) | ct (τ : Tau) (S : Sto) | exc (c : Str) (fs : List D) (τ : Tau) (S : Sto) | stuck

inductive Bop | add | sub | mul | fdiv | mod | pow
  deriving DecidableEq
inductive Cop | eq | ne | lt | le | gt | ge | inn | nin
  deriving DecidableEq
inductive Ty | bool | int | str | dict | tuple | list
  deriving DecidableEq
inductive Bl | len | int | str | ord | abs | sum | all | any
  deriving DecidableEq
inductive Mt | rfind | find
  deriving DecidableEq
inductive Tg | nm (i : Nat) | two (i j : Nat)
  deriving DecidableEq

mutual
inductive E where
  | var (i : Nat) | int (i : Int) | str (x : Str) | bl (b : Bool) | non
  | bin (o : Bop) (a b : E)
  | neg (a : E)
  | cmp (o : Cop) (a b : E)
  | isN (a : E) | notN (a : E)
  | chain (o p : Cop) (a b c : E)
  | and (a b : E) | or (a b : E) | not (a : E)
  | ite (t : T) (a b : E)
  | tup (es : Es)
  | frz (f : F) | live (f : F)
  | call (f : Nat) (es : Es)
  | lim (e : E)
  | dead
  | blt (b : Bl) (e : E)
  | isi (e : E) (t : Ty)
  | divm (a b : E)
  | tupOf (a : E)
  | idx (a i : E)
  | slS (a : E) (lo hi : O)
  | join (s : E) (a : E)
  | mt1 (m : Mt) (o a : E)
  | fld (a : E) (f : Str)
  | meth (c : Str) (own : List Str) (a : E) (f : Nat) (es : Es)
  | new (c : Str) (own : List Str) (f : Nat) (es : Es)
  | dnil (lv : Bool)
  | get2 (a k d : E)
  | dcopy (lv : Bool) (i j : Nat) (f : Str)
inductive O where
  | none | some (e : E)
inductive Es where
  | nil | cons (e : E) (es : Es)
inductive T where
  | val (e : E) | tru (e : E) | and (ts : Ts) | or (ts : Ts) | not (t : T)
inductive Ts where
  | one (t : T) | cons (t : T) (ts : Ts)
inductive F where
  | lst (es : Es)
  | comp (tg : Tg) (it : It) (ifs : Cs) (e : E) (own : List (Str × Nat))
  | listOf (a : E)
  | listRng (a : E)
  | cat (a b : E)
  | rep (a b : E)
  | slL (a : E) (lo hi : O)
  | split (s p : E) | splitMax (s p k : E)
inductive Cs where
  | nil | one (t : T)
inductive It where
  | seq (tup : Bool) (a : E) | str (a : E) | rng1 (a : E) | rng2 (a b : E) | enumL (a : E) | enumS (a : E)
end
inductive C where
  | pass | dead
  | exp (e : E)
  | app (a e : E)
  | set (i : Nat) (e : E)
  | setc (i : Nat) (e : E)
  | aug (i : Nat) (o : Bop) (e : E)
  | setIx (a i e : E)
  | setKy (a k e : E)
  | setFd (a : E) (f : Str) (e : E)
  | noneFault (b : C) (i : Nat)
  | augIx (a i : E) (o : Bop) (e : E)
  | two (i j : Nat) (e : E)
  | ret (e : E) | retN
  | ite (t : T) (a b : C)
  | for (tg : Tg) (it : It) (b : C)
  | while (n : Nat) (t : T) (b : C)
  | brk | cnt
  | raise (x : Str) (es : Es)
  | fault (b : C) (i : Nat)
  | nil | cons (a b : C)

/-! ### reading -/
def getL (S : Sto) : D → Option (List D)
  | .lst xs => some xs
  | .scr ns => some (ns.map .int)
  | .loc n => match S[n]? with
    | some (.lst xs) => some xs
    | _ => none
  | _ => none
/-- .. that is no script -/
def getM (S : Sto) : D → Option (List D)
  | .lst xs => some xs
  | .loc n => match S[n]? with
    | some (.lst xs) => some xs
    | _ => none
  | _ => none
def getLT (S : Sto) : D → Option (List D)
  | .tup xs => some xs
  | d => getL S d
def listI : List D → Option (List Int)
  | [] => some []
  | .int i :: r => (listI r).map (i :: ·)
  | _ => none
def listB : List D → Option (List Bool)
  | [] => some []
  | .bl i :: r => (listB r).map (i :: ·)
  | _ => none
def listS : List D → Option (List Str)
  | [] => some []
  | .str i :: r => (listS r).map (i :: ·)
  | _ => none
def mapO {α β : Type} (f : α → Option β) : List α → Option (List β)
  | [] => some []
  | a :: r => match f a, mapO f r with
    | some b, some bs => some (b :: bs)
    | _, _ => none
def toPy (S : Sto) : Nat → D → Option PyData
  | 0, _ => none
  | _ + 1, .non => some .none
  | _ + 1, .bl b => some (.bool b)
  | _ + 1, .int i => some (.int i)
  | _ + 1, .str x => if PyData.strOk x then some (.str x) else none
  | k + 1, .tup xs => (mapO (toPy S k) xs).map .tuple
  | k + 1, .lst xs => (mapO (toPy S k) xs).map .list
  | k + 1, .loc n => match S[n]? with
    | some (.lst xs) => (mapO (toPy S k) xs).map .list
    | _ => none
  | _ + 1, _ => none
def SMAX : Nat := 16000000

/-! ### dicts, objects -/
def lookK : List Key → List D → Key → Option D
  | k :: ks, d :: ds, j => if k = j then some d else lookK ks ds j
  | _, _, _ => none
def replK : List Key → List D → Key → D → List D
  | k :: ks, d :: ds, j, x => (if k = j then x else d) :: replK ks ds j x
  | _, ds, _, _ => ds
def putKD (ks : List Key) (ds : List D) (j : Key) (x : D) : List Key × List D := if ks.any (fun k => decide (k = j)) = true then (ks, replK ks ds j x) else (ks ++ [j], ds ++ [x])
def keyD : D → Option Key
  | .int i => some (.inl i)
  | .str x => some (.inr x)
  | _ => none
def getDc (S : Sto) : D → Option (List Key × List D)
  | .dic ks ds => some (ks, ds)
  | .loc n => match S[n]? with
    | some (.dct ks ds) => some (ks, ds)
    | _ => none
  | _ => none
def lookF : List Str → List D → Str → Option D
  | f :: fs, d :: ds, g => if g = f then some d else lookF fs ds g
  | _, _, _ => none
def putFs (g : Str) : List Str → List Str
  | [] => [g]
  | f :: fs => if f = g then f :: fs else f :: putFs g fs
def putFd (g : Str) (x : D) : List Str → List D → List D
  | f :: fs, d :: ds => if f = g then x :: ds else d :: putFd g x fs ds
  | _, _ => [x]
def fldD (S : Sto) (x : D) (f : Str) : Option D := match x with
  | .loc n => match S[n]? with
    | some (.ins _ own fs ds) => if own.contains f then lookF fs ds f else none
    | _ => none
  | _ => none
def insD (S : Sto) (c : Str) (own : List Str) : D → Bool
  | .loc n => match S[n]? with
    | some (.ins c' own' _ _) => decide (c' = c ∧ own' = own)
    | _ => false
  | _ => false
/-- a copy of a dict, made by walking its keys -/
def copyK (ks0 : List Key) (ds0 : List D) : List Key → List Key × List D → List Key × List D
  | [], a => a
  | k :: ks, a => copyK ks0 ds0 ks (putKD a.1 a.2 k ((lookK ks0 ds0 k).getD .non))

/-! ### operations -/
def bop : Bop → D → D → Option D
  | .add, .int i, .int j => some (.int (i + j))
  | .add, .str x, .str y => if x.length + y.length ≤ SMAX then some (.str (x ++ y)) else none
  | .sub, .int i, .int j => some (.int (i - j))
  | .mul, .int i, .int j => if i.natAbs.log2 + j.natAbs.log2 < 1000000 then some (.int (i * j)) else none
  | .mul, .str x, .int k => if 0 ≤ k ∧ k ≤ 16000000 ∧ x.length * k.toNat ≤ SMAX then some (.str (Txt.mul x k)) else none
  | .fdiv, .int i, .int j => if 0 < j ∧ j.natAbs.log2 < 9000 then some (.int (i / j)) else none
  | .mod, .int i, .int j => if 0 < j then some (.int (i % j)) else none
  | .pow, .int i, .int j => if 0 ≤ j ∧ j ≤ 1000000 ∧ i.natAbs < 2 ^ 64 then some (.int (i ^ j.toNat)) else none
  | _, _, _ => none
def flatD : D → Bool
  | .non => true | .bl _ => true | .int _ => true | .str _ => true
  | _ => false
def vF : D → V
  | .bl b => .bl b
  | .int i => .int i
  | .str x => .str x
  | _ => .non
def eqS : D → D → Option Bool
  | .int i, .int j => some (decide (i = j))
  | .str i, .str j => some (decide (i = j))
  | .bl i, .bl j => some (decide (i = j))
  | .non, .non => some true
  | .non, .int _ => some false | .int _, .non => some false | .non, .bl _ => some false | .bl _, .non => some false | .non, .str _ => some false | .str _, .non => some false
  | .int _, .str _ => some false | .str _, .int _ => some false | .bl _, .str _ => some false | .str _, .bl _ => some false
  | _, _ => none
def eqD (S : Sto) (a b : D) : Option Bool := match eqS a b with
  | some r => some r
  | none => match toPy S 8 a, toPy S 8 b with
    | some p, some q => some (PyData.eqv p q)
    | _, _ => none
def inQ (S : Sto) (a b : D) : Option Bool := match getLT S b with
  | some xs => if (flatD a && xs.all flatD) = true then some (inV (vF a) (xs.map vF)) else (match b with
    | .tup _ => none
    | _ => match toPy S 8 a, toPy S 8 b with
      | some p, some (.list q) => some (q.any fun z => PyData.eqv z p)
      | _, _ => none)
  | none => none
def inD (S : Sto) : D → D → Option Bool
  | .str i, .str j => some (!(Builtin.Str.occurrences j i 0 j.length 1).isEmpty)
  | a, b => inQ S a b
def cop (S : Sto) : Cop → D → D → Option Bool
  | .eq, a, b => eqD S a b
  | .ne, a, b => (eqD S a b).map (!·)
  | .lt, .int i, .int j => some (decide (i < j))
  | .le, .int i, .int j => some (decide (i ≤ j))
  | .gt, .int i, .int j => some (decide (j < i))
  | .ge, .int i, .int j => some (decide (j ≤ i))
  | .inn, a, b => inD S a b
  | .nin, a, b => (inD S a b).map (!·)
  | _, _, _ => none
def isTy (S : Sto) : Ty → D → Option Bool
  | t, .non => some false
  | t, .bl _ => some (t == .bool || t == .int)
  | t, .int _ => some (t == .int)
  | t, .str _ => some (t == .str)
  | t, .tup _ => some (t == .tuple)
  | t, .lst _ => some (t == .list)
  | t, .loc n => match S[n]? with
    | some (.lst _) => some (t == .list)
    | _ => none
  | _, _ => none
def blt (S : Sto) : Bl → D → Option D
  | .len, .str x => if x.length ≤ SMAX then some (.int x.length) else none
  | .len, d => (getLT S d).map fun xs => .int xs.length
  | .int, .int i => some (.int i)
  | .int, .bl b => some (.int (if b then 1 else 0))
  | .str, .int i => if i.natAbs.log2 < 1920 then some (.str (toString i)) else none
  | .ord, .str x => if x.length = 1 then some (.int (x.cps.getD 0 0 : Nat)) else none
  | .abs, .int i => some (.int (if i < 0 then -i else i))
  | .sum, d => ((getL S d).bind listI).map fun ns => .int ns.sum
  | .all, d => ((getL S d).bind listB).map fun bs => .bl (bs.all id)
  | .any, d => ((getL S d).bind listB).map fun bs => .bl (bs.any id)
  | _, _ => none
def mt1 : Mt → D → D → Option D
  | .rfind, .str a, .str b => some (.int (Txt.rfind a b))
  | .find, .str a, .str b => some (.int (Txt.find a b))
  | _, _, _ => none
def idx (S : Sto) (a i : D) : Option D := match i with
  | .int k => match a with
    | .str x => if x.length ≤ SMAX then (atI x.cps.toList k).map fun c => .str ⟨#[c]⟩ else none
    | a => (getLT S a).bind fun xs => atI xs k
  | _ => none
def nonD : D → Option Bool
  | .non => some true
  | .exn _ _ => none
  | _ => some false
def limits : List (Str × Int) := [("lines", 400), ("words", 60), ("depth", 12), ("number", 18446744073709551615), ("heights", 6), ("kinds", 12), ("cells", 12), ("touches", 24), ("tolds", 8), ("events", 60), ("promises", 20), ("copies", 30), ("rows", 400), ("moves", 10000), ("run", 1300), ("states", 20000), ("table", 4000), ("leaves", 2000), ("names", 5), ("log", 2000), ("signs", 2000)]
def limD : D → Option D
  | .str x => (limits.lookup x).map .int
  | _ => none
def truD (S : Sto) : D → Option Bool
  | .bl b => some b
  | .int i => some (i != 0)
  | .str x => if x.length ≤ SMAX then some (x.length != 0) else none
  | .non => some false
  | d => (getLT S d).map fun xs => !xs.isEmpty
def optI : D → Option Int
  | .int i => some i
  | _ => none

/-! ### loops -/
/-- what is walked: its items; the list of the store that must stay as it is meanwhile -/
structure Src where
  items : List D
  own : Option Nat
  held : List D
def okS (s : Src) (S : Sto) : Prop := match s.own with
  | none => True
  | some n => S[n]? = some (.lst s.held)
def lown : D → Option Nat
  | .loc n => some n
  | _ => none
def enumD : Nat → List D → List D
  | _, [] => []
  | k, d :: ds => .tup [.int (k : Int), d] :: enumD (k + 1) ds
open Classical in
noncomputable def forL (step : D → Tau → Sto → SR) (s : Src) : List D → Tau → Sto → SR
  | [], τ, S => .nx τ S
  | d :: ds, τ, S => match step d τ S with
    | .nx τ' S' => if okS s S' then forL step s ds τ' S' else .stuck
    | .ct τ' S' => if okS s S' then forL step s ds τ' S' else .stuck
    | .bk τ' S' => .nx τ' S'
    | r => r
def whileF (t : Tau → Sto → R Bool) (b : Tau → Sto → SR) : Nat → Tau → Sto → SR
  | 0, _, _ => .stuck
  | n + 1, τ, S => match t τ S with
    | .ok true S1 => (match b τ S1 with
      | .nx τ' S' => whileF t b n τ' S'
      | .ct τ' S' => whileF t b n τ' S'
      | .bk τ' S' => .nx τ' S'
      | r => r)
    | .ok false S1 => .nx τ S1
    | .exc c fs S1 => .exc c fs τ S1
    | .stuck => .stuck
open Classical in
/-- the items of a comprehension: each either given (some) or left out (none) -/
noncomputable def compL (step : D → Sto → R (Option D)) (s : Src) : List D → Sto → R (List D)
  | [], S => .ok [] S
  | d :: ds, S => match step d S with
    | .ok o S' => if okS s S' then (compL step s ds S').bind fun r S2 => .ok (match o with
        | some x => x :: r
        | none => r) S2 else .stuck
    | .exc _ _ _ => .stuck
    | .stuck => .stuck
def setT (tg : Tg) (d : D) (τ : Tau) : Option Tau := match tg, d with
  | .nm i, d => some (τ.set i (some d))
  | .two i j, .tup [x, y] => some ((τ.set i (some x)).set j (some y))
  | _, _ => none
def wipeT (τ : Tau) : List Nat → Tau
  | [] => τ
  | v :: vs => (wipeT τ vs).set v none
def cutL {α : Type} (xs : List α) (lo hi : Option Int) : List α := (xs.drop (HT.sIx xs.length 0 lo)).take (HT.sIx xs.length xs.length hi - HT.sIx xs.length 0 lo)

/-! ### what core programs compute -/
section
variable (cl : Nat → List D → Sto → R D)
mutual
noncomputable def evE : E → Tau → Sto → R D
  | .var i, τ, S => match τ[i]? with
    | some (some d) => .ok d S
    | _ => .stuck
  | .int i, _, S => .ok (.int i) S
  | .str x, _, S => .ok (.str x) S
  | .bl b, _, S => .ok (.bl b) S
  | .non, _, S => .ok .non S
  | .bin o a b, τ, S => (evE a τ S).bind fun x S1 => (evE b τ S1).bind fun y S2 => .of (bop o x y) S2
  | .neg a, τ, S => (evE a τ S).bind fun x S1 => match x with
    | .int i => .ok (.int (-i)) S1
    | _ => .stuck
  | .cmp o a b, τ, S => (evE a τ S).bind fun x S1 => (evE b τ S1).bind fun y S2 => .of ((cop S2 o x y).map .bl) S2
  | .isN a, τ, S => (evE a τ S).bind fun x S1 => .of ((nonD x).map .bl) S1
  | .notN a, τ, S => (evE a τ S).bind fun x S1 => .of ((nonD x).map fun b => .bl (!b)) S1
  | .chain o p a b c, τ, S => (evE a τ S).bind fun x S1 => (evE b τ S1).bind fun y S2 => match cop S2 o x y with
    | some true => (evE c τ S2).bind fun z S3 => .of ((cop S3 p y z).map .bl) S3
    | some false => .ok (.bl false) S2
    | none => .stuck
  | .and a b, τ, S => (evE a τ S).bind fun x S1 => match x with
    | .bl true => evE b τ S1
    | .bl false => .ok (.bl false) S1
    | _ => .stuck
  | .or a b, τ, S => (evE a τ S).bind fun x S1 => match x with
    | .bl false => evE b τ S1
    | .bl true => .ok (.bl true) S1
    | _ => .stuck
  | .not a, τ, S => (evE a τ S).bind fun x S1 => match x with
    | .bl c => .ok (.bl (!c)) S1
    | _ => .stuck
  | .ite t a b, τ, S => (evT t τ S).bind fun c S1 => if c then evE a τ S1 else evE b τ S1
  | .tup es, τ, S => (evEs es τ S).bind fun xs S1 => if xs.length ≤ SMAX then .ok (.tup xs) S1 else .stuck
  | .frz f, τ, S => (evF f τ S).bind fun xs S1 => .ok (.lst xs) S1
  | .live f, τ, S => (evF f τ S).bind fun xs S1 => .ok (.loc S1.length) (S1 ++ [.lst xs])
  | .call f es, τ, S => (evEs es τ S).bind fun xs S1 => cl f xs S1
  | .dead, _, _ => .stuck
  | .lim e, τ, S => (evE e τ S).bind fun x S1 => .of (limD x) S1
  | .blt b e, τ, S => (evE e τ S).bind fun x S1 => .of (blt S1 b x) S1
  | .isi e t, τ, S => (evE e τ S).bind fun x S1 => .of ((isTy S1 t x).map .bl) S1
  | .divm a b, τ, S => (evE a τ S).bind fun x S1 => (evE b τ S1).bind fun y S2 => match x, y with
    | .int i, .int j => if 0 < j ∧ j < 1073741824 then .ok (.tup [.int (i / j), .int (i % j)]) S2 else .stuck
    | _, _ => .stuck
  | .tupOf a, τ, S => (evE a τ S).bind fun x S1 => match getL S1 x with
    | some xs => .ok (.tup xs) S1
    | none => .stuck
  | .idx a i, τ, S => (evE a τ S).bind fun x S1 => (evE i τ S1).bind fun y S2 => .of (idx S2 x y) S2
  | .slS a lo hi, τ, S => (evE a τ S).bind fun x S1 => (evO lo τ S1).bind fun l S2 => (evO hi τ S2).bind fun h S3 => match x with
    | .str z => if z.length ≤ SMAX then .ok (.str (cutS z l h)) S3 else .stuck
    | _ => .stuck
  | .join s a, τ, S => (evE s τ S).bind fun x S1 => match x with
    | .str z => (evE a τ S1).bind fun y S2 => (match (getLT S2 y).bind listS with
      | some ys => if (ys.map (·.length)).sum + ys.length * z.length ≤ SMAX then .ok (.str (Txt.join z ys)) S2 else .stuck
      | none => .stuck)
    | _ => .stuck
  | .mt1 m o a, τ, S => (evE o τ S).bind fun x S1 => match x with
    | .str z => (evE a τ S1).bind fun y S2 => .of (mt1 m (.str z) y) S2
    | _ => .stuck
  | .fld a f, τ, S => (evE a τ S).bind fun x S1 => .of (fldD S1 x f) S1
  | .meth c own a f es, τ, S => (evE a τ S).bind fun x S1 => if insD S1 c own x = true then (evEs es τ S1).bind fun xs S2 => cl f (x :: xs) S2 else .stuck
  | .new c own f es, τ, S => (evEs es τ S).bind fun xs S1 => (cl f (.loc S1.length :: xs) (S1 ++ [.ins c own [] []])).bind fun y S2 => match y with
    | .non => .ok (.loc S1.length) S2
    | _ => .stuck
  | .dnil lv, τ, S => if lv then .ok (.loc S.length) (S ++ [.dct [] []]) else .ok (.dic [] []) S
  | .get2 a k d, τ, S => (evE a τ S).bind fun x S1 => match getDc S1 x with
    | some _ => (evE k τ S1).bind fun y S2 => (evE d τ S2).bind fun z S3 => (match getDc S3 x, keyD y with
      | some q, some j => .ok ((lookK q.1 q.2 j).getD z) S3
      | _, _ => .stuck)
    | none => .stuck
  | .dcopy lv i j f, τ, S => match τ[i]? with
    | some (some x) => (match (fldD S x f).bind (getDc S) with
      | some q => if q.1.length ≤ 1000 ∧ j < τ.length then (if lv then .ok (.loc S.length) (S ++ [.dct (copyK q.1 q.2 q.1 ([], [])).1 (copyK q.1 q.2 q.1 ([], [])).2]) else .ok (.dic (copyK q.1 q.2 q.1 ([], [])).1 (copyK q.1 q.2 q.1 ([], [])).2) S) else .stuck
      | none => .stuck)
    | _ => .stuck
noncomputable def evO : O → Tau → Sto → R (Option Int)
  | .none, _, S => .ok none S
  | .some e, τ, S => (evE e τ S).bind fun x S1 => match x with
    | .int i => .ok (some i) S1
    | _ => .stuck
noncomputable def evEs : Es → Tau → Sto → R (List D)
  | .nil, _, S => .ok [] S
  | .cons e es, τ, S => (evE e τ S).bind fun x S1 => (evEs es τ S1).bind fun xs S2 => .ok (x :: xs) S2
noncomputable def evT : T → Tau → Sto → R Bool
  | .val e, τ, S => (evE e τ S).bind fun x S1 => match x with
    | .bl c => .ok c S1
    | _ => .stuck
  | .tru e, τ, S => (evE e τ S).bind fun x S1 => .of (truD S1 x) S1
  | .and ts, τ, S => evAnd ts τ S
  | .or ts, τ, S => evOr ts τ S
  | .not t, τ, S => (evT t τ S).bind fun c S1 => .ok (!c) S1
noncomputable def evAnd : Ts → Tau → Sto → R Bool
  | .one t, τ, S => evT t τ S
  | .cons t ts, τ, S => (evT t τ S).bind fun c S1 => if c then evAnd ts τ S1 else .ok false S1
noncomputable def evOr : Ts → Tau → Sto → R Bool
  | .one t, τ, S => evT t τ S
  | .cons t ts, τ, S => (evT t τ S).bind fun c S1 => if c then .ok true S1 else evOr ts τ S1
noncomputable def evF : F → Tau → Sto → R (List D)
  | .lst es, τ, S => (evEs es τ S).bind fun xs S1 => if xs.length ≤ SMAX then .ok xs S1 else .stuck
  | .comp tg it ifs e own, τ, S => (evI it τ S).bind fun s S1 => if s.items.length ≤ SMAX then
      compL (fun d S => match setT tg d (wipeT τ (own.map (·.2))) with
        | some τ' => (evC ifs τ' S).bind fun c S2 => if c then (evE e τ' S2).bind fun x S3 => .ok (some x) S3 else .ok none S2
        | none => .stuck) s s.items S1
    else .stuck
  | .listOf a, τ, S => (evE a τ S).bind fun x S1 => match getLT S1 x with
    | some xs => .ok xs S1
    | none => .stuck
  | .listRng a, τ, S => (evE a τ S).bind fun x S1 => match x with
    | .int n => if -(2 ^ 62) ≤ n ∧ n ≤ 16000000 then .ok ((List.range n.toNat).map fun (i : Nat) => D.int (i : Int)) S1 else .stuck
    | _ => .stuck
  | .cat a b, τ, S => (evE a τ S).bind fun x S1 => (evE b τ S1).bind fun y S2 => match getM S2 x, getM S2 y with
    | some xs, some ys => if xs.length + ys.length ≤ SMAX then .ok (xs ++ ys) S2 else .stuck
    | _, _ => .stuck
  | .rep a b, τ, S => (evE a τ S).bind fun x S1 => (evE b τ S1).bind fun y S2 => match getM S2 x, y with
    | some xs, .int k => if -(2 ^ 63) ≤ k ∧ k < 2 ^ 63 ∧ xs.length * k.toNat ≤ SMAX then .ok (List.replicate k.toNat xs).flatten S2 else .stuck
    | _, _ => .stuck
  | .slL a lo hi, τ, S => (evE a τ S).bind fun x S1 => (evO lo τ S1).bind fun l S2 => (evO hi τ S2).bind fun h S3 => match getL S3 x with
    | some xs => .ok (cutL xs l h) S3
    | none => .stuck
  | .split s p, τ, S => (evE s τ S).bind fun x S1 => match x with
    | .str a => (evE p τ S1).bind fun y S2 => (match y with
      | .str b => if (b.length == 0) = false ∧ a.length + 2 ≤ SMAX then .ok ((Txt.split a b).map .str) S2 else .stuck
      | _ => .stuck)
    | _ => .stuck
  | .splitMax s p k, τ, S => (evE s τ S).bind fun x S1 => match x with
    | .str a => (evE p τ S1).bind fun y S2 => (evE k τ S2).bind fun z S3 => (match y, z with
      | .str b, .int k => if (b.length == 0) = false ∧ -(2 ^ 63) ≤ k ∧ k < 2 ^ 63 ∧ a.length + 2 ≤ SMAX then .ok ((Txt.splitMax a b k).map .str) S3 else .stuck
      | _, _ => .stuck)
    | _ => .stuck
noncomputable def evC : Cs → Tau → Sto → R Bool
  | .nil, _, S => .ok true S
  | .one t, τ, S => evT t τ S
noncomputable def evI : It → Tau → Sto → R Src
  | .seq true a, τ, S => (evE a τ S).bind fun x S1 => match x with
    | .tup xs => .ok ⟨xs, none, []⟩ S1
    | _ => .stuck
  | .seq false a, τ, S => (evE a τ S).bind fun x S1 => match getL S1 x with
    | some xs => .ok ⟨xs, lown x, xs⟩ S1
    | none => .stuck
  | .str a, τ, S => (evE a τ S).bind fun x S1 => match x with
    | .str z => .ok ⟨z.cps.toList.map fun c => .str ⟨#[c]⟩, none, []⟩ S1
    | _ => .stuck
  | .rng1 a, τ, S => (evE a τ S).bind fun x S1 => match x with
    | .int j => if -(2 ^ 62) ≤ j ∧ j < 2 ^ 62 then .ok ⟨(List.range j.toNat).map fun (i : Nat) => .int (i : Int), none, []⟩ S1 else .stuck
    | _ => .stuck
  | .rng2 a b, τ, S => (evE a τ S).bind fun x S1 => (evE b τ S1).bind fun y S2 => match x, y with
    | .int i, .int j => if -(2 ^ 62) ≤ i ∧ i < 2 ^ 62 ∧ -(2 ^ 62) ≤ j ∧ j < 2 ^ 62 then .ok ⟨(List.range (j - i).toNat).map fun (k : Nat) => .int (i + (k : Int)), none, []⟩ S2 else .stuck
    | _, _ => .stuck
  | .enumL a, τ, S => (evE a τ S).bind fun x S1 => match getL S1 x with
    | some xs => .ok ⟨enumD 0 xs, lown x, xs⟩ S1
    | none => .stuck
  | .enumS a, τ, S => (evE a τ S).bind fun x S1 => match x with
    | .str z => .ok ⟨enumD 0 (z.cps.toList.map fun c => .str ⟨#[c]⟩), none, []⟩ S1
    | _ => .stuck
end
def R.st {α : Type} (r : R α) (τ : Tau) (f : α → Sto → SR) : SR := match r with
  | .ok a S => f a S
  | .exc c fs S => .exc c fs τ S
  | .stuck => .stuck
def SR.then (r : SR) (f : Tau → Sto → SR) : SR := match r with
  | .nx τ S => f τ S
  | r => r
/-- a list that may be written -/
def ownK (S : Sto) : D → Option (Nat × List Key × List D)
  | .loc n => match S[n]? with
    | some (.dct ks ds) => some (n, ks, ds)
    | _ => none
  | _ => none
def ownI (S : Sto) : D → Option (Nat × Str × List Str × List Str × List D)
  | .loc n => match S[n]? with
    | some (.ins c own fs ds) => some (n, c, own, fs, ds)
    | _ => none
  | _ => none
def own (S : Sto) : D → Option (Nat × List D)
  | .loc n => match S[n]? with
    | some (.lst xs) => some (n, xs)
    | _ => none
  | _ => none
-- the frozen form of a value: the lists of the store from n0 on
def frz (S : Sto) (n0 : Nat) : Nat → D → Option D
  | 0, _ => none
  | k + 1, .loc n => if n < n0 then some (.loc n) else (match S[n]? with
    | some (.lst xs) => (mapO (frz S n0 k) xs).map .lst
    | some (.dct ks xs) => (mapO (frz S n0 k) xs).map (.dic ks)
    | _ => none)
  | k + 1, .tup xs => (mapO (frz S n0 k) xs).map .tup
  | k + 1, .lst xs => (mapO (frz S n0 k) xs).map .lst
  | k + 1, .dic ks xs => (mapO (frz S n0 k) xs).map (.dic ks)
  | _ + 1, .exn _ _ => none
  | _ + 1, d => some d
-- no list of the store from n on is spoken of
mutual
def below (n : Nat) : D → Bool
  | .loc m => decide (m < n)
  | .tup xs => belowA n xs
  | .lst xs => belowA n xs
  | .dic _ xs => belowA n xs
  | _ => true
def belowA (n : Nat) : List D → Bool
  | [] => true
  | d :: ds => below n d && belowA n ds
end
def belowL (n : Nat) : L → Bool
  | .dead => true
  | .lst xs => belowA n xs
  | .dct _ xs => belowA n xs
  | .ins _ _ _ xs => belowA n xs
/-- what the laws' own helper says of an error: its class and its fields -/
def faultD (c : Str) : List D → Option D
  | [x] => if c = "TooMany" ∨ c = "BadText" ∨ c = "BadTrace" ∨ c = "BadPaper" ∨ c = "BadSeats" ∨ c = "BadDisk" ∨ c = "BadDeed" then some (.tup [.str c, x]) else none
  | [x, y] => if c = "BadPlant" ∨ c = "BadCode" ∨ c = "BadMove" then some (.tup [.str c, x, y]) else none
  | _ => none
def augD : Bop → D → D → Option D
  | .add, .int i, .int j => some (.int (i + j))
  | .sub, .int i, .int j => some (.int (i - j))
  | _, _, _ => none
/-- the fields that an error of the class may bear -/
def kindX (c : Str) : Nat := if c = "TooMany" ∨ c = "BadTrace" ∨ c = "BadSeats" ∨ c = "BadDeed" then 0 else if c = "BadText" ∨ c = "BadPaper" ∨ c = "BadDisk" then 1 else if c = "BadPlant" ∨ c = "BadCode" ∨ c = "BadMove" then 2 else 9
def excOk (c : Str) : List D → Bool
  | [.str x] => kindX c == 0 && decide (x.length ≤ 1000000)
  | [.int i] => kindX c == 1 && decide (i.natAbs.log2 < 1900)
  | [.int i, .str x] => kindX c == 2 && (decide (i.natAbs.log2 < 1900) && decide (x.length ≤ 1000000))
  | _ => false
noncomputable def exC : C → Tau → Sto → SR
  | .pass, τ, S => .nx τ S
  | .dead, _, _ => .stuck
  | .nil, τ, S => .nx τ S
  | .cons a b, τ, S => (exC a τ S).then fun τ' S' => exC b τ' S'
  | .exp e, τ, S => (evE cl e τ S).st τ fun _ S1 => .nx τ S1
  | .app a e, τ, S => (evE cl a τ S).st τ fun x S1 => match own S1 x with
    | some _ => (evE cl e τ S1).st τ fun y S2 => (match own S2 x with
      | some q => if q.2.length < SMAX then .nx τ (S2.set q.1 (.lst (q.2 ++ [y]))) else .stuck
      | none => .stuck)
    | none => .stuck
  | .set i e, τ, S => (evE cl e τ S).st τ fun x S1 => .nx (τ.set i (some x)) S1
  | .setc i e, τ, S => (evE cl e τ S).st τ fun x S1 => .nx (τ.set i (some x)) S1
  | .aug i o e, τ, S => match τ[i]? with
    | some (some x) => (evE cl e τ S).st τ fun y S1 => (match augD o x y with
      | some z => .nx (τ.set i (some z)) S1
      | none => .stuck)
    | _ => .stuck
  | .setIx a i e, τ, S => (evE cl e τ S).st τ fun y S1 => (evE cl a τ S1).st τ fun x S2 => (evE cl i τ S2).st τ fun k S3 => match own S3 x, k with
    | some q, .int k => (match ixN q.2.length k with
      | some j => .nx τ (S3.set q.1 (.lst (q.2.set j y)))
      | none => .stuck)
    | _, _ => .stuck
  | .setKy a k e, τ, S => (evE cl e τ S).st τ fun y S1 => (evE cl a τ S1).st τ fun x S2 => (evE cl k τ S2).st τ fun z S3 => match ownK S3 x, keyD z with
    | some q, some j => if q.2.1.length < SMAX then .nx τ (S3.set q.1 (.dct (putKD q.2.1 q.2.2 j y).1 (putKD q.2.1 q.2.2 j y).2)) else .stuck
    | _, _ => .stuck
  | .setFd a f e, τ, S => (evE cl e τ S).st τ fun y S1 => (evE cl a τ S1).st τ fun x S2 => match ownI S2 x with
    | some q => if q.2.2.1.contains f = true ∧ q.2.2.2.1.length < 900 then .nx τ (S2.set q.1 (.ins q.2.1 q.2.2.1 (putFs f q.2.2.2.1) (putFd f y q.2.2.2.1 q.2.2.2.2))) else .stuck
    | none => .stuck
  | .noneFault b i, τ, S => match exC b τ S with
    | .exc c fs τ' S' => (match faultD c fs with
      | some d => .ret (.tup [.non, d]) S'
      | none => .stuck)
    | r => r
  | .augIx a i o e, τ, S => (evE cl a τ S).st τ fun x S1 => (evE cl i τ S1).st τ fun k S2 => match own S2 x, k with
    | some p, .int k => if 0 ≤ k ∧ k < 2 ^ 63 then (match p.2[k.toNat]? with
      | some z => (evE cl e τ S2).st τ fun y S3 => (match own S3 x, augD o z y with
        | some q, some r => (match ixN q.2.length k with
          | some j => .nx τ (S3.set q.1 (.lst (q.2.set j r)))
          | none => .stuck)
        | _, _ => .stuck)
      | none => .stuck) else .stuck
    | _, _ => .stuck
  | .two i j e, τ, S => (evE cl e τ S).st τ fun x S1 => match x with
    | .tup [a, b] => .nx ((τ.set i (some a)).set j (some b)) S1
    | _ => .stuck
  | .ret e, τ, S => (evE cl e τ S).st τ fun x S1 => .ret x S1
  | .retN, _, S => .ret .non S
  | .ite t a b, τ, S => (evT cl t τ S).st τ fun c S1 => if c then exC a τ S1 else exC b τ S1
  | .for tg it b, τ, S => (evI cl it τ S).st τ fun s S1 => forL (fun d τ S => match setT tg d τ with
      | some τ' => exC b τ' S
      | none => .stuck) s s.items τ S1
  | .while n t b, τ, S => whileF (evT cl t) (exC b) n τ S
  | .brk, τ, S => .bk τ S
  | .cnt, τ, S => .ct τ S
  | .raise x es, τ, S => (evEs cl es τ S).st τ fun xs S1 => if excOk x xs then .exc x xs τ S1 else .stuck
  | .fault b i, τ, S => match exC b τ S with
    | .exc c fs τ' S' => (match faultD c fs with
      | some d => .ret d S'
      | none => .stuck)
    | r => r
end

/-! ### programs -/
structure Df where
  name : Str
  ps : List Str
  N : List Str
  body : C
  pure : Bool := true
  meth : Option Str := none
  own : List Str := []
def startT (n : Nat) (ds : List D) : Tau := ds.map some ++ List.replicate (n - ds.length) none
open Classical in
/-- the store cut back to its length at the entry -/
noncomputable def cut {α : Type} (S0 S : Sto) (k : Sto → R α) : R α := if S.take S0.length = S0 ∨ (S.take S0.length).all (belowL S0.length) = true then k (S.take S0.length) else .stuck
/-- behind a def's body: a pure one hands back frozen data and leaves no list behind -/
noncomputable def fin (pure : Bool) (S0 : Sto) : SR → R D
  | .nx _ S => if pure then cut S0 S (fun S' => .ok .non S') else .ok .non S
  | .ret d S => if pure then (match frz S S0.length 8 d with
      | some x => cut S0 S fun S' => .ok x S'
      | none => .stuck) else .ok d S
  | .exc c fs _ S => if pure then (match mapO (frz S S0.length 8) fs with
      | some x => cut S0 S fun S' => .exc c x S'
      | none => .stuck) else .exc c fs S
  | _ => .stuck
noncomputable def run (P : List Df) : Nat → Nat → List D → Sto → R D
  | 0, _, _, _ => .stuck
  | k + 1, f, ds, S => match P[f]? with
    | some df => if ds.length = df.ps.length then fin df.pure S (exC (run P k) df.body (startT df.N.length ds) S) else .stuck
    | none => .stuck
end Pi
end
section
set_option Elab.async false
set_option linter.all false
set_option maxRecDepth 100000
set_option maxHeartbeats 4000000
/-! Pi, part B: data in the heap; readings made of what core programs compute. -/
namespace Pi
open PySem PySem.Spec PyProof.Rows L2
abbrev Ex := Evl.Ex
abbrev Fg := PySem.W.Frag

def LstAt (F : Hp) (a : Addr) (xs : List V) : Prop := F a = some (.lst xs)
def TupAt (K : Fg) (F : Hp) (a : Addr) (xs : List V) : Prop := F a = some (.tup xs) ∨
  ∃ (o : Obj) (its : Array Value) (n : Nat), K.lookup a = some o ∧ o.cls = .type "tuple" ∧ o.data = .seq its n ∧ its.size ≤ sizeLine ∧ Vals xs its.toList
mutual
def Is (K : Fg) (A : List Addr) (F : Hp) : D → V → Prop
  | .non, v => v = .non
  | .bl b, v => v = .bl b
  | .int i, v => v = .int i
  | .str x, v => v = .str x
  | .tup ds, v => ∃ a vs, v = .ref a ∧ TupAt K F a vs ∧ IsA K A F ds vs
  | .lst ds, v => ∃ a vs, v = .ref a ∧ LstAt F a vs ∧ IsA K A F ds vs
  | .scr ns, v => ∃ a, v = .ref a ∧ SqL K F a (ns.map V.int)
  | .loc n, v => ∃ a, A[n]? = some a ∧ v = .ref a
  | .exn _ _, _ => True
  | .dic ks ds, v => ∃ a vs, v = .ref a ∧ F a = some (.dK (ks.zip vs)) ∧ ks.length = ds.length ∧ IsA K A F ds vs
def IsA (K : Fg) (A : List Addr) (F : Hp) : List D → List V → Prop
  | [], vs => vs = []
  | d :: ds, vs => ∃ v r, vs = v :: r ∧ Is K A F d v ∧ IsA K A F ds r
end
structure Wd where
  F : Hp
  H : Hp
  A : List Addr
/-- behind: what is frozen stays, the store's lists keep their places, what belongs to neither stays as it is, nothing vanishes -/
structure Wd.le (w w' : Wd) : Prop where
  ex : Ex w.F w'.F
  pre : w.A <+: w'.A
  frm : ∀ a o, w.H a = some o → w.F a = none → a ∉ w.A → w'.H a = some o ∧ w'.F a = none ∧ a ∉ w'.A
  grow : ∀ a, w'.H a = none → w.H a = none
theorem Wd.le.refl (w : Wd) : w.le w := ⟨Evl.Ex.refl _, List.prefix_refl _, fun _ _ h1 h2 h3 => ⟨h1, h2, h3⟩, fun _ h => h⟩
theorem Wd.le.trans {a b c : Wd} (h : a.le b) (h' : b.le c) : a.le c := ⟨h.ex.trans h'.ex, h.pre.trans h'.pre, fun x o h1 h2 h3 => by
  obtain ⟨q1, q2, q3⟩ := h.frm x o h1 h2 h3
  exact h'.frm x o q1 q2 q3, fun x q => h.grow x (h'.grow x q)⟩
theorem pre_get {α : Type} {A A' : List α} (h : A <+: A') {n : Nat} {a : α} (e : A[n]? = some a) : A'[n]? = some a := by
  obtain ⟨t, rfl⟩ := h
  have hn := (List.getElem?_eq_some_iff.mp e).1
  rw [List.getElem?_append_left hn]
  exact e
mutual
theorem Is.mono {K : Fg} {A A' : List Addr} {F F' : Hp} (e : Ex F F') (p : A <+: A') : ∀ {d : D} {v : V}, Is K A F d v → Is K A' F' d v
  | .non, _, h => h
  | .bl _, _, h => h
  | .int _, _, h => h
  | .str _, _, h => h
  | .tup ds, _, ⟨a, vs, h1, h2, h3⟩ => ⟨a, vs, h1, h2.imp (e _ _) id, IsA.mono e p h3⟩
  | .lst ds, _, ⟨a, vs, h1, h2, h3⟩ => ⟨a, vs, h1, e _ _ h2, IsA.mono e p h3⟩
  | .scr ns, _, ⟨a, h1, h2⟩ => ⟨a, h1, Evl.ex_l e h2⟩
  | .loc n, _, ⟨a, h1, h2⟩ => ⟨a, pre_get p h1, h2⟩
  | .exn _ _, _, _ => True.intro
  | .dic ks ds, _, ⟨a, vs, h1, h2, h4, h3⟩ => ⟨a, vs, h1, e _ _ h2, h4, IsA.mono e p h3⟩
theorem IsA.mono {K : Fg} {A A' : List Addr} {F F' : Hp} (e : Ex F F') (p : A <+: A') : ∀ {ds : List D} {vs : List V}, IsA K A F ds vs → IsA K A' F' ds vs
  | [], _, h => h
  | d :: ds, _, ⟨v, r, h1, h2, h3⟩ => ⟨v, r, h1, Is.mono e p h2, IsA.mono e p h3⟩
end
theorem IsA.len {K : Fg} {A : List Addr} {F : Hp} : ∀ {ds : List D} {vs : List V}, IsA K A F ds vs → ds.length = vs.length
  | [], _, h => by cases h; rfl
  | d :: ds, _, ⟨v, r, h1, h2, h3⟩ => by subst h1; simp [h3.len]
theorem IsA.get {K : Fg} {A : List Addr} {F : Hp} : ∀ {ds : List D} {vs : List V} {i : Nat} {d : D}, IsA K A F ds vs → ds[i]? = some d → ∃ v, vs[i]? = some v ∧ Is K A F d v
  | [], _, _, _, _, e => by simp at e
  | d :: ds, _, 0, _, ⟨v, r, h1, h2, h3⟩, e => by
    subst h1
    simp at e
    subst e
    exact ⟨v, rfl, h2⟩
  | d :: ds, _, i + 1, _, ⟨v, r, h1, h2, h3⟩, e => by
    subst h1
    obtain ⟨u, q1, q2⟩ := h3.get (i := i) (by simpa using e)
    exact ⟨u, by simpa using q1, q2⟩
theorem IsA.getV {K : Fg} {A : List Addr} {F : Hp} {ds : List D} {vs : List V} {i : Nat} {v : V} (h : IsA K A F ds vs) (e : vs[i]? = some v) : ∃ d, ds[i]? = some d ∧ Is K A F d v := by
  have hi := (List.getElem?_eq_some_iff.mp e).1
  rw [← h.len] at hi
  obtain ⟨u, q1, q2⟩ := h.get (List.getElem?_eq_getElem hi)
  rw [e] at q1
  cases q1
  exact ⟨_, List.getElem?_eq_getElem hi, q2⟩
theorem IsA.append {K : Fg} {A : List Addr} {F : Hp} : ∀ {ds : List D} {vs : List V} {es : List D} {us : List V}, IsA K A F ds vs → IsA K A F es us → IsA K A F (ds ++ es) (vs ++ us)
  | [], _, _, _, h, h' => by cases h; exact h'
  | d :: ds, _, _, _, ⟨v, r, h1, h2, h3⟩, h' => by subst h1; exact ⟨v, _, rfl, h2, h3.append h'⟩
theorem IsA.set {K : Fg} {A : List Addr} {F : Hp} : ∀ {ds : List D} {vs : List V} {i : Nat} {d : D} {v : V}, IsA K A F ds vs → Is K A F d v → IsA K A F (ds.set i d) (vs.set i v)
  | [], _, _, _, _, h, _ => by cases h; rfl
  | d :: ds, _, 0, _, _, ⟨v, r, h1, h2, h3⟩, h' => by subst h1; exact ⟨_, _, rfl, h', h3⟩
  | d :: ds, _, i + 1, _, _, ⟨v, r, h1, h2, h3⟩, h' => by subst h1; exact ⟨_, _, rfl, h2, h3.set h'⟩
theorem IsA.drop {K : Fg} {A : List Addr} {F : Hp} : ∀ {ds : List D} {vs : List V} (n : Nat), IsA K A F ds vs → IsA K A F (ds.drop n) (vs.drop n)
  | _, _, 0, h => h
  | [], _, n + 1, h => by cases h; rfl
  | d :: ds, _, n + 1, ⟨v, r, h1, h2, h3⟩ => by subst h1; exact h3.drop n
theorem IsA.take {K : Fg} {A : List Addr} {F : Hp} : ∀ {ds : List D} {vs : List V} (n : Nat), IsA K A F ds vs → IsA K A F (ds.take n) (vs.take n)
  | _, _, 0, h => rfl
  | [], _, n + 1, h => by cases h; rfl
  | d :: ds, _, n + 1, ⟨v, r, h1, h2, h3⟩ => by subst h1; exact ⟨v, _, rfl, h2, h3.take n⟩
theorem IsA.of_map {K : Fg} {A : List Addr} {F : Hp} {α : Type} (f : α → D) (g : α → V) (h : ∀ a, Is K A F (f a) (g a)) : ∀ l : List α, IsA K A F (l.map f) (l.map g)
  | [] => rfl
  | a :: l => ⟨_, _, rfl, h a, IsA.of_map f g h l⟩
theorem IsA.ofFlat {K : Fg} {A : List Addr} {F : Hp} : ∀ {ds : List D} {vs : List V}, IsA K A F ds vs → ds.all flatD = true → vs = ds.map vF ∧ vs.all flatV = true
  | [], _, h, _ => by cases h; exact ⟨rfl, rfl⟩
  | d :: ds, _, ⟨v, r, h1, h2, h3⟩, e => by
    subst h1
    rw [List.all_cons, Bool.and_eq_true] at e
    obtain ⟨q1, q2⟩ := h3.ofFlat e.2
    subst q1
    cases d with
    | non => cases h2; exact ⟨rfl, by simpa [flatV] using q2⟩
    | bl b => cases h2; exact ⟨rfl, by simpa [flatV] using q2⟩
    | int b => cases h2; exact ⟨rfl, by simpa [flatV] using q2⟩
    | str b => cases h2; exact ⟨rfl, by simpa [flatV] using q2⟩
    | _ => exact absurd e.1 (by simp [flatD])
theorem IsA.listI {K : Fg} {A : List Addr} {F : Hp} : ∀ {ds : List D} {vs : List V} {ns : List Int}, IsA K A F ds vs → listI ds = some ns → vs = ns.map V.int
  | [], _, _, h, e => by cases h; cases e; rfl
  | .int i :: ds, _, ns, ⟨v, r, h1, h2, h3⟩, e => by
    subst h1
    unfold Pi.listI at e
    obtain ⟨q, q1, rfl⟩ := Option.map_eq_some_iff.mp e
    cases h2
    rw [h3.listI q1]
    rfl
  | .non :: _, _, _, _, e => by cases e
  | .bl _ :: _, _, _, _, e => by cases e
  | .str _ :: _, _, _, _, e => by cases e
  | .tup _ :: _, _, _, _, e => by cases e
  | .lst _ :: _, _, _, _, e => by cases e
  | .scr _ :: _, _, _, _, e => by cases e
  | .loc _ :: _, _, _, _, e => by cases e
  | .exn _ _ :: _, _, _, _, e => by cases e
  | .dic _ _ :: _, _, _, _, e => by cases e
theorem IsA.listB {K : Fg} {A : List Addr} {F : Hp} : ∀ {ds : List D} {vs : List V} {ns : List Bool}, IsA K A F ds vs → listB ds = some ns → vs = ns.map V.bl
  | [], _, _, h, e => by cases h; cases e; rfl
  | .bl i :: ds, _, ns, ⟨v, r, h1, h2, h3⟩, e => by
    subst h1
    unfold Pi.listB at e
    obtain ⟨q, q1, rfl⟩ := Option.map_eq_some_iff.mp e
    cases h2
    rw [h3.listB q1]
    rfl
  | .non :: _, _, _, _, e => by cases e
  | .int _ :: _, _, _, _, e => by cases e
  | .str _ :: _, _, _, _, e => by cases e
  | .tup _ :: _, _, _, _, e => by cases e
  | .lst _ :: _, _, _, _, e => by cases e
  | .scr _ :: _, _, _, _, e => by cases e
  | .loc _ :: _, _, _, _, e => by cases e
  | .exn _ _ :: _, _, _, _, e => by cases e
  | .dic _ _ :: _, _, _, _, e => by cases e
theorem IsA.listS {K : Fg} {A : List Addr} {F : Hp} : ∀ {ds : List D} {vs : List V} {ns : List Str}, IsA K A F ds vs → listS ds = some ns → vs = ns.map V.str
  | [], _, _, h, e => by cases h; cases e; rfl
  | .str i :: ds, _, ns, ⟨v, r, h1, h2, h3⟩, e => by
    subst h1
    unfold Pi.listS at e
    obtain ⟨q, q1, rfl⟩ := Option.map_eq_some_iff.mp e
    cases h2
    rw [h3.listS q1]
    rfl
  | .non :: _, _, _, _, e => by cases e
  | .bl _ :: _, _, _, _, e => by cases e
  | .int _ :: _, _, _, _, e => by cases e
  | .tup _ :: _, _, _, _, e => by cases e
  | .lst _ :: _, _, _, _, e => by cases e
  | .scr _ :: _, _, _, _, e => by cases e
  | .loc _ :: _, _, _, _, e => by cases e
  | .exn _ _ :: _, _, _, _, e => by cases e
  | .dic _ _ :: _, _, _, _, e => by cases e

/-- what the ground says of a class: its instances' own attributes -/
structure ClsF (K : Fg) (c : Str) (own : List Str) : Prop where
  cl : L2.Cls K (He.ga K c)
  na : ∀ f ∈ own, L2.NoAttr K (He.ga K c) f
/-- what stands at the place of a cell -/
def Cel (K : Fg) (A : List Addr) (F : Hp) : L → HO → Prop
  | .dead, _ => False
  | .lst xs, o => ∃ vs, o = .lst vs ∧ IsA K A F xs vs
  | .dct ks ds, o => ∃ vs, o = .dK (ks.zip vs) ∧ ks.length = ds.length ∧ IsA K A F ds vs
  | .ins c own fs ds, o => ∃ dx vs, o = .ins (He.ga K c) dx (fs.zip vs) ∧ fs.length = ds.length ∧ (∀ f ∈ fs, f ∈ own) ∧ ClsF K c own ∧ IsA K A F ds vs
def L.alive : L → Prop
  | .dead => False
  | _ => True
theorem Cel.mono {K : Fg} {A A' : List Addr} {F F' : Hp} (e : Ex F F') (p : A <+: A') {c : L} {o : HO} (h : Cel K A F c o) : Cel K A' F' c o := by
  cases c with
  | dead => exact h
  | lst xs => obtain ⟨vs, h1, h2⟩ := h; exact ⟨vs, h1, h2.mono e p⟩
  | dct ks ds => obtain ⟨vs, h1, h2, h3⟩ := h; exact ⟨vs, h1, h2, h3.mono e p⟩
  | ins c own fs ds => obtain ⟨dx, vs, h1, h2, h3, h4, h5⟩ := h; exact ⟨dx, vs, h1, h2, h3, h4, h5.mono e p⟩
/-- the store in the heap -/
structure Rel (K : Fg) (w : Wd) (S : Sto) : Prop where
  ex : Ex w.F w.H
  len : w.A.length = S.length
  nd : w.A.Nodup
  som : ∀ a ∈ w.A, ∃ o, w.H a = some o
  cel : ∀ (n : Nat) (c : L) (a : Addr), S[n]? = some c → c.alive → w.A[n]? = some a → w.F a = none ∧ ∃ o, w.H a = some o ∧ Cel K w.A w.F c o
theorem Rel.liv {K : Fg} {w : Wd} {S : Sto} (hr : Rel K w S) : ∀ (n : Nat) (xs : List D) (a : Addr), S[n]? = some (L.lst xs) → w.A[n]? = some a → w.F a = none ∧ ∃ vs, w.H a = some (.lst vs) ∧ IsA K w.A w.F xs vs := fun n xs a h1 h2 => by
  obtain ⟨q1, o, q2, vs, rfl, q3⟩ := hr.cel n _ a h1 True.intro h2
  exact ⟨q1, vs, q2, q3⟩
def Sig (K : Fg) (w : Wd) (σ : L2.St) (τ : Tau) : Prop := σ.length = τ.length ∧ ∀ (i : Nat) (d : D), τ[i]? = some (some d) → ∃ v, σ[i]? = some (some v) ∧ Is K w.A w.F d v
theorem Sig.mono {K : Fg} {w w' : Wd} {σ : L2.St} {τ : Tau} (h : Sig K w σ τ) (l : w.le w') : Sig K w' σ τ := ⟨h.1, fun i d e => by
  obtain ⟨v, q1, q2⟩ := h.2 i d e
  exact ⟨v, q1, q2.mono l.ex l.pre⟩⟩
theorem Is.le {K : Fg} {w w' : Wd} {d : D} {v : V} (h : Is K w.A w.F d v) (l : w.le w') : Is K w'.A w'.F d v := h.mono l.ex l.pre
theorem IsA.le {K : Fg} {w w' : Wd} {d : List D} {v : List V} (h : IsA K w.A w.F d v) (l : w.le w') : IsA K w'.A w'.F d v := h.mono l.ex l.pre
theorem Sig.set {K : Fg} {w : Wd} {σ : L2.St} {τ : Tau} {i : Nat} {d : D} {v : V} (h : Sig K w σ τ) (hd : Is K w.A w.F d v) : Sig K w (σ.set i (some v)) (τ.set i (some d)) := by
  refine ⟨by rw [List.length_set, List.length_set, h.1], fun j e q => ?_⟩
  by_cases hj : i = j
  · subst hj
    have hi : i < τ.length := by
      have := (List.getElem?_eq_some_iff.mp q).1
      rwa [List.length_set] at this
    rw [List.getElem?_set_self hi] at q
    cases q
    exact ⟨v, List.getElem?_set_self (by rw [h.1]; exact hi), hd⟩
  · rw [List.getElem?_set_ne hj] at q
    obtain ⟨u, q1, q2⟩ := h.2 j e q
    exact ⟨u, by rw [List.getElem?_set_ne hj]; exact q1, q2⟩
theorem Sig.wipe {K : Fg} {w : Wd} {σ : L2.St} {τ : Tau} (h : Sig K w σ τ) : ∀ vs, Sig K w (L2.wipe σ vs) (wipeT τ vs)
  | [] => h
  | v :: vs => by
    have ih := Sig.wipe h vs
    refine ⟨by unfold L2.wipe wipeT; rw [List.length_set, List.length_set, ih.1], fun j e q => ?_⟩
    unfold wipeT at q
    unfold L2.wipe
    by_cases hj : v = j
    · subst hj
      have hi : v < (wipeT τ vs).length := by
        have := (List.getElem?_eq_some_iff.mp q).1
        rwa [List.length_set] at this
      rw [List.getElem?_set_self hi] at q
      cases q
    · rw [List.getElem?_set_ne hj] at q
      obtain ⟨u, q1, q2⟩ := ih.2 j e q
      exact ⟨u, by rw [List.getElem?_set_ne hj]; exact q1, q2⟩

/-! ### posts -/
def Post {α : Type} (r : R α) (p : α → Sto → Prop) (q : Str → List D → Sto → Prop) : Prop := match r with
  | .ok a S => p a S
  | .exc c fs S => q c fs S
  | .stuck => False
theorem Post.bind {α β : Type} {r : R α} {f : α → Sto → R β} {p : β → Sto → Prop} {q : Str → List D → Sto → Prop} (h : Post (r.bind f) p q) : Post r (fun a S => Post (f a S) p q) q := by
  cases r with
  | ok a S => exact h
  | exc c fs S => exact h
  | stuck => exact h
theorem Post.mono {α : Type} {r : R α} {p p' : α → Sto → Prop} {q q' : Str → List D → Sto → Prop} (h : Post r p q) (hp : ∀ a S, p a S → p' a S) (hq : ∀ c fs S, q c fs S → q' c fs S) : Post r p' q' := by
  cases r with
  | ok a S => exact hp _ _ h
  | exc c fs S => exact hq _ _ _ h
  | stuck => exact h
theorem Post.of {α : Type} {o : Option α} {S : Sto} {p : α → Sto → Prop} {q : Str → List D → Sto → Prop} (h : Post (R.of o S) p q) : ∃ a, o = some a ∧ p a S := by
  cases o with
  | none => exact h.elim
  | some a => exact ⟨a, rfl, h⟩

/-- an exception's class and fields -/
def fldNames (c : Str) : List Str := if c = "BadPlant" then ["line", "what"] else if c = "BadCode" then ["row", "what"] else if c = "BadMove" then ["number", "what"] else
  if c = "BadText" then ["line"] else if c = "BadPaper" then ["line"] else if c = "BadDisk" then ["number"] else ["what"]
def ExIs (K : Fg) (w : Wd) (cls : Value) (dx : Option Addr) (c : Str) (fs : List D) : Prop :=
  cls = .ref (He.ga K c) ∧ ∃ d vs, dx = some d ∧ w.H d = some (.xd ((fldNames c).zip vs).reverse) ∧ IsA K w.A w.F fs vs ∧ fs.length = (fldNames c).length
def okE (K : Fg) (w : Wd) (Q : VK) : D → Sto → Prop := fun d S => ∀ v w', w.le w' → Rel K w' S → Is K w'.A w'.F d v → Q v w'.H
def exE (K : Fg) (w : Wd) (W : WX) (σ : L2.St) : Str → List D → Sto → Prop := fun c fs S => ∀ cls dx w', w.le w' → Rel K w' S → ExIs K w' cls dx c fs → W cls dx σ w'.H
def okT (K : Fg) (w : Wd) (Q : Bool → Hp → Prop) : Bool → Sto → Prop := fun b S => ∀ w', w.le w' → Rel K w' S → Q b w'.H
def okO (K : Fg) (w : Wd) (Q : Option Int → Hp → Prop) : Option Int → Sto → Prop := fun b S => ∀ w', w.le w' → Rel K w' S → Q b w'.H
def okA (K : Fg) (w : Wd) (Q : List V → Hp → Prop) : List D → Sto → Prop := fun ds S => ∀ vs w', w.le w' → Rel K w' S → IsA K w'.A w'.F ds vs → Q vs w'.H
/-- a new list: it stands in the heap, is neither frozen nor in the store -/
def okF (K : Fg) (w : Wd) (Q : VK) : List D → Sto → Prop := fun ds S => ∀ l vs w', w.le w' → Rel K w' S → IsA K w'.A w'.F ds vs → w.H l = none → w'.F l = none → l ∉ w'.A → w'.H l = some (.lst vs) → Q (.ref l) w'.H
theorem okE.le {K : Fg} {w w' : Wd} {Q : VK} {d : D} {S : Sto} (h : okE K w Q d S) (l : w.le w') : okE K w' Q d S := fun v w2 l2 => h v w2 (l.trans l2)
theorem exE.le {K : Fg} {w w' : Wd} {W : WX} {σ : L2.St} {c : Str} {fs : List D} {S : Sto} (h : exE K w W σ c fs S) (l : w.le w') : exE K w' W σ c fs S := fun v d w2 l2 => h v d w2 (l.trans l2)
theorem okE.up {K : Fg} {Q : VK} {w w' : Wd} {d : D} {S : Sto} (l : w.le w') (h : okE K w Q d S) : okE K w' Q d S := h.le l
theorem okT.up {K : Fg} {Q : Bool → Hp → Prop} {w w' : Wd} {d : Bool} {S : Sto} (l : w.le w') (h : okT K w Q d S) : okT K w' Q d S := fun w2 l2 => h w2 (l.trans l2)
theorem okO.up {K : Fg} {Q : Option Int → Hp → Prop} {w w' : Wd} {d : Option Int} {S : Sto} (l : w.le w') (h : okO K w Q d S) : okO K w' Q d S := fun w2 l2 => h w2 (l.trans l2)
theorem okA.up {K : Fg} {Q : List V → Hp → Prop} {w w' : Wd} {d : List D} {S : Sto} (l : w.le w') (h : okA K w Q d S) : okA K w' Q d S := fun vs w2 l2 => h vs w2 (l.trans l2)
theorem okF.up {K : Fg} {Q : VK} {w w' : Wd} {d : List D} {S : Sto} (l : w.le w') (h : okF K w Q d S) : okF K w' Q d S := fun p vs w2 l2 r i n => h p vs w2 (l.trans l2) r i (l.grow p n)
/-- the readings -/
def tG {α γ : Type} (ok : Wd → γ → α → Sto → Prop) (K : Fg) (W : WX) (m : Tau → Sto → R α) : L2.St → Hp → γ → Prop := fun σ H Q => ∃ w τ S, w.H = H ∧ Rel K w S ∧ Sig K w σ τ ∧ Post (m τ S) (ok w Q) (exE K w W σ)
def tE (K : Fg) (W : WX) (m : Tau → Sto → R D) : TE := tG (okE K) K W m
def tT (K : Fg) (W : WX) (m : Tau → Sto → R Bool) : TT := tG (okT K) K W m
def tO (K : Fg) (W : WX) (m : Tau → Sto → R (Option Int)) : TO := tG (okO K) K W m
def tAs (K : Fg) (W : WX) (m : Tau → Sto → R (List D)) : TA := tG (okA K) K W m
def tF (K : Fg) (W : WX) (m : Tau → Sto → R (List D)) : TE := tG (okF K) K W m
theorem _root_.L2.PE.imp {X : Cx} {e : Expr} {t t' : TE} (h : PE X e t) (i : ∀ σ H Q, t' σ H Q → t σ H Q) : PE X e t' := ⟨fun pins s σ H Q I x => h.run pins s σ H Q I (i _ _ _ x)⟩
theorem _root_.L2.PT.imp {X : Cx} {e : Expr} {t t' : TT} (h : PT X e t) (i : ∀ σ H Q, t' σ H Q → t σ H Q) : PT X e t' := ⟨fun pins s σ H Q I x => h.run pins s σ H Q I (i _ _ _ x)⟩
theorem _root_.L2.PW.imp {X : Cx} {e : Expr} {t t' : TT} (h : PW X e t) (i : ∀ σ H Q, t' σ H Q → t σ H Q) : PW X e t' := ⟨fun wh pins s σ H Q I x => h.run wh pins s σ H Q I (i _ _ _ x)⟩
theorem _root_.L2.PA.imp {X : Cx} {e : List Expr} {t t' : TA} (h : PA X e t) (i : ∀ σ H Q, t' σ H Q → t σ H Q) : PA X e t' := ⟨fun pos pins s σ H Q I x => h.run pos pins s σ H Q I (i _ _ _ x)⟩
theorem _root_.L2.PS.imp {X : Cx} {e : Stmt} {t t' : TS} (h : PS X e t) (i : ∀ D σ H, t' D σ H → t D σ H) : PS X e t' := ⟨fun pins s σ H D I x => h.run pins s σ H D I (i _ _ _ x)⟩
theorem _root_.L2.PSs.imp {X : Cx} {e : List Stmt} {t t' : TS} (h : PSs X e t) (i : ∀ D σ H, t' D σ H → t D σ H) : PSs X e t' := ⟨fun pins s σ H D I x => h.run pins s σ H D I (i _ _ _ x)⟩
/-- one step of a reading: what stands first is asked, the rest goes on in the world behind it -/
theorem tE.step {K : Fg} {W : WX} {m : Tau → Sto → R D} {β : Type} {f : D → Sto → R β} {p : Wd → β → Sto → Prop} {σ : L2.St} {Q : VK} {w : Wd} {τ : Tau} {S : Sto}
    (hr : Rel K w S) (hs : Sig K w σ τ) (h : Post ((m τ S).bind f) (p w) (exE K w W σ)) (mono : ∀ {w' b S'}, w.le w' → p w b S' → p w' b S')
    (go : ∀ d S1 v w1, w.le w1 → Rel K w1 S1 → Is K w1.A w1.F d v → Post (f d S1) (p w1) (exE K w1 W σ) → Q v w1.H) : tE K W m σ w.H Q :=
  ⟨w, τ, S, rfl, hr, hs, h.bind.mono (fun d S1 q v w1 l r1 i => go d S1 v w1 l r1 i (q.mono (fun b S' x => mono l x) fun c fs S' x => x.le l)) fun c fs S1 x => x⟩
theorem tT.step {K : Fg} {W : WX} {m : Tau → Sto → R Bool} {β : Type} {f : Bool → Sto → R β} {p : Wd → β → Sto → Prop} {σ : L2.St} {Q : Bool → Hp → Prop} {w : Wd} {τ : Tau} {S : Sto}
    (hr : Rel K w S) (hs : Sig K w σ τ) (h : Post ((m τ S).bind f) (p w) (exE K w W σ)) (mono : ∀ {w' b S'}, w.le w' → p w b S' → p w' b S')
    (go : ∀ d S1 w1, w.le w1 → Rel K w1 S1 → Post (f d S1) (p w1) (exE K w1 W σ) → Q d w1.H) : tT K W m σ w.H Q :=
  ⟨w, τ, S, rfl, hr, hs, h.bind.mono (fun d S1 q w1 l r1 => go d S1 w1 l r1 (q.mono (fun b S' x => mono l x) fun c fs S' x => x.le l)) fun c fs S1 x => x⟩
theorem tO.step {K : Fg} {W : WX} {m : Tau → Sto → R (Option Int)} {β : Type} {f : Option Int → Sto → R β} {p : Wd → β → Sto → Prop} {σ : L2.St} {Q : Option Int → Hp → Prop} {w : Wd} {τ : Tau} {S : Sto}
    (hr : Rel K w S) (hs : Sig K w σ τ) (h : Post ((m τ S).bind f) (p w) (exE K w W σ)) (mono : ∀ {w' b S'}, w.le w' → p w b S' → p w' b S')
    (go : ∀ d S1 w1, w.le w1 → Rel K w1 S1 → Post (f d S1) (p w1) (exE K w1 W σ) → Q d w1.H) : tO K W m σ w.H Q :=
  ⟨w, τ, S, rfl, hr, hs, h.bind.mono (fun d S1 q w1 l r1 => go d S1 w1 l r1 (q.mono (fun b S' x => mono l x) fun c fs S' x => x.le l)) fun c fs S1 x => x⟩
theorem tAs.step {K : Fg} {W : WX} {m : Tau → Sto → R (List D)} {β : Type} {f : List D → Sto → R β} {p : Wd → β → Sto → Prop} {σ : L2.St} {Q : List V → Hp → Prop} {w : Wd} {τ : Tau} {S : Sto}
    (hr : Rel K w S) (hs : Sig K w σ τ) (h : Post ((m τ S).bind f) (p w) (exE K w W σ)) (mono : ∀ {w' b S'}, w.le w' → p w b S' → p w' b S')
    (go : ∀ d S1 v w1, w.le w1 → Rel K w1 S1 → IsA K w1.A w1.F d v → Post (f d S1) (p w1) (exE K w1 W σ) → Q v w1.H) : tAs K W m σ w.H Q :=
  ⟨w, τ, S, rfl, hr, hs, h.bind.mono (fun d S1 q v w1 l r1 i => go d S1 v w1 l r1 i (q.mono (fun b S' x => mono l x) fun c fs S' x => x.le l)) fun c fs S1 x => x⟩
theorem tF.step {K : Fg} {W : WX} {m : Tau → Sto → R (List D)} {β : Type} {f : List D → Sto → R β} {p : Wd → β → Sto → Prop} {σ : L2.St} {Q : VK} {w : Wd} {τ : Tau} {S : Sto}
    (hr : Rel K w S) (hs : Sig K w σ τ) (h : Post ((m τ S).bind f) (p w) (exE K w W σ)) (mono : ∀ {w' b S'}, w.le w' → p w b S' → p w' b S')
    (go : ∀ d S1 l vs w1, w.le w1 → Rel K w1 S1 → IsA K w1.A w1.F d vs → w.H l = none → w1.F l = none → l ∉ w1.A → w1.H l = some (.lst vs) → Post (f d S1) (p w1) (exE K w1 W σ) → Q (.ref l) w1.H) : tF K W m σ w.H Q :=
  ⟨w, τ, S, rfl, hr, hs, h.bind.mono (fun d S1 q l vs w1 le r1 i i1 i2 i3 i4 => go d S1 l vs w1 le r1 i i1 i2 i3 i4 (q.mono (fun b S' x => mono le x) fun c fs S' x => x.le le)) fun c fs S1 x => x⟩
end Pi
end
section
set_option Elab.async false
set_option linter.all false
set_option maxRecDepth 100000
set_option maxHeartbeats 4000000
/-! Pi, part C: a reading for each construct of expressions. -/
namespace Pi
open PySem PySem.Spec PyProof.Rows L2
section
variable {K : Fg} {w : Wd} {S : Sto}
theorem lstAt_sq {F : Hp} {a : Addr} {xs : List V} (h : LstAt F a xs) : SqL K F a xs := .inl (.inl h)
theorem tupAt_sq {F : Hp} {a : Addr} {xs : List V} (h : TupAt K F a xs) : SqT K F a xs := h.elim (fun e => .inl (.inl e)) .inr
/-- a value that is read as a list -/
theorem rdL (hr : Rel K w S) {d : D} {v : V} {ds : List D} (h : Is K w.A w.F d v) (e : getL S d = some ds) : ∃ a vs, v = .ref a ∧ SqL K w.H a vs ∧ IsA K w.A w.F ds vs := by
  cases d with
  | lst xs =>
    obtain ⟨a, vs, h1, h2, h3⟩ := h
    have e' : some xs = some ds := e
    cases e'
    exact ⟨a, vs, h1, Evl.ex_l hr.ex (lstAt_sq h2), h3⟩
  | scr ns =>
    obtain ⟨a, h1, h2⟩ := h
    have e' : some (ns.map D.int) = some ds := e
    cases e'
    exact ⟨a, _, h1, Evl.ex_l hr.ex h2, IsA.of_map (K := K) (A := w.A) (F := w.F) D.int V.int (fun i => show V.int i = V.int i from rfl) ns⟩
  | loc n =>
    obtain ⟨a, h1, h2⟩ := h
    have e' : (match S[n]? with
      | some (L.lst xs) => some xs
      | _ => none) = some ds := e
    cases q : S[n]? with
    | none => rw [q] at e'; cases e'
    | some o =>
      rw [q] at e'
      cases o with
      | lst xs =>
        cases e'
        obtain ⟨_, vs, h3, h4⟩ := hr.liv n _ a q h1
        exact ⟨a, vs, h2, .inl (.inl h3), h4⟩
      | _ => cases e'
  | _ => cases e
theorem rdT (hr : Rel K w S) {xs : List D} {v : V} (h : Is K w.A w.F (.tup xs) v) : ∃ a vs, v = .ref a ∧ SqT K w.H a vs ∧ IsA K w.A w.F xs vs := by
  obtain ⟨a, vs, h1, h2, h3⟩ := h
  exact ⟨a, vs, h1, Evl.ex_t hr.ex (tupAt_sq h2), h3⟩
theorem rdLT (hr : Rel K w S) : ∀ {d : D} {v : V} {ds : List D}, Is K w.A w.F d v → getLT S d = some ds → ∃ a vs, v = .ref a ∧ (SqL K w.H a vs ∨ SqT K w.H a vs) ∧ IsA K w.A w.F ds vs := fun {d v ds} h e => by
  cases d with
  | tup xs =>
    cases e
    obtain ⟨a, vs, h1, h2, h3⟩ := rdT hr h
    exact ⟨a, vs, h1, .inr h2, h3⟩
  | _ =>
    obtain ⟨a, vs, h1, h2, h3⟩ := rdL hr h (ds := ds) e
    exact ⟨a, vs, h1, .inl h2, h3⟩
/-! ### new objects -/
theorem smax_eq : SMAX = 16000000 := rfl
theorem smax_line {n : Nat} (h : n ≤ SMAX) : n ≤ sizeLine := by
  rw [sizeLine_eq]
  rw [smax_eq] at h
  omega
theorem smax_lt {n : Nat} (h : n < SMAX) : n < sizeLine := by
  rw [sizeLine_eq]
  rw [smax_eq] at h
  omega
/-- a new object of the heap, not told of in the store -/
theorem Rel.grow (hr : Rel K w S) {p : Addr} {o : HO} (np : w.H p = none) : Rel K ⟨w.F, upd w.H p o, w.A⟩ S where
  ex := hr.ex.trans (Evl.Ex.new np)
  len := hr.len
  nd := hr.nd
  som := fun a ha => by
    obtain ⟨u, hu⟩ := hr.som a ha
    exact ⟨u, by show upd w.H p o a = some u; rw [upd_ne (ne_of_none hu np)]; exact hu⟩
  cel := fun n xs a h1 hc h2 => by
    obtain ⟨h3, u, h4, h5⟩ := hr.cel n xs a h1 hc h2
    exact ⟨h3, u, by show upd w.H p o a = _; rw [upd_ne (ne_of_none h4 np)]; exact h4, h5⟩
theorem fresh_F (hr : Rel K w S) {p : Addr} (np : w.H p = none) : w.F p = none := Evl.fresh_back hr.ex np
theorem fresh_A (hr : Rel K w S) {p : Addr} (np : w.H p = none) : p ∉ w.A := fun h => by
  obtain ⟨o, e⟩ := hr.som p h
  rw [np] at e
  cases e
/-- a new object becomes frozen -/
theorem Rel.freeze (hr : Rel K w S) {p : Addr} {o : HO} (hp : w.H p = some o) (nF : w.F p = none) (nA : p ∉ w.A) : Rel K ⟨upd w.F p o, w.H, w.A⟩ S ∧ Ex w.F (upd w.F p o) ∧ ∀ w0 : Wd, w0.le w → w0.H p = none → w0.le ⟨upd w.F p o, w.H, w.A⟩ := by
  have e : Ex w.F (upd w.F p o) := Evl.Ex.new nF
  refine ⟨⟨fun a u h => ?_, hr.len, hr.nd, hr.som, fun n xs a h1 hc h2 => ?_⟩, e, fun w0 l n => ⟨l.ex.trans e, l.pre, fun a u h1 h2 h3 => ?_, l.grow⟩⟩
  rotate_left
  rotate_left
  · obtain ⟨q1, q2, q3⟩ := l.frm a u h1 h2 h3
    have ha : a ≠ p := fun z => by subst z; rw [n] at h1; cases h1
    exact ⟨q1, by show upd w.F p o a = none; rw [upd_ne ha]; exact q2, q3⟩
  · by_cases ha : a = p
    · subst ha
      rw [show (Wd.mk (upd w.F a o) w.H w.A).F a = some o from upd_same] at h
      cases h
      exact hp
    · exact hr.ex a u (by rw [← show upd w.F p o a = w.F a from upd_ne ha]; exact h)
  · obtain ⟨h3, u, h4, h5⟩ := hr.cel n xs a h1 hc h2
    have ha : a ≠ p := fun z => nA (z ▸ List.mem_of_getElem? h2)
    exact ⟨by show upd w.F p o a = none; rw [upd_ne ha]; exact h3, u, h4, h5.mono e (List.prefix_refl _)⟩
/-- a new cell goes into the store -/
theorem Rel.ownC (hr : Rel K w S) {p : Addr} {c : L} {o : HO} (hp : w.H p = some o) (nF : w.F p = none) (nA : p ∉ w.A) (hx : Cel K w.A w.F c o) :
    Rel K ⟨w.F, w.H, w.A ++ [p]⟩ (S ++ [c]) ∧ ∀ w0 : Wd, w0.le w → w0.H p = none → w0.le ⟨w.F, w.H, w.A ++ [p]⟩ := by
  have e : w.A <+: w.A ++ [p] := ⟨[p], rfl⟩
  refine ⟨⟨hr.ex, by simp [hr.len], ?_, fun a ha => ?_, fun n ys a h1 hc h2 => ?_⟩, fun w0 l n => ⟨l.ex, l.pre.trans e, fun a u h1 h2 h3 => ?_, l.grow⟩⟩
  rotate_left
  rotate_left
  rotate_left
  · obtain ⟨q1, q2, q3⟩ := l.frm a u h1 h2 h3
    have ha : a ≠ p := fun z => by subst z; rw [n] at h1; cases h1
    exact ⟨q1, q2, by simp [q3, ha]⟩
  · show (w.A ++ [p]).Nodup
    rw [List.nodup_append]
    refine ⟨hr.nd, by simp, fun a ha b hb z => ?_⟩
    simp at hb
    subst hb
    exact nA (z ▸ ha)
  · rcases List.mem_append.mp ha with h | h
    · exact hr.som a h
    · simp at h
      subst h
      exact ⟨_, hp⟩
  · have h1' : (S ++ [c])[n]? = some ys := h1
    have h2' : (w.A ++ [p])[n]? = some a := h2
    by_cases hn : n < S.length
    · rw [List.getElem?_append_left hn] at h1'
      rw [List.getElem?_append_left (by rw [hr.len]; exact hn)] at h2'
      obtain ⟨h3, us, h4, h5⟩ := hr.cel n ys a h1' hc h2'
      exact ⟨h3, us, h4, h5.mono (Evl.Ex.refl _) e⟩
    · have hn' : n = S.length := by
        have := (List.getElem?_eq_some_iff.mp h1').1
        simp at this
        omega
      subst hn'
      rw [List.getElem?_append_right (Nat.le_refl _)] at h1'
      rw [List.getElem?_append_right (by rw [hr.len]; exact Nat.le_refl _)] at h2'
      simp at h1'
      simp [hr.len] at h2'
      subst h1' h2'
      exact ⟨nF, o, hp, hx.mono (Evl.Ex.refl _) e⟩
/-- a new list goes into the store -/
theorem Rel.own (hr : Rel K w S) {p : Addr} {xs : List D} {vs : List V} (hp : w.H p = some (.lst vs)) (nF : w.F p = none) (nA : p ∉ w.A) (hx : IsA K w.A w.F xs vs) :
    Rel K ⟨w.F, w.H, w.A ++ [p]⟩ (S ++ [.lst xs]) ∧ ∀ w0 : Wd, w0.le w → w0.H p = none → w0.le ⟨w.F, w.H, w.A ++ [p]⟩ := hr.ownC hp nF nA ⟨vs, rfl, hx⟩
/-- a cell of the store is changed -/
theorem Rel.putC (hr : Rel K w S) {n : Nat} {a : Addr} {c c' : L} {o' : HO} (hS : S[n]? = some c) (hc : c.alive) (hA : w.A[n]? = some a) (hy : Cel K w.A w.F c' o') :
    Rel K ⟨w.F, upd w.H a o', w.A⟩ (S.set n c') := by
  obtain ⟨nF, vs, hH, _⟩ := hr.cel n c a hS hc hA
  have ne : ∀ {m : Nat} {b : Addr}, w.A[m]? = some b → m ≠ n → b ≠ a := fun {m b} hb hm z => by
    subst z
    have h1 := (List.getElem?_eq_some_iff.mp hb)
    have h2 := (List.getElem?_eq_some_iff.mp hA)
    obtain ⟨i1, e1⟩ := h1
    obtain ⟨i2, e2⟩ := h2
    exact hm ((List.getElem_inj hr.nd).mp (e1.trans e2.symm))
  refine ⟨fun b o h => ?_, by simp [hr.len], hr.nd, fun b hb => ?_, fun m zs b h1 hz h2 => ?_⟩
  · have hb : b ≠ a := fun z => by subst z; rw [nF] at h; cases h
    show upd w.H a o' b = some o
    rw [upd_ne hb]
    exact hr.ex b o h
  · by_cases hba : b = a
    · subst hba
      exact ⟨_, upd_same⟩
    · obtain ⟨o, ho⟩ := hr.som b hb
      exact ⟨o, by show upd w.H a o' b = some o; rw [upd_ne hba]; exact ho⟩
  · have h2' : w.A[m]? = some b := h2
    by_cases hm : m = n
    · subst hm
      rw [hA] at h2'
      cases h2'
      have hl := (List.getElem?_eq_some_iff.mp hS).1
      rw [List.getElem?_set_self hl] at h1
      cases h1
      exact ⟨nF, o', upd_same, hy⟩
    · rw [List.getElem?_set_ne (Ne.symm hm)] at h1
      obtain ⟨h3, vs', h4, h5⟩ := hr.cel m zs b h1 hz h2'
      exact ⟨h3, vs', by show upd w.H a o' b = _; rw [upd_ne (ne h2' hm)]; exact h4, h5⟩
/-- a list of the store is changed -/
theorem Rel.put (hr : Rel K w S) {n : Nat} {a : Addr} {xs ys : List D} {us : List V} (hS : S[n]? = some (L.lst xs)) (hA : w.A[n]? = some a) (hy : IsA K w.A w.F ys us) :
    Rel K ⟨w.F, upd w.H a (.lst us), w.A⟩ (S.set n (.lst ys)) := hr.putC hS True.intro hA ⟨us, rfl, hy⟩
theorem le_grow {p : Addr} {o : HO} (np : w.H p = none) : w.le ⟨w.F, upd w.H p o, w.A⟩ := ⟨Evl.Ex.refl _, List.prefix_refl _, fun a u h1 h2 h3 => ⟨by show upd w.H p o a = some u; rw [upd_ne (ne_of_none h1 np)]; exact h1, h2, h3⟩, fun a h => by
  by_cases ha : a = p
  · rw [ha]; exact np
  · have h' : upd w.H p o a = none := h
    rw [upd_ne ha] at h'
    exact h'⟩
/-- a new frozen object -/
theorem new_frz (hr : Rel K w S) {p : Addr} {o : HO} (np : w.H p = none) : Rel K ⟨upd w.F p o, upd w.H p o, w.A⟩ S ∧ w.le ⟨upd w.F p o, upd w.H p o, w.A⟩ := by
  have r1 := hr.grow (o := o) np
  obtain ⟨r2, _, l2⟩ := Rel.freeze r1 (p := p) (o := o) upd_same (fresh_F hr np) (fresh_A hr np)
  exact ⟨r2, l2 w (le_grow np) np⟩
/-- a new tuple -/
theorem new_tup (hr : Rel K w S) {p : Addr} {xs : List D} {vs : List V} (np : w.H p = none) (hx : IsA K w.A w.F xs vs) {Q : VK} (k : okE K w Q (.tup xs) S) : Q (.ref p) (upd w.H p (.tup vs)) := by
  obtain ⟨r2, l2⟩ := new_frz hr (o := .tup vs) np
  exact k (.ref p) ⟨upd w.F p (.tup vs), upd w.H p (.tup vs), w.A⟩ l2 r2 ⟨p, vs, rfl, .inl upd_same, hx.mono l2.ex l2.pre⟩
/-- a new list -/
theorem new_lst (hr : Rel K w S) {p : Addr} {xs : List D} {vs : List V} (np : w.H p = none) (hx : IsA K w.A w.F xs vs) {Q : VK} (k : okF K w Q xs S) : Q (.ref p) (upd w.H p (.lst vs)) :=
  k p vs ⟨w.F, upd w.H p (.lst vs), w.A⟩ (le_grow np) (hr.grow np) hx np (fresh_F hr np) (fresh_A hr np) upd_same
/-- what a two-place operation of the heap layer does for one of data -/
def OpS (K : Fg) (r : R2) (op : Sto → D → D → Option D) : Prop := ∀ (w : Wd) (S : Sto) (a b d : D) (x y : V) (Q : VK), Rel K w S → Is K w.A w.F a x → Is K w.A w.F b y → op S a b = some d → (∀ v, Is K w.A w.F d v → Q v w.H) → r x y w.H Q
def UnS (K : Fg) (r : V → Hp → VK → Prop) (op : Sto → D → Option D) : Prop := ∀ (w : Wd) (S : Sto) (a d : D) (x : V) (Q : VK), Rel K w S → Is K w.A w.F a x → op S a = some d → (∀ v, Is K w.A w.F d v → Q v w.H) → r x w.H Q
theorem OpR.or {X : Cx} {f : Value → Value → Sem Value} {r r' : R2} (h : OpR X f r) (h' : OpR X f r') : OpR X f (fun x y H Q => r x y H Q ∨ r' x y H Q) := fun pins s σ H x y v u Q I rx ry q =>
  q.elim (fun q => h pins s σ H x y v u Q I rx ry q) (fun q => h' pins s σ H x y v u Q I rx ry q)
end

section
variable {X : Cx} {W : WX} {a b c : Expr} {pos : Pos} {ma mb mc : Tau → Sto → R D}
theorem e_var {i : Nat} {x : Str} (hN : X.N[i]? = some x) (hv : Vis X.env.scope x) (hd : (x == ("__debug__" : Str)) = false) (hcd : (x == ("__classdict__" : Str)) = false) :
    PE X (.Name x pos) (tE X.K W fun τ S => match τ[i]? with
      | some (some d) => .ok d S
      | _ => .stuck) := (pe_var hN hv hd hcd).imp fun σ H Q ⟨w, τ, S, hH, hr, hs, h⟩ => by
  subst hH
  dsimp only at h
  split at h
  · rename_i d q
    obtain ⟨v, q1, q2⟩ := hs.2 i d q
    exact ⟨v, q1, h v w (.refl w) hr q2⟩
  · exact h.elim
theorem e_con {d : D} {v : V} (h : PE X a (tC v)) (hd : ∀ w : Wd, Is X.K w.A w.F d v) : PE X a (tE X.K W fun _ S => .ok d S) := h.imp fun σ H Q ⟨w, τ, S, hH, hr, hs, h⟩ => by
  subst hH
  exact h v w (.refl w) hr (hd w)
theorem e_bin2 {e : Expr} {r : R2} {op : Sto → D → D → Option D} (h : ∀ {ta tb : TE}, PE X a ta → PE X b tb → PE X e (tOp r ta tb)) (ho : OpS X.K r op) (ha : PE X a (tE X.K W ma)) (hb : PE X b (tE X.K W mb)) :
    PE X e (tE X.K W fun τ S => (ma τ S).bind fun x S1 => (mb τ S1).bind fun y S2 => .of (op S2 x y) S2) := (h ha hb).imp fun σ H Q ⟨w, τ, S, hH, hr, hs, h⟩ => by
  subst hH
  refine tE.step (p := fun w => okE X.K w Q) hr hs h okE.up fun x S1 v w1 l1 r1 i1 h1 => ?_
  refine tE.step (p := fun w => okE X.K w Q) r1 (hs.mono l1) h1 okE.up fun y S2 u w2 l2 r2 i2 h2 => ?_
  obtain ⟨d, e, k⟩ := Post.of h2
  exact ho w2 S2 x y d v u Q r2 (i1.le l2) i2 e fun z hz => k z w2 (.refl _) r2 hz
theorem e_un1 {e : Expr} {r : V → Hp → VK → Prop} {op : Sto → D → Option D} (h : ∀ {ta : TE}, PE X a ta → PE X e (tUn r ta)) (ho : UnS X.K r op) (ha : PE X a (tE X.K W ma)) :
    PE X e (tE X.K W fun τ S => (ma τ S).bind fun x S1 => .of (op S1 x) S1) := (h ha).imp fun σ H Q ⟨w, τ, S, hH, hr, hs, h⟩ => by
  subst hH
  refine tE.step (p := fun w => okE X.K w Q) hr hs h okE.up fun x S1 v w1 l1 r1 i1 h1 => ?_
  obtain ⟨d, e, k⟩ := Post.of h1
  exact ho w1 S1 x d v Q r1 i1 e fun z hz => k z w1 (.refl _) r1 hz

/-! ### operators -/
def rBop (K : Fg) : Bop → R2
  | .add => fun x y H Q => rI0 (fun i j => .int (i + j)) x y H Q ∨ ∃ i j, x = .str i ∧ y = .str j ∧ i.length + j.length ≤ sizeLine ∧ Q (.str (i ++ j)) H
  | .sub => rI0 fun i j => .int (i - j)
  | .mul => fun x y H Q => rI CMulW (fun i j => .int (i * j)) x y H Q ∨ ∃ z i, x = .str z ∧ y = .int i ∧ MulOk z i ∧ Q (.str (Txt.mul z i)) H
  | .fdiv => rI CDivW fun i j => .int (i / j)
  | .mod => rI (fun _ j => j ≠ 0) fun i j => .int (i.fmod j)
  | .pow => rI CPow fun i j => .int (i ^ j.toNat)
def pBop : Bop → Operator
  | .add => .Add | .sub => .Sub | .mul => .Mult | .fdiv => .FloorDiv | .mod => .Mod | .pow => .Pow
theorem op_mul_str : OpR X (binaryOp .Mult) (fun x y H Q => ∃ z i, x = .str z ∧ y = .int i ∧ MulOk z i ∧ Q (.str (Txt.mul z i)) H) := by
  intro pins s σ H x y v u Q I rx ry h
  obtain ⟨z, i, rfl, rfl, ok, q⟩ := h
  obtain ⟨t, rfl⟩ := rx
  obtain ⟨t', rfl⟩ := ry
  exact SB.mul ok fun t2 k => ⟨.str _, H, I.kept (t' := k) (fun _ _ z => z), ⟨_, rfl⟩, q⟩
theorem mulOk_of {x : Str} {k : Int} (h0 : 0 ≤ k) (h1 : k ≤ 16000000) (h2 : x.length * k.toNat ≤ SMAX) : MulOk x k := by
  have hz : SMAX = 16000000 := rfl
  refine ⟨?_, fun h3 _ h4 => ?_, fun _ _ => ?_⟩
  · have a : decide (k < -(2 ^ 63 : Int)) = false := decide_eq_false (by omega)
    have b : decide (k ≥ 2 ^ 63) = false := decide_eq_false (by omega)
    rw [a, b] <;> rfl
  · have hk : (0 : Int) < k := by omega
    have h5 := (Int.ediv_lt_iff_lt_mul hk).mp h4
    have h6 : (x.length : Int) * k = ((x.length * k.toNat : Nat) : Int) := by
      rw [Int.natCast_mul, Int.toNat_of_nonneg h0]
    rw [h6] at h5
    omega
  · have hl := smax_line h2
    show decide _ = false
    exact decide_eq_false (by omega)
theorem bop_run : ∀ o : Bop, OpR X (binaryOp (pBop o)) (rBop X.K o)
  | .add => OpR.or op_add op_add_str
  | .sub => op_sub
  | .mul => OpR.or op_mulW op_mul_str
  | .fdiv => op_fdivW
  | .mod => op_modN
  | .pow => op_pow
theorem bop_ok (K : Fg) (o : Bop) : OpS K (rBop K o) (fun _ => bop o) := fun w S a b d x y Q hr ha hb e k => by
  replace e : bop o a b = some d := e
  unfold bop at e
  split at e
  · cases e; cases ha; cases hb
    exact .inl ⟨_, _, rfl, rfl, k _ rfl⟩
  · split at e
    · rename_i h
      cases e; cases ha; cases hb
      exact .inr ⟨_, _, rfl, rfl, smax_line h, k _ rfl⟩
    · cases e
  · cases e; cases ha; cases hb
    exact ⟨_, _, rfl, rfl, k _ rfl⟩
  · split at e
    · rename_i h
      cases e; cases ha; cases hb
      exact .inl ⟨_, _, rfl, rfl, h, k _ rfl⟩
    · cases e
  · split at e
    · rename_i h
      cases e; cases ha; cases hb
      exact .inr ⟨_, _, rfl, rfl, mulOk_of h.1 h.2.1 h.2.2, k _ rfl⟩
    · cases e
  · split at e
    · rename_i h
      cases e; cases ha; cases hb
      exact ⟨_, _, rfl, rfl, h, k _ rfl⟩
    · cases e
  · split at e
    · rename_i i j h
      cases e; cases ha; cases hb
      refine ⟨_, _, rfl, rfl, by omega, ?_⟩
      show Q (V.int (i.fmod j)) w.H
      rw [Int.fmod_eq_emod_of_nonneg i (Int.le_of_lt h)]
      exact k _ rfl
    · cases e
  · split at e
    · rename_i h
      cases e; cases ha; cases hb
      exact ⟨_, _, rfl, rfl, h, k _ rfl⟩
    · cases e
  · cases e
theorem e_bin (o : Bop) (ha : PE X a (tE X.K W ma)) (hb : PE X b (tE X.K W mb)) : PE X (.BinOp a (pBop o) b pos) (tE X.K W fun τ S => (ma τ S).bind fun x S1 => (mb τ S1).bind fun y S2 => .of (bop o x y) S2) :=
  e_bin2 (op := fun _ => bop o) (fun ha hb => pe_op (bop_run o) ha hb) (bop_ok X.K o) ha hb
theorem e_neg (ha : PE X a (tE X.K W ma)) : PE X (.UnaryOp .USub a pos) (tE X.K W fun τ S => (ma τ S).bind fun x S1 => match x with
    | .int i => .ok (.int (-i)) S1
    | _ => .stuck) := (pe_un un_neg ha).imp fun σ H Q ⟨w, τ, S, hH, hr, hs, h⟩ => by
  subst hH
  refine tE.step (p := fun w => okE X.K w Q) hr hs h okE.up fun x S1 v w1 l1 r1 i1 h1 => ?_
  cases x with
  | int i => cases i1; exact ⟨i, rfl, h1 _ w1 (.refl _) r1 rfl⟩
  | _ => exact h1.elim

/-- a list that is tracked -/
theorem rdM {w : Wd} {S : Sto} {K : Fg} (hr : Rel K w S) {d : D} {v : V} {ds : List D} (h : Is K w.A w.F d v) (e : getM S d = some ds) : ∃ a vs, v = .ref a ∧ w.H a = some (.lst vs) ∧ IsA K w.A w.F ds vs := by
  cases d with
  | lst xs =>
    obtain ⟨a, vs, h1, h2, h3⟩ := h
    have e' : some xs = some ds := e
    cases e'
    exact ⟨a, vs, h1, hr.ex _ _ h2, h3⟩
  | loc n =>
    obtain ⟨a, h1, h2⟩ := h
    have e' : (match S[n]? with
      | some (L.lst xs) => some xs
      | _ => none) = some ds := e
    cases q : S[n]? with
    | none => rw [q] at e'; cases e'
    | some o =>
      rw [q] at e'
      cases o with
      | lst xs =>
        cases e'
        obtain ⟨_, vs, h3, h4⟩ := hr.liv n _ a q h1
        exact ⟨a, vs, h2, h3, h4⟩
      | _ => cases e'
  | _ => cases e

/-! ### == and in -/
theorem mapO_cons {α β : Type} {f : α → Option β} {a : α} {r : List α} {bs : List β} (h : mapO f (a :: r) = some bs) : ∃ b t, f a = some b ∧ mapO f r = some t ∧ bs = b :: t := by
  unfold mapO at h
  cases e1 : f a with
  | none => rw [e1] at h; cases h
  | some b =>
    rw [e1] at h
    cases e2 : mapO f r with
    | none => rw [e2] at h; cases h
    | some t => rw [e2] at h; cases h; exact ⟨b, t, rfl, rfl, rfl⟩
theorem toPy_all {K : Fg} {w : Wd} {S : Sto} {k : Nat} (ih : ∀ (d : D) (v : V) (p : PyData), Is K w.A w.F d v → toPy S k d = some p → Dp K w.H v p ∧ p.canLay0 = true ∧ p.depth ≤ k) :
    ∀ (ds : List D) (vs : List V) (ps : List PyData), IsA K w.A w.F ds vs → mapO (toPy S k) ds = some ps → DpAll K w.H vs ps ∧ PyData.canLayAll0 ps = true ∧ PyData.depthAll ps ≤ k
  | [], vs, ps, h, e => by
    cases h
    cases e
    exact ⟨.nil, rfl, Nat.zero_le _⟩
  | d :: ds, vs, ps, h, e => by
    obtain ⟨v, r, h1, h2, h3⟩ := h
    subst h1
    obtain ⟨p, t, e1, e2, rfl⟩ := mapO_cons e
    obtain ⟨q1, q2, q3⟩ := ih d v p h2 e1
    obtain ⟨r1, r2, r3⟩ := toPy_all ih ds r t h3 e2
    exact ⟨.cons q1 r1, by unfold PyData.canLayAll0; rw [q2, r2]; rfl, by unfold PyData.depthAll; exact Nat.max_le.mpr ⟨q3, r3⟩⟩
theorem toPy_ok {K : Fg} {w : Wd} {S : Sto} (hr : Rel K w S) : ∀ (k : Nat) (d : D) (v : V) (p : PyData), Is K w.A w.F d v → toPy S k d = some p → Dp K w.H v p ∧ p.canLay0 = true ∧ p.depth ≤ k
  | 0, _, _, _, _, e => by cases e
  | k + 1, d, v, p, h, e => by
    cases d with
    | non => cases h; cases e; exact ⟨.non, rfl, Nat.zero_le _⟩
    | bl b => cases h; cases e; exact ⟨.bl _, rfl, Nat.zero_le _⟩
    | int b => cases h; cases e; exact ⟨.int _, rfl, Nat.zero_le _⟩
    | str x =>
      cases h
      have e' : (if PyData.strOk x = true then some (PyData.str x) else none) = some p := e
      split at e'
      · rename_i q
        cases e'
        exact ⟨.str _, q, Nat.zero_le _⟩
      · cases e'
    | tup xs =>
      obtain ⟨ps, e1, rfl⟩ := Option.map_eq_some_iff.mp (show (mapO (toPy S k) xs).map .tuple = some p from e)
      obtain ⟨a, vs, rfl, h2, h3⟩ := rdT hr h
      obtain ⟨q1, q2, q3⟩ := toPy_all (toPy_ok hr k) xs vs ps h3 e1
      exact ⟨.tup h2 q1, q2, Nat.succ_le_succ q3⟩
    | lst xs =>
      obtain ⟨ps, e1, rfl⟩ := Option.map_eq_some_iff.mp (show (mapO (toPy S k) xs).map .list = some p from e)
      obtain ⟨a, vs, rfl, h2, h3⟩ := rdL hr h (ds := xs) rfl
      obtain ⟨q1, q2, q3⟩ := toPy_all (toPy_ok hr k) xs vs ps h3 e1
      exact ⟨.lst h2 q1, q2, Nat.succ_le_succ q3⟩
    | loc n =>
      have e' : (match S[n]? with
        | some (L.lst xs) => (mapO (toPy S k) xs).map PyData.list
        | _ => none) = some p := e
      cases q : S[n]? with
      | none => rw [q] at e'; cases e'
      | some o =>
        rw [q] at e'
        cases o with
        | dead => cases e'
        | dct _ _ => cases e'
        | ins _ _ _ _ => cases e'
        | lst xs =>
          obtain ⟨ps, e1, rfl⟩ := Option.map_eq_some_iff.mp (show (mapO (toPy S k) xs).map PyData.list = some p from e')
          obtain ⟨a, vs, rfl, h2, h3⟩ := rdL hr h (ds := xs) (show (match S[n]? with
            | some (L.lst xs) => some xs
            | _ => none) = some xs by rw [q])
          obtain ⟨q1, q2, q3⟩ := toPy_all (toPy_ok hr k) xs vs ps h3 e1
          exact ⟨.lst h2 q1, q2, Nat.succ_le_succ q3⟩
    | _ => cases e
theorem toPy8 {K : Fg} {w : Wd} {S : Sto} (hr : Rel K w S) {d : D} {v : V} {p : PyData} (h : Is K w.A w.F d v) (e : toPy S 8 d = some p) : Dp K w.H v p ∧ SeqAt.shaped p = true := by
  obtain ⟨q1, q2, q3⟩ := toPy_ok hr 8 d v p h e
  refine ⟨q1, ?_⟩
  unfold SeqAt.shaped
  rw [q2, decide_eq_true (show p.depth ≤ 64 by omega)]
  rfl
theorem eqS_ok {K : Fg} {A : List Addr} {F : Hp} {a b : D} {x y : V} {r : Bool} (ha : Is K A F a x) (hb : Is K A F b y) (e : eqS a b = some r) : scal x y = true ∧ decide (x = y) = r := by
  unfold eqS at e
  split at e <;> first
    | (cases e; cases ha; cases hb; exact ⟨rfl, by simp⟩)
    | (cases e; done)
def rEqq (K : Fg) : R2 := fun x y H Q => rEq x y H Q ∨ rEqD K x y H Q
def rNeq (K : Fg) : R2 := fun x y H Q => rNe x y H Q ∨ rNeD K x y H Q
theorem eqD_ok (K : Fg) : OpS K (rEqq K) (fun S a b => (eqD S a b).map .bl) := fun w S a b d x y Q hr ha hb e k => by
  obtain ⟨r, e1, rfl⟩ := Option.map_eq_some_iff.mp e
  unfold eqD at e1
  cases q : eqS a b with
  | some z =>
    rw [q] at e1
    cases e1
    obtain ⟨s1, s2⟩ := eqS_ok ha hb q
    exact .inl ⟨s1, by rw [s2]; exact k _ rfl⟩
  | none =>
    rw [q] at e1
    cases q1 : toPy S 8 a with
    | none => rw [q1] at e1; cases e1
    | some p1 =>
      rw [q1] at e1
      cases q2 : toPy S 8 b with
      | none => rw [q2] at e1; cases e1
      | some p2 =>
        rw [q2] at e1
        cases e1
        obtain ⟨u1, u2⟩ := toPy8 hr ha q1
        obtain ⟨v1, v2⟩ := toPy8 hr hb q2
        exact .inr ⟨p1, p2, u1, v1, u2, v2, k _ rfl⟩
theorem neD_ok (K : Fg) : OpS K (rNeq K) (fun S a b => ((eqD S a b).map (!·)).map .bl) := fun w S a b d x y Q hr ha hb e k => by
  obtain ⟨r0, e0, rfl⟩ := Option.map_eq_some_iff.mp e
  obtain ⟨r, e1, rfl⟩ := Option.map_eq_some_iff.mp e0
  clear e0
  unfold eqD at e1
  cases q : eqS a b with
  | some z =>
    rw [q] at e1
    cases e1
    obtain ⟨s1, s2⟩ := eqS_ok ha hb q
    exact .inl ⟨s1, by rw [s2]; exact k _ rfl⟩
  | none =>
    rw [q] at e1
    cases q1 : toPy S 8 a with
    | none => rw [q1] at e1; cases e1
    | some p1 =>
      rw [q1] at e1
      cases q2 : toPy S 8 b with
      | none => rw [q2] at e1; cases e1
      | some p2 =>
        rw [q2] at e1
        cases e1
        obtain ⟨u1, u2⟩ := toPy8 hr ha q1
        obtain ⟨v1, v2⟩ := toPy8 hr hb q2
        exact .inr ⟨p1, p2, u1, v1, u2, v2, k _ rfl⟩
def rInn (K : Fg) : R2 := fun x y H Q => (∃ i j, x = .str i ∧ y = .str j ∧ Q (.bl (!(Builtin.Str.occurrences j i 0 j.length 1).isEmpty)) H) ∨ (rIn K false x y H Q ∨ rInD K x y H Q)
def rNin (K : Fg) : R2 := fun x y H Q => (∃ i j, x = .str i ∧ y = .str j ∧ Q (.bl (!(!(Builtin.Str.occurrences j i 0 j.length 1).isEmpty))) H) ∨ (rIn K true x y H Q ∨ rNotInD K x y H Q)
/-- the two ways of «in» over a sequence, for either sign -/
theorem inSeq {K : Fg} {w : Wd} {S : Sto} {a b : D} {x y : V} {r : Bool} (hr : Rel K w S) (ha : Is K w.A w.F a x) (hb : Is K w.A w.F b y)
    (e : inQ S a b = some r) :
    (∃ p xs, y = .ref p ∧ (SqL K w.H p xs ∨ SqT K w.H p xs) ∧ flatV x = true ∧ xs.all flatV = true ∧ inV x xs = r) ∨ (∃ d ds, Dp K w.H x d ∧ Dp K w.H y (.list ds) ∧ SeqAt.shaped d = true ∧ SeqAt.shaped (.list ds) = true ∧ (ds.any fun z => PyData.eqv z d) = r) := by
  unfold inQ at e
  cases q : getLT S b with
  | none => rw [q] at e; cases e
  | some xs =>
    rw [q] at e
    dsimp only at e
    by_cases hf : (flatD a && xs.all flatD) = true
    · rw [if_pos hf] at e
      cases e
      rw [Bool.and_eq_true] at hf
      obtain ⟨p, vs, rfl, h2, h3⟩ := rdLT hr hb q
      obtain ⟨g1, g2⟩ := h3.ofFlat hf.2
      subst g1
      have hx : x = vF a ∧ flatV x = true := by
        cases a with
        | non => cases ha; exact ⟨rfl, rfl⟩
        | bl b => cases ha; exact ⟨rfl, rfl⟩
        | int b => cases ha; exact ⟨rfl, rfl⟩
        | str b => cases ha; exact ⟨rfl, rfl⟩
        | _ => exact absurd hf.1 (by simp [flatD])
      exact .inl ⟨p, _, rfl, h2, hx.2, g2, by rw [hx.1]⟩
    · rw [if_neg hf] at e
      have e2 : (match toPy S 8 a, toPy S 8 b with
        | some p, some (PyData.list q) => some (q.any fun z => PyData.eqv z p)
        | _, _ => none) = some r := by
        cases b with
        | tup _ => cases e
        | _ => exact e
      cases q1 : toPy S 8 a with
      | none => rw [q1] at e2; cases e2
      | some p1 =>
        rw [q1] at e2
        cases q2 : toPy S 8 b with
        | none => rw [q2] at e2; cases e2
        | some p2 =>
          rw [q2] at e2
          cases p2 with
          | list ds =>
            cases e2
            obtain ⟨u1, u2⟩ := toPy8 hr ha q1
            obtain ⟨v1, v2⟩ := toPy8 hr hb q2
            exact .inr ⟨p1, ds, u1, v1, u2, v2, rfl⟩
          | _ => cases e2
theorem inn_ok (K : Fg) : OpS K (rInn K) (fun S a b => (inD S a b).map .bl) := fun w S a b d x y Q hr ha hb e k => by
  obtain ⟨r, e1, rfl⟩ := Option.map_eq_some_iff.mp e
  unfold inD at e1
  split at e1
  · cases e1; cases ha; cases hb
    exact .inl ⟨_, _, rfl, rfl, k _ rfl⟩
  · rcases inSeq hr ha hb e1 with ⟨p, xs, h1, h2, h3, h4, h5⟩ | ⟨p, ds, h1, h2, h3, h4, h5⟩
    · exact .inr (.inl ⟨p, xs, h1, h2, h3, h4, by rw [h5]; exact k _ rfl⟩)
    · exact .inr (.inr ⟨p, ds, h1, h2, h3, h4, by rw [h5]; exact k _ rfl⟩)
theorem nin_ok (K : Fg) : OpS K (rNin K) (fun S a b => ((inD S a b).map (!·)).map .bl) := fun w S a b d x y Q hr ha hb e k => by
  obtain ⟨r0, e0, rfl⟩ := Option.map_eq_some_iff.mp e
  obtain ⟨r, e1, rfl⟩ := Option.map_eq_some_iff.mp e0
  clear e0
  unfold inD at e1
  split at e1
  · cases e1; cases ha; cases hb
    exact .inl ⟨_, _, rfl, rfl, k _ rfl⟩
  · rcases inSeq hr ha hb e1 with ⟨p, xs, h1, h2, h3, h4, h5⟩ | ⟨p, ds, h1, h2, h3, h4, h5⟩
    · exact .inr (.inl ⟨p, xs, h1, h2, h3, h4, by rw [← h5] at k; exact k _ rfl⟩)
    · exact .inr (.inr ⟨p, ds, h1, h2, h3, h4, by rw [← h5] at k; exact k _ rfl⟩)
def rCop (K : Fg) : Cop → R2
  | .eq => rEqq K
  | .ne => rNeq K
  | .lt => rI0 fun i j => .bl (decide (i < j))
  | .le => rI0 fun i j => .bl (decide (i ≤ j))
  | .gt => rI0 fun i j => .bl (decide (j < i))
  | .ge => rI0 fun i j => .bl (decide (j ≤ i))
  | .inn => rInn K
  | .nin => rNin K
def pCop : Cop → CmpOp
  | .eq => .Eq | .ne => .NotEq | .lt => .Lt | .le => .LtE | .gt => .Gt | .ge => .GtE | .inn => .In | .nin => .NotIn
theorem cop_run (hu : X.A.units + 65 < cLine) : ∀ o : Cop, OpR X (compareOp (pCop o)) (rCop X.K o)
  | .eq => OpR.or op_eq (op_eqD (by omega))
  | .ne => OpR.or op_ne (op_neD (by omega))
  | .lt => op_lt
  | .le => op_le
  | .gt => op_gt
  | .ge => op_ge
  | .inn => OpR.or op_in_str (OpR.or op_in_seq (op_inD hu))
  | .nin => OpR.or op_notIn_str (OpR.or op_notIn_seq (op_notInD hu))
theorem ordI {K : Fg} {w : Wd} {S : Sto} {o : Cop} {f : Int → Int → Bool} (hf : ∀ a b, cop S o a b = match a, b with
    | .int i, .int j => some (f i j)
    | _, _ => none) {a b d : D} {x y : V} {Q : VK} (ha : Is K w.A w.F a x) (hb : Is K w.A w.F b y) (e : (cop S o a b).map D.bl = some d) (k : ∀ v, Is K w.A w.F d v → Q v w.H) : rI0 (fun i j => .bl (f i j)) x y w.H Q := by
  obtain ⟨r, e1, rfl⟩ := Option.map_eq_some_iff.mp e
  rw [hf] at e1
  split at e1
  · cases e1; cases ha; cases hb
    exact ⟨_, _, rfl, rfl, k _ rfl⟩
  · cases e1
theorem cop_ok (K : Fg) : ∀ o : Cop, OpS K (rCop K o) (fun S a b => (cop S o a b).map .bl)
  | .eq => eqD_ok K
  | .ne => neD_ok K
  | .lt => fun w S a b d x y Q hr ha hb e k => ordI (o := .lt) (f := fun i j => decide (i < j)) (fun a b => by cases a <;> first | rfl | (cases b <;> rfl)) ha hb e k
  | .le => fun w S a b d x y Q hr ha hb e k => ordI (o := .le) (f := fun i j => decide (i ≤ j)) (fun a b => by cases a <;> first | rfl | (cases b <;> rfl)) ha hb e k
  | .gt => fun w S a b d x y Q hr ha hb e k => ordI (o := .gt) (f := fun i j => decide (j < i)) (fun a b => by cases a <;> first | rfl | (cases b <;> rfl)) ha hb e k
  | .ge => fun w S a b d x y Q hr ha hb e k => ordI (o := .ge) (f := fun i j => decide (j ≤ i)) (fun a b => by cases a <;> first | rfl | (cases b <;> rfl)) ha hb e k
  | .inn => inn_ok K
  | .nin => nin_ok K
theorem e_cmp (o : Cop) (hu : X.A.units + 65 < cLine) (hm : behindInMarks (pCop o) b = false) (ha : PE X a (tE X.K W ma)) (hb : PE X b (tE X.K W mb)) :
    PE X (.Compare a [pCop o] [b] pos) (tE X.K W fun τ S => (ma τ S).bind fun x S1 => (mb τ S1).bind fun y S2 => .of ((cop S2 o x y).map .bl) S2) :=
  e_bin2 (fun ha hb => pe_cmpR (cop_run hu o) ha hb hm) (cop_ok X.K o) ha hb

theorem nonD_ok {K : Fg} {A : List Addr} {F : Hp} {x : D} {v : V} {b : Bool} (h : Is K A F x v) (e : nonD x = some b) : decide (v = V.non) = b := by
  cases x with
  | non => cases h; cases e; simp
  | bl z => cases h; cases e; simp
  | int z => cases h; cases e; simp
  | str z => cases h; cases e; simp
  | tup z => obtain ⟨a, _, rfl, _⟩ := h; cases e; simp
  | lst z => obtain ⟨a, _, rfl, _⟩ := h; cases e; simp
  | scr z => obtain ⟨a, rfl, _⟩ := h; cases e; simp
  | loc z => obtain ⟨a, _, rfl⟩ := h; cases e; simp
  | exn c fs => cases e
  | dic ks ds => obtain ⟨a, _, rfl, _⟩ := h; cases e; simp
theorem e_isN {p0 : Pos} {j0 : Nat} (ha : PE X a (tE X.K W ma)) : PE X (.Compare a [.Is] [.Constant .none j0 p0] pos) (tE X.K W fun τ S => (ma τ S).bind fun x S1 => .of ((nonD x).map .bl) S1) :=
    (pe_cmpR op_isN ha pe_non (nomark _)).imp fun σ H Q ⟨w, τ, S, hH, hr, hs, h⟩ => by
  subst hH
  refine tE.step (p := fun w => okE X.K w Q) hr hs h okE.up fun x S1 v w1 l1 r1 i1 h1 => ?_
  obtain ⟨d, e, k⟩ := Post.of h1
  obtain ⟨b, e1, rfl⟩ := Option.map_eq_some_iff.mp e
  refine ⟨rfl, ?_⟩
  rw [nonD_ok i1 e1]
  exact k _ w1 (.refl _) r1 rfl
theorem e_notN {p0 : Pos} {j0 : Nat} (ha : PE X a (tE X.K W ma)) : PE X (.Compare a [.IsNot] [.Constant .none j0 p0] pos) (tE X.K W fun τ S => (ma τ S).bind fun x S1 => .of ((nonD x).map fun b => .bl (!b)) S1) :=
    (pe_cmpR op_notN ha pe_non (nomark _)).imp fun σ H Q ⟨w, τ, S, hH, hr, hs, h⟩ => by
  subst hH
  refine tE.step (p := fun w => okE X.K w Q) hr hs h okE.up fun x S1 v w1 l1 r1 i1 h1 => ?_
  obtain ⟨d, e, k⟩ := Post.of h1
  obtain ⟨b, e1, rfl⟩ := Option.map_eq_some_iff.mp e
  refine ⟨rfl, ?_⟩
  rw [nonD_ok i1 e1]
  exact k _ w1 (.refl _) r1 rfl
end
end Pi
end
section
set_option Elab.async false
set_option linter.all false
set_option maxRecDepth 100000
set_option maxHeartbeats 4000000
/-! Pi, part D: further constructs of expressions. -/
namespace Pi
open PySem PySem.Spec PyProof.Rows L2
section
variable {X : Cx} {W : WX} {a b c : Expr} {pos : Pos} {ma mb mc : Tau → Sto → R D} {t u : TT} {mt mu : Tau → Sto → R Bool} {rest : List Expr}
theorem e_chain (o p : Cop) (hu : X.A.units + 65 < cLine) (hm : lastMarks [pCop o, pCop p] [b, c] = false) (ha : PE X a (tE X.K W ma)) (hb : PE X b (tE X.K W mb)) (hc : PE X c (tE X.K W mc)) :
    PE X (.Compare a [pCop o, pCop p] [b, c] pos) (tE X.K W fun τ S => (ma τ S).bind fun x S1 => (mb τ S1).bind fun y S2 => match cop S2 o x y with
    | some true => (mc τ S2).bind fun z S3 => .of ((cop S3 p y z).map .bl) S3
    | some false => .ok (.bl false) S2
    | none => .stuck) := (pe_chain (cop_run hu o) (cop_run hu p) ha hb hc hm).imp fun σ H Q ⟨w, τ, S, hH, hr, hs, h⟩ => by
  subst hH
  refine tE.step (p := fun w => okE X.K w Q) hr hs h okE.up fun x S1 v w1 l1 r1 i1 h1 => ?_
  refine tE.step (p := fun w => okE X.K w Q) r1 (hs.mono l1) h1 okE.up fun y S2 u w2 l2 r2 i2 h2 => ?_
  cases e : cop S2 o x y with
  | none => rw [e] at h2; exact h2.elim
  | some k =>
    rw [e] at h2
    refine cop_ok X.K o w2 S2 x y (.bl k) v u _ r2 (i1.le l2) i2 (show (cop S2 o x y).map D.bl = some (D.bl k) by rw [e]; rfl) fun z hz => ?_
    cases hz
    refine ⟨k, rfl, ?_⟩
    cases k with
    | true =>
      refine iteT ?_
      refine tE.step (p := fun w => okE X.K w Q) r2 (hs.mono (l1.trans l2)) h2 okE.up fun z S3 u3 w3 l3 r3 i3 h3 => ?_
      obtain ⟨d, e3, k3⟩ := Post.of h3
      exact cop_ok X.K p w3 S3 y z d u u3 Q r3 (i2.le l3) i3 e3 fun z hz => k3 z w3 (.refl _) r3 hz
    | false => exact iteF (h2 _ w2 (.refl _) r2 rfl)
theorem e_and (ha : PE X a (tE X.K W ma)) (hb : PE X (.BoolOp .And (b :: rest) pos) (tE X.K W mb)) : PE X (.BoolOp .And (a :: b :: rest) pos) (tE X.K W fun τ S => (ma τ S).bind fun x S1 => match x with
    | .bl true => mb τ S1
    | .bl false => .ok (.bl false) S1
    | _ => .stuck) := (pe_and ha hb).imp fun σ H Q ⟨w, τ, S, hH, hr, hs, h⟩ => by
  subst hH
  refine tE.step (p := fun w => okE X.K w Q) hr hs h okE.up fun x S1 v w1 l1 r1 i1 h1 => ?_
  cases x with
  | bl k =>
    cases i1
    refine ⟨k, rfl, ?_⟩
    cases k with
    | true => exact iteT ⟨w1, τ, S1, rfl, r1, hs.mono l1, h1⟩
    | false => exact iteF (h1 _ w1 (.refl _) r1 rfl)
  | _ => exact h1.elim
theorem e_or (ha : PE X a (tE X.K W ma)) (hb : PE X (.BoolOp .Or (b :: rest) pos) (tE X.K W mb)) : PE X (.BoolOp .Or (a :: b :: rest) pos) (tE X.K W fun τ S => (ma τ S).bind fun x S1 => match x with
    | .bl false => mb τ S1
    | .bl true => .ok (.bl true) S1
    | _ => .stuck) := (pe_or ha hb).imp fun σ H Q ⟨w, τ, S, hH, hr, hs, h⟩ => by
  subst hH
  refine tE.step (p := fun w => okE X.K w Q) hr hs h okE.up fun x S1 v w1 l1 r1 i1 h1 => ?_
  cases x with
  | bl k =>
    cases i1
    refine ⟨k, rfl, ?_⟩
    cases k with
    | true => exact iteT (h1 _ w1 (.refl _) r1 rfl)
    | false => exact iteF ⟨w1, τ, S1, rfl, r1, hs.mono l1, h1⟩
  | _ => exact h1.elim
theorem e_not (ha : PE X a (tE X.K W ma)) : PE X (.UnaryOp .Not a pos) (tE X.K W fun τ S => (ma τ S).bind fun x S1 => match x with
    | .bl c => .ok (.bl (!c)) S1
    | _ => .stuck) := (pe_not ha).imp fun σ H Q ⟨w, τ, S, hH, hr, hs, h⟩ => by
  subst hH
  refine tE.step (p := fun w => okE X.K w Q) hr hs h okE.up fun x S1 v w1 l1 r1 i1 h1 => ?_
  cases x with
  | bl k => cases i1; exact ⟨k, rfl, h1 _ w1 (.refl _) r1 rfl⟩
  | _ => exact h1.elim
theorem e_ite (hc : PT X c (tT X.K W mt)) (ha : PE X a (tE X.K W ma)) (hb : PE X b (tE X.K W mb)) : PE X (.IfExp c a b pos) (tE X.K W fun τ S => (mt τ S).bind fun c S1 => if c then ma τ S1 else mb τ S1) :=
    (pe_ifExp hc ha hb).imp fun σ H Q ⟨w, τ, S, hH, hr, hs, h⟩ => by
  subst hH
  refine tT.step (p := fun w => okE X.K w Q) hr hs h okE.up fun k S1 w1 l1 r1 h1 => ?_
  cases k with
  | true => exact iteT ⟨w1, τ, S1, rfl, r1, hs.mono l1, h1⟩
  | false => exact iteF ⟨w1, τ, S1, rfl, r1, hs.mono l1, h1⟩

/-! ### argument lists -/
theorem a_nil : PA X [] (tAs X.K W fun _ S => .ok [] S) := pa_nil.imp fun σ H Q ⟨w, τ, S, hH, hr, hs, h⟩ => by
  subst hH
  exact h [] w (.refl _) hr rfl
def noStar : Expr → Bool
  | .Starred _ _ => false
  | _ => true
theorem star_of {e : Expr} (h : noStar e = true) (es : List Expr) (env : Env) : starEach (e :: es) env = (false, eval e env) :: starEach es env := by
  cases e with
  | Starred _ _ => cases h
  | _ => rfl
theorem backTo_any {pos : Pos} {l : List (Bool × Sem Value)} (h : l.any (·.1) = false) : (backTo pos l).any (·.1) = false := by
  unfold backTo
  induction l with
  | nil => first | rfl | simp
  | cons x r ih => simp_all
theorem star_any : ∀ {es : List Expr} {env : Env}, (∀ e ∈ es, noStar e = true) → (starEach es env).any (·.1) = false
  | [], _, _ => rfl
  | e :: es, env, h => by
    rw [star_of (h e List.mem_cons_self)]
    show (false || (starEach es env).any (·.1)) = false
    rw [star_any fun e he => h e (List.mem_cons_of_mem _ he)]
    rfl
theorem plain_of {es : List Expr} {env : Env} {pos : Pos} (h : ∀ e ∈ es, noStar e = true) : (backTo pos (starEach es env)).any (·.1) = false := backTo_any (star_any h)
theorem a_cons {e : Expr} {es : List Expr} {ms : Tau → Sto → R (List D)} (hn : noStar e = true) (ha : PE X e (tE X.K W ma)) (hs : PA X es (tAs X.K W ms)) :
    PA X (e :: es) (tAs X.K W fun τ S => (ma τ S).bind fun x S1 => (ms τ S1).bind fun xs S2 => .ok (x :: xs) S2) := (pa_cons ha hs (star_of hn _ _)).imp fun σ H Q ⟨w, τ, S, hH, hr, hs, h⟩ => by
  subst hH
  refine tE.step (p := fun w => okA X.K w Q) hr hs h okA.up fun x S1 v w1 l1 r1 i1 h1 => ?_
  refine tAs.step (p := fun w => okA X.K w Q) r1 (hs.mono l1) h1 okA.up fun y S2 u w2 l2 r2 i2 h2 => ?_
  exact h2 _ w2 (.refl _) r2 ⟨v, u, rfl, i1.le l2, i2⟩
/-- one argument -/
theorem a_one {e : Expr} (hn : noStar e = true) (ha : PE X e (tE X.K W ma)) : PA X [e] (tAs X.K W fun τ S => (ma τ S).bind fun x S1 => .ok [x] S1) := (a_cons hn ha (W := W) a_nil).imp fun σ H Q h => h

/-! ### tuples, new lists -/
theorem e_tup {es : List Expr} {ms : Tau → Sto → R (List D)} {x1 : Nat} (h : PA X es (tAs X.K W ms)) : PE X (.Tuple es x1 pos) (tE X.K W fun τ S => (ms τ S).bind fun xs S1 => if xs.length ≤ SMAX then .ok (.tup xs) S1 else .stuck) :=
    (pe_tup h).imp fun σ H Q ⟨w, τ, S, hH, hr, hs, h⟩ => by
  subst hH
  refine tAs.step (p := fun w => okE X.K w Q) hr hs h okE.up fun x S1 v w1 l1 r1 i1 h1 => ?_
  by_cases hz : x.length ≤ SMAX
  · rw [if_pos hz] at h1
    exact ⟨by rw [← i1.len]; exact smax_line hz, fun p hp => new_tup r1 hp i1 h1⟩
  · rw [if_neg hz] at h1
    exact h1.elim
theorem f_lst {es : List Expr} {ms : Tau → Sto → R (List D)} (h : PA X es (tAs X.K W ms)) : PE X (.List es pos) (tF X.K W fun τ S => (ms τ S).bind fun xs S1 => if xs.length ≤ SMAX then .ok xs S1 else .stuck) :=
    (pe_lst h).imp fun σ H Q ⟨w, τ, S, hH, hr, hs, h⟩ => by
  subst hH
  refine tAs.step (p := fun w => okF X.K w Q) hr hs h okF.up fun x S1 v w1 l1 r1 i1 h1 => ?_
  by_cases hz : x.length ≤ SMAX
  · rw [if_pos hz] at h1
    exact ⟨by rw [← i1.len]; exact smax_line hz, fun p hp => new_lst r1 hp i1 h1⟩
  · rw [if_neg hz] at h1
    exact h1.elim
theorem frz_imp {K : Fg} {σ : L2.St} {H : Hp} {Q : VK} {ms : Tau → Sto → R (List D)} (h : tE K W (fun τ S => (ms τ S).bind fun xs S1 => .ok (.lst xs) S1) σ H Q) : tF K W ms σ H Q := by
  obtain ⟨w, τ, S, hH, hr, hs, h⟩ := h
  subst hH
  refine ⟨w, τ, S, rfl, hr, hs, h.bind.mono (fun xs S1 q l vs w1 l1 r1 i1 n0 nF nA hl => ?_) fun c fs S1 q => q⟩
  obtain ⟨r2, e2, l2⟩ := r1.freeze hl nF nA
  exact q (.ref l) ⟨upd w1.F l (.lst vs), w1.H, w1.A⟩ (l2 w l1 n0) r2 ⟨l, vs, rfl, upd_same, i1.mono e2 (List.prefix_refl _)⟩
theorem live_imp {K : Fg} {σ : L2.St} {H : Hp} {Q : VK} {ms : Tau → Sto → R (List D)} (h : tE K W (fun τ S => (ms τ S).bind fun xs S1 => .ok (.loc S1.length) (S1 ++ [.lst xs])) σ H Q) : tF K W ms σ H Q := by
  obtain ⟨w, τ, S, hH, hr, hs, h⟩ := h
  subst hH
  refine ⟨w, τ, S, rfl, hr, hs, h.bind.mono (fun xs S1 q l vs w1 l1 r1 i1 n0 nF nA hl => ?_) fun c fs S1 q => q⟩
  obtain ⟨r2, l2⟩ := r1.own hl nF nA i1
  refine q (.ref l) ⟨w1.F, w1.H, w1.A ++ [l]⟩ (l2 w l1 n0) r2 ⟨l, ?_, rfl⟩
  show (w1.A ++ [l])[S1.length]? = some l
  rw [← r1.len, List.getElem?_append_right (Nat.le_refl _), Nat.sub_self]
  rfl
theorem e_frz {e : Expr} {ms : Tau → Sto → R (List D)} (h : PE X e (tF X.K W ms)) : PE X e (tE X.K W fun τ S => (ms τ S).bind fun xs S1 => .ok (.lst xs) S1) := h.imp fun σ H Q h => frz_imp h
theorem e_live {e : Expr} {ms : Tau → Sto → R (List D)} (h : PE X e (tF X.K W ms)) : PE X e (tE X.K W fun τ S => (ms τ S).bind fun xs S1 => .ok (.loc S1.length) (S1 ++ [.lst xs])) := h.imp fun σ H Q h => live_imp h

/-! ### built-in functions of one argument -/
/-- what a call's rule does for one argument told by data -/
def CallS (K : Fg) (r : List V → Hp → VK → Prop) (op : Sto → D → Option D) : Prop := ∀ (w : Wd) (S : Sto) (a d : D) (x : V) (Q : VK), Rel K w S → Is K w.A w.F a x → op S a = some d → (∀ v, Is K w.A w.F d v → Q v w.H) → r [x] w.H Q
theorem e_call1 {e : Expr} {r : List V → Hp → VK → Prop} {op : Sto → D → Option D} (hn : noStar a = true) (h : ∀ {ta : TA}, PA X [a] ta → PE X e (tCB r ta)) (ho : CallS X.K r op) (ha : PE X a (tE X.K W ma)) :
    PE X e (tE X.K W fun τ S => (ma τ S).bind fun x S1 => .of (op S1 x) S1) := (h (pa_cons ha pa_nil (star_of hn _ _))).imp fun σ H Q ⟨w, τ, S, hH, hr, hs, h⟩ => by
  subst hH
  refine tE.step (p := fun w => okE X.K w Q) hr hs h okE.up fun x S1 v w1 l1 r1 i1 h1 => ?_
  obtain ⟨d, e, k⟩ := Post.of h1
  exact ho w1 S1 x d v Q r1 i1 e fun z hz => k z w1 (.refl _) r1 hz
def rBl (K : Fg) : Bl → List V → Hp → VK → Prop
  | .len => fun xs H Q => ∃ x n, xs = [x] ∧ LenV K x H n ∧ Q (.int n) H
  | .int => fun xs H Q => (∃ i, xs = [.int i] ∧ Q (.int i) H) ∨ ∃ k, xs = [.bl k] ∧ Q (.int (if k then 1 else 0)) H
  | .str => fun xs H Q => ∃ i, xs = [.int i] ∧ i.natAbs.log2 < 1920 ∧ Q (.str (toString i)) H
  | .ord => fun xs H Q => ∃ x, xs = [.str x] ∧ x.length = 1 ∧ Q (.int (x.cps.getD 0 0 : Nat)) H
  | .abs => fun xs H Q => ∃ i, xs = [.int i] ∧ Q (.int (if i < 0 then -i else i)) H
  | .sum => rSum K
  | .all => rAll K
  | .any => rAny K
def nBl : Bl → Str
  | .len => "len" | .int => "int" | .str => "str" | .ord => "ord" | .abs => "abs" | .sum => "sum" | .all => "all" | .any => "any"
theorem bl_ok (K : Fg) : ∀ b : Bl, CallS K (rBl K b) (fun S => blt S b)
  | .len => fun w S a d x Q hr ha e k => by
    cases a with
    | str z =>
      cases ha
      have e' : (if z.length ≤ SMAX then some (D.int z.length) else none) = some d := e
      split at e'
      · rename_i hz
        cases e'
        exact ⟨_, _, rfl, ⟨smax_line hz, rfl⟩, k _ rfl⟩
      · cases e'
    | tup z =>
      have e' : some (D.int z.length) = some d := e
      cases e'
      obtain ⟨p, vs, rfl, h2, h3⟩ := rdT hr ha
      exact ⟨_, vs.length, rfl, .inr ⟨vs, h2, rfl⟩, k _ (by rw [h3.len]; rfl)⟩
    | lst z =>
      have e' : some (D.int z.length) = some d := e
      cases e'
      obtain ⟨p, vs, rfl, h2, h3⟩ := rdL hr ha (ds := z) rfl
      exact ⟨_, vs.length, rfl, .inl ⟨vs, h2, rfl⟩, k _ (by rw [h3.len]; rfl)⟩
    | scr z =>
      have e' : some (D.int (z.map D.int).length) = some d := e
      cases e'
      obtain ⟨p, vs, rfl, h2, h3⟩ := rdL hr ha (ds := z.map D.int) rfl
      exact ⟨_, vs.length, rfl, .inl ⟨vs, h2, rfl⟩, k _ (by rw [h3.len]; rfl)⟩
    | loc n =>
      obtain ⟨z, e1, rfl⟩ := Option.map_eq_some_iff.mp (show (getL S (.loc n)).map (fun xs : List D => D.int xs.length) = some d from e)
      obtain ⟨p, vs, rfl, h2, h3⟩ := rdL hr ha e1
      exact ⟨_, vs.length, rfl, .inl ⟨vs, h2, rfl⟩, k _ (by rw [h3.len]; rfl)⟩
    | _ => cases e
  | .int => fun w S a d x Q hr ha e k => by
    cases a with
    | int z => cases ha; cases e; exact .inl ⟨_, rfl, k _ rfl⟩
    | bl z => cases ha; cases e; exact .inr ⟨_, rfl, k _ rfl⟩
    | _ => cases e
  | .str => fun w S a d x Q hr ha e k => by
    cases a with
    | int z =>
      cases ha
      have e' : (if z.natAbs.log2 < 1920 then some (D.str (toString z)) else none) = some d := e
      split at e'
      · rename_i hz
        cases e'
        exact ⟨_, rfl, hz, k _ rfl⟩
      · cases e'
    | _ => cases e
  | .ord => fun w S a d x Q hr ha e k => by
    cases a with
    | str z =>
      cases ha
      have e' : (if z.length = 1 then some (D.int (z.cps.getD 0 0 : Nat)) else none) = some d := e
      split at e'
      · rename_i hz
        cases e'
        exact ⟨_, rfl, hz, k _ rfl⟩
      · cases e'
    | _ => cases e
  | .abs => fun w S a d x Q hr ha e k => by
    cases a with
    | int z => cases ha; cases e; exact ⟨_, rfl, k _ rfl⟩
    | _ => cases e
  | .sum => fun w S a d x Q hr ha e k => by
    obtain ⟨ns, e1, rfl⟩ := Option.map_eq_some_iff.mp (show ((getL S a).bind listI).map (fun ns : List Int => D.int ns.sum) = some d by cases a <;> exact e)
    obtain ⟨ds, e2, e3⟩ := Option.bind_eq_some_iff.mp e1
    obtain ⟨p, vs, rfl, h2, h3⟩ := rdL hr ha e2
    rw [h3.listI e3] at h2
    exact ⟨p, ns, rfl, h2, k _ rfl⟩
  | .all => fun w S a d x Q hr ha e k => by
    obtain ⟨ns, e1, rfl⟩ := Option.map_eq_some_iff.mp (show ((getL S a).bind listB).map (fun bs : List Bool => D.bl (bs.all id)) = some d by cases a <;> exact e)
    obtain ⟨ds, e2, e3⟩ := Option.bind_eq_some_iff.mp e1
    obtain ⟨p, vs, rfl, h2, h3⟩ := rdL hr ha e2
    rw [h3.listB e3] at h2
    exact ⟨p, ns, rfl, h2, k _ rfl⟩
  | .any => fun w S a d x Q hr ha e k => by
    obtain ⟨ns, e1, rfl⟩ := Option.map_eq_some_iff.mp (show ((getL S a).bind listB).map (fun bs : List Bool => D.bl (bs.any id)) = some d by cases a <;> exact e)
    obtain ⟨ds, e2, e3⟩ := Option.bind_eq_some_iff.mp e1
    obtain ⟨p, vs, rfl, h2, h3⟩ := rdL hr ha e2
    rw [h3.listB e3] at h2
    exact ⟨p, ns, rfl, h2, k _ rfl⟩
theorem e_blt {p0 : Pos} (hc : X.calm = true) (hn : noStar a = true) (ha : PE X a (tE X.K W ma)) : ∀ b : Bl, Gl X (nBl b) → X.mg (nBl b) = none →
    PE X (.Call (.Name (nBl b) p0) [a] [] pos) (tE X.K W fun τ S => (ma τ S).bind fun x S1 => .of (blt S1 b x) S1)
  | .len, hg, hm => e_call1 hn (fun ta => pe_callB call_len hg hm (by decide +kernel) ta (by decide) (by decide) (star_of hn _ _) rfl) (bl_ok X.K .len) ha
  | .int, hg, hm => e_call1 hn (fun ta => pe_callTy call_int1 hg hm (by decide +kernel) ta (by decide) (by decide) (star_of hn _ _) rfl) (bl_ok X.K .int) ha
  | .str, hg, hm => e_call1 hn (fun ta => pe_callTy call_str_int hg hm (by decide +kernel) ta (by decide) (by decide) (star_of hn _ _) rfl) (bl_ok X.K .str) ha
  | .ord, hg, hm => e_call1 hn (fun ta => pe_callB call_ord hg hm (by decide +kernel) ta (by decide) (by decide) (star_of hn _ _) rfl) (bl_ok X.K .ord) ha
  | .abs, hg, hm => e_call1 hn (fun ta => pe_callB call_abs hg hm (by decide +kernel) ta (by decide) (by decide) (star_of hn _ _) rfl) (bl_ok X.K .abs) ha
  | .sum, hg, hm => e_call1 hn (fun ta => pe_callB (cr_sum hc) hg hm (by decide +kernel) ta (by decide) (by decide) (star_of hn _ _) rfl) (bl_ok X.K .sum) ha
  | .all, hg, hm => e_call1 hn (fun ta => pe_callB (cr_all hc) hg hm (by decide +kernel) ta (by decide) (by decide) (star_of hn _ _) rfl) (bl_ok X.K .all) ha
  | .any, hg, hm => e_call1 hn (fun ta => pe_callB (cr_any hc) hg hm (by decide +kernel) ta (by decide) (by decide) (star_of hn _ _) rfl) (bl_ok X.K .any) ha
end
end Pi
end
section
set_option Elab.async false
set_option linter.all false
set_option maxRecDepth 100000
set_option maxHeartbeats 4000000
/-! Pi, part E: further constructs of expressions. -/
namespace Pi
open PySem PySem.Spec PyProof.Rows L2
/-- what a def promises: what its core program computes -/
def spM (K : Fg) (np : Nat) (m : List D → Sto → R D) : Sp := fun vs H Q E => vs.length = np ∧ ∃ w ds S, w.H = H ∧ Rel K w S ∧ IsA K w.A w.F ds vs ∧
  Post (m ds S) (okE K w Q) (fun c fs S' => ∀ cls dx w', w.le w' → Rel K w' S' → ExIs K w' cls dx c fs → E cls dx w'.H)
section
variable {X : Cx} {W : WX} {a b c : Expr} {pos : Pos} {ma mb mc : Tau → Sto → R D} {rest : List Expr}
theorem e_call {k np f : Nat} {fa : Addr} {fd : FuncData} {ps : List Str} {m : List D → Sto → R D} {es : List Expr} {ms : Tau → Sto → R (List D)} {x : Str} {p : Pos}
    (F : FnOk X.prog X.w X.K X.mg X.base (L2.CX X.prog X.w) k fa fd ps (spM X.K np m)) (hr : Room k X.A) (hg : Gl X x) (hm : X.mg x = some (.ref fa)) (hk : PySem.W.keepIn X.K (.ref fa) = true) (hb : Binds X.K fd ps []) (tk : Takes X W)
    (hdb : (x == ("__debug__" : Str)) = false) (hn : ∀ e ∈ a :: es, noStar e = true) (hs : PA X (a :: es) (tAs X.K W ms))
    (hnp : ∀ xs S, xs.length ≠ np → m xs S = .stuck) : PE X (.Call (.Name x p) (a :: es) [] pos) (tE X.K W fun τ S => (ms τ S).bind fun xs S1 => m xs S1) :=
  (pe_callS (E := WE W) F hr hg hm hk hb (fun σ => passAt tk σ) hs hdb (star_of (hn a List.mem_cons_self) _ _) (plain_of fun e he => hn e (List.mem_cons_of_mem _ he))).imp fun σ H Q ⟨w, τ, S, hH, hr, hs, h⟩ => by
    subst hH
    refine tAs.step (p := fun w => okE X.K w Q) hr hs h okE.up fun xs S1 vs w1 l1 r1 i1 h1 => ?_
    by_cases hl : xs.length = np
    · exact ⟨by rw [← i1.len]; exact hl, w1, xs, S1, rfl, r1, i1, h1.mono (fun d S2 q => q) fun c fs S2 q cls dx w2 l2 r2 i2 => q cls dx w2 l2 r2 i2⟩
    · rw [hnp xs S1 hl] at h1
      exact h1.elim
/-! ### subscripts -/
def plainIx : Expr → Bool
  | .Slice _ _ _ _ => false
  | _ => true
theorem plainIx_ok {b : Expr} (h : plainIx b = true) : PlainIx b := fun o i => by
  cases b with
  | Slice _ _ _ _ => cases h
  | _ => rfl
theorem atI_get {K : Fg} {A : List Addr} {F : Hp} {ds : List D} {vs : List V} {i : Int} {d : D} (h : IsA K A F ds vs) (e : atI ds i = some d) : ∃ v, atI vs i = some v ∧ Is K A F d v := by
  unfold atI at e ⊢
  obtain ⟨j, e1, e2⟩ := Option.bind_eq_some_iff.mp e
  obtain ⟨v, q1, q2⟩ := h.get e2
  exact ⟨v, by rw [← h.len, e1]; exact q1, q2⟩
def rIxx (K : Fg) : R2 := fun x y H Q => rIxS x y H Q ∨ (rIxL K x y H Q ∨ rIxT K x y H Q)
theorem ixx_seq {K : Fg} {w : Wd} {S : Sto} {a d : D} {x : V} {i : Int} {Q : VK} (hr : Rel K w S) (ha : Is K w.A w.F a x) (e : (getLT S a).bind (fun xs => atI xs i) = some d) (k : ∀ v, Is K w.A w.F d v → Q v w.H) : rIxx K x (.int i) w.H Q := by
  obtain ⟨xs, e1, e2⟩ := Option.bind_eq_some_iff.mp e
  obtain ⟨p, vs, rfl, h2, h3⟩ := rdLT hr ha e1
  obtain ⟨v, q1, q2⟩ := atI_get h3 e2
  rcases h2 with h2 | h2
  · exact .inr (.inl ⟨p, vs, i, v, rfl, rfl, h2, q1, k v q2⟩)
  · exact .inr (.inr ⟨p, vs, i, v, rfl, rfl, h2, q1, k v q2⟩)
theorem idx_ok (K : Fg) : OpS K (rIxx K) (fun S => idx S) := fun w S a b d x y Q hr ha hb e k => by
  cases b with
  | int i =>
    cases hb
    cases a with
    | str z =>
      cases ha
      have e' : (if z.length ≤ SMAX then (atI z.cps.toList i).map fun c => D.str ⟨#[c]⟩ else none) = some d := e
      split at e'
      · rename_i hz
        obtain ⟨c, e1, rfl⟩ := Option.map_eq_some_iff.mp e'
        exact .inl ⟨_, _, c, rfl, rfl, smax_line hz, e1, k _ rfl⟩
      · cases e'
    | non => exact ixx_seq hr ha e k
    | bl _ => exact ixx_seq hr ha e k
    | int _ => exact ixx_seq hr ha e k
    | tup _ => exact ixx_seq hr ha e k
    | lst _ => exact ixx_seq hr ha e k
    | scr _ => exact ixx_seq hr ha e k
    | loc _ => exact ixx_seq hr ha e k
    | exn _ _ => exact ixx_seq hr ha e k
    | dic _ _ => exact ixx_seq hr ha e k
  | _ => cases e
theorem e_idx (hp : plainIx b = true) (ha : PE X a (tE X.K W ma)) (hb : PE X b (tE X.K W mb)) : PE X (.Subscript a b pos) (tE X.K W fun τ S => (ma τ S).bind fun x S1 => (mb τ S1).bind fun y S2 => .of (idx S2 x y) S2) :=
  e_bin2 (fun ha hb => pe_ix (IxR.or ix_str (IxR.or ix_list ix_tup)) ha hb (plainIx_ok hp)) (idx_ok X.K) ha hb
/-- LIMITS[e] -/
theorem e_lim {p0 : Pos} {l : Addr} (hp : plainIx b = true) (hg : Gl X "LIMITS") (hm : X.mg "LIMITS" = some (.ref l)) (hL : ∀ z v, limits.lookup z = some v → KDct X.K X.w l z (.int v)) (hb : PE X b (tE X.K W mb)) :
    PE X (.Subscript (.Name "LIMITS" p0) b pos) (tE X.K W fun τ S => (mb τ S).bind fun x S1 => .of (limD x) S1) :=
  (pe_ix ix_kdict (pe_glob (v := .ref l) hg hm rfl) hb (plainIx_ok hp)).imp fun σ H Q ⟨w, τ, S, hH, hr, hs, h⟩ => by
    subst hH
    show tE X.K W mb σ w.H _
    refine tE.step (p := fun w => okE X.K w Q) hr hs h okE.up fun x S1 v w1 l1 r1 i1 h1 => ?_
    obtain ⟨d, e, k⟩ := Post.of h1
    cases x with
    | str z =>
      cases i1
      obtain ⟨n, e1, rfl⟩ := Option.map_eq_some_iff.mp (show (limits.lookup z).map D.int = some d from e)
      exact ⟨l, z, .int n, rfl, rfl, hL z n e1, k _ w1 (.refl _) r1 rfl⟩
    | _ => cases e
/-! ### isinstance -/
def nTy : Ty → String
  | .bool => "bool" | .int => "int" | .str => "str" | .dict => "dict" | .tuple => "tuple" | .list => "list"
theorem nTy_boot : ∀ t : Ty, bootBuiltins (nTy t : Str) = some (.type (nTy t))
  | .bool => by decide +kernel
  | .int => by decide +kernel
  | .str => by decide +kernel
  | .dict => by decide +kernel
  | .tuple => by decide +kernel
  | .list => by decide +kernel

theorem isTy_ok {K : Fg} {w : Wd} {S : Sto} {a : D} {x : V} {t : Ty} {r : Bool} (hr : Rel K w S) (ha : Is K w.A w.F a x) (e : isTy S t a = some r) : ∃ u, TyX K w.H x u ∧ PySem.W.kitOne K u (.type (nTy t)) = some r := by
  cases a with
  | non => cases ha; refine ⟨_, .base .non, ?_⟩; cases e; cases t <;> kernel_rfl
  | bl b => cases ha; refine ⟨_, .base (.bl b), ?_⟩; cases e; cases t <;> kernel_rfl
  | int b => cases ha; refine ⟨_, .base (.int b), ?_⟩; cases e; cases t <;> kernel_rfl
  | str b => cases ha; refine ⟨_, .base (.str b), ?_⟩; cases e; cases t <;> kernel_rfl
  | tup z =>
    obtain ⟨p, vs, rfl, h2, h3⟩ := ha
    have q : PySem.W.kitOne K (.type "tuple") (.type (nTy t)) = some r := by cases e; cases t <;> kernel_rfl
    rcases h2 with h2 | ⟨o, its, n, h2, h4, _⟩
    · exact ⟨_, .base (.tup (hr.ex _ _ h2)), q⟩
    · exact ⟨_, .kTuple h2 h4, q⟩
  | lst z =>
    obtain ⟨p, vs, rfl, h2, h3⟩ := ha
    refine ⟨_, .base (.lst (hr.ex _ _ h2)), ?_⟩
    cases e; cases t <;> kernel_rfl
  | loc n =>
    obtain ⟨p, h1, rfl⟩ := ha
    have e' : (match S[n]? with
      | some (L.lst _) => some (t == .list)
      | _ => none) = some r := e
    cases q : S[n]? with
    | none => rw [q] at e'; cases e'
    | some o =>
      rw [q] at e'
      cases o with
      | dead => cases e'
      | dct _ _ => cases e'
      | ins _ _ _ _ => cases e'
      | lst xs =>
        obtain ⟨_, vs, h3, _⟩ := hr.liv n _ p q h1
        refine ⟨_, .base (.lst h3), ?_⟩
        cases e'; cases t <;> kernel_rfl
  | _ => cases e
theorem e_isi {p0 p1 : Pos} {t : Ty} (hn : noStar a = true) (hg : Gl X "isinstance") (hm : X.mg "isinstance" = none) (hg2 : Gl X (nTy t)) (hm2 : X.mg (nTy t) = none) (hx : (nTy t : Str) ≠ "__name__") (hd : ((nTy t : Str) == ("__debug__" : Str)) = false) (ha : PE X a (tE X.K W ma)) :
    PE X (.Call (.Name "isinstance" p0) [a, .Name (nTy t) p1] [] pos) (tE X.K W fun τ S => (ma τ S).bind fun x S1 => .of ((isTy S1 t x).map .bl) S1) :=
  (pe_callB call_isi hg hm (by decide +kernel) (pa_cons ha (pa_cons (pe_bltn (v := .ty (nTy t)) hg2 hm2 (nTy_boot t) rfl hx hd) pa_nil rfl) (star_of hn _ _)) (by decide) (by decide) (star_of hn _ _) rfl).imp fun σ H Q ⟨w, τ, S, hH, hr, hs, h⟩ => by
    subst hH
    refine tE.step (p := fun w => okE X.K w Q) hr hs h okE.up fun x S1 v w1 l1 r1 i1 h1 => ?_
    obtain ⟨d, e, k⟩ := Post.of h1
    obtain ⟨r, e1, rfl⟩ := Option.map_eq_some_iff.mp e
    obtain ⟨u, h2, h3⟩ := isTy_ok r1 i1 e1
    exact ⟨v, .ty (nTy t), u, .type (nTy t), r, rfl, .ty _, h2, h3, k _ w1 (.refl _) r1 rfl⟩
theorem e_divm {p0 : Pos} (hn : noStar a = true) (hn2 : noStar b = true) (hg : Gl X "divmod") (hm : X.mg "divmod" = none) (ha : PE X a (tE X.K W ma)) (hb : PE X b (tE X.K W mb)) :
    PE X (.Call (.Name "divmod" p0) [a, b] [] pos) (tE X.K W fun τ S => (ma τ S).bind fun x S1 => (mb τ S1).bind fun y S2 => match x, y with
      | .int i, .int j => if 0 < j ∧ j < 1073741824 then .ok (.tup [.int (i / j), .int (i % j)]) S2 else .stuck
      | _, _ => .stuck) :=
  (pe_callB call_divmod hg hm (by decide +kernel) (pa_cons ha (pa_cons hb pa_nil (star_of hn2 _ _)) (star_of hn _ _)) (by decide) (by decide) (star_of hn _ _) (plain_of (by simpa using hn2))).imp fun σ H Q ⟨w, τ, S, hH, hr, hs, h⟩ => by
    subst hH
    refine tE.step (p := fun w => okE X.K w Q) hr hs h okE.up fun x S1 v w1 l1 r1 i1 h1 => ?_
    refine tE.step (p := fun w => okE X.K w Q) r1 (hs.mono l1) h1 okE.up fun y S2 u w2 l2 r2 i2 h2 => ?_
    cases x with
    | int i =>
      cases y with
      | int j =>
        cases i1; cases i2
        dsimp only at h2
        split at h2
        · rename_i hc
          exact ⟨i, j, rfl, hc, fun p hp => new_tup r2 hp (xs := [.int (i / j), .int (i % j)]) ⟨_, _, rfl, rfl, _, _, rfl, rfl, rfl⟩ h2⟩
        · exact h2.elim
      | _ => exact h2.elim
    | _ => exact h2.elim
/-- tuple(a list) -/
theorem e_tupOf {p0 : Pos} (hn : noStar a = true) (hg : Gl X "tuple") (hm : X.mg "tuple" = none) (ha : PE X a (tE X.K W ma)) :
    PE X (.Call (.Name "tuple" p0) [a] [] pos) (tE X.K W fun τ S => (ma τ S).bind fun x S1 => match getL S1 x with
      | some xs => .ok (.tup xs) S1
      | none => .stuck) :=
  (pe_callTy call_tuple_of hg hm (by decide +kernel) (pa_cons ha pa_nil (star_of hn _ _)) (by decide) (by decide) (star_of hn _ _) rfl).imp fun σ H Q ⟨w, τ, S, hH, hr, hs, h⟩ => by
    subst hH
    refine tE.step (p := fun w => okE X.K w Q) hr hs h okE.up fun x S1 v w1 l1 r1 i1 h1 => ?_
    cases q : getL S1 x with
    | none => rw [q] at h1; exact h1.elim
    | some xs =>
      rw [q] at h1
      obtain ⟨p, vs, rfl, h2, h3⟩ := rdL r1 i1 q
      exact ⟨p, vs, rfl, .inl ⟨h2, fun l hl => new_tup r1 hl h3 h1⟩⟩
/-- list(a list or tuple) -/
theorem f_listOf {p0 : Pos} (hn : noStar a = true) (hg : Gl X "list") (hm : X.mg "list" = none) (ha : PE X a (tE X.K W ma)) :
    PE X (.Call (.Name "list" p0) [a] [] pos) (tF X.K W fun τ S => (ma τ S).bind fun x S1 => match getLT S1 x with
      | some xs => .ok xs S1
      | none => .stuck) :=
  (pe_callTy call_list_of hg hm (by decide +kernel) (pa_cons ha pa_nil (star_of hn _ _)) (by decide) (by decide) (star_of hn _ _) rfl).imp fun σ H Q ⟨w, τ, S, hH, hr, hs, h⟩ => by
    subst hH
    refine tE.step (p := fun w => okF X.K w Q) hr hs h okF.up fun x S1 v w1 l1 r1 i1 h1 => ?_
    cases q : getLT S1 x with
    | none => rw [q] at h1; exact h1.elim
    | some xs =>
      rw [q] at h1
      obtain ⟨p, vs, rfl, h2, h3⟩ := rdLT r1 i1 q
      exact ⟨p, vs, rfl, h2, fun l hl => new_lst r1 hl h3 h1⟩
/-- list(range(n)) -/
theorem f_listRng {p0 p1 pos1 : Pos} (hc : X.calm = true) (hn : noStar a = true) (hg : Gl X "list") (hm : X.mg "list" = none) (hg2 : Gl X "range") (hm2 : X.mg "range" = none) (ha : PE X a (tE X.K W ma)) :
    PE X (.Call (.Name "list" p0) [.Call (.Name "range" p1) [a] [] pos1] [] pos) (tF X.K W fun τ S => (ma τ S).bind fun x S1 => match x with
      | .int n => if -(2 ^ 62) ≤ n ∧ n ≤ 16000000 then .ok ((List.range n.toNat).map fun (i : Nat) => D.int (i : Int)) S1 else .stuck
      | _ => .stuck) :=
  (pe_listRg hc hg hm (prg_1 hg2 hm2 ha (star_of hn _ _)) rfl).imp fun σ H Q ⟨w, τ, S, hH, hr, hs, h⟩ => by
    subst hH
    refine tE.step (p := fun w => okF X.K w Q) hr hs h okF.up fun x S1 v w1 l1 r1 i1 h1 => ?_
    cases x with
    | int n =>
      cases i1
      dsimp only at h1
      by_cases hz : -(2 ^ 62) ≤ n ∧ n ≤ 16000000
      · rw [if_pos hz] at h1
        refine ⟨n, rfl, ⟨by omega, by omega, by omega, by omega, by omega⟩, fun l hl => new_lst r1 hl ?_ h1⟩
        unfold rgV
        rw [Int.sub_zero]
        refine IsA.of_map _ _ (fun i => ?_) _
        show V.int (0 + (i : Int)) = V.int (i : Int)
        rw [Int.zero_add]
      · rw [if_neg hz] at h1; exact h1.elim
    | _ => exact h1.elim
theorem f_cat (ha : PE X a (tE X.K W ma)) (hb : PE X b (tE X.K W mb)) : PE X (.BinOp a .Add b pos) (tF X.K W fun τ S => (ma τ S).bind fun x S1 => (mb τ S1).bind fun y S2 => match getM S2 x, getM S2 y with
    | some xs, some ys => if xs.length + ys.length ≤ SMAX then .ok (xs ++ ys) S2 else .stuck
    | _, _ => .stuck) := (pe_op op_cat ha hb).imp fun σ H Q ⟨w, τ, S, hH, hr, hs, h⟩ => by
  subst hH
  refine tE.step (p := fun w => okF X.K w Q) hr hs h okF.up fun x S1 v w1 l1 r1 i1 h1 => ?_
  refine tE.step (p := fun w => okF X.K w Q) r1 (hs.mono l1) h1 okF.up fun y S2 u w2 l2 r2 i2 h2 => ?_
  cases q : getM S2 x with
  | none => rw [q] at h2; exact h2.elim
  | some xs =>
    rw [q] at h2
    cases q2 : getM S2 y with
    | none => rw [q2] at h2; exact h2.elim
    | some ys =>
      rw [q2] at h2
      dsimp only at h2
      split at h2
      · rename_i hz
        obtain ⟨p, vs, rfl, g1, g2⟩ := rdM r2 (i1.le l2) q
        obtain ⟨p', us, rfl, g3, g4⟩ := rdM r2 i2 q2
        exact ⟨p, p', vs, us, rfl, rfl, g1, g3, by rw [← g2.len, ← g4.len]; exact smax_line hz, fun l hl => new_lst r2 hl (g2.append g4) h2⟩
      · exact h2.elim
theorem IsA.rep {K : Fg} {A : List Addr} {F : Hp} {ds : List D} {vs : List V} (h : IsA K A F ds vs) : ∀ n, IsA K A F (List.replicate n ds).flatten (List.replicate n vs).flatten
  | 0 => rfl
  | n + 1 => by
    rw [List.replicate_succ, List.replicate_succ, List.flatten_cons, List.flatten_cons]
    exact h.append (IsA.rep h n)
theorem f_rep (ha : PE X a (tE X.K W ma)) (hb : PE X b (tE X.K W mb)) : PE X (.BinOp a .Mult b pos) (tF X.K W fun τ S => (ma τ S).bind fun x S1 => (mb τ S1).bind fun y S2 => match getM S2 x, y with
    | some xs, .int k => if -(2 ^ 63) ≤ k ∧ k < 2 ^ 63 ∧ xs.length * k.toNat ≤ SMAX then .ok (List.replicate k.toNat xs).flatten S2 else .stuck
    | _, _ => .stuck) := (pe_op op_rep ha hb).imp fun σ H Q ⟨w, τ, S, hH, hr, hs, h⟩ => by
  subst hH
  refine tE.step (p := fun w => okF X.K w Q) hr hs h okF.up fun x S1 v w1 l1 r1 i1 h1 => ?_
  refine tE.step (p := fun w => okF X.K w Q) r1 (hs.mono l1) h1 okF.up fun y S2 u w2 l2 r2 i2 h2 => ?_
  cases q : getM S2 x with
  | none => rw [q] at h2; exact h2.elim
  | some xs =>
    rw [q] at h2
    cases y with
    | int k =>
      cases i2
      dsimp only at h2
      split at h2
      · rename_i hz
        obtain ⟨p, vs, rfl, g1, g2⟩ := rdM r2 (i1.le l2) q
        exact ⟨p, k, vs, rfl, rfl, g1, hz.1, hz.2.1, by rw [← g2.len]; exact smax_line hz.2.2, fun l hl => new_lst r2 hl (g2.rep _) h2⟩
      · exact h2.elim
    | _ => exact h2.elim
/-! ### parts of slices -/
theorem o_none : PO X none (tO X.K W fun _ S => .ok none S) := by
  have h := po_none (X := X)
  refine ⟨fun pins s σ H Q I x => ?_⟩
  obtain ⟨w, τ, S, hH, hr, hs, h1⟩ := x
  subst hH
  exact h.run pins s σ w.H Q I (h1 w (.refl _) hr)
theorem o_some (ha : PE X a (tE X.K W ma)) : PO X (some a) (tO X.K W fun τ S => (ma τ S).bind fun x S1 => match x with
    | .int i => .ok (some i) S1
    | _ => .stuck) := by
  have h := po_some ha
  refine ⟨fun pins s σ H Q I x => h.run pins s σ H Q I ?_⟩
  obtain ⟨w, τ, S, hH, hr, hs, h1⟩ := x
  subst hH
  refine tE.step (p := fun w => okO X.K w Q) hr hs h1 okO.up fun x S1 v w1 l1 r1 i1 h1 => ?_
  cases x with
  | int i => cases i1; exact ⟨i, rfl, h1 w1 (.refl _) r1⟩
  | _ => exact h1.elim
theorem e_slS {lo hi : Option Expr} {p2 : Pos} {ml mh : Tau → Sto → R (Option Int)} (ha : PE X a (tE X.K W ma)) (hl : PO X lo (tO X.K W ml)) (hh : PO X hi (tO X.K W mh)) :
    PE X (.Subscript a (.Slice lo hi none p2) pos) (tE X.K W fun τ S => (ma τ S).bind fun x S1 => (ml τ S1).bind fun l S2 => (mh τ S2).bind fun h S3 => match x with
      | .str z => if z.length ≤ SMAX then .ok (.str (cutS z l h)) S3 else .stuck
      | _ => .stuck) := (pe_slice sl_str ha hl hh).imp fun σ H Q ⟨w, τ, S, hH, hr, hs, h⟩ => by
  subst hH
  refine tE.step (p := fun w => okE X.K w Q) hr hs h okE.up fun x S1 v w1 l1 r1 i1 h1 => ?_
  refine tO.step (p := fun w => okE X.K w Q) r1 (hs.mono l1) h1 okE.up fun l S2 w2 l2 r2 h2 => ?_
  refine tO.step (p := fun w => okE X.K w Q) r2 (hs.mono (l1.trans l2)) h2 okE.up fun hi S3 w3 l3 r3 h3 => ?_
  cases x with
  | str z =>
    cases i1
    dsimp only at h3
    split at h3
    · rename_i hz
      exact ⟨z, rfl, smax_line hz, h3 _ w3 (.refl _) r3 rfl⟩
    · exact h3.elim
  | _ => exact h3.elim
theorem cutL_is {K : Fg} {A : List Addr} {F : Hp} {ds : List D} {vs : List V} (h : IsA K A F ds vs) (lo hi : Option Int) : IsA K A F (cutL ds lo hi) (cutV vs lo hi) := by
  unfold cutL cutV
  rw [h.len]
  exact (h.drop _).take _
theorem f_slL {lo hi : Option Expr} {p2 : Pos} {ml mh : Tau → Sto → R (Option Int)} (ha : PE X a (tE X.K W ma)) (hl : PO X lo (tO X.K W ml)) (hh : PO X hi (tO X.K W mh)) :
    PE X (.Subscript a (.Slice lo hi none p2) pos) (tF X.K W fun τ S => (ma τ S).bind fun x S1 => (ml τ S1).bind fun l S2 => (mh τ S2).bind fun h S3 => match getL S3 x with
      | some xs => .ok (cutL xs l h) S3
      | none => .stuck) := (pe_slice sl_list ha hl hh).imp fun σ H Q ⟨w, τ, S, hH, hr, hs, h⟩ => by
  subst hH
  refine tE.step (p := fun w => okF X.K w Q) hr hs h okF.up fun x S1 v w1 l1 r1 i1 h1 => ?_
  refine tO.step (p := fun w => okF X.K w Q) r1 (hs.mono l1) h1 okF.up fun l S2 w2 l2 r2 h2 => ?_
  refine tO.step (p := fun w => okF X.K w Q) r2 (hs.mono (l1.trans l2)) h2 okF.up fun hi S3 w3 l3 r3 h3 => ?_
  cases q : getL S3 x with
  | none => rw [q] at h3; exact h3.elim
  | some xs =>
    rw [q] at h3
    obtain ⟨p, vs, rfl, g1, g2⟩ := rdL r3 ((i1.le l2).le l3) q
    exact ⟨p, vs, rfl, g1, fun l hl => new_lst r3 hl (cutL_is g2 _ _) h3⟩
/-! ### methods of texts -/
def noSuper : Expr → Bool
  | .Call (.Name _ _) [] [] _ => false
  | _ => true
theorem base_of {o : Expr} (h : noSuper o = true) (attr : Str) (env : Env) (whole : Sem Value) : attributeBase o attr env whole = whole := by
  unfold attributeBase
  split
  · cases h
  · rfl
theorem e_join {apos : Pos} (hn : noStar b = true) (hs : noSuper a = true) (hl : (apos.endLine == pos.line) = true) (ha : PE X a (tE X.K W ma)) (hb : PE X b (tE X.K W mb)) :
    PE X (.Call (.Attribute a "join" apos) [b] [] pos) (tE X.K W fun τ S => (ma τ S).bind fun x S1 => match x with
      | .str z => (mb τ S1).bind fun y S2 => (match (getLT S2 y).bind listS with
        | some ys => if (ys.map (·.length)).sum + ys.length * z.length ≤ SMAX then .ok (.str (Txt.join z ys)) S2 else .stuck
        | none => .stuck)
      | _ => .stuck) :=
  (pe_join ha hb (star_of hn _ _) (base_of hs _ _ _) hl).imp fun σ H Q ⟨w, τ, S, hH, hr, hs, h⟩ => by
    subst hH
    refine tE.step (p := fun w => okE X.K w Q) hr hs h okE.up fun x S1 v w1 l1 r1 i1 h1 => ?_
    cases x with
    | str z =>
      cases i1
      refine ⟨⟨z, rfl⟩, ?_⟩
      refine tE.step (p := fun w => okE X.K w Q) r1 (hs.mono l1) h1 okE.up fun y S2 u w2 l2 r2 i2 h2 => ?_
      cases q : (getLT S2 y).bind listS with
      | none => rw [q] at h2; exact h2.elim
      | some ys =>
        rw [q] at h2
        dsimp only at h2
        split at h2
        · rename_i hz
          obtain ⟨ds, e2, e3⟩ := Option.bind_eq_some_iff.mp q
          obtain ⟨p, vs, rfl, g1, g2⟩ := rdLT r2 i2 e2
          rw [g2.listS e3] at g1
          exact ⟨z, p, ys, rfl, rfl, g1, by rw [smax_eq] at hz; omega, h2 _ w2 (.refl _) r2 rfl⟩
        · exact h2.elim
    | _ => exact h1.elim
theorem f_split {apos : Pos} (hn : noStar b = true) (hs : noSuper a = true) (hl : (apos.endLine == pos.line) = true) (ha : PE X a (tE X.K W ma)) (hb : PE X b (tE X.K W mb)) :
    PE X (.Call (.Attribute a "split" apos) [b] [] pos) (tF X.K W fun τ S => (ma τ S).bind fun x S1 => match x with
      | .str a => (mb τ S1).bind fun y S2 => (match y with
        | .str b => if (b.length == 0) = false ∧ a.length + 2 ≤ SMAX then .ok ((Txt.split a b).map .str) S2 else .stuck
        | _ => .stuck)
      | _ => .stuck) :=
  (pe_split ha hb (star_of hn _ _) (base_of hs _ _ _) hl).imp fun σ H Q ⟨w, τ, S, hH, hr, hs, h⟩ => by
    subst hH
    refine tE.step (p := fun w => okF X.K w Q) hr hs h okF.up fun x S1 v w1 l1 r1 i1 h1 => ?_
    cases x with
    | str z =>
      cases i1
      refine ⟨⟨z, rfl⟩, ?_⟩
      refine tE.step (p := fun w => okF X.K w Q) r1 (hs.mono l1) h1 okF.up fun y S2 u w2 l2 r2 i2 h2 => ?_
      cases y with
      | str y =>
        cases i2
        dsimp only at h2
        split at h2
        · rename_i hz
          exact ⟨z, y, rfl, rfl, hz.1, smax_line hz.2, fun p hp => new_lst r2 hp (IsA.of_map D.str V.str (fun i => show V.str i = V.str i from rfl) _) h2⟩
        · exact h2.elim
      | _ => exact h2.elim
    | _ => exact h1.elim
theorem backTo_all {pos : Pos} {l : List (Bool × Sem Value)} (h : l.any (·.1) = false) : (backTo pos l).all (fun x => !x.1) = true := by
  have h2 := backTo_any (pos := pos) h
  rw [List.all_eq_true]
  intro x hx
  cases q : x.1 with
  | false => rfl
  | true =>
    have : (backTo pos l).any (·.1) = true := List.any_eq_true.mpr ⟨x, hx, q⟩
    rw [h2] at this
    cases this
theorem few_of {e : Expr} {es : List Expr} {env : Env} {cpos : Pos} (h : ∀ x ∈ e :: es, noStar x = true) (hl : es.length < 28) : ((backTo cpos (starEach (e :: es) env)).all (fun x => !x.1) && (backToKw cpos (keywordEach [] env)).all (fun x => x.1.isSome)
      && decide ((e :: es).length + ([] : List Keyword).length + (if ([] : List Keyword).isEmpty then 0 else 1) < 30)) = true := by
  rw [backTo_all (star_any h)]
  show (true && true && decide ((e :: es).length + 0 + 0 < 30)) = true
  simp
  omega
theorem f_splitMax {apos : Pos} (hn : noStar b = true) (hn2 : noStar c = true) (hs : noSuper a = true) (hl : (apos.endLine == pos.line) = true) (ha : PE X a (tE X.K W ma)) (hb : PE X b (tE X.K W mb)) (hc : PE X c (tE X.K W mc)) :
    PE X (.Call (.Attribute a "split" apos) [b, c] [] pos) (tF X.K W fun τ S => (ma τ S).bind fun x S1 => match x with
      | .str a => (mb τ S1).bind fun y S2 => (mc τ S2).bind fun z S3 => (match y, z with
        | .str b, .int k => if (b.length == 0) = false ∧ -(2 ^ 63) ≤ k ∧ k < 2 ^ 63 ∧ a.length + 2 ≤ SMAX then .ok ((Txt.splitMax a b k).map .str) S3 else .stuck
        | _, _ => .stuck)
      | _ => .stuck) :=
  (pe_bm PySem.F.plainAttrs_str PySem.F.slot_str_split PySem.F.type_str_split mt_splitMax ha (pa_cons hb (pa_cons hc pa_nil (star_of hn2 _ _)) (star_of hn _ _)) (base_of hs _ _ _) (few_of (by simp [hn, hn2]) (by simp)) hl (star_of hn _ _) (plain_of (by simpa using hn2))).imp fun σ H Q ⟨w, τ, S, hH, hr, hs, h⟩ => by
    subst hH
    refine tE.step (p := fun w => okF X.K w Q) hr hs h okF.up fun x S1 v w1 l1 r1 i1 h1 => ?_
    cases x with
    | str z =>
      cases i1
      refine ⟨rfl, ?_⟩
      refine tE.step (p := fun w => okF X.K w Q) r1 (hs.mono l1) h1 okF.up fun y S2 u w2 l2 r2 i2 h2 => ?_
      refine tE.step (p := fun w => okF X.K w Q) r2 (hs.mono (l1.trans l2)) h2 okF.up fun k S3 u3 w3 l3 r3 i3 h3 => ?_
      cases y with
      | str y =>
        cases k with
        | int k =>
          cases i2; cases i3
          dsimp only at h3
          split at h3
          · rename_i hz
            exact ⟨z, y, k, rfl, rfl, hz.1, hz.2.1, hz.2.2.1, smax_line hz.2.2.2, fun p hp => new_lst r3 hp (IsA.of_map D.str V.str (fun i => show V.str i = V.str i from rfl) _) h3⟩
          · exact h3.elim
        | _ => exact h3.elim
      | _ => exact h3.elim
    | _ => exact h1.elim
def nMt : Mt → Str
  | .rfind => "rfind" | .find => "find"
def rMt : Mt → V → List V → Hp → VK → Prop
  | .rfind => fun x xs H Q => ∃ a b, x = .str a ∧ xs = [.str b] ∧ Q (.int (Txt.rfind a b)) H
  | .find => fun x xs H Q => ∃ a b, x = .str a ∧ xs = [.str b] ∧ Q (.int (Txt.find a b)) H
theorem e_mt1r {apos : Pos} (m : Mt) (h : PE X c (tM1 (rMt m) (tE X.K W ma) (tE X.K W mb))) : PE X c (tE X.K W fun τ S => (ma τ S).bind fun x S1 => match x with
    | .str z => (mb τ S1).bind fun y S2 => .of (mt1 m (.str z) y) S2
    | _ => .stuck) := h.imp fun σ H Q ⟨w, τ, S, hH, hr, hs, h⟩ => by
  subst hH
  refine tE.step (p := fun w => okE X.K w Q) hr hs h okE.up fun x S1 v w1 l1 r1 i1 h1 => ?_
  cases x with
  | str z =>
    cases i1
    refine ⟨⟨z, rfl⟩, ?_⟩
    refine tE.step (p := fun w => okE X.K w Q) r1 (hs.mono l1) h1 okE.up fun y S2 u w2 l2 r2 i2 h2 => ?_
    obtain ⟨d, e, k⟩ := Post.of h2
    cases y with
    | str y =>
      cases i2
      cases m with
      | rfind => cases e; exact ⟨z, y, rfl, rfl, k _ w2 (.refl _) r2 rfl⟩
      | find => cases e; exact ⟨z, y, rfl, rfl, k _ w2 (.refl _) r2 rfl⟩
    | _ => cases m <;> cases e
  | _ => exact h1.elim
theorem e_mt1 {apos : Pos} (m : Mt) (hn : noStar b = true) (hs : noSuper a = true) (hl : (apos.endLine == pos.line) = true) (ha : PE X a (tE X.K W ma)) (hb : PE X b (tE X.K W mb)) :
    PE X (.Call (.Attribute a (nMt m) apos) [b] [] pos) (tE X.K W fun τ S => (ma τ S).bind fun x S1 => match x with
      | .str z => (mb τ S1).bind fun y S2 => .of (mt1 m (.str z) y) S2
      | _ => .stuck) := by
  cases m with
  | rfind => exact e_mt1r (apos := apos) .rfind (pe_m1 PySem.F.slot_str_rfind PySem.F.type_str_rfind mt_rfind ha hb (star_of hn _ _) (base_of hs _ _ _) hl)
  | find => exact e_mt1r (apos := apos) .find (pe_m1 PySem.F.slot_str_find PySem.F.type_str_find mt_find ha hb (star_of hn _ _) (base_of hs _ _ _) hl)
end
end Pi
end
section
set_option Elab.async false
set_option linter.all false
set_option maxRecDepth 100000
set_option maxHeartbeats 4000000
/-! Pi, part F: tests; what loops and comprehensions walk. -/
namespace Pi
open PySem PySem.Spec PyProof.Rows L2
def unbox (r : R D) : R Bool := r.bind fun x S1 => match x with
  | .bl c => .ok c S1
  | _ => .stuck
section
variable {X : Cx} {W : WX} {a b c : Expr} {pos : Pos} {ma mb mc : Tau → Sto → R D} {rest : List Expr} {mt mu : Tau → Sto → R Bool}
abbrev bq (Q : Bool → Hp → Prop) : VK := fun x H' => ∃ k, x = .bl k ∧ Q k H'
theorem toTest {K : Fg} {m : Tau → Sto → R D} {σ : L2.St} {H : Hp} {Q : Bool → Hp → Prop} (h : tT K W (fun τ S => unbox (m τ S)) σ H Q) : tE K W m σ H (bq Q) := by
  obtain ⟨w, τ, S, hH, hr, hs, h⟩ := h
  refine ⟨w, τ, S, hH, hr, hs, ?_⟩
  have h' := Post.bind (r := m τ S) h
  refine h'.mono (fun d S1 q v w1 l r i => ?_) fun c fs S1 q => q
  cases d with
  | bl k => cases i; exact ⟨k, rfl, q w1 l r⟩
  | _ => exact q.elim
theorem t_cmp (o : Cop) (hu : X.A.units + 65 < cLine) (hm : behindInMarks (pCop o) b = false) (ha : PE X a (tE X.K W ma)) (hb : PE X b (tE X.K W mb)) :
    PT X (.Compare a [pCop o] [b] pos) (tT X.K W fun τ S => unbox ((ma τ S).bind fun x S1 => (mb τ S1).bind fun y S2 => .of ((cop S2 o x y).map .bl) S2)) :=
  (pt_cmpR (cop_run hu o) ha hb hm).imp fun σ H Q h0 => by
    obtain ⟨w, τ, S, hH, hr, hs, h⟩ := toTest h0
    clear h0
    subst hH
    refine tE.step (p := fun w => okE X.K w (bq Q)) hr hs h okE.up fun x S1 v w1 l1 r1 i1 h1 => ?_
    refine tE.step (p := fun w => okE X.K w (bq Q)) r1 (hs.mono l1) h1 okE.up fun y S2 u w2 l2 r2 i2 h2 => ?_
    obtain ⟨d, e, k⟩ := Post.of h2
    exact cop_ok X.K o w2 S2 x y d v u _ r2 (i1.le l2) i2 e fun z hz => k z w2 (.refl _) r2 hz
theorem t_isN {p0 : Pos} {j0 : Nat} (ha : PE X a (tE X.K W ma)) : PT X (.Compare a [.Is] [.Constant .none j0 p0] pos) (tT X.K W fun τ S => unbox ((ma τ S).bind fun x S1 => .of ((nonD x).map .bl) S1)) :=
  (pt_cmpR op_isN ha pe_non (nomark _)).imp fun σ H Q h0 => by
    obtain ⟨w, τ, S, hH, hr, hs, h⟩ := toTest h0
    clear h0
    subst hH
    refine tE.step (p := fun w => okE X.K w (bq Q)) hr hs h okE.up fun x S1 v w1 l1 r1 i1 h1 => ?_
    obtain ⟨d, e, k⟩ := Post.of h1
    obtain ⟨b, e1, rfl⟩ := Option.map_eq_some_iff.mp e
    refine ⟨rfl, ?_⟩
    rw [nonD_ok i1 e1]
    exact k _ w1 (.refl _) r1 rfl
theorem t_notN {p0 : Pos} {j0 : Nat} (ha : PE X a (tE X.K W ma)) : PT X (.Compare a [.IsNot] [.Constant .none j0 p0] pos) (tT X.K W fun τ S => unbox ((ma τ S).bind fun x S1 => .of ((nonD x).map fun b => .bl (!b)) S1)) :=
  (pt_cmpR op_notN ha pe_non (nomark _)).imp fun σ H Q h0 => by
    obtain ⟨w, τ, S, hH, hr, hs, h⟩ := toTest h0
    clear h0
    subst hH
    refine tE.step (p := fun w => okE X.K w (bq Q)) hr hs h okE.up fun x S1 v w1 l1 r1 i1 h1 => ?_
    obtain ⟨d, e, k⟩ := Post.of h1
    obtain ⟨b, e1, rfl⟩ := Option.map_eq_some_iff.mp e
    refine ⟨rfl, ?_⟩
    rw [nonD_ok i1 e1]
    exact k _ w1 (.refl _) r1 rfl
theorem t_chain (o p : Cop) (hu : X.A.units + 65 < cLine) (hm : lastMarks [pCop o, pCop p] [b, c] = false) (ha : PE X a (tE X.K W ma)) (hb : PE X b (tE X.K W mb)) (hc : PE X c (tE X.K W mc)) :
    PT X (.Compare a [pCop o, pCop p] [b, c] pos) (tT X.K W fun τ S => unbox ((ma τ S).bind fun x S1 => (mb τ S1).bind fun y S2 => match cop S2 o x y with
    | some true => (mc τ S2).bind fun z S3 => .of ((cop S3 p y z).map .bl) S3
    | some false => .ok (.bl false) S2
    | none => .stuck)) := (pt_chain (cop_run hu o) (cop_run hu p) ha hb hc hm).imp fun σ H Q h0 => by
  obtain ⟨w, τ, S, hH, hr, hs, h⟩ := toTest h0
  clear h0
  subst hH
  refine tE.step (p := fun w => okE X.K w (bq Q)) hr hs h okE.up fun x S1 v w1 l1 r1 i1 h1 => ?_
  refine tE.step (p := fun w => okE X.K w (bq Q)) r1 (hs.mono l1) h1 okE.up fun y S2 u w2 l2 r2 i2 h2 => ?_
  cases e : cop S2 o x y with
  | none => rw [e] at h2; exact h2.elim
  | some k =>
    rw [e] at h2
    refine cop_ok X.K o w2 S2 x y (.bl k) v u _ r2 (i1.le l2) i2 (show (cop S2 o x y).map D.bl = some (D.bl k) by rw [e]; rfl) fun z hz => ?_
    cases hz
    refine ⟨k, rfl, ?_⟩
    cases k with
    | true =>
      refine iteT ?_
      refine tE.step (p := fun w => okE X.K w (bq Q)) r2 (hs.mono (l1.trans l2)) h2 okE.up fun z S3 u3 w3 l3 r3 i3 h3 => ?_
      obtain ⟨d, e3, k3⟩ := Post.of h3
      exact cop_ok X.K p w3 S3 y z d u u3 _ r3 (i2.le l3) i3 e3 fun z hz => k3 z w3 (.refl _) r3 hz
    | false => exact iteF (h2 _ w2 (.refl _) r2 rfl)
/-- an expression that is tested as it is -/
def plainT : Expr → Bool
  | .UnaryOp .Not _ _ => false
  | .BoolOp _ _ _ => false
  | .IfExp _ _ _ _ => false
  | .Compare _ _ _ _ => false
  | _ => true
theorem plainT_ok {e : Expr} {env : Env} (h : plainT e = true) (whole : Sem Value) : isTrue e env whole = (do let v ← whole; standAt e.pos; holding [v] (truthy v)) := by
  cases e with
  | UnaryOp op x p => cases op <;> first | rfl | cases h
  | BoolOp _ _ _ => cases h
  | IfExp _ _ _ _ => cases h
  | Compare _ _ _ _ => cases h
  | _ => rfl
theorem t_val (hp : plainT a = true) (ha : PE X a (tE X.K W ma)) : PT X a (tT X.K W fun τ S => unbox (ma τ S)) := (pt_val ha (plainT_ok hp)).imp fun σ H Q h => toTest h
theorem truD_ok {K : Fg} {w : Wd} {S : Sto} {x : D} {v : V} {b : Bool} (hr : Rel K w S) (h : Is K w.A w.F x v) (e : truD S x = some b) : TruV K v w.H b := by
  have seq : ∀ {d : D}, Is K w.A w.F d v → (getLT S d).map (fun xs : List D => !xs.isEmpty) = some b → TruV K v w.H b := fun {d} hd e => by
    obtain ⟨xs, e1, rfl⟩ := Option.map_eq_some_iff.mp e
    obtain ⟨p, vs, rfl, h2, h3⟩ := rdLT hr hd e1
    have el : (!xs.isEmpty) = !vs.isEmpty := by
      have := h3.len
      cases xs <;> cases vs <;> simp_all
    rcases h2 with h2 | h2
    · exact .inl ⟨vs, h2, el⟩
    · exact .inr (.inl ⟨vs, h2, el⟩)
  cases x with
  | non => cases h; cases e; rfl
  | bl z => cases h; cases e; rfl
  | int z => cases h; cases e; rfl
  | str z =>
    cases h
    have e' : (if z.length ≤ SMAX then some (z.length != 0) else none) = some b := e
    split at e'
    · rename_i hz
      cases e'
      refine ⟨smax_line hz, ?_⟩
      cases z.length with
      | zero => rfl
      | succ n => rfl
    · cases e'
  | tup z => exact seq h e
  | lst z => exact seq h e
  | scr z => exact seq h e
  | loc z => exact seq h e
  | exn c fs => cases e
  | dic ks ds => cases e
theorem t_tru (hp : plainT a = true) (ha : PE X a (tE X.K W ma)) : PT X a (tT X.K W fun τ S => (ma τ S).bind fun x S1 => .of (truD S1 x) S1) := (pt_truth ha (plainT_ok hp)).imp fun σ H Q ⟨w, τ, S, hH, hr, hs, h⟩ => by
  subst hH
  refine ⟨w, τ, S, rfl, hr, hs, h.bind.mono (fun d S1 q v w1 l1 r1 i1 => ?_) fun c fs S1 q => q⟩
  obtain ⟨b, e, k⟩ := Post.of q
  exact ⟨b, truD_ok r1 i1 e, k w1 l1 r1⟩
theorem t_not (ha : PT X a (tT X.K W mt)) : PT X (.UnaryOp .Not a pos) (tT X.K W fun τ S => (mt τ S).bind fun c S1 => .ok (!c) S1) := (pt_not ha).imp fun σ H Q ⟨w, τ, S, hH, hr, hs, h⟩ => by
  subst hH
  exact tT.step (p := fun w => okT X.K w Q) hr hs h okT.up fun c S1 w1 l1 r1 h1 => h1 w1 (.refl _) r1
theorem t_and1 (ha : PT X a (tT X.K W mt)) : PW X (.BoolOp .And [a] pos) (tT X.K W mt) := pw_and1 ha
theorem t_or1 (ha : PT X a (tT X.K W mt)) : PW X (.BoolOp .Or [a] pos) (tT X.K W mt) := pw_or1 ha
theorem t_and (ha : PT X a (tT X.K W mt)) (hb : PW X (.BoolOp .And (b :: rest) pos) (tT X.K W mu)) : PW X (.BoolOp .And (a :: b :: rest) pos) (tT X.K W fun τ S => (mt τ S).bind fun c S1 => if c then mu τ S1 else .ok false S1) :=
  (pw_and ha hb).imp fun σ H Q ⟨w, τ, S, hH, hr, hs, h⟩ => by
    subst hH
    refine tT.step (p := fun w => okT X.K w Q) hr hs h okT.up fun c S1 w1 l1 r1 h1 => ?_
    cases c with
    | true => exact iteT ⟨w1, τ, S1, rfl, r1, hs.mono l1, h1⟩
    | false => exact iteF (h1 w1 (.refl _) r1)
theorem t_or (ha : PT X a (tT X.K W mt)) (hb : PW X (.BoolOp .Or (b :: rest) pos) (tT X.K W mu)) : PW X (.BoolOp .Or (a :: b :: rest) pos) (tT X.K W fun τ S => (mt τ S).bind fun c S1 => if c then .ok true S1 else mu τ S1) :=
  (pw_or ha hb).imp fun σ H Q ⟨w, τ, S, hH, hr, hs, h⟩ => by
    subst hH
    refine tT.step (p := fun w => okT X.K w Q) hr hs h okT.up fun c S1 w1 l1 r1 h1 => ?_
    cases c with
    | true => exact iteT (h1 w1 (.refl _) r1)
    | false => exact iteF ⟨w1, τ, S1, rfl, r1, hs.mono l1, h1⟩
/-! ### walks -/
/-- an iterator of the heap layer walks these items -/
def Wk (K : Fg) (w : Wd) (J : L2.It) (s : Src) : Prop := ∃ (G : Hp → Prop) (Y : Nat → Hp → V → Hp → Prop), L2.Walk J s.items.length G Y ∧
  ∀ (w2 : Wd) (S2 : Sto), w.le w2 → Rel K w2 S2 → okS s S2 → G w2.H ∧ ∀ (i : Nat) (x : V) (H' : Hp), Y i w2.H x H' → ∃ (w3 : Wd) (d : D), w2.le w3 ∧ w3.H = H' ∧ Rel K w3 S2 ∧ s.items[i]? = some d ∧ Is K w3.A w3.F d x
def okI (K : Fg) (w : Wd) (Q : L2.It → Hp → Prop) : Src → Sto → Prop := fun s S => okS s S → ∀ J w', w.le w' → Rel K w' S → Wk K w' J s → Q J w'.H
def tI (K : Fg) (W : WX) (m : Tau → Sto → R Src) : TI := tG (okI K) K W m
theorem okI.up {K : Fg} {Q : L2.It → Hp → Prop} {w w' : Wd} {d : Src} {S : Sto} (l : w.le w') (h : okI K w Q d S) : okI K w' Q d S := fun o J w2 l2 => h o J w2 (l.trans l2)
theorem _root_.L2.PI.imp {X : Cx} {tg e : Expr} {t t' : TI} (h : PI X tg e t) (i : ∀ σ H Q, t' σ H Q → t σ H Q) : PI X tg e t' := ⟨fun pins s σ H Q I x => h.run pins s σ H Q I (i _ _ _ x)⟩
end
/-- a list that stays -/
theorem wk_list {K : Fg} {w : Wd} {a : Addr} {s : Src} (h : ∀ w2 S2, w.le w2 → Rel K w2 S2 → okS s S2 → ∃ vs, SqL K w2.H a vs ∧ IsA K w2.A w2.F s.items vs) : Wk K w (Itl K a) s := by
  refine ⟨fun H => ∃ vs, SqL K H a vs ∧ vs.length = s.items.length, fun i H x H' => H' = H ∧ ∀ vs, SqL K H a vs → vs[i]? = some x, ⟨fun i H hi q => ?_, fun H q => ?_, fun i H x H' _ _ y => y⟩, fun w2 S2 l r o => ⟨?_, fun i x H' y => ?_⟩⟩
  · obtain ⟨vs, q1, q2⟩ := q
    exact ⟨vs, vs[i]'(by omega), q1, by simp⟩
  · obtain ⟨vs, q1, q2⟩ := q
    exact ⟨vs, q1, by omega⟩
  · obtain ⟨vs, q1, q2⟩ := h w2 S2 l r o
    exact ⟨vs, q1, q2.len.symm⟩
  · obtain ⟨rfl, y⟩ := y
    obtain ⟨vs, q1, q2⟩ := h w2 S2 l r o
    obtain ⟨d, e1, e2⟩ := q2.getV (y vs q1)
    exact ⟨w2, d, .refl _, rfl, r, e1, e2⟩
theorem wk_tup {K : Fg} {w : Wd} {a : Addr} {s : Src} (h : ∀ w2 S2, w.le w2 → Rel K w2 S2 → okS s S2 → ∃ vs, SqT K w2.H a vs ∧ IsA K w2.A w2.F s.items vs) : Wk K w (Itt K a) s := by
  refine ⟨fun H => ∃ vs, SqT K H a vs ∧ vs.length = s.items.length, fun i H x H' => H' = H ∧ ∀ vs, SqT K H a vs → vs[i]? = some x, ⟨fun i H hi q => ?_, fun H q => ?_, fun i H x H' _ _ y => y⟩, fun w2 S2 l r o => ⟨?_, fun i x H' y => ?_⟩⟩
  · obtain ⟨vs, q1, q2⟩ := q
    exact ⟨vs, vs[i]'(by omega), q1, by simp⟩
  · obtain ⟨vs, q1, q2⟩ := q
    exact ⟨vs, q1, by omega⟩
  · obtain ⟨vs, q1, q2⟩ := h w2 S2 l r o
    exact ⟨vs, q1, q2.len.symm⟩
  · obtain ⟨rfl, y⟩ := y
    obtain ⟨vs, q1, q2⟩ := h w2 S2 l r o
    obtain ⟨d, e1, e2⟩ := q2.getV (y vs q1)
    exact ⟨w2, d, .refl _, rfl, r, e1, e2⟩
/-- what is read of a list as long as it stays -/
theorem held_ok {K : Fg} {w : Wd} {S : Sto} {x : D} {v : V} {xs : List D} (hx : Is K w.A w.F x v) (e : getL S x = some xs) : ∃ a, v = .ref a ∧ ∀ (its : List D) w2 S2, w.le w2 → Rel K w2 S2 → okS ⟨its, lown x, xs⟩ S2 → ∃ vs, SqL K w2.H a vs ∧ IsA K w2.A w2.F xs vs := by
  have key : ∀ w2 S2, w.le w2 → Rel K w2 S2 → okS ⟨[], lown x, xs⟩ S2 → getL S2 x = some xs := fun w2 S2 l r o => by
    cases x with
    | loc n =>
      have o' : S2[n]? = some (L.lst xs) := o
      show (match S2[n]? with
        | some (L.lst xs) => some xs
        | _ => none) = some xs
      rw [o']
    | lst _ => exact e
    | scr _ => exact e
    | _ => cases e
  have ha : ∃ a, v = .ref a := by
    cases x with
    | loc n => obtain ⟨a, _, h⟩ := hx; exact ⟨a, h⟩
    | lst _ => obtain ⟨a, _, h, _⟩ := hx; exact ⟨a, h⟩
    | scr _ => obtain ⟨a, h, _⟩ := hx; exact ⟨a, h⟩
    | _ => cases e
  obtain ⟨a, rfl⟩ := ha
  refine ⟨a, rfl, fun its w2 S2 l r o => ?_⟩
  obtain ⟨p, vs, e1, e2, e3⟩ := rdL r (hx.le l) (key w2 S2 l r o)
  cases e1
  exact ⟨vs, e2, e3⟩
theorem enumD_len : ∀ (k : Nat) (xs : List D), (enumD k xs).length = xs.length
  | _, [] => rfl
  | k, d :: ds => by show (enumD (k + 1) ds).length + 1 = ds.length + 1; rw [enumD_len]
theorem enumD_get : ∀ (k : Nat) (xs : List D) (i : Nat) (d : D), xs[i]? = some d → (enumD k xs)[i]? = some (.tup [.int ((k + i : Nat) : Int), d])
  | _, [], _, _, e => by simp at e
  | k, x :: xs, 0, d, e => by
    have e' : some x = some d := e
    cases e'
    rfl
  | k, x :: xs, i + 1, d, e => by
    have h := enumD_get (k + 1) xs i d e
    rw [show k + 1 + i = k + (i + 1) by omega] at h
    exact h
/-- a new pair, frozen -/
theorem new_pair {K : Fg} {w : Wd} {S : Sto} (hr : Rel K w S) {T : Addr} {d e : D} {x y : V} (nT : w.H T = none) (hd : Is K w.A w.F d x) (he : Is K w.A w.F e y) :
    ∃ w3 : Wd, w.le w3 ∧ w3.H = upd w.H T (.tup [x, y]) ∧ Rel K w3 S ∧ Is K w3.A w3.F (.tup [d, e]) (.ref T) := by
  obtain ⟨r2, l2⟩ := new_frz hr (o := .tup [x, y]) nT
  exact ⟨⟨upd w.F T (.tup [x, y]), upd w.H T (.tup [x, y]), w.A⟩, l2, rfl, r2, T, [x, y], rfl, .inl upd_same, _, _, rfl, hd.mono l2.ex l2.pre, _, _, rfl, he.mono l2.ex l2.pre, rfl⟩
theorem wk_enum {K : Fg} {w : Wd} {a : Addr} {xs : List D} {o : Option Nat} {hd : List D} (h : ∀ w2 S2, w.le w2 → Rel K w2 S2 → okS ⟨enumD 0 xs, o, hd⟩ S2 → ∃ vs, SqL K w2.H a vs ∧ IsA K w2.A w2.F xs vs) : Wk K w (Ite K a) ⟨enumD 0 xs, o, hd⟩ := by
  refine ⟨fun H => ∃ vs, SqL K H a vs ∧ vs.length = xs.length, fun i H v H' => ∃ T x, v = .ref T ∧ H T = none ∧ H' = upd H T (.tup [.int (i : Nat), x]) ∧ ∀ xs, SqL K H a xs → xs[i]? = some x, ⟨fun i H hi q => ?_, fun H q => ?_, fun i H x H' _ _ y => y⟩, fun w2 S2 l r o => ⟨?_, fun i x H' y => ?_⟩⟩
  · obtain ⟨vs, q1, q2⟩ := q
    have hi' : i < xs.length := by rw [← enumD_len 0 xs]; exact hi
    exact ⟨vs, vs[i]'(by omega), q1, by simp⟩
  · obtain ⟨vs, q1, q2⟩ := q
    exact ⟨vs, q1, by show vs.length ≤ (enumD 0 xs).length; rw [enumD_len]; omega⟩
  · obtain ⟨vs, q1, q2⟩ := h w2 S2 l r o
    exact ⟨vs, q1, q2.len.symm⟩
  · obtain ⟨T, z, rfl, nT, rfl, y⟩ := y
    obtain ⟨vs, q1, q2⟩ := h w2 S2 l r o
    obtain ⟨d, e1, e2⟩ := q2.getV (y vs q1)
    obtain ⟨w3, l3, e3, r3, i3⟩ := new_pair r nT (d := .int (i : Nat)) (e := d) (x := .int (i : Nat)) rfl e2
    have g := enumD_get 0 xs i d e1
    rw [Nat.zero_add] at g
    exact ⟨w3, _, l3, e3, r3, g, i3⟩
/-- items that are told by a function, the heap as it was -/
theorem wk_fn {K : Fg} {w : Wd} {J : L2.It} {n : Nat} {f : Nat → V} {s : Src} (hw : L2.Walk J n (fun _ => True) (fun i H v H' => H' = H ∧ v = f i)) (hn : s.items.length = n) (hf : ∀ i, i < n → ∃ d, s.items[i]? = some d ∧ ∀ w2 : Wd, Is K w2.A w2.F d (f i)) : Wk K w J s := by
  subst hn
  refine ⟨fun _ => True, fun i H v H' => i < s.items.length ∧ H' = H ∧ v = f i, ⟨hw.goes, hw.stops, fun i H x H' hi g y => ⟨hi, hw.yields i H x H' hi g y⟩⟩, fun w2 S2 l r o => ⟨True.intro, fun i x H' y => ?_⟩⟩
  obtain ⟨hi, rfl, rfl⟩ := y
  obtain ⟨d, e1, e2⟩ := hf i hi
  exact ⟨w2, d, .refl _, rfl, r, e1, e2 w2⟩

/-! ### enumerate(a text) -/
def Itp (n : Nat) (x y : Nat → V) : L2.It := ⟨fun i _ => i < n, fun i H v H' => ∃ T, v = .ref T ∧ H T = none ∧ H' = upd H T (.tup [x i, y i]), fun i _ => i = n⟩
theorem turn_pair {P : Program} {w : World} {K : Fg} {elts : List Expr} {kk : Nat} {tpos : Pos} {e : Addr} {fp wr : List Addr} {n : Nat} {x y : Nat → V} {Pt : Nat → Array Value → Prop} {St : Nat → Heap → Prop} {Mid : Nat → Addr → Heap → Prop}
    (hw : ∀ A, A.handled = none → WalksT P w A e fp wr n Pt St Mid) (he : e ∈ fp) (hP : ∀ i vals, Pt i vals → ∃ u1 u2, vals = #[u1, u2] ∧ RelV (x i) u1 ∧ RelV (y i) u2)
    (ho : ∀ i h, St i h → ∀ b ∈ fp, ∃ o, h.get? b = some o ∧ ∀ v, o.data ≠ .cell v) (hs : ∀ (A : Around) (i : Nat) (s : Shared) (Q : Value → Shared → Prop) (E : Value → Shared → Prop), St i s.heap → Q (.ref e) s → wpAny (model P w) A (pyIter (.ref e)) Q E s)
    (hfr : ∀ i h h', St i h → (∀ b ∈ fp, ∀ o, h.get? b = some o → h'.get? b = some o) → St i h') : L2.Turn P w K (.Tuple elts kk tpos) (Itp n x y) fp e St where
  mem := he
  obj := ho
  keep := hfr
  item := by
    intro X hP1 hw1 hK1 hc i pins s σ H E I hf st hg
    subst hP1 hw1 hK1
    have W := hw X.A (I.ok.hd hc)
    refine W.item i s _ _ hg st fun T vals h' tk hPt hsz hT hM hk => ?_
    refine ⟨.ref T, rfl, W.go elts kk tpos i T { s with heap := h', toks := tk } _ _ hM fun h'' st'' hk'' => ?_⟩
    obtain ⟨u1, u2, rfl, ru1, ru2⟩ := hP i vals hPt
    have hT2 : h''.IsTuple T #[u1, u2] := hT.at fun o q => hk'' T o (W.apart i T h' hM) q
    have new : ObjOk X.prog X.w (upd H T (.tup [x i, y i])) h'' T (.tup [x i, y i]) :=
      ⟨by show 2 ≤ sizeLine; decide, [u1, u2], .cons ru1 (.cons ru2 .nil), hT2⟩
    have I1 : Inv X pins σ (upd H T (.tup [x i, y i])) { s with heap := h'', toks := tk } :=
      I.turnedNew (ch := fp) (fun b ob hb q => hk'' b ob (fun z => hb (W.sub b z)) (hk b ob (fun z => hb (W.sub b z)) q)) hf hsz new
    refine ⟨.ref T, _, I1, rfl, ⟨T, rfl, I.hok.fresh hsz, rfl⟩, st'', fun b hb => ?_⟩
    have hbT : b ≠ T := by
      intro z
      obtain ⟨o, hbo, _⟩ := ho i s.heap st b hb
      exact absurd (Nat.lt_of_lt_of_le (Heap.lt_size hbo) (by rw [z]; exact hsz)) (Nat.lt_irrefl _)
    rw [upd_ne hbT]
    exact (hf b hb).1
  done := by
    intro X hP1 hw1 hK1 hc i pins s σ H E I hf st hg
    subst hP1 hw1 hK1
    have W := hw X.A (I.ok.hd hc)
    obtain rfl : i = n := hg
    exact W.done s _ _ st fun h' tk hk => ⟨rfl, I.turnedL (ch := fp) (fun b ob hb q => hk b ob (fun z => hb (W.sub b z)) q) hf⟩
  self := hs
def sgn (x : Str) (i : Nat) : V := .str ⟨#[x.cps.getD i 0]⟩
def iEnumS (ta : TA) : TI := fun σ H R => ta σ H fun vs H1 => ∃ x : Str, vs = [.str x] ∧ R (Itp x.cps.size (fun i => .int ((i : Nat) : Int)) (sgn x)) H1
theorem pi_enumS {X : Cx} {e : Expr} {ta : TA} {p pos tpos : Pos} {elts : List Expr} {kk : Nat} (hg : Gl X "enumerate") (hm : X.mg "enumerate" = none) (ha : PA X [e] ta) (hs : starEach [e] X.env = [(false, eval e X.env)]) :
    PI X (.Tuple elts kk tpos) (.Call (.Name "enumerate" p) [e] [] pos) (iEnumS ta) := by
  refine ⟨fun pins s σ H R I h => ?_⟩
  refine Call_ (ld_blt I hg hm boot_enumerate (PyProof.Rows.callWith_type1 (thn (ha.run pos pins s σ H _ I h) fun us s1 ⟨vs, H1, I1, r1, q1⟩ => ?_) hs rfl))
  obtain ⟨x, ex, q⟩ := q1
  subst ex
  cases r1 with
  | cons r rr =>
    cases rr
    obtain ⟨t, rfl⟩ := r
    refine call_enumerate_str fun h' he hit hsz hk => wpAny_pyIter_enum he ?_
    have I2 : Inv X pins σ H1 { s1 with heap := h' } := I1.kept (t' := s1.toks) hk
    have hne : s1.heap.objs.size + 1 ≠ s1.heap.objs.size := Nat.succ_ne_self _
    have T := turn_pair (P := X.prog) (w := X.w) (K := X.K) (elts := elts) (kk := kk) (tpos := tpos) (e := s1.heap.objs.size + 1) (fp := [s1.heap.objs.size + 1, s1.heap.objs.size]) (n := x.cps.size) (x := fun i => .int ((i : Nat) : Int)) (y := sgn x)
      (fun A hA => WalksT.enumFrom 0 (Draws.text (prog := X.prog) (w := X.w) (A := A.in1) hA s1.heap.objs.size x t) (s1.heap.objs.size + 1) hne (by simpa using hne) (by simp)) (by simp)
      (fun i vals ⟨tk, z, ⟨c, u, hc, hz⟩, hv⟩ => ⟨_, _, hv, ⟨tk, by rw [Int.zero_add]⟩, ⟨u, by rw [hz]; show Value.str ⟨#[c]⟩ u = Value.str ⟨#[x.cps.getD i 0]⟩ u; rw [Array.getD_eq_getD_getElem?, hc]; rfl⟩⟩)
      (fun i h st b hb => by
        obtain ⟨⟨old, h1⟩, ⟨o, ho, hc, hd⟩⟩ := st
        have e' : b = s1.heap.objs.size + 1 ∨ b = s1.heap.objs.size := by simpa using hb
        rcases e' with z | z
        · rw [z]; exact ⟨_, h1, fun v q => nomatch q⟩
        · rw [z]; exact ⟨o, ho, fun v q => by rw [hd] at q; cases q⟩)
      (fun A i s Q E st q => by
        obtain ⟨⟨old, h1⟩, _⟩ := st
        exact wpAny_pyIter_enum h1 q)
      (fun i h h' st k => (WalksT.enumFrom 0 (Draws.text (prog := X.prog) (w := X.w) (A := ({ X.A with handled := none } : Around).in1) rfl s1.heap.objs.size x t) (s1.heap.objs.size + 1) hne (by simpa using hne) (by simp)).frame i h h' st k)
    refine ⟨s1.heap.objs.size + 1, [s1.heap.objs.size + 1, s1.heap.objs.size], _, _, H1, rfl, I2, T, ⟨⟨.none, by simpa using he⟩, hit⟩, fun b hb => ?_, q⟩
    have e' : b = s1.heap.objs.size + 1 ∨ b = s1.heap.objs.size := by simpa using hb
    have hle : s1.heap.objs.size ≤ b := by
      rcases e' with z | z
      · rw [z]; exact Nat.le_add_right _ _
      · rw [z]; exact Nat.le_refl _
    exact I1.fpOk hle (I1.hok.fresh hle)
section
variable {X : Cx} {W : WX} {a b c tg : Expr} {pos : Pos} {ma mb mc : Tau → Sto → R D}
theorem i_list (ha : PE X a (tE X.K W ma)) : PI X tg a (tI X.K W fun τ S => (ma τ S).bind fun x S1 => match getL S1 x with
    | some xs => .ok ⟨xs, lown x, xs⟩ S1
    | none => .stuck) := (pi_list ha).imp fun σ H Q ⟨w, τ, S, hH, hr, hs, h⟩ => by
  subst hH
  refine tE.step (p := fun w => okI X.K w Q) hr hs h okI.up fun x S1 v w1 l1 r1 i1 h1 => ?_
  cases q : getL S1 x with
  | none => rw [q] at h1; exact h1.elim
  | some xs =>
    rw [q] at h1
    have h1' : okI X.K w1 Q ⟨xs, lown x, xs⟩ S1 := h1
    have o1 : okS ⟨xs, lown x, xs⟩ S1 := by
      cases x with
      | loc n =>
        have q' : (match S1[n]? with
          | some (L.lst xs) => some xs
          | _ => none) = some xs := q
        show S1[n]? = some (L.lst xs)
        cases z : S1[n]? with
        | none => rw [z] at q'; cases q'
        | some o =>
          rw [z] at q'
          cases o with
          | dead => cases q'
          | dct _ _ => cases q'
          | ins _ _ _ _ => cases q'
          | lst ys => cases q'; rfl
      | _ => exact True.intro
    obtain ⟨p, rfl, hp⟩ := held_ok i1 q
    obtain ⟨vs, e2, _⟩ := hp xs w1 S1 (.refl _) r1 o1
    exact ⟨p, rfl, ⟨vs, e2⟩, h1' o1 (Itl X.K p) w1 (.refl _) r1 (wk_list (hp xs))⟩

theorem okS_none {its held : List D} {S : Sto} : okS ⟨its, none, held⟩ S := True.intro
theorem i_tup (ha : PE X a (tE X.K W ma)) : PI X tg a (tI X.K W fun τ S => (ma τ S).bind fun x S1 => match x with
    | .tup xs => .ok ⟨xs, none, []⟩ S1
    | _ => .stuck) := (pi_tup ha).imp fun σ H Q ⟨w, τ, S, hH, hr, hs, h⟩ => by
  subst hH
  refine tE.step (p := fun w => okI X.K w Q) hr hs h okI.up fun x S1 v w1 l1 r1 i1 h1 => ?_
  cases x with
  | tup xs =>
    have h1' : okI X.K w1 Q ⟨xs, none, []⟩ S1 := h1
    obtain ⟨p, vs, rfl, h2, h3⟩ := i1
    refine ⟨p, rfl, ⟨vs, Evl.ex_t r1.ex (tupAt_sq h2)⟩, h1' okS_none (Itt X.K p) w1 (.refl _) r1 (wk_tup fun w2 S2 l r o => ?_)⟩
    have h2' : SqT X.K w2.F p vs := Evl.ex_t l.ex (tupAt_sq h2)
    exact ⟨vs, Evl.ex_t r.ex h2', h3.le l⟩
  | _ => exact h1.elim
theorem i_str (ha : PE X a (tE X.K W ma)) : PI X tg a (tI X.K W fun τ S => (ma τ S).bind fun x S1 => match x with
    | .str z => .ok ⟨z.cps.toList.map fun c => .str ⟨#[c]⟩, none, []⟩ S1
    | _ => .stuck) := (pi_str ha).imp fun σ H Q ⟨w, τ, S, hH, hr, hs, h⟩ => by
  subst hH
  refine tE.step (p := fun w => okI X.K w Q) hr hs h okI.up fun x S1 v w1 l1 r1 i1 h1 => ?_
  cases x with
  | str z =>
    cases i1
    have h1' : okI X.K w1 Q ⟨z.cps.toList.map fun c => .str ⟨#[c]⟩, none, []⟩ S1 := h1
    refine ⟨z, rfl, h1' okS_none (Its z) w1 (.refl _) r1 (wk_fn (n := z.cps.size) (f := sgn z) ?_ (by simp) fun i hi => ⟨.str ⟨#[z.cps.getD i 0]⟩, ?_, fun w2 => rfl⟩)⟩
    · exact walk_str.mono (fun _ h => h) fun i H x H' hi g y => ⟨y.1, by
        obtain ⟨c, e1, e2⟩ := y.2
        rw [e2]
        unfold sgn
        rw [Array.getD_eq_getD_getElem?, e1]
        rfl⟩
    · rw [List.getElem?_map, Array.getElem?_toList, Array.getD_eq_getD_getElem?, Array.getElem?_eq_getElem hi]
      rfl
  | _ => exact h1.elim
theorem i_rng1 {p : Pos} (hn : noStar a = true) (hg : Gl X "range") (hm : X.mg "range" = none) (ha : PE X a (tE X.K W ma)) : PI X tg (.Call (.Name "range" p) [a] [] pos) (tI X.K W fun τ S => (ma τ S).bind fun x S1 => match x with
    | .int j => if -(2 ^ 62) ≤ j ∧ j < 2 ^ 62 then .ok ⟨(List.range j.toNat).map fun (i : Nat) => .int (i : Int), none, []⟩ S1 else .stuck
    | _ => .stuck) := (pi_range1 hg hm (pa_cons ha pa_nil (star_of hn _ _)) (star_of hn _ _)).imp fun σ H Q ⟨w, τ, S, hH, hr, hs, h⟩ => by
  subst hH
  refine tE.step (p := fun w => okI X.K w Q) hr hs h okI.up fun x S1 v w1 l1 r1 i1 h1 => ?_
  cases x with
  | int j =>
    cases i1
    dsimp only at h1
    split at h1
    · rename_i hj
      have h1' : okI X.K w1 Q ⟨(List.range j.toNat).map fun (i : Nat) => .int (i : Int), none, []⟩ S1 := h1
      refine ⟨j, rfl, hj.1, hj.2, h1' okS_none (Itr 0 j.toNat) w1 (.refl _) r1 (wk_fn (n := j.toNat) (f := fun i => .int (0 + (i : Int))) walk_range (by simp) fun i hi => ⟨.int (i : Int), ?_, fun w2 => ?_⟩)⟩
      · rw [List.getElem?_map, List.getElem?_range hi]; rfl
      · show V.int (0 + (i : Int)) = V.int (i : Int); rw [Int.zero_add]
    · exact h1.elim
  | _ => exact h1.elim
theorem i_rng2 {p : Pos} (hn : noStar a = true) (hn2 : noStar b = true) (hg : Gl X "range") (hm : X.mg "range" = none) (ha : PE X a (tE X.K W ma)) (hb : PE X b (tE X.K W mb)) :
    PI X tg (.Call (.Name "range" p) [a, b] [] pos) (tI X.K W fun τ S => (ma τ S).bind fun x S1 => (mb τ S1).bind fun y S2 => match x, y with
    | .int i, .int j => if -(2 ^ 62) ≤ i ∧ i < 2 ^ 62 ∧ -(2 ^ 62) ≤ j ∧ j < 2 ^ 62 then .ok ⟨(List.range (j - i).toNat).map fun (k : Nat) => .int (i + (k : Int)), none, []⟩ S2 else .stuck
    | _, _ => .stuck) := (pi_range2 hg hm (pa_cons ha (pa_cons hb pa_nil (star_of hn2 _ _)) (star_of hn _ _)) (by rw [star_of hn, star_of hn2]; rfl) (star_of hn2 _ _)).imp fun σ H Q ⟨w, τ, S, hH, hr, hs, h⟩ => by
  subst hH
  refine tE.step (p := fun w => okI X.K w Q) hr hs h okI.up fun x S1 v w1 l1 r1 i1 h1 => ?_
  refine tE.step (p := fun w => okI X.K w Q) r1 (hs.mono l1) h1 okI.up fun y S2 u w2 l2 r2 i2 h2 => ?_
  cases x with
  | int i =>
    cases y with
    | int j =>
      cases i1; cases i2
      dsimp only at h2
      split at h2
      · rename_i hj
        have h2' : okI X.K w2 Q ⟨(List.range (j - i).toNat).map fun (k : Nat) => .int (i + (k : Int)), none, []⟩ S2 := h2
        refine ⟨i, j, rfl, hj, h2' okS_none (Itr i (j - i).toNat) w2 (.refl _) r2 (wk_fn (n := (j - i).toNat) (f := fun k => .int (i + (k : Int))) walk_range (by simp) fun k hk => ⟨.int (i + (k : Int)), ?_, fun w2 => rfl⟩)⟩
        rw [List.getElem?_map, List.getElem?_range hk]; rfl
      · exact h2.elim
    | _ => exact h2.elim
  | _ => exact h2.elim
theorem own_okS {S1 : Sto} {x : D} {xs its : List D} (q : getL S1 x = some xs) : okS ⟨its, lown x, xs⟩ S1 := by
  cases x with
  | loc n =>
    have q' : (match S1[n]? with
      | some (L.lst xs) => some xs
      | _ => none) = some xs := q
    show S1[n]? = some (L.lst xs)
    cases z : S1[n]? with
    | none => rw [z] at q'; cases q'
    | some o =>
      rw [z] at q'
      cases o with
      | dead => cases q'
      | dct _ _ => cases q'
      | ins _ _ _ _ => cases q'
      | lst ys => cases q'; rfl
  | _ => exact True.intro
theorem i_enumL {p tpos : Pos} {elts : List Expr} {kk : Nat} (hn : noStar a = true) (hg : Gl X "enumerate") (hm : X.mg "enumerate" = none) (ha : PE X a (tE X.K W ma)) :
    PI X (.Tuple elts kk tpos) (.Call (.Name "enumerate" p) [a] [] pos) (tI X.K W fun τ S => (ma τ S).bind fun x S1 => match getL S1 x with
    | some xs => .ok ⟨enumD 0 xs, lown x, xs⟩ S1
    | none => .stuck) := (pi_enum hg hm (pa_cons ha pa_nil (star_of hn _ _)) (star_of hn _ _)).imp fun σ H Q ⟨w, τ, S, hH, hr, hs, h⟩ => by
  subst hH
  refine tE.step (p := fun w => okI X.K w Q) hr hs h okI.up fun x S1 v w1 l1 r1 i1 h1 => ?_
  cases q : getL S1 x with
  | none => rw [q] at h1; exact h1.elim
  | some xs =>
    rw [q] at h1
    have h1' : okI X.K w1 Q ⟨enumD 0 xs, lown x, xs⟩ S1 := h1
    obtain ⟨p, rfl, hp⟩ := held_ok i1 q
    obtain ⟨vs, e2, _⟩ := hp (enumD 0 xs) w1 S1 (.refl _) r1 (own_okS q)
    exact ⟨p, vs, rfl, e2, h1' (own_okS q) (Ite X.K p) w1 (.refl _) r1 (wk_enum (hp (enumD 0 xs)))⟩
theorem i_enumS {p tpos : Pos} {elts : List Expr} {kk : Nat} (hn : noStar a = true) (hg : Gl X "enumerate") (hm : X.mg "enumerate" = none) (ha : PE X a (tE X.K W ma)) :
    PI X (.Tuple elts kk tpos) (.Call (.Name "enumerate" p) [a] [] pos) (tI X.K W fun τ S => (ma τ S).bind fun x S1 => match x with
    | .str z => .ok ⟨enumD 0 (z.cps.toList.map fun c => .str ⟨#[c]⟩), none, []⟩ S1
    | _ => .stuck) := (pi_enumS hg hm (pa_cons ha pa_nil (star_of hn _ _)) (star_of hn _ _)).imp fun σ H Q ⟨w, τ, S, hH, hr, hs, h⟩ => by
  subst hH
  refine tE.step (p := fun w => okI X.K w Q) hr hs h okI.up fun x S1 v w1 l1 r1 i1 h1 => ?_
  cases x with
  | str z =>
    cases i1
    have h1' : okI X.K w1 Q ⟨enumD 0 (z.cps.toList.map fun c => .str ⟨#[c]⟩), none, []⟩ S1 := h1
    have hlen : (enumD 0 (z.cps.toList.map fun c => D.str ⟨#[c]⟩)).length = z.cps.size := by rw [enumD_len]; simp
    refine ⟨z, rfl, h1' okS_none _ w1 (.refl _) r1 ⟨fun _ => True, fun i H v H' => i < z.cps.size ∧ ∃ T, v = .ref T ∧ H T = none ∧ H' = upd H T (.tup [.int ((i : Nat) : Int), sgn z i]), ⟨fun i H hi _ => by rw [hlen] at hi; exact hi, fun H _ => hlen, fun i H x H' hi _ y => ⟨by rw [hlen] at hi; exact hi, y⟩⟩, fun w2 S2 l r o => ⟨True.intro, fun i x H' y => ?_⟩⟩⟩
    obtain ⟨hi, T, rfl, nT, rfl⟩ := y
    obtain ⟨w3, l3, e3, r3, i3⟩ := new_pair r nT (d := .int (i : Nat)) (e := .str ⟨#[z.cps.getD i 0]⟩) (x := .int (i : Nat)) (y := sgn z i) rfl rfl
    have g := enumD_get 0 (z.cps.toList.map fun c => D.str ⟨#[c]⟩) i (.str ⟨#[z.cps.getD i 0]⟩) (by
      rw [List.getElem?_map, Array.getElem?_toList, Array.getD_eq_getD_getElem?, Array.getElem?_eq_getElem hi]
      rfl)
    rw [Nat.zero_add] at g
    exact ⟨w3, _, l3, e3, r3, g, i3⟩
  | _ => exact h1.elim
end
end Pi
end
section
set_option Elab.async false
set_option linter.all false
set_option maxRecDepth 100000
set_option maxHeartbeats 4000000
/-! Pi, part G: comprehensions. -/
namespace Pi
open PySem PySem.Spec PyProof.Rows L2
abbrev WF : WX := fun _ _ _ _ => False
/-! ### targets -/
def gTg (K : Fg) : Tg → TG
  | .nm i => gName i
  | .two i j => gTup K 2 (gCons (gName i) (gCons (gName j) gNil))
def stT : Tg → V → V → V → L2.St → L2.St
  | .nm i, v, _, _, σ => σ.set i (some v)
  | .two i j, _, a, b, σ => (σ.set i (some a)).set j (some b)
theorem gTg_ok {K : Fg} {w : Wd} {S : Sto} {tg : Tg} {d : D} {x : V} {σ : L2.St} {τ τ' : Tau} {Q : L2.St → Hp → Prop} (hr : Rel K w S) (hs : Sig K w σ τ) (hd : Is K w.A w.F d x) (e : setT tg d τ = some τ')
    (k : ∀ a b, Sig K w (stT tg x a b σ) τ' → Q (stT tg x a b σ) w.H) : gTg K tg x σ w.H Q := by
  cases tg with
  | nm i =>
    cases e
    exact k .non .non (hs.set hd)
  | two i j =>
    cases d with
    | tup xs =>
      cases xs with
      | nil => cases e
      | cons d1 r =>
        cases r with
        | nil => cases e
        | cons d2 r2 =>
          cases r2 with
          | cons _ _ => cases e
          | nil =>
            cases e
            obtain ⟨p, vs, rfl, h2, h3⟩ := rdT hr hd
            obtain ⟨v1, r1, rfl, i1, v2, r2, rfl, i2, rfl⟩ := h3
            exact ⟨p, [v1, v2], rfl, h2, rfl, v1, [v2], rfl, v2, [], rfl, rfl, k v1 v2 ((hs.set i1).set i2)⟩
    | _ => cases e
def slotsT : Tg → List Nat
  | .nm i => [i]
  | .two i j => [i, j]
theorem wipe_get (σ : L2.St) : ∀ (vs : List Nat) (k : Nat), (L2.wipe σ vs)[k]? = if k ∈ vs then (σ[k]?).map fun _ => none else σ[k]?
  | [], k => by simp [L2.wipe]
  | v :: vs, k => by
    unfold L2.wipe
    by_cases hk : v = k
    · subst hk
      rw [if_pos (List.mem_cons_self)]
      by_cases hl : v < σ.length
      · rw [List.getElem?_set_self (by rw [wipe_length]; exact hl), List.getElem?_eq_getElem hl]
        rfl
      · rw [List.getElem?_eq_none (by rw [List.length_set, wipe_length]; omega), List.getElem?_eq_none (by omega)]
        rfl
    · rw [List.getElem?_set_ne hk, wipe_get σ vs k]
      by_cases hm : k ∈ vs
      · rw [if_pos hm, if_pos (List.mem_cons_of_mem _ hm)]
      · rw [if_neg hm, if_neg (by simp [hm]; exact fun z => hk z.symm)]
theorem wipe_set {σ : L2.St} {vs : List Nat} {i : Nat} {x : Option V} (hi : i ∈ vs) : L2.wipe (σ.set i x) vs = L2.wipe σ vs := by
  apply List.ext_getElem?
  intro k
  rw [wipe_get, wipe_get]
  by_cases hk : k ∈ vs
  · rw [if_pos hk, if_pos hk]
    by_cases e : i = k
    · subst e
      by_cases hl : i < σ.length
      · rw [List.getElem?_set_self hl, List.getElem?_eq_getElem hl]; rfl
      · rw [List.getElem?_eq_none (by rw [List.length_set]; omega), List.getElem?_eq_none (by omega)]
    · rw [List.getElem?_set_ne e]
  · rw [if_neg hk, if_neg hk, List.getElem?_set_ne (fun z => by subst z; exact hk hi)]
theorem wipe_wipe {σ : L2.St} {vs : List Nat} : L2.wipe (L2.wipe σ vs) vs = L2.wipe σ vs := by
  apply List.ext_getElem?
  intro k
  rw [wipe_get, wipe_get]
  by_cases hk : k ∈ vs
  · rw [if_pos hk, if_pos hk]
    cases σ[k]? <;> rfl
  · rw [if_neg hk, if_neg hk]
theorem wipe_stT {tg : Tg} {σ : L2.St} {vs : List Nat} {x a b : V} (h : ∀ i ∈ slotsT tg, i ∈ vs) : L2.wipe (stT tg x a b (L2.wipe σ vs)) vs = L2.wipe σ vs := by
  cases tg with
  | nm i => exact (wipe_set (h i (by simp [slotsT]))).trans wipe_wipe
  | two i j => exact ((wipe_set (h j (by simp [slotsT]))).trans (wipe_set (h i (by simp [slotsT])))).trans wipe_wipe
/-! ### objects that belong to neither part -/
theorem Rel.foreign {K : Fg} {w : Wd} {S : Sto} {p : Addr} {o : HO} (hr : Rel K w S) (nF : w.F p = none) (nA : p ∉ w.A) : Rel K ⟨w.F, upd w.H p o, w.A⟩ S where
  ex := fun a u h => by
    have ha : a ≠ p := fun z => by subst z; rw [nF] at h; cases h
    show upd w.H p o a = some u
    rw [upd_ne ha]
    exact hr.ex a u h
  len := hr.len
  nd := hr.nd
  som := fun a ha => by
    obtain ⟨u, hu⟩ := hr.som a ha
    exact ⟨u, by show upd w.H p o a = some u; rw [upd_ne (fun z => by subst z; exact nA ha)]; exact hu⟩
  cel := fun n xs a h1 hc h2 => by
    obtain ⟨h3, vs, h4, h5⟩ := hr.cel n xs a h1 hc h2
    exact ⟨h3, vs, by show upd w.H p o a = _; rw [upd_ne (fun z => by subst z; exact nA (List.mem_of_getElem? h2))]; exact h4, h5⟩
theorem le_foreign {w0 w : Wd} {p : Addr} {o : HO} (l : w0.le w) (n : w0.H p = none) : w0.le ⟨w.F, upd w.H p o, w.A⟩ := ⟨l.ex, l.pre, fun a u h1 h2 h3 => by
  obtain ⟨q1, q2, q3⟩ := l.frm a u h1 h2 h3
  have ha : a ≠ p := fun z => by subst z; rw [n] at h1; cases h1
  exact ⟨by show upd w.H p o a = some u; rw [upd_ne ha]; exact q1, q2, q3⟩, fun a h => by
  by_cases ha : a = p
  · rw [ha]; exact n
  · have h' : upd w.H p o a = none := h
    rw [upd_ne ha] at h'
    exact l.grow a h'⟩
/-! ### the comprehension -/
theorem compL_post {step : D → Sto → R (Option D)} {s : Src} {d : D} {ds : List D} {S : Sto} {p : List D → Sto → Prop} {q : Str → List D → Sto → Prop} (h : Post (compL step s (d :: ds) S) p q) :
    Post (step d S) (fun o S' => okS s S' ∧ Post (compL step s ds S') (fun r S2 => p (match o with
      | some x => x :: r
      | none => r) S2) q) (fun _ _ _ => False) := by
  unfold compL at h
  cases e : step d S with
  | ok o S' =>
    rw [e] at h
    dsimp only at h
    by_cases ho : okS s S'
    · rw [if_pos ho] at h
      exact ⟨ho, h.bind⟩
    · rw [if_neg ho] at h
      exact h.elim
  | exc c fs S' => rw [e] at h; exact h.elim
  | stuck => rw [e] at h; exact h.elim
section
variable {X : Cx} {W : WX} {elt tg iter : Expr} {ifs : List Expr} {pos : Pos} {mi : Tau → Sto → R Src} {mc : Tau → Sto → R Bool} {me : Tau → Sto → R D} {scope : Scope} {own : List (Str × Nat)} {t : Tg}
/-- one turn's value -/
noncomputable def stepC (t : Tg) (own : List (Str × Nat)) (mc : Tau → Sto → R Bool) (me : Tau → Sto → R D) (τ : Tau) : D → Sto → R (Option D) := fun d S => match setT t d (wipeT τ (own.map (·.2))) with
  | some τ' => (mc τ' S).bind fun c S2 => if c then (me τ' S2).bind fun x S3 => .ok (some x) S3 else .ok none S2
  | none => .stuck
theorem stepC_eq {own : List (Str × Nat)} {τ : Tau} {d : D} {S : Sto} : stepC t own mc me τ d S = match setT t d (wipeT τ (own.map (·.2))) with
  | some τ' => (mc τ' S).bind fun c S2 => if c then (me τ' S2).bind fun x S3 => .ok (some x) S3 else .ok none S2
  | none => .stuck := rfl
theorem comp_imp {K : Fg} {σ : L2.St} {H : Hp} {Q : VK} (hsl : ∀ i ∈ slotsT t, i ∈ own.map (·.2)) (h : tF K W (fun τ S => (mi τ S).bind fun s S1 => if s.items.length ≤ SMAX then compL (stepC t own mc me τ) s s.items S1 else .stuck) σ H Q) :
    tLc (tI K W mi) (gTg K t) (tT K WF mc) (tE K WF me) (own.map (·.2)) σ H Q := by
    obtain ⟨w, τ, S, hH, hr, hsg, h⟩ := h
    subst hH
    refine ⟨w, τ, S, rfl, hr, hsg, h.bind.mono (fun s S1 q os J w1 l1 r1 hW => ?_) fun c fs S1 q => q⟩
    by_cases hz : s.items.length ≤ SMAX
    · rw [if_pos hz] at q
      intro Dl hD
      obtain ⟨G, Y, wk, hY⟩ := hW
      refine lc_it wk (fun i H' => ∃ (w2 : Wd) (S2 : Sto) (acc : List D) (vs : List V), w2.H = H' ∧ w1.le w2 ∧ Rel K w2 S2 ∧ okS s S2 ∧ IsA K w2.A w2.F acc vs ∧ w2.F Dl = none ∧ Dl ∉ w2.A ∧ w2.H Dl = some (.lst vs) ∧ acc.length ≤ i ∧
        Post (compL (stepC t own mc me τ) s (s.items.drop i) S2) (fun rest S' => okF K w Q (acc ++ rest) S') (exE K w W σ)) ?_ ?_ ?_ ?_
      · exact ⟨⟨w1.F, upd w1.H Dl (.lst []), w1.A⟩, S1, [], [], rfl, le_grow hD, r1.grow hD, os, rfl, fresh_F r1 hD, fresh_A r1 hD, upd_same, Nat.le_refl _, q⟩
      · rintro i H' hi ⟨w2, S2, acc, vs, rfl, l2, r2, o2, _⟩
        exact (hY w2 S2 l2 r2 o2).1
      · rintro i x H0 H' hi ⟨w2, S2, acc, vs, rfl, l2, r2, o2, ia, nF, nA, hDl, hlen, hp⟩ y
        obtain ⟨w3, d, l3, rfl, r3, e3, i3⟩ := (hY w2 S2 l2 r2 o2).2 i x H' y
        obtain ⟨q3, nF3, nA3⟩ := l3.frm Dl _ hDl nF nA
        have l13 := l2.trans l3
        have hdrop : s.items.drop i = d :: s.items.drop (i + 1) := by
          obtain ⟨hi', e'⟩ := List.getElem?_eq_some_iff.mp e3
          rw [List.drop_eq_getElem_cons hi', e']
        rw [hdrop] at hp
        have hp2 := compL_post hp
        rw [stepC_eq] at hp2
        cases es : setT t d (wipeT τ (own.map (·.2))) with
        | none => rw [es] at hp2; exact hp2.elim
        | some τ' =>
          rw [es] at hp2
          refine gTg_ok r3 ((hsg.mono (l1.trans l13)).wipe _) i3 es fun a b sg => ⟨wipe_stT hsl, ?_⟩
          refine ⟨w3, τ', S2, rfl, r3, sg, hp2.bind.mono (fun c S3 q4 w4 l4 r4 => ?_) fun _ _ _ z => z.elim⟩
          obtain ⟨q5, nF5, nA5⟩ := l4.frm Dl _ q3 nF3 nA3
          cases c with
          | true =>
            refine iteT ⟨w4, τ', S3, rfl, r4, sg.mono l4, (Post.bind (if_pos (rfl : true = true) ▸ q4)).mono (fun x' S4 q6 v w5 l5 r5 i5 => ?_) fun _ _ _ z => z.elim⟩
            obtain ⟨q7, nF7, nA7⟩ := l5.frm Dl _ q5 nF5 nA5
            obtain ⟨o4, q8⟩ := q6
            have hi' := (List.getElem?_eq_some_iff.mp e3).1
            refine ⟨vs, q7, by rw [← ia.len]; exact smax_lt (by omega), ⟨w5.F, upd w5.H Dl (.lst (vs ++ [v])), w5.A⟩, S4, acc ++ [x'], vs ++ [v], rfl, le_foreign ((l13.trans l4).trans l5) hD, r5.foreign nF7 nA7, o4,
              ((ia.le ((l3.trans l4).trans l5)).append ⟨v, [], rfl, i5, rfl⟩), nF7, nA7, upd_same, by simp; omega, ?_⟩
            simpa only [List.append_assoc, List.singleton_append] using q8
          | false =>
            refine iteF ?_
            have q4' : okS s S3 ∧ _ := (if_neg Bool.false_ne_true ▸ q4)
            obtain ⟨o4, q8⟩ := q4'
            exact ⟨w4, S3, acc, vs, rfl, l13.trans l4, r4, o4, ia.le (l3.trans l4), nF5, nA5, q5, by omega, q8⟩
      · rintro H' ⟨w2, S2, acc, vs, rfl, l2, r2, o2, ia, nF, nA, hDl, hlen, hp⟩
        rw [List.drop_length] at hp
        have hp' : okF K w Q (acc ++ []) S2 := hp
        rw [List.append_nil] at hp'
        exact hp' Dl vs w2 (l1.trans l2) r2 ia (l1.grow Dl hD) nF nA hDl
    · rw [if_neg hz] at q
      exact q.elim
theorem f_comp (hc : X.calm = true) (hN : X.N.Nodup) (hi : PI X tg iter (tI X.K W mi)) (ok : BlkOk X.N X.env.scope scope own) (hsl : ∀ i ∈ slotsT t, i ∈ own.map (·.2))
    (hg : ∀ (s : Shared) (H : Hp) (C : Addr) (cl : List (Str × Addr)) (fp : List Addr), PG (X.blk s H scope (compEnvC scope cl C X.env) fp) tg (gTg X.K t))
    (ht : ∀ (s : Shared) (H : Hp) (C : Addr) (cl : List (Str × Addr)) (fp : List Addr), PTs (X.blk s H scope (compEnvC scope cl C X.env) fp) ifs (tT X.K WF mc))
    (he : ∀ (s : Shared) (H : Hp) (C : Addr) (cl : List (Str × Addr)) (fp : List Addr), PE (X.blk s H scope (compEnvC scope cl C X.env) fp) elt (tE X.K WF me)) (hs : ∀ x, foldedSetIterable iter X.env x = pure x) :
    PE X (.ListComp elt [⟨tg, iter, ifs, 0⟩] scope pos) (tF X.K W fun τ S => (mi τ S).bind fun s S1 => if s.items.length ≤ SMAX then compL (stepC t own mc me τ) s s.items S1 else .stuck) :=
  (pe_lc hc hN hi ok hg ht he hs).imp fun σ H Q h => comp_imp hsl h
end
end Pi
end
section
set_option Elab.async false
set_option linter.all false
set_option maxRecDepth 100000
set_option maxHeartbeats 4000000
/-! Pi, part H: statements. -/
namespace Pi
open PySem PySem.Spec PyProof.Rows L2
def fN (K : Fg) (w : Wd) (P : L2.St → Hp → Prop) : Tau → Sto → Prop := fun τ S => ∀ σ' w', w.le w' → Rel K w' S → Sig K w' σ' τ → P σ' w'.H
def fX (K : Fg) (w : Wd) (W : WX) : Str → List D → Tau → Sto → Prop := fun c fs τ S => ∀ σ' cls dx w', w.le w' → Rel K w' S → Sig K w' σ' τ → ExIs K w' cls dx c fs → W cls dx σ' w'.H
def PostS (K : Fg) (W : WX) (w : Wd) (D : Ends) : SR → Prop
  | .nx τ S => fN K w D.nx τ S
  | .ret d S => okE K w D.rt d S
  | .bk τ S => fN K w D.bk τ S
  | .ct τ S => fN K w D.ct τ S
  | .exc c fs τ S => fX K w W c fs τ S
  | .stuck => False
theorem fN.up {K : Fg} {w w' : Wd} {P : L2.St → Hp → Prop} {τ : Tau} {S : Sto} (l : w.le w') (h : fN K w P τ S) : fN K w' P τ S := fun σ w2 l2 => h σ w2 (l.trans l2)
theorem fX.up {K : Fg} {w w' : Wd} {W : WX} {c : Str} {fs : List D} {τ : Tau} {S : Sto} (l : w.le w') (h : fX K w W c fs τ S) : fX K w' W c fs τ S := fun σ c d w2 l2 => h σ c d w2 (l.trans l2)
theorem PostS.up {K : Fg} {w w' : Wd} {W : WX} {D : Ends} {r : SR} (l : w.le w') (h : PostS K W w D r) : PostS K W w' D r := by
  cases r with
  | nx τ S => exact fN.up l h
  | ret d S => exact okE.up l h
  | bk τ S => exact fN.up l h
  | ct τ S => exact fN.up l h
  | exc c fs τ S => exact fX.up l h
  | stuck => exact h
def tC (K : Fg) (W : WX) (m : Tau → Sto → SR) : TS := fun D σ H => ∃ w τ S, w.H = H ∧ Rel K w S ∧ Sig K w σ τ ∧ PostS K W w D (m τ S)
theorem PostS.st {K : Fg} {w : Wd} {W : WX} {D : Ends} {α : Type} {r : R α} {f : α → Sto → SR} {τ : Tau} {σ : L2.St} (hs : Sig K w σ τ) (h : PostS K W w D (r.st τ f)) : Post r (fun a S => PostS K W w D (f a S)) (exE K w W σ) := by
  cases r with
  | ok a S => exact h
  | exc c fs S => exact fun cls dx w' l r' e => h σ cls dx w' l r' (hs.mono l) e
  | stuck => exact h
/-- one step of a statement: an expression ahead, then what follows in the world behind it -/
theorem tE.go {K : Fg} {W : WX} {D : Ends} {m : Tau → Sto → R Pi.D} {f : Pi.D → Sto → SR} {σ : L2.St} {Q : VK} {w : Wd} {τ : Tau} {S : Sto} (hr : Rel K w S) (hs : Sig K w σ τ) (h : PostS K W w D ((m τ S).st τ f))
    (go : ∀ d S1 v w1, w.le w1 → Rel K w1 S1 → Is K w1.A w1.F d v → PostS K W w1 D (f d S1) → Q v w1.H) : tE K W m σ w.H Q :=
  ⟨w, τ, S, rfl, hr, hs, (PostS.st hs h).mono (fun d S1 q v w1 l r1 i => go d S1 v w1 l r1 i (q.up l)) fun c fs S1 q => q⟩
theorem tT.go {K : Fg} {W : WX} {D : Ends} {m : Tau → Sto → R Bool} {f : Bool → Sto → SR} {σ : L2.St} {Q : Bool → Hp → Prop} {w : Wd} {τ : Tau} {S : Sto} (hr : Rel K w S) (hs : Sig K w σ τ) (h : PostS K W w D ((m τ S).st τ f))
    (go : ∀ d S1 w1, w.le w1 → Rel K w1 S1 → PostS K W w1 D (f d S1) → Q d w1.H) : tT K W m σ w.H Q :=
  ⟨w, τ, S, rfl, hr, hs, (PostS.st hs h).mono (fun d S1 q w1 l r1 => go d S1 w1 l r1 (q.up l)) fun c fs S1 q => q⟩
theorem tAs.go {K : Fg} {W : WX} {D : Ends} {m : Tau → Sto → R (List Pi.D)} {f : List Pi.D → Sto → SR} {σ : L2.St} {Q : List V → Hp → Prop} {w : Wd} {τ : Tau} {S : Sto} (hr : Rel K w S) (hs : Sig K w σ τ) (h : PostS K W w D ((m τ S).st τ f))
    (go : ∀ d S1 v w1, w.le w1 → Rel K w1 S1 → IsA K w1.A w1.F d v → PostS K W w1 D (f d S1) → Q v w1.H) : tAs K W m σ w.H Q :=
  ⟨w, τ, S, rfl, hr, hs, (PostS.st hs h).mono (fun d S1 q v w1 l r1 i => go d S1 v w1 l r1 i (q.up l)) fun c fs S1 q => q⟩

section
variable {X : Cx} {W : WX} {a b c e tg iter : Expr} {pos p1 : Pos} {ma mb mc : Tau → Sto → R D} {mt : Tau → Sto → R Bool} {st : Stmt} {rest : List Stmt} {sa sb : Tau → Sto → SR} {body orelse : List Stmt}
theorem c_pass : PS X (.Pass pos) (tC X.K W fun τ S => .nx τ S) := ps_pass.imp fun D σ H ⟨w, τ, S, hH, hr, hs, h⟩ => by
  subst hH
  exact h σ w (.refl _) hr hs
theorem c_brk : PS X (.Break pos) (tC X.K W fun τ S => .bk τ S) := ps_break.imp fun D σ H ⟨w, τ, S, hH, hr, hs, h⟩ => by
  subst hH
  exact h σ w (.refl _) hr hs
theorem c_cnt : PS X (.Continue pos) (tC X.K W fun τ S => .ct τ S) := ps_continue.imp fun D σ H ⟨w, τ, S, hH, hr, hs, h⟩ => by
  subst hH
  exact h σ w (.refl _) hr hs
theorem c_nil : PSs X [] (tC X.K W fun τ S => .nx τ S) := pss_nil.imp fun D σ H ⟨w, τ, S, hH, hr, hs, h⟩ => by
  subst hH
  exact h σ w (.refl _) hr hs
theorem c_cons (ha : PS X st (tC X.K W sa)) (hb : PSs X rest (tC X.K W sb)) : PSs X (st :: rest) (tC X.K W fun τ S => (sa τ S).then fun τ' S' => sb τ' S') := (pss_cons ha hb).imp fun D σ H ⟨w, τ, S, hH, hr, hs, h⟩ => by
  subst hH
  refine ⟨w, τ, S, rfl, hr, hs, ?_⟩
  dsimp only at h
  cases q : sa τ S with
  | nx τ' S' =>
    rw [q] at h
    intro σ' w' l r' s'
    exact ⟨w', τ', S', rfl, r', s', PostS.up l h⟩
  | ret d S' => rw [q] at h; exact h
  | bk τ' S' => rw [q] at h; exact h
  | ct τ' S' => rw [q] at h; exact h
  | exc c fs τ' S' => rw [q] at h; exact h
  | stuck => rw [q] at h; exact h
theorem c_ret (ha : PE X a (tE X.K W ma)) : PS X (.Return (some a) pos) (tC X.K W fun τ S => (ma τ S).st τ fun x S1 => .ret x S1) := (ps_ret ha).imp fun D σ H ⟨w, τ, S, hH, hr, hs, h⟩ => by
  subst hH
  exact tE.go hr hs h fun d S1 v w1 l1 r1 i1 h1 => h1 v w1 (.refl _) r1 i1
theorem c_retN : PS X (.Return none pos) (tC X.K W fun _ S => .ret .non S) := ps_retN.imp fun D σ H ⟨w, τ, S, hH, hr, hs, h⟩ => by
  subst hH
  exact h _ w (.refl _) hr rfl
theorem c_ite (hc : PT X c (tT X.K W mt)) (ha : PSs X body (tC X.K W sa)) (hb : PSs X orelse (tC X.K W sb)) : PS X (.If c body orelse pos) (tC X.K W fun τ S => (mt τ S).st τ fun c S1 => if c then sa τ S1 else sb τ S1) :=
    (ps_if hc ha hb).imp fun D σ H ⟨w, τ, S, hH, hr, hs, h⟩ => by
  subst hH
  refine tT.go hr hs h fun c S1 w1 l1 r1 h1 => ?_
  cases c with
  | true => exact iteT ⟨w1, τ, S1, rfl, r1, hs.mono l1, h1⟩
  | false => exact iteF ⟨w1, τ, S1, rfl, r1, hs.mono l1, h1⟩
/-! ### comprehensions told apart -/
def noComp : Expr → Bool
  | .ListComp _ _ _ _ => false
  | .SetComp _ _ _ _ => false
  | .DictComp _ _ _ _ _ => false
  | _ => true
theorem swaps_of {e : Expr} (h : noComp e = true) (t : Option Expr) (l : Nat) (env : Env) : swapsWith e t l env = pure false := by
  cases e with
  | ListComp _ _ _ _ => cases h
  | SetComp _ _ _ _ => cases h
  | DictComp _ _ _ _ _ => cases h
  | _ => rfl
theorem c_exp (hc : noComp a = true) (ha : PE X a (tE X.K W ma)) : PS X (.Expr a pos) (tC X.K W fun τ S => (ma τ S).st τ fun _ S1 => .nx τ S1) := (ps_expr ha (swaps_of hc _ _ _)).imp fun D σ H ⟨w, τ, S, hH, hr, hs, h⟩ => by
  subst hH
  exact tE.go hr hs h fun d S1 v w1 l1 r1 i1 h1 => h1 σ w1 (.refl _) r1 (hs.mono l1)
/-- a docstring -/
theorem c_doc {x : Str} {j : Nat} : PS X (.Expr (.Constant (.str x) j p1) pos) (tC X.K W fun τ S => .nx τ S) := ps_doc.imp fun D σ H ⟨w, τ, S, hH, hr, hs, h⟩ => by
  subst hH
  exact h σ w (.refl _) hr hs
theorem le_put {K : Fg} {w : Wd} {S : Sto} {a : Addr} {o : HO} {n : Nat} {xs : List D} (hr : Rel K w S) (hA : w.A[n]? = some a) (hS : S[n]? = some (L.lst xs)) : w.le ⟨w.F, upd w.H a o, w.A⟩ := ⟨Evl.Ex.refl _, List.prefix_refl _, fun b u h1 h2 h3 => ⟨by
  show upd w.H a o b = some u
  rw [upd_ne (fun z => by subst z; exact h3 (List.mem_of_getElem? hA))]
  exact h1, h2, h3⟩, fun b h => by
  by_cases hb : b = a
  · subst hb
    have h' : upd w.H b o b = none := h
    rw [upd_same] at h'
    cases h'
  · have h' : upd w.H a o b = none := h
    rw [upd_ne hb] at h'
    exact h'⟩

theorem own_some {S : Sto} {x : D} {q : Nat × List D} (e : own S x = some q) : x = .loc q.1 ∧ S[q.1]? = some (L.lst q.2) := by
  cases x with
  | loc n =>
    have e' : (match S[n]? with
      | some (L.lst xs) => some (n, xs)
      | _ => none) = some q := e
    cases z : S[n]? with
    | none => rw [z] at e'; cases e'
    | some o =>
      rw [z] at e'
      cases o with
      | dead => cases e'
      | dct _ _ => cases e'
      | ins _ _ _ _ => cases e'
      | lst ys => cases e'; exact ⟨rfl, z⟩
  | _ => cases e
/-- a list of the store, as the heap has it -/
theorem own_rd {K : Fg} {w : Wd} {S : Sto} (hr : Rel K w S) {x : D} {v : V} {q : Nat × List D} (h : Is K w.A w.F x v) (e : own S x = some q) :
    ∃ a vs, v = .ref a ∧ w.A[q.1]? = some a ∧ w.H a = some (.lst vs) ∧ IsA K w.A w.F q.2 vs := by
  obtain ⟨rfl, hS⟩ := own_some e
  obtain ⟨a, hA, rfl⟩ := h
  obtain ⟨_, vs, h1, h2⟩ := hr.liv q.1 q.2 a hS hA
  exact ⟨a, vs, rfl, hA, h1, h2⟩
theorem put_ok {K : Fg} {w : Wd} {S : Sto} (hr : Rel K w S) {x : D} {a : Addr} {q : Nat × List D} {ys : List D} {us : List V} (e : own S x = some q) (hA : w.A[q.1]? = some a) (hy : IsA K w.A w.F ys us) :
    Rel K ⟨w.F, upd w.H a (.lst us), w.A⟩ (S.set q.1 (.lst ys)) ∧ w.le ⟨w.F, upd w.H a (.lst us), w.A⟩ :=
  ⟨hr.put (own_some e).2 hA hy, le_put hr hA (own_some e).2⟩
theorem c_app {apos cpos : Pos} (hn : noStar e = true) (hs0 : noSuper a = true) (hl : (apos.endLine == cpos.line) = true) (ha : PE X a (tE X.K W ma)) (he : PE X e (tE X.K W mb)) :
    PS X (.Expr (.Call (.Attribute a "append" apos) [e] [] cpos) pos) (tC X.K W fun τ S => (ma τ S).st τ fun x S1 => match own S1 x with
      | some _ => (mb τ S1).st τ fun y S2 => (match own S2 x with
        | some q => if q.2.length < SMAX then .nx τ (S2.set q.1 (.lst (q.2 ++ [y]))) else .stuck
        | none => .stuck)
      | none => .stuck) :=
  (ps_expr (pe_bm PySem.F.plainAttrs_list PySem.F.slot_list_append PySem.F.type_list_append (show MtR X "list.append" rAppend from mt_append) ha (pa_cons he pa_nil (star_of hn _ _)) (base_of hs0 _ _ _) (few_of (by simp [hn]) (by simp)) hl (star_of hn _ _) rfl) (swaps_of rfl _ _ _)).imp fun D σ H ⟨w, τ, S, hH, hr, hs, h⟩ => by
    subst hH
    refine tE.go hr hs h fun x S1 v w1 l1 r1 i1 h1 => ?_
    cases e1 : own S1 x with
    | none => rw [e1] at h1; exact h1.elim
    | some q1 =>
      rw [e1] at h1
      obtain ⟨p, vs, rfl, hA, hp, hv⟩ := own_rd r1 i1 e1
      refine ⟨Or.inl ⟨rfl, _, lstAt_sq hp⟩, ?_⟩
      show tE X.K W mb σ w1.H _
      refine tE.go r1 (hs.mono l1) h1 fun y S2 u w2 l2 r2 i2 h2 => ?_
      cases e2 : own S2 x with
      | none => rw [e2] at h2; exact h2.elim
      | some q2 =>
        rw [e2] at h2
        dsimp only at h2
        by_cases hz : q2.2.length < SMAX
        · rw [if_pos hz] at h2
          obtain ⟨p2, us, e3, hA2, hp2, hv2⟩ := own_rd r2 (i1.le l2) e2
          cases e3
          obtain ⟨r3, l3⟩ := put_ok r2 e2 hA2 (hv2.append (show IsA X.K w2.A w2.F [y] [u] from ⟨u, [], rfl, i2, rfl⟩))
          exact ⟨p, us, u, rfl, rfl, hp2, by rw [← hv2.len]; exact smax_lt hz, h2 σ _ l3 r3 (((hs.mono l1).mono l2).mono l3)⟩
        · rw [if_neg hz] at h2; exact h2.elim
theorem c_set {i : Nat} {x : Str} {ppos : Pos} (hN : X.N.Nodup) (hi : X.N[i]? = some x) (hx : Loc X.env.scope x) (hf : X.fn x = true) (hc : swapsWith e (some (.Name x ppos)) pos.line X.env = pure false) (he : PE X e (tE X.K W ma)) :
    PS X (.Assign [.Name x ppos] e pos) (tC X.K W fun τ S => (ma τ S).st τ fun y S1 => .nx (τ.set i (some y)) S1) := (ps_set hN hi hx he hc (.inl hf)).imp fun D σ H ⟨w, τ, S, hH, hr, hs, h⟩ => by
  subst hH
  refine tE.go hr hs h fun d S1 v w1 l1 r1 i1 h1 => ?_
  exact h1 _ w1 (.refl _) r1 ((hs.mono l1).set i1)
theorem c_aug {i : Nat} {x : Str} {ppos : Pos} (hN : X.N.Nodup) (hi : X.N[i]? = some x) (hx : Loc X.env.scope x) (hf0 : X.fn x = true) (o : Bop) {op : Operator} (ho : (o = .add ∧ op = .Add) ∨ (o = .sub ∧ op = .Sub)) (he : PE X e (tE X.K W ma)) :
    PS X (.AugAssign (.Name x ppos) op e pos) (tC X.K W fun τ S => match τ[i]? with
    | some (some x) => (ma τ S).st τ fun y S1 => (match augD o x y with
      | some z => .nx (τ.set i (some z)) S1
      | none => .stuck)
    | _ => .stuck) := by
  have key : ∀ f : Int → Int → Int, PIp X op (ipI f) → (∀ u v, augD o (.int u) (.int v) = some (.int (f u v))) → (∀ x y z, augD o x y = some z → ∃ u v, x = .int u ∧ y = .int v) →
      PS X (.AugAssign (.Name x ppos) op e pos) (tC X.K W fun τ S => match τ[i]? with
    | some (some x) => (ma τ S).st τ fun y S1 => (match augD o x y with
      | some z => .nx (τ.set i (some z)) S1
      | none => .stuck)
    | _ => .stuck) := fun f hf h1 h2 => (ps_aug hN hi hx he hf (.inl hf0)).imp fun D σ H ⟨w, τ, S, hH, hr, hs, h⟩ => by
    subst hH
    dsimp only at h
    cases q : τ[i]? with
    | none => rw [q] at h; exact h.elim
    | some o1 =>
      cases o1 with
      | none => rw [q] at h; exact h.elim
      | some d =>
        rw [q] at h
        obtain ⟨v, hv, iv⟩ := hs.2 i d q
        refine ⟨v, hv, ?_⟩
        refine tE.go hr hs h fun y S1 u w1 l1 r1 i1 h1' => ?_
        cases q2 : augD o d y with
        | none => rw [q2] at h1'; exact h1'.elim
        | some z =>
          rw [q2] at h1'
          obtain ⟨m, n, rfl, rfl⟩ := h2 _ _ _ q2
          rw [h1] at q2
          cases q2
          cases iv
          cases i1
          exact ⟨m, n, rfl, rfl, h1' _ w1 (.refl _) r1 ((hs.mono l1).set rfl)⟩
  rcases ho with ⟨rfl, rfl⟩ | ⟨rfl, rfl⟩
  · exact key _ ip_add (fun _ _ => rfl) fun x y z e => by cases x <;> cases y <;> first | exact ⟨_, _, rfl, rfl⟩ | cases e
  · exact key _ ip_sub (fun _ _ => rfl) fun x y z e => by cases x <;> cases y <;> first | exact ⟨_, _, rfl, rfl⟩ | cases e

theorem setL_ok {K : Fg} {w : Wd} {S : Sto} {x y : D} {v u : V} {k : Int} {q : Nat × List D} {j : Nat} {Q : Hp → Prop} (hr : Rel K w S) (hx : Is K w.A w.F x v) (hy : Is K w.A w.F y u) (e : own S x = some q) (hj : ixN q.2.length k = some j)
    (h : ∀ w', w.le w' → Rel K w' (S.set q.1 (.lst (q.2.set j y))) → Q w'.H) : rSetL v (.int k) u w.H Q := by
  obtain ⟨a, vs, rfl, hA, hp, hv⟩ := own_rd hr hx e
  obtain ⟨r2, l2⟩ := put_ok hr e hA (hv.set (i := j) hy)
  exact ⟨a, vs, k, j, rfl, rfl, hp, by rw [← hv.len]; exact hj, h _ l2 r2⟩
theorem c_setIx {tpos : Pos} (hp : plainIx b = true) (hc : noComp e = true) (he : PE X e (tE X.K W mc)) (ha : PE X a (tE X.K W ma)) (hb : PE X b (tE X.K W mb)) (hs0 : swapsWithSole [.Subscript a b tpos] e pos.line X.env = pure false)
    (hasn : ∀ v, assign (.Subscript a b tpos) X.env v = (do
      let ov ← holding [v] (eval a X.env)
      let iv ← holding [v, ov] (eval b X.env)
      standAt tpos
      holding [v, ov, iv] (setItem ov iv v)
      release [v, ov, iv] [])) :
    PS X (.Assign [.Subscript a b tpos] e pos) (tC X.K W fun τ S => (mc τ S).st τ fun y S1 => (ma τ S1).st τ fun x S2 => (mb τ S2).st τ fun k S3 => match own S3 x, k with
    | some q, .int k => (match ixN q.2.length k with
      | some j => .nx τ (S3.set q.1 (.lst (q.2.set j y)))
      | none => .stuck)
    | _, _ => .stuck) := (ps_asg he (pg_sub ha hb set_list hasn) hs0 rfl).imp fun D σ H ⟨w, τ, S, hH, hr, hs, h⟩ => by
  subst hH
  refine tE.go hr hs h fun y S1 u w1 l1 r1 i1 h1 => ?_
  refine tE.go r1 (hs.mono l1) h1 fun x S2 v w2 l2 r2 i2 h2 => ?_
  refine tE.go r2 ((hs.mono l1).mono l2) h2 fun k S3 z w3 l3 r3 i3 h3 => ?_
  cases q : own S3 x with
  | none => rw [q] at h3; exact h3.elim
  | some q1 =>
    rw [q] at h3
    cases k with
    | int k =>
      dsimp only at h3
      cases i3
      cases q2 : ixN q1.2.length k with
      | none => rw [q2] at h3; exact h3.elim
      | some j =>
        rw [q2] at h3
        exact setL_ok r3 (i2.le l3) (i1.le (l2.trans l3)) q q2 fun w' l r => h3 _ w' l r (hs.mono (((l1.trans l2).trans l3).trans l))
    | _ => exact h3.elim
/-- reading one place of a list, by values -/
def rGetL : V → V → Hp → VK → Prop := fun o i H Q => ∃ p xs k x, o = .ref p ∧ i = .int k ∧ 0 ≤ k ∧ k < 2 ^ 63 ∧ H p = some (.lst xs) ∧ xs[k.toNat]? = some x ∧ Q x H
theorem get_list : PGet X rGetL := by
  intro pins s σ H o i ov iv Q I ro ri h
  obtain ⟨p, xs, k, x, rfl, rfl, h0, h1, hp, hx, q⟩ := h
  cases ro
  obtain ⟨t, rfl⟩ := ri
  obtain ⟨its, n, r, ho, hz⟩ := I.lst hp
  obtain ⟨u, hu, ru⟩ := r.get hx
  refine wpAny_getItem_list (PySem.IsL.isList (n := n) ho) h0 h1 (by simpa using hu) ⟨x, H, I, ru, q⟩
theorem c_augIx {tpos : Pos} (o : Bop) {op : Operator} (ho : (o = .add ∧ op = .Add) ∨ (o = .sub ∧ op = .Sub)) (ha : PE X a (tE X.K W ma)) (hb : PE X b (tE X.K W mb)) (he : PE X e (tE X.K W mc))
    (hst : ∀ ov iv new, augStore b ov iv new = (do holding [new, ov, iv] (setItem ov iv new); release [new, ov, iv] []; pure .next)) :
    PS X (.AugAssign (.Subscript a b tpos) op e pos) (tC X.K W fun τ S => (ma τ S).st τ fun x S1 => (mb τ S1).st τ fun k S2 => match own S2 x, k with
    | some p, .int k => if 0 ≤ k ∧ k < 2 ^ 63 then (match p.2[k.toNat]? with
      | some z => (mc τ S2).st τ fun y S3 => (match own S3 x, augD o z y with
        | some q, some r => (match ixN q.2.length k with
          | some j => .nx τ (S3.set q.1 (.lst (q.2.set j r)))
          | none => .stuck)
        | _, _ => .stuck)
      | none => .stuck) else .stuck
    | _, _ => .stuck) := by
  have key : ∀ f : Int → Int → Int, PIp X op (ipI f) → (∀ u v, augD o (.int u) (.int v) = some (.int (f u v))) → (∀ x y z, augD o x y = some z → ∃ u v, x = .int u ∧ y = .int v) →
      PS X (.AugAssign (.Subscript a b tpos) op e pos) (tC X.K W fun τ S => (ma τ S).st τ fun x S1 => (mb τ S1).st τ fun k S2 => match own S2 x, k with
    | some p, .int k => if 0 ≤ k ∧ k < 2 ^ 63 then (match p.2[k.toNat]? with
      | some z => (mc τ S2).st τ fun y S3 => (match own S3 x, augD o z y with
        | some q, some r => (match ixN q.2.length k with
          | some j => .nx τ (S3.set q.1 (.lst (q.2.set j r)))
          | none => .stuck)
        | _, _ => .stuck)
      | none => .stuck) else .stuck
    | _, _ => .stuck) := fun f hf g1 g2 => (ps_augS ha hb get_list he hf set_list hst).imp fun D σ H ⟨w, τ, S, hH, hr, hs, h⟩ => by
    subst hH
    refine tE.go hr hs h fun x S1 v w1 l1 r1 i1 h1 => ?_
    refine tE.go r1 (hs.mono l1) h1 fun k S2 u w2 l2 r2 i2 h2 => ?_
    cases q : own S2 x with
    | none => rw [q] at h2; exact h2.elim
    | some q1 =>
      rw [q] at h2
      cases k with
      | int k =>
        dsimp only at h2
        cases i2
        by_cases hk : 0 ≤ k ∧ k < 2 ^ 63
        · rw [if_pos hk] at h2
          cases q2 : q1.2[k.toNat]? with
          | none => rw [q2] at h2; exact h2.elim
          | some z =>
            rw [q2] at h2
            obtain ⟨p, vs, rfl, hA, hp, hv⟩ := own_rd r2 (i1.le l2) q
            obtain ⟨zv, hz1, hz2⟩ := hv.get q2
            refine ⟨p, vs, k, zv, rfl, rfl, hk.1, hk.2, hp, hz1, ?_⟩
            refine tE.go r2 ((hs.mono l1).mono l2) h2 fun y S3 yv w3 l3 r3 i3 h3 => ?_
            cases q3 : own S3 x with
            | none => rw [q3] at h3; exact h3.elim
            | some q4 =>
              rw [q3] at h3
              cases q5 : augD o z y with
              | none => rw [q5] at h3; exact h3.elim
              | some r =>
                rw [q5] at h3
                dsimp only at h3
                cases q6 : ixN q4.2.length k with
                | none => rw [q6] at h3; exact h3.elim
                | some j =>
                  rw [q6] at h3
                  obtain ⟨m, n, rfl, rfl⟩ := g2 _ _ _ q5
                  rw [g1] at q5
                  cases q5
                  cases hz2
                  cases i3
                  refine ⟨m, n, rfl, rfl, ?_⟩
                  exact setL_ok (y := .int (f m n)) r3 (i1.le (l2.trans l3)) rfl q3 q6 fun w' l r => h3 _ w' l r (hs.mono (((l1.trans l2).trans l3).trans l))
        · rw [if_neg hk] at h2; exact h2.elim
      | _ => exact h2.elim
  rcases ho with ⟨rfl, rfl⟩ | ⟨rfl, rfl⟩
  · exact key _ ip_add (fun _ _ => rfl) fun x y z e => by cases x <;> cases y <;> first | exact ⟨_, _, rfl, rfl⟩ | cases e
  · exact key _ ip_sub (fun _ _ => rfl) fun x y z e => by cases x <;> cases y <;> first | exact ⟨_, _, rfl, rfl⟩ | cases e
theorem c_two {i j kk : Nat} {x y : Str} {px py pt : Pos} (hc : X.calm = true) (hN : X.N.Nodup) (hi : X.N[i]? = some x) (hj : X.N[j]? = some y) (hx : Loc X.env.scope x) (hy : Loc X.env.scope y) (hfx : X.fn x = true) (hfy : X.fn y = true)
    (he : PE X e (tE X.K W ma)) (hs0 : swapsWithSole [.Tuple [.Name x px, .Name y py] kk pt] e pos.line X.env = pure false) (hw : swappedStores [.Tuple [.Name x px, .Name y py] kk pt] e X.env = pure none) :
    PS X (.Assign [.Tuple [.Name x px, .Name y py] kk pt] e pos) (tC X.K W fun τ S => (ma τ S).st τ fun x S1 => match x with
    | .tup [a, b] => .nx ((τ.set i (some a)).set j (some b)) S1
    | _ => .stuck) := (ps_asg he (pg_tup (n := 2) hc (pgs_cons (pg_name hN hi hx (.inl hfx)) (pgs_cons (pg_name hN hj hy (.inl hfy)) pgs_nil))) hs0 hw).imp fun D σ H ⟨w, τ, S, hH, hr, hs, h⟩ => by
  subst hH
  refine tE.go hr hs h fun d S1 v w1 l1 r1 i1 h1 => ?_
  have e1 : ∀ (m : Tau → SR), True := fun _ => trivial
  cases d with
  | tup xs =>
    cases xs with
    | nil => exact h1.elim
    | cons d1 r =>
      cases r with
      | nil => exact h1.elim
      | cons d2 r2 =>
        cases r2 with
        | cons _ _ => exact h1.elim
        | nil => exact gTg_ok (tg := .two i j) r1 (hs.mono l1) i1 rfl fun a b sg => h1 _ w1 (.refl _) r1 sg
  | _ => exact h1.elim
theorem c_setc {own : List (Str × Nat)} {y : Str} {i : Nat} {py spos : Pos} {elt iter : Expr} {ifs : List Expr} {scope : Scope} {mi : Tau → Sto → R Src} {mk : Tau → Sto → R Bool} {me : Tau → Sto → R D} {t : Tg} (lv : Bool)
    (hk : X.env.scope.kind = .function) (hl : (py.line == pos.line) = true) (hn2 : (scope.names.any fun (n, k) => n == y && (k == .local || k == .cell)) = false)
    (hc : X.calm = true) (hN : X.N.Nodup) (hy : X.N[i]? = some y) (hyl : X.env.scope.names.lookup y = some .local) (hi : PI X tg iter (tI X.K W mi)) (ok : BlkOk X.N X.env.scope scope own) (hsl : ∀ i ∈ slotsT t, i ∈ own.map (·.2))
    (hg : ∀ (s : Shared) (H : Hp) (C : Addr) (cl : List (Str × Addr)) (fp : List Addr), PG (X.blk s H scope (compEnvC scope cl C X.env) fp) tg (gTg X.K t))
    (ht : ∀ (s : Shared) (H : Hp) (C : Addr) (cl : List (Str × Addr)) (fp : List Addr), PTs (X.blk s H scope (compEnvC scope cl C X.env) fp) ifs (tT X.K WF mk))
    (he : ∀ (s : Shared) (H : Hp) (C : Addr) (cl : List (Str × Addr)) (fp : List Addr), PE (X.blk s H scope (compEnvC scope cl C X.env) fp) elt (tE X.K WF me)) (hs : ∀ x, foldedSetIterable iter X.env x = pure x) :
    PS X (.Assign [.Name y py] (.ListComp elt [⟨tg, iter, ifs, 0⟩] scope pos) spos) (tC X.K W fun τ S => ((((fun τ S => (mi τ S).bind fun s S1 => if s.items.length ≤ SMAX then compL (stepC t own mk me τ) s s.items S1 else .stuck) : Tau → Sto → R (List D)) τ S).bind fun xs S1 => if lv then .ok (.loc S1.length) (S1 ++ [.lst xs]) else .ok (.lst xs) S1).st τ fun y S1 => .nx (τ.set i (some y)) S1) :=
  (ps_setLc hc hN hy hyl (sw_true hk hyl hl hn2) hi ok hg ht he hs).imp fun D σ H ⟨w, τ, S, hH, hr, hsg, h⟩ => by
    subst hH
    refine comp_imp hsl ?_
    have go : tE X.K W (fun τ S => (((fun τ S => (mi τ S).bind fun s S1 => if s.items.length ≤ SMAX then compL (stepC t own mk me τ) s s.items S1 else .stuck) : Tau → Sto → R (List Pi.D)) τ S).bind fun xs S1 => if lv then .ok (.loc S1.length) (S1 ++ [.lst xs]) else .ok (.lst xs) S1) σ w.H (fun x H1 => gName i x σ H1 D.nx) :=
      tE.go hr hsg h fun d S1 v w1 l1 r1 i1 h1 => h1 _ w1 (.refl _) r1 ((hsg.mono l1).set i1)
    cases lv with
    | true => exact live_imp go
    | false => exact frz_imp go
theorem fN_D {K : Fg} {D : Ends} {N : L2.St → Hp → Prop} : True := trivial
theorem c_for {iter : Expr} {mi : Tau → Sto → R Src} {t : Tg} (hp : PassesOwn (model X.prog X.w) X.A X.env X.xe) (hc : X.calm = true) (hi : PI X tg iter (tI X.K W mi)) (hg : PG X tg (gTg X.K t)) (hb : PSs X body (tC X.K W sa)) (hs : ∀ x, foldedSetIterable iter X.env x = pure x) :
    PS X (.For tg iter body [] pos) (tC X.K W fun τ S => (mi τ S).st τ fun s S1 => forL (fun d τ S => match setT t d τ with
      | some τ' => sa τ' S
      | none => .stuck) s s.items τ S1) := (ps_for hp hc hi hg hb hs).imp fun D σ H ⟨w, τ, S, hH, hr, hsg, h⟩ => by
  subst hH
  refine ⟨w, τ, S, rfl, hr, hsg, (PostS.st hsg h).mono (fun s S1 q os J w1 l1 r1 hW => ?_) fun c fs S1 q => q⟩
  obtain ⟨G, Y, wk, hY⟩ := hW
  refine for_it wk (fun i σ' H' => ∃ (w2 : Wd) (τ2 : Tau) (S2 : Sto), w2.H = H' ∧ w1.le w2 ∧ Rel X.K w2 S2 ∧ Sig X.K w2 σ' τ2 ∧ okS s S2 ∧
    PostS X.K W w2 D (forL (fun d τ S => match setT t d τ with
      | some τ' => sa τ' S
      | none => .stuck) s (s.items.drop i) τ2 S2)) ?_ ?_ ?_ ?_
  · exact ⟨w1, τ, S1, rfl, .refl _, r1, hsg.mono l1, os, PostS.up l1 q⟩
  · rintro i σ' H' hi ⟨w2, τ2, S2, rfl, l2, r2, sg2, o2, _⟩
    exact (hY w2 S2 l2 r2 o2).1
  · rintro i x σ' H0 H' hi ⟨w2, τ2, S2, rfl, l2, r2, sg2, o2, hp⟩ y
    obtain ⟨w3, d, l3, rfl, r3, e3, i3⟩ := (hY w2 S2 l2 r2 o2).2 i x H' y
    have hdrop : s.items.drop i = d :: s.items.drop (i + 1) := by
      obtain ⟨hi', e'⟩ := List.getElem?_eq_some_iff.mp e3
      rw [List.drop_eq_getElem_cons hi', e']
    rw [hdrop] at hp
    unfold forL at hp
    cases es : setT t d τ2 with
    | none => rw [es] at hp; exact hp.elim
    | some τ' =>
      rw [es] at hp
      refine gTg_ok r3 (sg2.mono l3) i3 es fun a b sg => ?_
      refine ⟨w3, τ', S2, rfl, r3, sg, ?_⟩
      dsimp only at hp
      cases er : sa τ' S2 with
      | nx τ4 S4 =>
        rw [er] at hp
        dsimp only at hp
        intro σ4 w4 l4 r4 sg4
        by_cases ho : okS s S4
        · rw [if_pos ho] at hp
          exact ⟨w4, τ4, S4, rfl, (l2.trans l3).trans l4, r4, sg4, ho, PostS.up (l3.trans l4) hp⟩
        · rw [if_neg ho] at hp; exact hp.elim
      | ct τ4 S4 =>
        rw [er] at hp
        dsimp only at hp
        intro σ4 w4 l4 r4 sg4
        by_cases ho : okS s S4
        · rw [if_pos ho] at hp
          exact ⟨w4, τ4, S4, rfl, (l2.trans l3).trans l4, r4, sg4, ho, PostS.up (l3.trans l4) hp⟩
        · rw [if_neg ho] at hp; exact hp.elim
      | bk τ4 S4 =>
        rw [er] at hp
        exact fN.up l3 hp
      | ret d S4 =>
        rw [er] at hp
        exact okE.up l3 hp
      | exc c fs τ4 S4 =>
        rw [er] at hp
        exact fX.up l3 hp
      | stuck => rw [er] at hp; exact hp.elim
  · rintro σ' H' ⟨w2, τ2, S2, rfl, l2, r2, sg2, o2, hp⟩
    rw [List.drop_length] at hp
    unfold forL at hp
    exact hp σ' w2 (.refl _) r2 sg2
theorem c_while (n : Nat) (hp : PassesOwn (model X.prog X.w) X.A X.env X.xe) (hc : PT X c (tT X.K W mt)) (hb : PSs X body (tC X.K W sa)) : PS X (.While c body [] pos) (tC X.K W fun τ S => whileF mt sa n τ S) := (ps_while hp hc hb).imp fun D σ H ⟨w, τ, S, hH, hr, hsg, h⟩ => by
  subst hH
  refine ⟨fun m σ' H' => ∃ (w2 : Wd) (τ2 : Tau) (S2 : Sto), w2.H = H' ∧ Rel X.K w2 S2 ∧ Sig X.K w2 σ' τ2 ∧ PostS X.K W w2 D (whileF mt sa m τ2 S2), ⟨n, w, τ, S, rfl, hr, hsg, h⟩, ?_⟩
  rintro m σ' H' ⟨w2, τ2, S2, rfl, r2, sg2, hp⟩
  cases m with
  | zero => exact hp.elim
  | succ m =>
    unfold whileF at hp
    refine ⟨w2, τ2, S2, rfl, r2, sg2, ?_⟩
    cases em : mt τ2 S2 with
    | stuck => rw [em] at hp; exact hp.elim
    | exc c fs S3 =>
      rw [em] at hp
      exact fun cls dx w' l r' e => hp σ' cls dx w' l r' (sg2.mono l) e
    | ok k S3 =>
      rw [em] at hp
      intro w3 l3 r3
      cases k with
      | false => exact iteF (hp σ' w3 l3 r3 (sg2.mono l3))
      | true =>
        refine iteT ⟨_, fun σ4 H4 q => ⟨m, Nat.lt_succ_self m, q⟩, ?_⟩
        refine ⟨w3, τ2, S3, rfl, r3, sg2.mono l3, ?_⟩
        dsimp only at hp
        cases er : sa τ2 S3 with
        | nx τ4 S4 =>
          rw [er] at hp
          exact fun σ4 w4 l4 r4 sg4 => ⟨w4, τ4, S4, rfl, r4, sg4, PostS.up (l3.trans l4) hp⟩
        | ct τ4 S4 =>
          rw [er] at hp
          exact fun σ4 w4 l4 r4 sg4 => ⟨w4, τ4, S4, rfl, r4, sg4, PostS.up (l3.trans l4) hp⟩
        | bk τ4 S4 => rw [er] at hp; exact fN.up l3 hp
        | ret d S4 => rw [er] at hp; exact okE.up l3 hp
        | exc c fs τ4 S4 => rw [er] at hp; exact fX.up l3 hp
        | stuck => rw [er] at hp; exact hp.elim
end
end Pi
end
section
set_option Elab.async false
set_option linter.all false
set_option maxRecDepth 100000
set_option maxHeartbeats 4000000
/-! Pi, part I: raise. -/
namespace Pi
open PySem PySem.Spec PyProof.Rows L2
/-! ### the texts of the errors -/
def lit (x : Str) : E := .str x
def textX (c : Str) : E := if c = "TooMany" then .bin .add (.str "too many: ") (.var 1) else if c = "BadTrace" then .bin .add (.str "wrong trace: ") (.var 1) else if c = "BadSeats" then .bin .add (.str "wrong seats: ") (.var 1)
  else if c = "BadDeed" then .bin .add (.str "refused: ") (.var 1) else if c = "BadText" then .bin .add (.str "wrong line ") (.blt .str (.var 1)) else if c = "BadDisk" then .bin .add (.str "disk: ") (.blt .str (.var 1))
  else if c = "BadPaper" then .bin .add (.bin .add (.str "wrong line ") (.blt .str (.var 1))) (.str " of a paper")
  else if c = "BadPlant" then .bin .add (.bin .add (.bin .add (.str "line ") (.blt .str (.var 1))) (.str ": ")) (.var 2) else if c = "BadCode" then .bin .add (.bin .add (.bin .add (.str "row ") (.blt .str (.var 1))) (.str ": ")) (.var 2)
  else .bin .add (.bin .add (.bin .add (.str "move ") (.blt .str (.var 1))) (.str ": ")) (.var 2)
theorem add_str {x y : Str} (h : x.length + y.length ≤ SMAX) : bop .add (.str x) (.str y) = some (.str (x ++ y)) := by
  show (if x.length + y.length ≤ SMAX then some (D.str (x ++ y)) else none) = _
  rw [if_pos h]
theorem len_app (x y : Str) : (x ++ y).length = x.length + y.length := by
  show ((x.cps ++ y.cps).size) = _
  rw [Array.size_append] <;> rfl
theorem blt_str {S : Sto} {i : Int} (h : i.natAbs.log2 < 1900) : blt S .str (.int i) = some (.str (toString i)) ∧ (PySem.Str.ofString (toString i)).length ≤ 1921 := by
  refine ⟨?_, int_text_len_1921 (by omega)⟩
  show (if i.natAbs.log2 < 1920 then some (D.str (toString i)) else none) = _
  rw [if_pos (by omega)] <;> rfl
section
variable (cl : Nat → List D → Sto → R D) {S : Sto} {o : Option D}
theorem tx0 {l x : Str} (hl : l.length ≤ 100) (hx : x.length ≤ 1000000) : ∃ z, evE cl (.bin .add (.str l) (.var 1)) [o, some (.str x)] S = .ok (.str z) S := by
  refine ⟨l ++ x, ?_⟩
  unfold evE
  simp only [evE, R.bind, List.getElem?_cons_succ, List.getElem?_cons_zero]
  rw [add_str (by rw [smax_eq]; omega)] <;> rfl
theorem tx1 {l : Str} {i : Int} (hl : l.length ≤ 100) (hi : i.natAbs.log2 < 1900) : ∃ z, evE cl (.bin .add (.str l) (.blt .str (.var 1))) [o, some (.int i)] S = .ok (.str z) S := by
  obtain ⟨h1, h2⟩ := blt_str (S := S) hi
  refine ⟨l ++ PySem.Str.ofString (toString i), ?_⟩
  simp only [evE, R.bind, R.of, List.getElem?_cons_succ, List.getElem?_cons_zero]
  rw [h1]
  simp only [R.of, R.bind]
  rw [show (D.str (toString i : String)) = D.str (PySem.Str.ofString (toString i)) from rfl, add_str (by rw [smax_eq]; omega)]
theorem tx1' {l m : Str} {i : Int} (hl : l.length ≤ 100) (hm : m.length ≤ 100) (hi : i.natAbs.log2 < 1900) : ∃ z, evE cl (.bin .add (.bin .add (.str l) (.blt .str (.var 1))) (.str m)) [o, some (.int i)] S = .ok (.str z) S := by
  obtain ⟨h1, h2⟩ := blt_str (S := S) hi
  refine ⟨(l ++ PySem.Str.ofString (toString i)) ++ m, ?_⟩
  simp only [evE, R.bind, R.of, List.getElem?_cons_succ, List.getElem?_cons_zero]
  rw [h1]
  simp only [R.of, R.bind]
  rw [show (D.str (toString i : String)) = D.str (PySem.Str.ofString (toString i)) from rfl, add_str (by rw [smax_eq]; omega)]
  simp only [R.of, R.bind]
  rw [add_str (by rw [smax_eq, len_app]; omega)]
theorem tx2 {l m x : Str} {i : Int} (hl : l.length ≤ 100) (hm : m.length ≤ 100) (hx : x.length ≤ 1000000) (hi : i.natAbs.log2 < 1900) :
    ∃ z, evE cl (.bin .add (.bin .add (.bin .add (.str l) (.blt .str (.var 1))) (.str m)) (.var 2)) [o, some (.int i), some (.str x)] S = .ok (.str z) S := by
  obtain ⟨h1, h2⟩ := blt_str (S := S) hi
  refine ⟨((l ++ PySem.Str.ofString (toString i)) ++ m) ++ x, ?_⟩
  simp only [evE, R.bind, R.of, List.getElem?_cons_succ, List.getElem?_cons_zero]
  rw [h1]
  simp only [R.of, R.bind]
  rw [show (D.str (toString i : String)) = D.str (PySem.Str.ofString (toString i)) from rfl, add_str (by rw [smax_eq]; omega)]
  simp only [R.of, R.bind]
  rw [add_str (by rw [smax_eq, len_app]; omega)]
  simp only [R.of, R.bind]
  rw [add_str (by rw [smax_eq, len_app, len_app]; omega)]
end

theorem kind0 {c : Str} (h : kindX c = 0) : c = "TooMany" ∨ c = "BadTrace" ∨ c = "BadSeats" ∨ c = "BadDeed" := by
  unfold kindX at h
  split at h
  · assumption
  · split at h
    · cases h
    · split at h <;> cases h
theorem kind1 {c : Str} (h : kindX c = 1) : c = "BadText" ∨ c = "BadPaper" ∨ c = "BadDisk" := by
  unfold kindX at h
  split at h
  · cases h
  · split at h
    · assumption
    · split at h <;> cases h
theorem kind2 {c : Str} (h : kindX c = 2) : c = "BadPlant" ∨ c = "BadCode" ∨ c = "BadMove" := by
  unfold kindX at h
  split at h
  · cases h
  · split at h
    · cases h
    · split at h
      · assumption
      · cases h
theorem excOk1 {c : Str} {d : D} (h : excOk c [d] = true) : (kindX c = 0 ∧ ∃ x : Str, d = .str x ∧ x.length ≤ 1000000) ∨ (kindX c = 1 ∧ ∃ i : Int, d = .int i ∧ i.natAbs.log2 < 1900) := by
  cases d with
  | str x =>
    obtain ⟨h1, h2⟩ := Bool.and_eq_true_iff.mp (show (kindX c == 0 && decide (x.length ≤ 1000000)) = true from h)
    exact .inl ⟨beq_iff_eq.mp h1, x, rfl, of_decide_eq_true h2⟩
  | int i =>
    obtain ⟨h1, h2⟩ := Bool.and_eq_true_iff.mp (show (kindX c == 1 && decide (i.natAbs.log2 < 1900)) = true from h)
    exact .inr ⟨beq_iff_eq.mp h1, i, rfl, of_decide_eq_true h2⟩
  | _ => cases h
theorem excOk2 {c : Str} {d e : D} (h : excOk c [d, e] = true) : kindX c = 2 ∧ ∃ (i : Int) (x : Str), d = .int i ∧ e = .str x ∧ i.natAbs.log2 < 1900 ∧ x.length ≤ 1000000 := by
  cases d with
  | int i =>
    cases e with
    | str x =>
      obtain ⟨h1, h2⟩ := Bool.and_eq_true_iff.mp (show (kindX c == 2 && (decide (i.natAbs.log2 < 1900) && decide (x.length ≤ 1000000))) = true from h)
      obtain ⟨h2, h3⟩ := Bool.and_eq_true_iff.mp h2
      exact ⟨beq_iff_eq.mp h1, i, x, rfl, rfl, of_decide_eq_true h2, of_decide_eq_true h3⟩
    | _ => cases h
  | _ => cases e <;> cases h
theorem txt1 {cl : Nat → List D → Sto → R D} {c : Str} {d : D} {o : Option D} {S : Sto} (h : excOk c [d] = true) : ∃ z, evE cl (textX c) [o, some d] S = .ok (.str z) S := by
  rcases excOk1 h with ⟨k, x, rfl, hx⟩ | ⟨k, i, rfl, hi⟩
  · rcases kind0 k with rfl | rfl | rfl | rfl
    all_goals exact tx0 cl (by decide) hx
  · rcases kind1 k with rfl | rfl | rfl
    · exact tx1 cl (by decide) hi
    · exact tx1' cl (by decide) (by decide) hi
    · exact tx1 cl (by decide) hi
theorem txt2 {cl : Nat → List D → Sto → R D} {c : Str} {d e : D} {o : Option D} {S : Sto} (h : excOk c [d, e] = true) : ∃ z, evE cl (textX c) [o, some d, some e] S = .ok (.str z) S := by
  obtain ⟨k, i, x, rfl, rfl, hi, hx⟩ := excOk2 h
  rcases kind2 k with rfl | rfl | rfl
  all_goals exact tx2 cl (by decide) (by decide) hx hi
/-- a method call's text -/
theorem meth_eq {o : Expr} {name : Str} {apos pos : Pos} {e : Expr} {es : List Expr} {env : Env} (hbase : attributeBase o name env (eval o env) = eval o env) (hn : ∀ x ∈ e :: es, noStar x = true) (hl : es.length < 28) (hline : (apos.endLine == pos.line) = true) :
    ∃ pl : Sem Bool, eval (.Call (.Attribute o name apos) (e :: es) [] pos) env = (do
      let ov ← eval o env
      standAt apos.atName
      let (f, first) ← holding [ov] (getMethod ov name pl)
      callWith pos f first (backTo pos (starEach (e :: es) env)) (backToKw pos (keywordEach [] env))) := by
  have hform : methodCallForm ((e :: es).length + ([] : List Keyword).length) (backTo pos (starEach (e :: es) env)) (backToKw pos (keywordEach [] env)) = true := few_of hn hl
  have hpos : methodCallPos true o env apos pos = pure pos := by unfold methodCallPos; simp [hline]
  refine ⟨?_, ?_⟩
  rotate_left
  · rw [arm_eval_Call, hbase]
    unfold methodCall
    rw [hform]
    simp only [hpos, pure_bind]
    rfl
/-! ### Own.__init__(self, ..), Own without an __init__ of its own -/
section
variable {X : Cx} {o e : Expr} {es : List Expr} {ta : TA} {p1 p2 pos : Pos}
theorem pe_heinit {pl : Sem Bool} {x : Str} {C0 : Addr} (hg : Gl X x) (hm : X.mg x = some (.ref C0)) (hdb : (x == ("__debug__" : Str)) = false) (rd : ClX.CRead X.K C0 (.type "type"))
    (vV : PySem.W.findCls X.K (.ref C0) (.type "type") "__init__" = some (.val (.builtin "ValueError.__init__"))) (ha : PA X (e :: es) ta)
    (hc : eval (.Call (.Attribute (.Name x p1) "__init__" p2) (e :: es) [] pos) X.env = (do
      let ov ← eval (.Name x p1) X.env
      standAt p2.atName
      let (f, first) ← holding [ov] (getMethod ov "__init__" pl)
      callWith pos f first (backTo pos (starEach (e :: es) X.env)) (backToKw pos (keywordEach [] X.env))) := by rfl)
    (he : starEach (e :: es) X.env = (false, eval e X.env) :: starEach es X.env) (hpl : (backTo pos (starEach es X.env)).any (·.1) = false) :
    PE X (.Call (.Attribute (.Name x p1) "__init__" p2) (e :: es) [] pos) (tVeI X.K ta) := by
  refine ⟨fun pins s σ H Q I h => ?_⟩
  refine PySem.W.methodCall_KW (ld_glob I hg hm ?_ hdb) hc
  refine PySem.W.method_cls I.kIn rd.ga (PySem.W.cls_value I.kIn rd.rd vV (by decide +kernel) ?_)
  show wpAny _ _ (callWith pos (Value.builtin "ValueError.__init__") [] (backTo pos (starEach (e :: es) X.env)) []) _ _ _
  refine PyProof.Rows.callWith_method1 (thn (ha.run pos pins _ σ H _ (I.tok _) h) fun us s1 ⟨vs, H1, I1, r1, a, C, ws, ev, hl, T, ea, q⟩ => ?_) he hpl
  subst ev
  cases r1 with
  | @cons _ u0 _ ur ra rw' =>
    obtain rfl : u0 = Value.ref a := ra
    have hlen : ur.length ≤ sizeLine := by
      rw [← Paired.length rw', sizeLine_eq]
      omega
    exact oinit_ok T I1 ea hlen fun s' J => ⟨.non, H1, J, rfl, q⟩
end


/-! ### the __init__ of an error -/
structure XFct (K : Fg) (c : Str) : Prop where
  ox : OexC K (He.ga K c)
  ini : PySem.W.findIn K (.ref (He.ga K c)) "__init__" = some (some (.ref (He.ma K (He.ga K c) "__init__")))
  tin : PySem.W.typeIn K (.ref (He.ma K (He.ga K c) "__init__")) = some (.type "function")
  no : ∀ f ∈ fldNames c, PySem.W.findIn K (.ref (He.ga K c)) f = some none
/-- HighError itself -/
structure HFct (K : Fg) : Prop where
  rd : ClX.CRead K (He.ga K "HighError") (.type "type")
  vV : PySem.W.findCls K (.ref (He.ga K "HighError")) (.type "type") "__init__" = some (.val (.builtin "ValueError.__init__"))
def spX (K : Fg) (c : Str) : Sp := fun vs H Q E => vs.length = 1 + (fldNames c).length ∧ ∃ (a : Addr) (ws : List V) (w : Wd) (fs : List D) (S : Sto), vs = .ref a :: ws ∧ w.H = H ∧ Rel K w S ∧ IsA K w.A w.F fs ws ∧ excOk c fs = true ∧
  H a = some (exo a (He.ga K c) none) ∧ w.F a = none ∧ a ∉ w.A ∧
  ∀ (d : Addr) (w' : Wd), w.le w' → Rel K w' S → w'.H a = some (exo a (He.ga K c) none) → w'.F a = none → a ∉ w'.A → w'.H d = none → d ≠ a →
    Q .non (upd (upd w'.H d (exd d ((fldNames c).zip ws).reverse)) a (exo a (He.ga K c) (some d)))
theorem upd_again {H : Hp} {a b : Addr} {o u v : HO} (h : b ≠ a) : upd (upd (upd H b o) a u) b v = upd (upd H b v) a u := by
  funext x
  by_cases hx : x = b
  · subst hx
    rw [upd_same, upd_ne h, upd_same]
  · rw [upd_ne hx]
    by_cases ha : x = a
    · subst ha
      rw [upd_same, upd_same]
    · rw [upd_ne ha, upd_ne hx, upd_ne ha, upd_ne hx]
section
variable {X : Cx} {c f g : Str} {text : Expr} {cl : Nat → List D → Sto → R D} {p1 p2 p3 p4 p5 p6 p7 p8 p9 q6 q7 q8 q9 : Pos}
theorem init_body1 {pl : Sem Bool} (hf : fldNames c = [f]) (T : XFct X.K c) (U : HFct X.K) (hN : X.N = [("self" : Str), f]) (hv0 : Vis X.env.scope "self") (hv1 : Vis X.env.scope f) (hd : (f == ("__debug__" : Str)) = false) (hcd : (f == ("__classdict__" : Str)) = false)
    (hg : Gl X "HighError") (hm : X.mg "HighError" = some (.ref (He.ga X.K "HighError"))) (ht : PE X text (tE X.K WF (evE cl (textX c)))) (hn : noStar text = true)
    (hc : eval (.Call (.Attribute (.Name "HighError" p1) "__init__" p2) [.Name "self" p3, text] [] p4) X.env = (do
      let ov ← eval (.Name "HighError" p1) X.env
      standAt p2.atName
      let (f, first) ← holding [ov] (getMethod ov "__init__" pl)
      callWith p4 f first (backTo p4 (starEach [.Name "self" p3, text] X.env)) (backToKw p4 (keywordEach [] X.env)))) :
    ∃ t, PSs X [.Expr (.Call (.Attribute (.Name "HighError" p1) "__init__" p2) [.Name "self" p3, text] [] p4) p5, .Assign [.Attribute (.Name "self" p6) f p7] (.Name f p8) p9] t ∧
      ∀ vs H Q E, spX X.K c vs H Q E → t { nx := fun _ H' => Q .non H', rt := Q } (start X.N vs) H := by
  have e0 : X.N[0]? = some ("self" : Str) := by rw [hN]; rfl
  have e1 : X.N[1]? = some f := by rw [hN]; rfl
  refine ⟨_, pss_cons (ps_expr (pe_heinit hg hm rfl U.rd U.vV (pa_cons (pe_var e0 hv0) (pa_cons ht pa_nil (star_of hn _ _)) (star_of rfl _ _)) hc (star_of rfl _ _) (plain_of fun e he => by
    rcases List.mem_singleton.mp he with rfl
    exact hn)) (swaps_of rfl _ _ _)) (pss_cons (ps_ost (pe_var e0 hv0) (pe_var e1 hv1 hd hcd)) pss_nil), fun vs H Q E ⟨hl, a, ws, w, fs, S, hvs, hH, hr, hi, hx, ha, nF, nA, k⟩ => ?_⟩
  subst hvs hH
  rw [hf] at k hl
  obtain ⟨v, rfl⟩ : ∃ v, ws = [v] := by
    cases ws with
    | nil => simp at hl
    | cons v r => cases r with
      | nil => exact ⟨v, rfl⟩
      | cons _ _ => simp at hl
  obtain ⟨d, rfl⟩ : ∃ d, fs = [d] := by
    have := hi.len
    cases fs with
    | nil => simp at this
    | cons v r => cases r with
      | nil => exact ⟨v, rfl⟩
      | cons _ _ => simp at this
  have hst : start X.N [.ref a, v] = [some (.ref a), some v] := by rw [hN]; rfl
  rw [hst]
  obtain ⟨z, hz⟩ := txt1 (cl := cl) (o := some (.exn "" [])) (S := S) hx
  obtain ⟨v', r', hvr, iv, _⟩ := hi
  cases hvr
  refine ⟨_, rfl, w, [some (.exn "" []), some d], S, rfl, hr, ⟨rfl, fun i x hi => ?_⟩, ?_⟩
  · match i with
    | 0 => cases hi; exact ⟨_, rfl, True.intro⟩
    | 1 => cases hi; exact ⟨_, rfl, iv⟩
    | (i + 2) => simp at hi
  · rw [hz]
    intro u w1 l1 r1 i1
    obtain ⟨ha1, nF1, nA1⟩ := l1.frm a _ ha nF nA
    refine ⟨a, _, [u], rfl, by simp, T.ox, ha1, ?_⟩
    refine ⟨v, rfl, _, rfl, a, _, rfl, T.ox, T.no f (by rw [hf]; exact List.mem_cons_self), .inl ⟨ha1, fun dx n0 ne => ?_⟩⟩
    exact k dx w1 l1 r1 ha1 nF1 nA1 n0 ne
theorem init_body2 {pl : Sem Bool} (hf : fldNames c = [f, g]) (T : XFct X.K c) (U : HFct X.K) (hN : X.N = [("self" : Str), f, g]) (hv0 : Vis X.env.scope "self") (hv1 : Vis X.env.scope f) (hd : (f == ("__debug__" : Str)) = false) (hcd : (f == ("__classdict__" : Str)) = false)
    (hv2 : Vis X.env.scope g) (hd2 : (g == ("__debug__" : Str)) = false) (hcd2 : (g == ("__classdict__" : Str)) = false)
    (hg : Gl X "HighError") (hm : X.mg "HighError" = some (.ref (He.ga X.K "HighError"))) (ht : PE X text (tE X.K WF (evE cl (textX c)))) (hn : noStar text = true)
    (hc : eval (.Call (.Attribute (.Name "HighError" p1) "__init__" p2) [.Name "self" p3, text] [] p4) X.env = (do
      let ov ← eval (.Name "HighError" p1) X.env
      standAt p2.atName
      let (f, first) ← holding [ov] (getMethod ov "__init__" pl)
      callWith p4 f first (backTo p4 (starEach [.Name "self" p3, text] X.env)) (backToKw p4 (keywordEach [] X.env)))) :
    ∃ t, PSs X [.Expr (.Call (.Attribute (.Name "HighError" p1) "__init__" p2) [.Name "self" p3, text] [] p4) p5, .Assign [.Attribute (.Name "self" p6) f p7] (.Name f p8) p9, .Assign [.Attribute (.Name "self" q6) g q7] (.Name g q8) q9] t ∧
      ∀ vs H Q E, spX X.K c vs H Q E → t { nx := fun _ H' => Q .non H', rt := Q } (start X.N vs) H := by
  have e0 : X.N[0]? = some ("self" : Str) := by rw [hN]; rfl
  have e1 : X.N[1]? = some f := by rw [hN]; rfl
  have e2 : X.N[2]? = some g := by rw [hN]; rfl
  refine ⟨_, pss_cons (ps_expr (pe_heinit hg hm rfl U.rd U.vV (pa_cons (pe_var e0 hv0) (pa_cons ht pa_nil (star_of hn _ _)) (star_of rfl _ _)) hc (star_of rfl _ _) (plain_of fun e he => by
    rcases List.mem_singleton.mp he with rfl
    exact hn)) (swaps_of rfl _ _ _)) (pss_cons (ps_ost (pe_var e0 hv0) (pe_var e1 hv1 hd hcd)) (pss_cons (ps_ost (pe_var e0 hv0) (pe_var e2 hv2 hd2 hcd2)) pss_nil)), fun vs H Q E ⟨hl, a, ws, w, fs, S, hvs, hH, hr, hi, hx, ha, nF, nA, k⟩ => ?_⟩
  subst hvs hH
  rw [hf] at k hl
  obtain ⟨v, v2, rfl⟩ : ∃ v v2, ws = [v, v2] := by
    match ws, hl with
    | [v, v2], _ => exact ⟨v, v2, rfl⟩
    | [], h => simp at h
    | [_], h => simp at h
    | _ :: _ :: _ :: _, h => simp at h
  obtain ⟨d, d2, rfl⟩ : ∃ d d2, fs = [d, d2] := by
    have := hi.len
    match fs, this with
    | [v, v2], _ => exact ⟨v, v2, rfl⟩
    | [], h => simp at h
    | [_], h => simp at h
    | _ :: _ :: _ :: _, h => simp at h
  have hst : start X.N [.ref a, v, v2] = [some (.ref a), some v, some v2] := by rw [hN]; rfl
  rw [hst]
  obtain ⟨z, hz⟩ := txt2 (cl := cl) (o := some (.exn "" [])) (S := S) hx
  obtain ⟨v', r', hvr, iv, v'', r'', hvr2, iv2, _⟩ := hi
  cases hvr
  cases hvr2
  refine ⟨_, rfl, w, [some (.exn "" []), some d, some d2], S, rfl, hr, ⟨rfl, fun i x hi => ?_⟩, ?_⟩
  · match i with
    | 0 => cases hi; exact ⟨_, rfl, True.intro⟩
    | 1 => cases hi; exact ⟨_, rfl, iv⟩
    | 2 => cases hi; exact ⟨_, rfl, iv2⟩
    | (i + 3) => simp at hi
  · rw [hz]
    intro u w1 l1 r1 i1
    obtain ⟨ha1, nF1, nA1⟩ := l1.frm a _ ha nF nA
    refine ⟨a, _, [u], rfl, by simp, T.ox, ha1, ?_⟩
    refine ⟨v, rfl, _, rfl, a, _, rfl, T.ox, T.no f (by rw [hf]; exact List.mem_cons_self), .inl ⟨ha1, fun dx n0 ne => ?_⟩⟩
    refine ⟨v2, rfl, _, rfl, a, _, rfl, T.ox, T.no g (by rw [hf]; exact List.mem_cons_of_mem _ List.mem_cons_self), .inr ⟨dx, [(f, v)], upd_same, ?_, by simp, ?_⟩⟩
    · rw [upd_ne ne, upd_same]
    · show Q .non (upd (upd (upd w1.H dx (exd dx [(f, v)])) a (exo a (He.ga X.K c) (some dx))) dx (exd dx [(g, v2), (f, v)]))
      rw [upd_again ne]
      exact k dx w1 l1 r1 ha1 nF1 nA1 n0 ne
end

theorem fld0 {c : Str} (h : kindX c = 0) : fldNames c = [("what" : Str)] := by rcases kind0 h with rfl | rfl | rfl | rfl <;> rfl
theorem fld1 {c : Str} (h : kindX c = 1) : (fldNames c).length = 1 := by rcases kind1 h with rfl | rfl | rfl <;> rfl
theorem fld2 {c : Str} (h : kindX c = 2) : (fldNames c).length = 2 := by rcases kind2 h with rfl | rfl | rfl <;> rfl
theorem excOk_len {c : Str} {fs : List D} (h : excOk c fs = true) : fs.length = (fldNames c).length := by
  match fs, h with
  | [d], h =>
    rcases excOk1 h with ⟨k, _⟩ | ⟨k, _⟩
    · rw [fld0 k]; rfl
    · rw [fld1 k]; rfl
  | [d, e], h => rw [fld2 (excOk2 h).1]; rfl
  | [], h => cases h
  | d :: a :: b :: r, h =>
    have z : excOk c (d :: a :: b :: r) = false := by cases d <;> first | rfl | (cases a <;> rfl)
    rw [z] at h
    cases h
/-- an error that is let go: its dict stands for it -/
theorem raised {K : Fg} {w1 w' : Wd} {S : Sto} {a d : Addr} {o u v x0 : HO} (ha : w1.H a = none) (l : (⟨w1.F, upd w1.H a o, w1.A⟩ : Wd).le w') (hr : Rel K w' S) (nF : w'.F a = none) (nA : a ∉ w'.A) (hd : w'.H d = none) (ne : d ≠ a) :
    w1.le ⟨w'.F, upd (del (upd (upd w'.H d u) a v) a) d x0, w'.A⟩ ∧ Rel K ⟨w'.F, upd (del (upd (upd w'.H d u) a v) a) d x0, w'.A⟩ S := by
  have get : ∀ b, b ≠ a → b ≠ d → upd (del (upd (upd w'.H d u) a v) a) d x0 b = w'.H b := fun b h1 h2 => by rw [upd_ne h2, del_ne h1, upd_ne h1, upd_ne h2]
  have ga : upd (del (upd (upd w'.H d u) a v) a) d x0 a = none := by rw [upd_ne (Ne.symm ne), del_same]
  have gd : upd (del (upd (upd w'.H d u) a v) a) d x0 d = some x0 := upd_same
  have dA : d ∉ w'.A := fun h => by
    obtain ⟨o, e⟩ := hr.som d h
    rw [hd] at e; cases e
  refine ⟨⟨l.ex, l.pre, fun b x h1 h2 h3 => ?_, fun b h => ?_⟩, ⟨fun b x h => ?_, hr.len, hr.nd, fun b h => ?_, fun n xs b h1 hc h2 => ?_⟩⟩
  · have hb : b ≠ a := fun z => by subst z; rw [ha] at h1; cases h1
    obtain ⟨q1, q2, q3⟩ := l.frm b x (by show upd w1.H a o b = some x; rw [upd_ne hb]; exact h1) h2 h3
    have hb2 : b ≠ d := fun z => by subst z; rw [hd] at q1; cases q1
    exact ⟨(get b hb hb2).trans q1, q2, q3⟩
  · by_cases hb : b = a
    · rw [hb]; exact ha
    · by_cases hb2 : b = d
      · subst hb2
        rw [show (⟨w'.F, upd (del (upd (upd w'.H b u) a v) a) b x0, w'.A⟩ : Wd).H b = some x0 from gd] at h
        cases h
      · have := l.grow b ((get b hb hb2).symm.trans h)
        have z : upd w1.H a o b = none := this
        rw [upd_ne hb] at z
        exact z
  · have hb : b ≠ a := fun z => by subst z; rw [nF] at h; cases h
    have q := hr.ex b x h
    have hb2 : b ≠ d := fun z => by subst z; rw [hd] at q; cases q
    exact (get b hb hb2).trans q
  · obtain ⟨x, q⟩ := hr.som b h
    exact ⟨x, (get b (fun z => by subst z; exact nA h) (fun z => by subst z; exact dA h)).trans q⟩
  · obtain ⟨q1, vs, q2, q3⟩ := hr.cel n xs b h1 hc h2
    have hm := List.mem_of_getElem? h2
    exact ⟨q1, vs, (get b (fun z => by subst z; exact nA hm) (fun z => by subst z; exact dA hm)).trans q2, q3⟩
section
variable {X : Cx} {W : WX} {c : Str} {e : Expr} {es : List Expr} {p pos pos' : Pos} {ms : Tau → Sto → R (List D)} {k : Nat} {fd : FuncData} {ps : List Str}
theorem c_raise (hc : X.calm = true) (tk : Takes X W) (T : XFct X.K c) (F1 : FnOk X.prog X.w X.K X.mg X.base (L2.CX X.prog X.w) k (He.ma X.K (He.ga X.K c) "__init__") fd ps (spX X.K c)) (hr : Room (k + 1) X.A) (hb : Binds X.K fd ps [])
    (hg : Gl X c) (hm : X.mg c = some (.ref (He.ga X.K c))) (hdb : (c == ("__debug__" : Str)) = false) (hn : ∀ x ∈ e :: es, noStar x = true) (hs : PA X (e :: es) (tAs X.K W ms)) :
    PS X (.Raise (some (.Call (.Name c p) (e :: es) [] pos)) none pos') (tC X.K W fun τ S => (ms τ S).st τ fun xs S1 => if excOk c xs then .exc c xs τ S1 else .stuck) :=
  (ps_raise hc tk (pmk_oex T.ox T.ini T.tin F1 hr hb .nil (fun pins σ H s e s' I ⟨_, _, _, _, _, _, _, _, _, _, _, _, f⟩ => f.elim) hg hm hs hdb (star_of (hn e List.mem_cons_self) _ _) (plain_of fun x hx => hn x (List.mem_cons_of_mem _ hx)))).imp fun D σ H ⟨w, τ, S, hH, hr, hsg, h⟩ => by
    subst hH
    refine tAs.go hr hsg h fun xs S1 vs w1 l1 r1 i1 h1 => ?_
    by_cases hx : excOk c xs = true
    · rw [if_pos hx] at h1
      have hlen := excOk_len hx
      refine ⟨?_, fun a ha => ?_⟩
      · have : (fldNames c).length ≤ 2 := by unfold fldNames; split <;> first | decide | (split <;> first | decide | (split <;> first | decide | (split <;> first | decide | (split <;> first | decide | (split <;> decide)))))
        rw [← i1.len]; omega
      · rw [List.append_nil]
        refine ⟨by rw [List.length_cons, ← i1.len]; omega, a, vs, ⟨w1.F, upd w1.H a (exo a (He.ga X.K c) none), w1.A⟩, xs, S1, rfl, rfl, r1.grow ha, i1, hx, upd_same, fresh_F r1 ha, fresh_A r1 ha, fun d w' l r' ha' nF nA hd ne => ?_⟩
        refine ⟨rfl, d, ((fldNames c).zip vs).reverse, upd_same, ?_, ?_, ?_⟩
        · rw [upd_ne ne, upd_same]
        · have q : upd w1.H a (exo a (He.ga X.K c) none) d = none := l.grow d hd
          rw [upd_ne ne] at q
          exact q
        · obtain ⟨l3, r3⟩ := raised (u := exd d ((fldNames c).zip vs).reverse) (v := exo a (He.ga X.K c) (some d)) (x0 := .xd ((fldNames c).zip vs).reverse) ha l r' nF nA hd ne
          exact h1 σ _ _ _ l3 r3 ((hsg.mono l1).mono l3) ⟨rfl, d, vs, rfl, upd_same, i1.le l3, hlen⟩
    · rw [if_neg hx] at h1; exact h1.elim
end
end Pi
end
section
set_option Elab.async false
set_option linter.all false
set_option maxRecDepth 100000
set_option maxHeartbeats 4000000
/-! Pi, part J: what the laws' own helper says of a caught error. -/
namespace Pi
open PySem PySem.Spec PyProof.Rows L2
/-! ### defs that are called in an except suite with its error -/
def SpF := Addr → Value → Option Addr → Sp
structure FnF (P : Program) (w : World) (K : Fg) (mg : Str → Option Value) (base : Heap) (CX : CXT) (k : Nat) (f : Addr) (fd : FuncData) (ps : List Str) (sp : SpF) : Prop where
  len : ∀ a cls d vs H Q E, sp a cls d vs H Q E → vs.length = ps.length
  run : ∀ (A : Around) (outer : List Env) (s : Shared) (H : Hp) (args : Args) (us : List Value) (vs : List V) (Q : VK) (E : XK) (a : Addr) (oe : Obj) (cls : Value) (d : Option Addr), L2H.RoomH k A → L2H.PinOk outer H s (a, oe) → Zc cls d oe → (∃ vs, oe.data = .fields vs) →
    Env0 P w K mg base A outer s H → BindsTo s fd args (ps.zip us) → Vals vs us → sp a cls d vs H Q E → codeAny (model P w) A (.call (.ref f) args) (CR CX outer P w H s Q E) s
theorem fn_ofF {CX : CXT} {P : Program} {w : World} {K : Fg} {mg : Str → Option Value} {base : Heap} {k : Nat} {f : Addr} {name qual : Str} {params : Arguments} {body : List Stmt} {scope : Scope} {dV kV doc pm cdv ct oc : Value} {an od : Option Addr}
    {osl : Array (Option Value)} {N ps : List Str} {sp : SpF} (lk : K.lookup f = some ⟨oc, od, .func (PySem.W.fnOf name qual params body scope dV kV doc pm an cdv ct), osl⟩) (hcd : PySem.W.codeIn K cdv qual = true) (S : FnScope N ps scope)
    (len : ∀ a cls d vs H Q E, sp a cls d vs H Q E → vs.length = ps.length)
    (hbody : ∀ (A : Around) (outer : List Env) (s : Shared) (H : Hp) (vs : List V) (Q : VK) (E : XK) (a : Addr) (oe : Obj) (cls : Value) (d : Option Addr), Zc cls d oe → (∃ vs, oe.data = .fields vs) → L2H.RoomH k (A.deeper (envOfC qual scope s.heap.objs.size f cdv)) → sp a cls d vs H Q E →
      ∃ t, PSs (L2H.cxH CX P w K mg base N qual scope f cdv A outer s H E (a, oe)) body t ∧ t { nx := fun _ H' => Q .non H', rt := Q } (L2.start N vs) H) :
    FnF P w K mg base CX (k + 1) f (PySem.W.fnOf name qual params body scope dV kV doc pm an cdv ct) ps sp := by
  refine ⟨len, fun A outer s H args us vs Q E a oe cls d hr hpin hz hf e0 hb r hsp => ?_⟩
  have hl := len _ _ _ _ _ _ _ hsp
  have KX : K.In s.heap := e0.mod.kin.keeps fun b o e => (e0.bs b o e).1
  have lim : s.heap.NoLimit := e0.mod.nolimit.keeps fun b o e => (e0.bs b o e).1
  have hkind : ∀ y ∈ ps.zip us, scope.names.lookup y.1 = some .local ∨ (scope.names.lookup y.1 = some .cell ∧ ((cellsFrom (s.heap.objs.size + 1) scope.names []).lookup y.1).isSome = true) := fun ⟨n, v⟩ hy => by
    rcases S.par n (List.of_mem_zip hy).1 with q | q
    · exact .inl q
    · exact .inr ⟨q, PySem.W.cellsFrom_some _ _ _ (.inl q)⟩
  refine codeAny_call_function hr.depth (KX _ _ lk) rfl S.co S.gen rfl (PySem.W.codeRec_of KX hcd) (hb _ _ _ _ ?_)
  refine wpAny_newFunctionEnv_cells S.kind hkind fun env he s1 x => ?_
  subst he
  refine ⟨lim.keeps x.toInCall.keep, codeAny_func ?_⟩
  obtain ⟨t, ht, hq⟩ := hbody A outer s H vs Q E a oe cls d hz hf (hr.deeper _) hsp
  have I : Inv (L2H.cxH CX P w K mg base N qual scope f cdv A outer s H E (a, oe)) [] (L2.start N vs) H s1 := L2H.inv_startH S hpin e0 hl r x
  refine wpAny_mono (ht.run [] s1 (L2.start N vs) H _ I hq) (fun fl s' hs => ?_) fun e s' hs => hs
  have fin : ∀ {σ' : L2.St} {H' : Hp} {v : V} {u : Value}, Inv (L2H.cxH CX P w K mg base N qual scope f cdv A outer s H E (a, oe)) [] σ' H' s' → RelV v u → Q v H' → CE outer P w H s Q u s' :=
    fun {σ' H' v u} J rv q => ⟨v, H', J.os, J.bare, J.base, J.hok, rv, q⟩
  cases fl with
  | ret u =>
    obtain ⟨v, σ', H', J, rv, q⟩ := hs
    exact fin J rv q
  | next =>
    obtain ⟨σ', H', J, q⟩ := hs
    exact fin (v := V.non) (u := Value.none) J rfl q
  | brk =>
    obtain ⟨_, _, _, q⟩ := hs
    exact False.elim q
  | cont =>
    obtain ⟨_, _, _, q⟩ := hs
    exact False.elim q
section
variable {X : Cx} {CX : CXT} {k : Nat} {f : Addr} {fd : FuncData} {ps : List Str} {sp : SpF} {E : L2.St → XK} {x : Str} {q pos : Pos} {e : Expr} {es : List Expr} {t : TA} {a : Addr} {oe : Obj} {cls : Value} {d : Option Addr} {pn : List (Addr × Obj)}
theorem run_fnF {pins : List (Addr × Obj)} {σ : L2.St} {H : Hp} {s : Shared} {Q : VK} {us : List Value} {vs : List V} (F : FnF X.prog X.w X.K X.mg X.base CX k f fd ps sp) (hr : L2H.RoomH k X.A) (hp : (a, oe) ∈ X.pn) (hz : Zc cls d oe) (hf : ∃ vs, oe.data = .fields vs) (hb : Binds X.K fd ps []) (hx : PassesAt CX X σ (E σ))
    (I : Inv X pins σ H s) (r : Vals vs us) (h : sp a cls d vs H Q (E σ)) : wpAny (model X.prog X.w) X.A (call (.ref f) us) (EP X pins σ Q) X.xe s := by
  have hl : us.length = ps.length := by rw [← r.length]; exact F.len _ _ _ _ _ _ _ h
  have b := hb s us I.kIn (by rw [List.append_nil]; exact hl)
  rw [List.append_nil] at b
  have P1 := I.pin (a, oe) (List.mem_append_left _ hp)
  have hpin : L2H.PinOk X.stack H s (a, oe) := ⟨P1.1, P1.2.1, fun hm => (List.mem_cons.mp (I.stkSub _ hm)).elim P1.2.2.1 P1.2.2.2.1, P1.2.2.2.2⟩
  refine wpAny_call (codeAny_mono (F.run X.A X.stack s H ⟨us, []⟩ us vs Q (E σ) a oe cls d hr hpin hz hf I.env0 b r h) fun r s' hq => ?_)
  cases r with
  | error e => exact hx pins H s e s' I hq
  | ok fl =>
    cases fl with
    | ret u => exact I.after hq
    | next => exact False.elim hq
    | brk => exact False.elim hq
    | cont => exact False.elim hq
theorem pe_callF (F : FnF X.prog X.w X.K X.mg X.base CX k f fd ps sp) (hr : L2H.RoomH k X.A) (hp : (a, oe) ∈ X.pn) (hz : Zc cls d oe) (hf : ∃ vs, oe.data = .fields vs) (hg : Gl X x) (hm : X.mg x = some (.ref f)) (hk : PySem.W.keepIn X.K (.ref f) = true) (hb : Binds X.K fd ps []) (hx : ∀ σ, PassesAt CX X σ (E σ))
    (ha : PA X (e :: es) t) (hdb : (x == ("__debug__" : Str)) = false) (he : starEach (e :: es) X.env = (false, eval e X.env) :: starEach es X.env) (hpl : (backTo pos (starEach es X.env)).any (·.1) = false) :
    PE X (.Call (.Name x q) (e :: es) [] pos) (tCallS (sp a cls d) E t) := by
  refine ⟨fun pins s σ H Q I h => ?_⟩
  refine wpAny_Call_Name_kw (ld_glob I hg hm ?_ hdb)
  refine PySem.W.callWith_K (h₀ := X.base) I.ok.mod.kin hk (thn (ha.run pos pins s σ H _ I h) fun us s1 ⟨vs, H1, I1, r, q⟩ => ⟨I1.kIn, ?_⟩) he hpl
  exact run_fnF F hr hp hz hf hb (hx σ) I1 r q
end
/-! ### the helper's body -/
section
variable {X : Cx} {a dd C : Addr} {oe : Obj} {p p1 p2 p3 p4 p5 p6 p7 p8 p9 p10 p11 : Pos}
theorem inst_at {pins : List (Addr × Obj)} {σ : L2.St} {H : Hp} {s : Shared} {kvs : List (Str × V)} (I : Inv X pins σ H s) (hp : (a, oe) ∈ X.pn) (hz : Zc (.ref C) (some dd) oe) (hf : ∃ vs, oe.data = .fields vs) (hd : H dd = some (.xd kvs)) : ∃ od, PySem.W.InstAt s.heap a oe C (some od) := by
  obtain ⟨hget, _⟩ := I.pin (a, oe) (List.mem_append.mpr (.inl hp))
  obtain ⟨vs, hv⟩ := hf
  have hx : ObjOk X.prog X.w H s.heap dd (.xd kvs) := I.hok dd _ hd
  obtain ⟨mA, hns, hr⟩ := hx
  obtain ⟨od, ho, hl⟩ := lookIn_ns hns
  refine ⟨od, ?_⟩
  obtain ⟨oc, od', oda, osl⟩ := oe
  obtain ⟨h1, h2⟩ := hz
  dsimp only at h1 h2 hv
  subst h1 h2 hv
  exact ⟨hget, rfl, rfl, ho⟩
/-- isinstance(error, c) -/
def rIsX (K : Fg) (C a dd : Addr) : List V → Hp → VK → Prop := fun xs H Q => ∃ (c : V) (cv : Value) (b : Bool) (kvs : List (Str × V)), xs = [.ref a, c] ∧ (∀ u, RelV c u → u = cv) ∧ PySem.W.kitOne K (.ref C) cv = some b ∧ H dd = some (.xd kvs) ∧ Q (.bl b) H
theorem call_isX (T : ExcC X.K C) (hp : (a, oe) ∈ X.pn) (hz : Zc (.ref C) (some dd) oe) (hf : ∃ vs, oe.data = .fields vs) : CallR X (.builtin "isinstance") (rIsX X.K C a dd) := by
  intro pins s σ H xs us Q I r h
  obtain ⟨c, cv, b, kvs, rfl, hcv, e, hd, q⟩ := h
  cases r with
  | cons rx rr =>
    cases rr with
    | cons rt rr =>
      cases rr
      cases rx
      have ec := hcv _ rt
      subst ec
      obtain ⟨od, J⟩ := inst_at I hp hz hf hd
      have hcl : (PySem.W.clsIn X.K C).isSome = true := by
        obtain ⟨cd, hc, _⟩ := PySem.W.any_some T.hd
        rw [hc]; rfl
      exact PySem.W.kia_one (PySem.W.kitx_exc hcl T.hg T.hk T.hs T.ha T.hn T.ht T.hm) I.kIn J e (fun z => nomatch z) fun tk => ⟨.bl b, H, I.kept (t' := tk) fun _ _ z => z, rfl, q⟩
/-- error.f -/
def tXg (a dd : Addr) (f : Str) (te : TE) : TE := fun σ H Q => te σ H fun x H1 => x = .ref a ∧ ∃ (kvs : List (Str × V)) (v : V), H1 dd = some (.xd kvs) ∧ kvs.lookup f = some v ∧ Q v H1
theorem pe_xg {e : Expr} {te : TE} {pos : Pos} {n : Str} (T : XfC X.K C) (hno : PySem.W.findIn X.K (.ref C) n = some none) (hp : (a, oe) ∈ X.pn) (hz : Zc (.ref C) (some dd) oe) (hf : ∃ vs, oe.data = .fields vs) (he : PE X e te)
    (hb : attributeBase e n X.env (eval e X.env) = eval e X.env) : PE X (.Attribute e n pos) (tXg a dd n te) := by
  refine ⟨fun pins s σ H Q I h => ?_⟩
  refine attr_of hb (thn (he.run pins s σ H _ I h) fun u s1 hh => ?_)
  obtain ⟨x, H1, I1, rx, ex, kvs, v, ea, l, q⟩ := hh
  subst ex
  obtain rfl : u = Value.ref a := rx
  obtain ⟨ha, _⟩ := I1.pin (a, oe) (List.mem_append_left _ hp)
  obtain ⟨vs, hd⟩ := hf
  have hx : ObjOk X.prog X.w H1 s1.heap dd (.xd kvs) := I1.hok dd _ ea
  obtain ⟨mA, hns, hr⟩ := hx
  obtain ⟨od, ho, hl⟩ := lookIn_ns hns
  obtain ⟨u, hu, ru⟩ := RelO.some_of (v := v) (o := mA n) (by rw [← l]; exact hr n)
  have J : PySem.W.InstAt s1.heap a oe C (some od) := ⟨ha, hz.1, by unfold PySem.W.notCls; rw [hd] <;> rfl, by rw [hz.2]; exact ho⟩
  exact HandSPX.exc_get I1.kIn J T.ga T.gg T.exC (PySem.W.findObj_own T.hdC hno rfl (by rw [hl, hu])) (handed_of ru) ⟨v, H1, I1.tok _, ru, q⟩
end

def isiB (x : Str) : Expr → Bool
  | .Call (.Name i _) [.Name e _, .Name y _] [] _ => i == ("isinstance" : Str) && (e == ("error" : Str) && y == x)
  | _ => false
theorem isiB_ok {x : Str} {e : Expr} (h : isiB x e = true) : ∃ p1 p2 p3 p4, e = .Call (.Name "isinstance" p1) [.Name "error" p2, .Name x p3] [] p4 := by
  unfold isiB at h
  split at h
  · obtain ⟨h1, h⟩ := Bool.and_eq_true_iff.mp h
    obtain ⟨h2, h3⟩ := Bool.and_eq_true_iff.mp h
    cases beq_iff_eq.mp h1
    cases beq_iff_eq.mp h2
    cases beq_iff_eq.mp h3
    exact ⟨_, _, _, _, rfl⟩
  · cases h
def fldsB : List Str → List Expr → Bool
  | [], [] => true
  | f :: fs, .Attribute (.Name e _) g _ :: r => e == ("error" : Str) && (g == f && fldsB fs r)
  | _, _ => false
theorem fldsB_cons {f : Str} {fs : List Str} {es : List Expr} (h : fldsB (f :: fs) es = true) : ∃ p q r, es = .Attribute (.Name "error" p) f q :: r ∧ fldsB fs r = true := by
  cases es with
  | nil => cases h
  | cons e r =>
    cases e with
    | Attribute o g q =>
      cases o with
      | Name x p =>
        obtain ⟨h1, h⟩ := Bool.and_eq_true_iff.mp (show (x == ("error" : Str) && (g == f && fldsB fs r)) = true from h)
        obtain ⟨h2, h3⟩ := Bool.and_eq_true_iff.mp h
        cases beq_iff_eq.mp h1
        cases beq_iff_eq.mp h2
        exact ⟨_, _, _, rfl, h3⟩
      | _ => cases h
    | _ => cases h
theorem fldsB_nil {es : List Expr} (h : fldsB [] es = true) : es = [] := by
  cases es with
  | nil => rfl
  | cons _ _ => cases h
def clauseB (x : Str) (fs : List Str) : Stmt → Bool
  | .If c [.Expr (.Call (.Attribute (.Name fo _) ap p6) [.Tuple (.Constant (.str z) _ _ :: flds) _ _] [] p9) _] [] _ => isiB x c && (fo == ("found" : Str) && (ap == ("append" : Str) && (z == x && ((p6.endLine == p9.line) && fldsB fs flds))))
  | _ => false
theorem clauseB_ok {x : Str} {fs : List Str} {s : Stmt} (h : clauseB x fs s = true) : ∃ c p5 p6 j p7 flds k p8 p9 p10 p11, s = .If c [.Expr (.Call (.Attribute (.Name "found" p5) "append" p6) [.Tuple (.Constant (.str x) j p7 :: flds) k p8] [] p9) p10] [] p11 ∧ isiB x c = true ∧ (p6.endLine == p9.line) = true ∧ fldsB fs flds = true := by
  unfold clauseB at h
  split at h
  · obtain ⟨h1, h⟩ := Bool.and_eq_true_iff.mp h
    obtain ⟨h2, h⟩ := Bool.and_eq_true_iff.mp h
    obtain ⟨h3, h⟩ := Bool.and_eq_true_iff.mp h
    obtain ⟨h4, h⟩ := Bool.and_eq_true_iff.mp h
    obtain ⟨h5, h6⟩ := Bool.and_eq_true_iff.mp h
    cases beq_iff_eq.mp h2
    cases beq_iff_eq.mp h3
    cases beq_iff_eq.mp h4
    exact ⟨_, _, _, _, _, _, _, _, _, _, _, rfl, h1, h5, h6⟩
  · cases h
/-- what the walk of the helper leans on -/
structure FltCx (X : Cx) (c : Str) (a dd : Addr) (oe : Obj) : Prop where
  hp : (a, oe) ∈ X.pn
  hz : Zc (.ref (He.ga X.K c)) (some dd) oe
  hf : ∃ vs, oe.data = .fields vs
  ec : ExcC X.K (He.ga X.K c)
  xf : XfC X.K (He.ga X.K c)
  no : ∀ f ∈ fldNames c, PySem.W.findIn X.K (.ref (He.ga X.K c)) f = some none
  N : X.N = [("error" : Str), "found"]
  v0 : Vis X.env.scope "error"
  v1 : X.env.scope.names.lookup ("found" : Str) = some .local
  gi : Gl X "isinstance"
  mi : X.mg "isinstance" = none
section
variable {X : Cx} {a dd : Addr} {oe : Obj} {c : Str}
theorem FltCx.e0 (T : FltCx X c a dd oe) : X.N[0]? = some ("error" : Str) := by rw [T.N]; rfl
theorem FltCx.e1 (T : FltCx X c a dd oe) : X.N[1]? = some ("found" : Str) := by rw [T.N]; rfl
/-- isinstance(error, x) as a test -/
theorem flt_isi (T : FltCx X c a dd oe) {x : Str} {e : Expr} {b : Bool} {v : V} {cv : Value} (h : isiB x e = true) (hx : ∀ p, PE X (.Name x p) (L2.tC v)) (hcv : ∀ u, RelV v u → u = cv) (hk : PySem.W.kitOne X.K (.ref (He.ga X.K c)) cv = some b) :
    PT X e (fun σ H Q => σ[0]? = some (some (.ref a)) ∧ ∃ kvs, H dd = some (.xd kvs) ∧ Q b H) := by
  obtain ⟨p1, p2, p3, p4, rfl⟩ := isiB_ok h
  refine (pt_val (pe_callB (call_isX T.ec T.hp T.hz T.hf) T.gi T.mi (by decide +kernel) (pa_cons (pe_var T.e0 T.v0) (pa_cons (hx p3) pa_nil rfl) rfl) (by decide) (by decide) rfl rfl) fun _ => rfl).imp fun σ H Q ⟨h0, kvs, hd, q⟩ => ?_
  exact ⟨_, h0, v, cv, b, kvs, rfl, hcv, hk, hd, b, rfl, q⟩
/-- the fields, one behind another -/
theorem flt_flds (T : FltCx X c a dd oe) : ∀ {fs : List Str} {es : List Expr}, (∀ f ∈ fs, f ∈ fldNames c) → fldsB fs es = true →
    PA X es (fun σ H Q => σ[0]? = some (some (.ref a)) ∧ ∃ kvs vs, H dd = some (.xd kvs) ∧ fs.map (fun f => kvs.lookup f) = vs.map some ∧ Q vs H)
  | [], es, _, h => by
    cases fldsB_nil h
    exact pa_nil.imp fun σ H Q ⟨_, kvs, vs, _, e, q⟩ => by
      cases vs with
      | nil => exact q
      | cons _ _ => cases e
  | f :: fs, es, hm, h => by
    obtain ⟨p, q, r, rfl, h'⟩ := fldsB_cons h
    refine (pa_cons (pe_xg T.xf (T.no f (hm f List.mem_cons_self)) T.hp T.hz T.hf (pe_var T.e0 T.v0) (base_of rfl _ _ _)) (flt_flds T (fun g hg => hm g (List.mem_cons_of_mem _ hg)) h') rfl).imp fun σ H Q ⟨h0, kvs, vs, hd, e, q⟩ => ?_
    cases vs with
    | nil => cases e
    | cons v vs =>
      obtain ⟨e1, e2⟩ := List.cons.inj e
      exact ⟨_, h0, rfl, kvs, v, hd, e1, h0, kvs, vs, hd, e2, q⟩
theorem flt_no (T : FltCx X c a dd oe) {x : Str} {fs : List Str} {s : Stmt} (h : clauseB x fs s = true) (hg : Gl X x) (hm : X.mg x = some (.ref (He.ga X.K x))) (hdb : (x == ("__debug__" : Str)) = false) (hk : PySem.W.kitOne X.K (.ref (He.ga X.K c)) (.ref (He.ga X.K x)) = some false) :
    PS X s (fun D σ H => σ[0]? = some (some (.ref a)) ∧ ∃ kvs, H dd = some (.xd kvs) ∧ D.nx σ H) := by
  obtain ⟨e, p5, p6, j, p7, flds, k, p8, p9, p10, p11, rfl, h1, h2, h3⟩ := clauseB_ok h
  refine (ps_if (flt_isi (v := .ref (He.ga X.K x)) T h1 (fun p => pe_glob hg hm rfl hdb) (fun u r => r) hk) (t := fun _ _ _ => False) ⟨fun _ _ _ _ _ _ f => f.elim⟩ pss_nil).imp fun D σ H ⟨h0, kvs, hd, q⟩ => ?_
  exact ⟨h0, kvs, hd, iteF q⟩

theorem flt_yes (T : FltCx X c a dd oe) {fs : List Str} {s : Stmt} (h : clauseB c fs s = true) (hfs : fs = fldNames c) (hg : Gl X c) (hm : X.mg c = some (.ref (He.ga X.K c))) (hdb : (c == ("__debug__" : Str)) = false) (hk : PySem.W.kitOne X.K (.ref (He.ga X.K c)) (.ref (He.ga X.K c)) = some true) :
    PS X s (fun D σ H => σ[0]? = some (some (.ref a)) ∧ ∃ l kvs ws, σ[1]? = some (some (.ref l)) ∧ H dd = some (.xd kvs) ∧ H l = some (.lst []) ∧ fs.map (fun f => kvs.lookup f) = ws.map some ∧ ws.length ≤ 10 ∧ ∀ p, H p = none → D.nx σ (upd (upd H p (.tup (.str c :: ws))) l (.lst [.ref p]))) := by
  obtain ⟨e, p5, p6, j, p7, flds, k, p8, p9, p10, p11, rfl, h1, h2, h3⟩ := clauseB_ok h
  refine (ps_if (flt_isi (v := .ref (He.ga X.K c)) T h1 (fun p => pe_glob hg hm rfl hdb) (fun u r => r) hk)
    (pss_cons (ps_expr (pe_bm PySem.F.plainAttrs_list PySem.F.slot_list_append PySem.F.type_list_append (show MtR X "list.append" rAppend from mt_append) (pe_var T.e1 (.inl T.v1)) (pa_cons (pe_tup (pa_cons pe_str (flt_flds T (by rw [hfs]; exact fun f hf => hf) h3) rfl)) pa_nil rfl) (base_of rfl _ _ _) (few_of (by simp [noStar]) (by simp)) h2 rfl rfl) (swaps_of rfl _ _ _)) pss_nil) pss_nil).imp fun D σ H ⟨h0, l, kvs, ws, h1', hd, hl, e1, e2, q⟩ => ?_
  refine ⟨h0, kvs, hd, iteT ?_⟩
  refine ⟨_, h1', .inl ⟨rfl, _, lstAt_sq hl⟩, h0, kvs, ws, hd, e1, ?_, fun p hp => ?_⟩
  · refine smax_line ?_
    rw [smax_eq, List.length_cons]
    omega
  · refine ⟨l, [], .ref p, rfl, rfl, ?_, smax_lt (by rw [smax_eq]; decide), ?_⟩
    · rw [upd_ne (ne_of_none hl hp)]; exact hl
    · exact q p hp
def clausesB : List (Str × List Str) → List Stmt → Bool
  | [], [] => true
  | q :: L, s :: r => clauseB q.1 q.2 s && clausesB L r
  | _, _ => false
structure NameOk (X : Cx) (c x : Str) : Prop where
  g : Gl X x
  m : X.mg x = some (.ref (He.ga X.K x))
  d : (x == ("__debug__" : Str)) = false
  k : PySem.W.kitOne X.K (.ref (He.ga X.K c)) (.ref (He.ga X.K x)) = some (decide (x = c))
theorem flt_none (T : FltCx X c a dd oe) {rest : List Stmt} {tr : TS} (hr : PSs X rest tr) : ∀ {L : List (Str × List Str)} {ss : List Stmt}, clausesB L ss = true → (∀ q ∈ L, NameOk X c q.1 ∧ q.1 ≠ c) →
    PSs X (ss ++ rest) (fun D σ H => σ[0]? = some (some (.ref a)) ∧ ∃ kvs, H dd = some (.xd kvs) ∧ tr D σ H)
  | [], ss, h, _ => by
    cases ss with
    | nil => exact hr.imp fun D σ H ⟨_, _, _, q⟩ => q
    | cons _ _ => cases h
  | q :: L, ss, h, hn => by
    cases ss with
    | nil => cases h
    | cons s r =>
      obtain ⟨h1, h2⟩ := Bool.and_eq_true_iff.mp (show (clauseB q.1 q.2 s && clausesB L r) = true from h)
      obtain ⟨n, ne⟩ := hn q List.mem_cons_self
      exact (pss_cons (flt_no T h1 n.g n.m n.d (by rw [n.k, decide_eq_false ne])) (flt_none T hr h2 fun x hx => hn x (List.mem_cons_of_mem _ hx))).imp fun D σ H ⟨h0, kvs, hd, q⟩ => ⟨h0, kvs, hd, h0, kvs, hd, q⟩
theorem flt_some (T : FltCx X c a dd oe) {rest : List Stmt} {tr : TS} (hr : PSs X rest tr) : ∀ {L : List (Str × List Str)} {ss : List Stmt}, clausesB L ss = true → (∀ q ∈ L, NameOk X c q.1) → (L.map (·.1)).Nodup → (c, fldNames c) ∈ L →
    PSs X (ss ++ rest) (fun D σ H => σ[0]? = some (some (.ref a)) ∧ ∃ l kvs ws, σ[1]? = some (some (.ref l)) ∧ H dd = some (.xd kvs) ∧ H l = some (.lst []) ∧ (fldNames c).map (fun f => kvs.lookup f) = ws.map some ∧ ws.length ≤ 10 ∧ ∀ p, H p = none → tr D σ (upd (upd H p (.tup (.str c :: ws))) l (.lst [.ref p])))
  | [], ss, h, _, _, m => by cases m
  | q :: L, ss, h, hn, nd, m => by
    cases ss with
    | nil => cases h
    | cons s r =>
      obtain ⟨h1, h2⟩ := Bool.and_eq_true_iff.mp (show (clauseB q.1 q.2 s && clausesB L r) = true from h)
      have n := hn q List.mem_cons_self
      rw [List.map_cons, List.nodup_cons] at nd
      by_cases ne : q.1 = c
      · have eq : q = (c, fldNames c) := by
          rcases List.mem_cons.mp m with e | e
          · exact e.symm
          · exact absurd (List.mem_map.mpr ⟨_, e, rfl⟩) (by rw [ne] at nd; exact nd.1)
        subst eq
        refine (pss_cons (flt_yes T h1 rfl n.g n.m n.d (by rw [n.k]; simp)) (flt_none T hr h2 fun x hx => ⟨hn x (List.mem_cons_of_mem _ hx), fun e => nd.1 (List.mem_map.mpr ⟨x, hx, e⟩)⟩)).imp fun D σ H ⟨h0, l, kvs, ws, h1', hd, hl, e1, e2, q⟩ => ?_
        refine ⟨h0, l, kvs, ws, h1', hd, hl, e1, e2, fun p hp => ⟨h0, kvs, ?_, q p hp⟩⟩
        rw [upd_ne (fun z => by subst z; rw [hd] at hl; cases hl), upd_ne (ne_of_none hd hp)]
        exact hd
      · have m' : (c, fldNames c) ∈ L := by
          rcases List.mem_cons.mp m with e | e
          · exact absurd (by rw [← e]) ne
          · exact e
        exact (pss_cons (flt_no T h1 n.g n.m n.d (by rw [n.k, decide_eq_false ne])) (flt_some T hr h2 (fun x hx => hn x (List.mem_cons_of_mem _ hx)) nd.2 m')).imp fun D σ H ⟨h0, l, kvs, ws, h1', hd, q⟩ => ⟨h0, kvs, hd, h0, l, kvs, ws, h1', hd, q⟩

def tailB : List Stmt → Bool
  | [.If (.BoolOp .Or [.UnaryOp .Not e1 _, .UnaryOp .Not e2 _, .Compare (.Call (.Name ln _) [.Name fo _] [] _) [.NotEq] [.Constant (.int n) _ _] _] _) [.Return (some (.Tuple [.Constant (.str _) _ _] _ _)) _] [] _, .Return (some (.Subscript (.Name fo2 _) (.Constant (.int m) _ _) _)) _] =>
    isiB "HighError" e1 && (isiB "ValueError" e2 && (ln == ("len" : Str) && (fo == ("found" : Str) && (decide (n = 1) && (fo2 == ("found" : Str) && decide (m = 0))))))
  | _ => false
theorem flt_tail (T : FltCx X c a dd oe) {ss : List Stmt} (h : tailB ss = true) (hu : X.A.units + 65 < cLine) (gl : Gl X "len") (ml : X.mg "len" = none) (gv : Gl X "ValueError") (mv : X.mg "ValueError" = none)
    (gh : Gl X "HighError") (mh : X.mg "HighError" = some (.ref (He.ga X.K "HighError"))) (kh : PySem.W.kitOne X.K (.ref (He.ga X.K c)) (.ref (He.ga X.K "HighError")) = some true) (kv : PySem.W.kitOne X.K (.ref (He.ga X.K c)) (.type "ValueError") = some true) :
    PSs X ss (fun D σ H => σ[0]? = some (some (.ref a)) ∧ ∃ l kvs p, σ[1]? = some (some (.ref l)) ∧ H dd = some (.xd kvs) ∧ H l = some (.lst [.ref p]) ∧ D.rt (.ref p) H) := by
  unfold tailB at h
  split at h
  · obtain ⟨h1, h⟩ := Bool.and_eq_true_iff.mp h
    obtain ⟨h2, h⟩ := Bool.and_eq_true_iff.mp h
    obtain ⟨h3, h⟩ := Bool.and_eq_true_iff.mp h
    obtain ⟨h4, h⟩ := Bool.and_eq_true_iff.mp h
    obtain ⟨h5, h⟩ := Bool.and_eq_true_iff.mp h
    obtain ⟨h6, h7⟩ := Bool.and_eq_true_iff.mp h
    cases beq_iff_eq.mp h3
    cases beq_iff_eq.mp h4
    cases beq_iff_eq.mp h6
    cases of_decide_eq_true h5
    cases of_decide_eq_true h7
    have hlen : ∀ p q r, PE X (.Call (.Name "len" p) [.Name "found" q] [] r) (tCB (fun xs H Q => ∃ x n, xs = [x] ∧ LenV X.K x H n ∧ Q (.int n) H) (tCons (tVar 1) tNil)) := fun _ _ _ => pe_callB call_len gl ml (by decide +kernel) (pa_cons (pe_var T.e1 (.inl T.v1)) pa_nil rfl) (by decide) (by decide) rfl rfl
    refine (pss_cons (ps_if (PW.pt (pw_or (pt_not (flt_isi (v := .ref (He.ga X.K "HighError")) T h1 (fun p => pe_glob gh mh rfl (by decide)) (fun u r => r) kh))
      (pw_or (pt_not (flt_isi (v := .ty "ValueError") T h2 (fun p => pe_bltn gv mv PyProof.Rows.Boot.«ValueError» rfl (by decide) (by decide)) (fun u r => r) kv)) (pw_or1 (pt_cmpR op_ne (hlen _ _ _) pe_int (nobehind _ (by decide) (by decide))))))) (t := fun _ _ _ => False) ⟨fun _ _ _ _ _ _ f => f.elim⟩ pss_nil)
      (pss_cons (ps_ret (pe_ix ix_list (pe_var T.e1 (.inl T.v1)) pe_int (plainIx_ok rfl))) pss_nil)).imp fun D σ H ⟨h0, l, kvs, p, h1', hd, hl, q⟩ => ?_
    refine ⟨h0, kvs, hd, iteF ⟨h0, kvs, hd, iteF ?_⟩⟩
    refine ⟨_, h1', _, 1, rfl, .inl ⟨_, lstAt_sq hl, rfl⟩, rfl, false, by simp, iteF ?_⟩
    exact ⟨_, h1', l, [.ref p], 0, .ref p, rfl, rfl, lstAt_sq hl, rfl, q⟩
  · cases h

def errs : List (Str × List Str) := [("TooMany", ["what"]), ("BadText", ["line"]), ("BadPlant", ["line", "what"]), ("BadCode", ["row", "what"]), ("BadMove", ["number", "what"]), ("BadTrace", ["what"]), ("BadPaper", ["line"]), ("BadSeats", ["what"]), ("BadDisk", ["number"]), ("BadDeed", ["what"])]
def faultB : List Stmt → Bool
  | .Assign [.Name f _] (.List [] _) _ :: rest => f == ("found" : Str) && (clausesB errs (rest.take 10) && tailB (rest.drop 10))
  | _ => false
theorem errs_nd : (errs.map (·.1)).Nodup := by decide +kernel
theorem errs_mem {c : Str} (h : kindX c ≠ 9) : (c, fldNames c) ∈ errs := by
  have key : c = "TooMany" ∨ c = "BadTrace" ∨ c = "BadSeats" ∨ c = "BadDeed" ∨ c = "BadText" ∨ c = "BadPaper" ∨ c = "BadDisk" ∨ c = "BadPlant" ∨ c = "BadCode" ∨ c = "BadMove" := by
    unfold kindX at h
    split at h
    · rename_i z
      rcases z with z | z | z | z <;> simp [z]
    · split at h
      · rename_i z
        rcases z with z | z | z <;> simp [z]
      · split at h
        · rename_i z
          rcases z with z | z | z <;> simp [z]
        · exact absurd rfl h
  rcases key with rfl | rfl | rfl | rfl | rfl | rfl | rfl | rfl | rfl | rfl <;> decide +kernel
theorem flt_body (T : FltCx X c a dd oe) (hN : X.N.Nodup) {ss : List Stmt} (h : faultB ss = true) (hk : kindX c ≠ 9) (hn : ∀ q ∈ errs, NameOk X c q.1) (hu : X.A.units + 65 < cLine) (gl : Gl X "len") (ml : X.mg "len" = none) (gv : Gl X "ValueError") (mv : X.mg "ValueError" = none)
    (gh : Gl X "HighError") (mh : X.mg "HighError" = some (.ref (He.ga X.K "HighError"))) (kh : PySem.W.kitOne X.K (.ref (He.ga X.K c)) (.ref (He.ga X.K "HighError")) = some true) (kv : PySem.W.kitOne X.K (.ref (He.ga X.K c)) (.type "ValueError") = some true) :
    PSs X ss (fun D σ H => σ = [some (.ref a), none] ∧ ∃ kvs ws, H dd = some (.xd kvs) ∧ (fldNames c).map (fun f => kvs.lookup f) = ws.map some ∧ ws.length ≤ 10 ∧
      ∀ l p, H l = none → upd H l (.lst []) p = none → D.rt (.ref p) (upd (upd (upd H l (.lst [])) p (.tup (.str c :: ws))) l (.lst [.ref p]))) := by
  unfold faultB at h
  split at h
  · obtain ⟨h1, h⟩ := Bool.and_eq_true_iff.mp h
    obtain ⟨h2, h3⟩ := Bool.and_eq_true_iff.mp h
    cases beq_iff_eq.mp h1
    rename_i rest _
    rw [← List.take_append_drop 10 rest]
    refine (pss_cons (ps_set hN T.e1 (.inl T.v1) (pe_lst pa_nil) (swaps_of rfl _ _ _) (.inr T.v1)) (flt_some T (flt_tail T h3 hu gl ml gv mv gh mh kh kv) h2 hn errs_nd (errs_mem hk))).imp fun D σ H ⟨hs, kvs, ws, hd, e1, e2, q⟩ => ?_
    subst hs
    refine ⟨smax_line (by decide), fun l hl => ?_⟩
    refine ⟨rfl, l, kvs, ws, rfl, ?_, upd_same, e1, e2, fun p hp => ?_⟩
    · rw [upd_ne (ne_of_none hd hl)]; exact hd
    · refine ⟨rfl, l, kvs, p, rfl, ?_, upd_same, q l p hl hp⟩
      rw [upd_ne (fun z => by subst z; rw [hd] at hl; cases hl), upd_ne, upd_ne (ne_of_none hd hl)]
      · exact hd
      · intro z
        subst z
        rw [upd_ne (ne_of_none hd hl), hd] at hp
        cases hp
  · cases h
/-- what the helper promises -/
def spFlt (K : Fg) : SpF := fun a cls d vs H Q E => vs = [.ref a] ∧ ∃ (c : Str) (ws : List V) (dd : Addr), kindX c ≠ 9 ∧ cls = .ref (He.ga K c) ∧ d = some dd ∧ H dd = some (.xd ((fldNames c).zip ws).reverse) ∧ ws.length = (fldNames c).length ∧
  ∀ l p, H l = none → upd H l (.lst []) p = none → Q (.ref p) (upd (upd (upd H l (.lst [])) p (.tup (.str c :: ws))) l (.lst [.ref p]))
theorem fld_cases {c : Str} (h : kindX c ≠ 9) : (∃ f, fldNames c = [f]) ∨ ∃ f g, fldNames c = [f, g] ∧ f ≠ g := by
  have m := errs_mem h
  generalize e : fldNames c = l at m
  clear e
  simp only [errs, List.mem_cons, Prod.mk.injEq, List.not_mem_nil, or_false] at m
  rcases m with ⟨_, rfl⟩ | ⟨_, rfl⟩ | ⟨_, rfl⟩ | ⟨_, rfl⟩ | ⟨_, rfl⟩ | ⟨_, rfl⟩ | ⟨_, rfl⟩ | ⟨_, rfl⟩ | ⟨_, rfl⟩ | ⟨_, rfl⟩
  all_goals first
    | exact .inl ⟨_, rfl⟩
    | exact .inr ⟨_, _, rfl, by decide⟩
theorem fld_look {c : Str} (h : kindX c ≠ 9) {ws : List V} (hl : ws.length = (fldNames c).length) : (fldNames c).map (fun f => ((fldNames c).zip ws).reverse.lookup f) = ws.map some ∧ ws.length ≤ 10 := by
  rcases fld_cases h with ⟨f, e⟩ | ⟨f, g, e, ne⟩
  · rw [e] at hl ⊢
    match ws, hl with
    | [v], _ => exact ⟨by simp [List.lookup], by simp⟩
    | [], z => simp at z
    | _ :: _ :: _, z => simp at z
  · rw [e] at hl ⊢
    match ws, hl with
    | [v, u], _ =>
      refine ⟨?_, by simp⟩
      have e1 : (f == g) = false := by simpa using ne
      simp [List.lookup, e1]
    | [], z => simp at z
    | [_], z => simp at z
    | _ :: _ :: _ :: _, z => simp at z
end
end Pi
end
section
set_option Elab.async false
set_option linter.all false
set_option maxRecDepth 100000
set_option maxHeartbeats 4000000
/-! Pi, part K: try .. except HighError as e: return _law_fault(e). -/
namespace Pi
open PySem PySem.Spec PyProof.Rows L2
theorem faultD_ok {c : Str} {fs : List D} {d : D} (h : faultD c fs = some d) : kindX c ≠ 9 ∧ d = .tup (.str c :: fs) := by
  match fs, h with
  | [x], h =>
    have h' : (if c = "TooMany" ∨ c = "BadText" ∨ c = "BadTrace" ∨ c = "BadPaper" ∨ c = "BadSeats" ∨ c = "BadDisk" ∨ c = "BadDeed" then some (D.tup [.str c, x]) else none) = some d := h
    split at h'
    · rename_i z
      cases h'
      refine ⟨?_, rfl⟩
      rcases z with rfl | rfl | rfl | rfl | rfl | rfl | rfl <;> decide
    · cases h'
  | [x, y], h =>
    have h' : (if c = "BadPlant" ∨ c = "BadCode" ∨ c = "BadMove" then some (D.tup [.str c, x, y]) else none) = some d := h
    split at h'
    · rename_i z
      cases h'
      refine ⟨?_, rfl⟩
      rcases z with rfl | rfl | rfl <;> decide
    · cases h'
  | [], h => cases h
  | _ :: _ :: _ :: _, h => cases h
/-- what the ground says of the errors' classes -/
structure KFct (K : Fg) (mg : Str → Option Value) : Prop where
  x : ∀ c, kindX c ≠ 9 → XFct K c
  ec : ∀ c, kindX c ≠ 9 → ExcC K (He.ga K c)
  xf : ∀ c, kindX c ≠ 9 → XfC K (He.ga K c)
  m : ∀ c, kindX c ≠ 9 → mg c = some (.ref (He.ga K c))
  ex : ∀ c, kindX c ≠ 9 → PySem.W.exmOne K (.ref (He.ga K c)) (.ref (He.ga K "HighError")) = some true
  k : ∀ c x, kindX c ≠ 9 → kindX x ≠ 9 → PySem.W.kitOne K (.ref (He.ga K c)) (.ref (He.ga K x)) = some (decide (x = c))
  kh : ∀ c, kindX c ≠ 9 → PySem.W.kitOne K (.ref (He.ga K c)) (.ref (He.ga K "HighError")) = some true
  kv : ∀ c, kindX c ≠ 9 → PySem.W.kitOne K (.ref (He.ga K c)) (.type "ValueError") = some true
  h : HFct K
  mh : mg "HighError" = some (.ref (He.ga K "HighError"))
  mi : mg "isinstance" = none
  ml : mg "len" = none
  mv : mg "ValueError" = none
theorem PSs.len {X : Cx} {ss : List Stmt} {t : TS} (h : PSs X ss t) : PSs X ss (fun D σ H => σ.length = X.N.length → t D σ H) := ⟨fun pins s σ H D I x => h.run pins s σ H D I (x I.len)⟩
section
variable {X : Cx} {W : WX} {k i : Nat} {n : Str} {fa : Addr} {fd : FuncData} {body : List Stmt} {sb : Tau → Sto → SR} {np q1 q2 q3 q4 pos pos' : Pos}
theorem c_fault (KF : KFct X.K X.mg) (F : FnF X.prog X.w X.K X.mg X.base (L2.CX X.prog X.w) k fa fd [("error" : Str)] (spFlt X.K)) (hr : Room k X.A) (hbd : Binds X.K fd [("error" : Str)] []) (hg : Gl X "_law_fault") (hm : X.mg "_law_fault" = some (.ref fa))
    (hk : PySem.W.keepIn X.K (.ref fa) = true) (hgH : Gl X "HighError") (hs : X.stack = X.env :: X.outer) (hf : X.env.frame = some X.env.locals) (hN : X.N.Nodup) (hi : X.N[i]? = some n) (hln : X.env.scope.names.lookup n = some .local)
    (hdn : (n == ("__debug__" : Str)) = false) (hcn : (n == ("__classdict__" : Str)) = false) (tk : Takes X W)
    (hb : ∀ (W : WX) (pn : List (Addr × Obj)) (xe : Value → Shared → Prop), Takes (X.tr pn xe) W → PassesOwn (model X.prog X.w) X.A X.env xe → PSs (X.tr pn xe) body (tC X.K W sb)) :
    PS X (.Try body [.ExceptHandler (some (.Name "HighError" np)) (some n) [.Return (some (.Call (.Name "_law_fault" q1) [.Name n q2] [] q3)) q4] pos'] [] [] pos)
      (tC X.K W fun τ S => match sb τ S with
        | .exc c fs τ' S' => (match faultD c fs with
          | some d => .ret d S'
          | none => .stuck)
        | r => r) := by
  have hsu : ∀ (a : Addr) (oe : Obj) (cls : Value) (d : Option Addr) (pn : List (Addr × Obj)), Zc cls d oe → (∃ vs, oe.data = .fields vs) → PSs (X.suite a ((a, oe) :: pn)) [.Return (some (.Call (.Name "_law_fault" q1) [.Name n q2] [] q3)) q4]
      (fun D σ H => σ.length = X.N.length → tCallS (spFlt X.K a cls d) (fun _ _ _ _ => False) (tCons (tVar i) tNil) σ H D.rt) := fun a oe cls d pn hz hff => by
    refine PSs.len (X := X.suite a ((a, oe) :: pn)) ((pss_cons (ps_ret (pe_callF (X := X.suite a ((a, oe) :: pn)) (E := fun _ _ _ _ => False) F ⟨hr.dp, hr.un⟩ List.mem_cons_self hz hff hg hm hk hbd (fun σ pins H s e s' I ⟨_, _, _, _, _, _, _, _, _, _, _, _, f⟩ => f.elim)
      (pa_cons (pe_var hi (.inl hln) hdn hcn) pa_nil rfl) (by decide) rfl rfl)) pss_nil).imp fun D σ H h => h)
  refine (ps_try_as hs hf hN hi hln ⟨hgH, by decide, .inl KF.mh⟩ tk hb hsu).imp fun D σ H ⟨w, τ, S, hH, hr, hsg, h⟩ => ⟨w, τ, S, hH, hr, hsg, ?_⟩
  dsimp only at h
  cases e : sb τ S with
  | nx τ' S' => rw [e] at h; exact h
  | ret d S' => rw [e] at h; exact h
  | bk τ' S' => rw [e] at h; exact h
  | ct τ' S' => rw [e] at h; exact h
  | stuck => rw [e] at h; exact h
  | exc c fs τ' S' =>
    rw [e] at h
    dsimp only at h
    cases e2 : faultD c fs with
    | none => rw [e2] at h; exact h.elim
    | some d =>
      rw [e2] at h
      obtain ⟨hk9, rfl⟩ := faultD_ok e2
      intro σ' cls dx w' l r' sg ⟨hcls, d', vs, hdx, hH', hi', hl⟩
      subst hcls
      refine ⟨true, KF.ex c hk9, fun _ a ha hlen => ?_, fun z => nomatch z⟩
      have hil : i < σ'.length := by
        have h1 := (List.getElem?_eq_some_iff.mp hi).1
        rw [List.length_set] at hlen
        omega
      refine ⟨.ref a, List.getElem?_set_self hil, rfl, c, vs, d', hk9, rfl, hdx, hH', by rw [← hi'.len, hl], fun l0 p hl0 hp => ?_⟩
      have hne : p ≠ l0 := fun z => by rw [z, upd_same] at hp; cases hp
      have r1 := r'.grow (o := HO.lst []) hl0
      obtain ⟨r2, l2⟩ := new_frz (o := HO.tup (.str c :: vs)) r1 hp
      have l12 : w'.le ⟨upd w'.F p (HO.tup (.str c :: vs)), upd (upd w'.H l0 (.lst [])) p (HO.tup (.str c :: vs)), w'.A⟩ := (le_grow hl0).trans l2
      have nF : upd w'.F p (HO.tup (.str c :: vs)) l0 = none := by rw [upd_ne (Ne.symm hne)]; exact fresh_F r' hl0
      exact h (.ref p) ⟨upd w'.F p (HO.tup (.str c :: vs)), upd (upd (upd w'.H l0 (.lst [])) p (.tup (.str c :: vs))) l0 (.lst [.ref p]), w'.A⟩ (l.trans (le_foreign l12 hl0)) (r2.foreign nF (fresh_A r' hl0))
        ⟨p, .str c :: vs, rfl, .inl upd_same, .str c, vs, rfl, rfl, hi'.mono (fun b o hb => (upd_ne (fun z => by subst z; rw [show w'.F b = none from fresh_F r1 hp] at hb; cases hb)).trans hb) (List.prefix_refl _)⟩
end
end Pi
end
section
set_option Elab.async false
set_option linter.all false
set_option maxRecDepth 100000
set_option maxHeartbeats 4000000
/-! Pi, part X: dicts, objects, methods. -/
namespace Pi
open PySem PySem.Spec PyProof.Rows L2
/-! ### dicts by keys -/
section
variable {K : Fg} {A : List Addr} {F : Hp}
theorem look_is : ∀ {ks : List Key} {ds : List D} {vs : List V} (j : Key), ks.length = ds.length → IsA K A F ds vs → (lookK ks ds j = none → valV (ks.zip vs) j = none) ∧ ∀ d, lookK ks ds j = some d → ∃ v, valV (ks.zip vs) j = some v ∧ Is K A F d v
  | [], [], _, j, _, _ => ⟨fun _ => rfl, fun d h => (nomatch h)⟩
  | k :: ks, d :: ds, _, j, hl, ⟨v, r, h1, h2, h3⟩ => by
    subst h1
    have ih := look_is (ks := ks) (ds := ds) (vs := r) j (Nat.succ.inj hl) h3
    unfold lookK
    rw [List.zip_cons_cons]
    by_cases e : k = j
    · rw [if_pos e]
      refine ⟨fun h => (nomatch h), fun d' h => ?_⟩
      cases h
      exact ⟨v, valV_pos (p := (k, v)) e, h2⟩
    · rw [if_neg e, valV_neg (p := (k, v)) e]
      exact ih
  | [], _ :: _, _, _, hl, _ => by cases hl
  | _ :: _, [], _, _, hl, _ => by cases hl
theorem any_zip : ∀ {ks : List Key} {vs : List V} (j : Key), ks.length = vs.length → ((ks.zip vs).any fun kv => decide (kv.1 = j)) = ks.any fun k => decide (k = j)
  | [], [], _, _ => rfl
  | k :: ks, v :: vs, j, h => by
    rw [List.zip_cons_cons, List.any_cons, List.any_cons, any_zip j (Nat.succ.inj h)]
  | [], _ :: _, _, h => by cases h
  | _ :: _, [], _, h => by cases h
theorem repl_is {d : D} {v : V} (hd : Is K A F d v) : ∀ {ks : List Key} {ds : List D} {vs : List V} (j : Key), ks.length = ds.length → IsA K A F ds vs → ∃ us, IsA K A F (replK ks ds j d) us ∧ ks.zip us = (ks.zip vs).map (fun kv => if kv.1 = j then (kv.1, v) else kv)
  | [], [], vs, j, _, h => ⟨vs, h, by cases h; rfl⟩
  | k :: ks, d0 :: ds, _, j, hl, ⟨v0, r, h1, h2, h3⟩ => by
    subst h1
    obtain ⟨us, g1, g2⟩ := repl_is hd (ks := ks) (ds := ds) (vs := r) j (Nat.succ.inj hl) h3
    refine ⟨(if k = j then v else v0) :: us, ?_, ?_⟩
    · show IsA K A F ((if k = j then d else d0) :: replK ks ds j d) _
      refine ⟨_, _, rfl, ?_, g1⟩
      by_cases e : k = j
      · rw [if_pos e, if_pos e]; exact hd
      · rw [if_neg e, if_neg e]; exact h2
    · rw [List.zip_cons_cons, List.zip_cons_cons, List.map_cons, g2]
      by_cases e : k = j
      · rw [if_pos e, if_pos e]
      · rw [if_neg e, if_neg e]
  | [], _ :: _, _, _, hl, _ => by cases hl
  | _ :: _, [], _, _, hl, _ => by cases hl
theorem len_repl : ∀ {ks : List Key} {ds : List D} (j : Key) (d : D), ks.length = ds.length → (replK ks ds j d).length = ds.length
  | [], [], _, _, _ => rfl
  | k :: ks, d0 :: ds, j, d, h => by
    show (_ :: replK ks ds j d).length = _
    rw [List.length_cons, List.length_cons, len_repl j d (Nat.succ.inj h)]
  | [], _ :: _, _, _, h => by cases h
  | _ :: _, [], _, _, h => by cases h
theorem put_is {ks : List Key} {ds : List D} {vs : List V} {d : D} {v : V} (j : Key) (hl : ks.length = ds.length) (h : IsA K A F ds vs) (hd : Is K A F d v) :
    ∃ us, IsA K A F (putKD ks ds j d).2 us ∧ (putKD ks ds j d).1.zip us = putK (ks.zip vs) j v ∧ (putKD ks ds j d).1.length = (putKD ks ds j d).2.length := by
  unfold putKD putK
  rw [any_zip j (by rw [hl, h.len])]
  by_cases e : (ks.any fun k => decide (k = j)) = true
  · rw [if_pos e, if_pos e]
    obtain ⟨us, g1, g2⟩ := repl_is hd j hl h
    exact ⟨us, g1, g2, by rw [len_repl j d hl]; exact hl⟩
  · rw [if_neg e, if_neg e]
    refine ⟨vs ++ [v], h.append ⟨v, [], rfl, hd, rfl⟩, ?_, by simp [hl]⟩
    rw [List.zip_append (by rw [hl, h.len])]
    rfl
theorem lookF_is : ∀ {fs : List Str} {ds : List D} {vs : List V} {f : Str} {d : D}, IsA K A F ds vs → lookF fs ds f = some d → ∃ v, (fs.zip vs).lookup f = some v ∧ Is K A F d v
  | f :: fs, d :: ds, _, g, x, ⟨v, r, h1, h2, h3⟩, e => by
    subst h1
    unfold lookF at e
    rw [List.zip_cons_cons, List.lookup_cons]
    by_cases q : g = f
    · rw [if_pos q] at e
      cases e
      rw [show (g == f) = true from beq_iff_eq.mpr q]
      exact ⟨v, rfl, h2⟩
    · rw [if_neg q] at e
      rw [show (g == f) = false from beq_eq_false_iff_ne.mpr q]
      exact lookF_is h3 e
  | [], _, _, _, _, _, e => by cases e
  | _ :: _, [], _, _, _, _, e => by cases e
theorem lookN : ∀ {fs : List Str} {vs : List V} {m : Str}, m ∉ fs → (fs.zip vs).lookup m = none
  | [], _, _, _ => rfl
  | _ :: _, [], _, _ => rfl
  | f :: fs, v :: vs, m, h => by
    rw [List.zip_cons_cons, List.lookup_cons, show (m == f) = false from beq_eq_false_iff_ne.mpr fun e => h (e ▸ List.mem_cons_self)]
    exact lookN fun q => h (List.mem_cons_of_mem _ q)
theorem putFd_is {g : Str} {x : D} {v : V} (hx : Is K A F x v) : ∀ {fs : List Str} {ds : List D} {vs : List V}, fs.length = ds.length → IsA K A F ds vs → ∃ us, IsA K A F (putFd g x fs ds) us ∧ (putFs g fs).zip us = putF g v (fs.zip vs) ∧ (putFs g fs).length = (putFd g x fs ds).length
  | [], [], vs, _, h => by
    cases h
    exact ⟨[v], ⟨v, [], rfl, hx, rfl⟩, rfl, rfl⟩
  | f :: fs, d :: ds, _, hl, ⟨u, r, h1, h2, h3⟩ => by
    subst h1
    rw [List.zip_cons_cons]
    unfold putFd putFs putF
    by_cases q : f = g
    · rw [if_pos q, if_pos q, if_pos q]
      exact ⟨v :: r, ⟨v, r, rfl, hx, h3⟩, by rw [List.zip_cons_cons, q], by rw [List.length_cons, List.length_cons, Nat.succ.inj hl]⟩
    · rw [if_neg q, if_neg q, if_neg q]
      obtain ⟨us, g1, g2, g3⟩ := putFd_is hx (fs := fs) (ds := ds) (vs := r) (Nat.succ.inj hl) h3
      exact ⟨u :: us, ⟨u, us, rfl, h2, g1⟩, by rw [List.zip_cons_cons, g2], by rw [List.length_cons, List.length_cons, g3]⟩
  | [], _ :: _, _, hl, _ => by cases hl
  | _ :: _, [], _, hl, _ => by cases hl
theorem putFs_mem {g f : Str} : ∀ {fs : List Str}, f ∈ putFs g fs → f = g ∨ f ∈ fs
  | [], h => by
    rcases List.mem_cons.mp h with h | h
    · exact .inl h
    · cases h
  | x :: fs, h => by
    unfold putFs at h
    by_cases q : x = g
    · rw [if_pos q] at h; exact .inr h
    · rw [if_neg q] at h
      rcases List.mem_cons.mp h with h | h
      · exact .inr (h ▸ List.mem_cons_self)
      · rcases putFs_mem h with h | h
        · exact .inl h
        · exact .inr (List.mem_cons_of_mem _ h)
theorem keyD_is {y : D} {j : Key} {u : V} (e : keyD y = some j) (h : Is K A F y u) : u = kV j := by
  cases y with
  | int i => cases e; exact h
  | str i => cases e; exact h
  | _ => cases e
end
/-- a dict that is read -/
theorem rdD {K : Fg} {w : Wd} {S : Sto} (hr : Rel K w S) {x : D} {v : V} {q : List Key × List D} (h : Is K w.A w.F x v) (e : getDc S x = some q) :
    ∃ a vs, v = .ref a ∧ w.H a = some (.dK (q.1.zip vs)) ∧ q.1.length = q.2.length ∧ IsA K w.A w.F q.2 vs := by
  cases x with
  | dic ks ds =>
    cases e
    obtain ⟨a, vs, h1, h2, h3, h4⟩ := h
    exact ⟨a, vs, h1, hr.ex _ _ h2, h3, h4⟩
  | loc n =>
    have e' : (match S[n]? with
      | some (L.dct ks ds) => some (ks, ds)
      | _ => none) = some q := e
    cases z : S[n]? with
    | none => rw [z] at e'; cases e'
    | some o =>
      rw [z] at e'
      cases o with
      | dct ks ds =>
        cases e'
        obtain ⟨a, hA, rfl⟩ := h
        obtain ⟨_, o, h1, vs, rfl, h2, h3⟩ := hr.cel n _ a z True.intro hA
        exact ⟨a, vs, rfl, h1, h2, h3⟩
      | dead => cases e'
      | lst _ => cases e'
      | ins _ _ _ _ => cases e'
  | _ => cases e
/-- an object -/
theorem rdO {K : Fg} {w : Wd} {S : Sto} (hr : Rel K w S) {n : Nat} {v : V} {c : Str} {own fs : List Str} {ds : List D} (h : Is K w.A w.F (.loc n) v) (e : S[n]? = some (.ins c own fs ds)) :
    ∃ a dx vs, v = .ref a ∧ w.A[n]? = some a ∧ w.H a = some (.ins (He.ga K c) dx (fs.zip vs)) ∧ fs.length = ds.length ∧ (∀ f ∈ fs, f ∈ own) ∧ ClsF K c own ∧ IsA K w.A w.F ds vs := by
  obtain ⟨a, hA, rfl⟩ := h
  obtain ⟨_, o, h1, dx, vs, rfl, h2, h3, h4, h5⟩ := hr.cel n _ a e True.intro hA
  exact ⟨a, dx, vs, rfl, hA, h1, h2, h3, h4, h5⟩
theorem fldD_some {S : Sto} {x d : D} {f : Str} (e : fldD S x f = some d) : ∃ n c own fs ds, x = .loc n ∧ S[n]? = some (.ins c own fs ds) ∧ f ∈ own ∧ lookF fs ds f = some d := by
  cases x with
  | loc n =>
    have e' : (match S[n]? with
      | some (L.ins _ own fs ds) => if own.contains f then lookF fs ds f else none
      | _ => none) = some d := e
    cases z : S[n]? with
    | none => rw [z] at e'; cases e'
    | some o =>
      rw [z] at e'
      cases o with
      | ins c own fs ds =>
        dsimp only at e'
        split at e'
        · rename_i h
          exact ⟨n, c, own, fs, ds, rfl, z, List.contains_iff_mem.mp h, e'⟩
        · cases e'
      | dead => cases e'
      | lst _ => cases e'
      | dct _ _ => cases e'
  | _ => cases e
theorem insD_some {S : Sto} {x : D} {c : Str} {own : List Str} (e : insD S c own x = true) : ∃ n fs ds, x = .loc n ∧ S[n]? = some (.ins c own fs ds) := by
  cases x with
  | loc n =>
    have e' : (match S[n]? with
      | some (L.ins c' own' _ _) => decide (c' = c ∧ own' = own)
      | _ => false) = true := e
    cases z : S[n]? with
    | none => rw [z] at e'; cases e'
    | some o =>
      rw [z] at e'
      cases o with
      | ins c' own' fs ds =>
        obtain ⟨rfl, rfl⟩ := of_decide_eq_true e'
        exact ⟨n, fs, ds, rfl, z⟩
      | dead => cases e'
      | lst _ => cases e'
      | dct _ _ => cases e'
  | _ => cases e
section
variable {X : Cx} {W : WX} {a b c e f1 o value : Expr} {es : List Expr} {pos apos : Pos} {ma mb mc : Tau → Sto → R D} {ms : Tau → Sto → R (List D)} {f : Str}
/-- e.f -/
theorem e_fld (hs0 : noSuper a = true) (ha : PE X a (tE X.K W ma)) : PE X (.Attribute a f pos) (tE X.K W fun τ S => (ma τ S).bind fun x S1 => .of (fldD S1 x f) S1) :=
  (pe_fld ha (base_of hs0 _ _ _)).imp fun σ H Q ⟨w, τ, S, hH, hr, hs, h⟩ => by
    subst hH
    refine tE.step (p := fun w => okE X.K w Q) hr hs h okE.up fun x S1 v w1 l1 r1 i1 h1 => ?_
    obtain ⟨d, e, k⟩ := Post.of h1
    obtain ⟨n, c, own, fs, ds, rfl, z, hf, hl⟩ := fldD_some e
    obtain ⟨p, dx, vs, rfl, hA, hH, g1, g2, g3, g4⟩ := rdO r1 i1 z
    obtain ⟨u, q1, q2⟩ := lookF_is g4 hl
    exact ⟨p, _, dx, _, u, rfl, hH, g3.cl, g3.na f hf, q1, k u w1 (.refl _) r1 q2⟩
/-! ### calls of methods, new objects -/
theorem run_fnS0 {CX : CXT} {k : Nat} {g : Addr} {fd : FuncData} {ps : List Str} {sp : Sp} {E : XK} {pins : List (Addr × Obj)} {σ : L2.St} {H : Hp} {s : Shared} {Q : VK} {us : List Value} {vs : List V} (F : FnOk X.prog X.w X.K X.mg X.base CX k g fd ps sp) (hr : Room k X.A) (hb : Binds X.K fd ps [])
    (hx : PassesAt CX X σ E) (I : Inv X pins σ H s) (r : Vals vs us) (h : sp vs H Q E) : wpAny (model X.prog X.w) X.A (call (.ref g) us) (EP X pins σ Q) X.xe s :=
  run_fnSD (E := fun _ => E) (dvs := []) (ds := []) F hr hb .nil hx I r (by rw [List.append_nil]; exact h)
def tMethS (C : Addr) (m : Str) (sp : Sp) (E : L2.St → XK) (ta : TE) (t : TA) : TE := fun σ H Q => ta σ H fun x H1 => ∃ a dx fs, x = .ref a ∧ H1 a = some (.ins C dx fs) ∧ fs.lookup m = none ∧
  t σ H1 fun vs H2 => sp (x :: vs) H2 Q (E σ)
def tMakeS (C : Addr) (sp : Sp) (E : L2.St → XK) (t : TA) : TE := fun σ H Q => t σ H fun vs H1 => ∀ x dx, H1 x = none → H1 dx = none → dx ≠ x →
  sp (.ref x :: vs) (upd (upd H1 dx (.own x)) x (.ins C dx [])) (fun v H2 => v = .non ∧ Q (.ref x) H2) (E σ)
section
variable {CX : CXT} {k : Nat} {C g : Addr} {fd : FuncData} {ps : List Str} {sp : Sp} {E : L2.St → XK} {m x : Str} {p : Pos} {ta : TE} {t : TA}
theorem meth_eq0 {o : Expr} {name : Str} {apos pos : Pos} {env : Env} (hbase : attributeBase o name env (eval o env) = eval o env) (hline : (apos.endLine == pos.line) = true) :
    ∃ pl : Sem Bool, eval (.Call (.Attribute o name apos) [] [] pos) env = (do
      let ov ← eval o env
      standAt apos.atName
      let (f, first) ← holding [ov] (getMethod ov name pl)
      callWith pos f first (backTo pos (starEach [] env)) (backToKw pos (keywordEach [] env))) := by
  have hform : methodCallForm (([] : List Expr).length + ([] : List Keyword).length) (backTo pos (starEach [] env)) (backToKw pos (keywordEach [] env)) = true := rfl
  have hpos : methodCallPos true o env apos pos = pure pos := by unfold methodCallPos; simp [hline]
  refine ⟨?_, ?_⟩
  rotate_left
  · rw [arm_eval_Call, hbase]
    unfold methodCall
    rw [hform]
    simp only [hpos, pure_bind]
    rfl
theorem pe_methS2 (he : PE X o ta) (c : Cls X.K C) (hm : Meth X.K C m g) (F : FnOk X.prog X.w X.K X.mg X.base CX k g fd ps sp) (hr : Room k X.A) (hb : Binds X.K fd ps []) (hx : ∀ σ, PassesAt CX X σ (E σ)) (ha : PA X (e :: es) t)
    (hn : ∀ x ∈ e :: es, noStar x = true) (hlen : es.length < 28) (hs0 : noSuper o = true) (hl : (apos.endLine == pos.line) = true) : PE X (.Call (.Attribute o m apos) (e :: es) [] pos) (tMethS C m sp E ta t) := by
  obtain ⟨pl, ht⟩ := meth_eq (o := o) (name := m) (env := X.env) (apos := apos) (pos := pos) (base_of hs0 _ _ _) hn hlen hl
  refine ⟨fun pins s σ H Q I h => ?_⟩
  refine PySem.W.methodCall_KW (pl := pl) (thn (he.run pins s σ H _ I h) fun u s1 ⟨x, H1, I1, rx, a, dx, fs, ex, ea, l, q⟩ => ?_) ht
  subst ex
  obtain rfl : u = Value.ref a := rx
  refine getmeth_ok I1 ea c hm l ?_
  refine PySem.W.callWith_K (first := [.ref a]) (h₀ := X.base) I.ok.mod.kin hm.kp (thn (ha.run pos pins s1 σ H1 _ I1 q) fun us s2 ⟨vs, H2, I2, r, q2⟩ => ⟨I2.kIn, ?_⟩) (star_of (hn e List.mem_cons_self) _ _) (plain_of fun x hx => hn x (List.mem_cons_of_mem _ hx))
  exact run_fnS0 (us := .ref a :: us) (vs := .ref a :: vs) F hr hb (hx σ) I2 (.cons rfl r) q2
theorem pe_methS0 (he : PE X o ta) (c : Cls X.K C) (hm : Meth X.K C m g) (F : FnOk X.prog X.w X.K X.mg X.base CX k g fd ps sp) (hr : Room k X.A) (hb : Binds X.K fd ps []) (hx : ∀ σ, PassesAt CX X σ (E σ))
    (hs0 : noSuper o = true) (hl : (apos.endLine == pos.line) = true) : PE X (.Call (.Attribute o m apos) [] [] pos) (tMethS C m sp E ta tNil) := by
  obtain ⟨pl, ht⟩ := meth_eq0 (o := o) (name := m) (env := X.env) (apos := apos) (pos := pos) (base_of hs0 _ _ _) hl
  refine ⟨fun pins s σ H Q I h => ?_⟩
  refine PySem.W.methodCall_KW (pl := pl) (thn (he.run pins s σ H _ I h) fun u s1 ⟨x, H1, I1, rx, a, dx, fs, ex, ea, l, q⟩ => ?_) ht
  subst ex
  obtain rfl : u = Value.ref a := rx
  refine getmeth_ok I1 ea c hm l ?_
  exact PySem.W.callWith_K0 (first := [.ref a]) I1.kIn hm.kp (run_fnS0 (us := [.ref a]) (vs := [.ref a]) F hr hb (hx σ) I1 (.cons rfl .nil) q)
theorem run_makeS {E : XK} {pins : List (Addr × Obj)} {σ : L2.St} {H : Hp} {s : Shared} {Q : VK} {us : List Value} {vs : List V} (M : Mk X.K C g) (F : FnOk X.prog X.w X.K X.mg X.base CX k g fd ps sp) (hr : Room (k + 1) X.A) (hb : Binds X.K fd ps [])
    (hx : PassesAt CX X σ E) (I : Inv X pins σ H s) (r : Vals vs us)
    (h : ∀ x dx, H x = none → H dx = none → dx ≠ x → sp (.ref x :: vs) (upd (upd H dx (.own x)) x (.ins C dx [])) (fun v H2 => v = .non ∧ Q (.ref x) H2) E) :
    wpAny (model X.prog X.w) X.A (call (.ref C) us) (EP X pins σ Q) X.xe s := by
  have hq := h (s.heap.objs.size + 1) s.heap.objs.size (I.hok.fresh (Nat.le_succ _)) (I.hok.fresh (Nat.le_refl _)) (Nat.ne_of_lt (Nat.lt_succ_self _))
  have I2 := Inv.made (C := C) I
  have r2 : Vals (V.ref (s.heap.objs.size + 1) :: vs) (Value.ref (s.heap.objs.size + 1) :: us) := .cons rfl r
  have hl : (Value.ref (s.heap.objs.size + 1) :: us ++ []).length = ps.length := by
    have e := r2.length
    rw [F.len _ _ _ _ hq] at e
    rw [List.append_nil]
    exact e.symm
  have hbt := hb _ (Value.ref (s.heap.objs.size + 1) :: us) I2.kIn hl
  rw [List.append_nil] at hbt
  refine wpAny_call (make_map (f := g) I.kIn M.makes M.init (beq_iff_eq.mp M.fn) (codeAny_mono (F.run _ X.stack _ _ ⟨Value.ref (s.heap.objs.size + 1) :: us, []⟩ (Value.ref (s.heap.objs.size + 1) :: us) _ _ E (hr.make C us [])
    (I2.env0.make C us []) hbt r2 hq) fun r s' hq' => ?_))
  cases r with
  | error e => exact hx pins _ _ e s' I2 hq'
  | ok fl =>
    cases fl with
    | ret u =>
      obtain ⟨v, H', I3, rv, ev, q3⟩ := I2.after hq'
      subst ev
      exact ⟨rv, ⟨V.ref (s.heap.objs.size + 1), H', I3, rfl, q3⟩⟩
    | next => exact False.elim hq'
    | brk => exact False.elim hq'
    | cont => exact False.elim hq'
theorem pe_makeS (M : Mk X.K C g) (F : FnOk X.prog X.w X.K X.mg X.base CX k g fd ps sp) (hr : Room (k + 1) X.A) (hg : Gl X x) (hm : X.mg x = some (.ref C)) (hb : Binds X.K fd ps []) (hx : ∀ σ, PassesAt CX X σ (E σ))
    (ha : PA X (e :: es) t) (hdb : (x == ("__debug__" : Str)) = false) (hn : ∀ x ∈ e :: es, noStar x = true) :
    PE X (.Call (.Name x p) (e :: es) [] pos) (tMakeS C sp E t) := by
  refine ⟨fun pins s σ H Q I h => ?_⟩
  refine wpAny_Call_Name_kw (ld_glob I hg hm ?_ hdb)
  refine PySem.W.callWith_K (h₀ := X.base) I.ok.mod.kin M.kp (thn (ha.run pos pins s σ H _ I h) fun us s1 ⟨vs, H1, I1, r, q⟩ => ⟨I1.kIn, ?_⟩) (star_of (hn e List.mem_cons_self) _ _) (plain_of fun x hx => hn x (List.mem_cons_of_mem _ hx))
  exact run_makeS M F hr hb (hx σ) I1 r q
theorem pe_makeS0 (M : Mk X.K C g) (F : FnOk X.prog X.w X.K X.mg X.base CX k g fd ps sp) (hr : Room (k + 1) X.A) (hg : Gl X x) (hm : X.mg x = some (.ref C)) (hb : Binds X.K fd ps []) (hx : ∀ σ, PassesAt CX X σ (E σ))
    (hdb : (x == ("__debug__" : Str)) = false) : PE X (.Call (.Name x p) [] [] pos) (tMakeS C sp E tNil) := by
  refine ⟨fun pins s σ H Q I h => ?_⟩
  refine wpAny_Call_Name_kw (ld_glob I hg hm ?_ hdb)
  exact PySem.W.callWith_K0 I.kIn M.kp (run_makeS (us := []) M F hr hb (hx σ) I .nil h)
end
section
variable {k np i : Nat} {cn m x : Str} {own : List Str} {g : Addr} {fd : FuncData} {ps : List Str} {mm : List D → Sto → R D} {p : Pos}
/-- from the reading of a call of a method to what core says -/
theorem meth_imp {ta : TA} (hts : ∀ σ H Q, tAs X.K W ms σ H Q → ta σ H Q) (hm : m ∉ own) (hnp : ∀ xs S, xs.length ≠ np → mm xs S = .stuck) {σ : L2.St} {H : Hp} {Q : VK}
    (h : tE X.K W (fun τ S => (ma τ S).bind fun x S1 => if insD S1 cn own x = true then (ms τ S1).bind fun xs S2 => mm (x :: xs) S2 else .stuck) σ H Q) : tMethS (He.ga X.K cn) m (spM X.K np mm) (WE W) (tE X.K W ma) ta σ H Q := by
  obtain ⟨w, τ, S, hH, hr, hs, h⟩ := h
  subst hH
  refine tE.step (p := fun w => okE X.K w Q) hr hs h okE.up fun x S1 v w1 l1 r1 i1 h1 => ?_
  by_cases hi : insD S1 cn own x = true
  · rw [if_pos hi] at h1
    obtain ⟨n, fs, ds, rfl, z⟩ := insD_some hi
    obtain ⟨p, dx, vs, rfl, hA, hH, g1, g2, g3, g4⟩ := rdO r1 i1 z
    refine ⟨p, dx, _, rfl, hH, lookN fun q => hm (g2 _ q), hts _ _ _ ?_⟩
    refine tAs.step (p := fun w => okE X.K w Q) r1 (hs.mono l1) h1 okE.up fun xs S2 us w2 l2 r2 i2 h2 => ?_
    by_cases hl : (D.loc n :: xs).length = np
    · exact ⟨by rw [List.length_cons, ← i2.len]; exact hl, w2, .loc n :: xs, S2, rfl, r2, ⟨_, _, rfl, i1.le l2, i2⟩, h2.mono (fun d S3 q => q) fun c fs S3 q cls dx w3 l3 r3 i3 => q cls dx w3 l3 r3 i3⟩
    · rw [hnp _ S2 hl] at h2
      exact h2.elim
  · rw [if_neg hi] at h1
    exact h1.elim
theorem e_meth (tk : Takes X W) (cl : Cls X.K (He.ga X.K cn)) (hM : Meth X.K (He.ga X.K cn) m g) (F : FnOk X.prog X.w X.K X.mg X.base (L2.CX X.prog X.w) k g fd ps (spM X.K np mm)) (hr : Room k X.A) (hb : Binds X.K fd ps [])
    (hn : ∀ x ∈ e :: es, noStar x = true) (hlen : es.length < 28) (hs0 : noSuper o = true) (hl : (apos.endLine == pos.line) = true) (hm : m ∉ own) (hnp : ∀ xs S, xs.length ≠ np → mm xs S = .stuck) (ha : PE X o (tE X.K W ma)) (hs : PA X (e :: es) (tAs X.K W ms)) :
    PE X (.Call (.Attribute o m apos) (e :: es) [] pos) (tE X.K W fun τ S => (ma τ S).bind fun x S1 => if insD S1 cn own x = true then (ms τ S1).bind fun xs S2 => mm (x :: xs) S2 else .stuck) :=
  (pe_methS2 (E := WE W) ha cl hM F hr hb (fun σ => passAt tk σ) hs hn hlen hs0 hl).imp fun σ H Q h => meth_imp (fun _ _ _ h => h) hm hnp h
theorem e_meth0 (tk : Takes X W) (cl : Cls X.K (He.ga X.K cn)) (hM : Meth X.K (He.ga X.K cn) m g) (F : FnOk X.prog X.w X.K X.mg X.base (L2.CX X.prog X.w) k g fd ps (spM X.K np mm)) (hr : Room k X.A) (hb : Binds X.K fd ps [])
    (hs0 : noSuper o = true) (hl : (apos.endLine == pos.line) = true) (hm : m ∉ own) (hnp : ∀ xs S, xs.length ≠ np → mm xs S = .stuck) (ha : PE X o (tE X.K W ma)) :
    PE X (.Call (.Attribute o m apos) [] [] pos) (tE X.K W fun τ S => (ma τ S).bind fun x S1 => if insD S1 cn own x = true then (R.ok ([] : List D) S1).bind fun xs S2 => mm (x :: xs) S2 else .stuck) :=
  (pe_methS0 (E := WE W) ha cl hM F hr hb (fun σ => passAt tk σ) hs0 hl).imp fun σ H Q h => meth_imp (ms := fun _ S => .ok [] S) (fun σ H Q ⟨w, τ, S, hH, hr, hs, h⟩ => by
    subst hH
    exact h [] w (.refl _) hr rfl) hm hnp h
theorem make_imp {ta : TA} (hts : ∀ σ H Q, tAs X.K W ms σ H Q → ta σ H Q) (hc : ClsF X.K cn own) (hnp : ∀ xs S, xs.length ≠ np → mm xs S = .stuck) {σ : L2.St} {H : Hp} {Q : VK}
    (h : tE X.K W (fun τ S => (ms τ S).bind fun xs S1 => (mm (.loc S1.length :: xs) (S1 ++ [.ins cn own [] []])).bind fun y S2 => match y with
      | .non => .ok (.loc S1.length) S2
      | _ => .stuck) σ H Q) : tMakeS (He.ga X.K cn) (spM X.K np mm) (WE W) ta σ H Q := by
  obtain ⟨w, τ, S, hH, hr, hs, h⟩ := h
  subst hH
  refine hts _ _ _ ?_
  refine tAs.step (p := fun w => okE X.K w Q) hr hs h okE.up fun xs S1 vs w1 l1 r1 i1 h1 => ?_
  intro x dx nx ndx ne
  have ndx' : upd w1.H dx (.own x) x = none := by rw [upd_ne (Ne.symm ne)]; exact nx
  have r2 := r1.grow (o := .own x) ndx
  have l2 : w1.le ⟨w1.F, upd w1.H dx (.own x), w1.A⟩ := le_grow ndx
  have r3 := r2.grow (p := x) (o := .ins (He.ga X.K cn) dx []) ndx'
  have l3 : w1.le ⟨w1.F, upd (upd w1.H dx (.own x)) x (.ins (He.ga X.K cn) dx []), w1.A⟩ := l2.trans (le_grow (w := ⟨w1.F, upd w1.H dx (.own x), w1.A⟩) ndx')
  obtain ⟨r4, l4⟩ := r3.ownC (p := x) (c := .ins cn own [] []) (o := .ins (He.ga X.K cn) dx []) upd_same (fresh_F r1 nx) (fresh_A r1 nx) ⟨dx, [], rfl, rfl, nofun, hc, rfl⟩
  have l5 := l4 w1 l3 nx
  have hget : (w1.A ++ [x])[S1.length]? = some x := by
    rw [← r1.len, List.getElem?_append_right (Nat.le_refl _), Nat.sub_self]
    rfl
  by_cases hl : (D.loc S1.length :: xs).length = np
  · refine ⟨by rw [List.length_cons, ← i1.len]; exact hl, ⟨w1.F, upd (upd w1.H dx (.own x)) x (.ins (He.ga X.K cn) dx []), w1.A ++ [x]⟩, .loc S1.length :: xs, S1 ++ [.ins cn own [] []], rfl, r4, ⟨_, _, rfl, ⟨x, hget, rfl⟩, i1.le l5⟩, ?_⟩
    refine h1.bind.mono (fun d S3 q => ?_) fun c fs S3 q cls dx' w3 l6 r6 i6 => q cls dx' w3 (l5.trans l6) r6 i6
    cases d with
    | non =>
      intro v w3 l6 r6 i6
      cases i6
      exact ⟨rfl, q (.ref x) w3 (l5.trans l6) r6 ⟨x, pre_get l6.pre hget, rfl⟩⟩
    | _ => exact q.elim
  · rw [hnp _ _ hl] at h1
    exact h1.elim
theorem e_new (tk : Takes X W) (M : Mk X.K (He.ga X.K cn) g) (hc : ClsF X.K cn own) (F : FnOk X.prog X.w X.K X.mg X.base (L2.CX X.prog X.w) k g fd ps (spM X.K np mm)) (hr : Room (k + 1) X.A) (hb : Binds X.K fd ps []) (hg : Gl X cn) (hm : X.mg cn = some (.ref (He.ga X.K cn)))
    (hdb : (cn == ("__debug__" : Str)) = false) (hn : ∀ x ∈ e :: es, noStar x = true) (hnp : ∀ xs S, xs.length ≠ np → mm xs S = .stuck) (hs : PA X (e :: es) (tAs X.K W ms)) :
    PE X (.Call (.Name cn p) (e :: es) [] pos) (tE X.K W fun τ S => (ms τ S).bind fun xs S1 => (mm (.loc S1.length :: xs) (S1 ++ [.ins cn own [] []])).bind fun y S2 => match y with
      | .non => .ok (.loc S1.length) S2
      | _ => .stuck) :=
  (pe_makeS (E := WE W) M F hr hg hm hb (fun σ => passAt tk σ) hs hdb hn).imp fun σ H Q h => make_imp (fun _ _ _ h => h) hc hnp h
theorem e_new0 (tk : Takes X W) (M : Mk X.K (He.ga X.K cn) g) (hc : ClsF X.K cn own) (F : FnOk X.prog X.w X.K X.mg X.base (L2.CX X.prog X.w) k g fd ps (spM X.K np mm)) (hr : Room (k + 1) X.A) (hb : Binds X.K fd ps []) (hg : Gl X cn) (hm : X.mg cn = some (.ref (He.ga X.K cn)))
    (hdb : (cn == ("__debug__" : Str)) = false) (hnp : ∀ xs S, xs.length ≠ np → mm xs S = .stuck) :
    PE X (.Call (.Name cn p) [] [] pos) (tE X.K W fun τ S => (R.ok ([] : List D) S).bind fun xs S1 => (mm (.loc S1.length :: xs) (S1 ++ [.ins cn own [] []])).bind fun y S2 => match y with
      | .non => .ok (.loc S1.length) S2
      | _ => .stuck) :=
  (pe_makeS0 (E := WE W) M F hr hg hm hb (fun σ => passAt tk σ) hdb).imp fun σ H Q h => make_imp (ms := fun _ S => .ok [] S) (fun σ H Q ⟨w, τ, S, hH, hr, hs, h⟩ => by
    subst hH
    exact h [] w (.refl _) hr rfl) hc hnp h
end
end
end Pi
end
section
set_option Elab.async false
set_option linter.all false
set_option maxRecDepth 100000
set_option maxHeartbeats 4000000
/-! Pi, part Y: dicts made, read, stored to; attributes stored to. -/
namespace Pi
open PySem PySem.Spec PyProof.Rows L2
section
variable {K : Fg} {w : Wd} {S : Sto} {Q : VK}
/-- a new dict, frozen or in the store -/
theorem new_dct (hr : Rel K w S) {p : Addr} {ks : List Key} {ds : List D} {vs : List V} (np : w.H p = none) (hl : ks.length = ds.length) (hx : IsA K w.A w.F ds vs) (lv : Bool)
    (k : Post (if lv then R.ok (D.loc S.length) (S ++ [.dct ks ds]) else R.ok (D.dic ks ds) S) (okE K w Q) q) : Q (.ref p) (upd w.H p (.dK (ks.zip vs))) := by
  cases lv with
  | false =>
    have k : okE K w Q (.dic ks ds) S := k
    obtain ⟨r2, l2⟩ := new_frz hr (o := .dK (ks.zip vs)) np
    exact k (.ref p) ⟨upd w.F p _, upd w.H p _, w.A⟩ l2 r2 ⟨p, vs, rfl, upd_same, hl, hx.mono l2.ex l2.pre⟩
  | true =>
    have k : okE K w Q (.loc S.length) (S ++ [.dct ks ds]) := k
    have r1 := hr.grow (o := .dK (ks.zip vs)) np
    obtain ⟨r2, l2⟩ := r1.ownC (p := p) (c := .dct ks ds) upd_same (fresh_F hr np) (fresh_A hr np) ⟨vs, rfl, hl, hx⟩
    refine k (.ref p) ⟨w.F, upd w.H p _, w.A ++ [p]⟩ (l2 w (le_grow np) np) r2 ⟨p, ?_, rfl⟩
    rw [← hr.len, List.getElem?_append_right (Nat.le_refl _), Nat.sub_self]
    rfl
theorem copyK_snoc {ks0 : List Key} {ds0 : List D} (k : Key) : ∀ (ks : List Key) (a : List Key × List D), copyK ks0 ds0 (ks ++ [k]) a = putKD (copyK ks0 ds0 ks a).1 (copyK ks0 ds0 ks a).2 k ((lookK ks0 ds0 k).getD .non)
  | [], a => rfl
  | j :: ks, a => copyK_snoc k ks _
theorem putKD_len (ks : List Key) (ds : List D) (k : Key) (d : D) : (putKD ks ds k d).1.length ≤ ks.length + 1 := by
  unfold putKD
  split
  · exact Nat.le_succ _
  · rw [List.length_append]; exact Nat.le_refl _
theorem lookK_mem : ∀ {ks : List Key} {ds : List D} {i : Nat} {k : Key}, ks.length = ds.length → ks[i]? = some k → ∃ d, lookK ks ds k = some d
  | k0 :: ks, d :: ds, i, k, hl, h => by
    unfold lookK
    by_cases e : k0 = k
    · rw [if_pos e]; exact ⟨d, rfl⟩
    · rw [if_neg e]
      cases i with
      | zero => exact absurd (Option.some.inj h) e
      | succ i => exact lookK_mem (i := i) (Nat.succ.inj hl) h
  | [], _, i, k, _, h => by cases i <;> cases h
  | _ :: _, [], _, _, hl, _ => by cases hl
theorem zip_get {ks : List Key} {vs : List V} {i : Nat} {k : Key} {v : V} (h : (ks.zip vs)[i]? = some (k, v)) : ks[i]? = some k := by
  rw [List.getElem?_zip_eq_some] at h
  exact h.1
end
section
variable {X : Cx} {W : WX} {a b c e f1 o value : Expr} {pos apos : Pos} {ma mb mc : Tau → Sto → R D} {f : Str}
theorem e_dnil (lv : Bool) : PE X (.Dict [] [] pos) (tE X.K W fun _ S => if lv then .ok (.loc S.length) (S ++ [.dct [] []]) else .ok (.dic [] []) S) :=
  pe_dnewK.imp fun σ H Q ⟨w, τ, S, hH, hr, hs, h⟩ => by
    subst hH
    exact fun p np => new_dct (ks := []) (ds := []) (vs := []) hr np rfl rfl lv h
theorem isD_is {K : Fg} {w : Wd} {S : Sto} (hr : Rel K w S) {x : D} {v : V} {q : List Key × List D} (h : Is K w.A w.F x v) (e : getDc S x = some q) : ∃ a, v = .ref a ∧ IsD w.H a := by
  obtain ⟨a, vs, rfl, hH, _⟩ := rdD hr h e
  exact ⟨a, rfl, .inl ⟨_, .inl hH⟩⟩
/-- d.get(k, e) -/
theorem e_get2 (hu : X.A.units + 1 < cLine) (hn1 : noStar b = true) (hn2 : noStar c = true) (hs0 : noSuper a = true) (hl : (apos.endLine == pos.line) = true) (ha : PE X a (tE X.K W ma)) (hb : PE X b (tE X.K W mb)) (hc : PE X c (tE X.K W mc)) :
    PE X (.Call (.Attribute a "get" apos) [b, c] [] pos) (tE X.K W fun τ S => (ma τ S).bind fun x S1 => match getDc S1 x with
    | some _ => (mb τ S1).bind fun y S2 => (mc τ S2).bind fun z S3 => (match getDc S3 x, keyD y with
      | some q, some j => .ok ((lookK q.1 q.2 j).getD z) S3
      | _, _ => .stuck)
    | none => .stuck) :=
  (pe_dget2 hu ha hb hc ⟨base_of hs0 _ _ _, few_of (by simp [hn1, hn2]) (by simp), hl, by rw [star_of hn1, star_of hn2]; rfl⟩).imp fun σ H Q ⟨w, τ, S, hH, hr, hs, h⟩ => by
    subst hH
    refine tE.step (p := fun w => okE X.K w Q) hr hs h okE.up fun x S1 v w1 l1 r1 i1 h1 => ?_
    cases e1 : getDc S1 x with
    | none => rw [e1] at h1; exact h1.elim
    | some q1 =>
      rw [e1] at h1
      obtain ⟨p, rfl, hd⟩ := isD_is r1 i1 e1
      refine ⟨p, rfl, hd, ?_⟩
      refine tE.step (p := fun w => okE X.K w Q) r1 (hs.mono l1) h1 okE.up fun y S2 u w2 l2 r2 i2 h2 => ?_
      refine tE.step (p := fun w => okE X.K w Q) r2 (hs.mono (l1.trans l2)) h2 okE.up fun z S3 t w3 l3 r3 i3 h3 => ?_
      cases e3 : getDc S3 x with
      | none => rw [e3] at h3; exact h3.elim
      | some q3 =>
        rw [e3] at h3
        cases ek : keyD y with
        | none => rw [ek] at h3; exact h3.elim
        | some j =>
          rw [ek] at h3
          obtain ⟨p', vs, e4, hH, hl4, hv⟩ := rdD r3 (i1.le (l2.trans l3)) e3
          cases e4
          rw [keyD_is ek i2]
          refine ⟨_, DGet.k hH, ?_⟩
          obtain ⟨g1, g2⟩ := look_is j hl4 hv
          cases el : lookK q3.1 q3.2 j with
          | none =>
            rw [g1 el]
            dsimp only at h3
            rw [el] at h3
            exact h3 _ w3 (.refl _) r3 i3
          | some d =>
            obtain ⟨v', q1', q2'⟩ := g2 d el
            rw [q1']
            dsimp only at h3
            rw [el] at h3
            exact h3 _ w3 (.refl _) r3 q2'
theorem ownK_some {S : Sto} {x : D} {q : Nat × List Key × List D} (e : ownK S x = some q) : x = .loc q.1 ∧ S[q.1]? = some (.dct q.2.1 q.2.2) := by
  cases x with
  | loc n =>
    have e' : (match S[n]? with
      | some (L.dct ks ds) => some (n, ks, ds)
      | _ => none) = some q := e
    cases z : S[n]? with
    | none => rw [z] at e'; cases e'
    | some o =>
      rw [z] at e'
      cases o with
      | dead => cases e'
      | lst _ => cases e'
      | ins _ _ _ _ => cases e'
      | dct ks ds => cases e'; exact ⟨rfl, z⟩
  | _ => cases e
theorem ownI_some {S : Sto} {x : D} {q : Nat × Str × List Str × List Str × List D} (e : ownI S x = some q) : x = .loc q.1 ∧ S[q.1]? = some (.ins q.2.1 q.2.2.1 q.2.2.2.1 q.2.2.2.2) := by
  cases x with
  | loc n =>
    have e' : (match S[n]? with
      | some (L.ins c own fs ds) => some (n, c, own, fs, ds)
      | _ => none) = some q := e
    cases z : S[n]? with
    | none => rw [z] at e'; cases e'
    | some o =>
      rw [z] at e'
      cases o with
      | dead => cases e'
      | lst _ => cases e'
      | dct _ _ => cases e'
      | ins c own fs ds => cases e'; exact ⟨rfl, z⟩
  | _ => cases e
theorem le_putC {K : Fg} {w : Wd} {n : Nat} {a : Addr} {o : HO} (hA : w.A[n]? = some a) : w.le ⟨w.F, upd w.H a o, w.A⟩ := ⟨Evl.Ex.refl _, List.prefix_refl _, fun b u h1 h2 h3 => ⟨by
  show upd w.H a o b = some u
  rw [upd_ne (fun z => by subst z; exact h3 (List.mem_of_getElem? hA))]
  exact h1, h2, h3⟩, fun b h => by
  by_cases hb : b = a
  · subst hb
    have h' : upd w.H b o b = none := h
    rw [upd_same] at h'
    cases h'
  · have h' : upd w.H a o b = none := h
    rw [upd_ne hb] at h'
    exact h'⟩
theorem swaps_attr (e a : Expr) (f : Str) (p : Pos) (l : Nat) (env : Env) : swapsWith e (some (.Attribute a f p)) l env = pure false := by cases e <;> rfl
theorem swaps_sub (e a b : Expr) (p : Pos) (l : Nat) (env : Env) : swapsWith e (some (.Subscript a b p)) l env = pure false := by cases e <;> rfl
/-- a[k] = e, a dict -/
theorem c_setKy {tpos : Pos} (hu : X.A.units + 1 < cLine) (he : PE X e (tE X.K W mc)) (ha : PE X a (tE X.K W ma)) (hb : PE X b (tE X.K W mb)) :
    PS X (.Assign [.Subscript a b tpos] e pos) (tC X.K W fun τ S => (mc τ S).st τ fun y S1 => (ma τ S1).st τ fun x S2 => (mb τ S2).st τ fun z S3 => match ownK S3 x, keyD z with
    | some q, some j => if q.2.1.length < SMAX then .nx τ (S3.set q.1 (.dct (putKD q.2.1 q.2.2 j y).1 (putKD q.2.1 q.2.2 j y).2)) else .stuck
    | _, _ => .stuck) := (ps_dput hu ha hb he (swaps_sub _ _ _ _ _ _)).imp fun D σ H ⟨w, τ, S, hH, hr, hs, h⟩ => by
  subst hH
  refine tE.go hr hs h fun y S1 u w1 l1 r1 i1 h1 => ?_
  refine tE.go r1 (hs.mono l1) h1 fun x S2 v w2 l2 r2 i2 h2 => ?_
  refine tE.go r2 ((hs.mono l1).mono l2) h2 fun k S3 z w3 l3 r3 i3 h3 => ?_
  cases q : ownK S3 x with
  | none => rw [q] at h3; exact h3.elim
  | some q1 =>
    rw [q] at h3
    cases ek : keyD k with
    | none => rw [ek] at h3; exact h3.elim
    | some j =>
      rw [ek] at h3
      dsimp only at h3
      by_cases hz : q1.2.1.length < SMAX
      · rw [if_pos hz] at h3
        obtain ⟨rfl, hS⟩ := ownK_some q
        obtain ⟨p, hA, rfl⟩ := i2.le l3
        obtain ⟨nF, o, hH, vs, rfl, hl, hv⟩ := r3.cel q1.1 _ p hS True.intro hA
        obtain ⟨us, g1, g2, g3⟩ := put_is j hl hv (i1.le (l2.trans l3))
        rw [keyD_is ek i3]
        refine ⟨p, _, rfl, DPut.k hH (by rw [List.length_zip, ← hv.len, ← hl, Nat.min_self]; exact smax_lt hz), ?_⟩
        rw [← g2]
        have r4 := r3.putC (c' := .dct (putKD q1.2.1 q1.2.2 j y).1 (putKD q1.2.1 q1.2.2 j y).2) hS True.intro hA ⟨us, rfl, g3, g1⟩
        exact h3 σ ⟨w3.F, upd w3.H p _, w3.A⟩ (le_putC (K := X.K) hA) r4 ((((hs.mono l1).mono l2).mono l3).mono (le_putC (K := X.K) hA))
      · rw [if_neg hz] at h3; exact h3.elim
/-- a.f = e -/
theorem c_setFd {tpos : Pos} (he : PE X e (tE X.K W mc)) (ha : PE X a (tE X.K W ma)) :
    PS X (.Assign [.Attribute a f tpos] e pos) (tC X.K W fun τ S => (mc τ S).st τ fun y S1 => (ma τ S1).st τ fun x S2 => match ownI S2 x with
    | some q => if q.2.2.1.contains f = true ∧ q.2.2.2.1.length < 900 then .nx τ (S2.set q.1 (.ins q.2.1 q.2.2.1 (putFs f q.2.2.2.1) (putFd f y q.2.2.2.1 q.2.2.2.2))) else .stuck
    | none => .stuck) := (ps_fld ha he (swaps_attr _ _ _ _ _ _)).imp fun D σ H ⟨w, τ, S, hH, hr, hs, h⟩ => by
  subst hH
  refine tE.go hr hs h fun y S1 u w1 l1 r1 i1 h1 => ?_
  refine tE.go r1 (hs.mono l1) h1 fun x S2 v w2 l2 r2 i2 h2 => ?_
  cases q : ownI S2 x with
  | none => rw [q] at h2; exact h2.elim
  | some q1 =>
    rw [q] at h2
    dsimp only at h2
    by_cases hz : q1.2.2.1.contains f = true ∧ q1.2.2.2.1.length < 900
    · rw [if_pos hz] at h2
      obtain ⟨rfl, hS⟩ := ownI_some q
      obtain ⟨p, hA, rfl⟩ := i2
      obtain ⟨nF, o, hH, dx, vs, rfl, hl, hm, hcl, hv⟩ := r2.cel q1.1 _ p hS True.intro hA
      obtain ⟨us, g1, g2, g3⟩ := putFd_is (g := f) (i1.le l2) hl hv
      have hf := List.contains_iff_mem.mp hz.1
      refine ⟨p, _, dx, _, rfl, hH, hcl.cl, hcl.na f hf, by rw [List.length_zip, ← hv.len, ← hl, Nat.min_self]; have := hz.2; omega, ?_⟩
      rw [← g2]
      have r4 := r2.putC (c' := .ins q1.2.1 q1.2.2.1 (putFs f q1.2.2.2.1) (putFd f y q1.2.2.2.1 q1.2.2.2.2)) hS True.intro hA ⟨dx, us, rfl, g3, fun g hg => by
        rcases putFs_mem hg with h | h
        · rw [h]; exact hf
        · exact hm g h, hcl, g1⟩
      exact h2 σ ⟨w2.F, upd w2.H p _, w2.A⟩ (le_putC (K := X.K) hA) r4 (((hs.mono l1).mono l2).mono (le_putC (K := X.K) hA))
    · rw [if_neg hz] at h2; exact h2.elim
/-- {x: s.f[x] for x in s.f} -/
theorem e_dcopy {i j : Nat} {scope : Scope} {p1 p2 p3 p4 p5 : Pos} {s0 x0 : Str} (lv : Bool) (hij : i ≠ j) (hc : X.calm = true) (hN : X.N.Nodup) (hu : X.A.units + 1 < cLine) (hij' : X.N[i]? = some s0) (hvs : Vis X.env.scope s0) (hd0 : (s0 == ("__debug__" : Str)) = false) (hcd0 : (s0 == ("__classdict__" : Str)) = false)
    (ok : BlkOk X.N X.env.scope scope [(x0, j)])
    (hg : ∀ (s : Shared) (H : Hp) (C : Addr) (cl : List (Str × Addr)) (fp : List Addr), PG (X.blk s H scope (compEnvC scope cl C X.env) fp) (.Name x0 p1) (gName j))
    (hk : ∀ (s : Shared) (H : Hp) (C : Addr) (cl : List (Str × Addr)) (fp : List Addr) (p : Pos), PE (X.blk s H scope (compEnvC scope cl C X.env) fp) (.Name x0 p) (tVar j))
    (he : ∀ (s : Shared) (H : Hp) (C : Addr) (cl : List (Str × Addr)) (fp : List Addr) (p : Pos), PE (X.blk s H scope (compEnvC scope cl C X.env) fp) (.Name s0 p) (tVar i)) :
    PE X (.DictComp (.Name x0 p2) (.Subscript (.Attribute (.Name s0 p3) f p4) (.Name x0 p5) apos) [⟨.Name x0 p1, .Attribute (.Name s0 q1) f q2, [], 0⟩] scope pos) (tE X.K W fun τ S => match τ[i]? with
    | some (some x) => (match (fldD S x f).bind (getDc S) with
      | some q => if q.1.length ≤ 1000 ∧ j < τ.length then (if lv then .ok (.loc S.length) (S ++ [.dct (copyK q.1 q.2 q.1 ([], [])).1 (copyK q.1 q.2 q.1 ([], [])).2]) else .ok (.dic (copyK q.1 q.2 q.1 ([], [])).1 (copyK q.1 q.2 q.1 ([], [])).2) S) else .stuck
      | none => .stuck)
    | _ => .stuck) := by
  have hfl : ∀ (s : Shared) (H : Hp) (C : Addr) (cl : List (Str × Addr)) (fp : List Addr), PE (X.blk s H scope (compEnvC scope cl C X.env) fp) (.Attribute (.Name s0 p3) f p4) (tFld X.K (tVar i) f) := fun s H C cl fp => pe_fld (X := X.blk s H scope (compEnvC scope cl C X.env) fp) (he s H C cl fp p3) (base_of rfl _ _ _)
  refine (pe_lock (pe_dc (own := [(x0, j)]) hc hN (pi_keys (pe_fld (pe_var hij' hvs hd0 hcd0) (base_of rfl _ _ _))) ok hg (fun s H C cl fp => pts_nil) (fun s H C cl fp => hk s H C cl fp p2)
    (fun s H C cl fp => pe_dget (X := X.blk s H scope (compEnvC scope cl C X.env) fp) hu (hfl s H C cl fp) (hk s H C cl fp p5) (fun _ _ => rfl)) (fun _ => rfl))).imp fun σ H Q ⟨w, τ, S, hH, hr, hs, h⟩ => ?_
  subst hH
  dsimp only at h
  cases e1 : τ[i]? with
  | none => rw [e1] at h; exact h.elim
  | some o1 =>
    cases o1 with
    | none => rw [e1] at h; exact h.elim
    | some x =>
      rw [e1] at h
      dsimp only at h
      cases e2 : (fldD S x f).bind (getDc S) with
      | none => rw [e2] at h; exact h.elim
      | some q =>
        rw [e2] at h
        dsimp only at h
        by_cases hz : q.1.length ≤ 1000 ∧ j < τ.length
        · rw [if_pos hz] at h
          obtain ⟨dd, e3, e4⟩ := Option.bind_eq_some_iff.mp e2
          obtain ⟨n, cn, own, fs, ds, rfl, z, hf, hl⟩ := fldD_some e3
          obtain ⟨v0, hv0, iv0⟩ := hs.2 i _ e1
          obtain ⟨p, dx, vs, rfl, hA, hH, g1, g2, g3, g4⟩ := rdO hr iv0 z
          obtain ⟨u, k1, k2⟩ := lookF_is g4 hl
          obtain ⟨a, us, rfl, hHa, hlk, hus⟩ := rdD hr k2 e4
          have hpa : p ≠ a := fun z => by subst z; rw [hH] at hHa; cases hHa
          refine ⟨a, _, hHa, True.intro, fun od => ?_⟩
          refine ⟨.ref p, hv0, p, _, dx, _, .ref a, rfl, by rw [upd_ne hpa]; exact hH, g3.cl, g3.na f hf, k1, a, od, rfl, .inl ⟨_, upd_same, ?_⟩⟩
          intro D nD
          have hDa : D ≠ a := fun z => by subst z; rw [upd_same] at nD; cases nD
          have nD0 : w.H D = none := by rw [← nD, upd_ne hDa]
          have hDp : p ≠ D := fun z => by subst z; rw [hH] at nD0; cases nD0
          have hzl : (q.1.zip us).length = q.1.length := by rw [List.length_zip, ← hus.len, ← hlk, Nat.min_self]
          refine ⟨fun t m Hc => m = q.1.length - t ∧ t ≤ q.1.length ∧ ∃ ws, Hc = upd (upd w.H a (.frz od (.dK (q.1.zip us)))) D (.dK ((copyK q.1 q.2 (q.1.take t) ([], [])).1.zip ws)) ∧ IsA X.K w.A w.F (copyK q.1 q.2 (q.1.take t) ([], [])).2 ws ∧
            (copyK q.1 q.2 (q.1.take t) ([], [])).1.length = (copyK q.1 q.2 (q.1.take t) ([], [])).2.length ∧ (copyK q.1 q.2 (q.1.take t) ([], [])).1.length ≤ t, ⟨_, rfl, Nat.zero_le _, [], by rw [List.take_zero]; rfl, by rw [List.take_zero]; rfl, by rw [List.take_zero]; rfl, by rw [List.take_zero]; exact Nat.le_refl _⟩, ?_⟩
          rintro t m Hc ⟨rfl, ht, ws, rfl, iws, lws, sz⟩
          have hHa2 : upd (upd w.H a (.frz od (.dK (q.1.zip us)))) D (.dK ((copyK q.1 q.2 (q.1.take t) ([], [])).1.zip ws)) a = some (.frz od (.dK (q.1.zip us))) := by rw [upd_ne (Ne.symm hDa), upd_same]
          by_cases htl : t < q.1.length
          · refine .inr ⟨⟨hHa2, by rw [hzl]; exact htl⟩, fun Hn => ∃ ws, Hn = upd (upd w.H a (.frz od (.dK (q.1.zip us)))) D (.dK ((copyK q.1 q.2 (q.1.take (t + 1)) ([], [])).1.zip ws)) ∧ IsA X.K w.A w.F (copyK q.1 q.2 (q.1.take (t + 1)) ([], [])).2 ws ∧
              (copyK q.1 q.2 (q.1.take (t + 1)) ([], [])).1.length = (copyK q.1 q.2 (q.1.take (t + 1)) ([], [])).2.length ∧ (copyK q.1 q.2 (q.1.take (t + 1)) ([], [])).1.length ≤ t + 1, fun Hn hn => ⟨q.1.length - (t + 1), by omega, rfl, htl, hn⟩, ?_⟩
            rintro xv Hy ⟨rfl, key, vv, hkv, rfl⟩
            have hkey := zip_get hkv
            have hjw : j < (L2.wipe σ [j]).length := by
              show j < (σ.set j none).length
              rw [List.length_set, hs.1]
              exact hz.2
            have hi2 : ((L2.wipe σ [j]).set j (some (kV key)))[i]? = some (some (.ref p)) := by
              rw [List.getElem?_set_ne (Ne.symm hij)]
              show (σ.set j none)[i]? = _
              rw [List.getElem?_set_ne (Ne.symm hij)]
              exact hv0
            have hj2 : ((L2.wipe σ [j]).set j (some (kV key)))[j]? = some (some (kV key)) := List.getElem?_set_self hjw
            obtain ⟨dk, hdk⟩ := lookK_mem hlk hkey
            obtain ⟨v', m1, m2⟩ := (look_is key hlk hus).2 dk hdk
            obtain ⟨ws', n1, n2, n3⟩ := put_is key lws iws m2
            have ecp : copyK q.1 q.2 (q.1.take (t + 1)) ([], []) = putKD (copyK q.1 q.2 (q.1.take t) ([], [])).1 (copyK q.1 q.2 (q.1.take t) ([], [])).2 key dk := by
              rw [List.take_add_one, hkey, Option.toList_some, copyK_snoc, hdk]
              rfl
            refine ⟨(wipe_set List.mem_cons_self).trans wipe_wipe, ?_⟩
            unfold tYes
            dsimp only
            rw [if_pos rfl]
            refine ⟨kV key, hj2, .ref p, hi2, p, _, dx, _, .ref a, rfl, ?_, g3.cl, g3.na f hf, k1, kV key, hj2, a, v', rfl, .inl ⟨_, key, .inr ⟨od, hHa2⟩, rfl, m1.symm⟩, _, key, rfl, upd_same, ?_, ws', ?_, ?_, ?_, ?_⟩
            · rw [upd_ne hDp, upd_ne hpa]; exact hH
            · rw [List.length_zip, ← iws.len, ← lws, Nat.min_self, sizeLine_eq]; omega
            · rw [ecp, n2, upd_upd]
            · rw [ecp]; exact n1
            · rw [ecp]; exact n3
            · rw [ecp]; have := putKD_len (copyK q.1 q.2 (q.1.take t) ([], [])).1 (copyK q.1 q.2 (q.1.take t) ([], [])).2 key dk; omega
          · have e : t = q.1.length := by omega
            subst e
            rw [List.take_length] at iws lws sz hHa2 ⊢
            refine .inl ⟨⟨hHa2, by rw [hzl]; exact Nat.le_refl _⟩, hHa2, ?_⟩
            · have eH : upd (upd (upd w.H a (.frz od (.dK (q.1.zip us)))) D (.dK ((copyK q.1 q.2 q.1 ([], [])).1.zip ws))) a (.dK (q.1.zip us)) = upd w.H D (.dK ((copyK q.1 q.2 q.1 ([], [])).1.zip ws)) := by
                funext b
                by_cases hb : b = a
                · subst hb
                  rw [upd_same, upd_ne (Ne.symm hDa)]
                  exact hHa.symm
                · rw [upd_ne hb]
                  by_cases hb2 : b = D
                  · subst hb2
                    rw [upd_same, upd_same]
                  · rw [upd_ne hb2, upd_ne hb2, upd_ne hb]
              rw [eH]
              exact new_dct hr nD0 lws iws lv h
        · rw [if_neg hz] at h; exact h.elim
end
section
variable {X : Cx} {W : WX} {k i : Nat} {n : Str} {fa : Addr} {fd : FuncData} {body : List Stmt} {sb : Tau → Sto → SR} {np q1 q2 q3 q4 q5 q6 pos pos' : Pos} {j5 k6 : Nat}
theorem c_noneFault (KF : KFct X.K X.mg) (F : FnF X.prog X.w X.K X.mg X.base (L2.CX X.prog X.w) k fa fd [("error" : Str)] (spFlt X.K)) (hr : Room k X.A) (hbd : Binds X.K fd [("error" : Str)] []) (hg : Gl X "_law_fault") (hm : X.mg "_law_fault" = some (.ref fa))
    (hk : PySem.W.keepIn X.K (.ref fa) = true) (hgH : Gl X "HighError") (hs : X.stack = X.env :: X.outer) (hf : X.env.frame = some X.env.locals) (hN : X.N.Nodup) (hi : X.N[i]? = some n) (hln : X.env.scope.names.lookup n = some .local)
    (hdn : (n == ("__debug__" : Str)) = false) (hcn : (n == ("__classdict__" : Str)) = false) (tk : Takes X W)
    (hb : ∀ (W : WX) (pn : List (Addr × Obj)) (xe : Value → Shared → Prop), Takes (X.tr pn xe) W → PassesOwn (model X.prog X.w) X.A X.env xe → PSs (X.tr pn xe) body (tC X.K W sb)) :
    PS X (.Try body [.ExceptHandler (some (.Name "HighError" np)) (some n) [.Return (some (.Tuple [.Constant .none j5 q5, .Call (.Name "_law_fault" q1) [.Name n q2] [] q3] k6 q6)) q4] pos'] [] [] pos)
      (tC X.K W fun τ S => match sb τ S with
        | .exc c fs τ' S' => (match faultD c fs with
          | some d => .ret (.tup [.non, d]) S'
          | none => .stuck)
        | r => r) := by
  have hsu : ∀ (a : Addr) (oe : Obj) (cls : Value) (d : Option Addr) (pn : List (Addr × Obj)), Zc cls d oe → (∃ vs, oe.data = .fields vs) → PSs (X.suite a ((a, oe) :: pn)) [.Return (some (.Tuple [.Constant .none j5 q5, .Call (.Name "_law_fault" q1) [.Name n q2] [] q3] k6 q6)) q4]
      (fun D σ H => σ.length = X.N.length → tTup (tCons (L2.tC .non) (tCons (tCallS (spFlt X.K a cls d) (fun _ _ _ _ => False) (tCons (tVar i) tNil)) tNil)) σ H D.rt) := fun a oe cls d pn hz hff => by
    refine PSs.len (X := X.suite a ((a, oe) :: pn)) ((pss_cons (ps_ret (pe_tup (pa_cons pe_non (pa_cons (pe_callF (X := X.suite a ((a, oe) :: pn)) (E := fun _ _ _ _ => False) F ⟨hr.dp, hr.un⟩ List.mem_cons_self hz hff hg hm hk hbd (fun σ pins H s e s' I ⟨_, _, _, _, _, _, _, _, _, _, _, _, f⟩ => f.elim)
      (pa_cons (pe_var hi (.inl hln) hdn hcn) pa_nil rfl) (by decide) rfl rfl) pa_nil rfl) rfl))) pss_nil).imp fun D σ H h => h)
  refine (ps_try_as hs hf hN hi hln ⟨hgH, by decide, .inl KF.mh⟩ tk hb hsu).imp fun D σ H ⟨w, τ, S, hH, hr, hsg, h⟩ => ⟨w, τ, S, hH, hr, hsg, ?_⟩
  dsimp only at h
  cases e : sb τ S with
  | nx τ' S' => rw [e] at h; exact h
  | ret d S' => rw [e] at h; exact h
  | bk τ' S' => rw [e] at h; exact h
  | ct τ' S' => rw [e] at h; exact h
  | stuck => rw [e] at h; exact h
  | exc c fs τ' S' =>
    rw [e] at h
    dsimp only at h
    cases e2 : faultD c fs with
    | none => rw [e2] at h; exact h.elim
    | some d =>
      rw [e2] at h
      obtain ⟨hk9, rfl⟩ := faultD_ok e2
      intro σ' cls dx w' l r' sg ⟨hcls, d', vs, hdx, hH', hi', hl⟩
      subst hcls
      refine ⟨true, KF.ex c hk9, fun _ a ha hlen => ?_, fun z => nomatch z⟩
      have hil : i < σ'.length := by
        have h1 := (List.getElem?_eq_some_iff.mp hi).1
        rw [List.length_set] at hlen
        omega
      refine ⟨.ref a, List.getElem?_set_self hil, rfl, c, vs, d', hk9, rfl, hdx, hH', by rw [← hi'.len, hl], fun l0 p hl0 hp => ?_⟩
      have hne : p ≠ l0 := fun z => by rw [z, upd_same] at hp; cases hp
      have r1 := r'.grow (o := HO.lst []) hl0
      obtain ⟨r2, l2⟩ := new_frz (o := HO.tup (.str c :: vs)) r1 hp
      have l12 : w'.le ⟨upd w'.F p (HO.tup (.str c :: vs)), upd (upd w'.H l0 (.lst [])) p (HO.tup (.str c :: vs)), w'.A⟩ := (le_grow hl0).trans l2
      have nF : upd w'.F p (HO.tup (.str c :: vs)) l0 = none := by rw [upd_ne (Ne.symm hne)]; exact fresh_F r' hl0
      have l5 : w'.le ⟨upd w'.F p (HO.tup (.str c :: vs)), upd (upd (upd w'.H l0 (.lst [])) p (.tup (.str c :: vs))) l0 (.lst [.ref p]), w'.A⟩ := le_foreign l12 hl0
      have r5 := r2.foreign (o := .lst [.ref p]) nF (fresh_A r' hl0)
      refine ⟨by show 2 ≤ sizeLine; decide, fun p2 np2 => ?_⟩
      refine new_tup (xs := [.non, .tup (.str c :: fs)]) (vs := [.non, .ref p]) r5 np2 ⟨_, _, rfl, rfl, _, _, rfl, ?_, rfl⟩ (okE.up (l.trans l5) h)
      exact ⟨p, .str c :: vs, rfl, .inl upd_same, .str c, vs, rfl, rfl, hi'.mono (fun b o hb => (upd_ne (fun z => by subst z; rw [show w'.F b = none from fresh_F r1 hp] at hb; cases hb)).trans hb) (List.prefix_refl _)⟩
end
end Pi
end
section
set_option Elab.async false
set_option linter.all false
set_option maxRecDepth 100000
set_option maxHeartbeats 4000000
/-! Pi, part L: views of the text. -/
namespace Pi
open PySem PySem.Spec PyProof.Rows L2
def vName : Expr → Option Str
  | .Name x _ => some x
  | _ => none
theorem vName_ok {e : Expr} {x : Str} (h : vName e = some x) : ∃ p, e = .Name x p := by
  unfold vName at h; split at h <;> cases h; exact ⟨_, rfl⟩
def vInt : Expr → Option Int
  | .Constant (.int i) _ _ => some i
  | _ => none
theorem vInt_ok {e : Expr} {x : Int} (h : vInt e = some x) : ∃ j p, e = .Constant (.int x) j p := by
  unfold vInt at h; split at h <;> cases h; exact ⟨_, _, rfl⟩
def vStr : Expr → Option Str
  | .Constant (.str i) _ _ => some i
  | _ => none
theorem vStr_ok {e : Expr} {x : Str} (h : vStr e = some x) : ∃ j p, e = .Constant (.str x) j p := by
  unfold vStr at h; split at h <;> cases h; exact ⟨_, _, rfl⟩
def vBl : Expr → Option Bool
  | .Constant (.bool i) _ _ => some i
  | _ => none
theorem vBl_ok {e : Expr} {x : Bool} (h : vBl e = some x) : ∃ j p, e = .Constant (.bool x) j p := by
  unfold vBl at h; split at h <;> cases h; exact ⟨_, _, rfl⟩
def vNon : Expr → Bool
  | .Constant .none _ _ => true
  | _ => false
theorem vNon_ok {e : Expr} (h : vNon e = true) : ∃ j p, e = .Constant .none j p := by
  unfold vNon at h; split at h <;> cases h; exact ⟨_, _, rfl⟩
def vBin : Expr → Option (Expr × Operator × Expr)
  | .BinOp a o b _ => some (a, o, b)
  | _ => none
theorem vBin_ok {e a b : Expr} {o : Operator} (h : vBin e = some (a, o, b)) : ∃ p, e = .BinOp a o b p := by
  unfold vBin at h; split at h <;> cases h; exact ⟨_, rfl⟩
def vNeg : Expr → Option Expr
  | .UnaryOp .USub a _ => some a
  | _ => none
theorem vNeg_ok {e a : Expr} (h : vNeg e = some a) : ∃ p, e = .UnaryOp .USub a p := by
  unfold vNeg at h; split at h <;> cases h; exact ⟨_, rfl⟩
def vNot : Expr → Option Expr
  | .UnaryOp .Not a _ => some a
  | _ => none
theorem vNot_ok {e a : Expr} (h : vNot e = some a) : ∃ p, e = .UnaryOp .Not a p := by
  unfold vNot at h; split at h <;> cases h; exact ⟨_, rfl⟩
def vCmp : Expr → Option (Expr × CmpOp × Expr)
  | .Compare a [o] [b] _ => some (a, o, b)
  | _ => none
theorem vCmp_ok {e a b : Expr} {o : CmpOp} (h : vCmp e = some (a, o, b)) : ∃ p, e = .Compare a [o] [b] p := by
  unfold vCmp at h; split at h <;> cases h; exact ⟨_, rfl⟩
def vCmp2 : Expr → Option (Expr × CmpOp × CmpOp × Expr × Expr)
  | .Compare a [o, p] [b, c] _ => some (a, o, p, b, c)
  | _ => none
theorem vCmp2_ok {e a b c : Expr} {o p : CmpOp} (h : vCmp2 e = some (a, o, p, b, c)) : ∃ q, e = .Compare a [o, p] [b, c] q := by
  unfold vCmp2 at h; split at h <;> cases h; exact ⟨_, rfl⟩
def vAnd : Expr → Option (Expr × Expr × List Expr × Pos)
  | .BoolOp .And (x :: y :: xs) p => some (x, y, xs, p)
  | _ => none
theorem vAnd_ok {e x y : Expr} {xs : List Expr} {p : Pos} (h : vAnd e = some (x, y, xs, p)) : e = .BoolOp .And (x :: y :: xs) p := by
  unfold vAnd at h; split at h <;> cases h; rfl
def vOr : Expr → Option (Expr × Expr × List Expr × Pos)
  | .BoolOp .Or (x :: y :: xs) p => some (x, y, xs, p)
  | _ => none
theorem vOr_ok {e x y : Expr} {xs : List Expr} {p : Pos} (h : vOr e = some (x, y, xs, p)) : e = .BoolOp .Or (x :: y :: xs) p := by
  unfold vOr at h; split at h <;> cases h; rfl
def vAnds : Expr → Option (List Expr)
  | .BoolOp .And xs _ => some xs
  | _ => none
theorem vAnds_ok {e : Expr} {xs : List Expr} (h : vAnds e = some xs) : ∃ p, e = .BoolOp .And xs p := by
  unfold vAnds at h; split at h <;> cases h; exact ⟨_, rfl⟩
def vOrs : Expr → Option (List Expr)
  | .BoolOp .Or xs _ => some xs
  | _ => none
theorem vOrs_ok {e : Expr} {xs : List Expr} (h : vOrs e = some xs) : ∃ p, e = .BoolOp .Or xs p := by
  unfold vOrs at h; split at h <;> cases h; exact ⟨_, rfl⟩
/-- the rest of a chain of and, or -/
def wrapB (o : BoolOp) (y : Expr) (xs : List Expr) (p : Pos) : Expr := match xs with
  | [] => y
  | _ :: _ => .BoolOp o (y :: xs) p
theorem wrapB_ok {X : Cx} {o : BoolOp} {y : Expr} {xs : List Expr} {p : Pos} {t : TE} (h : PE X (wrapB o y xs p) t) : PE X (.BoolOp o (y :: xs) p) t := by
  cases xs with
  | nil => exact pe_one h
  | cons _ _ => exact h
def vIfx : Expr → Option (Expr × Expr × Expr)
  | .IfExp c a b _ => some (c, a, b)
  | _ => none
theorem vIfx_ok {e a b c : Expr} (h : vIfx e = some (c, a, b)) : ∃ p, e = .IfExp c a b p := by
  unfold vIfx at h; split at h <;> cases h; exact ⟨_, rfl⟩
def vTup : Expr → Option (List Expr)
  | .Tuple es _ _ => some es
  | _ => none
theorem vTup_ok {e : Expr} {es : List Expr} (h : vTup e = some es) : ∃ k p, e = .Tuple es k p := by
  unfold vTup at h; split at h <;> cases h; exact ⟨_, _, rfl⟩
def vLst : Expr → Option (List Expr)
  | .List es _ => some es
  | _ => none
theorem vLst_ok {e : Expr} {es : List Expr} (h : vLst e = some es) : ∃ p, e = .List es p := by
  unfold vLst at h; split at h <;> cases h; exact ⟨_, rfl⟩
def vCall : Expr → Option (Str × List Expr)
  | .Call (.Name x _) es [] _ => some (x, es)
  | _ => none
theorem vCall_ok {e : Expr} {x : Str} {es : List Expr} (h : vCall e = some (x, es)) : ∃ p q, e = .Call (.Name x p) es [] q := by
  unfold vCall at h; split at h <;> cases h; exact ⟨_, _, rfl⟩
def vMeth : Expr → Option (Expr × Str × List Expr × Bool)
  | .Call (.Attribute o m ap) es [] cp => some (o, m, es, ap.endLine == cp.line)
  | _ => none
theorem vMeth_ok {e o : Expr} {m : Str} {es : List Expr} {b : Bool} (h : vMeth e = some (o, m, es, b)) : ∃ p q, e = .Call (.Attribute o m p) es [] q ∧ (p.endLine == q.line) = b := by
  unfold vMeth at h; split at h <;> cases h; exact ⟨_, _, rfl, rfl⟩
def vSub : Expr → Option (Expr × Expr)
  | .Subscript a i _ => some (a, i)
  | _ => none
theorem vSub_ok {e a i : Expr} (h : vSub e = some (a, i)) : ∃ p, e = .Subscript a i p := by
  unfold vSub at h; split at h <;> cases h; exact ⟨_, rfl⟩
def vSlc : Expr → Option (Expr × Option Expr × Option Expr)
  | .Subscript a (.Slice lo hi none _) _ => some (a, lo, hi)
  | _ => none
theorem vSlc_ok {e a : Expr} {lo hi : Option Expr} (h : vSlc e = some (a, lo, hi)) : ∃ p q, e = .Subscript a (.Slice lo hi none p) q := by
  unfold vSlc at h; split at h <;> cases h; exact ⟨_, _, rfl⟩
def vComp : Expr → Option (Expr × Expr × Expr × List Expr × Scope)
  | .ListComp elt [⟨tg, it, ifs, 0⟩] scope _ => some (elt, tg, it, ifs, scope)
  | _ => none
theorem vComp_ok {e elt tg it : Expr} {ifs : List Expr} {scope : Scope} (h : vComp e = some (elt, tg, it, ifs, scope)) : ∃ p, e = .ListComp elt [⟨tg, it, ifs, 0⟩] scope p := by
  unfold vComp at h; split at h <;> cases h; exact ⟨_, rfl⟩
def vFld : Expr → Option (Expr × Str)
  | .Attribute a f _ => some (a, f)
  | _ => none
theorem vFld_ok {e a : Expr} {f : Str} (h : vFld e = some (a, f)) : ∃ p, e = .Attribute a f p := by
  unfold vFld at h; split at h <;> cases h; exact ⟨_, rfl⟩
def vDnil : Expr → Bool
  | .Dict [] [] _ => true
  | _ => false
theorem vDnil_ok {e : Expr} (h : vDnil e = true) : ∃ p, e = .Dict [] [] p := by
  unfold vDnil at h; split at h <;> cases h; exact ⟨_, rfl⟩
def vDcopy : Expr → Option (Str × Str × Str × Str × Str × Str × Str × Scope)
  | .DictComp (.Name x2 _) (.Subscript (.Attribute (.Name s1 _) f1 _) (.Name x3 _) _) [⟨.Name x1 _, .Attribute (.Name s2 _) f2 _, [], 0⟩] scope _ => some (x1, x2, x3, s1, s2, f1, f2, scope)
  | _ => none
theorem vDcopy_ok {e : Expr} {x1 x2 x3 s1 s2 f1 f2 : Str} {scope : Scope} (h : vDcopy e = some (x1, x2, x3, s1, s2, f1, f2, scope)) :
    ∃ p1 p2 p3 p4 p5 p6 p7 p8 p9, e = .DictComp (.Name x2 p1) (.Subscript (.Attribute (.Name s1 p2) f1 p3) (.Name x3 p4) p5) [⟨.Name x1 p6, .Attribute (.Name s2 p7) f2 p8, [], 0⟩] scope p9 := by
  unfold vDcopy at h; split at h <;> cases h; exact ⟨_, _, _, _, _, _, _, _, _, rfl⟩
/-! ### scopes -/
def visB (sc : Scope) (x : Str) : Bool := match sc.names.lookup x with
  | some .local => true
  | some .cell => true
  | some .free => true
  | _ => false
theorem visB_ok {sc : Scope} {x : Str} (h : visB sc x = true) : Vis sc x := by
  unfold visB at h
  split at h
  · exact .inl ‹_›
  · exact .inr (.inl ‹_›)
  · exact .inr (.inr ‹_›)
  · cases h
def locB (sc : Scope) (x : Str) : Bool := match sc.names.lookup x with
  | some .local => true
  | some .cell => true
  | _ => false
theorem locB_ok {sc : Scope} {x : Str} (h : locB sc x = true) : Loc sc x := by
  unfold locB at h
  split at h
  · exact .inl ‹_›
  · exact .inr ‹_›
  · cases h
def glB (sc : Scope) (x : Str) : Bool := match sc.names.lookup x with
  | some .globalImplicit => true
  | _ => false
theorem glB_ok {sc : Scope} {x : Str} (h : glB sc x = true) : sc.names.lookup x = some .globalImplicit := by
  unfold glB at h
  split at h
  · assumption
  · cases h
def noSet : Expr → Bool
  | .Set _ _ _ => false
  | _ => true
theorem noSet_ok {e : Expr} (h : noSet e = true) (env : Env) (x : Value) : foldedSetIterable e env x = pure x := by
  cases e with
  | Set _ _ _ => cases h
  | _ => rfl
def nmB (x : Str) : Bool := !(x == ("__debug__" : Str)) && !(x == ("__classdict__" : Str))
theorem nmB_ok {x : Str} (h : nmB x = true) : (x == ("__debug__" : Str)) = false ∧ (x == ("__classdict__" : Str)) = false := by
  obtain ⟨h1, h2⟩ := Bool.and_eq_true_iff.mp h
  exact ⟨by simpa using h1, by simpa using h2⟩
def blkB (N : List Str) (sc scope : Scope) (own : List (Str × Nat)) : Bool := (match scope.kind with
    | .function => true
    | _ => false) && (scope.names.all (fun y => decide (scope.names.lookup y.1 = some y.2)) && (own.all (fun p => decide (N[p.2]? = some p.1)) &&
    (scope.names.all (fun y => match y.2 with
      | .free => (match sc.names.lookup y.1 with
        | some .cell => true
        | some .free => true
        | _ => false)
      | .local => (own.map (·.1)).contains y.1 || !N.contains y.1
      | .cell => (own.map (·.1)).contains y.1 || !N.contains y.1
      | _ => true))))
theorem blkB_ok {N : List Str} {sc scope : Scope} {own : List (Str × Nat)} (h : blkB N sc scope own = true) : BlkOk N sc scope own := by
  obtain ⟨h1, h⟩ := Bool.and_eq_true_iff.mp h
  obtain ⟨h2, h⟩ := Bool.and_eq_true_iff.mp h
  obtain ⟨h3, h4⟩ := Bool.and_eq_true_iff.mp h
  refine ⟨?_, fun y hy => of_decide_eq_true (List.all_eq_true.mp h2 y hy), fun p hp => of_decide_eq_true (List.all_eq_true.mp h3 p hp), fun y hy e => ?_, fun y hy e => ?_⟩
  · split at h1
    · assumption
    · cases h1
  · have := List.all_eq_true.mp h4 y hy
    rw [e] at this
    dsimp only at this
    split at this
    · exact .inl ‹_›
    · exact .inr ‹_›
    · cases this
  · have := List.all_eq_true.mp h4 y hy
    have key : ((own.map (·.1)).contains y.1 || !N.contains y.1) = true := by
      rcases e with e | e
      · rw [e] at this; exact this
      · rw [e] at this; exact this
    rcases Bool.or_eq_true_iff.mp key with k | k
    · exact .inl (List.contains_iff_mem.mp k)
    · refine .inr fun m => ?_
      rw [List.contains_iff_mem.mpr m] at k
      cases k
end Pi
end
section
set_option Elab.async false
set_option linter.all false
set_option maxRecDepth 100000
set_option maxHeartbeats 4000000
/-! Pi, part M: core expressions matched with the text. -/
namespace Pi
open PySem PySem.Spec PyProof.Rows L2
def isC : E → Bool
  | .cmp _ _ _ => true | .isN _ => true | .notN _ => true | .chain _ _ _ _ _ => true
  | _ => false
section
variable (N : List Str) (P : List Df)
def mTg (tg : Tg) (sc : Scope) (e : Expr) : Bool := match tg, e with
  | .nm i, .Name x _ => decide (N[i]? = some x) && locB sc x
  | .two i j, .Tuple [.Name x _, .Name y _] _ _ => decide (N[i]? = some x) && (locB sc x && (decide (N[j]? = some y) && locB sc y))
  | _, _ => false
mutual
def mE : E → Scope → Expr → Bool
  | .var i, sc, e => (match vName e with
    | some x => decide (N[i]? = some x) && (visB sc x && nmB x)
    | none => false)
  | .int i, _, e => decide (vInt e = some i)
  | .str x, _, e => decide (vStr e = some x)
  | .bl b, _, e => decide (vBl e = some b)
  | .non, _, e => vNon e
  | .bin o a b, sc, e => (match vBin e with
    | some (x, op, y) => decide (op = pBop o) && (mE a sc x && mE b sc y)
    | none => false)
  | .neg a, sc, e => (match vNeg e with
    | some x => mE a sc x
    | none => false)
  | .cmp o a b, sc, e => (match vCmp e with
    | some (x, op, y) => decide (op = pCop o) && (!behindInMarks (pCop o) y && (mE a sc x && mE b sc y))
    | none => false)
  | .isN a, sc, e => (match vCmp e with
    | some (x, op, y) => decide (op = .Is) && (vNon y && mE a sc x)
    | none => false)
  | .notN a, sc, e => (match vCmp e with
    | some (x, op, y) => decide (op = .IsNot) && (vNon y && mE a sc x)
    | none => false)
  | .chain o p a b c, sc, e => (match vCmp2 e with
    | some (x, op, oq, y, z) => decide (op = pCop o) && (decide (oq = pCop p) && (!lastMarks [pCop o, pCop p] [y, z] && (mE a sc x && (mE b sc y && mE c sc z))))
    | none => false)
  | .and a b, sc, e => (match vAnd e with
    | some (x, y, xs, p) => mE a sc x && mE b sc (wrapB .And y xs p)
    | none => false)
  | .or a b, sc, e => (match vOr e with
    | some (x, y, xs, p) => mE a sc x && mE b sc (wrapB .Or y xs p)
    | none => false)
  | .not a, sc, e => (match vNot e with
    | some x => mE a sc x
    | none => false)
  | .ite t a b, sc, e => (match vIfx e with
    | some (c, x, y) => mT t sc c && (mE a sc x && mE b sc y)
    | none => false)
  | .tup es, sc, e => (match vTup e with
    | some xs => mEs es sc xs
    | none => false)
  | .frz f, sc, e => mF f sc e
  | .live f, sc, e => mF f sc e
  | .call f es, sc, e => (match vCall e, P[f]? with
    | some (x, xs), some df => decide (df.meth = none) && (decide (df.name = x) && (glB sc x && (nmB x && mEs es sc xs)))
    | _, _ => false)
  | .fld a f, sc, e => (match vFld e with
    | some (o, g) => decide (g = f) && (noSuper o && mE a sc o)
    | none => false)
  | .meth c own a f es, sc, e => (match vMeth e, P[f]? with
    | some (o, m, xs, b), some df => decide (df.name = c) && (decide (df.meth = some m) && (b && (noSuper o && (!own.contains m && (decide (xs.length ≤ 28) && (mE a sc o && mEs es sc xs))))))
    | _, _ => false)
  | .new c own f es, sc, e => (match vCall e, P[f]? with
    | some (x, xs), some df => decide (x = c) && (decide (df.name = c) && (decide (df.meth = some ("__init__" : Str)) && (decide (df.own = own) && (glB sc c && (nmB c && mEs es sc xs)))))
    | _, _ => false)
  | .dnil _, _, e => vDnil e
  | .get2 a k d, sc, e => (match vMeth e with
    | some (o, m, [y, z], b) => decide (m = "get") && (b && (noStar y && (noStar z && (noSuper o && (mE a sc o && (mE k sc y && mE d sc z))))))
    | _ => false)
  | .dcopy _ i j f, sc, e => (match vDcopy e with
    | some (x1, x2, x3, s1, s2, f1, f2, scope) => decide (x2 = x1) && (decide (x3 = x1) && (decide (s2 = s1) && (decide (f1 = f) && (decide (f2 = f) && (decide (i ≠ j) && (decide (N[i]? = some s1) && (decide (N[j]? = some x1) && (visB sc s1 && (nmB s1 && (nmB x1 && (blkB N sc scope [(x1, j)] && (locB scope x1 &&
      (visB (relS scope sc) x1 && visB (relS scope sc) s1)))))))))))))
    | none => false)
  | .dead, _, _ => true
  | .lim a, sc, e => (match vSub e with
    | some (o, i) => decide (vName o = some "LIMITS") && (glB sc "LIMITS" && (plainIx i && mE a sc i))
    | none => false)
  | .blt b a, sc, e => (match vCall e with
    | some (x, [y]) => decide (x = nBl b) && (glB sc (nBl b) && (noStar y && mE a sc y))
    | _ => false)
  | .isi a t, sc, e => (match vCall e with
    | some (x, [y, z]) => decide (x = "isinstance") && (decide (vName z = some (nTy t : Str)) && (glB sc "isinstance" && (glB sc (nTy t : Str) && (noStar y && mE a sc y))))
    | _ => false)
  | .divm a b, sc, e => (match vCall e with
    | some (x, [y, z]) => decide (x = "divmod") && (glB sc "divmod" && (noStar y && (noStar z && (mE a sc y && mE b sc z))))
    | _ => false)
  | .tupOf a, sc, e => (match vCall e with
    | some (x, [y]) => decide (x = "tuple") && (glB sc "tuple" && (noStar y && mE a sc y))
    | _ => false)
  | .idx a i, sc, e => (match vSub e with
    | some (x, y) => plainIx y && (mE a sc x && mE i sc y)
    | none => false)
  | .slS a lo hi, sc, e => (match vSlc e with
    | some (x, l, h) => mE a sc x && (mO lo sc l && mO hi sc h)
    | none => false)
  | .join s a, sc, e => (match vMeth e with
    | some (o, m, [y], b) => decide (m = "join") && (b && (noStar y && (noSuper o && (mE s sc o && mE a sc y))))
    | _ => false)
  | .mt1 mt s a, sc, e => (match vMeth e with
    | some (o, m, [y], b) => decide (m = nMt mt) && (b && (noStar y && (noSuper o && (mE s sc o && mE a sc y))))
    | _ => false)
def mO : O → Scope → Option Expr → Bool
  | .none, _, o => o.isNone
  | .some e, sc, o => (match o with
    | some x => mE e sc x
    | none => false)
def mEs : Es → Scope → List Expr → Bool
  | .nil, _, xs => xs.isEmpty
  | .cons e es, sc, xs => (match xs with
    | x :: r => noStar x && (mE e sc x && mEs es sc r)
    | [] => false)
def mT : T → Scope → Expr → Bool
  | .val e, sc, x => mE e sc x && (plainT x || isC e)
  | .tru e, sc, x => mE e sc x && plainT x
  | .not t, sc, x => (match vNot x with
    | some y => mT t sc y
    | none => false)
  | .and ts, sc, x => (match vAnds x with
    | some xs => mTs ts sc xs
    | none => false)
  | .or ts, sc, x => (match vOrs x with
    | some xs => mTs ts sc xs
    | none => false)
def mTs : Ts → Scope → List Expr → Bool
  | .one t, sc, xs => (match xs with
    | [x] => mT t sc x
    | _ => false)
  | .cons t ts, sc, xs => (match xs with
    | x :: y :: r => mT t sc x && mTs ts sc (y :: r)
    | _ => false)
def mF : F → Scope → Expr → Bool
  | .lst es, sc, e => (match vLst e with
    | some xs => mEs es sc xs
    | none => false)
  | .comp tg it ifs x own, sc, e => (match vComp e with
    | some (elt, tgx, itx, ifsx, scope) => blkB N sc scope own && ((slotsT tg).all (fun i => (own.map (·.2)).contains i) && (noSet itx && (mTg N tg scope tgx && (mI it sc tgx itx && (mCs ifs (relS scope sc) ifsx && mE x (relS scope sc) elt)))))
    | none => false)
  | .listOf a, sc, e => (match vCall e with
    | some (x, [y]) => decide (x = "list") && (glB sc "list" && (noStar y && mE a sc y))
    | _ => false)
  | .listRng a, sc, e => (match vCall e with
    | some (x, [y]) => (match vCall y with
      | some (z, [u]) => decide (x = "list") && (decide (z = "range") && (glB sc "list" && (glB sc "range" && (noStar u && mE a sc u))))
      | _ => false)
    | _ => false)
  | .cat a b, sc, e => (match vBin e with
    | some (x, op, y) => decide (op = .Add) && (mE a sc x && mE b sc y)
    | none => false)
  | .rep a b, sc, e => (match vBin e with
    | some (x, op, y) => decide (op = .Mult) && (mE a sc x && mE b sc y)
    | none => false)
  | .slL a lo hi, sc, e => (match vSlc e with
    | some (x, l, h) => mE a sc x && (mO lo sc l && mO hi sc h)
    | none => false)
  | .split s p, sc, e => (match vMeth e with
    | some (o, m, [y], b) => decide (m = "split") && (b && (noStar y && (noSuper o && (mE s sc o && mE p sc y))))
    | _ => false)
  | .splitMax s p k, sc, e => (match vMeth e with
    | some (o, m, [y, z], b) => decide (m = "split") && (b && (noStar y && (noStar z && (noSuper o && (mE s sc o && (mE p sc y && mE k sc z))))))
    | _ => false)
def mCs : Cs → Scope → List Expr → Bool
  | .nil, _, xs => xs.isEmpty
  | .one t, sc, xs => (match xs with
    | [x] => mT t sc x
    | _ => false)
def mI : It → Scope → Expr → Expr → Bool
  | .seq _ a, sc, _, e => mE a sc e
  | .str a, sc, _, e => mE a sc e
  | .rng1 a, sc, _, e => (match vCall e with
    | some (x, [y]) => decide (x = "range") && (glB sc "range" && (noStar y && mE a sc y))
    | _ => false)
  | .rng2 a b, sc, _, e => (match vCall e with
    | some (x, [y, z]) => decide (x = "range") && (glB sc "range" && (noStar y && (noStar z && (mE a sc y && mE b sc z))))
    | _ => false)
  | .enumL a, sc, tg, e => (match vCall e with
    | some (x, [y]) => (vTup tg).isSome && (decide (x = "enumerate") && (glB sc "enumerate" && (noStar y && mE a sc y)))
    | _ => false)
  | .enumS a, sc, tg, e => (match vCall e with
    | some (x, [y]) => (vTup tg).isSome && (decide (x = "enumerate") && (glB sc "enumerate" && (noStar y && mE a sc y)))
    | _ => false)
end
end
/-! ### the context of an expression -/
def blts : List Str := ["len", "int", "str", "ord", "abs", "sum", "all", "any", "isinstance", "divmod", "tuple", "list", "range", "enumerate", "bool", "dict"]
def Df.fa (df : Df) (K : Fg) : Addr := He.fAd K (df.name, df.meth)
def Df.fname (df : Df) : Str := df.meth.getD df.name
/-- what the ground says of a def, of a method -/
def DfOk (K : Fg) (mg : Str → Option Value) (df : Df) : Prop := match df.meth with
  | none => mg df.name = some (.ref (df.fa K))
  | some m => L2.Cls K (He.ga K df.name) ∧ L2.Meth K (He.ga K df.name) m (df.fa K) ∧ (m = "__init__" → L2.Mk K (He.ga K df.name) (df.fa K) ∧ ClsF K df.name df.own ∧ mg df.name = some (.ref (He.ga K df.name)))
structure Cok (N : List Str) (P : List Df) (cl : Nat → List D → Sto → R D) (X : Cx) (W : WX) (sc : Scope) : Prop where
  s : X.env.scope = sc
  n : X.N = N
  nd : N.Nodup
  calm : X.calm = true
  tk : Takes X W
  hu : X.A.units + 65 < cLine
  gb : ∀ b ∈ blts, X.mg b = none
  lim : ∃ l, X.mg "LIMITS" = some (.ref l) ∧ ∀ z v, limits.lookup z = some v → KDct X.K X.w l z (.int v)
  fn : ∀ f df, P[f]? = some df → ∃ k fd, FnOk X.prog X.w X.K X.mg X.base (L2.CX X.prog X.w) k (df.fa X.K) fd df.ps (spM X.K df.ps.length (cl f)) ∧ Room (k + 1) X.A ∧ DfOk X.K X.mg df ∧ PySem.W.keepIn X.K (.ref (df.fa X.K)) = true ∧ Binds X.K fd df.ps [] ∧ ∀ xs S, xs.length ≠ df.ps.length → cl f xs S = .stuck
section
variable {N : List Str} {P : List Df} {cl : Nat → List D → Sto → R D} {X : Cx} {W : WX} {sc : Scope}
theorem Cok.gl (C : Cok N P cl X W sc) {x : Str} (h : glB sc x = true) : Gl X x := by
  show X.env.kindOf x = _
  have := glB_ok h
  rw [← C.s] at this
  exact this
theorem Cok.vis (C : Cok N P cl X W sc) {x : Str} (h : visB sc x = true) : Vis X.env.scope x := by rw [C.s]; exact visB_ok h
theorem Cok.blk (C : Cok N P cl X W sc) (s : Shared) (H : Hp) (scope : Scope) (D : Addr) (cs : List (Str × Addr)) (fp : List Addr) : Cok N P cl (X.blk s H scope (compEnvC scope cs D X.env) fp) WF (relS scope sc) :=
  ⟨by rw [← C.s]; rfl, C.n, C.nd, C.calm, fun u s' ⟨_, _, _, _, _, _, _, _, _, _, _, _, _, _, _, _, w⟩ => w.elim, C.hu, C.gb, C.lim, C.fn⟩
theorem mem_blts {b : Str} (h : blts.contains b = true) : b ∈ blts := List.contains_iff_mem.mp h
theorem bl_mem : ∀ b : Bl, nBl b ∈ blts
  | .len => by decide +kernel | .int => by decide +kernel | .str => by decide +kernel | .ord => by decide +kernel | .abs => by decide +kernel | .sum => by decide +kernel | .all => by decide +kernel | .any => by decide +kernel
theorem ty_mem : ∀ t : Ty, (nTy t : Str) ∈ blts
  | .bool => by decide +kernel | .int => by decide +kernel | .str => by decide +kernel | .dict => by decide +kernel | .tuple => by decide +kernel | .list => by decide +kernel
theorem ty_nn : ∀ t : Ty, (nTy t : Str) ≠ "__name__" ∧ ((nTy t : Str) == ("__debug__" : Str)) = false
  | .bool => by decide +kernel | .int => by decide +kernel | .str => by decide +kernel | .dict => by decide +kernel | .tuple => by decide +kernel | .list => by decide +kernel
end
end Pi
end
section
set_option Elab.async false
set_option linter.all false
set_option maxRecDepth 100000
set_option maxHeartbeats 4000000
/-! Pi, part N: what is matched is computed. -/
namespace Pi
open PySem PySem.Spec PyProof.Rows L2
section
variable {X : Cx} {W : WX}
theorem pe_callS0 {CX : CXT} {k : Nat} {f : Addr} {fd : FuncData} {ps : List Str} {sp : Sp} {E : L2.St → XK} {x : Str} {p pos : Pos} (F : FnOk X.prog X.w X.K X.mg X.base CX k f fd ps sp) (hr : Room k X.A) (hg : Gl X x) (hm : X.mg x = some (.ref f)) (hk : PySem.W.keepIn X.K (.ref f) = true) (hb : Binds X.K fd ps [])
    (hx : ∀ σ, PassesAt CX X σ (E σ)) (hdb : (x == ("__debug__" : Str)) = false) : PE X (.Call (.Name x p) [] [] pos) (tCallS sp E tNil) := by
  refine ⟨fun pins s σ H Q I h => ?_⟩
  refine wpAny_Call_Name_kw (ld_glob I hg hm ?_ hdb)
  exact PySem.W.callWith_K0 I.kIn hk (run_fnS (us := []) F hr hb (hx σ) I .nil h)
theorem e_call0 {k np f : Nat} {fa : Addr} {fd : FuncData} {ps : List Str} {m : List D → Sto → R D} {x : Str} {p pos : Pos}
    (F : FnOk X.prog X.w X.K X.mg X.base (L2.CX X.prog X.w) k fa fd ps (spM X.K np m)) (hr : Room k X.A) (hg : Gl X x) (hm : X.mg x = some (.ref fa)) (hk : PySem.W.keepIn X.K (.ref fa) = true) (hb : Binds X.K fd ps []) (tk : Takes X W)
    (hdb : (x == ("__debug__" : Str)) = false) (hnp : ∀ xs S, xs.length ≠ np → m xs S = .stuck) : PE X (.Call (.Name x p) [] [] pos) (tE X.K W fun τ S => (R.ok ([] : List D) S).bind fun xs S1 => m xs S1) :=
  (pe_callS0 (E := WE W) F hr hg hm hk hb (fun σ => passAt tk σ) hdb).imp fun σ H Q ⟨w, τ, S, hH, hr, hs, h⟩ => by
    subst hH
    have h' : Post (m [] S) (okE X.K w Q) (exE X.K w W σ) := h
    by_cases hl : ([] : List D).length = np
    · exact ⟨hl, w, [], S, rfl, hr, rfl, h'.mono (fun d S2 q => q) fun c fs S2 q cls dx w2 l2 r2 i2 => q cls dx w2 l2 r2 i2⟩
    · rw [hnp [] S hl] at h'
      exact h'.elim
theorem ba2 {a b : Bool} (h : (a && b) = true) : a = true ∧ b = true := Bool.and_eq_true_iff.mp h
theorem nb {b : Bool} (h : (!b) = true) : b = false := by cases b <;> first | rfl | cases h
end
section
variable {N : List Str} {P : List Df} {cl : Nat → List D → Sto → R D}
theorem look_map {x : Str} {k0 : NameKind} {g : Str × NameKind → Str × NameKind} (h1 : ∀ q, (g q).1 = q.1) (h2 : ∀ q, q.2 = k0 → g q = q) : ∀ {l : List (Str × NameKind)}, l.lookup x = some k0 → (l.map g).lookup x = some k0
  | [], h => by cases h
  | q :: r, h => by
    have ih := look_map (x := x) h1 h2 (l := r)
    have e1 := h1 q
    have e2 := h2 q
    obtain ⟨n, k⟩ := q
    rw [List.lookup_cons] at h
    rw [List.map_cons]
    generalize hg : g (n, k) = y at e1 e2 ⊢
    obtain ⟨n', k'⟩ := y
    dsimp only at e1
    subst e1
    rw [List.lookup_cons]
    cases e : x == n' with
    | true =>
      rw [e] at h
      dsimp only at h ⊢
      cases h
      rw [(Prod.mk.inj (e2 rfl)).2]
    | false =>
      rw [e] at h
      exact ih h
theorem relS_look {scope sc : Scope} {x : Str} {k : NameKind} (hk : k ≠ .free) (h : scope.names.lookup x = some k) : (relS scope sc).names.lookup x = some k := by
  refine look_map (fun q => ?_) (fun q e => ?_) h
  · obtain ⟨n, k⟩ := q
    dsimp only
    split <;> rfl
  · obtain ⟨n, k'⟩ := q
    dsimp only at e ⊢
    subst e
    have : (k' == NameKind.free) = false := by simpa using hk
    rw [this]
    rfl
/-- targets: names that the block (or the def) owns -/
theorem mTg_ok {X : Cx} {tsc : Scope} {tg : Tg} {e : Expr} (hN : X.N = N) (nd : N.Nodup) (hc : X.calm = true) (hl : ∀ x, locB tsc x = true → Loc X.env.scope x ∧ (X.fn x = true ∨ X.env.scope.names.lookup x = some .local)) (h : mTg N tg tsc e = true) : PG X e (gTg X.K tg) := by
  subst hN
  unfold mTg at h
  split at h
  · obtain ⟨h1, h2⟩ := ba2 h
    exact pg_name nd (of_decide_eq_true h1) (hl _ h2).1 (hl _ h2).2
  · obtain ⟨h1, h⟩ := ba2 h
    obtain ⟨h2, h⟩ := ba2 h
    obtain ⟨h3, h4⟩ := ba2 h
    exact pg_tup (n := 2) hc (pgs_cons (pg_name nd (of_decide_eq_true h1) (hl _ h2).1 (hl _ h2).2) (pgs_cons (pg_name nd (of_decide_eq_true h3) (hl _ h4).1 (hl _ h4).2) pgs_nil))
  · cases h
/-- .. in a block -/
theorem mTg_blk {X : Cx} {W : WX} {sc : Scope} (C : Cok N P cl X W sc) {scope : Scope} {tg : Tg} {e : Expr} (h : mTg N tg scope e = true) (s : Shared) (H : Hp) (D : Addr) (cs : List (Str × Addr)) (fp : List Addr) : PG (X.blk s H scope (compEnvC scope cs D X.env) fp) e (gTg X.K tg) := by
  refine mTg_ok (X := X.blk s H scope (compEnvC scope cs D X.env) fp) (tsc := scope) C.n C.nd C.calm (fun x hx => ?_) h
  rcases locB_ok hx with k | k
  · have e : (compEnvC scope cs D X.env).scope.names.lookup x = some .local := relS_look (scope := scope) (sc := X.env.scope) (by decide) k
    exact ⟨.inl e, .inr e⟩
  · have e : (compEnvC scope cs D X.env).scope.names.lookup x = some .cell := relS_look (scope := scope) (sc := X.env.scope) (by decide) k
    refine ⟨.inr e, .inl ?_⟩
    show (scope.names.lookup x == some .cell) = true
    rw [k] <;> rfl
mutual
theorem mE_ok : ∀ (e : E) {X : Cx} {W : WX} {sc : Scope} (C : Cok N P cl X W sc) {x : Expr}, mE N P e sc x = true → PE X x (tE X.K W (evE cl e)) ∧ (isC e = true → PT X x (tT X.K W fun τ S => unbox (evE cl e τ S)))
  | .var i, X, W, sc, C, x, h => by
    refine ⟨?_, nofun⟩
    unfold mE at h
    split at h
    · rename_i y q
      obtain ⟨p, rfl⟩ := vName_ok q
      obtain ⟨h1, h⟩ := ba2 h
      obtain ⟨h2, h3⟩ := ba2 h
      exact e_var (by rw [C.n]; exact of_decide_eq_true h1) (C.vis h2) (nmB_ok h3).1 (nmB_ok h3).2
    · cases h
  | .int i, X, W, sc, C, x, h => by
    refine ⟨?_, nofun⟩
    obtain ⟨j, p, rfl⟩ := vInt_ok (of_decide_eq_true (show decide (vInt x = some i) = true from h))
    exact e_con (d := .int i) pe_int fun _ => rfl
  | .str i, X, W, sc, C, x, h => by
    refine ⟨?_, nofun⟩
    obtain ⟨j, p, rfl⟩ := vStr_ok (of_decide_eq_true (show decide (vStr x = some i) = true from h))
    exact e_con (d := .str i) pe_str fun _ => rfl
  | .bl i, X, W, sc, C, x, h => by
    refine ⟨?_, nofun⟩
    obtain ⟨j, p, rfl⟩ := vBl_ok (of_decide_eq_true (show decide (vBl x = some i) = true from h))
    exact e_con (d := .bl i) pe_bl fun _ => rfl
  | .non, X, W, sc, C, x, h => by
    refine ⟨?_, nofun⟩
    obtain ⟨j, p, rfl⟩ := vNon_ok (show vNon x = true from h)
    exact e_con (d := .non) pe_non fun _ => rfl
  | .bin o a b, X, W, sc, C, x, h => by
    refine ⟨?_, nofun⟩
    unfold mE at h
    split at h
    · rename_i y op z q
      obtain ⟨p, rfl⟩ := vBin_ok q
      obtain ⟨h1, h⟩ := ba2 h
      obtain ⟨h2, h3⟩ := ba2 h
      rw [of_decide_eq_true h1]
      exact e_bin o (mE_ok a C h2).1 (mE_ok b C h3).1
    · cases h
  | .neg a, X, W, sc, C, x, h => by
    refine ⟨?_, nofun⟩
    unfold mE at h
    split at h
    · rename_i y q
      obtain ⟨p, rfl⟩ := vNeg_ok q
      exact e_neg (mE_ok a C h).1
    · cases h
  | .cmp o a b, X, W, sc, C, x, h => by
    unfold mE at h
    split at h
    · rename_i y op z q
      obtain ⟨p, rfl⟩ := vCmp_ok q
      obtain ⟨h1, h⟩ := ba2 h
      obtain ⟨h2, h⟩ := ba2 h
      obtain ⟨h3, h4⟩ := ba2 h
      rw [of_decide_eq_true h1]
      exact ⟨e_cmp o C.hu (nb h2) (mE_ok a C h3).1 (mE_ok b C h4).1, fun _ => t_cmp o C.hu (nb h2) (mE_ok a C h3).1 (mE_ok b C h4).1⟩
    · cases h
  | .isN a, X, W, sc, C, x, h => by
    unfold mE at h
    split at h
    · rename_i y op z q
      obtain ⟨p, rfl⟩ := vCmp_ok q
      obtain ⟨h1, h⟩ := ba2 h
      obtain ⟨h2, h3⟩ := ba2 h
      rw [of_decide_eq_true h1]
      obtain ⟨j, p1, rfl⟩ := vNon_ok h2
      exact ⟨e_isN (mE_ok a C h3).1, fun _ => t_isN (mE_ok a C h3).1⟩
    · cases h
  | .notN a, X, W, sc, C, x, h => by
    unfold mE at h
    split at h
    · rename_i y op z q
      obtain ⟨p, rfl⟩ := vCmp_ok q
      obtain ⟨h1, h⟩ := ba2 h
      obtain ⟨h2, h3⟩ := ba2 h
      rw [of_decide_eq_true h1]
      obtain ⟨j, p1, rfl⟩ := vNon_ok h2
      exact ⟨e_notN (mE_ok a C h3).1, fun _ => t_notN (mE_ok a C h3).1⟩
    · cases h
  | .chain o p a b c, X, W, sc, C, x, h => by
    unfold mE at h
    split at h
    · rename_i y op oq z u q
      obtain ⟨p, rfl⟩ := vCmp2_ok q
      obtain ⟨h1, h⟩ := ba2 h
      obtain ⟨h2, h⟩ := ba2 h
      obtain ⟨h3, h⟩ := ba2 h
      obtain ⟨h4, h⟩ := ba2 h
      obtain ⟨h5, h6⟩ := ba2 h
      rw [of_decide_eq_true h1, of_decide_eq_true h2]
      exact ⟨e_chain o _ C.hu (nb h3) (mE_ok a C h4).1 (mE_ok b C h5).1 (mE_ok c C h6).1, fun _ => t_chain o _ C.hu (nb h3) (mE_ok a C h4).1 (mE_ok b C h5).1 (mE_ok c C h6).1⟩
    · cases h
  | .and a b, X, W, sc, C, x, h => by
    refine ⟨?_, nofun⟩
    unfold mE at h
    split at h
    · rename_i y z xs p q
      cases vAnd_ok q
      obtain ⟨h1, h2⟩ := ba2 h
      exact e_and (mE_ok a C h1).1 (wrapB_ok (mE_ok b C h2).1)
    · cases h
  | .or a b, X, W, sc, C, x, h => by
    refine ⟨?_, nofun⟩
    unfold mE at h
    split at h
    · rename_i y z xs p q
      cases vOr_ok q
      obtain ⟨h1, h2⟩ := ba2 h
      exact e_or (mE_ok a C h1).1 (wrapB_ok (mE_ok b C h2).1)
    · cases h
  | .not a, X, W, sc, C, x, h => by
    refine ⟨?_, nofun⟩
    unfold mE at h
    split at h
    · rename_i y q
      obtain ⟨p, rfl⟩ := vNot_ok q
      exact e_not (mE_ok a C h).1
    · cases h
  | .ite t a b, X, W, sc, C, x, h => by
    refine ⟨?_, nofun⟩
    unfold mE at h
    split at h
    · rename_i c y z q
      obtain ⟨p, rfl⟩ := vIfx_ok q
      obtain ⟨h1, h⟩ := ba2 h
      obtain ⟨h2, h3⟩ := ba2 h
      exact e_ite (mT_ok t C h1) (mE_ok a C h2).1 (mE_ok b C h3).1
    · cases h
  | .tup es, X, W, sc, C, x, h => by
    refine ⟨?_, nofun⟩
    unfold mE at h
    split at h
    · rename_i xs q
      obtain ⟨k, p, rfl⟩ := vTup_ok q
      exact e_tup (mEs_ok es C h).1
    · cases h
  | .frz f, X, W, sc, C, x, h => by
    refine ⟨?_, nofun⟩
    unfold mE at h
    exact e_frz (mF_ok f C h)
  | .live f, X, W, sc, C, x, h => by
    refine ⟨?_, nofun⟩
    unfold mE at h
    exact e_live (mF_ok f C h)
  | .call f es, X, W, sc, C, x, h => by
    refine ⟨?_, nofun⟩
    unfold mE at h
    split at h
    · rename_i y xs df q q2
      obtain ⟨p, p2, rfl⟩ := vCall_ok q
      obtain ⟨h1, h⟩ := ba2 h
      obtain ⟨h2, h⟩ := ba2 h
      obtain ⟨h3, h⟩ := ba2 h
      obtain ⟨h4, h5⟩ := ba2 h
      cases of_decide_eq_true h2
      obtain ⟨k, fd, F, hr, hD, hk, hb, hnp⟩ := C.fn f df q2
      have hm : X.mg df.name = some (.ref (df.fa X.K)) := by
        unfold DfOk at hD
        rw [of_decide_eq_true h1] at hD
        exact hD
      cases xs with
      | nil =>
        cases es with
        | nil => exact e_call0 (f := f) F (hr.mono (Nat.le_succ _)) (C.gl h3) hm hk hb C.tk (nmB_ok h4).1 hnp
        | cons _ _ => cases h5
      | cons y ys => exact e_call (f := f) F (hr.mono (Nat.le_succ _)) (C.gl h3) hm hk hb C.tk (nmB_ok h4).1 (mEs_ok es C h5).2 (mEs_ok es C h5).1 hnp
    · cases h
  | .fld a f, X, W, sc, C, x, h => by
    refine ⟨?_, nofun⟩
    unfold mE at h
    split at h
    · rename_i o g q
      obtain ⟨p, rfl⟩ := vFld_ok q
      obtain ⟨h1, h⟩ := ba2 h
      obtain ⟨h2, h3⟩ := ba2 h
      cases of_decide_eq_true h1
      exact e_fld h2 (mE_ok a C h3).1
    · cases h
  | .meth c own a f es, X, W, sc, C, x, h => by
    refine ⟨?_, nofun⟩
    unfold mE at h
    split at h
    · rename_i o m xs b df q q2
      obtain ⟨p, p2, rfl, hl⟩ := vMeth_ok q
      obtain ⟨h1, h⟩ := ba2 h
      obtain ⟨h2, h⟩ := ba2 h
      obtain ⟨h3, h⟩ := ba2 h
      obtain ⟨h4, h⟩ := ba2 h
      obtain ⟨h5, h⟩ := ba2 h
      obtain ⟨h6, h⟩ := ba2 h
      obtain ⟨h7, h8⟩ := ba2 h
      cases of_decide_eq_true h1
      obtain ⟨k, fd, F, hr, hD, hk, hb, hnp⟩ := C.fn f df q2
      unfold DfOk at hD
      rw [of_decide_eq_true h2] at hD
      have hm : m ∉ own := fun z => by rw [List.contains_iff_mem.mpr z] at h5; cases h5
      cases xs with
      | nil =>
        cases es with
        | nil => exact e_meth0 C.tk hD.1 hD.2.1 F (hr.mono (Nat.le_succ _)) hb h4 (hl.trans h3) hm hnp (mE_ok a C h7).1
        | cons _ _ => cases h8
      | cons y ys => exact e_meth C.tk hD.1 hD.2.1 F (hr.mono (Nat.le_succ _)) hb (mEs_ok es C h8).2 (by have := of_decide_eq_true h6; rw [List.length_cons] at this; omega) h4 (hl.trans h3) hm hnp (mE_ok a C h7).1 (mEs_ok es C h8).1
    · cases h
  | .new c own f es, X, W, sc, C, x, h => by
    refine ⟨?_, nofun⟩
    unfold mE at h
    split at h
    · rename_i y xs df q q2
      obtain ⟨p, p2, rfl⟩ := vCall_ok q
      obtain ⟨h1, h⟩ := ba2 h
      obtain ⟨h2, h⟩ := ba2 h
      obtain ⟨h3, h⟩ := ba2 h
      obtain ⟨h4, h⟩ := ba2 h
      obtain ⟨h5, h⟩ := ba2 h
      obtain ⟨h6, h7⟩ := ba2 h
      cases of_decide_eq_true h1
      cases of_decide_eq_true h2
      cases of_decide_eq_true h4
      obtain ⟨k, fd, F, hr, hD, hk, hb, hnp⟩ := C.fn f df q2
      unfold DfOk at hD
      rw [of_decide_eq_true h3] at hD
      obtain ⟨M, hc, hm⟩ := hD.2.2 rfl
      cases xs with
      | nil =>
        cases es with
        | nil => exact e_new0 C.tk M hc F hr hb (C.gl h5) hm (nmB_ok h6).1 hnp
        | cons _ _ => cases h7
      | cons y ys => exact e_new C.tk M hc F hr hb (C.gl h5) hm (nmB_ok h6).1 (mEs_ok es C h7).2 hnp (mEs_ok es C h7).1
    · cases h
  | .dnil lv, X, W, sc, C, x, h => by
    refine ⟨?_, nofun⟩
    obtain ⟨p, rfl⟩ := vDnil_ok (show vDnil x = true from h)
    exact e_dnil lv
  | .get2 a k d, X, W, sc, C, x, h => by
    refine ⟨?_, nofun⟩
    unfold mE at h
    split at h
    · rename_i o m y z b q
      obtain ⟨p, p2, rfl, hl⟩ := vMeth_ok q
      obtain ⟨h1, h⟩ := ba2 h
      obtain ⟨h2, h⟩ := ba2 h
      obtain ⟨h3, h⟩ := ba2 h
      obtain ⟨h4, h⟩ := ba2 h
      obtain ⟨h5, h⟩ := ba2 h
      obtain ⟨h6, h⟩ := ba2 h
      obtain ⟨h7, h8⟩ := ba2 h
      cases of_decide_eq_true h1
      exact e_get2 (by have := C.hu; omega) h3 h4 h5 (hl.trans h2) (mE_ok a C h6).1 (mE_ok k C h7).1 (mE_ok d C h8).1
    · cases h
  | .dcopy lv i j f, X, W, sc, C, x, h => by
    refine ⟨?_, nofun⟩
    unfold mE at h
    split at h
    · rename_i x1 x2 x3 s1 s2 f1 f2 scope q
      obtain ⟨p1, p2, p3, p4, p5, p6, p7, p8, p9, rfl⟩ := vDcopy_ok q
      obtain ⟨h1, h⟩ := ba2 h
      obtain ⟨h2, h⟩ := ba2 h
      obtain ⟨h3, h⟩ := ba2 h
      obtain ⟨h4, h⟩ := ba2 h
      obtain ⟨h5, h⟩ := ba2 h
      obtain ⟨h6, h⟩ := ba2 h
      obtain ⟨h7, h⟩ := ba2 h
      obtain ⟨h8, h⟩ := ba2 h
      obtain ⟨h9, h⟩ := ba2 h
      obtain ⟨h10, h⟩ := ba2 h
      obtain ⟨h11, h⟩ := ba2 h
      obtain ⟨h12, h⟩ := ba2 h
      obtain ⟨h13, h⟩ := ba2 h
      obtain ⟨h14, h15⟩ := ba2 h
      cases of_decide_eq_true h1
      cases of_decide_eq_true h2
      cases of_decide_eq_true h3
      cases of_decide_eq_true h4
      cases of_decide_eq_true h5
      have hN : ∀ {i : Nat} {x : Str}, decide (N[i]? = some x) = true → X.N[i]? = some x := fun h => by rw [C.n]; exact of_decide_eq_true h
      exact e_dcopy lv (of_decide_eq_true h6) C.calm (by rw [C.n]; exact C.nd) (by have := C.hu; omega) (hN h7) (C.vis h9) (nmB_ok h10).1 (nmB_ok h10).2 (by rw [C.n, C.s]; exact blkB_ok h12)
        (fun s H D cs fp => mTg_blk (tg := .nm j) C (show mTg N (.nm j) scope (.Name x1 p6) = true from Bool.and_eq_true_iff.mpr ⟨h8, h13⟩) s H D cs fp)
        (fun s H D cs fp p => pe_var (X := X.blk s H scope (compEnvC scope cs D X.env) fp) (hN h8) ((C.blk s H scope D cs fp).vis h14) (nmB_ok h11).1 (nmB_ok h11).2)
        (fun s H D cs fp p => pe_var (X := X.blk s H scope (compEnvC scope cs D X.env) fp) (hN h7) ((C.blk s H scope D cs fp).vis h15) (nmB_ok h10).1 (nmB_ok h10).2)
    · cases h
  | .dead, X, W, sc, C, x, h => ⟨⟨fun pins s σ H Q I ⟨w, τ, S, hH, hr, hs, z⟩ => z.elim⟩, nofun⟩
  | .lim a, X, W, sc, C, x, h => by
    refine ⟨?_, nofun⟩
    unfold mE at h
    split at h
    · rename_i o i q
      obtain ⟨p, rfl⟩ := vSub_ok q
      obtain ⟨h1, h⟩ := ba2 h
      obtain ⟨h2, h⟩ := ba2 h
      obtain ⟨h3, h4⟩ := ba2 h
      obtain ⟨p0, rfl⟩ := vName_ok (of_decide_eq_true h1)
      obtain ⟨l, hm, hL⟩ := C.lim
      exact e_lim h3 (C.gl h2) hm hL (mE_ok a C h4).1
    · cases h
  | .blt b a, X, W, sc, C, x, h => by
    refine ⟨?_, nofun⟩
    unfold mE at h
    split at h
    · rename_i y z q
      obtain ⟨p, p2, rfl⟩ := vCall_ok q
      obtain ⟨h1, h⟩ := ba2 h
      obtain ⟨h2, h⟩ := ba2 h
      obtain ⟨h3, h4⟩ := ba2 h
      cases of_decide_eq_true h1
      exact e_blt C.calm h3 (mE_ok a C h4).1 b (C.gl h2) (C.gb _ (bl_mem b))
    · cases h
  | .isi a t, X, W, sc, C, x, h => by
    refine ⟨?_, nofun⟩
    unfold mE at h
    split at h
    · rename_i y z u q
      obtain ⟨p, p2, rfl⟩ := vCall_ok q
      obtain ⟨h1, h⟩ := ba2 h
      obtain ⟨h2, h⟩ := ba2 h
      obtain ⟨h3, h⟩ := ba2 h
      obtain ⟨h4, h⟩ := ba2 h
      obtain ⟨h5, h6⟩ := ba2 h
      cases of_decide_eq_true h1
      obtain ⟨p0, rfl⟩ := vName_ok (of_decide_eq_true h2)
      exact e_isi h5 (C.gl h3) (C.gb _ (mem_blts (by decide +kernel))) (C.gl h4) (C.gb _ (ty_mem t)) (ty_nn t).1 (ty_nn t).2 (mE_ok a C h6).1
    · cases h
  | .divm a b, X, W, sc, C, x, h => by
    refine ⟨?_, nofun⟩
    unfold mE at h
    split at h
    · rename_i y z u q
      obtain ⟨p, p2, rfl⟩ := vCall_ok q
      obtain ⟨h1, h⟩ := ba2 h
      obtain ⟨h2, h⟩ := ba2 h
      obtain ⟨h3, h⟩ := ba2 h
      obtain ⟨h4, h⟩ := ba2 h
      obtain ⟨h5, h6⟩ := ba2 h
      cases of_decide_eq_true h1
      exact e_divm h3 h4 (C.gl h2) (C.gb _ (mem_blts (by decide +kernel))) (mE_ok a C h5).1 (mE_ok b C h6).1
    · cases h
  | .tupOf a, X, W, sc, C, x, h => by
    refine ⟨?_, nofun⟩
    unfold mE at h
    split at h
    · rename_i y z q
      obtain ⟨p, p2, rfl⟩ := vCall_ok q
      obtain ⟨h1, h⟩ := ba2 h
      obtain ⟨h2, h⟩ := ba2 h
      obtain ⟨h3, h4⟩ := ba2 h
      cases of_decide_eq_true h1
      exact e_tupOf h3 (C.gl h2) (C.gb _ (mem_blts (by decide +kernel))) (mE_ok a C h4).1
    · cases h
  | .idx a i, X, W, sc, C, x, h => by
    refine ⟨?_, nofun⟩
    unfold mE at h
    split at h
    · rename_i y z q
      obtain ⟨p, rfl⟩ := vSub_ok q
      obtain ⟨h1, h⟩ := ba2 h
      obtain ⟨h2, h3⟩ := ba2 h
      exact e_idx h1 (mE_ok a C h2).1 (mE_ok i C h3).1
    · cases h
  | .slS a lo hi, X, W, sc, C, x, h => by
    refine ⟨?_, nofun⟩
    unfold mE at h
    split at h
    · rename_i y l u q
      obtain ⟨p, p2, rfl⟩ := vSlc_ok q
      obtain ⟨h1, h⟩ := ba2 h
      obtain ⟨h2, h3⟩ := ba2 h
      exact e_slS (mE_ok a C h1).1 (mO_ok lo C h2) (mO_ok hi C h3)
    · cases h
  | .join s a, X, W, sc, C, x, h => by
    refine ⟨?_, nofun⟩
    unfold mE at h
    split at h
    · rename_i o m y b q
      obtain ⟨p, p2, rfl, hl⟩ := vMeth_ok q
      obtain ⟨h1, h⟩ := ba2 h
      obtain ⟨h2, h⟩ := ba2 h
      obtain ⟨h3, h⟩ := ba2 h
      obtain ⟨h4, h⟩ := ba2 h
      obtain ⟨h5, h6⟩ := ba2 h
      cases of_decide_eq_true h1
      exact e_join h3 h4 (hl.trans h2) (mE_ok s C h5).1 (mE_ok a C h6).1
    · cases h
  | .mt1 mt s a, X, W, sc, C, x, h => by
    refine ⟨?_, nofun⟩
    unfold mE at h
    split at h
    · rename_i o m y b q
      obtain ⟨p, p2, rfl, hl⟩ := vMeth_ok q
      obtain ⟨h1, h⟩ := ba2 h
      obtain ⟨h2, h⟩ := ba2 h
      obtain ⟨h3, h⟩ := ba2 h
      obtain ⟨h4, h⟩ := ba2 h
      obtain ⟨h5, h6⟩ := ba2 h
      cases of_decide_eq_true h1
      exact e_mt1 mt h3 h4 (hl.trans h2) (mE_ok s C h5).1 (mE_ok a C h6).1
    · cases h
theorem mO_ok : ∀ (o : O) {X : Cx} {W : WX} {sc : Scope} (C : Cok N P cl X W sc) {x : Option Expr}, mO N P o sc x = true → PO X x (tO X.K W (evO cl o))
  | .none, X, W, sc, C, x, h => by
    unfold mO at h
    cases x with
    | none => exact o_none
    | some _ => cases h
  | .some e, X, W, sc, C, x, h => by
    unfold mO at h
    split at h
    · exact o_some (mE_ok e C h).1
    · cases h
theorem mEs_ok : ∀ (es : Es) {X : Cx} {W : WX} {sc : Scope} (C : Cok N P cl X W sc) {xs : List Expr}, mEs N P es sc xs = true → PA X xs (tAs X.K W (evEs cl es)) ∧ ∀ x ∈ xs, noStar x = true
  | .nil, X, W, sc, C, xs, h => by
    unfold mEs at h
    cases xs with
    | nil => exact ⟨a_nil, nofun⟩
    | cons _ _ => cases h
  | .cons e es, X, W, sc, C, xs, h => by
    unfold mEs at h
    split at h
    · obtain ⟨h1, h⟩ := ba2 h
      obtain ⟨h2, h3⟩ := ba2 h
      refine ⟨a_cons h1 (mE_ok e C h2).1 (mEs_ok es C h3).1, fun x hx => ?_⟩
      rcases List.mem_cons.mp hx with rfl | hx
      · exact h1
      · exact (mEs_ok es C h3).2 x hx
    · cases h
theorem mT_ok : ∀ (t : T) {X : Cx} {W : WX} {sc : Scope} (C : Cok N P cl X W sc) {x : Expr}, mT N P t sc x = true → PT X x (tT X.K W (evT cl t))
  | .val e, X, W, sc, C, x, h => by
    unfold mT at h
    obtain ⟨h1, h2⟩ := ba2 h
    rcases Bool.or_eq_true_iff.mp h2 with k | k
    · exact t_val k (mE_ok e C h1).1
    · exact (mE_ok e C h1).2 k
  | .tru e, X, W, sc, C, x, h => by
    unfold mT at h
    obtain ⟨h1, h2⟩ := ba2 h
    exact t_tru h2 (mE_ok e C h1).1
  | .not t, X, W, sc, C, x, h => by
    unfold mT at h
    split at h
    · rename_i y q
      obtain ⟨p, rfl⟩ := vNot_ok q
      exact t_not (mT_ok t C h)
    · cases h
  | .and ts, X, W, sc, C, x, h => by
    unfold mT at h
    split at h
    · rename_i y q
      obtain ⟨p, rfl⟩ := vAnds_ok q
      exact ((mTs_ok ts C h).1 p).pt
    · cases h
  | .or ts, X, W, sc, C, x, h => by
    unfold mT at h
    split at h
    · rename_i y q
      obtain ⟨p, rfl⟩ := vOrs_ok q
      exact ((mTs_ok ts C h).2 p).pt
    · cases h
theorem mTs_ok : ∀ (ts : Ts) {X : Cx} {W : WX} {sc : Scope} (C : Cok N P cl X W sc) {xs : List Expr}, mTs N P ts sc xs = true → (∀ p, PW X (.BoolOp .And xs p) (tT X.K W (evAnd cl ts))) ∧ ∀ p, PW X (.BoolOp .Or xs p) (tT X.K W (evOr cl ts))
  | .one t, X, W, sc, C, xs, h => by
    unfold mTs at h
    split at h
    · exact ⟨fun p => t_and1 (mT_ok t C h), fun p => t_or1 (mT_ok t C h)⟩
    · cases h
  | .cons t ts, X, W, sc, C, xs, h => by
    unfold mTs at h
    split at h
    · obtain ⟨h1, h2⟩ := ba2 h
      exact ⟨fun p => t_and (mT_ok t C h1) ((mTs_ok ts C h2).1 p), fun p => t_or (mT_ok t C h1) ((mTs_ok ts C h2).2 p)⟩
    · cases h
theorem mF_ok : ∀ (f : F) {X : Cx} {W : WX} {sc : Scope} (C : Cok N P cl X W sc) {x : Expr}, mF N P f sc x = true → PE X x (tF X.K W (evF cl f))
  | .lst es, X, W, sc, C, x, h => by
    unfold mF at h
    split at h
    · rename_i xs q
      obtain ⟨p, rfl⟩ := vLst_ok q
      exact f_lst (mEs_ok es C h).1
    · cases h
  | .comp tg it ifs e own, X, W, sc, C, x, h => by
    unfold mF at h
    split at h
    · rename_i elt tgx itx ifsx scope q
      obtain ⟨p, rfl⟩ := vComp_ok q
      obtain ⟨h1, h⟩ := ba2 h
      obtain ⟨h2, h⟩ := ba2 h
      obtain ⟨h3, h⟩ := ba2 h
      obtain ⟨h4, h⟩ := ba2 h
      obtain ⟨h5, h⟩ := ba2 h
      obtain ⟨h6, h7⟩ := ba2 h
      exact f_comp (own := own) (t := tg) C.calm (by rw [C.n]; exact C.nd) (mI_ok it C h5) (by rw [C.n, C.s]; exact blkB_ok h1) (fun i hi => List.contains_iff_mem.mp (List.all_eq_true.mp h2 i hi)) (fun s H D cs fp => mTg_blk C h4 s H D cs fp)
        (fun s H D cs fp => mCs_ok ifs (C.blk s H scope D cs fp) h6) (fun s H D cs fp => (mE_ok e (C.blk s H scope D cs fp) h7).1) (noSet_ok h3 _)
    · cases h
  | .listOf a, X, W, sc, C, x, h => by
    unfold mF at h
    split at h
    · rename_i y z q
      obtain ⟨p, p2, rfl⟩ := vCall_ok q
      obtain ⟨h1, h⟩ := ba2 h
      obtain ⟨h2, h⟩ := ba2 h
      obtain ⟨h3, h4⟩ := ba2 h
      cases of_decide_eq_true h1
      exact f_listOf h3 (C.gl h2) (C.gb _ (mem_blts (by decide +kernel))) (mE_ok a C h4).1
    · cases h
  | .listRng a, X, W, sc, C, x, h => by
    unfold mF at h
    split at h
    · rename_i y z q
      obtain ⟨p, p2, rfl⟩ := vCall_ok q
      split at h
      · rename_i y2 u q2
        obtain ⟨p3, p4, rfl⟩ := vCall_ok q2
        obtain ⟨h1, h⟩ := ba2 h
        obtain ⟨h2, h⟩ := ba2 h
        obtain ⟨h3, h⟩ := ba2 h
        obtain ⟨h4, h⟩ := ba2 h
        obtain ⟨h5, h6⟩ := ba2 h
        cases of_decide_eq_true h1
        cases of_decide_eq_true h2
        exact f_listRng C.calm h5 (C.gl h3) (C.gb _ (mem_blts (by decide +kernel))) (C.gl h4) (C.gb _ (mem_blts (by decide +kernel))) (mE_ok a C h6).1
      · cases h
    · cases h
  | .cat a b, X, W, sc, C, x, h => by
    unfold mF at h
    split at h
    · rename_i y op z q
      obtain ⟨p, rfl⟩ := vBin_ok q
      obtain ⟨h1, h⟩ := ba2 h
      obtain ⟨h2, h3⟩ := ba2 h
      rw [of_decide_eq_true h1]
      exact f_cat (mE_ok a C h2).1 (mE_ok b C h3).1
    · cases h
  | .rep a b, X, W, sc, C, x, h => by
    unfold mF at h
    split at h
    · rename_i y op z q
      obtain ⟨p, rfl⟩ := vBin_ok q
      obtain ⟨h1, h⟩ := ba2 h
      obtain ⟨h2, h3⟩ := ba2 h
      rw [of_decide_eq_true h1]
      exact f_rep (mE_ok a C h2).1 (mE_ok b C h3).1
    · cases h
  | .slL a lo hi, X, W, sc, C, x, h => by
    unfold mF at h
    split at h
    · rename_i y l u q
      obtain ⟨p, p2, rfl⟩ := vSlc_ok q
      obtain ⟨h1, h⟩ := ba2 h
      obtain ⟨h2, h3⟩ := ba2 h
      exact f_slL (mE_ok a C h1).1 (mO_ok lo C h2) (mO_ok hi C h3)
    · cases h
  | .split s a, X, W, sc, C, x, h => by
    unfold mF at h
    split at h
    · rename_i o m y b q
      obtain ⟨p, p2, rfl, hl⟩ := vMeth_ok q
      obtain ⟨h1, h⟩ := ba2 h
      obtain ⟨h2, h⟩ := ba2 h
      obtain ⟨h3, h⟩ := ba2 h
      obtain ⟨h4, h⟩ := ba2 h
      obtain ⟨h5, h6⟩ := ba2 h
      cases of_decide_eq_true h1
      exact f_split h3 h4 (hl.trans h2) (mE_ok s C h5).1 (mE_ok a C h6).1
    · cases h
  | .splitMax s a k, X, W, sc, C, x, h => by
    unfold mF at h
    split at h
    · rename_i o m y z b q
      obtain ⟨p, p2, rfl, hl⟩ := vMeth_ok q
      obtain ⟨h1, h⟩ := ba2 h
      obtain ⟨h2, h⟩ := ba2 h
      obtain ⟨h3, h⟩ := ba2 h
      obtain ⟨h4, h⟩ := ba2 h
      obtain ⟨h5, h⟩ := ba2 h
      obtain ⟨h6, h⟩ := ba2 h
      obtain ⟨h7, h8⟩ := ba2 h
      cases of_decide_eq_true h1
      exact f_splitMax h3 h4 h5 (hl.trans h2) (mE_ok s C h6).1 (mE_ok a C h7).1 (mE_ok k C h8).1
    · cases h
theorem mCs_ok : ∀ (c : Cs) {X : Cx} {W : WX} {sc : Scope} (C : Cok N P cl X W sc) {xs : List Expr}, mCs N P c sc xs = true → PTs X xs (tT X.K W (evC cl c))
  | .nil, X, W, sc, C, xs, h => by
    unfold mCs at h
    cases xs with
    | nil =>
      refine ⟨fun pins s σ H Q I ⟨w, τ, S, hH, hr, hs, z⟩ => pts_nil.run pins s σ H Q I ?_⟩
      subst hH
      exact z w (.refl _) hr
    | cons _ _ => cases h
  | .one t, X, W, sc, C, xs, h => by
    unfold mCs at h
    split at h
    · exact pts_one (mT_ok t C h)
    · cases h
theorem mI_ok : ∀ (it : It) {X : Cx} {W : WX} {sc : Scope} (C : Cok N P cl X W sc) {tg x : Expr}, mI N P it sc tg x = true → PI X tg x (tI X.K W (evI cl it))
  | .seq true a, X, W, sc, C, tg, x, h => i_tup (mE_ok a C h).1
  | .seq false a, X, W, sc, C, tg, x, h => i_list (mE_ok a C h).1
  | .str a, X, W, sc, C, tg, x, h => i_str (mE_ok a C h).1
  | .rng1 a, X, W, sc, C, tg, x, h => by
    unfold mI at h
    split at h
    · rename_i y z q
      obtain ⟨p, p2, rfl⟩ := vCall_ok q
      obtain ⟨h1, h⟩ := ba2 h
      obtain ⟨h2, h⟩ := ba2 h
      obtain ⟨h3, h4⟩ := ba2 h
      cases of_decide_eq_true h1
      exact i_rng1 h3 (C.gl h2) (C.gb _ (mem_blts (by decide +kernel))) (mE_ok a C h4).1
    · cases h
  | .rng2 a b, X, W, sc, C, tg, x, h => by
    unfold mI at h
    split at h
    · rename_i y z u q
      obtain ⟨p, p2, rfl⟩ := vCall_ok q
      obtain ⟨h1, h⟩ := ba2 h
      obtain ⟨h2, h⟩ := ba2 h
      obtain ⟨h3, h⟩ := ba2 h
      obtain ⟨h4, h⟩ := ba2 h
      obtain ⟨h5, h6⟩ := ba2 h
      cases of_decide_eq_true h1
      exact i_rng2 h3 h4 (C.gl h2) (C.gb _ (mem_blts (by decide +kernel))) (mE_ok a C h5).1 (mE_ok b C h6).1
    · cases h
  | .enumL a, X, W, sc, C, tg, x, h => by
    unfold mI at h
    split at h
    · rename_i y z q
      obtain ⟨p, p2, rfl⟩ := vCall_ok q
      obtain ⟨h0, h⟩ := ba2 h
      obtain ⟨h1, h⟩ := ba2 h
      obtain ⟨h2, h⟩ := ba2 h
      obtain ⟨h3, h4⟩ := ba2 h
      obtain ⟨es, he⟩ := Option.isSome_iff_exists.mp h0
      obtain ⟨k, p3, rfl⟩ := vTup_ok he
      cases of_decide_eq_true h1
      exact i_enumL h3 (C.gl h2) (C.gb _ (mem_blts (by decide +kernel))) (mE_ok a C h4).1
    · cases h
  | .enumS a, X, W, sc, C, tg, x, h => by
    unfold mI at h
    split at h
    · rename_i y z q
      obtain ⟨p, p2, rfl⟩ := vCall_ok q
      obtain ⟨h0, h⟩ := ba2 h
      obtain ⟨h1, h⟩ := ba2 h
      obtain ⟨h2, h⟩ := ba2 h
      obtain ⟨h3, h4⟩ := ba2 h
      obtain ⟨es, he⟩ := Option.isSome_iff_exists.mp h0
      obtain ⟨k, p3, rfl⟩ := vTup_ok he
      cases of_decide_eq_true h1
      exact i_enumS h3 (C.gl h2) (C.gb _ (mem_blts (by decide +kernel))) (mE_ok a C h4).1
    · cases h
end
end
end Pi
end
section
set_option Elab.async false
set_option linter.all false
set_option maxRecDepth 100000
set_option maxHeartbeats 4000000
/-! Pi, part O: core statements matched with the text. -/
namespace Pi
open PySem PySem.Spec PyProof.Rows L2
/-! ### views -/
def sSet : Stmt → Option (Str × Pos × Expr × Pos)
  | .Assign [.Name x p] e q => some (x, p, e, q)
  | _ => none
theorem sSet_ok {s : Stmt} {x : Str} {p q : Pos} {e : Expr} (h : sSet s = some (x, p, e, q)) : s = .Assign [.Name x p] e q := by
  unfold sSet at h; split at h <;> cases h; rfl
def sSub : Stmt → Option (Expr × Expr × Expr)
  | .Assign [.Subscript a i _] e _ => some (a, i, e)
  | _ => none
theorem sSub_ok {s : Stmt} {a i e : Expr} (h : sSub s = some (a, i, e)) : ∃ p q, s = .Assign [.Subscript a i p] e q := by
  unfold sSub at h; split at h <;> cases h; exact ⟨_, _, rfl⟩
def sFd : Stmt → Option (Expr × Str × Expr)
  | .Assign [.Attribute a f _] e _ => some (a, f, e)
  | _ => none
theorem sFd_ok {s : Stmt} {a e : Expr} {f : Str} (h : sFd s = some (a, f, e)) : ∃ p q, s = .Assign [.Attribute a f p] e q := by
  unfold sFd at h; split at h <;> cases h; exact ⟨_, _, rfl⟩
def sTryN : Stmt → Option (List Stmt × Str × Str × Str × Str)
  | .Try body [.ExceptHandler (some (.Name h _)) (some n) [.Return (some (.Tuple [.Constant .none _ _, .Call (.Name f _) [.Name m _] [] _] _ _)) _] _] [] [] _ => some (body, h, n, f, m)
  | _ => none
theorem sTryN_ok {s : Stmt} {body : List Stmt} {h n f m : Str} (e : sTryN s = some (body, h, n, f, m)) : ∃ np q1 q2 q3 q4 q5 q6 j5 k6 p' p, s = .Try body [.ExceptHandler (some (.Name h np)) (some n) [.Return (some (.Tuple [.Constant .none j5 q5, .Call (.Name f q1) [.Name m q2] [] q3] k6 q6)) q4] p'] [] [] p := by
  unfold sTryN at e; split at e <;> cases e; exact ⟨_, _, _, _, _, _, _, _, _, _, _, rfl⟩
def sTwo : Stmt → Option (Str × Str × Expr)
  | .Assign [.Tuple [.Name x _, .Name y _] _ _] e _ => some (x, y, e)
  | _ => none
theorem sTwo_ok {s : Stmt} {x y : Str} {e : Expr} (h : sTwo s = some (x, y, e)) : ∃ p q k r t, s = .Assign [.Tuple [.Name x p, .Name y q] k r] e t := by
  unfold sTwo at h; split at h <;> cases h; exact ⟨_, _, _, _, _, rfl⟩
def sAug : Stmt → Option (Str × Operator × Expr)
  | .AugAssign (.Name x _) o e _ => some (x, o, e)
  | _ => none
theorem sAug_ok {s : Stmt} {x : Str} {o : Operator} {e : Expr} (h : sAug s = some (x, o, e)) : ∃ p q, s = .AugAssign (.Name x p) o e q := by
  unfold sAug at h; split at h <;> cases h; exact ⟨_, _, rfl⟩
def sAugS : Stmt → Option (Expr × Expr × Operator × Expr)
  | .AugAssign (.Subscript a i _) o e _ => some (a, i, o, e)
  | _ => none
theorem sAugS_ok {s : Stmt} {a i e : Expr} {o : Operator} (h : sAugS s = some (a, i, o, e)) : ∃ p q, s = .AugAssign (.Subscript a i p) o e q := by
  unfold sAugS at h; split at h <;> cases h; exact ⟨_, _, rfl⟩
def sExp : Stmt → Option Expr
  | .Expr e _ => some e
  | _ => none
theorem sExp_ok {s : Stmt} {e : Expr} (h : sExp s = some e) : ∃ p, s = .Expr e p := by
  unfold sExp at h; split at h <;> cases h; exact ⟨_, rfl⟩
def sRet : Stmt → Option (Option Expr)
  | .Return e _ => some e
  | _ => none
theorem sRet_ok {s : Stmt} {e : Option Expr} (h : sRet s = some e) : ∃ p, s = .Return e p := by
  unfold sRet at h; split at h <;> cases h; exact ⟨_, rfl⟩
def sIf : Stmt → Option (Expr × List Stmt × List Stmt)
  | .If c a b _ => some (c, a, b)
  | _ => none
theorem sIf_ok {s : Stmt} {c : Expr} {a b : List Stmt} (h : sIf s = some (c, a, b)) : ∃ p, s = .If c a b p := by
  unfold sIf at h; split at h <;> cases h; exact ⟨_, rfl⟩
def sFor : Stmt → Option (Expr × Expr × List Stmt)
  | .For tg it b [] _ => some (tg, it, b)
  | _ => none
theorem sFor_ok {s : Stmt} {tg it : Expr} {b : List Stmt} (h : sFor s = some (tg, it, b)) : ∃ p, s = .For tg it b [] p := by
  unfold sFor at h; split at h <;> cases h; exact ⟨_, rfl⟩
def sWhile : Stmt → Option (Expr × List Stmt)
  | .While c b [] _ => some (c, b)
  | _ => none
theorem sWhile_ok {s : Stmt} {c : Expr} {b : List Stmt} (h : sWhile s = some (c, b)) : ∃ p, s = .While c b [] p := by
  unfold sWhile at h; split at h <;> cases h; exact ⟨_, rfl⟩
def sRaise : Stmt → Option (Str × Expr × List Expr)
  | .Raise (some (.Call (.Name c _) (e :: es) [] _)) none _ => some (c, e, es)
  | _ => none
theorem sRaise_ok {s : Stmt} {c : Str} {e : Expr} {es : List Expr} (h : sRaise s = some (c, e, es)) : ∃ p q r, s = .Raise (some (.Call (.Name c p) (e :: es) [] q)) none r := by
  unfold sRaise at h; split at h <;> cases h; exact ⟨_, _, _, rfl⟩
def sTry : Stmt → Option (List Stmt × Str × Str × Str × Str)
  | .Try body [.ExceptHandler (some (.Name h _)) (some n) [.Return (some (.Call (.Name f _) [.Name m _] [] _)) _] _] [] [] _ => some (body, h, n, f, m)
  | _ => none
theorem sTry_ok {s : Stmt} {body : List Stmt} {h n f m : Str} (e : sTry s = some (body, h, n, f, m)) : ∃ np q1 q2 q3 q4 p' p, s = .Try body [.ExceptHandler (some (.Name h np)) (some n) [.Return (some (.Call (.Name f q1) [.Name m q2] [] q3)) q4] p'] [] [] p := by
  unfold sTry at e; split at e <;> cases e; exact ⟨_, _, _, _, _, _, _, rfl⟩
def swB (sc : Scope) (t : Str) (pp : Pos) : Expr → Bool
  | .ListComp _ _ s p => decide (sc.names.lookup t = some .local) && ((pp.line == p.line) && !(s.names.any fun (n, k) => n == t && (k == .local || k == .cell)))
  | .SetComp _ _ _ _ => true
  | .DictComp _ _ _ _ _ => true
  | _ => false
theorem swB_no {env : Env} {t : Str} {pp : Pos} {e : Expr} {l : Nat} (hk : env.scope.kind = .function) (h : swB env.scope t pp e = false) : swapsWith e (some (.Name t pp)) l env = pure false := by
  cases e with
  | ListComp elt gs s p =>
    have h' : (decide (env.scope.names.lookup t = some .local) && ((pp.line == p.line) && !(s.names.any fun (n, k) => n == t && (k == .local || k == .cell)))) = false := h
    have hb : env.blockKind = .function := by unfold Env.blockKind; rw [hk]; rfl
    unfold swapsWith
    simp only [hb, Expr.pos]
    have e1 : (env.kindOf t == some NameKind.local) = decide (env.scope.names.lookup t = some .local) := by
      show (env.scope.names.lookup t == some NameKind.local) = _
      generalize env.scope.names.lookup t = o
      cases o with
      | none => rfl
      | some k => cases k <;> rfl
    have e2 : (ScopeKind.function == ScopeKind.function && env.kindOf t == some NameKind.local && pp.line == p.line && !(s.names.any fun (n, k) => n == t && (k == .local || k == .cell))) = false := by
      rw [e1, ← h']
      cases decide (env.scope.names.lookup t = some .local) <;> cases (pp.line == p.line) <;> rfl
    exact congrArg pure e2
  | SetComp _ _ _ _ => cases h
  | DictComp _ _ _ _ _ => cases h
  | _ => rfl
theorem swB_yes {sc : Scope} {t : Str} {pp p : Pos} {elt : Expr} {gs : List Comprehension} {s : Scope} (h : swB sc t pp (.ListComp elt gs s p) = true) : sc.names.lookup t = some .local ∧ (pp.line == p.line) = true ∧ (s.names.any fun (n, k) => n == t && (k == .local || k == .cell)) = false := by
  obtain ⟨h1, h⟩ := ba2 (show (decide (sc.names.lookup t = some .local) && ((pp.line == p.line) && !(s.names.any fun (n, k) => n == t && (k == .local || k == .cell)))) = true from h)
  obtain ⟨h2, h3⟩ := ba2 h
  exact ⟨of_decide_eq_true h1, h2, nb h3⟩
def noTup : Expr → Bool
  | .Tuple _ _ _ => false
  | _ => true
theorem noTup_ok {e : Expr} (h : noTup e = true) (ts : List Expr) (env : Env) : swappedStores ts e env = pure none := by
  cases e with
  | Tuple _ _ _ => cases h
  | _ => unfold swappedStores; split <;> first | rfl | simp_all
theorem asg_of {b : Expr} (h : plainIx b = true) (a : Expr) (tpos : Pos) (env : Env) (v : Value) : assign (.Subscript a b tpos) env v = (do
      let ov ← holding [v] (eval a env)
      let iv ← holding [v, ov] (eval b env)
      standAt tpos
      holding [v, ov, iv] (setItem ov iv v)
      release [v, ov, iv] []) := by
  cases b with
  | Slice _ _ _ _ => cases h
  | _ => rfl
theorem augst_of {b : Expr} (h : plainIx b = true) (ov iv new : Value) : augStore b ov iv new = (do holding [new, ov, iv] (setItem ov iv new); release [new, ov, iv] []; pure .next) := by
  cases b with
  | Slice _ _ _ _ => cases h
  | _ => rfl
def augB (o : Bop) (op : Operator) : Bool := match o, op with
  | .add, .Add => true
  | .sub, .Sub => true
  | _, _ => false
theorem augB_ok {o : Bop} {op : Operator} (h : augB o op = true) : (o = .add ∧ op = .Add) ∨ (o = .sub ∧ op = .Sub) := by
  unfold augB at h
  split at h
  · exact .inl ⟨rfl, rfl⟩
  · exact .inr ⟨rfl, rfl⟩
  · cases h
/-! ### the matcher -/
section
variable (N : List Str) (P : List Df)
mutual
def mS : C → Scope → Stmt → Bool
  | .dead, _, _ => true
  | .pass, _, s => (match s with
    | .Pass _ => true
    | .Expr (.Constant (.str _) _ _) _ => true
    | _ => false)
  | .exp e, sc, s => (match sExp s with
    | some x => noComp x && mE N P e sc x
    | none => false)
  | .app a e, sc, s => (match sExp s with
    | some x => (match vMeth x with
      | some (o, m, [y], b) => decide (m = "append") && (b && (noStar y && (noSuper o && (mE N P a sc o && mE N P e sc y))))
      | _ => false)
    | none => false)
  | .set i e, sc, s => (match sSet s with
    | some (x, p, y, _) => decide (N[i]? = some x) && (locB sc x && (!swB sc x p y && mE N P e sc y))
    | none => false)
  | .setc i e, sc, s => (match sSet s with
    | some (x, p, y, _) => decide (N[i]? = some x) && (swB sc x p y && (match e with
      | .frz (.comp _ _ _ _ _) => mE N P e sc y
      | .live (.comp _ _ _ _ _) => mE N P e sc y
      | _ => false))
    | none => false)
  | .aug i o e, sc, s => (match sAug s with
    | some (x, op, y) => decide (N[i]? = some x) && (locB sc x && (augB o op && mE N P e sc y))
    | none => false)
  | .setIx a i e, sc, s => (match sSub s with
    | some (x, y, z) => plainIx y && (noComp z && (mE N P a sc x && (mE N P i sc y && mE N P e sc z)))
    | none => false)
  | .setKy a k e, sc, s => (match sSub s with
    | some (x, y, z) => mE N P a sc x && (mE N P k sc y && mE N P e sc z)
    | none => false)
  | .setFd a f e, sc, s => (match sFd s with
    | some (x, g, z) => decide (g = f) && (mE N P a sc x && mE N P e sc z)
    | none => false)
  | .noneFault b i, sc, s => (match sTryN s with
    | some (body, h, n, f, m) => decide (h = "HighError") && (decide (f = "_law_fault") && (decide (m = n) && (glB sc "HighError" && (glB sc "_law_fault" && (decide (N[i]? = some n) && (decide (sc.names.lookup n = some .local) && (nmB n && mL b sc body)))))))
    | none => false)
  | .augIx a i o e, sc, s => (match sAugS s with
    | some (x, y, op, z) => plainIx y && (augB o op && (mE N P a sc x && (mE N P i sc y && mE N P e sc z)))
    | none => false)
  | .two i j e, sc, s => (match sTwo s with
    | some (x, y, z) => decide (N[i]? = some x) && (locB sc x && (decide (N[j]? = some y) && (locB sc y && (noComp z && (noTup z && mE N P e sc z)))))
    | none => false)
  | .ret e, sc, s => (match sRet s with
    | some (some x) => mE N P e sc x
    | _ => false)
  | .retN, _, s => (match sRet s with
    | some none => true
    | _ => false)
  | .ite t a b, sc, s => (match sIf s with
    | some (c, x, y) => mT N P t sc c && (mL a sc x && mL b sc y)
    | none => false)
  | .for tg it b, sc, s => (match sFor s with
    | some (tx, ix, y) => noSet ix && (mTg N tg sc tx && (mI N P it sc tx ix && mL b sc y))
    | none => false)
  | .while _ t b, sc, s => (match sWhile s with
    | some (c, y) => mT N P t sc c && mL b sc y
    | none => false)
  | .brk, _, s => (match s with
    | .Break _ => true
    | _ => false)
  | .cnt, _, s => (match s with
    | .Continue _ => true
    | _ => false)
  | .raise c es, sc, s => (match sRaise s with
    | some (x, y, ys) => decide (x = c) && (glB sc c && (nmB c && (decide (kindX c ≠ 9) && mEs N P es sc (y :: ys))))
    | none => false)
  | .fault b i, sc, s => (match sTry s with
    | some (body, h, n, f, m) => decide (h = "HighError") && (decide (f = "_law_fault") && (decide (m = n) && (glB sc "HighError" && (glB sc "_law_fault" && (decide (N[i]? = some n) && (decide (sc.names.lookup n = some .local) && (nmB n && mL b sc body)))))))
    | none => false)
  | .nil, _, _ => false
  | .cons _ _, _, _ => false
def mL : C → Scope → List Stmt → Bool
  | .nil, _, ss => ss.isEmpty
  | .cons a b, sc, ss => (match ss with
    | s :: r => mS a sc s && mL b sc r
    | [] => false)
  | .dead, _, _ => true
  | _, _, _ => false
end
end
end Pi
end
section
set_option Elab.async false
set_option linter.all false
set_option maxRecDepth 100000
set_option maxHeartbeats 4000000
/-! Pi, part P: what is matched is done. -/
namespace Pi
open PySem PySem.Spec PyProof.Rows L2
/-- the context of a statement -/
structure Sok (N : List Str) (P : List Df) (cl : Nat → List D → Sto → R D) (X : Cx) (W : WX) (sc : Scope) : Prop where
  c : Cok N P cl X W sc
  st : X.stack = X.env :: X.outer
  fr : X.env.frame = some X.env.locals
  kd : X.env.scope.kind = .function
  po : PassesOwn (model X.prog X.w) X.A X.env X.xe
  fn1 : ∀ x, X.fn x = true
  kf : KFct X.K X.mg
  ini : ∀ c, kindX c ≠ 9 → ∃ k fd ps, FnOk X.prog X.w X.K X.mg X.base (L2.CX X.prog X.w) k (He.ma X.K (He.ga X.K c) "__init__") fd ps (spX X.K c) ∧ Room (k + 1) X.A ∧ Binds X.K fd ps []
  flt : ∃ k fa fd, FnF X.prog X.w X.K X.mg X.base (L2.CX X.prog X.w) k fa fd [("error" : Str)] (spFlt X.K) ∧ Room k X.A ∧ Binds X.K fd [("error" : Str)] [] ∧ X.mg "_law_fault" = some (.ref fa) ∧ PySem.W.keepIn X.K (.ref fa) = true
section
variable {N : List Str} {P : List Df} {cl : Nat → List D → Sto → R D}
theorem Sok.tr {X : Cx} {W W' : WX} {sc : Scope} (C : Sok N P cl X W sc) (pn : List (Addr × Obj)) (xe : Value → Shared → Prop) (tk : Takes (X.tr pn xe) W') (po : PassesOwn (model X.prog X.w) X.A X.env xe) : Sok N P cl (X.tr pn xe) W' sc :=
  ⟨⟨C.c.s, C.c.n, C.c.nd, C.c.calm, tk, C.c.hu, C.c.gb, C.c.lim, C.c.fn⟩, C.st, C.fr, C.kd, po, C.fn1, C.kf, C.ini, C.flt⟩
theorem Sok.loc {X : Cx} {W : WX} {sc : Scope} (C : Sok N P cl X W sc) {x : Str} (h : locB sc x = true) : Loc X.env.scope x := by rw [C.c.s]; exact locB_ok h
theorem Sok.ix {X : Cx} {W : WX} {sc : Scope} (C : Sok N P cl X W sc) {i : Nat} {x : Str} (h : decide (N[i]? = some x) = true) : X.N[i]? = some x := by rw [C.c.n]; exact of_decide_eq_true h
theorem Sok.nd {X : Cx} {W : WX} {sc : Scope} (C : Sok N P cl X W sc) : X.N.Nodup := by rw [C.c.n]; exact C.c.nd
theorem sole_of {e : Expr} (h : noComp e = true) (t : Expr) (l : Nat) (env : Env) : swapsWithSole [t] e l env = pure false := by
  unfold swapsWithSole
  exact swaps_of h (some t) l env
theorem dead_S {X : Cx} {W : WX} {s : Stmt} : PS X s (tC X.K W fun _ _ => .stuck) := ⟨fun pins s σ H D I ⟨w, τ, S, hH, hr, hs, z⟩ => z.elim⟩
theorem dead_L {X : Cx} {W : WX} {s : List Stmt} : PSs X s (tC X.K W fun _ _ => .stuck) := ⟨fun pins s σ H D I ⟨w, τ, S, hH, hr, hs, z⟩ => z.elim⟩
mutual
theorem mS_ok : ∀ (c : C) {X : Cx} {W : WX} {sc : Scope} (C : Sok N P cl X W sc) {s : Stmt}, mS N P c sc s = true → PS X s (tC X.K W (exC cl c))
  | .dead, X, W, sc, C, s, h => dead_S
  | .pass, X, W, sc, C, s, h => by
    unfold mS at h
    split at h
    · exact c_pass
    · exact c_doc
    · cases h
  | .exp e, X, W, sc, C, s, h => by
    unfold mS at h
    split at h
    · rename_i x q
      obtain ⟨p, rfl⟩ := sExp_ok q
      obtain ⟨h1, h2⟩ := ba2 h
      exact c_exp h1 (mE_ok e C.c h2).1
    · cases h
  | .app a e, X, W, sc, C, s, h => by
    unfold mS at h
    split at h
    · rename_i x q
      obtain ⟨p, rfl⟩ := sExp_ok q
      split at h
      · rename_i o m y b q2
        obtain ⟨p1, p2, rfl, hl⟩ := vMeth_ok q2
        obtain ⟨h1, h⟩ := ba2 h
        obtain ⟨h2, h⟩ := ba2 h
        obtain ⟨h3, h⟩ := ba2 h
        obtain ⟨h4, h⟩ := ba2 h
        obtain ⟨h5, h6⟩ := ba2 h
        cases of_decide_eq_true h1
        exact c_app h3 h4 (hl.trans h2) (mE_ok a C.c h5).1 (mE_ok e C.c h6).1
      · cases h
    · cases h
  | .set i e, X, W, sc, C, s, h => by
    unfold mS at h
    split at h
    · rename_i x p y p2 q
      cases sSet_ok q
      obtain ⟨h1, h⟩ := ba2 h
      obtain ⟨h2, h⟩ := ba2 h
      obtain ⟨h3, h4⟩ := ba2 h
      exact c_set C.nd (C.ix h1) (C.loc h2) (C.fn1 _) (swB_no C.kd (by rw [C.c.s]; exact nb h3)) (mE_ok e C.c h4).1
    · cases h
  | .setc i e, X, W, sc, C, s, h => by
    unfold mS at h
    split at h
    · rename_i x p y p2 q
      cases sSet_ok q
      obtain ⟨h1, ha⟩ := ba2 h
      clear h
      obtain ⟨h2, h⟩ := ba2 ha
      clear ha
      split at h
      · rename_i tg it ifs e own
        unfold mE mF at h
        split at h
        · rename_i elt tgx itx ifsx scope q3
          obtain ⟨p4, rfl⟩ := vComp_ok q3
          obtain ⟨g1, h⟩ := ba2 h
          obtain ⟨g2, h⟩ := ba2 h
          obtain ⟨g3, h⟩ := ba2 h
          obtain ⟨g4, h⟩ := ba2 h
          obtain ⟨g5, h⟩ := ba2 h
          obtain ⟨g6, g7⟩ := ba2 h
          obtain ⟨k1, k2, k3⟩ := swB_yes h2
          exact c_setc (own := own) (t := tg) false C.kd k2 k3 C.c.calm C.nd (C.ix h1) (by rw [C.c.s]; exact k1) (mI_ok it C.c g5) (by rw [C.c.n, C.c.s]; exact blkB_ok g1) (fun i hi => List.contains_iff_mem.mp (List.all_eq_true.mp g2 i hi)) (fun s H D cs fp => mTg_blk C.c g4 s H D cs fp)
            (fun s H D cs fp => mCs_ok ifs (C.c.blk s H scope D cs fp) g6) (fun s H D cs fp => (mE_ok e (C.c.blk s H scope D cs fp) g7).1) (noSet_ok g3 _)
        · cases h
      · rename_i tg it ifs e own
        unfold mE mF at h
        split at h
        · rename_i elt tgx itx ifsx scope q3
          obtain ⟨p4, rfl⟩ := vComp_ok q3
          obtain ⟨g1, h⟩ := ba2 h
          obtain ⟨g2, h⟩ := ba2 h
          obtain ⟨g3, h⟩ := ba2 h
          obtain ⟨g4, h⟩ := ba2 h
          obtain ⟨g5, h⟩ := ba2 h
          obtain ⟨g6, g7⟩ := ba2 h
          obtain ⟨k1, k2, k3⟩ := swB_yes h2
          exact c_setc (own := own) (t := tg) true C.kd k2 k3 C.c.calm C.nd (C.ix h1) (by rw [C.c.s]; exact k1) (mI_ok it C.c g5) (by rw [C.c.n, C.c.s]; exact blkB_ok g1) (fun i hi => List.contains_iff_mem.mp (List.all_eq_true.mp g2 i hi)) (fun s H D cs fp => mTg_blk C.c g4 s H D cs fp)
            (fun s H D cs fp => mCs_ok ifs (C.c.blk s H scope D cs fp) g6) (fun s H D cs fp => (mE_ok e (C.c.blk s H scope D cs fp) g7).1) (noSet_ok g3 _)
        · cases h
      · cases h
    · cases h
  | .aug i o e, X, W, sc, C, s, h => by
    unfold mS at h
    split at h
    · rename_i x op y q
      obtain ⟨p, p2, rfl⟩ := sAug_ok q
      obtain ⟨h1, h⟩ := ba2 h
      obtain ⟨h2, h⟩ := ba2 h
      obtain ⟨h3, h4⟩ := ba2 h
      exact c_aug C.nd (C.ix h1) (C.loc h2) (C.fn1 _) o (augB_ok h3) (mE_ok e C.c h4).1
    · cases h
  | .setIx a i e, X, W, sc, C, s, h => by
    unfold mS at h
    split at h
    · rename_i x y z q
      obtain ⟨p, p2, rfl⟩ := sSub_ok q
      obtain ⟨h1, h⟩ := ba2 h
      obtain ⟨h2, h⟩ := ba2 h
      obtain ⟨h3, h⟩ := ba2 h
      obtain ⟨h4, h5⟩ := ba2 h
      exact c_setIx h1 h2 (mE_ok e C.c h5).1 (mE_ok a C.c h3).1 (mE_ok i C.c h4).1 (sole_of h2 _ _ _) (asg_of h1 _ _ _)
    · cases h
  | .setKy a k e, X, W, sc, C, s, h => by
    unfold mS at h
    split at h
    · rename_i x y z q
      obtain ⟨p, p2, rfl⟩ := sSub_ok q
      obtain ⟨h1, h⟩ := ba2 h
      obtain ⟨h2, h3⟩ := ba2 h
      exact c_setKy (by have := C.c.hu; omega) (mE_ok e C.c h3).1 (mE_ok a C.c h1).1 (mE_ok k C.c h2).1
    · cases h
  | .setFd a f e, X, W, sc, C, s, h => by
    unfold mS at h
    split at h
    · rename_i x g z q
      obtain ⟨p, p2, rfl⟩ := sFd_ok q
      obtain ⟨h1, h⟩ := ba2 h
      obtain ⟨h2, h3⟩ := ba2 h
      cases of_decide_eq_true h1
      exact c_setFd (mE_ok e C.c h3).1 (mE_ok a C.c h2).1
    · cases h
  | .noneFault b i, X, W, sc, C, s, h => by
    unfold mS at h
    split at h
    · rename_i body hh n f m q
      obtain ⟨np, q1, q2, q3, q4, q5, q6, j5, k6, p', p, rfl⟩ := sTryN_ok q
      obtain ⟨h1, h⟩ := ba2 h
      obtain ⟨h2, h⟩ := ba2 h
      obtain ⟨h3, h⟩ := ba2 h
      obtain ⟨h4, h⟩ := ba2 h
      obtain ⟨h5, h⟩ := ba2 h
      obtain ⟨h6, h⟩ := ba2 h
      obtain ⟨h7, h⟩ := ba2 h
      obtain ⟨h8, h9⟩ := ba2 h
      cases of_decide_eq_true h1
      cases of_decide_eq_true h2
      cases of_decide_eq_true h3
      obtain ⟨k, fa, fd, F, hr, hb, hm, hk⟩ := C.flt
      exact c_noneFault (i := i) C.kf F hr hb (C.c.gl h5) hm hk (C.c.gl h4) C.st C.fr C.nd (C.ix h6) (by rw [C.c.s]; exact of_decide_eq_true h7) (nmB_ok h8).1 (nmB_ok h8).2 C.c.tk (fun W pn xe tk po => mL_ok b (C.tr pn xe tk po) h9)
    · cases h
  | .augIx a i o e, X, W, sc, C, s, h => by
    unfold mS at h
    split at h
    · rename_i x y op z q
      obtain ⟨p, p2, rfl⟩ := sAugS_ok q
      obtain ⟨h1, h⟩ := ba2 h
      obtain ⟨h2, h⟩ := ba2 h
      obtain ⟨h3, h⟩ := ba2 h
      obtain ⟨h4, h5⟩ := ba2 h
      exact c_augIx o (augB_ok h2) (mE_ok a C.c h3).1 (mE_ok i C.c h4).1 (mE_ok e C.c h5).1 (augst_of h1)
    · cases h
  | .two i j e, X, W, sc, C, s, h => by
    unfold mS at h
    split at h
    · rename_i x y z q
      obtain ⟨p, p2, k, p3, p4, rfl⟩ := sTwo_ok q
      obtain ⟨h1, h⟩ := ba2 h
      obtain ⟨h2, h⟩ := ba2 h
      obtain ⟨h3, h⟩ := ba2 h
      obtain ⟨h4, h⟩ := ba2 h
      obtain ⟨h5, h⟩ := ba2 h
      obtain ⟨h6, h7⟩ := ba2 h
      exact c_two C.c.calm C.nd (C.ix h1) (C.ix h3) (C.loc h2) (C.loc h4) (C.fn1 _) (C.fn1 _) (mE_ok e C.c h7).1 (sole_of h5 _ _ _) (noTup_ok h6 _ _)
    · cases h
  | .ret e, X, W, sc, C, s, h => by
    unfold mS at h
    split at h
    · rename_i x q
      obtain ⟨p, rfl⟩ := sRet_ok q
      exact c_ret (mE_ok e C.c h).1
    · cases h
  | .retN, X, W, sc, C, s, h => by
    unfold mS at h
    split at h
    · rename_i q
      obtain ⟨p, rfl⟩ := sRet_ok q
      exact c_retN
    · cases h
  | .ite t a b, X, W, sc, C, s, h => by
    unfold mS at h
    split at h
    · rename_i x y z q
      obtain ⟨p, rfl⟩ := sIf_ok q
      obtain ⟨h1, h⟩ := ba2 h
      obtain ⟨h2, h3⟩ := ba2 h
      exact c_ite (mT_ok t C.c h1) (mL_ok a C h2) (mL_ok b C h3)
    · cases h
  | .for tg it b, X, W, sc, C, s, h => by
    unfold mS at h
    split at h
    · rename_i x y z q
      obtain ⟨p, rfl⟩ := sFor_ok q
      obtain ⟨h1, h⟩ := ba2 h
      obtain ⟨h2, h⟩ := ba2 h
      obtain ⟨h3, h4⟩ := ba2 h
      exact c_for C.po C.c.calm (mI_ok it C.c h3) (mTg_ok (tsc := sc) C.c.n C.c.nd C.c.calm (fun x hx => ⟨C.loc hx, .inl (C.fn1 x)⟩) h2) (mL_ok b C h4) (noSet_ok h1 _)
    · cases h
  | .while n t b, X, W, sc, C, s, h => by
    unfold mS at h
    split at h
    · rename_i x y q
      obtain ⟨p, rfl⟩ := sWhile_ok q
      obtain ⟨h1, h2⟩ := ba2 h
      exact c_while n C.po (mT_ok t C.c h1) (mL_ok b C h2)
    · cases h
  | .brk, X, W, sc, C, s, h => by
    unfold mS at h
    split at h
    · exact c_brk
    · cases h
  | .cnt, X, W, sc, C, s, h => by
    unfold mS at h
    split at h
    · exact c_cnt
    · cases h
  | .raise c es, X, W, sc, C, s, h => by
    unfold mS at h
    split at h
    · rename_i x y ys q
      obtain ⟨p, p2, p3, rfl⟩ := sRaise_ok q
      obtain ⟨h1, h⟩ := ba2 h
      obtain ⟨h2, h⟩ := ba2 h
      obtain ⟨h3, h⟩ := ba2 h
      obtain ⟨h4, h5⟩ := ba2 h
      cases of_decide_eq_true h1
      have h4 := of_decide_eq_true h4
      obtain ⟨k, fd, ps, F, hr, hb⟩ := C.ini _ h4
      exact c_raise C.c.calm C.c.tk (C.kf.x _ h4) F hr hb (C.c.gl h2) (C.kf.m _ h4) (nmB_ok h3).1 (mEs_ok es C.c h5).2 (mEs_ok es C.c h5).1
    · cases h
  | .fault b i, X, W, sc, C, s, h => by
    unfold mS at h
    split at h
    · rename_i body hh n f m q
      obtain ⟨np, q1, q2, q3, q4, p', p, rfl⟩ := sTry_ok q
      obtain ⟨h1, h⟩ := ba2 h
      obtain ⟨h2, h⟩ := ba2 h
      obtain ⟨h3, h⟩ := ba2 h
      obtain ⟨h4, h⟩ := ba2 h
      obtain ⟨h5, h⟩ := ba2 h
      obtain ⟨h6, h⟩ := ba2 h
      obtain ⟨h7, h⟩ := ba2 h
      obtain ⟨h8, h9⟩ := ba2 h
      cases of_decide_eq_true h1
      cases of_decide_eq_true h2
      cases of_decide_eq_true h3
      obtain ⟨k, fa, fd, F, hr, hb, hm, hk⟩ := C.flt
      exact c_fault (i := i) C.kf F hr hb (C.c.gl h5) hm hk (C.c.gl h4) C.st C.fr C.nd (C.ix h6) (by rw [C.c.s]; exact of_decide_eq_true h7) (nmB_ok h8).1 (nmB_ok h8).2 C.c.tk (fun W pn xe tk po => mL_ok b (C.tr pn xe tk po) h9)
    · cases h
  | .nil, X, W, sc, C, s, h => by cases h
  | .cons _ _, X, W, sc, C, s, h => by cases h
theorem mL_ok : ∀ (c : C) {X : Cx} {W : WX} {sc : Scope} (C : Sok N P cl X W sc) {ss : List Stmt}, mL N P c sc ss = true → PSs X ss (tC X.K W (exC cl c))
  | .nil, X, W, sc, C, ss, h => by
    unfold mL at h
    cases ss with
    | nil => exact c_nil
    | cons _ _ => cases h
  | .cons a b, X, W, sc, C, ss, h => by
    unfold mL at h
    split at h
    · obtain ⟨h1, h2⟩ := ba2 h
      exact c_cons (mS_ok a C h1) (mL_ok b C h2)
    · cases h
  | .dead, X, W, sc, C, ss, h => dead_L
  | .pass, X, W, sc, C, ss, h => by cases h
  | .exp _, X, W, sc, C, ss, h => by cases h
  | .app _ _, X, W, sc, C, ss, h => by cases h
  | .set _ _, X, W, sc, C, ss, h => by cases h
  | .setc _ _, X, W, sc, C, ss, h => by cases h
  | .aug _ _ _, X, W, sc, C, ss, h => by cases h
  | .setIx _ _ _, X, W, sc, C, ss, h => by cases h
  | .setKy _ _ _, X, W, sc, C, ss, h => by cases h
  | .setFd _ _ _, X, W, sc, C, ss, h => by cases h
  | .noneFault _ _, X, W, sc, C, ss, h => by cases h
  | .augIx _ _ _ _, X, W, sc, C, ss, h => by cases h
  | .two _ _ _, X, W, sc, C, ss, h => by cases h
  | .ret _, X, W, sc, C, ss, h => by cases h
  | .retN, X, W, sc, C, ss, h => by cases h
  | .ite _ _ _, X, W, sc, C, ss, h => by cases h
  | .for _ _ _, X, W, sc, C, ss, h => by cases h
  | .while _ _ _, X, W, sc, C, ss, h => by cases h
  | .brk, X, W, sc, C, ss, h => by cases h
  | .cnt, X, W, sc, C, ss, h => by cases h
  | .raise _ _, X, W, sc, C, ss, h => by cases h
  | .fault _ _, X, W, sc, C, ss, h => by cases h
end
end
end Pi
end
section
set_option Elab.async false
set_option linter.all false
set_option maxRecDepth 100000
set_option maxHeartbeats 4000000
/-! Pi, part Q: behind a def: frozen data, the store cut back. -/
namespace Pi
open PySem PySem.Spec PyProof.Rows L2
mutual
theorem Is.below {K : Fg} {A : List Addr} {F : Hp} : ∀ {d : D} {v : V}, Is K A F d v → below A.length d = true
  | .non, _, _ => rfl
  | .bl _, _, _ => rfl
  | .int _, _, _ => rfl
  | .str _, _, _ => rfl
  | .tup ds, _, ⟨_, _, _, _, h⟩ => by unfold Pi.below; exact IsA.below h
  | .lst ds, _, ⟨_, _, _, _, h⟩ => by unfold Pi.below; exact IsA.below h
  | .scr _, _, _ => rfl
  | .loc n, _, ⟨a, h, _⟩ => by unfold Pi.below; exact decide_eq_true (List.getElem?_eq_some_iff.mp h).1
  | .exn _ _, _, _ => rfl
  | .dic _ ds, _, ⟨_, _, _, _, _, h⟩ => by unfold Pi.below; exact IsA.below h
theorem IsA.below {K : Fg} {A : List Addr} {F : Hp} : ∀ {d : List D} {v : List V}, IsA K A F d v → belowA A.length d = true
  | [], _, _ => rfl
  | d :: ds, _, ⟨_, _, _, h1, h2⟩ => by unfold belowA; rw [Is.below h1, IsA.below h2]; rfl
end
mutual
theorem Is.cut {K : Fg} {A : List Addr} {F : Hp} {n : Nat} : ∀ {d : D} {v : V}, Is K A F d v → Pi.below n d = true → Is K (A.take n) F d v
  | .non, _, h, _ => h
  | .bl _, _, h, _ => h
  | .int _, _, h, _ => h
  | .str _, _, h, _ => h
  | .tup ds, _, ⟨a, vs, h1, h2, h3⟩, b => ⟨a, vs, h1, h2, IsA.cut h3 (by unfold Pi.below at b; exact b)⟩
  | .lst ds, _, ⟨a, vs, h1, h2, h3⟩, b => ⟨a, vs, h1, h2, IsA.cut h3 (by unfold Pi.below at b; exact b)⟩
  | .scr _, _, h, _ => h
  | .loc m, _, ⟨a, h1, h2⟩, b => ⟨a, by
    unfold Pi.below at b
    rw [List.getElem?_take_of_lt (of_decide_eq_true b)]
    exact h1, h2⟩
  | .exn _ _, _, _, _ => True.intro
  | .dic ks ds, _, ⟨a, vs, h1, h2, h4, h3⟩, b => ⟨a, vs, h1, h2, h4, IsA.cut h3 (by unfold Pi.below at b; exact b)⟩
theorem IsA.cut {K : Fg} {A : List Addr} {F : Hp} {n : Nat} : ∀ {d : List D} {v : List V}, IsA K A F d v → belowA n d = true → IsA K (A.take n) F d v
  | [], _, h, _ => h
  | d :: ds, _, ⟨v, r, h1, h2, h3⟩, b => by
    unfold belowA at b
    obtain ⟨b1, b2⟩ := ba2 b
    exact ⟨v, r, h1, Is.cut h2 b1, IsA.cut h3 b2⟩
end
theorem Cel.below {K : Fg} {A : List Addr} {F : Hp} {c : L} {o : HO} (h : Cel K A F c o) : belowL A.length c = true := by
  cases c with
  | dead => rfl
  | lst xs => obtain ⟨_, _, h⟩ := h; exact IsA.below h
  | dct ks ds => obtain ⟨_, _, _, h⟩ := h; exact IsA.below h
  | ins c own fs ds => obtain ⟨_, _, _, _, _, _, h⟩ := h; exact IsA.below h
theorem Cel.cut {K : Fg} {A : List Addr} {F : Hp} {n : Nat} {c : L} {o : HO} (h : Cel K A F c o) (b : belowL n c = true) : Cel K (A.take n) F c o := by
  cases c with
  | dead => exact h
  | lst xs => obtain ⟨vs, h1, h2⟩ := h; exact ⟨vs, h1, IsA.cut h2 b⟩
  | dct ks ds => obtain ⟨vs, h1, h2, h3⟩ := h; exact ⟨vs, h1, h2, IsA.cut h3 b⟩
  | ins c own fs ds => obtain ⟨dx, vs, h1, h2, h3, h4, h5⟩ := h; exact ⟨dx, vs, h1, h2, h3, h4, IsA.cut h5 b⟩
/-- what has been frozen on the way out -/
structure FzI (w : Wd) (n0 : Nat) (F' : Hp) : Prop where
  ex : Ex w.F F'
  sub : Ex F' w.H
  old : ∀ b, F' b ≠ w.F b → ∃ n, n0 ≤ n ∧ w.A[n]? = some b
theorem frz_list {K : Fg} {w : Wd} {S : Sto} {n0 k : Nat} (ih : ∀ (d x : D) (v : V) (F1 : Hp), FzI w n0 F1 → Is K w.A F1 d v → frz S n0 k d = some x → ∃ F2, FzI w n0 F2 ∧ Ex F1 F2 ∧ Is K (w.A.take n0) F2 x v) :
    ∀ (ds xs : List D) (vs : List V) (F1 : Hp), FzI w n0 F1 → IsA K w.A F1 ds vs → mapO (frz S n0 k) ds = some xs → ∃ F2, FzI w n0 F2 ∧ Ex F1 F2 ∧ IsA K (w.A.take n0) F2 xs vs
  | [], xs, vs, F1, hF, hi, e => by
    cases e
    exact ⟨F1, hF, Evl.Ex.refl _, hi⟩
  | d :: ds, xs, vs, F1, hF, ⟨v, r, h1, h2, h3⟩, e => by
    subst h1
    obtain ⟨b, t, e1, e2, rfl⟩ := mapO_cons e
    obtain ⟨F2, g1, g2, g3⟩ := ih d b v F1 hF h2 e1
    obtain ⟨F3, k1, k2, k3⟩ := frz_list ih ds t r F2 g1 (h3.mono g2 (List.prefix_refl _)) e2
    exact ⟨F3, k1, g2.trans k2, v, r, rfl, g3.mono k2 (List.prefix_refl _), k3⟩
theorem frz_ok {K : Fg} {w : Wd} {S : Sto} {n0 : Nat} (hr : Rel K w S) : ∀ (k : Nat) (d x : D) (v : V) (F1 : Hp), FzI w n0 F1 → Is K w.A F1 d v → frz S n0 k d = some x → ∃ F2, FzI w n0 F2 ∧ Ex F1 F2 ∧ Is K (w.A.take n0) F2 x v
  | 0, _, _, _, _, _, _, e => by cases e
  | k + 1, .non, x, v, F1, hF, hi, e => by cases e; exact ⟨F1, hF, Evl.Ex.refl _, hi⟩
  | k + 1, .bl _, x, v, F1, hF, hi, e => by cases e; exact ⟨F1, hF, Evl.Ex.refl _, hi⟩
  | k + 1, .int _, x, v, F1, hF, hi, e => by cases e; exact ⟨F1, hF, Evl.Ex.refl _, hi⟩
  | k + 1, .str _, x, v, F1, hF, hi, e => by cases e; exact ⟨F1, hF, Evl.Ex.refl _, hi⟩
  | k + 1, .scr _, x, v, F1, hF, hi, e => by cases e; exact ⟨F1, hF, Evl.Ex.refl _, hi⟩
  | k + 1, .exn _ _, _, _, _, _, _, e => by cases e
  | k + 1, .tup ds, x, v, F1, hF, ⟨a, vs, h1, h2, h3⟩, e => by
    obtain ⟨xs, e1, rfl⟩ := Option.map_eq_some_iff.mp (show (mapO (frz S n0 k) ds).map D.tup = some x from e)
    obtain ⟨F2, g1, g2, g3⟩ := frz_list (frz_ok hr k) ds xs vs F1 hF h3 e1
    exact ⟨F2, g1, g2, a, vs, h1, h2.imp (g2 _ _) id, g3⟩
  | k + 1, .lst ds, x, v, F1, hF, ⟨a, vs, h1, h2, h3⟩, e => by
    obtain ⟨xs, e1, rfl⟩ := Option.map_eq_some_iff.mp (show (mapO (frz S n0 k) ds).map D.lst = some x from e)
    obtain ⟨F2, g1, g2, g3⟩ := frz_list (frz_ok hr k) ds xs vs F1 hF h3 e1
    exact ⟨F2, g1, g2, a, vs, h1, g2 _ _ h2, g3⟩
  | k + 1, .dic ks ds, x, v, F1, hF, ⟨a, vs, h1, h2, h4, h3⟩, e => by
    obtain ⟨xs, e1, rfl⟩ := Option.map_eq_some_iff.mp (show (mapO (frz S n0 k) ds).map (D.dic ks) = some x from e)
    obtain ⟨F2, g1, g2, g3⟩ := frz_list (frz_ok hr k) ds xs vs F1 hF h3 e1
    exact ⟨F2, g1, g2, a, vs, h1, g2 _ _ h2, by rw [h4, h3.len, g3.len], g3⟩
  | k + 1, .loc n, x, v, F1, hF, ⟨a, h1, h2⟩, e => by
    have e' : (if n < n0 then some (D.loc n) else (match S[n]? with
      | some (.lst xs) => (mapO (frz S n0 k) xs).map .lst
      | some (.dct ks xs) => (mapO (frz S n0 k) xs).map (.dic ks)
      | _ => none)) = some x := e
    by_cases hn : n < n0
    · rw [if_pos hn] at e'
      cases e'
      exact ⟨F1, hF, Evl.Ex.refl _, a, by rw [List.getElem?_take_of_lt hn]; exact h1, h2⟩
    · rw [if_neg hn] at e'
      cases q : S[n]? with
      | none => rw [q] at e'; cases e'
      | some o =>
        rw [q] at e'
        cases o with
        | dead => cases e'
        | ins _ _ _ _ => cases e'
        | dct ks ds =>
          obtain ⟨xs, e1, rfl⟩ := Option.map_eq_some_iff.mp e'
          obtain ⟨nF, o, hH, vs, rfl, hlk, hi⟩ := hr.cel n _ a q True.intro h1
          obtain ⟨F2, g1, g2, g3⟩ := frz_list (frz_ok hr k) ds xs vs F1 hF (hi.mono hF.ex (List.prefix_refl _)) e1
          have up : Ex F2 (upd F2 a (.dK (ks.zip vs))) := fun b o hb => by
            by_cases z : b = a
            · subst z
              have := g1.sub b o hb
              rw [hH] at this
              rw [upd_same]
              exact this
            · rw [upd_ne z]; exact hb
          refine ⟨upd F2 a (.dK (ks.zip vs)), ⟨g1.ex.trans up, fun b o hb => ?_, fun b hb => ?_⟩, g2.trans up, a, vs, h2, upd_same, by rw [hlk, hi.len, g3.len], g3.mono up (List.prefix_refl _)⟩
          · by_cases z : b = a
            · subst z
              rw [upd_same] at hb
              rw [← hb]
              exact hH
            · rw [upd_ne z] at hb
              exact g1.sub b o hb
          · by_cases z : b = a
            · subst z
              exact ⟨n, Nat.le_of_not_lt hn, h1⟩
            · rw [upd_ne z] at hb
              exact g1.old b hb
        | lst ds =>
          obtain ⟨xs, e1, rfl⟩ := Option.map_eq_some_iff.mp e'
          obtain ⟨nF, vs, hH, hi⟩ := hr.liv n ds a q h1
          obtain ⟨F2, g1, g2, g3⟩ := frz_list (frz_ok hr k) ds xs vs F1 hF (hi.mono hF.ex (List.prefix_refl _)) e1
          have up : Ex F2 (upd F2 a (.lst vs)) := fun b o hb => by
            by_cases z : b = a
            · subst z
              have := g1.sub b o hb
              rw [hH] at this
              rw [upd_same]
              exact this
            · rw [upd_ne z]; exact hb
          refine ⟨upd F2 a (.lst vs), ⟨g1.ex.trans up, fun b o hb => ?_, fun b hb => ?_⟩, g2.trans up, a, vs, h2, upd_same, g3.mono up (List.prefix_refl _)⟩
          · by_cases z : b = a
            · subst z
              rw [upd_same] at hb
              rw [← hb]
              exact hH
            · rw [upd_ne z] at hb
              exact g1.sub b o hb
          · by_cases z : b = a
            · subst z
              exact ⟨n, Nat.le_of_not_lt hn, h1⟩
            · rw [upd_ne z] at hb
              exact g1.old b hb
/-- the store cut back to its length at the entry -/
theorem cut_world {K : Fg} {w w' : Wd} {S S' : Sto} (hr : Rel K w S) (l : w.le w') (hr' : Rel K w' S') {F2 : Hp} (hF : FzI w' S.length F2) (hc : S'.take S.length = S ∨ (S'.take S.length).all (belowL S.length) = true) :
    Rel K ⟨F2, w'.H, w'.A.take S.length⟩ (S'.take S.length) ∧ w.le ⟨F2, w'.H, w'.A.take S.length⟩ ∧ w'.A.take S.length = w.A := by
  have hA : w'.A.take S.length = w.A := by
    obtain ⟨t, e⟩ := l.pre
    rw [← e, ← hr.len, List.take_left]
  have hle : S.length ≤ S'.length := by
    rw [← hr'.len, ← hr.len]
    exact l.pre.length_le
  refine ⟨⟨hF.sub, by rw [hA, List.length_take, hr.len]; omega, by rw [hA]; exact hr.nd, fun a ha => hr'.som a (List.mem_of_mem_take ha), fun n xs a h1 hal h2 => ?_⟩, ⟨l.ex.trans hF.ex, by rw [hA]; exact List.prefix_refl _, fun a o h1 h2 h3 => ?_, l.grow⟩, hA⟩
  · have hn : n < S.length := by
      have := (List.getElem?_eq_some_iff.mp h1).1
      rw [List.length_take] at this
      omega
    have h1' : S'[n]? = some xs := by rw [← h1, List.getElem?_take_of_lt hn]
    have h2' : w'.A[n]? = some a := by rw [← h2, List.getElem?_take_of_lt hn]
    obtain ⟨nF, vs, q1, q2⟩ := hr'.cel n xs a h1' hal h2'
    refine ⟨?_, vs, q1, Cel.cut (q2.mono hF.ex (List.prefix_refl _)) ?_⟩
    · by_cases z : F2 a = w'.F a
      · show F2 a = none
        rw [z]; exact nF
      · obtain ⟨m, hm, e⟩ := hF.old a z
        have : m = n := by
          have d1 := List.getElem?_eq_some_iff.mp e
          have d2 := List.getElem?_eq_some_iff.mp h2'
          obtain ⟨hm1, hm2⟩ := d1
          obtain ⟨hn1, hn2⟩ := d2
          exact (List.getElem_inj hr'.nd).mp (hm2.trans hn2.symm)
        omega
    · rcases hc with hc | hc
      · rw [hc] at h1
        have ha : w.A[n]? = some a := by rw [← hA]; exact h2
        obtain ⟨_, us, _, q3⟩ := hr.cel n xs a h1 hal ha
        rw [← hr.len]
        exact q3.below
      · exact List.all_eq_true.mp hc _ (List.mem_of_getElem? h1)
  · obtain ⟨g1, g2, g3⟩ := l.frm a o h1 h2 h3
    refine ⟨g1, ?_, fun m => g3 (List.mem_of_mem_take m)⟩
    by_cases z : F2 a = w'.F a
    · show F2 a = none
      rw [z]; exact g2
    · obtain ⟨m, hm, e⟩ := hF.old a z
      exact absurd (List.mem_of_getElem? e) g3
theorem FzI.refl {K : Fg} {w : Wd} {S : Sto} (hr : Rel K w S) (n0 : Nat) : FzI w n0 w.F := ⟨Evl.Ex.refl _, hr.ex, fun b h => absurd rfl h⟩
theorem cut_post {α : Type} {S0 S : Sto} {k : Sto → R α} {p : α → Sto → Prop} {q : Str → List D → Sto → Prop} (h : Post (cut S0 S k) p q) : (S.take S0.length = S0 ∨ (S.take S0.length).all (belowL S0.length) = true) ∧ Post (k (S.take S0.length)) p q := by
  unfold Pi.cut at h
  by_cases hc : S.take S0.length = S0 ∨ (S.take S0.length).all (belowL S0.length) = true
  · rw [if_pos hc] at h
    exact ⟨hc, h⟩
  · rw [if_neg hc] at h
    exact h.elim
/-- a def's end -/
theorem fin_post {K : Fg} {w : Wd} {S : Sto} {Q : VK} {E : XK} {b : Bool} {r : SR} (hr : Rel K w S) (h : Post (fin b S r) (okE K w Q) (fun c fs S' => ∀ cls dx w', w.le w' → Rel K w' S' → ExIs K w' cls dx c fs → E cls dx w'.H)) :
    PostS K (fun cls d _ H => E cls d H) w { nx := fun _ H' => Q .non H', rt := Q } r := by
  cases r with
  | nx τ S' =>
    cases b with
    | false => exact fun σ w' l r' sg => h .non w' l r' rfl
    | true =>
      obtain ⟨hc, h'⟩ := cut_post (show Post (Pi.cut S S' fun S' => R.ok D.non S') _ _ from h)
      intro σ w' l r' sg
      obtain ⟨r2, l2, _⟩ := cut_world hr l r' (FzI.refl r' _) hc
      exact h' .non ⟨w'.F, w'.H, w'.A.take S.length⟩ l2 r2 rfl
  | ret d S' =>
    cases b with
    | false => exact h
    | true =>
      have h0 : Post (match frz S' S.length 8 d with
        | some x => Pi.cut S S' fun S' => R.ok x S'
        | none => R.stuck) (okE K w Q) (fun c fs S' => ∀ cls dx w', w.le w' → Rel K w' S' → ExIs K w' cls dx c fs → E cls dx w'.H) := h
      intro v w' l r' i
      cases e : frz S' S.length 8 d with
      | none => rw [e] at h0; exact h0.elim
      | some x =>
        rw [e] at h0
        obtain ⟨hc, h'⟩ := cut_post h0
        obtain ⟨F2, g1, g2, g3⟩ := frz_ok r' 8 d x v w'.F (FzI.refl r' _) i e
        obtain ⟨r2, l2, _⟩ := cut_world hr l r' g1 hc
        exact h' v ⟨F2, w'.H, w'.A.take S.length⟩ l2 r2 g3
  | bk τ S' => exact h.elim
  | ct τ S' => exact h.elim
  | stuck => exact h.elim
  | exc c fs τ S' =>
    cases b with
    | false => exact fun σ cls dx w' l r' sg e => h cls dx w' l r' e
    | true =>
      have h0 : Post (match mapO (frz S' S.length 8) fs with
        | some x => Pi.cut S S' fun S' => (R.exc c x S' : R D)
        | none => R.stuck) (okE K w Q) (fun c fs S' => ∀ cls dx w', w.le w' → Rel K w' S' → ExIs K w' cls dx c fs → E cls dx w'.H) := h
      intro σ cls dx w' l r' sg ⟨hcls, d, vs, hdx, hH, hi, hl⟩
      cases e : mapO (frz S' S.length 8) fs with
      | none => rw [e] at h0; exact h0.elim
      | some x =>
        rw [e] at h0
        obtain ⟨hc, h'⟩ := cut_post h0
        obtain ⟨F2, g1, g2, g3⟩ := frz_list (frz_ok r' 8) fs x vs w'.F (FzI.refl r' _) hi e
        obtain ⟨r2, l2, _⟩ := cut_world hr l r' g1 hc
        exact h' cls dx ⟨F2, w'.H, w'.A.take S.length⟩ l2 r2 ⟨hcls, d, vs, hdx, hH, g3, by rw [g3.len, ← hi.len]; exact hl⟩
theorem sig_start {K : Fg} {w : Wd} {ds : List D} {vs : List V} {N : List Str} (h : IsA K w.A w.F ds vs) : Sig K w (L2.start N vs) (startT N.length ds) := by
  have hl := h.len
  refine ⟨?_, fun i d e => ?_⟩
  · unfold L2.start startT
    rw [List.length_append, List.length_append, List.length_map, List.length_map, List.length_replicate, List.length_replicate, hl]
  · unfold startT at e
    unfold L2.start
    by_cases hi : i < ds.length
    · rw [List.getElem?_append_left (by rw [List.length_map]; exact hi), List.getElem?_map] at e
      obtain ⟨d', e1, e2⟩ := Option.map_eq_some_iff.mp e
      cases e2
      obtain ⟨v, q1, q2⟩ := h.get e1
      refine ⟨v, ?_, q2⟩
      rw [List.getElem?_append_left (by rw [List.length_map, ← hl]; exact hi), List.getElem?_map, q1]
      rfl
    · rw [List.getElem?_append_right (by rw [List.length_map]; omega), List.getElem?_replicate] at e
      split at e <;> cases e
end Pi
end
section
set_option Elab.async false
set_option linter.all false
set_option maxRecDepth 100000
set_option maxHeartbeats 4000000
/-! Pi, part R: whole programs. -/
namespace Pi
open PySem PySem.Spec PyProof.Rows L2
structure Gok (PP : Program) (w : World) (K : Fg) (mg : Str → Option Value) (base : Heap) (P : List Df) : Prop where
  gb : ∀ b ∈ blts, mg b = none
  lim : ∃ l, mg "LIMITS" = some (.ref l) ∧ ∀ z v, limits.lookup z = some v → KDct K w l z (.int v)
  kf : KFct K mg
  ini : ∀ c, kindX c ≠ 9 → ∃ fd ps, FnOk PP w K mg base (L2.CX PP w) 1 (He.ma K (He.ga K c) "__init__") fd ps (spX K c) ∧ Binds K fd ps []
  flt : ∃ fa fd, FnF PP w K mg base (L2.CX PP w) 1 fa fd [("error" : Str)] (spFlt K) ∧ Binds K fd [("error" : Str)] [] ∧ mg "_law_fault" = some (.ref fa) ∧ PySem.W.keepIn K (.ref fa) = true
  df : ∀ (f : Nat) (df : Df), P[f]? = some df → ∃ qual params body scope fd, FunD K df.fname qual params body scope [] [] (df.fa K) fd ∧ DfOk K mg df ∧ FnScope df.N df.ps scope ∧ mL df.N P df.body scope body = true ∧ Binds K fd df.ps [] ∧ ∀ (s : Shared) (us : List Value), us.length = df.ps.length → BindsTo s fd ⟨us, []⟩ (df.ps.zip us)
section
variable {PP : Program} {w : World} {K : Fg} {mg : Str → Option Value} {base : Heap} {P : List Df}
theorem run_bad {k f : Nat} {df : Df} (h : P[f]? = some df) (xs : List D) (S : Sto) (hl : xs.length ≠ df.ps.length) : run P k f xs S = .stuck := by
  cases k with
  | zero => rfl
  | succ k =>
    unfold run
    rw [h]
    exact if_neg hl
theorem defs_ok (G : Gok PP w K mg base P) : ∀ (k f : Nat) (df : Df), P[f]? = some df → ∃ fd, FnOk PP w K mg base (L2.CX PP w) (2 * k + 3) (df.fa K) fd df.ps (spM K df.ps.length (run P k f)) ∧ Binds K fd df.ps [] ∧ PySem.W.keepIn K (.ref (df.fa K)) = true ∧ ∃ qual params body scope, FunD K df.fname qual params body scope [] [] (df.fa K) fd
  | 0, f, df, h => by
    obtain ⟨qual, params, body, scope, fd, F, _, _, _, hb, _⟩ := G.df f df h
    exact ⟨fd, ⟨fun vs H Q E q => q.1, fun A outer s H args us vs Q E _ _ _ _ ⟨_, w', ds, S, _, _, _, q⟩ => q.elim⟩, hb, F.kp, qual, params, body, scope, F⟩
  | k + 1, f, df, h => by
    obtain ⟨qual, params, body, scope, fd, F, hm, hS, hL, hb, _⟩ := G.df f df h
    have ih := defs_ok G k
    refine ⟨fd, F.ok (k := 2 * k + 4) hS (fun vs H Q E q => q.1) fun cdv A outer s H vs Q E hr ⟨hl, w', ds, S, hH, hrel, hi, hp⟩ => ?_, hb, F.kp, qual, params, body, scope, F⟩
    have C : Sok df.N P (run P k) (cxOf (L2.CX PP w) PP w K mg base df.N qual scope (df.fa K) cdv A outer s H E) (fun cls d _ H => E cls d H) scope := {
      c := {
        s := rfl
        n := rfl
        nd := hS.nd
        calm := rfl
        tk := takes_of rfl rfl rfl rfl
        hu := by have := hr.un; show (A.deeper _).units + 65 < cLine; omega
        gb := G.gb
        lim := G.lim
        fn := fun g dg hg => by
          obtain ⟨fd', F', hb', hk', _⟩ := ih g dg hg
          obtain ⟨_, _, _, _, _, _, hm', _⟩ := G.df g dg hg
          exact ⟨2 * k + 3, fd', F', hr, hm', hk', hb', fun xs S hx => run_bad hg xs S hx⟩ }
      st := rfl
      fr := rfl
      kd := hS.kind
      po := passes_of rfl
      fn1 := fun _ => rfl
      kf := G.kf
      ini := fun c hc => by
        obtain ⟨fd', ps', F', hb'⟩ := G.ini c hc
        exact ⟨1, fd', ps', F', hr.mono (by omega), hb'⟩
      flt := by
        obtain ⟨fa', fd', F', hb', hm', hk'⟩ := G.flt
        exact ⟨1, fa', fd', F', hr.mono (by omega), hb', hm', hk'⟩ }
    refine ⟨_, mL_ok df.body C hL, w', startT df.N.length ds, S, hH, hrel, sig_start hi, ?_⟩
    have hlen : ds.length = df.ps.length := by rw [hi.len]; exact hl
    unfold run at hp
    rw [h] at hp
    dsimp only at hp
    rw [if_pos hlen] at hp
    exact fin_post hrel hp
theorem sp_law {k f : Nat} {H : Hp} {a : Addr} {ns : List Int} {S' : Sto} (hS : SqL K H a (ns.map V.int)) (h : run P k f [.scr ns] [] = .ok (.bl true) S') : spM K 1 (run P k f) [.ref a] H (fun v _ => v = .bl true) fun _ _ _ => False := by
  refine ⟨rfl, ⟨H, H, []⟩, [.scr ns], [], rfl, ⟨Evl.Ex.refl _, rfl, List.nodup_nil, nofun, nofun⟩, ⟨_, [], rfl, ⟨a, rfl, hS⟩, rfl⟩, ?_⟩
  rw [h]
  exact fun v w' l r i => i

theorem fund_eq {x qual qual' : Str} {params params' : Arguments} {body body' : List Stmt} {scope scope' : Scope} {f : Addr} {fd fd' : FuncData} (F : FunD K x qual params body scope [] [] f fd) (F' : FunD K x qual' params' body' scope' [] [] f fd') : fd = fd' := by
  obtain ⟨oc, od, dV, kV, doc, pm, an, cdv, ct, osl, _, lk, _⟩ := F.ex
  obtain ⟨oc', od', dV', kV', doc', pm', an', cdv', ct', osl', _, lk', _⟩ := F'.ex
  rw [lk] at lk'
  cases lk'
  rfl
/-- what a call may let out, of whatever program -/
def CXw : CXT := fun outer H s E e s' => ∃ (P : Program) (w : World), L2.CX P w outer H s E e s'
theorem fn_weak {CX CX' : CXT} {k : Nat} {f : Addr} {fd : FuncData} {ps : List Str} {sp : Sp} (h : ∀ outer H s E e s', CX outer H s E e s' → CX' outer H s E e s') (F : FnOk PP w K mg base CX k f fd ps sp) : FnOk PP w K mg base CX' k f fd ps sp :=
  ⟨F.len, fun A outer s H args us vs Q E hr he hb hv hs => codeAny_mono (F.run A outer s H args us vs Q E hr he hb hv hs) fun r s' q => by
    cases r with
    | ok fl => cases fl with
      | ret u => exact q
      | next => exact q
      | brk => exact q
      | cont => exact q
    | error e => exact h _ _ _ _ _ _ q⟩
end
end Pi
end
section
set_option Elab.async false
set_option linter.all false
set_option maxRecDepth 100000
set_option maxHeartbeats 4000000
/-! Pi, part S: the ground's facts by evaluation. -/
namespace Pi
open PySem PySem.Spec PyProof.Rows L2
/-- what is asked of an error's class -/
def clsB (K : Fg) (C : Addr) : Bool := match K.lookup C with
  | some ⟨.type t, _, .cls cd, sl⟩ => decide (t = "type") && ((match cd.mro with
    | .ref C' :: bm => decide (C' = C) && PySem.HandSPX.refsVE bm
    | _ => false) && (cd.hasDict && (!cd.hasDel && (match sl.toList with
    | [_, _, _, _, some (.builtin n), _] => decide (n = "ValueError.__new__")
    | _ => false))))
  | _ => false
theorem clsB_ok {K : Fg} {C : Addr} (h : clsB K C = true) : ∃ nm q N bs bm sn sub ab col dd k0 k1 k2 k3 k5, K.lookup C = some (excClassObj nm q C N bs bm true sn sub ab col dd k0 k1 k2 k3 k5 "ValueError.__new__") ∧ PySem.HandSPX.refsVE bm = true := by
  unfold clsB at h
  split at h
  · rename_i t dd cd sl ho
    obtain ⟨h1, h⟩ := ba2 h
    obtain ⟨h2, h⟩ := ba2 h
    obtain ⟨h3, h⟩ := ba2 h
    obtain ⟨h4, h5⟩ := ba2 h
    cases of_decide_eq_true h1
    split at h2
    · rename_i C' bm hm
      obtain ⟨h6, h7⟩ := ba2 h2
      cases of_decide_eq_true h6
      split at h5
      · rename_i k0 k1 k2 k3 n k5 hs
        cases of_decide_eq_true h5
        obtain ⟨nm, bs, mro, ns, qn, hd, sn, sub, ab, col, del⟩ := cd
        dsimp only at hm h3 h4
        subst hm
        have hd' := nb h4
        subst hd'
        subst h3
        have hsl : sl = #[k0, k1, k2, k3, some (.builtin "ValueError.__new__"), k5] := by
          obtain ⟨l⟩ := sl
          simp only at hs
          rw [hs]
        subst hsl
        exact ⟨nm, qn, ns, bs, bm, sn, sub, ab, col, dd, k0, k1, k2, k3, k5, ho, h7⟩
      · cases h5
    · cases h2
  · cases h
def oo (a b : Option (Option Value)) : Bool := decide (a = b)
def errNames : List Str := errs.map (·.1)
def xcB (K : Fg) (c : Str) : Bool :=
  clsB K (He.ga K c) && (oo (PySem.W.findIn K (.ref (He.ga K c)) "__setattr__") (some (some (.builtin "object.__setattr__"))) && (decide (PySem.W.subIn K (.ref (He.ga K c)) (.type "BaseException") = some true) &&
  (decide (PySem.W.typeIn K (.ref (He.ga K c)) = some (.type "type")) && (PySem.W.keepIn K (.ref (He.ga K c)) && (oo (PySem.W.findIn K (.ref (He.ga K c)) "__init__") (some (some (.ref (He.ma K (He.ga K c) "__init__")))) &&
  (decide (PySem.W.typeIn K (.ref (He.ma K (He.ga K c) "__init__")) = some (.type "function")) && ((fldNames c).all (fun f => oo (PySem.W.findIn K (.ref (He.ga K c)) f) (some none)) &&
  (oo (PySem.W.findIn K (.ref (He.ga K c)) "__getattribute__") (some (some (.builtin "BaseException.__getattribute__"))) && (oo (PySem.W.findIn K (.ref (He.ga K c)) "__getattr__") (some none) && (PySem.W.hasDictIn K (He.ga K c) &&
  (oo (PySem.W.findIn K (.ref (He.ga K c)) "__class__") (some (some (.builtin "object.__class__"))) && (decide (PySem.W.mroIn K (He.ga K c) (.type "object") = some true) &&
  (decide (PySem.W.exmOne K (.ref (He.ga K c)) (.ref (He.ga K "HighError")) = some true) && (decide (PySem.W.kitOne K (.ref (He.ga K c)) (.ref (He.ga K "HighError")) = some true) && (decide (PySem.W.kitOne K (.ref (He.ga K c)) (.type "ValueError") = some true) &&
  errNames.all (fun x => decide (PySem.W.kitOne K (.ref (He.ga K c)) (.ref (He.ga K x)) = some (decide (x = c)))))))))))))))))))
def exB (K : Fg) : Bool := He.valsB K (He.ga K "LIMITS") (limits.map fun q => (q.1, .int q.2)) && (errNames.all (xcB K) &&
  (PySem.W.readsIn K (He.ga K "HighError") (.type "type") && (oo (PySem.W.specialIn K (.ref (He.ga K "HighError")) "__getattribute__") (some (some (.builtin "type.__getattribute__"))) &&
  ((match PySem.W.findCls K (.ref (He.ga K "HighError")) (.type "type") "__init__" with
    | some (.val (.builtin s)) => decide (s = "ValueError.__init__")
    | _ => false) &&
  (oo (PySem.W.specialIn K (.builtin "object.__class__") "__get__") (some (some (.builtin "getset_descriptor.__get__"))) && decide (PySem.W.takesIn K (.builtin "object.__class__") = some true))))))

theorem oo_ok {a b : Option (Option Value)} (h : oo a b = true) : a = b := of_decide_eq_true h
theorem errN {c : Str} (h : kindX c ≠ 9) : c ∈ errNames := List.mem_map.mpr ⟨_, errs_mem h, rfl⟩
theorem kind_err : ∀ c ∈ errNames, kindX c ≠ 9 := by
  intro c h
  have h' : c = "TooMany" ∨ c = "BadText" ∨ c = "BadPlant" ∨ c = "BadCode" ∨ c = "BadMove" ∨ c = "BadTrace" ∨ c = "BadPaper" ∨ c = "BadSeats" ∨ c = "BadDisk" ∨ c = "BadDeed" := by
    simpa [errNames, errs] using h
  rcases h' with rfl | rfl | rfl | rfl | rfl | rfl | rfl | rfl | rfl | rfl <;> decide
structure XcF (K : Fg) (c : Str) : Prop where
  x : XFct K c
  ec : ExcC K (He.ga K c)
  xf : XfC K (He.ga K c)
  ex : PySem.W.exmOne K (.ref (He.ga K c)) (.ref (He.ga K "HighError")) = some true
  kh : PySem.W.kitOne K (.ref (He.ga K c)) (.ref (He.ga K "HighError")) = some true
  kv : PySem.W.kitOne K (.ref (He.ga K c)) (.type "ValueError") = some true
  k : ∀ x, kindX x ≠ 9 → PySem.W.kitOne K (.ref (He.ga K c)) (.ref (He.ga K x)) = some (decide (x = c))
theorem xcB_ok {K : Fg} {c : Str} (hg : PySem.W.specialIn K (.builtin "object.__class__") "__get__" = some (some (.builtin "getset_descriptor.__get__"))) (ht : PySem.W.takesIn K (.builtin "object.__class__") = some true) (h : xcB K c = true) : XcF K c := by
  obtain ⟨h1, h⟩ := ba2 h
  obtain ⟨h2, h⟩ := ba2 h
  obtain ⟨h3, h⟩ := ba2 h
  obtain ⟨h4, h⟩ := ba2 h
  obtain ⟨h5, h⟩ := ba2 h
  obtain ⟨h6, h⟩ := ba2 h
  obtain ⟨h7, h⟩ := ba2 h
  obtain ⟨h8, h⟩ := ba2 h
  obtain ⟨h9, h⟩ := ba2 h
  obtain ⟨h10, h⟩ := ba2 h
  obtain ⟨h11, h⟩ := ba2 h
  obtain ⟨h12, h⟩ := ba2 h
  obtain ⟨h13, h⟩ := ba2 h
  obtain ⟨h14, h⟩ := ba2 h
  obtain ⟨h15, h⟩ := ba2 h
  obtain ⟨h16, h17⟩ := ba2 h
  exact ⟨⟨⟨clsB_ok h1, oo_ok h2, of_decide_eq_true h3, of_decide_eq_true h4, h5⟩, oo_ok h6, of_decide_eq_true h7, fun f hf => oo_ok (List.all_eq_true.mp h8 f hf)⟩, ⟨oo_ok h9, oo_ok h10, of_decide_eq_true h3, h11, oo_ok h12, hg, ht, of_decide_eq_true h13⟩,
    ⟨oo_ok h9, oo_ok h10, of_decide_eq_true h3, h11⟩, of_decide_eq_true h14, of_decide_eq_true h15, of_decide_eq_true h16, fun x hx => of_decide_eq_true (List.all_eq_true.mp h17 x (errN hx))⟩
theorem exB_ok {K : Fg} (h : exB K = true) : He.valsB K (He.ga K "LIMITS") (limits.map fun q => (q.1, .int q.2)) = true ∧ (∀ c, kindX c ≠ 9 → XcF K c) ∧ HFct K := by
  obtain ⟨h1, h⟩ := ba2 h
  obtain ⟨h2, h⟩ := ba2 h
  obtain ⟨h3, h⟩ := ba2 h
  obtain ⟨h4, h⟩ := ba2 h
  obtain ⟨h5, h⟩ := ba2 h
  obtain ⟨h6, h7⟩ := ba2 h
  refine ⟨h1, fun c hc => xcB_ok (oo_ok h6) (of_decide_eq_true h7) (List.all_eq_true.mp h2 c (errN hc)), ⟨⟨h3, oo_ok h4⟩, ?_⟩⟩
  split at h5
  · rename_i s e
    rw [e, of_decide_eq_true h5]
  · cases h5
/-! ### arguments bound -/
theorem zip_look : ∀ {ps : List Str} {us : List Value}, us.length = ps.length → ∀ n ∈ ps, ((ps.zip us).lookup n).isNone = false
  | [], _, _, n, hn => by cases hn
  | p :: ps, [], h, _, _ => by cases h
  | p :: ps, u :: us, h, n, hn => by
    rw [List.zip_cons_cons, List.lookup_cons]
    cases e : n == p with
    | true => rfl
    | false =>
      refine zip_look (by simpa using h) n ?_
      rcases List.mem_cons.mp hn with z | z
      · rw [z] at e; simp at e
      · exact z
theorem zip_fm : ∀ {ps : List Str} {us : List Value}, us.length = ps.length → ps.Nodup → ps.filterMap (fun n => ((ps.zip us).lookup n).map (n, ·)) = ps.zip us
  | [], [], _, _ => rfl
  | [], _ :: _, h, _ => by cases h
  | p :: ps, [], h, _ => by cases h
  | p :: ps, u :: us, h, nd => by
    rw [List.nodup_cons] at nd
    have ih := zip_fm (ps := ps) (us := us) (by simpa using h) nd.2
    rw [List.zip_cons_cons, List.filterMap_cons]
    rw [List.lookup_cons, beq_self_eq_true]
    dsimp only [Option.map]
    congr 1
    refine Eq.trans ?_ ih
    have key : ∀ l : List Str, p ∉ l → l.filterMap (fun n => (List.lookup n ((p, u) :: ps.zip us)).map (n, ·)) = l.filterMap (fun n => (List.lookup n (ps.zip us)).map (n, ·)) := by
      intro l
      induction l with
      | nil => intro _; rfl
      | cons q l ihl =>
        intro hq
        have e : (q == p) = false := by
          cases z : q == p with
          | false => rfl
          | true => exact absurd (by rw [← eq_of_beq z]; exact List.mem_cons_self) hq
        rw [List.filterMap_cons, List.filterMap_cons, List.lookup_cons, e, ihl fun m => hq (List.mem_cons_of_mem _ m)]
    exact key ps nd.1
theorem bind_pos {x qual : Str} {params : Arguments} {body : List Stmt} {scope : Scope} {kV doc pm cdv ct : Value} {an : Option Addr} {ps : List Str} {us : List Value} (h1 : params.posonlyargs = []) (h2 : params.args.map (·.arg) = ps) (h3 : params.vararg = none) (h4 : params.kwonlyargs = []) (h5 : params.kwarg = none) (nd : ps.Nodup) (hl : us.length = ps.length) :
    bindArgs (PySem.W.fnOf x qual params body scope .none kV doc pm an cdv ct) ⟨us, []⟩ = pure (ps.zip us) := by
  obtain ⟨p1, p2, p3, p4, p5, p6, p7⟩ := params
  dsimp only at h1 h2 h3 h4 h5
  subst h1 h3 h4 h5
  unfold bindArgs PySem.W.fnOf
  simp only [List.map_nil, List.nil_append, h2]
  have hs : seqItems? Value.none = (pure none : Sem (Option (Array Value))) := rfl
  have hg : (decide (us.length > ps.length) && (none : Option Arg).isNone) = false := by
    rw [hl, decide_eq_false (Nat.lt_irrefl _)]; rfl
  have hm : (ps.filter fun n => ((ps.zip us).lookup n).isNone) = [] := List.filter_eq_nil_iff.mpr fun n hn => by rw [zip_look hl n hn]; exact Bool.false_ne_true
  simp only [List.forIn_nil, pure_bind, hs, Option.getD_none, hg, Bool.false_eq_true, if_false, List.length_nil, List.drop_nil, Nat.sub_zero, List.take_length, hm, List.isEmpty_nil, Bool.not_true, List.drop_length, List.zip_nil_left, List.append_nil, Nat.zero_sub]
  exact congrArg pure (zip_fm hl nd)

def argsB (ps : List Str) (p : Arguments) : Bool := p.posonlyargs.isEmpty && (decide (p.args.map (·.arg) = ps) && (p.vararg.isNone && (p.kwonlyargs.isEmpty && p.kwarg.isNone)))
theorem argsB_ok {x qual : Str} {params : Arguments} {body : List Stmt} {scope : Scope} {kV doc pm cdv ct : Value} {an : Option Addr} {ps : List Str} (h : argsB ps params = true) (nd : ps.Nodup) (us : List Value) (hl : us.length = ps.length) :
    bindArgs (PySem.W.fnOf x qual params body scope .none kV doc pm an cdv ct) ⟨us, []⟩ = pure (ps.zip us) := by
  obtain ⟨h1, h⟩ := ba2 h
  obtain ⟨h2, h⟩ := ba2 h
  obtain ⟨h3, h⟩ := ba2 h
  obtain ⟨h4, h5⟩ := ba2 h
  exact bind_pos (List.isEmpty_iff.mp h1) (of_decide_eq_true h2) (Option.isNone_iff_eq_none.mp h3) (List.isEmpty_iff.mp h4) (Option.isNone_iff_eq_none.mp h5) nd hl
def scB (N ps : List Str) (sc : Scope) : Bool := decide (sc.kind = .function) && (!sc.isCoroutine && (!sc.isGenerator && (decide N.Nodup && (decide (N.take ps.length = ps) && (ps.all (locB sc) && sc.names.all fun y => decide (y.2 ≠ .free))))))
theorem scB_ok {N ps : List Str} {sc : Scope} (h : scB N ps sc = true) : FnScope N ps sc := by
  obtain ⟨h1, h⟩ := ba2 h
  obtain ⟨h2, h⟩ := ba2 h
  obtain ⟨h3, h⟩ := ba2 h
  obtain ⟨h4, h⟩ := ba2 h
  obtain ⟨h5, h⟩ := ba2 h
  obtain ⟨h6, h7⟩ := ba2 h
  exact ⟨of_decide_eq_true h1, nb h2, nb h3, of_decide_eq_true h4, of_decide_eq_true h5, fun x hx => locB_ok (List.all_eq_true.mp h6 x hx), fun y hy => of_decide_eq_true (List.all_eq_true.mp h7 y hy)⟩
theorem pre_nd {N ps : List Str} (h1 : N.Nodup) (h2 : N.take ps.length = ps) : ps.Nodup := by
  rw [← h2]
  exact h1.sublist (List.take_sublist _ _)
/-- a def of the text and its core -/
def defB (P : List Df) (df : Df) (d : He.DefD) : Bool := decide (d.at_ = (df.name, df.meth)) && (decide (d.name = df.fname) && (d.dfl.isEmpty && (d.kwd.isEmpty && (scB df.N df.ps d.scope && (argsB df.ps d.params && mL df.N P df.body d.scope d.body)))))
end Pi
end
section
set_option Elab.async false
set_option linter.all false
set_option maxRecDepth 100000
set_option maxHeartbeats 4000000
/-! Pi, part T: from the head's facts to the whole program. -/
namespace Pi
open PySem PySem.Spec PyProof.Rows L2
def ndB (d : He.DefD) : Bool := d.dfl.isEmpty && d.kwd.isEmpty
def fltB (d : He.DefD) : Bool := decide (d.at_ = (("_law_fault" : Str), none)) && (ndB d && (scB ["error", "found"] ["error"] d.scope && (argsB ["error"] d.params && (faultB d.body &&
  (decide (d.scope.names.lookup ("found" : Str) = some .local) && (visB d.scope "error" && ((["isinstance", "len", "ValueError", "HighError"] : List Str).all (glB d.scope) && errNames.all (glB d.scope))))))))
def sup1 (c f : Str) (sc : Scope) : List Stmt → Bool
  | [.Expr (.Call (.Attribute (.Name hx _) ini p2) [.Name se _, text] [] p4) _, .Assign [.Attribute (.Name se2 _) f1 _] (.Name f2 _) _] =>
    decide (hx = "HighError") && (decide (ini = "__init__") && (decide (se = "self") && (decide (se2 = "self") && (decide (f1 = f) && (decide (f2 = f) && (noStar text && (mE [("self" : Str), f] [] (textX c) sc text && (p2.endLine == p4.line))))))))
  | _ => false
def sup2 (c f g : Str) (sc : Scope) : List Stmt → Bool
  | [.Expr (.Call (.Attribute (.Name hx _) ini p2) [.Name se _, text] [] p4) _, .Assign [.Attribute (.Name se2 _) f1 _] (.Name f2 _) _, .Assign [.Attribute (.Name se3 _) g1 _] (.Name g2 _) _] =>
    decide (hx = "HighError") && (decide (ini = "__init__") && (decide (se = "self") && (decide (se2 = "self") && (decide (f1 = f) && (decide (f2 = f) && (noStar text && (mE [("self" : Str), f, g] [] (textX c) sc text &&
    (decide (se3 = "self") && (decide (g1 = g) && (decide (g2 = g) && (p2.endLine == p4.line)))))))))))
  | _ => false
def iniB (c : Str) (d : He.DefD) : Bool := decide (d.at_ = (c, some ("__init__" : Str))) && (ndB d && (scB ("self" :: fldNames c) ("self" :: fldNames c) d.scope && (argsB ("self" :: fldNames c) d.params && (visB d.scope "self" && ((fldNames c).all (fun f => visB d.scope f && nmB f) && (glB d.scope "HighError" &&
  (match fldNames c with
    | [f] => sup1 c f d.scope d.body
    | [f, g] => sup2 c f g d.scope d.body
    | _ => false)))))))
/-- what is asked of the ground for a def, for a method -/
def dfFa (d : Df) : List He.Fa := match d.meth with
  | none => [.glo d.name]
  | some m => .cls d.name :: .meth d.name m :: (if m = ("__init__" : Str) then .glo d.name :: .mkr d.name :: d.own.map (.noat d.name) else [])
def faOf (P : List Df) : List He.Fa := blts.map .free ++ ([.free "ValueError", .glo "LIMITS", .glo "HighError", .glo "_law_fault"] ++ (errNames.map .glo ++ P.flatMap dfFa))
def tsOf : List He.Tab := [(fun K => He.ga K "LIMITS", limits.map (·.1))]
theorem look_mem {β : Type} {a : Str} {b : β} : ∀ {l : List (Str × β)}, l.lookup a = some b → (a, b) ∈ l
  | [], h => by cases h
  | (x, y) :: r, h => by
    rw [List.lookup_cons] at h
    cases e : a == x with
    | true =>
      rw [e] at h
      cases h
      rw [eq_of_beq e]
      exact List.mem_cons_self
    | false =>
      rw [e] at h
      exact List.mem_cons_of_mem _ (look_mem h)
theorem two_star {x : Str} {p : Pos} {t : Expr} (h : noStar t = true) : ∀ e ∈ [Expr.Name x p, t], noStar e = true := fun e he => by
  rcases List.mem_cons.mp he with rfl | he
  · rfl
  · rcases List.mem_singleton.mp he with rfl
    exact h
/-! ### the Hook -/
def frP (g : Addr → Option Obj) (n : Nat) : Fg := He.frG g (He.asD g n ++ [cStatics])
abbrev AlP : Type := He.AlT × Bool
def obsP (n : Nat) (fa : List He.Fa) (fn : List He.DefD) (g : Addr → Option Obj) : AlP := (He.obsT fa fn tsOf (frP g n), exB (frP g n))
structure SaysP (fa : List He.Fa) (fn : List He.DefD) (w : World) (K : Fg) : Prop where
  t : He.SaysT fa fn tsOf w K
  more : exB K = true
def hookP (n : Nat) (fa : List He.Fa) (fn : List He.DefD) : PySem.W.Hook where
  α := AlP
  obs := fun s => obsP n fa fn s.heap.get?
  val := fun w => (He.valT fn tsOf w, true)
  says := fun w h => ∃ K : PySem.W.Frag, K.In h ∧ SaysP fa fn w K
  of := fun _ _ e => ⟨_, He.frG_in, congrArg (fun z : AlP => z.1) e, congrArg (fun z : AlP => z.2) e⟩
  keeps := fun _ _ _ ⟨K, hK, c⟩ k => ⟨K, PySem.W.Frag.In.keeps hK k, c⟩
theorem obsP_eq {n : Nat} {fa : List He.Fa} {fn : List He.DefD} {g : Addr → Option Obj} {s : Shared} (h : ∀ a, g a = s.heap.get? a) : obsP n fa fn g = (hookP n fa fn).obs s := by
  have e : g = s.heap.get? := funext h
  rw [e] <;> rfl
section
variable {PP : Program} {w : World} {K : Fg} {mg : Str → Option Value} {base h : Heap} {P : List Df}
/-- what the ground says, told at once -/
structure Gf (w : World) (K : Fg) (mg : Str → Option Value) (P : List Df) (fn : List He.DefD) : Prop where
  gb : ∀ b ∈ blts, mg b = none
  lim : ∃ l, mg "LIMITS" = some (.ref l) ∧ ∀ z v, limits.lookup z = some v → KDct K w l z (.int v)
  kf : KFct K mg
  mf : mg "_law_fault" = some (.ref (He.ga K "_law_fault"))
  md : ∀ df ∈ P, DfOk K mg df
  fn : ∀ d ∈ fn, ∃ fd, FunD K d.name d.qual d.params d.body d.scope (d.dvs K) (d.kws K) (He.fAd K d.at_) fd
theorem gf_of {fn : List He.DefD} (X : K.In h) (G : h.Ns mainGlobals mg) (c : SaysP (faOf P) fn w K) : Gf w K mg P fn := by
  have fact : ∀ f ∈ faOf P, f.ok K = true := fun f hf => c.t.d.facts hf
  obtain ⟨h1, h2, h3⟩ := exB_ok c.more
  have free : ∀ x, He.Fa.free x ∈ faOf P → mg x = none := fun x hx => He.free_ok X G (fact _ hx)
  have glo : ∀ x, He.Fa.glo x ∈ faOf P → mg x = some (.ref (He.ga K x)) := fun x hx => He.glo_ok X G (fact _ hx)
  have m1 : ∀ b ∈ blts, He.Fa.free b ∈ faOf P := fun b hb => List.mem_append_left _ (List.mem_map.mpr ⟨b, hb, rfl⟩)
  have m2 : ∀ f ∈ ([.free "ValueError", .glo "LIMITS", .glo "HighError", .glo "_law_fault"] : List He.Fa), f ∈ faOf P := fun f hf => List.mem_append_right _ (List.mem_append_left _ hf)
  have m3 : ∀ x ∈ errNames, He.Fa.glo x ∈ faOf P := fun x hx => List.mem_append_right _ (List.mem_append_right _ (List.mem_append_left _ (List.mem_map.mpr ⟨x, hx, rfl⟩)))
  have m4 : ∀ d ∈ P, ∀ f ∈ dfFa d, f ∈ faOf P := fun d hd f hf => List.mem_append_right _ (List.mem_append_right _ (List.mem_append_right _ (List.mem_flatMap.mpr ⟨d, hd, hf⟩)))
  have m5 : ∀ d ∈ P, DfOk K mg d := fun d hd => by
    have h4 := m4 d hd
    unfold dfFa at h4
    unfold DfOk
    cases e : d.meth with
    | none =>
      rw [e] at h4
      dsimp only at h4 ⊢
      have := glo d.name (h4 _ List.mem_cons_self)
      unfold Df.fa
      rw [e]
      exact this
    | some m =>
      rw [e] at h4
      dsimp only at h4 ⊢
      have c1 := He.cls_ok (fact _ (h4 _ List.mem_cons_self))
      have c2 := He.meth_ok (fact _ (h4 _ (List.mem_cons_of_mem _ List.mem_cons_self)))
      refine ⟨c1, by unfold Df.fa; rw [e]; exact c2, fun hm => ?_⟩
      subst hm
      have h5 : ∀ f ∈ He.Fa.glo d.name :: He.Fa.mkr d.name :: d.own.map (He.Fa.noat d.name), f ∈ faOf P := fun f hf => h4 f (List.mem_cons_of_mem _ (List.mem_cons_of_mem _ (by rw [if_pos rfl]; exact hf)))
      refine ⟨by unfold Df.fa; rw [e]; exact He.mkr_ok (fact _ (h5 _ (List.mem_cons_of_mem _ List.mem_cons_self))), ⟨c1, fun f hf => He.noat_ok (fact _ (h5 _ (List.mem_cons_of_mem _ (List.mem_cons_of_mem _ (List.mem_map.mpr ⟨f, hf, rfl⟩)))))⟩, glo _ (h5 _ List.mem_cons_self)⟩
  refine ⟨fun b hb => free b (m1 b hb), ⟨_, glo "LIMITS" (m2 _ (by simp)), fun z v hz => ?_⟩, ?_, glo _ (m2 _ (by simp)), m5, fun d hd => c.t.d.defs hd⟩
  · obtain ⟨es, n, hk⟩ := c.t.tab 0 (t := (fun K => He.ga K "LIMITS", limits.map (·.1))) rfl
    obtain ⟨u, e1, e2⟩ := He.valsB_ok h1 (q := (z, .int v)) (List.mem_map.mpr ⟨(z, v), look_mem hz, rfl⟩)
    exact ⟨es, n, u, hk.at_, hk.lit, e1, e2⟩
  · exact {
      x := fun c hc => (h2 c hc).x
      ec := fun c hc => (h2 c hc).ec
      xf := fun c hc => (h2 c hc).xf
      m := fun c hc => glo c (m3 c (errN hc))
      ex := fun c hc => (h2 c hc).ex
      k := fun c x hc hx => (h2 c hc).k x hx
      kh := fun c hc => (h2 c hc).kh
      kv := fun c hc => (h2 c hc).kv
      h := h3
      mh := glo _ (m2 _ (by simp))
      mi := free _ (m1 _ (mem_blts (by decide +kernel)))
      ml := free _ (m1 _ (mem_blts (by decide +kernel)))
      mv := free _ (m2 _ (by simp)) }
theorem nd_ok {d : He.DefD} (h : ndB d = true) : d.dvs K = [] ∧ d.kws K = [] := by
  obtain ⟨h1, h2⟩ := ba2 h
  unfold He.DefD.dvs He.DefD.kws
  rw [List.isEmpty_iff.mp h1, List.isEmpty_iff.mp h2]
  exact ⟨rfl, rfl⟩
/-- the context of an __init__'s text -/
theorem cok_ini {qual : Str} {scope : Scope} {f : Addr} {cdv : Value} {A : Around} {outer : List Env} {s : Shared} {H : Hp} {E : XK} {N : List Str} (nd : N.Nodup) (hr : Room 0 (A.deeper (envOfC qual scope s.heap.objs.size f cdv))) (gb : ∀ b ∈ blts, mg b = none)
    (lim : ∃ l, mg "LIMITS" = some (.ref l) ∧ ∀ z v, limits.lookup z = some v → KDct K w l z (.int v)) : Cok N [] (fun _ _ _ => .stuck) (cxOf (L2.CX PP w) PP w K mg base N qual scope f cdv A outer s H E) WF scope :=
  ⟨rfl, rfl, nd, rfl, fun u s' ⟨_, _, _, _, _, _, _, _, _, _, _, _, _, _, _, _, w⟩ => w.elim, by have := hr.un; show (A.deeper _).units + 65 < cLine; omega, gb, lim, fun f df h => by cases h⟩
theorem ini_ok {fn : List He.DefD} (G : Gf w K mg P fn) {c : Str} (hc : kindX c ≠ 9) {d : He.DefD} (hd : d ∈ fn) (h : iniB c d = true) :
    ∃ fd ps, FnOk PP w K mg base (L2.CX PP w) 1 (He.ma K (He.ga K c) "__init__") fd ps (spX K c) ∧ Binds K fd ps [] := by
  obtain ⟨h1, h⟩ := ba2 h
  obtain ⟨h2, h⟩ := ba2 h
  obtain ⟨h3, h⟩ := ba2 h
  obtain ⟨h4, h⟩ := ba2 h
  obtain ⟨h5, h⟩ := ba2 h
  obtain ⟨h6, h⟩ := ba2 h
  obtain ⟨h7, h⟩ := ba2 h
  obtain ⟨fd, F⟩ := G.fn d hd
  rw [(nd_ok h2).1, (nd_ok h2).2, of_decide_eq_true h1] at F
  have S := scB_ok h3
  have F' : FunD K d.name d.qual d.params d.body d.scope [] [] (He.ma K (He.ga K c) "__init__") fd := F
  refine ⟨fd, "self" :: fldNames c, F'.ok S (fun vs H Q E q => by rw [q.1, List.length_cons]; omega) fun cdv A outer s H vs Q E hr hsp => ?_, F'.bindsN fun kV doc pm an cdv ct us hl => argsB_ok h4 S.nd us hl⟩
  have C : Cok ("self" :: fldNames c) [] (fun _ _ _ => .stuck) (cxOf (L2.CX PP w) PP w K mg base ("self" :: fldNames c) d.qual d.scope (He.ma K (He.ga K c) "__init__") cdv A outer s H E) WF d.scope := cok_ini S.nd hr G.gb G.lim
  rcases fld_cases hc with ⟨f, e⟩ | ⟨f, g, e, _⟩
  · rw [e] at h h6 C
    dsimp only at h
    unfold sup1 at h
    split at h
    · rename_i hx p1 ini p2 se p3 text p4 p5 se2 p6 f1 p7 f2 p8 p9 hbody
      obtain ⟨g1, h⟩ := ba2 h
      obtain ⟨g2, h⟩ := ba2 h
      obtain ⟨g3, h⟩ := ba2 h
      obtain ⟨g4, h⟩ := ba2 h
      obtain ⟨g5, h⟩ := ba2 h
      obtain ⟨g6, h⟩ := ba2 h
      obtain ⟨g7, h⟩ := ba2 h
      obtain ⟨g8, hln⟩ := ba2 h
      cases of_decide_eq_true g1
      cases of_decide_eq_true g2
      cases of_decide_eq_true g3
      cases of_decide_eq_true g4
      cases of_decide_eq_true g5
      cases of_decide_eq_true g6
      rw [e, hbody]
      have hv := ba2 (List.all_eq_true.mp h6 f List.mem_cons_self)
      obtain ⟨pl, hpl⟩ := meth_eq (o := .Name "HighError" p1) (name := "__init__") (apos := p2) (pos := p4) (e := .Name "self" p3) (es := [text]) (env := (cxOf (L2.CX PP w) PP w K mg base [("self" : Str), f] d.qual d.scope (He.ma K (He.ga K c) "__init__") cdv A outer s H E).env) (base_of rfl _ _ _) (two_star g7) (by simp) hln
      obtain ⟨t, ht, hq⟩ := init_body1 (pl := pl) (p1 := p1) (p2 := p2) (p3 := p3) (p4 := p4) (text := text) (X := cxOf (L2.CX PP w) PP w K mg base [("self" : Str), f] d.qual d.scope (He.ma K (He.ga K c) "__init__") cdv A outer s H E) e (G.kf.x c hc) G.kf.h rfl (visB_ok h5) (visB_ok hv.1) (nmB_ok hv.2).1 (nmB_ok hv.2).2 (C.gl h7) G.kf.mh (mE_ok (textX c) C g8).1 g7 hpl
      exact ⟨t, ht, hq vs H Q E hsp⟩
    · cases h
  · rw [e] at h h6 C
    dsimp only at h
    unfold sup2 at h
    split at h
    · rename_i hx p1 ini p2 se p3 text p4 p5 se2 p6 f1 p7 f2 p8 p9 se3 q6 g1' q7 g2' q8 q9 hbody
      obtain ⟨g1, h⟩ := ba2 h
      obtain ⟨g2, h⟩ := ba2 h
      obtain ⟨g3, h⟩ := ba2 h
      obtain ⟨g4, h⟩ := ba2 h
      obtain ⟨g5, h⟩ := ba2 h
      obtain ⟨g6, h⟩ := ba2 h
      obtain ⟨g7, h⟩ := ba2 h
      obtain ⟨g8, h⟩ := ba2 h
      obtain ⟨g9, h⟩ := ba2 h
      obtain ⟨g10, h⟩ := ba2 h
      obtain ⟨g11, hln⟩ := ba2 h
      cases of_decide_eq_true g1
      cases of_decide_eq_true g2
      cases of_decide_eq_true g3
      cases of_decide_eq_true g4
      cases of_decide_eq_true g5
      cases of_decide_eq_true g6
      cases of_decide_eq_true g9
      cases of_decide_eq_true g10
      cases of_decide_eq_true g11
      rw [e, hbody]
      have hv := ba2 (List.all_eq_true.mp h6 f List.mem_cons_self)
      have hv2 := ba2 (List.all_eq_true.mp h6 g (List.mem_cons_of_mem _ List.mem_cons_self))
      obtain ⟨pl, hpl⟩ := meth_eq (o := .Name "HighError" p1) (name := "__init__") (apos := p2) (pos := p4) (e := .Name "self" p3) (es := [text]) (env := (cxOf (L2.CX PP w) PP w K mg base [("self" : Str), f, g] d.qual d.scope (He.ma K (He.ga K c) "__init__") cdv A outer s H E).env) (base_of rfl _ _ _) (two_star g7) (by simp) hln
      obtain ⟨t, ht, hq⟩ := init_body2 (pl := pl) (p1 := p1) (p2 := p2) (p3 := p3) (p4 := p4) (text := text) (X := cxOf (L2.CX PP w) PP w K mg base [("self" : Str), f, g] d.qual d.scope (He.ma K (He.ga K c) "__init__") cdv A outer s H E) e (G.kf.x c hc) G.kf.h rfl (visB_ok h5) (visB_ok hv.1) (nmB_ok hv.2).1 (nmB_ok hv.2).2
        (visB_ok hv2.1) (nmB_ok hv2.2).1 (nmB_ok hv2.2).2 (C.gl h7) G.kf.mh (mE_ok (textX c) C g8).1 g7 hpl
      exact ⟨t, ht, hq vs H Q E hsp⟩
    · cases h
theorem flt_ok {fn : List He.DefD} (G : Gf w K mg P fn) {d : He.DefD} (hd : d ∈ fn) (h : fltB d = true) :
    ∃ fa fd, FnF PP w K mg base (L2.CX PP w) 1 fa fd [("error" : Str)] (spFlt K) ∧ Binds K fd [("error" : Str)] [] ∧ mg "_law_fault" = some (.ref fa) ∧ PySem.W.keepIn K (.ref fa) = true := by
  obtain ⟨h1, h⟩ := ba2 h
  obtain ⟨h2, h⟩ := ba2 h
  obtain ⟨h3, h⟩ := ba2 h
  obtain ⟨h4, h⟩ := ba2 h
  obtain ⟨h5, h⟩ := ba2 h
  obtain ⟨h6, h⟩ := ba2 h
  obtain ⟨h7, h⟩ := ba2 h
  obtain ⟨h8, h9⟩ := ba2 h
  obtain ⟨fd, F⟩ := G.fn d hd
  rw [(nd_ok h2).1, (nd_ok h2).2, of_decide_eq_true h1] at F
  have S := scB_ok h3
  have F' : FunD K d.name d.qual d.params d.body d.scope [] [] (He.ga K "_law_fault") fd := F
  refine ⟨_, fd, ?_, F'.bindsN fun kV doc pm an cdv ct us hl => argsB_ok h4 (by decide) us hl, G.mf, F'.kp⟩
  obtain ⟨oc, od, dV, kV, doc, pm, an, cdv, ct, osl, rfl, lk, hcd, _, _⟩ := F'.ex
  refine fn_ofF lk hcd S (fun a cls d vs H Q E q => by rw [q.1]; rfl) fun A outer s H vs Q E a oe cls dx hz hf hr ⟨hvs, c, ws, dd, hk, hcls, hdx, hH, hl, hq⟩ => ?_
  subst hvs hcls hdx
  have gl : ∀ x, glB d.scope x = true → Gl (L2H.cxH (L2.CX PP w) PP w K mg base [("error" : Str), "found"] d.qual d.scope (He.ga K "_law_fault") cdv A outer s H E (a, oe)) x := fun x hx => glB_ok hx
  have T : FltCx (L2H.cxH (L2.CX PP w) PP w K mg base [("error" : Str), "found"] d.qual d.scope (He.ga K "_law_fault") cdv A outer s H E (a, oe)) c a dd oe := {
    hp := List.mem_singleton.mpr rfl
    hz := hz
    hf := hf
    ec := G.kf.ec c hk
    xf := G.kf.xf c hk
    no := (G.kf.x c hk).no
    N := rfl
    v0 := visB_ok h7
    v1 := of_decide_eq_true h6
    gi := gl _ (List.all_eq_true.mp h8 _ (by simp))
    mi := G.kf.mi }
  have hn : ∀ q ∈ errs, NameOk (L2H.cxH (L2.CX PP w) PP w K mg base [("error" : Str), "found"] d.qual d.scope (He.ga K "_law_fault") cdv A outer s H E (a, oe)) c q.1 := fun q hq => by
    have hm : q.1 ∈ errNames := List.mem_map.mpr ⟨q, hq, rfl⟩
    have hk2 := kind_err q.1 hm
    exact ⟨gl _ (List.all_eq_true.mp h9 _ hm), G.kf.m _ hk2, by
      cases z : q.1 == ("__debug__" : Str) with
      | false => rfl
      | true =>
        rw [eq_of_beq z] at hk2
        exact absurd (by decide) hk2, G.kf.k c _ hk hk2⟩
  have hb := flt_body T S.nd h5 hk hn (by have := hr.un; show (A.deeper _).units + 65 < cLine; omega) (gl _ (List.all_eq_true.mp h8 _ (by simp))) G.kf.ml (gl _ (List.all_eq_true.mp h8 _ (by simp))) G.kf.mv (gl _ (List.all_eq_true.mp h8 _ (by simp))) G.kf.mh (G.kf.kh c hk) (G.kf.kv c hk)
  obtain ⟨e1, e2⟩ := fld_look hk hl
  exact ⟨_, hb, rfl, _, ws, hH, e1, e2, hq⟩
/-- everything that the walk leans on -/
theorem gok_of {fn ds : List He.DefD} {dF : He.DefD} (G : Gf w K mg P fn) (hl : ds.length = P.length) (hds : ((P.zip ds).all fun q => defB P q.1 q.2) = true) (hm : ∀ d ∈ ds, d ∈ fn) (hF : fltB dF = true) (hFm : dF ∈ fn) (dI : Str → He.DefD) (hI : ∀ c ∈ errNames, iniB c (dI c) = true) (hIm : ∀ c ∈ errNames, dI c ∈ fn) : Gok PP w K mg base P where
  gb := G.gb
  lim := G.lim
  kf := G.kf
  ini := fun c hc => ini_ok G hc (hIm c (errN hc)) (hI c (errN hc))
  flt := flt_ok G hFm hF
  df := fun f df h => by
    have hf := (List.getElem?_eq_some_iff.mp h).1
    have hd : ds[f]? = some ds[f] := List.getElem?_eq_getElem (by omega)
    have hz : (df, ds[f]) ∈ P.zip ds := by
      refine List.mem_of_getElem? (i := f) ?_
      exact List.getElem?_zip_eq_some.mpr ⟨h, hd⟩
    have hB := List.all_eq_true.mp hds _ hz
    generalize ds[f] = d at hB hz hd
    obtain ⟨h1, hB⟩ := ba2 hB
    obtain ⟨h2, hB⟩ := ba2 hB
    obtain ⟨h3, hB⟩ := ba2 hB
    obtain ⟨h4, hB⟩ := ba2 hB
    obtain ⟨h5, hB⟩ := ba2 hB
    obtain ⟨h6, h7⟩ := ba2 hB
    have nd : ndB d = true := by
      unfold ndB
      rw [show d.dfl.isEmpty = true from h3, show d.kwd.isEmpty = true from h4]
      rfl
    obtain ⟨fd, F⟩ := G.fn d (hm d (List.of_mem_zip hz).2)
    rw [(nd_ok nd).1, (nd_ok nd).2, of_decide_eq_true h1, of_decide_eq_true h2] at F
    have F' : FunD K df.fname d.qual d.params d.body d.scope [] [] (df.fa K) fd := F
    have S := scB_ok h5
    exact ⟨d.qual, d.params, d.body, d.scope, fd, F', G.md df (List.mem_of_getElem? h), S, h7, F'.bindsN fun kV doc pm an cdv ct us hl => argsB_ok h6 (pre_nd S.nd S.pre) us hl, fun s us hl => F'.bindsA (fun kV doc pm an cdv ct us hl => argsB_ok h6 (pre_nd S.nd S.pre) us hl) s us hl⟩

end
/-- the law's end: what is left is the core program's value -/
theorem walk_pi {l : PySem.W.OpenLaw} {n k f : Nat} {q : Program} {loose : List Str} {XP : (Str → Option Value) → Heap → Prop} {d : DefRec} {P : List Df} {fn : List He.DefD} {df : Df} (hP : P[f]? = some df) (hps : df.ps = [("script" : Str)]) (hn : l.most = some n) (hn2 : n ≤ sizeLine) (hdf : d.params.defaults = []) (hdn : d.name = df.name) (hme : df.meth = none) (hr : Room (2 * k + 3) callerA)
    (gok : ∀ (w : World) (K : Fg) (mg : Str → Option Value) (base h : Heap), K.In h → h.Ns mainGlobals mg → SaysP (faOf P) fn w K → Gok l.prog w K mg base P) (hm : ∀ ns : List Int, ns.length ≤ n → ∃ S', run P k f [.scr ns] [] = .ok (.bl true) S') :
    PySem.W.WalkO q loose XP (hookP 5 (faOf P) fn).says l.row.toRowW d [] (fun f vs => PySem.call f vs) := by
  refine L2.walk_ofE (CX := CXw) (x := "script") hn hn2 hdf hr (fun w mg fa h Y G hmg => ?_) (fun H s e s' ⟨_, _, _, _, _, _, _, _, _, _, _, _, _, _, z⟩ => z)
  obtain ⟨K, KX, c⟩ := Y
  obtain ⟨_, _, _, _, fd, F, hmd, _, _, _, hb⟩ := (gok w K mg h h KX G c).df f df hP
  unfold DfOk at hmd
  rw [hme] at hmd
  rw [hdn, hmd] at hmg
  cases hmg
  refine ⟨K, fd, spM K 1 (run P k f), KX, fun s u => ?_, fun H a ns hl _ hS => ?_, fun base kb gb => ?_⟩
  · have := hb s [u] (by rw [hps]; rfl)
    rw [hps] at this
    exact this
  · obtain ⟨S', e⟩ := hm ns hl
    exact sp_law hS e
  · obtain ⟨fd', F1, _, _, _, _, _, _, F2⟩ := defs_ok (gok w K mg base h KX G c) k f df hP
    cases fund_eq F F2
    rw [hps] at F1
    exact fn_weak (fun _ _ _ _ _ _ z => ⟨_, _, z⟩) F1
end Pi
end
section
set_option Elab.async false
set_option linter.all false
set_option maxRecDepth 100000
set_option maxHeartbeats 4000000
/-! Pi mathematics, part A: runs. -/
namespace Pi
open PySem PySem.Spec PyProof.Rows L2
theorem run_eq {P : List Df} {k f : Nat} {df : Df} {ds : List D} {S : Sto} (h : P[f]? = some df) (hl : ds.length = df.ps.length) : run P (k + 1) f ds S = fin df.pure S (exC (run P k) df.body (startT df.N.length ds) S) := by
  unfold run
  rw [h]
  exact if_pos hl
theorem cut_same {α : Type} {S : Sto} {k : Sto → R α} : Pi.cut S S k = k S := by
  unfold Pi.cut
  rw [List.take_length]
  exact if_pos (.inl rfl)
theorem cut_app {α : Type} {S T : Sto} {k : Sto → R α} : Pi.cut S (S ++ T) k = k S := by
  unfold Pi.cut
  rw [List.take_left]
  exact if_pos (.inl rfl)
/-- scalars are their own frozen form -/
def sca : D → Bool
  | .non => true | .bl _ => true | .int _ => true | .str _ => true
  | _ => false
theorem frz_sca {S : Sto} {n0 k : Nat} {d : D} (h : sca d = true) : frz S n0 (k + 1) d = some d := by
  cases d <;> first | rfl | cases h
theorem mapO_sca {S : Sto} {n0 k : Nat} : ∀ {ds : List D}, ds.all sca = true → mapO (frz S n0 (k + 1)) ds = some ds
  | [], _ => rfl
  | d :: ds, h => by
    rw [List.all_cons, Bool.and_eq_true] at h
    unfold mapO
    rw [frz_sca h.1, mapO_sca h.2]
theorem frz_tup {S : Sto} {n0 k : Nat} {ds : List D} : frz S n0 (k + 1) (.tup ds) = (mapO (frz S n0 k) ds).map .tup := rfl
theorem frz_lst {S : Sto} {n0 k : Nat} {ds : List D} : frz S n0 (k + 1) (.lst ds) = (mapO (frz S n0 k) ds).map .lst := rfl
theorem fin_ret {S S' : Sto} {d x : D} (h : frz S' S.length 8 d = some x) : fin true S (.ret d S') = Pi.cut S S' fun S' => .ok x S' := by
  show (match frz S' S.length 8 d with
    | some x => Pi.cut S S' fun S' => R.ok x S'
    | none => .stuck) = _
  rw [h]
theorem fin_sca {S : Sto} {d : D} (h : sca d = true) : fin true S (.ret d S) = .ok d S := by rw [fin_ret (frz_sca h), cut_same]
theorem fin_nx {S : Sto} {τ : Tau} : fin true S (.nx τ S) = .ok .non S := cut_same
theorem fin_exc {S : Sto} {τ : Tau} {c : Str} {fs : List D} (h : fs.all sca = true) : fin true S (.exc c fs τ S) = .exc c fs S := by
  show (match mapO (frz S S.length 8) fs with
    | some x => Pi.cut S S fun S' => (R.exc c x S' : R D)
    | none => .stuck) = _
  rw [mapO_sca h]
  exact cut_same

section
variable {α β : Type} {S : Sto} {a : α} {f : α → Sto → R β} {g : α → Sto → SR} {τ : Tau} {c : Str} {fs : List D} {h : Tau → Sto → SR} {d : D}
theorem bind_ok : (R.ok a S).bind f = f a S := Eq.trans rfl rfl
theorem bind_exc : (R.exc c fs S : R α).bind f = .exc c fs S := Eq.trans rfl rfl
theorem of_some : R.of (some a) S = .ok a S := Eq.trans rfl rfl
theorem st_ok : (R.ok a S).st τ g = g a S := Eq.trans rfl rfl
theorem st_exc : (R.exc c fs S : R α).st τ g = .exc c fs τ S := Eq.trans rfl rfl
theorem then_nx : (SR.nx τ S).then h = h τ S := Eq.trans rfl rfl
theorem then_ret : (SR.ret d S).then h = .ret d S := Eq.trans rfl rfl
theorem then_exc : (SR.exc c fs τ S).then h = .exc c fs τ S := Eq.trans rfl rfl
theorem then_bk : (SR.bk τ S).then h = .bk τ S := Eq.trans rfl rfl
theorem then_ct : (SR.ct τ S).then h = .ct τ S := Eq.trans rfl rfl
theorem start_eq {n : Nat} {ds : List D} : Pi.startT n ds = ds.map some ++ List.replicate (n - ds.length) none := Eq.trans rfl rfl
end
end Pi
end
section
set_option Elab.async false
set_option linter.all false
set_option maxRecDepth 100000
set_option maxHeartbeats 4000000
/-! Pi mathematics, part S: texts. -/
namespace Pi
open PySem PySem.Spec PyProof.Rows L2 TL
def W (l : List Nat) : Str := ⟨l.toArray⟩
theorem tlW (l : List Nat) : tl (W l) = l := rfl
theorem W_tl (x : Str) : W (tl x) = x := mk_tl x
theorem W_app (a b : List Nat) : W a ++ W b = W (a ++ b) := by
  rw [← W_tl (W a ++ W b), tl_append]
  rfl
theorem W_len (a : List Nat) : (W a).length = a.length := rfl
theorem W_inj {a b : List Nat} : W a = W b ↔ a = b := ⟨fun h => by rw [← tlW a, h, tlW], fun h => by rw [h]⟩
def sgn1 (c : Nat) : D := .str ⟨#[c]⟩
theorem signs_W (l : List Nat) : ((W l).cps.toList.map fun c => D.str ⟨#[c]⟩) = l.map sgn1 := rfl
theorem num_W (n : Nat) : (Str.ofString (toString ((n : Nat) : Int))) = W (numL n) := by
  rw [← W_tl (Str.ofString _), tl_num]
theorem numL_len_log (n : Nat) (h : n < 10 ^ 60) : (numL n).length ≤ 60 := numL_len (by decide) h
theorem log2_lt' {a k : Nat} (hk : 0 < k) (h : a < 2 ^ k) : a.log2 < k := by
  by_cases h0 : a = 0
  · subst h0
    rw [show Nat.log2 0 = 0 from by decide]
    exact hk
  · exact (Nat.log2_lt h0).mpr h
theorem mulI {i j : Int} (hi : i.natAbs < 2 ^ 600) (hj : j.natAbs < 2 ^ 600) : bop .mul (.int i) (.int j) = some (.int (i * j)) := by
  show (if i.natAbs.log2 + j.natAbs.log2 < 1000000 then some (D.int (i * j)) else none) = _
  have h1 := log2_lt' (by decide) hi
  have h2 := log2_lt' (by decide) hj
  rw [if_pos (by omega)]
theorem addI {i j : Int} : bop .add (.int i) (.int j) = some (.int (i + j)) := rfl
theorem subI {i j : Int} : bop .sub (.int i) (.int j) = some (.int (i - j)) := rfl
theorem addS {a b : List Nat} (h : a.length + b.length ≤ SMAX) : bop .add (.str (W a)) (.str (W b)) = some (.str (W (a ++ b))) := by
  rw [add_str (x := W a) (y := W b) h, W_app]
theorem strI {S : Sto} {n : Nat} (h : n < 2 ^ 1900) : blt S .str (.int (n : Int)) = some (.str (W (numL n))) := by
  rw [(blt_str (S := S) (i := (n : Int)) (by rw [Int.natAbs_natCast]; exact log2_lt' (by decide) h)).1]
  rw [show (toString (n : Int) : Str) = Str.ofString (toString (n : Int)) from rfl, num_W]
theorem lenS {S : Sto} {l : List Nat} (h : l.length ≤ SMAX) : blt S .len (.str (W l)) = some (.int l.length) := by
  show (if (W l).length ≤ SMAX then some (D.int (W l).length) else none) = _
  rw [W_len, if_pos h]
theorem ordS {S : Sto} {c : Nat} : blt S .ord (.str ⟨#[c]⟩) = some (.int (c : Int)) := rfl
theorem modI {i j : Int} (h : 0 < j) : bop .mod (.int i) (.int j) = some (.int (i % j)) := if_pos h
theorem fdivI {i j : Int} (h : 0 < j) (h2 : j.natAbs < 2 ^ 8999) : bop .fdiv (.int i) (.int j) = some (.int (i / j)) := if_pos ⟨h, by
  have := log2_lt' (k := 8999) (by decide) h2
  omega⟩
/-- Σ (i + 1) · c -/
def wsum : Nat → List Nat → Nat
  | _, [] => 0
  | i, c :: r => (i + 1) * c + wsum (i + 1) r
def rsN (n : Nat) (l : List Nat) : Nat := (7 * n + wsum 0 l) % 8191
theorem rsN_lt (n : Nat) (l : List Nat) : rsN n l < 8191 := Nat.mod_lt _ (by decide)
/-- one turn of a loop -/
theorem forL_nx {step : D → Tau → Sto → SR} {s : Src} {d : D} {ds : List D} {τ τ' : Tau} {S S' : Sto} (h : step d τ S = .nx τ' S') (ho : okS s S') : forL step s (d :: ds) τ S = forL step s ds τ' S' := by
  rw [forL]
  rw [h]
  exact if_pos ho
theorem forL_ct {step : D → Tau → Sto → SR} {s : Src} {d : D} {ds : List D} {τ τ' : Tau} {S S' : Sto} (h : step d τ S = .ct τ' S') (ho : okS s S') : forL step s (d :: ds) τ S = forL step s ds τ' S' := by
  rw [forL]
  rw [h]
  exact if_pos ho
theorem forL_ret {step : D → Tau → Sto → SR} {s : Src} {d x : D} {ds : List D} {τ : Tau} {S S' : Sto} (h : step d τ S = .ret x S') : forL step s (d :: ds) τ S = .ret x S' := by
  rw [forL]
  rw [h]
theorem forL_nil {step : D → Tau → Sto → SR} {s : Src} {τ : Tau} {S : Sto} : forL step s [] τ S = .nx τ S := by rw [forL]
theorem compL_nil {step : D → Sto → R (Option D)} {s : Src} {S : Sto} : compL step s [] S = .ok [] S := by rw [compL]
/-- a comprehension whose turns leave the store as it is -/
theorem compL_map {step : D → Sto → R (Option D)} {s : Src} {S : Sto} (ho : okS s S) {α : Type} (f : α → D) (g : α → D) : ∀ l : List α, (∀ a ∈ l, step (f a) S = .ok (some (g a)) S) → compL step s (l.map f) S = .ok (l.map g) S
  | [], _ => compL_nil
  | a :: l, h => by
    rw [List.map_cons, compL, h a List.mem_cons_self]
    dsimp only
    rw [if_pos ho, compL_map ho f g l fun b hb => h b (List.mem_cons_of_mem _ hb)]
    rfl
/-- .. with tests -/
theorem compL_filter {step : D → Sto → R (Option D)} {s : Src} {S : Sto} (ho : okS s S) {α : Type} (f : α → D) (p : α → Bool) (g : α → D) : ∀ l : List α, (∀ a ∈ l, step (f a) S = .ok (if p a then some (g a) else none) S) → compL step s (l.map f) S = .ok ((l.filter p).map g) S
  | [], _ => compL_nil
  | a :: l, h => by
    rw [List.map_cons, compL, h a List.mem_cons_self]
    dsimp only
    rw [if_pos ho, compL_filter ho f p g l fun b hb => h b (List.mem_cons_of_mem _ hb), List.filter_cons]
    cases p a <;> rfl
end Pi
end
section
set_option Elab.async false
set_option linter.all false
set_option autoImplicit true
set_option maxRecDepth 100000
set_option maxHeartbeats 4000000
/-! Pi mathematics, part Q: what core does, constructor by constructor. -/
namespace Pi
open PySem PySem.Spec PyProof.Rows L2 TL
/-- one turn of a for -/
noncomputable def forB (cl : Nat → List D → Sto → R D) (tg : Tg) (b : C) : D → Tau → Sto → SR := fun d τ S => match setT tg d τ with
  | some τ' => exC cl b τ' S
  | none => .stuck
/-- one turn of a comprehension -/
noncomputable def compB (cl : Nat → List D → Sto → R D) (tg : Tg) (ifs : Cs) (e : E) (own : List (Str × Nat)) (τ : Tau) : D → Sto → R (Option D) := fun d S => match setT tg d (wipeT τ (own.map (·.2))) with
  | some τ' => (evC cl ifs τ' S).bind fun c S2 => if c then (evE cl e τ' S2).bind fun x S3 => .ok (some x) S3 else .ok none S2
  | none => .stuck
section
variable {cl : Nat → List D → Sto → R D} {τ : Tau} {S : Sto}
theorem evE_var : evE cl (.var i) τ S = match τ[i]? with
    | some (some d) => .ok d S
    | _ => .stuck := Eq.trans rfl rfl
theorem evE_int : evE cl (.int i) τ S = .ok (.int i) S := Eq.trans rfl rfl
theorem evE_str : evE cl (.str x) τ S = .ok (.str x) S := Eq.trans rfl rfl
theorem evE_bl : evE cl (.bl b) τ S = .ok (.bl b) S := Eq.trans rfl rfl
theorem evE_non : evE cl (.non) τ S = .ok .non S := Eq.trans rfl rfl
theorem evE_bin : evE cl (.bin o a b) τ S = (evE cl a τ S).bind fun x S1 => (evE cl b τ S1).bind fun y S2 => .of (bop o x y) S2 := Eq.trans rfl rfl
theorem evE_neg : evE cl (.neg a) τ S = (evE cl a τ S).bind fun x S1 => match x with
    | .int i => .ok (.int (-i)) S1
    | _ => .stuck := Eq.trans rfl rfl
theorem evE_cmp : evE cl (.cmp o a b) τ S = (evE cl a τ S).bind fun x S1 => (evE cl b τ S1).bind fun y S2 => .of ((cop S2 o x y).map .bl) S2 := Eq.trans rfl rfl
theorem evE_isN : evE cl (.isN a) τ S = (evE cl a τ S).bind fun x S1 => .of ((nonD x).map .bl) S1 := Eq.trans rfl rfl
theorem evE_notN : evE cl (.notN a) τ S = (evE cl a τ S).bind fun x S1 => .of ((nonD x).map fun b => .bl (!b)) S1 := Eq.trans rfl rfl
theorem evE_chain : evE cl (.chain o p a b c) τ S = (evE cl a τ S).bind fun x S1 => (evE cl b τ S1).bind fun y S2 => match cop S2 o x y with
    | some true => (evE cl c τ S2).bind fun z S3 => .of ((cop S3 p y z).map .bl) S3
    | some false => .ok (.bl false) S2
    | none => .stuck := Eq.trans rfl rfl
theorem evE_and : evE cl (.and a b) τ S = (evE cl a τ S).bind fun x S1 => match x with
    | .bl true => evE cl b τ S1
    | .bl false => .ok (.bl false) S1
    | _ => .stuck := Eq.trans rfl rfl
theorem evE_or : evE cl (.or a b) τ S = (evE cl a τ S).bind fun x S1 => match x with
    | .bl false => evE cl b τ S1
    | .bl true => .ok (.bl true) S1
    | _ => .stuck := Eq.trans rfl rfl
theorem evE_not : evE cl (.not a) τ S = (evE cl a τ S).bind fun x S1 => match x with
    | .bl c => .ok (.bl (!c)) S1
    | _ => .stuck := Eq.trans rfl rfl
theorem evE_ite : evE cl (.ite t a b) τ S = (evT cl t τ S).bind fun c S1 => if c then evE cl a τ S1 else evE cl b τ S1 := Eq.trans rfl rfl
theorem evE_tup : evE cl (.tup es) τ S = (evEs cl es τ S).bind fun xs S1 => if xs.length ≤ SMAX then .ok (.tup xs) S1 else .stuck := Eq.trans rfl rfl
theorem evE_frz : evE cl (.frz f) τ S = (evF cl f τ S).bind fun xs S1 => .ok (.lst xs) S1 := Eq.trans rfl rfl
theorem evE_live : evE cl (.live f) τ S = (evF cl f τ S).bind fun xs S1 => .ok (.loc S1.length) (S1 ++ [.lst xs]) := Eq.trans rfl rfl
theorem evE_call : evE cl (.call f es) τ S = (evEs cl es τ S).bind fun xs S1 => cl f xs S1 := Eq.trans rfl rfl
theorem evE_dead : evE cl (.dead) τ S = .stuck := Eq.trans rfl rfl
theorem evE_lim : evE cl (.lim e) τ S = (evE cl e τ S).bind fun x S1 => .of (limD x) S1 := Eq.trans rfl rfl
theorem evE_blt : evE cl (.blt b e) τ S = (evE cl e τ S).bind fun x S1 => .of (blt S1 b x) S1 := Eq.trans rfl rfl
theorem evE_isi : evE cl (.isi e t) τ S = (evE cl e τ S).bind fun x S1 => .of ((isTy S1 t x).map .bl) S1 := Eq.trans rfl rfl
theorem evE_divm : evE cl (.divm a b) τ S = (evE cl a τ S).bind fun x S1 => (evE cl b τ S1).bind fun y S2 => match x, y with
    | .int i, .int j => if 0 < j ∧ j < 1073741824 then .ok (.tup [.int (i / j), .int (i % j)]) S2 else .stuck
    | _, _ => .stuck := Eq.trans rfl rfl
theorem evE_tupOf : evE cl (.tupOf a) τ S = (evE cl a τ S).bind fun x S1 => match getL S1 x with
    | some xs => .ok (.tup xs) S1
    | none => .stuck := Eq.trans rfl rfl
theorem evE_idx : evE cl (.idx a i) τ S = (evE cl a τ S).bind fun x S1 => (evE cl i τ S1).bind fun y S2 => .of (idx S2 x y) S2 := Eq.trans rfl rfl
theorem evE_slS : evE cl (.slS a l1 h1) τ S = (evE cl a τ S).bind fun x S1 => (evO cl l1 τ S1).bind fun l S2 => (evO cl h1 τ S2).bind fun h S3 => match x with
    | .str z => if z.length ≤ SMAX then .ok (.str (cutS z l h)) S3 else .stuck
    | _ => .stuck := Eq.trans rfl rfl
theorem evE_join : evE cl (.join s a) τ S = (evE cl s τ S).bind fun x S1 => match x with
    | .str z => (evE cl a τ S1).bind fun y S2 => (match (getLT S2 y).bind listS with
      | some ys => if (ys.map (·.length)).sum + ys.length * z.length ≤ SMAX then .ok (.str (Txt.join z ys)) S2 else .stuck
      | none => .stuck)
    | _ => .stuck := Eq.trans rfl rfl
theorem evE_mt1 : evE cl (.mt1 m o a) τ S = (evE cl o τ S).bind fun x S1 => match x with
    | .str z => (evE cl a τ S1).bind fun y S2 => .of (mt1 m (.str z) y) S2
    | _ => .stuck := Eq.trans rfl rfl
theorem evE_fld : evE cl (.fld a f) τ S = (evE cl a τ S).bind fun x S1 => .of (fldD S1 x f) S1 := Eq.trans rfl rfl
theorem evE_meth : evE cl (.meth c ow a f es) τ S = (evE cl a τ S).bind fun x S1 => if insD S1 c ow x = true then (evEs cl es τ S1).bind fun xs S2 => cl f (x :: xs) S2 else .stuck := Eq.trans rfl rfl
theorem evE_new : evE cl (.new c ow f es) τ S = (evEs cl es τ S).bind fun xs S1 => (cl f (.loc S1.length :: xs) (S1 ++ [.ins c ow [] []])).bind fun y S2 => match y with
    | .non => .ok (.loc S1.length) S2
    | _ => .stuck := Eq.trans rfl rfl
theorem evE_dnil : evE cl (.dnil lv) τ S = if lv then .ok (.loc S.length) (S ++ [.dct [] []]) else .ok (.dic [] []) S := Eq.trans rfl rfl
theorem evE_get2 : evE cl (.get2 a k d) τ S = (evE cl a τ S).bind fun x S1 => match getDc S1 x with
    | some _ => (evE cl k τ S1).bind fun y S2 => (evE cl d τ S2).bind fun z S3 => (match getDc S3 x, keyD y with
      | some q, some j => .ok ((lookK q.1 q.2 j).getD z) S3
      | _, _ => .stuck)
    | none => .stuck := Eq.trans rfl rfl
theorem evE_dcopy : evE cl (.dcopy lv i j f) τ S = match τ[i]? with
    | some (some x) => (match (fldD S x f).bind (getDc S) with
      | some q => if q.1.length ≤ 1000 ∧ j < τ.length then (if lv then .ok (.loc S.length) (S ++ [.dct (copyK q.1 q.2 q.1 ([], [])).1 (copyK q.1 q.2 q.1 ([], [])).2]) else .ok (.dic (copyK q.1 q.2 q.1 ([], [])).1 (copyK q.1 q.2 q.1 ([], [])).2) S) else .stuck
      | none => .stuck)
    | _ => .stuck := Eq.trans rfl rfl
theorem evO_none : evO cl (.none) τ S = .ok none S := Eq.trans rfl rfl
theorem evO_some : evO cl (.some e) τ S = (evE cl e τ S).bind fun x S1 => match x with
    | .int i => .ok (some i) S1
    | _ => .stuck := Eq.trans rfl rfl
theorem evEs_nil : evEs cl (.nil) τ S = .ok [] S := Eq.trans rfl rfl
theorem evEs_cons : evEs cl (.cons e es) τ S = (evE cl e τ S).bind fun x S1 => (evEs cl es τ S1).bind fun xs S2 => .ok (x :: xs) S2 := Eq.trans rfl rfl
theorem evT_val : evT cl (.val e) τ S = (evE cl e τ S).bind fun x S1 => match x with
    | .bl c => .ok c S1
    | _ => .stuck := Eq.trans rfl rfl
theorem evT_tru : evT cl (.tru e) τ S = (evE cl e τ S).bind fun x S1 => .of (truD S1 x) S1 := Eq.trans rfl rfl
theorem evT_and : evT cl (.and ts) τ S = evAnd cl ts τ S := Eq.trans rfl rfl
theorem evT_or : evT cl (.or ts) τ S = evOr cl ts τ S := Eq.trans rfl rfl
theorem evT_not : evT cl (.not t) τ S = (evT cl t τ S).bind fun c S1 => .ok (!c) S1 := Eq.trans rfl rfl
theorem evAnd_one : evAnd cl (.one t) τ S = evT cl t τ S := Eq.trans rfl rfl
theorem evAnd_cons : evAnd cl (.cons t ts) τ S = (evT cl t τ S).bind fun c S1 => if c then evAnd cl ts τ S1 else .ok false S1 := Eq.trans rfl rfl
theorem evOr_one : evOr cl (.one t) τ S = evT cl t τ S := Eq.trans rfl rfl
theorem evOr_cons : evOr cl (.cons t ts) τ S = (evT cl t τ S).bind fun c S1 => if c then .ok true S1 else evOr cl ts τ S1 := Eq.trans rfl rfl
theorem evF_lst : evF cl (.lst es) τ S = (evEs cl es τ S).bind fun xs S1 => if xs.length ≤ SMAX then .ok xs S1 else .stuck := Eq.trans rfl rfl
theorem evF_comp : evF cl (.comp tg it ifs e ow) τ S = (evI cl it τ S).bind fun s S1 => if s.items.length ≤ SMAX then compL (compB cl tg ifs e ow τ) s s.items S1 else .stuck := Eq.trans rfl rfl
theorem evF_listOf : evF cl (.listOf a) τ S = (evE cl a τ S).bind fun x S1 => match getLT S1 x with
    | some xs => .ok xs S1
    | none => .stuck := Eq.trans rfl rfl
theorem evF_listRng : evF cl (.listRng a) τ S = (evE cl a τ S).bind fun x S1 => match x with
    | .int n => if -(2 ^ 62) ≤ n ∧ n ≤ 16000000 then .ok ((List.range n.toNat).map fun (i : Nat) => D.int (i : Int)) S1 else .stuck
    | _ => .stuck := Eq.trans rfl rfl
theorem evF_cat : evF cl (.cat a b) τ S = (evE cl a τ S).bind fun x S1 => (evE cl b τ S1).bind fun y S2 => match getM S2 x, getM S2 y with
    | some xs, some ys => if xs.length + ys.length ≤ SMAX then .ok (xs ++ ys) S2 else .stuck
    | _, _ => .stuck := Eq.trans rfl rfl
theorem evF_rep : evF cl (.rep a b) τ S = (evE cl a τ S).bind fun x S1 => (evE cl b τ S1).bind fun y S2 => match getM S2 x, y with
    | some xs, .int k => if -(2 ^ 63) ≤ k ∧ k < 2 ^ 63 ∧ xs.length * k.toNat ≤ SMAX then .ok (List.replicate k.toNat xs).flatten S2 else .stuck
    | _, _ => .stuck := Eq.trans rfl rfl
theorem evF_slL : evF cl (.slL a l1 h1) τ S = (evE cl a τ S).bind fun x S1 => (evO cl l1 τ S1).bind fun l S2 => (evO cl h1 τ S2).bind fun h S3 => match getL S3 x with
    | some xs => .ok (cutL xs l h) S3
    | none => .stuck := Eq.trans rfl rfl
theorem evF_split : evF cl (.split s p) τ S = (evE cl s τ S).bind fun x S1 => match x with
    | .str a => (evE cl p τ S1).bind fun y S2 => (match y with
      | .str b => if (b.length == 0) = false ∧ a.length + 2 ≤ SMAX then .ok ((Txt.split a b).map .str) S2 else .stuck
      | _ => .stuck)
    | _ => .stuck := Eq.trans rfl rfl
theorem evF_splitMax : evF cl (.splitMax s p k) τ S = (evE cl s τ S).bind fun x S1 => match x with
    | .str a => (evE cl p τ S1).bind fun y S2 => (evE cl k τ S2).bind fun z S3 => (match y, z with
      | .str b, .int k => if (b.length == 0) = false ∧ -(2 ^ 63) ≤ k ∧ k < 2 ^ 63 ∧ a.length + 2 ≤ SMAX then .ok ((Txt.splitMax a b k).map .str) S3 else .stuck
      | _, _ => .stuck)
    | _ => .stuck := Eq.trans rfl rfl
theorem evC_nil : evC cl (.nil) τ S = .ok true S := Eq.trans rfl rfl
theorem evC_one : evC cl (.one t) τ S = evT cl t τ S := Eq.trans rfl rfl
theorem evI_seq_true : evI cl (.seq true a) τ S = (evE cl a τ S).bind fun x S1 => match x with
    | .tup xs => .ok ⟨xs, none, []⟩ S1
    | _ => .stuck := Eq.trans rfl rfl
theorem evI_seq_false : evI cl (.seq false a) τ S = (evE cl a τ S).bind fun x S1 => match getL S1 x with
    | some xs => .ok ⟨xs, lown x, xs⟩ S1
    | none => .stuck := Eq.trans rfl rfl
theorem evI_str : evI cl (.str a) τ S = (evE cl a τ S).bind fun x S1 => match x with
    | .str z => .ok ⟨z.cps.toList.map fun c => .str ⟨#[c]⟩, none, []⟩ S1
    | _ => .stuck := Eq.trans rfl rfl
theorem evI_rng1 : evI cl (.rng1 a) τ S = (evE cl a τ S).bind fun x S1 => match x with
    | .int j => if -(2 ^ 62) ≤ j ∧ j < 2 ^ 62 then .ok ⟨(List.range j.toNat).map fun (i : Nat) => .int (i : Int), none, []⟩ S1 else .stuck
    | _ => .stuck := Eq.trans rfl rfl
theorem evI_rng2 : evI cl (.rng2 a b) τ S = (evE cl a τ S).bind fun x S1 => (evE cl b τ S1).bind fun y S2 => match x, y with
    | .int i, .int j => if -(2 ^ 62) ≤ i ∧ i < 2 ^ 62 ∧ -(2 ^ 62) ≤ j ∧ j < 2 ^ 62 then .ok ⟨(List.range (j - i).toNat).map fun (k : Nat) => .int (i + (k : Int)), none, []⟩ S2 else .stuck
    | _, _ => .stuck := Eq.trans rfl rfl
theorem evI_enumL : evI cl (.enumL a) τ S = (evE cl a τ S).bind fun x S1 => match getL S1 x with
    | some xs => .ok ⟨enumD 0 xs, lown x, xs⟩ S1
    | none => .stuck := Eq.trans rfl rfl
theorem evI_enumS : evI cl (.enumS a) τ S = (evE cl a τ S).bind fun x S1 => match x with
    | .str z => .ok ⟨enumD 0 (z.cps.toList.map fun c => .str ⟨#[c]⟩), none, []⟩ S1
    | _ => .stuck := Eq.trans rfl rfl
theorem exC_pass : exC cl (.pass) τ S = .nx τ S := Eq.trans rfl rfl
theorem exC_dead : exC cl (.dead) τ S = .stuck := Eq.trans rfl rfl
theorem exC_nil : exC cl (.nil) τ S = .nx τ S := Eq.trans rfl rfl
theorem exC_cons : exC cl (.cons a b) τ S = (exC cl a τ S).then fun τ' S' => exC cl b τ' S' := Eq.trans rfl rfl
theorem exC_exp : exC cl (.exp e) τ S = (evE cl e τ S).st τ fun _ S1 => .nx τ S1 := Eq.trans rfl rfl
theorem exC_app : exC cl (.app a e) τ S = (evE cl a τ S).st τ fun x S1 => match own S1 x with
    | some _ => (evE cl e τ S1).st τ fun y S2 => (match own S2 x with
      | some q => if q.2.length < SMAX then .nx τ (S2.set q.1 (.lst (q.2 ++ [y]))) else .stuck
      | none => .stuck)
    | none => .stuck := Eq.trans rfl rfl
theorem exC_set : exC cl (.set i e) τ S = (evE cl e τ S).st τ fun x S1 => .nx (τ.set i (some x)) S1 := Eq.trans rfl rfl
theorem exC_setc : exC cl (.setc i e) τ S = (evE cl e τ S).st τ fun x S1 => .nx (τ.set i (some x)) S1 := Eq.trans rfl rfl
theorem exC_aug : exC cl (.aug i o e) τ S = match τ[i]? with
    | some (some x) => (evE cl e τ S).st τ fun y S1 => (match augD o x y with
      | some z => .nx (τ.set i (some z)) S1
      | none => .stuck)
    | _ => .stuck := Eq.trans rfl rfl
theorem exC_setIx : exC cl (.setIx a i e) τ S = (evE cl e τ S).st τ fun y S1 => (evE cl a τ S1).st τ fun x S2 => (evE cl i τ S2).st τ fun k S3 => match own S3 x, k with
    | some q, .int k => (match ixN q.2.length k with
      | some j => .nx τ (S3.set q.1 (.lst (q.2.set j y)))
      | none => .stuck)
    | _, _ => .stuck := Eq.trans rfl rfl
theorem exC_setKy : exC cl (.setKy a k e) τ S = (evE cl e τ S).st τ fun y S1 => (evE cl a τ S1).st τ fun x S2 => (evE cl k τ S2).st τ fun z S3 => match ownK S3 x, keyD z with
    | some q, some j => if q.2.1.length < SMAX then .nx τ (S3.set q.1 (.dct (putKD q.2.1 q.2.2 j y).1 (putKD q.2.1 q.2.2 j y).2)) else .stuck
    | _, _ => .stuck := Eq.trans rfl rfl
theorem exC_setFd : exC cl (.setFd a f e) τ S = (evE cl e τ S).st τ fun y S1 => (evE cl a τ S1).st τ fun x S2 => match ownI S2 x with
    | some q => if q.2.2.1.contains f = true ∧ q.2.2.2.1.length < 900 then .nx τ (S2.set q.1 (.ins q.2.1 q.2.2.1 (putFs f q.2.2.2.1) (putFd f y q.2.2.2.1 q.2.2.2.2))) else .stuck
    | none => .stuck := Eq.trans rfl rfl
theorem exC_noneFault : exC cl (.noneFault b i) τ S = match exC cl b τ S with
    | .exc c fs τ' S' => (match faultD c fs with
      | some d => .ret (.tup [.non, d]) S'
      | none => .stuck)
    | r => r := Eq.trans rfl rfl
theorem exC_augIx : exC cl (.augIx a i o e) τ S = (evE cl a τ S).st τ fun x S1 => (evE cl i τ S1).st τ fun k S2 => match own S2 x, k with
    | some p, .int k => if 0 ≤ k ∧ k < 2 ^ 63 then (match p.2[k.toNat]? with
      | some z => (evE cl e τ S2).st τ fun y S3 => (match own S3 x, augD o z y with
        | some q, some r => (match ixN q.2.length k with
          | some j => .nx τ (S3.set q.1 (.lst (q.2.set j r)))
          | none => .stuck)
        | _, _ => .stuck)
      | none => .stuck) else .stuck
    | _, _ => .stuck := Eq.trans rfl rfl
theorem exC_two : exC cl (.two i j e) τ S = (evE cl e τ S).st τ fun x S1 => match x with
    | .tup [a, b] => .nx ((τ.set i (some a)).set j (some b)) S1
    | _ => .stuck := Eq.trans rfl rfl
theorem exC_ret : exC cl (.ret e) τ S = (evE cl e τ S).st τ fun x S1 => .ret x S1 := Eq.trans rfl rfl
theorem exC_retN : exC cl (.retN) τ S = .ret .non S := Eq.trans rfl rfl
theorem exC_ite : exC cl (.ite t a b) τ S = (evT cl t τ S).st τ fun c S1 => if c then exC cl a τ S1 else exC cl b τ S1 := Eq.trans rfl rfl
theorem exC_for : exC cl (.for tg it b) τ S = (evI cl it τ S).st τ fun s S1 => forL (forB cl tg b) s s.items τ S1 := Eq.trans rfl rfl
theorem exC_while : exC cl (.while n t b) τ S = whileF (evT cl t) (exC cl b) n τ S := Eq.trans rfl rfl
theorem exC_brk : exC cl (.brk) τ S = .bk τ S := Eq.trans rfl rfl
theorem exC_cnt : exC cl (.cnt) τ S = .ct τ S := Eq.trans rfl rfl
theorem exC_raise : exC cl (.raise x es) τ S = (evEs cl es τ S).st τ fun xs S1 => if excOk x xs then .exc x xs τ S1 else .stuck := Eq.trans rfl rfl
theorem exC_fault : exC cl (.fault b i) τ S = match exC cl b τ S with
    | .exc c fs τ' S' => (match faultD c fs with
      | some d => .ret d S'
      | none => .stuck)
    | r => r := Eq.trans rfl rfl
theorem forB_eq {tg : Tg} {b : C} {d : D} : forB cl tg b d τ S = match setT tg d τ with
  | some τ' => exC cl b τ' S
  | none => .stuck := rfl
theorem compB_eq {tg : Tg} {ifs : Cs} {e : E} {own : List (Str × Nat)} {d : D} : compB cl tg ifs e own τ d S = match setT tg d (wipeT τ (own.map (·.2))) with
  | some τ' => (evC cl ifs τ' S).bind fun c S2 => if c then (evE cl e τ' S2).bind fun x S3 => .ok (some x) S3 else .ok none S2
  | none => .stuck := rfl
end
end Pi
end
section
set_option Elab.async false
set_option linter.all false
set_option maxRecDepth 100000
set_option maxHeartbeats 4000000
/-! Pi mathematics, part T: a split with a limit. -/
namespace Pi
open PySem PySem.Spec PyProof.Rows L2 TL StrLaws Builtin Builtin.Str
theorem occ_step (s sub : Str) (hi n i : Nat) (l : List Nat) (st : Array Nat × Nat) : (forIn (i :: l) st (occBody s sub hi n)).run =
    if ((st.fst.size < n ∧ st.snd ≤ i) ∧ i + sub.length ≤ hi) ∧ subAt s sub i = true then (forIn l (st.fst.push i, i + sub.length) (occBody s sub hi n)).run else (forIn l st (occBody s sub hi n)).run := by
  rw [List.forIn_cons]
  by_cases c : ((st.fst.size < n ∧ st.snd ≤ i) ∧ i + sub.length ≤ hi) ∧ subAt s sub i = true
  · rw [show occBody s sub hi n i st = pure (ForInStep.yield (st.fst.push i, i + sub.length)) from if_pos c, if_pos c]
    rfl
  · rw [show occBody s sub hi n i st = pure (ForInStep.yield (st.fst, st.snd)) from if_neg c, if_neg c]
    rfl
theorem occ_two (s sub : Str) (hi n N : Nat) (hN : n ≤ N) : ∀ (l : List Nat) (a b : Array Nat × Nat), a.fst.toList = b.fst.toList.take n → (b.fst.size < n → a = b) →
    (forIn l a (occBody s sub hi n)).run.fst.toList = (forIn l b (occBody s sub hi N)).run.fst.toList.take n
  | [], a, b, h, _ => h
  | i :: l, a, b, h, e => by
    rw [occ_step, occ_step]
    by_cases hb : b.fst.size < n
    · have := e hb
      subst this
      have hN2 : a.fst.size < N := by omega
      by_cases c : a.snd ≤ i ∧ i + sub.length ≤ hi ∧ subAt s sub i = true
      · obtain ⟨c1, c2, c3⟩ := c
        rw [if_pos ⟨⟨⟨hb, c1⟩, c2⟩, c3⟩, if_pos ⟨⟨⟨hN2, c1⟩, c2⟩, c3⟩]
        refine occ_two s sub hi n N hN l _ _ ?_ (fun _ => rfl)
        show (a.fst.push i).toList = (a.fst.push i).toList.take n
        rw [List.take_of_length_le]
        rw [Array.length_toList, Array.size_push]
        omega
      · rw [if_neg fun q => c ⟨q.1.1.2, q.1.2, q.2⟩, if_neg fun q => c ⟨q.1.1.2, q.1.2, q.2⟩]
        exact occ_two s sub hi n N hN l _ _ h e
    · have ha : ¬ a.fst.size < n := by
        have := congrArg List.length h
        rw [Array.length_toList, List.length_take, Array.length_toList] at this
        omega
      rw [if_neg fun q => ha q.1.1.1]
      split
      · refine occ_two s sub hi n N hN l _ _ ?_ (fun q => ?_)
        · show a.fst.toList = (b.fst.push i).toList.take n
          rw [h, Array.toList_push, List.take_append_of_le_length]
          rw [Array.length_toList]; omega
        · have q' : (b.fst.push i).size < n := q
          rw [Array.size_push] at q'
          omega
      · exact occ_two s sub hi n N hN l _ _ h e
theorem occ_take (s sub : Str) (n : Nat) (hn : n ≤ s.length + 1) : occurrences s sub 0 s.length n = (occurrences s sub 0 s.length (s.length + 1)).take n := by
  rw [occ_eq, occ_eq]
  exact occ_two s sub s.length n (s.length + 1) hn _ _ _ (by simp) (fun _ => rfl)
/-- cut at most n times -/
def splN (S : List Nat) : Nat → List Nat → List (List Nat)
  | 0, l => [l]
  | n + 1, l => match par S [] l with
    | some (a, b) => a :: splN S n b
    | none => [l]
theorem parts_splN {x y : Str} (hy : tl y ≠ []) : ∀ (n : Nat) (cuts : List Nat) (a f : Nat), a ≤ (tl x).length → ChainG x y x.length a cuts f → (∀ k, f ≤ k → ¬ At x y x.length k) →
    (partsFrom x y.length a (cuts.take n)).map tl = splN (tl y) n ((tl x).drop a)
  | 0, cuts, a, f, ha, h, hn => by
    rw [List.take_zero]
    show [tl (strSub x a x.length)] = _
    rw [tl_strSub_end]
    rfl
  | n + 1, [], a, f, ha, h, hn => by
    have e : f = a := h
    subst e
    show [tl (strSub x f x.length)] = _
    rw [tl_strSub_end]
    have run := par_run (tl y) (tl x) ((tl x).length - f) f [] (by omega) (fun k h1 _ => no_at hy (hn k h1))
    have e2 : f + ((tl x).length - f) = (tl x).length := by omega
    rw [e2, List.drop_length] at run
    show _ = (match par (tl y) [] ((tl x).drop f) with
      | some (a, b) => a :: splN (tl y) n b
      | none => [(tl x).drop f])
    rw [run]
    rfl
  | n + 1, c :: r, a, f, ha, h, hn => by
    obtain ⟨h1, h2, h3, h4⟩ := h
    have hc : c + y.length ≤ x.length := h2.1
    have hx := len_tl x
    have hl := len_tl y
    have ih := parts_splN hy n r (c + y.length) f (by omega) h4 hn
    show tl (strSub x a c) :: (partsFrom x y.length (c + y.length) (r.take n)).map tl = _
    have run := par_run (tl y) (tl x) (c - a) a [] (by omega) (fun k k1 k2 => no_at hy (h3 k k1 (by omega)))
    have e2 : a + (c - a) = c := by omega
    rw [e2, List.nil_append, par_at hy ((at_iff hy c).mp h2)] at run
    show _ = (match par (tl y) [] ((tl x).drop a) with
      | some (a, b) => a :: splN (tl y) n b
      | none => [(tl x).drop a])
    rw [run, ih, tl_strSub, hl]
theorem splitMax_N (x y : Str) (hy : tl y ≠ []) (hk : ¬ strKind x < strKind y) (n : Nat) (hn : n ≤ x.length + 1) : (Txt.splitMax x y (n : Int)).map tl = splN (tl y) n (tl x) := by
  obtain ⟨f, g, hno⟩ := occ_tight x y (len1 hy)
  have key := parts_splN hy n _ 0 f (Nat.zero_le _) g hno
  rw [List.drop_zero] at key
  have hlim : limitOf x (n : Int) = n := by
    unfold limitOf
    rw [if_neg (by omega)]
    rfl
  have hocc : occurrences x y 0 x.length (limitOf x (n : Int)) = (occurrences x y 0 x.length (x.length + 1)).take n := by rw [hlim, occ_take x y n hn]
  have none_case : (occurrences x y 0 x.length (x.length + 1)).take n = [] → [x].map tl = splN (tl y) n (tl x) := fun ho => by
    rw [ho] at key
    rw [← key]
    show [tl x] = [tl (strSub x 0 x.length)]
    rw [sub_whole]
  unfold Txt.splitMax
  by_cases h1 : (decide (x.length < y.length) || decide (strKind x < strKind y)) = true
  · rw [if_pos h1]
    have hlt : x.length < y.length := by
      simp only [Bool.or_eq_true, decide_eq_true_eq] at h1
      rcases h1 with h | h
      · exact h
      · exact absurd h hk
    refine none_case ?_
    cases ho : occurrences x y 0 x.length (x.length + 1) with
    | nil => exact List.take_nil
    | cons c r =>
      rw [ho] at g
      have hc : c + y.length ≤ x.length := g.2.1.1
      omega
  · rw [if_neg h1, hocc]
    by_cases h2 : ((occurrences x y 0 x.length (x.length + 1)).take n).isEmpty = true
    · rw [if_pos h2]
      exact none_case (List.isEmpty_iff.mp h2)
    · rw [if_neg h2, partsBetween_eq]
      exact key

theorem map_W : ∀ {xs : List Str} {ls : List (List Nat)}, xs.map tl = ls → xs = ls.map W
  | [], [], _ => rfl
  | [], _ :: _, h => by cases h
  | _ :: _, [], h => by cases h
  | x :: xs, l :: ls, h => by
    obtain ⟨h1, h2⟩ := List.cons.inj (show tl x :: xs.map tl = l :: ls from h)
    rw [List.map_cons, ← h1, W_tl, map_W h2]
theorem split4 {a b c w : List Nat} (ha : 32 ∉ a) (hb : 32 ∉ b) (hc : 32 ∉ c) : Txt.splitMax (W (a ++ [32] ++ b ++ [32] ++ c ++ [32] ++ w)) " " 3 = [W a, W b, W c, W w] := by
  have hlen : 3 ≤ (W (a ++ [32] ++ b ++ [32] ++ c ++ [32] ++ w)).length + 1 := by
    rw [W_len]
    simp only [List.length_append, List.length_cons, List.length_nil]
    omega
  have key := splitMax_N (W (a ++ [32] ++ b ++ [32] ++ c ++ [32] ++ w)) " " (by decide) (kind_ok (by decide +kernel)) 3 hlen
  rw [tlW, show tl (" " : Str) = [32] from rfl] at key
  refine (map_W (ls := [a, b, c, w]) (key.trans ?_))
  have e : a ++ [32] ++ b ++ [32] ++ c ++ [32] ++ w = a ++ ([32] ++ (b ++ ([32] ++ (c ++ ([32] ++ w))))) := by simp only [List.append_assoc]
  rw [e]
  unfold splN
  rw [show par [32] [] (a ++ ([32] ++ (b ++ ([32] ++ (c ++ ([32] ++ w)))))) = some ([] ++ a, b ++ ([32] ++ (c ++ ([32] ++ w)))) from par_part1 (S := []) ha]
  dsimp only
  unfold splN
  rw [show par [32] [] (b ++ ([32] ++ (c ++ ([32] ++ w)))) = some ([] ++ b, c ++ ([32] ++ w)) from par_part1 (S := []) hb]
  dsimp only
  unfold splN
  rw [show par [32] [] (c ++ ([32] ++ w)) = some ([] ++ c, w) from par_part1 (S := []) hc]
  rfl
/-- lines behind one another, split -/
theorem split_nl {parts : List (List Nat)} (hne : parts ≠ []) (hp : ∀ p ∈ parts, 10 ∉ p) : Txt.split (W (joinL [10] parts)) "\n" = parts.map W := by
  have h := split_join (y := "\n") (s := 10) (S := []) rfl (by decide +kernel) (parts := parts.map W) (fun e => hne (List.map_eq_nil_iff.mp e)) (fun p hp' => by
    obtain ⟨q, hq, rfl⟩ := List.mem_map.mp hp'
    exact hp q hq)
  have e : Txt.join "\n" (parts.map W) = W (joinL [10] parts) := by
    rw [← W_tl (Txt.join _ _), join_eq, tl_join, List.map_map]
    rw [show (tl ∘ W) = _root_.id from funext fun l => rfl, List.map_id]
    rfl
  rw [← e]
  exact h
theorem join_empty {ls : List (List Nat)} : Txt.join "" (ls.map W) = W ls.flatten := by
  rw [← W_tl (Txt.join _ _), join_eq, tl_join, List.map_map, show (tl ∘ W) = _root_.id from funext fun l => rfl, List.map_id, show tl ("" : Str) = [] from rfl]
  congr 1
  induction ls with
  | nil => rfl
  | cons a r ih =>
    cases r with
    | nil => simp [joinL]
    | cons b r =>
      rw [show joinL [] (a :: b :: r) = a ++ ([] ++ joinL [] (b :: r)) from rfl, List.nil_append, ih]
      rfl
end Pi
end
section
set_option Elab.async false
set_option linter.all false
set_option maxRecDepth 100000
set_option maxHeartbeats 4000000
/-! Pi mathematics, part U: the last list of the store. -/
namespace Pi
open PySem PySem.Spec PyProof.Rows L2 TL
section
variable {S : Sto} {xs ys : List D} {y : D}
theorem last_get : (S ++ [L.lst xs])[S.length]? = some (L.lst xs) := by
  rw [List.getElem?_append_right (Nat.le_refl _), Nat.sub_self]
  rfl
theorem last_set : (S ++ [L.lst xs]).set S.length (L.lst ys) = S ++ [L.lst ys] := by
  rw [List.set_append_right _ _ (Nat.le_refl _), Nat.sub_self]
  rfl
theorem own_last : own (S ++ [L.lst xs]) (.loc S.length) = some (S.length, xs) := by
  show (match (S ++ [L.lst xs])[S.length]? with
    | some (L.lst xs) => some (S.length, xs)
    | _ => none) = _
  rw [last_get]
theorem getL_last : getL (S ++ [L.lst xs]) (.loc S.length) = some xs := by
  show (match (S ++ [L.lst xs])[S.length]? with
    | some (L.lst xs) => some xs
    | _ => none) = _
  rw [last_get]
theorem len_last : blt (S ++ [L.lst xs]) .len (.loc S.length) = some (.int xs.length) := by
  show (getLT (S ++ [L.lst xs]) (.loc S.length)).map (fun xs => D.int xs.length) = _
  rw [show getLT (S ++ [L.lst xs]) (.loc S.length) = getL (S ++ [L.lst xs]) (.loc S.length) from rfl, getL_last]
  rfl
end
theorem cut_m1 {α : Type} {xs : List α} {x : α} : cutL (xs ++ [x]) none (some (-1)) = xs := by
  unfold cutL
  rw [show HT.sIx (xs ++ [x]).length 0 none = 0 from rfl]
  have e : HT.sIx (xs ++ [x]).length (xs ++ [x]).length (some (-1)) = xs.length := by
    show (if (-1 : Int) < 0 then ((-1 : Int) + ((xs ++ [x]).length : Int)).toNat else min (-1 : Int).toNat (xs ++ [x]).length) = _
    rw [if_pos (by decide), List.length_append, List.length_singleton]
    omega
  rw [e, List.drop_zero, Nat.sub_zero, List.take_left]
theorem atI_m1 {α : Type} {xs : List α} {x : α} : L2.atI (xs ++ [x]) (-1) = some x := by
  have h : ixN (xs ++ [x]).length (-1) = some xs.length := by
    unfold ixN
    rw [if_neg (by decide), List.length_append, List.length_singleton]
    rw [if_pos (by omega)]
    congr 1
    omega
  unfold L2.atI
  rw [h]
  show (xs ++ [x])[xs.length]? = some x
  rw [List.getElem?_append_right (Nat.le_refl _), Nat.sub_self]
  rfl
end Pi
end
section
set_option Elab.async false
set_option linter.all false
set_option maxRecDepth 100000
set_option maxHeartbeats 0
namespace Cr
open Pi PySem
/-- bound -/
def b0 : C :=
 (.cons (.ite (.val (.cmp .gt (.var 1) (.lim (.var 0)))) (.cons (.raise "TooMany" (.cons (.var 0) .nil))
  .nil) .nil)
 .nil)
def d0 : Df := ⟨"bound", ["what", "number"], ["what", "number"], b0, true, none, []⟩
/-- row_sum -/
def b1 : C :=
 (.cons (.set 2 (.bin .mul (.int 7) (.var 0)))
 (.cons (.for (.two 3 4) (.enumS (.var 1)) (.cons (.set 2 (.bin .add (.var 2) (.bin .mul (.bin .add (.var 3) (.int 1)) (.blt .ord (.var 4)))))
  .nil))
 (.cons (.ret (.idx (.divm (.var 2) (.int 8191)) (.int 1)))
 .nil)))
def d1 : Df := ⟨"row_sum", ["number", "words"], ["number", "words", "total", "at", "sign"], b1, true, none, []⟩
/-- is_row -/
def b2 : C :=
 (.cons (.ite (.or (.cons (.val (.cmp .lt (.blt .len (.var 0)) (.int 1))) (.one (.val (.cmp .gt (.blt .len (.var 0)) (.lim (.str "signs"))))))) (.cons (.ret (.bl false))
  .nil) .nil)
 (.cons (.ret (.blt .all (.frz (.comp (.nm 1) (.str (.var 0)) .nil (.chain .le .le (.int 32) (.blt .ord (.var 1)) (.int 126)) [("sign", 1)]))))
 .nil))
def d2 : Df := ⟨"is_row", ["words"], ["words", "sign"], b2, true, none, []⟩
/-- log_line -/
def b3 : C :=
 (.cons (.exp (.call 0 (.cons (.str "signs") (.cons (.blt .len (.var 1)) .nil))))
 (.cons (.ite (.not (.val (.call 2 (.cons (.var 1) .nil)))) (.cons (.raise "BadDeed" (.cons (.str "words") .nil))
  .nil) .nil)
 (.cons (.ret (.bin .add (.bin .add (.bin .add (.bin .add (.bin .add (.bin .add (.bin .add (.blt .str (.var 0)) (.str " ")) (.blt .str (.blt .len (.var 1)))) (.str " ")) (.blt .str (.call 1 (.cons (.var 0) (.cons (.var 1) .nil))))) (.str " ")) (.var 1)) (.str "\n")))
 .nil)))
def d3 : Df := ⟨"log_line", ["number", "words"], ["number", "words"], b3, true, none, []⟩
/-- row_of -/
def b4 : C :=
 (.cons (.set 2 (.frz (.splitMax (.var 1) (.str " ") (.int 3))))
 (.cons (.ite (.or (.cons (.val (.cmp .lt (.blt .len (.var 2)) (.int 4))) (.one (.not (.val (.call 2 (.cons (.idx (.var 2) (.int 3)) .nil))))))) (.cons (.ret .non)
  .nil) .nil)
 (.cons (.ite (.val (.cmp .ne (.call 3 (.cons (.var 0) (.cons (.idx (.var 2) (.int 3)) .nil))) (.bin .add (.var 1) (.str "\n")))) (.cons (.ret .non)
  .nil) .nil)
 (.cons (.ret (.idx (.var 2) (.int 3)))
 .nil))))
def d4 : Df := ⟨"row_of", ["number", "line"], ["number", "line", "parts"], b4, true, none, []⟩
/-- recover_log -/
def b5 : C :=
 (.cons (.set 1 (.frz (.split (.var 0) (.str "\n"))))
 (.cons (.exp (.call 0 (.cons (.str "log") (.cons (.bin .sub (.blt .len (.var 1)) (.int 1)) .nil))))
 (.cons (.set 2 (.live (.lst .nil)))
 (.cons (.for (.nm 3) (.seq false (.frz (.slL (.var 1) .none (.some (.neg (.int 1)))))) (.cons (.set 4 (.call 4 (.cons (.bin .add (.blt .len (.var 2)) (.int 1)) (.cons (.var 3) .nil))))
  (.cons (.ite (.val (.isN (.var 4))) (.cons (.ret (.tup (.cons (.tupOf (.var 2)) (.cons (.tup (.cons (.str "spoilt") (.cons (.bin .add (.blt .len (.var 2)) (.int 1)) .nil))) .nil))))
   .nil) .nil)
  (.cons (.app (.var 2) (.var 4))
  .nil))))
 (.cons (.ite (.val (.cmp .ne (.idx (.var 1) (.neg (.int 1))) (.str ""))) (.cons (.ret (.tup (.cons (.tupOf (.var 2)) (.cons (.tup (.cons (.str "cut") (.cons (.bin .add (.blt .len (.var 2)) (.int 1)) .nil))) .nil))))
  .nil) .nil)
 (.cons (.ret (.tup (.cons (.tupOf (.var 2)) (.cons (.tup (.cons (.str "whole") .nil)) .nil))))
 .nil))))))
def d5 : Df := ⟨"recover_log", ["text"], ["text", "lines", "rows", "line", "words"], b5, true, none, []⟩
/-- with_item -/
def b6 : C :=
 (.cons (.set 2 (.get2 (.var 0) (.idx (.var 1) (.int 1)) (.str "")))
 (.cons (.ite (.val (.cmp .eq (.idx (.var 1) (.int 0)) (.str "put"))) (.cons (.setKy (.var 0) (.idx (.var 1) (.int 1)) (.bin .add (.var 2) (.idx (.var 1) (.int 2))))
  .nil) (.cons (.setKy (.var 0) (.idx (.var 1) (.int 1)) (.slS (.var 2) .none (.some (.idx (.var 1) (.int 2)))))
  .nil))
 .nil))
def d6 : Df := ⟨"with_item", ["files", "item"], ["files", "item", "text"], b6, false, none, []⟩
/-- _law_b_signs -/
def b7 : C :=
 (.cons (.ret (.str " !\"#$&'()*+,-./0123456789:;<=>?@ABCDEFGHIJKLMNOPQRSTUVWXYZ[\\]^_`abcdefghijklmnopqrstuvwxyz{|}~"))
 .nil)
def d7 : Df := ⟨"_law_b_signs", [], [], b7, true, none, []⟩
/-- _law_b_drawn_words -/
def b8 : C :=
 (.cons (.set 2 (.ite (.val (.cmp .eq (.call 13 (.cons (.var 0) (.cons (.int 4) .nil))) (.int 0))) (.str "0123456789  ") (.call 7 .nil)))
 (.cons (.ret (.join (.str "") (.frz (.comp (.nm 3) (.rng1 (.bin .add (.int 1) (.call 13 (.cons (.var 0) (.cons (.var 1) .nil))))) .nil (.idx (.var 2) (.call 13 (.cons (.var 0) (.cons (.blt .len (.var 2)) .nil)))) [("at", 3)]))))
 .nil))
def d8 : Df := ⟨"_law_b_drawn_words", ["source", "most"], ["source", "most", "signs", "at"], b8, false, none, []⟩
/-- _law_b_check -/
def b9 : C :=
 (.cons (.set 2 (.bin .mul (.int 7) (.var 0)))
 (.cons (.for (.nm 3) (.rng1 (.blt .len (.var 1))) (.cons (.aug 2 .add (.bin .mul (.bin .add (.var 3) (.int 1)) (.blt .ord (.idx (.var 1) (.var 3)))))
  .nil))
 (.cons (.ret (.bin .mod (.var 2) (.int 8191)))
 .nil)))
def d9 : Df := ⟨"_law_b_check", ["number", "words"], ["number", "words", "total", "at"], b9, true, none, []⟩
/-- _law_b_line -/
def b10 : C :=
 (.cons (.ret (.bin .add (.bin .add (.bin .add (.bin .add (.bin .add (.bin .add (.bin .add (.blt .str (.var 0)) (.str " ")) (.blt .str (.blt .len (.var 1)))) (.str " ")) (.blt .str (.call 9 (.cons (.var 0) (.cons (.var 1) .nil))))) (.str " ")) (.var 1)) (.str "\n")))
 .nil)
def d10 : Df := ⟨"_law_b_line", ["number", "words"], ["number", "words"], b10, true, none, []⟩
/-- _law_b_log -/
def b11 : C :=
 (.cons (.ret (.join (.str "") (.frz (.comp (.nm 1) (.rng1 (.blt .len (.var 0))) .nil (.call 10 (.cons (.bin .add (.var 1) (.int 1)) (.cons (.idx (.var 0) (.var 1)) .nil))) [("at", 1)]))))
 .nil)
def d11 : Df := ⟨"_law_b_log", ["rows"], ["rows", "at"], b11, true, none, []⟩
/-- _law_source -/
def b12 : C :=
 (.cons (.set 3 (.ite (.val (.cmp .lt (.var 1) (.blt .len (.var 0)))) (.blt .int (.idx (.var 0) (.var 1))) (.bin .add (.bin .mul (.int 37) (.blt .sum (.frz (.comp (.nm 2) (.seq false (.frz (.slL (.var 0) .none (.some (.int 6))))) .nil (.bin .mod (.blt .int (.var 2)) (.int 999961)) [("one", 2)])))) (.int 23))))
 (.cons (.set 4 (.bin .mod (.blt .abs (.var 3)) (.bin .mul (.bin .pow (.int 10) (.int 60)) (.bin .pow (.int 10) (.int 60)))))
 (.cons (.set 5 (.bin .mod (.blt .int (.bin .add (.bin .add (.bin .add (.bin .mul (.int 2) (.var 4)) (.ite (.val (.cmp .lt (.var 3) (.int 0))) (.int 1) (.int 0))) (.bin .mul (.var 1) (.int 120011))) (.int 80021))) (.int 2147483629)))
 (.cons (.ret (.live (.lst (.cons (.ite (.val (.cmp .ge (.var 4) (.bin .pow (.int 10) (.int 18)))) (.var 4) (.int 0)) (.cons (.bin .mod (.blt .int (.bin .mul (.bin .add (.var 5) (.int 6101)) (.bin .add (.var 5) (.int 90011)))) (.int 2147483629)) (.cons (.var 1) .nil))))))
 .nil))))
def d12 : Df := ⟨"_law_source", ["script", "at"], ["script", "at", "one", "cell", "size", "small"], b12, false, none, []⟩
/-- _law_pick -/
def b13 : C :=
 (.cons (.ite (.val (.cmp .gt (.idx (.var 0) (.int 0)) (.int 0))) (.cons (.set 2 (.bin .mod (.blt .int (.idx (.var 0) (.int 0))) (.var 1)))
  (.cons (.setIx (.var 0) (.int 0) (.bin .fdiv (.idx (.var 0) (.int 0)) (.var 1)))
  (.cons (.ret (.var 2))
  .nil))) .nil)
 (.cons (.augIx (.var 0) (.int 2) .add (.int 1))
 (.cons (.setIx (.var 0) (.int 1) (.bin .mod (.blt .int (.bin .add (.bin .mul (.idx (.var 0) (.int 1)) (.int 48271)) (.bin .mul (.idx (.var 0) (.int 2)) (.int 70001)))) (.int 2147483647)))
 (.cons (.ret (.bin .mod (.bin .fdiv (.bin .mod (.blt .int (.bin .add (.bin .mul (.idx (.var 0) (.int 1)) (.int 16807)) (.bin .mul (.idx (.var 0) (.int 2)) (.int 6301)))) (.int 2147483629)) (.int 8)) (.var 1)))
 .nil))))
def d13 : Df := ⟨"_law_pick", ["source", "many"], ["source", "many", "found"], b13, false, none, []⟩
/-- _law_same -/
def b14 : C :=
 (.cons (.ite (.or (.cons (.val (.isN (.var 1))) (.one (.val (.isN (.var 0)))))) (.cons (.ret (.and (.isN (.var 1)) (.isN (.var 0))))
  .nil) .nil)
 (.cons (.ite (.or (.cons (.val (.isi (.var 1) .bool)) (.one (.val (.isi (.var 0) .bool))))) (.cons (.ret (.and (.isi (.var 1) .bool) (.and (.isi (.var 0) .bool) (.cmp .eq (.var 0) (.var 1)))))
  .nil) .nil)
 (.cons (.ite (.val (.isi (.var 1) .int)) (.cons (.ret (.and (.isi (.var 0) .int) (.cmp .eq (.var 0) (.var 1))))
  .nil) .nil)
 (.cons (.ite (.val (.isi (.var 1) .str)) (.cons (.ret (.and (.isi (.var 0) .str) (.cmp .eq (.var 0) (.var 1))))
  .nil) .nil)
 (.cons (.ite (.val (.isi (.var 1) .dict)) .dead .nil)
 (.cons (.ite (.and (.cons (.val (.isi (.var 1) .tuple)) (.one (.not (.val (.isi (.var 0) .tuple)))))) (.cons (.ret (.bl false))
  .nil) .nil)
 (.cons (.ite (.and (.cons (.val (.isi (.var 1) .list)) (.one (.not (.val (.isi (.var 0) .list)))))) (.cons (.ret (.bl false))
  .nil) .nil)
 (.cons (.ite (.val (.cmp .ne (.blt .len (.var 0)) (.blt .len (.var 1)))) (.cons (.ret (.bl false))
  .nil) .nil)
 (.cons (.ret (.blt .all (.frz (.comp (.nm 3) (.rng1 (.blt .len (.var 1))) .nil (.call 14 (.cons (.idx (.var 0) (.var 3)) (.cons (.idx (.var 1) (.var 3)) .nil))) [("at", 3)]))))
 .nil)))))))))
def d14 : Df := ⟨"_law_same", ["answer", "due"], ["answer", "due", "key", "at"], b14, true, none, []⟩
/-- _law_b_stored -/
def b15 : C :=
 (.cons (.noneFault (.cons (.set 1 (.new "Store" ["own_disk", "own_rows"] 27 (.cons (.var 0) .nil)))
  .nil) 2)
 (.cons (.ret (.tup (.cons (.var 1) (.cons .non .nil))))
 .nil))
def d15 : Df := ⟨"_law_b_stored", ["disk"], ["disk", "store", "e"], b15, false, none, []⟩
/-- _law_b_spot -/
def b16 : C :=
 (.cons (.set 2 (.bin .add (.int 1) (.call 13 (.cons (.var 0) (.cons (.blt .len (.var 1)) .nil)))))
 (.cons (.set 3 (.call 10 (.cons (.var 2) (.cons (.idx (.var 1) (.bin .sub (.var 2) (.int 1))) .nil))))
 (.cons (.set 4 (.bin .sub (.bin .sub (.blt .len (.var 3)) (.blt .len (.idx (.var 1) (.bin .sub (.var 2) (.int 1))))) (.int 1)))
 (.cons (.set 5 (.call 13 (.cons (.var 0) (.cons (.int 6) .nil))))
 (.cons (.ite (.val (.cmp .lt (.var 5) (.int 2))) (.cons (.ret (.tup (.cons (.var 2) (.cons (.call 13 (.cons (.var 0) (.cons (.var 4) .nil))) .nil))))
  .nil) .nil)
 (.cons (.ite (.val (.cmp .eq (.var 5) (.int 2))) (.cons (.setc 7 (.frz (.comp (.nm 6) (.rng1 (.var 4)) (.one (.val (.cmp .eq (.idx (.var 3) (.var 6)) (.str " ")))) (.var 6) [("at", 6)])))
  (.cons (.ret (.tup (.cons (.var 2) (.cons (.idx (.var 7) (.call 13 (.cons (.var 0) (.cons (.int 3) .nil)))) .nil))))
  .nil)) .nil)
 (.cons (.ret (.tup (.cons (.var 2) (.cons (.ite (.val (.cmp .eq (.var 5) (.int 3))) (.bin .sub (.blt .len (.var 3)) (.int 1)) (.call 13 (.cons (.var 0) (.cons (.blt .len (.var 3)) .nil)))) .nil))))
 .nil)))))))
def d16 : Df := ⟨"_law_b_spot", ["source", "rows"], ["source", "rows", "number", "line", "head", "way", "at", "spaces"], b16, false, none, []⟩
/-- _law_b_other -/
def b17 : C :=
 (.cons (.set 2 (.call 13 (.cons (.var 0) (.cons (.int 5) .nil))))
 (.cons (.set 3 (.idx (.frz (.lst (.cons (.str "0123456789") (.cons (.str " ") (.cons (.str "\n") (.cons (.str "\t") (.cons (.call 7 .nil) .nil))))))) (.var 2)))
 (.cons (.set 4 (.idx (.var 3) (.call 13 (.cons (.var 0) (.cons (.blt .len (.var 3)) .nil)))))
 (.cons (.ret (.ite (.val (.cmp .ne (.var 4) (.var 1))) (.var 4) (.ite (.val (.cmp .ne (.var 1) (.str "7"))) (.str "7") (.str " "))))
 .nil))))
def d17 : Df := ⟨"_law_b_other", ["source", "sign"], ["source", "sign", "way", "menu", "found"], b17, false, none, []⟩
/-- _law_b_kept -/
def b18 : C :=
 (.cons (.set 4 (.new "Disk" ["own_power", "own_synced", "own_files", "own_items"] 20 (.cons .non .nil)))
 (.cons (.exp (.meth "Disk" ["own_power", "own_synced", "own_files", "own_items"] (.var 4) 22 (.cons (.str "log") (.cons (.var 1) .nil))))
 (.cons (.exp (.meth "Disk" ["own_power", "own_synced", "own_files", "own_items"] (.var 4) 24 .nil))
 (.cons (.two 5 6 (.call 15 (.cons (.var 4) .nil)))
 (.cons (.ite (.val (.cmp .eq (.idx (.var 3) (.int 0)) (.str "spoilt"))) (.cons (.ret (.call 14 (.cons (.frz (.lst (.cons (.var 6) (.cons (.meth "Disk" ["own_power", "own_synced", "own_files", "own_items"] (.var 4) 25 (.cons (.str "log") .nil)) (.cons (.meth "Disk" ["own_power", "own_synced", "own_files", "own_items"] (.var 4) 26 .nil) .nil))))) (.cons (.frz (.lst (.cons (.tup (.cons (.str "BadDisk") (.cons (.idx (.var 3) (.int 1)) .nil))) (.cons (.var 1) (.cons (.int 0) .nil))))) .nil))))
  .nil) .nil)
 (.cons (.ite (.or (.cons (.val (.notN (.var 6))) (.one (.not (.val (.call 14 (.cons (.frz (.lst (.cons (.meth "Store" ["own_disk", "own_rows"] (.var 5) 29 .nil) (.cons (.meth "Disk" ["own_power", "own_synced", "own_files", "own_items"] (.var 4) 25 (.cons (.str "log") .nil)) .nil)))) (.cons (.frz (.lst (.cons (.frz (.listOf (.var 2))) (.cons (.call 11 (.cons (.var 2) .nil)) .nil)))) .nil)))))))) (.cons (.ret (.bl false))
  .nil) .nil)
 (.cons (.set 7 (.call 8 (.cons (.var 0) (.cons (.int 9) .nil))))
 (.cons (.set 8 (.meth "Store" ["own_disk", "own_rows"] (.var 5) 28 (.cons (.var 7) .nil)))
 (.cons (.set 9 (.frz (.cat (.frz (.listOf (.var 2))) (.frz (.lst (.cons (.var 7) .nil))))))
 (.cons (.app (.meth "Store" ["own_disk", "own_rows"] (.var 5) 29 .nil) (.str "x"))
 (.cons (.ret (.and (.isN (.var 8)) (.call 14 (.cons (.frz (.lst (.cons (.meth "Store" ["own_disk", "own_rows"] (.var 5) 29 .nil) (.cons (.meth "Disk" ["own_power", "own_synced", "own_files", "own_items"] (.var 4) 25 (.cons (.str "log") .nil)) (.cons (.meth "Disk" ["own_power", "own_synced", "own_files", "own_items"] (.var 4) 26 .nil) .nil))))) (.cons (.frz (.lst (.cons (.var 9) (.cons (.call 11 (.cons (.var 9) .nil)) (.cons (.int 0) .nil))))) .nil)))))
 .nil)))))))))))
def d18 : Df := ⟨"_law_b_kept", ["source", "text", "rows", "state"], ["source", "text", "rows", "state", "disk", "store", "raised", "words", "told", "kept"], b18, true, none, []⟩
/-- law -/
def b19 : C :=
 (.cons (.set 1 (.call 12 (.cons (.var 0) (.cons (.int 0) .nil))))
 (.cons (.setc 3 (.frz (.comp (.nm 2) (.rng1 (.bin .add (.int 1) (.call 13 (.cons (.var 1) (.cons (.int 6) .nil))))) .nil (.call 8 (.cons (.var 1) (.cons (.int 12) .nil))) [("at", 2)])))
 (.cons (.set 4 (.call 11 (.cons (.var 3) .nil)))
 (.cons (.for (.nm 5) (.rng1 (.int 12)) (.cons (.two 6 7 (.call 16 (.cons (.var 1) (.cons (.var 3) .nil))))
  (.cons (.set 8 (.blt .len (.call 11 (.cons (.frz (.slL (.var 3) .none (.some (.bin .sub (.var 6) (.int 1))))) .nil))))
  (.cons (.set 2 (.bin .add (.var 8) (.var 7)))
  (.cons (.set 9 (.bin .add (.bin .add (.slS (.var 4) .none (.some (.var 2))) (.call 17 (.cons (.var 1) (.cons (.idx (.var 4) (.var 2)) .nil)))) (.slS (.var 4) (.some (.bin .add (.var 2) (.int 1))) .none)))
  (.cons (.set 10 (.ite (.val (.cmp .inn (.str "\n") (.slS (.var 9) (.some (.var 8)) .none))) (.tup (.cons (.str "spoilt") (.cons (.var 6) .nil))) (.tup (.cons (.str "cut") (.cons (.var 6) .nil)))))
  (.cons (.ite (.not (.val (.call 14 (.cons (.call 5 (.cons (.var 9) .nil)) (.cons (.tup (.cons (.tupOf (.frz (.slL (.var 3) .none (.some (.bin .sub (.var 6) (.int 1)))))) (.cons (.var 10) .nil))) .nil))))) (.cons (.ret (.bl false))
   .nil) .nil)
  (.cons (.ite (.and (.cons (.val (.cmp .lt (.var 5) (.int 4))) (.one (.not (.val (.call 18 (.cons (.var 1) (.cons (.var 9) (.cons (.frz (.slL (.var 3) .none (.some (.bin .sub (.var 6) (.int 1))))) (.cons (.var 10) .nil)))))))))) (.cons (.ret (.bl false))
   .nil) .nil)
  .nil))))))))
 (.cons (.ret (.and (.call 14 (.cons (.call 5 (.cons (.var 4) .nil)) (.cons (.tup (.cons (.tupOf (.var 3)) (.cons (.tup (.cons (.str "whole") .nil)) .nil))) .nil))) (.call 18 (.cons (.var 1) (.cons (.var 4) (.cons (.var 3) (.cons (.tup (.cons (.str "whole") .nil)) .nil)))))))
 .nil)))))
def d19 : Df := ⟨"law", ["script"], ["script", "source", "at", "rows", "text", "turn", "number", "place", "start", "changed", "state"], b19, true, none, []⟩
/-- Disk.__init__ -/
def b20 : C :=
 (.cons (.setFd (.var 0) "own_power" (.var 1))
 (.cons (.setFd (.var 0) "own_synced" (.dnil false))
 (.cons (.setFd (.var 0) "own_files" (.dnil true))
 (.cons (.setFd (.var 0) "own_items" (.live (.lst .nil)))
 .nil))))
def d20 : Df := ⟨"Disk", ["self", "power"], ["self", "power"], b20, false, some "__init__", ["own_power", "own_synced", "own_files", "own_items"]⟩
/-- Disk.spend -/
def b21 : C :=
 (.cons (.ite (.val (.isN (.fld (.var 0) "own_power"))) (.cons .retN
  .nil) .nil)
 (.cons (.ite (.val (.cmp .eq (.fld (.var 0) "own_power") (.int 0))) (.cons (.raise "BadDisk" (.cons (.int 0) .nil))
  .nil) .nil)
 (.cons .dead
 .nil)))
def d21 : Df := ⟨"Disk", ["self"], ["self"], b21, false, some "spend", ["own_power", "own_synced", "own_files", "own_items"]⟩
/-- Disk.write_to -/
def b22 : C :=
 (.cons (.for (.nm 3) (.str (.var 2)) (.cons (.exp (.meth "Disk" ["own_power", "own_synced", "own_files", "own_items"] (.var 0) 21 .nil))
  (.cons (.app (.fld (.var 0) "own_items") (.tup (.cons (.str "put") (.cons (.var 1) (.cons (.var 3) .nil)))))
  (.cons (.exp (.call 6 (.cons (.fld (.var 0) "own_files") (.cons (.tup (.cons (.str "put") (.cons (.var 1) (.cons (.var 3) .nil)))) .nil))))
  .nil))))
 .nil)
def d22 : Df := ⟨"Disk", ["self", "file", "text"], ["self", "file", "text", "sign"], b22, false, some "write_to", ["own_power", "own_synced", "own_files", "own_items"]⟩
/-- Disk.trim -/
def b23 : C :=
 (.cons (.exp (.meth "Disk" ["own_power", "own_synced", "own_files", "own_items"] (.var 0) 21 .nil))
 (.cons (.app (.fld (.var 0) "own_items") (.tup (.cons (.str "trim") (.cons (.var 1) (.cons (.var 2) .nil)))))
 (.cons (.exp (.call 6 (.cons (.fld (.var 0) "own_files") (.cons (.tup (.cons (.str "trim") (.cons (.var 1) (.cons (.var 2) .nil)))) .nil))))
 .nil)))
def d23 : Df := ⟨"Disk", ["self", "file", "signs"], ["self", "file", "signs"], b23, false, some "trim", ["own_power", "own_synced", "own_files", "own_items"]⟩
/-- Disk.sync -/
def b24 : C :=
 (.cons (.exp (.meth "Disk" ["own_power", "own_synced", "own_files", "own_items"] (.var 0) 21 .nil))
 (.cons (.setFd (.var 0) "own_synced" (.dcopy false 0 1 "own_files"))
 (.cons (.setFd (.var 0) "own_items" (.live (.lst .nil)))
 .nil)))
def d24 : Df := ⟨"Disk", ["self"], ["self", "file"], b24, false, some "sync", ["own_power", "own_synced", "own_files", "own_items"]⟩
/-- Disk.read_from -/
def b25 : C :=
 (.cons (.ret (.get2 (.fld (.var 0) "own_files") (.var 1) (.str "")))
 .nil)
def d25 : Df := ⟨"Disk", ["self", "file"], ["self", "file"], b25, false, some "read_from", ["own_power", "own_synced", "own_files", "own_items"]⟩
/-- Disk.waiting -/
def b26 : C :=
 (.cons (.ret (.blt .len (.fld (.var 0) "own_items")))
 .nil)
def d26 : Df := ⟨"Disk", ["self"], ["self"], b26, false, some "waiting", ["own_power", "own_synced", "own_files", "own_items"]⟩
/-- Store.__init__ -/
def b27 : C :=
 (.cons (.set 2 (.meth "Disk" ["own_power", "own_synced", "own_files", "own_items"] (.var 1) 25 (.cons (.str "log") .nil)))
 (.cons (.two 3 4 (.call 5 (.cons (.var 2) .nil)))
 (.cons (.ite (.val (.cmp .eq (.idx (.var 4) (.int 0)) (.str "spoilt"))) (.cons (.raise "BadDisk" (.cons (.idx (.var 4) (.int 1)) .nil))
  .nil) .nil)
 (.cons (.ite (.val (.cmp .eq (.idx (.var 4) (.int 0)) (.str "cut"))) (.cons (.exp (.meth "Disk" ["own_power", "own_synced", "own_files", "own_items"] (.var 1) 23 (.cons (.str "log") (.cons (.bin .add (.mt1 .rfind (.var 2) (.str "\n")) (.int 1)) .nil))))
  (.cons (.exp (.meth "Disk" ["own_power", "own_synced", "own_files", "own_items"] (.var 1) 24 .nil))
  .nil)) .nil)
 (.cons (.setFd (.var 0) "own_disk" (.var 1))
 (.cons (.setFd (.var 0) "own_rows" (.live (.listOf (.var 3))))
 .nil))))))
def d27 : Df := ⟨"Store", ["self", "disk"], ["self", "disk", "text", "rows", "state"], b27, false, some "__init__", ["own_disk", "own_rows"]⟩
/-- Store.add_row -/
def b28 : C :=
 (.cons (.exp (.call 0 (.cons (.str "log") (.cons (.bin .add (.blt .len (.fld (.var 0) "own_rows")) (.int 1)) .nil))))
 (.cons (.set 2 (.call 3 (.cons (.bin .add (.blt .len (.fld (.var 0) "own_rows")) (.int 1)) (.cons (.var 1) .nil))))
 (.cons (.exp (.meth "Disk" ["own_power", "own_synced", "own_files", "own_items"] (.fld (.var 0) "own_disk") 22 (.cons (.str "log") (.cons (.var 2) .nil))))
 (.cons (.exp (.meth "Disk" ["own_power", "own_synced", "own_files", "own_items"] (.fld (.var 0) "own_disk") 24 .nil))
 (.cons (.app (.fld (.var 0) "own_rows") (.var 1))
 .nil)))))
def d28 : Df := ⟨"Store", ["self", "words"], ["self", "words", "line"], b28, false, some "add_row", ["own_disk", "own_rows"]⟩
/-- Store.rows -/
def b29 : C :=
 (.cons (.ret (.live (.listOf (.fld (.var 0) "own_rows"))))
 .nil)
def d29 : Df := ⟨"Store", ["self"], ["self"], b29, false, some "rows", ["own_disk", "own_rows"]⟩
def P : List Df := [d0, d1, d2, d3, d4, d5, d6, d7, d8, d9, d10, d11, d12, d13, d14, d15, d16, d17, d18, d19, d20, d21, d22, d23, d24, d25, d26, d27, d28, d29]
end Cr

namespace Hd
open PySem PySem.Spec PyProof.Rows L2 Pi
def top (i : Nat) : Stmt := PySem.Challenge.pw_highenough_k83_one_sign_of_a_log_changed.main.body.getD i (.Pass ⟨0, 0, 0, 0⟩)
def dOf (x : PySem.Str) (i : Nat) : He.DefD := ⟨(x, none), x, x, defArgs (top i), defBody (top i), defScope (top i), [], []⟩
def iniOf : Stmt → Stmt
  | .ClassDef _ _ _ (s :: _) _ _ _ _ _ _ _ => s
  | s => s
def dI0 (c : PySem.Str) (q : PySem.Str) (i : Nat) : He.DefD := ⟨(c, some "__init__"), "__init__", q, defArgs (iniOf (top i)), defBody (iniOf (top i)), defScope (iniOf (top i)), [], []⟩
def metOf (j : Nat) : Stmt → Stmt
  | .ClassDef _ _ _ b _ _ _ _ _ _ _ => b.getD j (.Pass ⟨0, 0, 0, 0⟩)
  | s => s
def dM (c : PySem.Str) (m : PySem.Str) (q : PySem.Str) (i j : Nat) : He.DefD := ⟨(c, some m), m, q, defArgs (metOf j (top i)), defBody (metOf j (top i)), defScope (metOf j (top i)), [], []⟩
def ds : List He.DefD := [dOf "bound" 15, dOf "row_sum" 17, dOf "is_row" 18, dOf "log_line" 19, dOf "row_of" 20, dOf "recover_log" 21, dOf "with_item" 23, dOf "_law_b_signs" 28, dOf "_law_b_drawn_words" 29, dOf "_law_b_check" 30, dOf "_law_b_line" 31, dOf "_law_b_log" 32, dOf "_law_source" 33, dOf "_law_pick" 34, dOf "_law_same" 35, dOf "_law_b_stored" 37, dOf "_law_b_spot" 38, dOf "_law_b_other" 39, dOf "_law_b_kept" 40, dOf "law" 41, dM "Disk" "__init__" "Disk.__init__" 24 0, dM "Disk" "spend" "Disk.spend" 24 1, dM "Disk" "write_to" "Disk.write_to" 24 2, dM "Disk" "trim" "Disk.trim" 24 3, dM "Disk" "sync" "Disk.sync" 24 4, dM "Disk" "read_from" "Disk.read_from" 24 5, dM "Disk" "waiting" "Disk.waiting" 24 6, dM "Store" "__init__" "Store.__init__" 26 0, dM "Store" "add_row" "Store.add_row" 26 1, dM "Store" "rows" "Store.rows" 26 2]
def dF : He.DefD := dOf "_law_fault" 36
def dIs : List He.DefD := [dI0 "TooMany" "TooMany.__init__" 3, dI0 "BadText" "BadText.__init__" 4, dI0 "BadPlant" "BadPlant.__init__" 5, dI0 "BadCode" "BadCode.__init__" 6, dI0 "BadMove" "BadMove.__init__" 7, dI0 "BadTrace" "BadTrace.__init__" 8, dI0 "BadPaper" "BadPaper.__init__" 9, dI0 "BadSeats" "BadSeats.__init__" 10, dI0 "BadDisk" "BadDisk.__init__" 11, dI0 "BadDeed" "BadDeed.__init__" 12]
def dI (c : PySem.Str) : He.DefD := (dIs.find? fun d => decide (d.at_.1 = c)).getD dF
def fn : List He.DefD := ds ++ (dF :: dIs)
abbrev R : PySem.W.OpenRow := PySem.W.OpenLaw.row PySem.Challenge.rw_highenough_k83_one_sign_of_a_log_changed
abbrev hk : PySem.W.Hook := hookP 5 (faOf Cr.P) fn
def ob (s : PySem.W.SharedT) : AlP := obsP 5 (faOf Cr.P) fn (HandSHeadRun.getT s)
theorem ob_eq (s : PySem.W.SharedT) : ob s = hk.obs s.abs := obsP_eq (HandSHeadRun.getT_eq s)
def loose0 : List PySem.Str := ["_wall", "HighError", "TooMany", "BadText", "BadPlant", "BadCode", "BadMove", "BadTrace", "BadPaper", "BadSeats", "BadDisk", "BadDeed", "LIMITS", "bound", "row_sum", "is_row", "log_line", "row_of", "recover_log", "with_item", "Disk", "Store", "_law_b_signs", "_law_b_drawn_words", "_law_b_check", "_law_b_line", "_law_b_log", "_law_source", "_law_pick", "_law_same"]
def loose1 : List PySem.Str := ["_law_fault", "_law_b_stored", "_law_b_spot", "_law_b_other", "_law_b_kept"]
def loose : List PySem.Str := loose0 ++ loose1
theorem m0 : ds.length = Cr.P.length := rfl
theorem m1 : ((Cr.P.zip ds).all fun q => defB Cr.P q.1 q.2) = true := by kernel_rfl
theorem m2 : fltB dF = true := by kernel_rfl
theorem m3 : (errNames.all fun c => iniB c (dI c)) = true := by kernel_rfl
theorem m4a : (errNames.all fun c => (dIs.find? fun d => decide (d.at_.1 = c)).isSome) = true := by kernel_rfl
theorem m4 : ∀ c ∈ errNames, dI c ∈ fn := fun c hc => by
  have h := List.all_eq_true.mp m4a c hc
  obtain ⟨d, hd⟩ := Option.isSome_iff_exists.mp h
  unfold dI
  rw [hd]
  exact List.mem_append_right _ (List.mem_cons_of_mem _ (List.mem_of_find?_eq_some hd))
theorem m5 : ∀ c ∈ errNames, iniB c (dI c) = true := List.all_eq_true.mp m3
theorem gok {PP : Program} {w : World} {K : Fg} {mg : PySem.Str → Option Value} {base h : Heap} (X : K.In h) (G : h.Ns mainGlobals mg) (c : SaysP (faOf Cr.P) fn w K) : Gok PP w K mg base Cr.P :=
  gok_of (gf_of X G c) m0 m1 (fun d hd => List.mem_append_left _ hd) m2 (List.mem_append_right _ List.mem_cons_self) dI m5 m4
end Hd
end
section
set_option Elab.async false
set_option linter.all false
set_option maxRecDepth 100000
set_option maxHeartbeats 0
namespace Hd
open PySem PySem.Spec PyProof.Rows L2 Pi
theorem run0 (w : World) : HandSHeadRun.RunEq R (PySem.W.view R.prog [41]) hk ob 8000 loose (w.withFollow "special-get-raises" false) := by
  intro os
  kernel_rfl
theorem run1 (w : World) : HandSHeadRun.RunEq R (PySem.W.view R.prog [41]) hk ob 8000 loose (w.withFollow "special-get-raises" true) := by
  intro os
  kernel_rfl
theorem run (w : World) : HandSHeadRun.RunEq R (PySem.W.view R.prog [41]) hk ob 8000 loose w :=
  PySem.W.byRow2 "special-get-raises" (P := fun w => HandSHeadRun.RunEq R (PySem.W.view R.prog [41]) hk ob 8000 loose w) run0 run1 w
end Hd
end
section
set_option Elab.async false
set_option linter.all false
set_option maxRecDepth 100000
set_option maxHeartbeats 4000000
set_option exponentiation.threshold 4000
namespace Ma
open Pi PySem PySem.Spec PyProof.Rows TL
theorem bound_ok {k : Nat} {w : Str} {n L : Int} {S : Sto} (hL : limits.lookup w = some L) (h : n ≤ L) : run Cr.P (k + 1) 0 [.str w, .int n] S = .ok .non S := by
  rw [run_eq (df := Cr.d0) rfl rfl]
  have e : ¬ (L < n) := by omega
  simp only [Cr.d0, Cr.b0, evE_var, evE_int, evE_str, evE_bl, evE_non, evE_bin, evE_neg, evE_cmp, evE_isN, evE_notN, evE_chain, evE_and, evE_or, evE_not, evE_ite, evE_tup, evE_frz, evE_live, evE_call, evE_dead, evE_lim, evE_blt, evE_isi, evE_divm, evE_tupOf, evE_idx, evE_slS, evE_join, evE_mt1, evE_fld, evE_meth, evE_new, evE_dnil, evE_get2, evE_dcopy, evO_none, evO_some, evEs_nil, evEs_cons, evT_val, evT_tru, evT_and, evT_or, evT_not, evAnd_one, evAnd_cons, evOr_one, evOr_cons, evF_lst, evF_comp, evF_listOf, evF_listRng, evF_cat, evF_rep, evF_slL, evF_split, evF_splitMax, evC_nil, evC_one, evI_seq_true, evI_seq_false, evI_str, evI_rng1, evI_rng2, evI_enumL, evI_enumS, exC_pass, exC_dead, exC_nil, exC_cons, exC_exp, exC_app, exC_set, exC_setc, exC_aug, exC_setIx, exC_setKy, exC_setFd, exC_noneFault, exC_augIx, exC_two, exC_ret, exC_retN, exC_ite, exC_for, exC_while, exC_brk, exC_cnt, exC_raise, exC_fault, bind_ok, bind_exc, of_some, st_ok, st_exc, then_nx, then_ret, then_exc, then_bk, then_ct, start_eq, List.map_cons, List.map_nil, List.length_cons, List.length_nil, List.cons_append, List.nil_append, List.replicate, List.getElem?_cons_zero, List.getElem?_cons_succ, List.set_cons_zero, List.set_cons_succ, Option.map_some, Nat.reduceAdd, Nat.reduceSub, Nat.zero_add, limD, hL, cop, e, decide_false, if_false, Bool.false_eq_true]
  exact fin_nx
theorem bound_exc {k : Nat} {w : Str} {n L : Int} {S : Sto} (hL : limits.lookup w = some L) (h : L < n) (hw : w.length ≤ 1000000) : run Cr.P (k + 1) 0 [.str w, .int n] S = .exc "TooMany" [.str w] S := by
  rw [run_eq (df := Cr.d0) rfl rfl]
  have e : excOk "TooMany" [D.str w] = true := by
    show (true && decide (w.length ≤ 1000000)) = true
    rw [decide_eq_true hw] <;> rfl
  simp only [Cr.d0, Cr.b0, evE_var, evE_int, evE_str, evE_bl, evE_non, evE_bin, evE_neg, evE_cmp, evE_isN, evE_notN, evE_chain, evE_and, evE_or, evE_not, evE_ite, evE_tup, evE_frz, evE_live, evE_call, evE_dead, evE_lim, evE_blt, evE_isi, evE_divm, evE_tupOf, evE_idx, evE_slS, evE_join, evE_mt1, evE_fld, evE_meth, evE_new, evE_dnil, evE_get2, evE_dcopy, evO_none, evO_some, evEs_nil, evEs_cons, evT_val, evT_tru, evT_and, evT_or, evT_not, evAnd_one, evAnd_cons, evOr_one, evOr_cons, evF_lst, evF_comp, evF_listOf, evF_listRng, evF_cat, evF_rep, evF_slL, evF_split, evF_splitMax, evC_nil, evC_one, evI_seq_true, evI_seq_false, evI_str, evI_rng1, evI_rng2, evI_enumL, evI_enumS, exC_pass, exC_dead, exC_nil, exC_cons, exC_exp, exC_app, exC_set, exC_setc, exC_aug, exC_setIx, exC_setKy, exC_setFd, exC_noneFault, exC_augIx, exC_two, exC_ret, exC_retN, exC_ite, exC_for, exC_while, exC_brk, exC_cnt, exC_raise, exC_fault, bind_ok, bind_exc, of_some, st_ok, st_exc, then_nx, then_ret, then_exc, then_bk, then_ct, start_eq, List.map_cons, List.map_nil, List.length_cons, List.length_nil, List.cons_append, List.nil_append, List.replicate, List.getElem?_cons_zero, List.getElem?_cons_succ, List.set_cons_zero, List.set_cons_succ, Option.map_some, Nat.reduceAdd, Nat.reduceSub, Nat.zero_add, limD, hL, cop, h, decide_true, if_true, e]
  exact fin_exc rfl
theorem row_loop {cl : Nat → List D → Sto → R D} {a b : Option D} {s : Src} {S : Sto} (ho : okS s S) : ∀ (l : List Nat) (i t : Nat) (x y : Option D), i + l.length ≤ 100000000 → (∀ c ∈ l, c < 2 ^ 40) →
    ∃ x' y', forL (forB cl (.two 3 4) (.cons (.set 2 (.bin .add (.var 2) (.bin .mul (.bin .add (.var 3) (.int 1)) (.blt .ord (.var 4))))) .nil)) s (enumD i (l.map sgn1)) [a, b, some (.int (t : Int)), x, y] S =
      .nx [a, b, some (.int ((t + wsum i l : Nat) : Int)), x', y'] S
  | [], i, t, x, y, _, _ => ⟨x, y, by rw [List.map_nil, enumD, forL_nil]; rfl⟩
  | c :: l, i, t, x, y, hi, hc => by
    rw [List.length_cons] at hi
    have hcc := hc c List.mem_cons_self
    obtain ⟨x', y', ih⟩ := row_loop (cl := cl) (a := a) (b := b) ho l (i + 1) (t + (i + 1) * c) (some (.int (i : Int))) (some (sgn1 c)) (by omega) fun d hd => hc d (List.mem_cons_of_mem _ hd)
    refine ⟨x', y', ?_⟩
    rw [List.map_cons, enumD]
    have hm : bop .mul (.int ((i : Int) + 1)) (.int (c : Int)) = some (.int (((i : Int) + 1) * c)) := mulI (by omega) (by omega)
    refine (forL_nx (τ' := [a, b, some (.int ((t + (i + 1) * c : Nat) : Int)), some (.int (i : Int)), some (sgn1 c)]) (S' := S) ?_ ho).trans ?_
    · simp only [forB_eq, setT, evE_var, evE_int, evE_str, evE_bl, evE_non, evE_bin, evE_neg, evE_cmp, evE_isN, evE_notN, evE_chain, evE_and, evE_or, evE_not, evE_ite, evE_tup, evE_frz, evE_live, evE_call, evE_dead, evE_lim, evE_blt, evE_isi, evE_divm, evE_tupOf, evE_idx, evE_slS, evE_join, evE_mt1, evE_fld, evE_meth, evE_new, evE_dnil, evE_get2, evE_dcopy, evO_none, evO_some, evEs_nil, evEs_cons, evT_val, evT_tru, evT_and, evT_or, evT_not, evAnd_one, evAnd_cons, evOr_one, evOr_cons, evF_lst, evF_comp, evF_listOf, evF_listRng, evF_cat, evF_rep, evF_slL, evF_split, evF_splitMax, evC_nil, evC_one, evI_seq_true, evI_seq_false, evI_str, evI_rng1, evI_rng2, evI_enumL, evI_enumS, exC_pass, exC_dead, exC_nil, exC_cons, exC_exp, exC_app, exC_set, exC_setc, exC_aug, exC_setIx, exC_setKy, exC_setFd, exC_noneFault, exC_augIx, exC_two, exC_ret, exC_retN, exC_ite, exC_for, exC_while, exC_brk, exC_cnt, exC_raise, exC_fault, bind_ok, bind_exc, of_some, st_ok, st_exc, then_nx, then_ret, then_exc, then_bk, then_ct, start_eq, List.map_cons, List.map_nil, List.length_cons, List.length_nil, List.cons_append, List.nil_append, List.replicate, List.getElem?_cons_zero, List.getElem?_cons_succ, List.set_cons_zero, List.set_cons_succ, Option.map_some, Nat.reduceAdd, Nat.reduceSub, Nat.zero_add, sgn1, addI, ordS, hm]
      rw [show ((t : Int) + ((i : Int) + 1) * (c : Int)) = ((t + (i + 1) * c : Nat) : Int) from by push_cast; rfl]
    · rw [ih, show wsum i (c :: l) = (i + 1) * c + wsum (i + 1) l from rfl, Nat.add_assoc]
theorem divm_mod {t : Nat} : (((t : Nat) : Int) % 8191) = ((t % 8191 : Nat) : Int) := by push_cast; rfl
theorem row_sum_ok {k : Nat} {n : Nat} {l : List Nat} {S : Sto} (hn : n < 2 ^ 500) (hl : l.length ≤ 10000000) (hc : ∀ c ∈ l, c < 2 ^ 40) : run Cr.P (k + 1) 1 [.int (n : Int), .str (W l)] S = .ok (.int (rsN n l : Nat)) S := by
  rw [run_eq (df := Cr.d1) rfl rfl]
  have hm : bop .mul (.int 7) (.int (n : Int)) = some (.int ((7 * n : Nat) : Int)) := by
    rw [mulI (by decide) (by omega)]
    push_cast
    rfl
  obtain ⟨x, y, e⟩ := row_loop (cl := run Cr.P k) (a := some (.int (n : Int))) (b := some (.str (W l))) (s := ⟨enumD 0 (l.map sgn1), none, []⟩) (S := S) True.intro l 0 (7 * n) none none (by omega) hc
  simp only [Cr.d1, Cr.b1, evE_var, evE_int, evE_str, evE_bl, evE_non, evE_bin, evE_neg, evE_cmp, evE_isN, evE_notN, evE_chain, evE_and, evE_or, evE_not, evE_ite, evE_tup, evE_frz, evE_live, evE_call, evE_dead, evE_lim, evE_blt, evE_isi, evE_divm, evE_tupOf, evE_idx, evE_slS, evE_join, evE_mt1, evE_fld, evE_meth, evE_new, evE_dnil, evE_get2, evE_dcopy, evO_none, evO_some, evEs_nil, evEs_cons, evT_val, evT_tru, evT_and, evT_or, evT_not, evAnd_one, evAnd_cons, evOr_one, evOr_cons, evF_lst, evF_comp, evF_listOf, evF_listRng, evF_cat, evF_rep, evF_slL, evF_split, evF_splitMax, evC_nil, evC_one, evI_seq_true, evI_seq_false, evI_str, evI_rng1, evI_rng2, evI_enumL, evI_enumS, exC_pass, exC_dead, exC_nil, exC_cons, exC_exp, exC_app, exC_set, exC_setc, exC_aug, exC_setIx, exC_setKy, exC_setFd, exC_noneFault, exC_augIx, exC_two, exC_ret, exC_retN, exC_ite, exC_for, exC_while, exC_brk, exC_cnt, exC_raise, exC_fault, bind_ok, bind_exc, of_some, st_ok, st_exc, then_nx, then_ret, then_exc, then_bk, then_ct, start_eq, List.map_cons, List.map_nil, List.length_cons, List.length_nil, List.cons_append, List.nil_append, List.replicate, List.getElem?_cons_zero, List.getElem?_cons_succ, List.set_cons_zero, List.set_cons_succ, Option.map_some, Nat.reduceAdd, Nat.reduceSub, Nat.zero_add, hm, signs_W, e]
  rw [if_pos (by decide)]
  simp only [evE_var, evE_int, evE_str, evE_bl, evE_non, evE_bin, evE_neg, evE_cmp, evE_isN, evE_notN, evE_chain, evE_and, evE_or, evE_not, evE_ite, evE_tup, evE_frz, evE_live, evE_call, evE_dead, evE_lim, evE_blt, evE_isi, evE_divm, evE_tupOf, evE_idx, evE_slS, evE_join, evE_mt1, evE_fld, evE_meth, evE_new, evE_dnil, evE_get2, evE_dcopy, evO_none, evO_some, evEs_nil, evEs_cons, evT_val, evT_tru, evT_and, evT_or, evT_not, evAnd_one, evAnd_cons, evOr_one, evOr_cons, evF_lst, evF_comp, evF_listOf, evF_listRng, evF_cat, evF_rep, evF_slL, evF_split, evF_splitMax, evC_nil, evC_one, evI_seq_true, evI_seq_false, evI_str, evI_rng1, evI_rng2, evI_enumL, evI_enumS, exC_pass, exC_dead, exC_nil, exC_cons, exC_exp, exC_app, exC_set, exC_setc, exC_aug, exC_setIx, exC_setKy, exC_setFd, exC_noneFault, exC_augIx, exC_two, exC_ret, exC_retN, exC_ite, exC_for, exC_while, exC_brk, exC_cnt, exC_raise, exC_fault, bind_ok, bind_exc, of_some, st_ok, st_exc, then_nx, then_ret, then_exc, then_bk, then_ct, start_eq, List.map_cons, List.map_nil, List.length_cons, List.length_nil, List.cons_append, List.nil_append, List.replicate, List.getElem?_cons_zero, List.getElem?_cons_succ, List.set_cons_zero, List.set_cons_succ, Option.map_some, Nat.reduceAdd, Nat.reduceSub, Nat.zero_add, idx, getLT, Option.bind_some, divm_mod]
  rw [show L2.atI [D.int (((7 * n + wsum 0 l : Nat) : Int) / 8191), D.int (((7 * n + wsum 0 l) % 8191 : Nat) : Int)] 1 = some (D.int (((7 * n + wsum 0 l) % 8191 : Nat) : Int)) from rfl]
  simp only [evE_var, evE_int, evE_str, evE_bl, evE_non, evE_bin, evE_neg, evE_cmp, evE_isN, evE_notN, evE_chain, evE_and, evE_or, evE_not, evE_ite, evE_tup, evE_frz, evE_live, evE_call, evE_dead, evE_lim, evE_blt, evE_isi, evE_divm, evE_tupOf, evE_idx, evE_slS, evE_join, evE_mt1, evE_fld, evE_meth, evE_new, evE_dnil, evE_get2, evE_dcopy, evO_none, evO_some, evEs_nil, evEs_cons, evT_val, evT_tru, evT_and, evT_or, evT_not, evAnd_one, evAnd_cons, evOr_one, evOr_cons, evF_lst, evF_comp, evF_listOf, evF_listRng, evF_cat, evF_rep, evF_slL, evF_split, evF_splitMax, evC_nil, evC_one, evI_seq_true, evI_seq_false, evI_str, evI_rng1, evI_rng2, evI_enumL, evI_enumS, exC_pass, exC_dead, exC_nil, exC_cons, exC_exp, exC_app, exC_set, exC_setc, exC_aug, exC_setIx, exC_setKy, exC_setFd, exC_noneFault, exC_augIx, exC_two, exC_ret, exC_retN, exC_ite, exC_for, exC_while, exC_brk, exC_cnt, exC_raise, exC_fault, bind_ok, bind_exc, of_some, st_ok, st_exc, then_nx, then_ret, then_exc, then_bk, then_ct, start_eq, List.map_cons, List.map_nil, List.length_cons, List.length_nil, List.cons_append, List.nil_append, List.replicate, List.getElem?_cons_zero, List.getElem?_cons_succ, List.set_cons_zero, List.set_cons_succ, Option.map_some, Nat.reduceAdd, Nat.reduceSub, Nat.zero_add]
  exact fin_sca rfl
/-- a row's words -/
def rowB (l : List Nat) : Bool := decide (1 ≤ l.length) && (decide (l.length ≤ 2000) && l.all fun c => decide (32 ≤ c) && decide (c ≤ 126))
theorem all_map {l : List Nat} {p : Nat → Bool} : listB (l.map fun c => D.bl (p c)) = some (l.map p) := by
  induction l with
  | nil => rfl
  | cons c l ih =>
    rw [List.map_cons, listB, ih]
    rfl
theorem is_row_ok {k : Nat} {l : List Nat} {S : Sto} (hl : l.length ≤ 10000000) : run Cr.P (k + 1) 2 [.str (W l)] S = .ok (.bl (rowB l)) S := by
  rw [run_eq (df := Cr.d2) rfl rfl]
  have hlen : blt S .len (.str (W l)) = some (.int l.length) := lenS (by rw [smax_eq]; omega)
  have hL : limD (.str "signs") = some (.int 2000) := rfl
  by_cases h1 : l.length < 1
  · have h2 : rowB l = false := by
      unfold rowB
      rw [decide_eq_false (by omega)] <;> rfl
    simp only [Cr.d2, Cr.b2, evE_var, evE_int, evE_str, evE_bl, evE_non, evE_bin, evE_neg, evE_cmp, evE_isN, evE_notN, evE_chain, evE_and, evE_or, evE_not, evE_ite, evE_tup, evE_frz, evE_live, evE_call, evE_dead, evE_lim, evE_blt, evE_isi, evE_divm, evE_tupOf, evE_idx, evE_slS, evE_join, evE_mt1, evE_fld, evE_meth, evE_new, evE_dnil, evE_get2, evE_dcopy, evO_none, evO_some, evEs_nil, evEs_cons, evT_val, evT_tru, evT_and, evT_or, evT_not, evAnd_one, evAnd_cons, evOr_one, evOr_cons, evF_lst, evF_comp, evF_listOf, evF_listRng, evF_cat, evF_rep, evF_slL, evF_split, evF_splitMax, evC_nil, evC_one, evI_seq_true, evI_seq_false, evI_str, evI_rng1, evI_rng2, evI_enumL, evI_enumS, exC_pass, exC_dead, exC_nil, exC_cons, exC_exp, exC_app, exC_set, exC_setc, exC_aug, exC_setIx, exC_setKy, exC_setFd, exC_noneFault, exC_augIx, exC_two, exC_ret, exC_retN, exC_ite, exC_for, exC_while, exC_brk, exC_cnt, exC_raise, exC_fault, bind_ok, bind_exc, of_some, st_ok, st_exc, then_nx, then_ret, then_exc, then_bk, then_ct, start_eq, List.map_cons, List.map_nil, List.length_cons, List.length_nil, List.cons_append, List.nil_append, List.replicate, List.getElem?_cons_zero, List.getElem?_cons_succ, List.set_cons_zero, List.set_cons_succ, Option.map_some, Nat.reduceAdd, Nat.reduceSub, Nat.zero_add, hlen, cop, show ((l.length : Int) < 1) from by omega, decide_true, if_true]
    rw [h2]
    exact fin_sca rfl
  · by_cases h3 : 2000 < l.length
    · have h2 : rowB l = false := by
        unfold rowB
        rw [decide_eq_false (p := l.length ≤ 2000) (by omega), Bool.and_comm] <;> rfl
      simp only [Cr.d2, Cr.b2, evE_var, evE_int, evE_str, evE_bl, evE_non, evE_bin, evE_neg, evE_cmp, evE_isN, evE_notN, evE_chain, evE_and, evE_or, evE_not, evE_ite, evE_tup, evE_frz, evE_live, evE_call, evE_dead, evE_lim, evE_blt, evE_isi, evE_divm, evE_tupOf, evE_idx, evE_slS, evE_join, evE_mt1, evE_fld, evE_meth, evE_new, evE_dnil, evE_get2, evE_dcopy, evO_none, evO_some, evEs_nil, evEs_cons, evT_val, evT_tru, evT_and, evT_or, evT_not, evAnd_one, evAnd_cons, evOr_one, evOr_cons, evF_lst, evF_comp, evF_listOf, evF_listRng, evF_cat, evF_rep, evF_slL, evF_split, evF_splitMax, evC_nil, evC_one, evI_seq_true, evI_seq_false, evI_str, evI_rng1, evI_rng2, evI_enumL, evI_enumS, exC_pass, exC_dead, exC_nil, exC_cons, exC_exp, exC_app, exC_set, exC_setc, exC_aug, exC_setIx, exC_setKy, exC_setFd, exC_noneFault, exC_augIx, exC_two, exC_ret, exC_retN, exC_ite, exC_for, exC_while, exC_brk, exC_cnt, exC_raise, exC_fault, bind_ok, bind_exc, of_some, st_ok, st_exc, then_nx, then_ret, then_exc, then_bk, then_ct, start_eq, List.map_cons, List.map_nil, List.length_cons, List.length_nil, List.cons_append, List.nil_append, List.replicate, List.getElem?_cons_zero, List.getElem?_cons_succ, List.set_cons_zero, List.set_cons_succ, Option.map_some, Nat.reduceAdd, Nat.reduceSub, Nat.zero_add, hlen, cop, hL, show ¬ ((l.length : Int) < 1) from by omega, show ((2000 : Int) < l.length) from by omega, decide_true, decide_false, if_true, if_false, Bool.false_eq_true]
      rw [h2]
      exact fin_sca rfl
    · have hc : compL (compB (run Cr.P k) (.nm 1) .nil (.chain .le .le (.int 32) (.blt .ord (.var 1)) (.int 126)) [("sign", 1)] [some (.str (W l)), none]) ⟨l.map sgn1, none, []⟩ (l.map sgn1) S = .ok (l.map fun c => D.bl (decide (32 ≤ c) && decide (c ≤ 126))) S := by
        refine compL_map (s := ⟨l.map sgn1, none, []⟩) True.intro sgn1 (fun c => D.bl (decide (32 ≤ c) && decide (c ≤ 126))) l fun c _ => ?_
        have e1 : decide ((32 : Int) ≤ (c : Int)) = decide (32 ≤ c) := by rw [decide_eq_decide]; omega
        have e2 : decide ((c : Int) ≤ 126) = decide (c ≤ 126) := by rw [decide_eq_decide]; omega
        simp only [compB_eq, setT, wipeT, evE_var, evE_int, evE_str, evE_bl, evE_non, evE_bin, evE_neg, evE_cmp, evE_isN, evE_notN, evE_chain, evE_and, evE_or, evE_not, evE_ite, evE_tup, evE_frz, evE_live, evE_call, evE_dead, evE_lim, evE_blt, evE_isi, evE_divm, evE_tupOf, evE_idx, evE_slS, evE_join, evE_mt1, evE_fld, evE_meth, evE_new, evE_dnil, evE_get2, evE_dcopy, evO_none, evO_some, evEs_nil, evEs_cons, evT_val, evT_tru, evT_and, evT_or, evT_not, evAnd_one, evAnd_cons, evOr_one, evOr_cons, evF_lst, evF_comp, evF_listOf, evF_listRng, evF_cat, evF_rep, evF_slL, evF_split, evF_splitMax, evC_nil, evC_one, evI_seq_true, evI_seq_false, evI_str, evI_rng1, evI_rng2, evI_enumL, evI_enumS, exC_pass, exC_dead, exC_nil, exC_cons, exC_exp, exC_app, exC_set, exC_setc, exC_aug, exC_setIx, exC_setKy, exC_setFd, exC_noneFault, exC_augIx, exC_two, exC_ret, exC_retN, exC_ite, exC_for, exC_while, exC_brk, exC_cnt, exC_raise, exC_fault, bind_ok, bind_exc, of_some, st_ok, st_exc, then_nx, then_ret, then_exc, then_bk, then_ct, start_eq, List.map_cons, List.map_nil, List.length_cons, List.length_nil, List.cons_append, List.nil_append, List.replicate, List.getElem?_cons_zero, List.getElem?_cons_succ, List.set_cons_zero, List.set_cons_succ, Option.map_some, Nat.reduceAdd, Nat.reduceSub, Nat.zero_add, sgn1, ordS, cop, e1, e2]
        cases decide (32 ≤ c) with
        | true => simp only [if_true, evE_var, evE_int, evE_str, evE_bl, evE_non, evE_bin, evE_neg, evE_cmp, evE_isN, evE_notN, evE_chain, evE_and, evE_or, evE_not, evE_ite, evE_tup, evE_frz, evE_live, evE_call, evE_dead, evE_lim, evE_blt, evE_isi, evE_divm, evE_tupOf, evE_idx, evE_slS, evE_join, evE_mt1, evE_fld, evE_meth, evE_new, evE_dnil, evE_get2, evE_dcopy, evO_none, evO_some, evEs_nil, evEs_cons, evT_val, evT_tru, evT_and, evT_or, evT_not, evAnd_one, evAnd_cons, evOr_one, evOr_cons, evF_lst, evF_comp, evF_listOf, evF_listRng, evF_cat, evF_rep, evF_slL, evF_split, evF_splitMax, evC_nil, evC_one, evI_seq_true, evI_seq_false, evI_str, evI_rng1, evI_rng2, evI_enumL, evI_enumS, exC_pass, exC_dead, exC_nil, exC_cons, exC_exp, exC_app, exC_set, exC_setc, exC_aug, exC_setIx, exC_setKy, exC_setFd, exC_noneFault, exC_augIx, exC_two, exC_ret, exC_retN, exC_ite, exC_for, exC_while, exC_brk, exC_cnt, exC_raise, exC_fault, bind_ok, bind_exc, of_some, st_ok, st_exc, then_nx, then_ret, then_exc, then_bk, then_ct, start_eq, List.map_cons, List.map_nil, List.length_cons, List.length_nil, List.cons_append, List.nil_append, List.replicate, List.getElem?_cons_zero, List.getElem?_cons_succ, List.set_cons_zero, List.set_cons_succ, Option.map_some, Nat.reduceAdd, Nat.reduceSub, Nat.zero_add, Bool.true_and, sgn1, ordS, cop, e1, e2]
        | false => simp only [if_true, evE_var, evE_int, evE_str, evE_bl, evE_non, evE_bin, evE_neg, evE_cmp, evE_isN, evE_notN, evE_chain, evE_and, evE_or, evE_not, evE_ite, evE_tup, evE_frz, evE_live, evE_call, evE_dead, evE_lim, evE_blt, evE_isi, evE_divm, evE_tupOf, evE_idx, evE_slS, evE_join, evE_mt1, evE_fld, evE_meth, evE_new, evE_dnil, evE_get2, evE_dcopy, evO_none, evO_some, evEs_nil, evEs_cons, evT_val, evT_tru, evT_and, evT_or, evT_not, evAnd_one, evAnd_cons, evOr_one, evOr_cons, evF_lst, evF_comp, evF_listOf, evF_listRng, evF_cat, evF_rep, evF_slL, evF_split, evF_splitMax, evC_nil, evC_one, evI_seq_true, evI_seq_false, evI_str, evI_rng1, evI_rng2, evI_enumL, evI_enumS, exC_pass, exC_dead, exC_nil, exC_cons, exC_exp, exC_app, exC_set, exC_setc, exC_aug, exC_setIx, exC_setKy, exC_setFd, exC_noneFault, exC_augIx, exC_two, exC_ret, exC_retN, exC_ite, exC_for, exC_while, exC_brk, exC_cnt, exC_raise, exC_fault, bind_ok, bind_exc, of_some, st_ok, st_exc, then_nx, then_ret, then_exc, then_bk, then_ct, start_eq, List.map_cons, List.map_nil, List.length_cons, List.length_nil, List.cons_append, List.nil_append, List.replicate, List.getElem?_cons_zero, List.getElem?_cons_succ, List.set_cons_zero, List.set_cons_succ, Option.map_some, Nat.reduceAdd, Nat.reduceSub, Nat.zero_add, Bool.false_and]
      have hb : rowB l = l.all fun c => decide (32 ≤ c) && decide (c ≤ 126) := by
        unfold rowB
        rw [decide_eq_true (p := 1 ≤ l.length) (by omega), decide_eq_true (p := l.length ≤ 2000) (by omega)] <;> rfl
      have hz : l.length ≤ SMAX := by rw [smax_eq]; omega
      simp only [Cr.d2, Cr.b2, evE_var, evE_int, evE_str, evE_bl, evE_non, evE_bin, evE_neg, evE_cmp, evE_isN, evE_notN, evE_chain, evE_and, evE_or, evE_not, evE_ite, evE_tup, evE_frz, evE_live, evE_call, evE_dead, evE_lim, evE_blt, evE_isi, evE_divm, evE_tupOf, evE_idx, evE_slS, evE_join, evE_mt1, evE_fld, evE_meth, evE_new, evE_dnil, evE_get2, evE_dcopy, evO_none, evO_some, evEs_nil, evEs_cons, evT_val, evT_tru, evT_and, evT_or, evT_not, evAnd_one, evAnd_cons, evOr_one, evOr_cons, evF_lst, evF_comp, evF_listOf, evF_listRng, evF_cat, evF_rep, evF_slL, evF_split, evF_splitMax, evC_nil, evC_one, evI_seq_true, evI_seq_false, evI_str, evI_rng1, evI_rng2, evI_enumL, evI_enumS, exC_pass, exC_dead, exC_nil, exC_cons, exC_exp, exC_app, exC_set, exC_setc, exC_aug, exC_setIx, exC_setKy, exC_setFd, exC_noneFault, exC_augIx, exC_two, exC_ret, exC_retN, exC_ite, exC_for, exC_while, exC_brk, exC_cnt, exC_raise, exC_fault, bind_ok, bind_exc, of_some, st_ok, st_exc, then_nx, then_ret, then_exc, then_bk, then_ct, start_eq, List.map_cons, List.map_nil, List.length_cons, List.length_nil, List.cons_append, List.nil_append, List.replicate, List.getElem?_cons_zero, List.getElem?_cons_succ, List.set_cons_zero, List.set_cons_succ, Option.map_some, Nat.reduceAdd, Nat.reduceSub, Nat.zero_add, hlen, cop, hL, show ¬ ((l.length : Int) < 1) from by omega, show ¬ ((2000 : Int) < l.length) from by omega, decide_false, if_false, Bool.false_eq_true, signs_W, hc, List.length_map, hz, if_true]
      rw [show blt S .all (.lst (l.map fun c => D.bl (decide (32 ≤ c) && decide (c ≤ 126)))) = some (.bl (rowB l)) from by
        show ((getL S (.lst _)).bind listB).map (fun bs => D.bl (bs.all id)) = _
        rw [show getL S (.lst (l.map fun c => D.bl (decide (32 ≤ c) && decide (c ≤ 126)))) = some (l.map fun c => D.bl (decide (32 ≤ c) && decide (c ≤ 126))) from rfl, Option.bind_some, all_map, Option.map_some, hb, List.all_map]
        rfl]
      simp only [evE_var, evE_int, evE_str, evE_bl, evE_non, evE_bin, evE_neg, evE_cmp, evE_isN, evE_notN, evE_chain, evE_and, evE_or, evE_not, evE_ite, evE_tup, evE_frz, evE_live, evE_call, evE_dead, evE_lim, evE_blt, evE_isi, evE_divm, evE_tupOf, evE_idx, evE_slS, evE_join, evE_mt1, evE_fld, evE_meth, evE_new, evE_dnil, evE_get2, evE_dcopy, evO_none, evO_some, evEs_nil, evEs_cons, evT_val, evT_tru, evT_and, evT_or, evT_not, evAnd_one, evAnd_cons, evOr_one, evOr_cons, evF_lst, evF_comp, evF_listOf, evF_listRng, evF_cat, evF_rep, evF_slL, evF_split, evF_splitMax, evC_nil, evC_one, evI_seq_true, evI_seq_false, evI_str, evI_rng1, evI_rng2, evI_enumL, evI_enumS, exC_pass, exC_dead, exC_nil, exC_cons, exC_exp, exC_app, exC_set, exC_setc, exC_aug, exC_setIx, exC_setKy, exC_setFd, exC_noneFault, exC_augIx, exC_two, exC_ret, exC_retN, exC_ite, exC_for, exC_while, exC_brk, exC_cnt, exC_raise, exC_fault, bind_ok, bind_exc, of_some, st_ok, st_exc, then_nx, then_ret, then_exc, then_bk, then_ct, start_eq, List.map_cons, List.map_nil, List.length_cons, List.length_nil, List.cons_append, List.nil_append, List.replicate, List.getElem?_cons_zero, List.getElem?_cons_succ, List.set_cons_zero, List.set_cons_succ, Option.map_some, Nat.reduceAdd, Nat.reduceSub, Nat.zero_add]
      exact fin_sca rfl
theorem sp_eq : (" " : Str) = W [32] := rfl
theorem nl_eq : ("
" : Str) = W [10] := rfl
def lineL (n : Nat) (l : List Nat) : List Nat := numL n ++ [32] ++ numL l.length ++ [32] ++ numL (rsN n l) ++ [32] ++ l
theorem rowB_le {l : List Nat} (h : rowB l = true) : 1 ≤ l.length ∧ l.length ≤ 2000 ∧ ∀ c ∈ l, 32 ≤ c ∧ c ≤ 126 := by
  unfold rowB at h
  rw [Bool.and_eq_true, Bool.and_eq_true, List.all_eq_true] at h
  refine ⟨of_decide_eq_true h.1, of_decide_eq_true h.2.1, fun c hc => ?_⟩
  have := h.2.2 c hc
  rw [Bool.and_eq_true] at this
  exact ⟨of_decide_eq_true this.1, of_decide_eq_true this.2⟩
theorem line_ev {cl : Nat → List D → Sto → R D} {n : Nat} {l : List Nat} {S : Sto} {τ : Tau} {e : E} (hn : n < 10 ^ 60) (hl : l.length ≤ 10000) (h0 : evE cl (.var 0) τ S = .ok (.int (n : Int)) S) (h1 : evE cl (.var 1) τ S = .ok (.str (W l)) S) (he : evE cl e τ S = .ok (.int (rsN n l : Nat)) S) :
    evE cl (.bin .add (.bin .add (.bin .add (.bin .add (.bin .add (.bin .add (.bin .add (.blt .str (.var 0)) (.str " ")) (.blt .str (.blt .len (.var 1)))) (.str " ")) (.blt .str e)) (.str " ")) (.var 1)) (.str "
")) τ S = .ok (.str (W (lineL n l ++ [10]))) S := by
  have hlen : blt S .len (.str (W l)) = some (.int l.length) := lenS (by rw [smax_eq]; omega)
  have a1 := numL_len_log n hn
  have a2 := numL_len_log l.length (by omega)
  have a3 := numL_len_log (rsN n l) (by have := rsN_lt n l; omega)
  have s1 : blt S .str (.int (n : Int)) = some (.str (W (numL n))) := strI (by omega)
  have s2 : blt S .str (.int (l.length : Int)) = some (.str (W (numL l.length))) := strI (by omega)
  have s3 : blt S .str (.int (rsN n l : Nat)) = some (.str (W (numL (rsN n l)))) := strI (by have := rsN_lt n l; omega)
  simp (disch := (simp only [List.length_append, List.length_cons, List.length_nil, smax_eq]; omega)) only [evE_bin, evE_blt, evE_str, bind_ok, of_some, h0, h1, he, hlen, s1, s2, s3, sp_eq, nl_eq, addS]
  rfl
theorem log_line_ok {k : Nat} {n : Nat} {l : List Nat} {S : Sto} (hn : n < 10 ^ 60) (h : rowB l = true) : run Cr.P (k + 2) 3 [.int (n : Int), .str (W l)] S = .ok (.str (W (lineL n l ++ [10]))) S := by
  obtain ⟨b1, b2, b3⟩ := rowB_le h
  rw [run_eq (df := Cr.d3) rfl rfl]
  have hlen : blt S .len (.str (W l)) = some (.int l.length) := lenS (by rw [smax_eq]; omega)
  have hb : run Cr.P (k + 1) 0 [.str "signs", .int (l.length : Int)] S = .ok .non S := bound_ok (L := 2000) rfl (by omega)
  have hr : run Cr.P (k + 1) 2 [.str (W l)] S = .ok (.bl true) S := by rw [is_row_ok (by omega), h]
  have hs : run Cr.P (k + 1) 1 [.int (n : Int), .str (W l)] S = .ok (.int (rsN n l : Nat)) S := row_sum_ok (by omega) (by omega) fun c hc => by have := b3 c hc; omega
  have he : evE (run Cr.P (k + 1)) (.call 1 (.cons (.var 0) (.cons (.var 1) .nil))) [some (.int (n : Int)), some (.str (W l))] S = .ok (.int (rsN n l : Nat)) S := by
    simp only [evE_var, evE_int, evE_str, evE_bl, evE_non, evE_bin, evE_neg, evE_cmp, evE_isN, evE_notN, evE_chain, evE_and, evE_or, evE_not, evE_ite, evE_tup, evE_frz, evE_live, evE_call, evE_dead, evE_lim, evE_blt, evE_isi, evE_divm, evE_tupOf, evE_idx, evE_slS, evE_join, evE_mt1, evE_fld, evE_meth, evE_new, evE_dnil, evE_get2, evE_dcopy, evO_none, evO_some, evEs_nil, evEs_cons, evT_val, evT_tru, evT_and, evT_or, evT_not, evAnd_one, evAnd_cons, evOr_one, evOr_cons, evF_lst, evF_comp, evF_listOf, evF_listRng, evF_cat, evF_rep, evF_slL, evF_split, evF_splitMax, evC_nil, evC_one, evI_seq_true, evI_seq_false, evI_str, evI_rng1, evI_rng2, evI_enumL, evI_enumS, exC_pass, exC_dead, exC_nil, exC_cons, exC_exp, exC_app, exC_set, exC_setc, exC_aug, exC_setIx, exC_setKy, exC_setFd, exC_noneFault, exC_augIx, exC_two, exC_ret, exC_retN, exC_ite, exC_for, exC_while, exC_brk, exC_cnt, exC_raise, exC_fault, bind_ok, bind_exc, of_some, st_ok, st_exc, then_nx, then_ret, then_exc, then_bk, then_ct, start_eq, List.map_cons, List.map_nil, List.length_cons, List.length_nil, List.cons_append, List.nil_append, List.replicate, List.getElem?_cons_zero, List.getElem?_cons_succ, List.set_cons_zero, List.set_cons_succ, Option.map_some, Nat.reduceAdd, Nat.reduceSub, Nat.zero_add, hs]
  have hv := line_ev (cl := run Cr.P (k + 1)) (S := S) (τ := [some (.int (n : Int)), some (.str (W l))]) hn (by omega) rfl rfl he
  simp only [Cr.d3, Cr.b3, evE_var, evE_int, evE_str, evE_bl, evE_non, evE_neg, evE_cmp, evE_isN, evE_notN, evE_chain, evE_and, evE_or, evE_not, evE_ite, evE_tup, evE_frz, evE_live, evE_call, evE_dead, evE_lim, evE_blt, evE_isi, evE_divm, evE_tupOf, evE_idx, evE_slS, evE_join, evE_mt1, evE_fld, evE_meth, evE_new, evE_dnil, evE_get2, evE_dcopy, evO_none, evO_some, evEs_nil, evEs_cons, evT_val, evT_tru, evT_and, evT_or, evT_not, evAnd_one, evAnd_cons, evOr_one, evOr_cons, evF_lst, evF_comp, evF_listOf, evF_listRng, evF_cat, evF_rep, evF_slL, evF_split, evF_splitMax, evC_nil, evC_one, evI_seq_true, evI_seq_false, evI_str, evI_rng1, evI_rng2, evI_enumL, evI_enumS, exC_pass, exC_dead, exC_nil, exC_cons, exC_exp, exC_app, exC_set, exC_setc, exC_aug, exC_setIx, exC_setKy, exC_setFd, exC_noneFault, exC_augIx, exC_two, exC_ret, exC_retN, exC_ite, exC_for, exC_while, exC_brk, exC_cnt, exC_raise, exC_fault, bind_ok, bind_exc, of_some, st_ok, st_exc, then_nx, then_ret, then_exc, then_bk, then_ct, start_eq, List.map_cons, List.map_nil, List.length_cons, List.length_nil, List.cons_append, List.nil_append, List.replicate, List.getElem?_cons_zero, List.getElem?_cons_succ, List.set_cons_zero, List.set_cons_succ, Option.map_some, Nat.reduceAdd, Nat.reduceSub, Nat.zero_add, hlen, hb, hr, Bool.not_true, Bool.false_eq_true, if_false, hv]
  exact fin_sca rfl
theorem log_line_deed {k : Nat} {n : Int} {l : List Nat} {S : Sto} (hl : l.length ≤ 2000) (h : rowB l = false) : run Cr.P (k + 2) 3 [.int n, .str (W l)] S = .exc "BadDeed" [.str "words"] S := by
  rw [run_eq (df := Cr.d3) rfl rfl]
  have hlen : blt S .len (.str (W l)) = some (.int l.length) := lenS (by rw [smax_eq]; omega)
  have hb : run Cr.P (k + 1) 0 [.str "signs", .int (l.length : Int)] S = .ok .non S := bound_ok (L := 2000) rfl (by omega)
  have hr : run Cr.P (k + 1) 2 [.str (W l)] S = .ok (.bl false) S := by rw [is_row_ok (by omega), h]
  have hx : excOk "BadDeed" [D.str "words"] = true := by decide
  simp only [Cr.d3, Cr.b3, evE_var, evE_int, evE_str, evE_bl, evE_non, evE_bin, evE_neg, evE_cmp, evE_isN, evE_notN, evE_chain, evE_and, evE_or, evE_not, evE_ite, evE_tup, evE_frz, evE_live, evE_call, evE_dead, evE_lim, evE_blt, evE_isi, evE_divm, evE_tupOf, evE_idx, evE_slS, evE_join, evE_mt1, evE_fld, evE_meth, evE_new, evE_dnil, evE_get2, evE_dcopy, evO_none, evO_some, evEs_nil, evEs_cons, evT_val, evT_tru, evT_and, evT_or, evT_not, evAnd_one, evAnd_cons, evOr_one, evOr_cons, evF_lst, evF_comp, evF_listOf, evF_listRng, evF_cat, evF_rep, evF_slL, evF_split, evF_splitMax, evC_nil, evC_one, evI_seq_true, evI_seq_false, evI_str, evI_rng1, evI_rng2, evI_enumL, evI_enumS, exC_pass, exC_dead, exC_nil, exC_cons, exC_exp, exC_app, exC_set, exC_setc, exC_aug, exC_setIx, exC_setKy, exC_setFd, exC_noneFault, exC_augIx, exC_two, exC_ret, exC_retN, exC_ite, exC_for, exC_while, exC_brk, exC_cnt, exC_raise, exC_fault, bind_ok, bind_exc, of_some, st_ok, st_exc, then_nx, then_ret, then_exc, then_bk, then_ct, start_eq, List.map_cons, List.map_nil, List.length_cons, List.length_nil, List.cons_append, List.nil_append, List.replicate, List.getElem?_cons_zero, List.getElem?_cons_succ, List.set_cons_zero, List.set_cons_succ, Option.map_some, Nat.reduceAdd, Nat.reduceSub, Nat.zero_add, hlen, hb, hr, Bool.not_false, if_true, hx]
  exact fin_exc rfl
theorem log_line_many {k : Nat} {n : Int} {l : List Nat} {S : Sto} (hl : 2000 < l.length) (h : l.length ≤ 1000000) : run Cr.P (k + 2) 3 [.int n, .str (W l)] S = .exc "TooMany" [.str "signs"] S := by
  rw [run_eq (df := Cr.d3) rfl rfl]
  have hlen : blt S .len (.str (W l)) = some (.int l.length) := lenS (by rw [smax_eq]; omega)
  have hb : run Cr.P (k + 1) 0 [.str "signs", .int (l.length : Int)] S = .exc "TooMany" [.str "signs"] S := bound_exc (L := 2000) rfl (by omega) (by decide)
  simp only [Cr.d3, Cr.b3, evE_var, evE_int, evE_str, evE_bl, evE_non, evE_bin, evE_neg, evE_cmp, evE_isN, evE_notN, evE_chain, evE_and, evE_or, evE_not, evE_ite, evE_tup, evE_frz, evE_live, evE_call, evE_dead, evE_lim, evE_blt, evE_isi, evE_divm, evE_tupOf, evE_idx, evE_slS, evE_join, evE_mt1, evE_fld, evE_meth, evE_new, evE_dnil, evE_get2, evE_dcopy, evO_none, evO_some, evEs_nil, evEs_cons, evT_val, evT_tru, evT_and, evT_or, evT_not, evAnd_one, evAnd_cons, evOr_one, evOr_cons, evF_lst, evF_comp, evF_listOf, evF_listRng, evF_cat, evF_rep, evF_slL, evF_split, evF_splitMax, evC_nil, evC_one, evI_seq_true, evI_seq_false, evI_str, evI_rng1, evI_rng2, evI_enumL, evI_enumS, exC_pass, exC_dead, exC_nil, exC_cons, exC_exp, exC_app, exC_set, exC_setc, exC_aug, exC_setIx, exC_setKy, exC_setFd, exC_noneFault, exC_augIx, exC_two, exC_ret, exC_retN, exC_ite, exC_for, exC_while, exC_brk, exC_cnt, exC_raise, exC_fault, bind_ok, bind_exc, of_some, st_ok, st_exc, then_nx, then_ret, then_exc, then_bk, then_ct, start_eq, List.map_cons, List.map_nil, List.length_cons, List.length_nil, List.cons_append, List.nil_append, List.replicate, List.getElem?_cons_zero, List.getElem?_cons_succ, List.set_cons_zero, List.set_cons_succ, Option.map_some, Nat.reduceAdd, Nat.reduceSub, Nat.zero_add, hlen, hb]
  exact fin_exc rfl
theorem free32 (n : Nat) : 32 ∉ numL n := numL_free (by omega)
theorem free10 (n : Nat) : 10 ∉ numL n := numL_free (by omega)
theorem lineL_len {n : Nat} {l : List Nat} (hn : n < 10 ^ 60) (hl : l.length ≤ 10000) : (lineL n l).length ≤ 300 + l.length := by
  have a1 := numL_len_log n hn
  have a2 := numL_len_log l.length (by omega)
  have a3 := numL_len_log (rsN n l) (by have := rsN_lt n l; omega)
  unfold lineL
  simp only [List.length_append, List.length_cons, List.length_nil]
  omega
theorem eqS_str {a b : Str} {S : Sto} : eqD S (.str a) (.str b) = some (decide (a = b)) := rfl
theorem row_of_ok {k : Nat} {n : Nat} {l : List Nat} {S : Sto} (hn : n < 10 ^ 60) (h : rowB l = true) : run Cr.P (k + 3) 4 [.int (n : Int), .str (W (lineL n l))] S = .ok (.str (W l)) S := by
  obtain ⟨b1, b2, b3⟩ := rowB_le h
  have hlen := lineL_len (n := n) (l := l) hn (by omega)
  rw [run_eq (df := Cr.d4) rfl rfl]
  have hr : run Cr.P (k + 2) 2 [.str (W l)] S = .ok (.bl true) S := by rw [is_row_ok (by omega), h]
  have hg : run Cr.P (k + 2) 3 [.int (n : Int), .str (W l)] S = .ok (.str (W (lineL n l ++ [10]))) S := log_line_ok hn h
  have hsp : Txt.splitMax (W (lineL n l)) " " 3 = [W (numL n), W (numL l.length), W (numL (rsN n l)), W l] := split4 (free32 _) (free32 _) (free32 _)
  have hc : ((" " : Str).length == 0) = false ∧ -(2 ^ 63) ≤ (3 : Int) ∧ (3 : Int) < 2 ^ 63 ∧ (W (lineL n l)).length + 2 ≤ SMAX := ⟨by decide, by decide, by decide, by rw [W_len, smax_eq]; omega⟩
  have hadd : bop .add (.str (W (lineL n l))) (.str "
") = some (.str (W (lineL n l ++ [10]))) := by
    rw [nl_eq]
    exact addS (by rw [smax_eq]; simp only [List.length_cons, List.length_nil]; omega)
  have hix : ∀ a b c d : D, idx S (.lst [a, b, c, d]) (.int 3) = some d := fun _ _ _ _ => rfl
  have hln : ∀ a b c d : D, blt S .len (.lst [a, b, c, d]) = some (.int 4) := fun _ _ _ _ => rfl
  simp only [Cr.d4, Cr.b4, evE_var, evE_int, evE_str, evE_bl, evE_non, evE_bin, evE_neg, evE_cmp, evE_isN, evE_notN, evE_chain, evE_and, evE_or, evE_not, evE_ite, evE_tup, evE_frz, evE_live, evE_call, evE_dead, evE_lim, evE_blt, evE_isi, evE_divm, evE_tupOf, evE_idx, evE_slS, evE_join, evE_mt1, evE_fld, evE_meth, evE_new, evE_dnil, evE_get2, evE_dcopy, evO_none, evO_some, evEs_nil, evEs_cons, evT_val, evT_tru, evT_and, evT_or, evT_not, evAnd_one, evAnd_cons, evOr_one, evOr_cons, evF_lst, evF_comp, evF_listOf, evF_listRng, evF_cat, evF_rep, evF_slL, evF_split, evF_splitMax, evC_nil, evC_one, evI_seq_true, evI_seq_false, evI_str, evI_rng1, evI_rng2, evI_enumL, evI_enumS, exC_pass, exC_dead, exC_nil, exC_cons, exC_exp, exC_app, exC_set, exC_setc, exC_aug, exC_setIx, exC_setKy, exC_setFd, exC_noneFault, exC_augIx, exC_two, exC_ret, exC_retN, exC_ite, exC_for, exC_while, exC_brk, exC_cnt, exC_raise, exC_fault, bind_ok, bind_exc, of_some, st_ok, st_exc, then_nx, then_ret, then_exc, then_bk, then_ct, start_eq, List.map_cons, List.map_nil, List.length_cons, List.length_nil, List.cons_append, List.nil_append, List.replicate, List.getElem?_cons_zero, List.getElem?_cons_succ, List.set_cons_zero, List.set_cons_succ, Option.map_some, Nat.reduceAdd, Nat.reduceSub, Nat.zero_add, hsp, if_pos hc, hln, hix, hr, hg, hadd, cop, eqS_str, decide_true, Bool.not_true, Bool.false_eq_true, if_false, show ¬ ((4 : Int) < 4) from by decide, decide_false]
  exact fin_sca rfl
def strW (l : List Nat) : D := .str (W l)
def linesFrom : Nat → List (List Nat) → List (List Nat)
  | _, [] => []
  | i, r :: rs => lineL (i + 1) r :: linesFrom (i + 1) rs
theorem linesFrom_len : ∀ (i : Nat) (rs : List (List Nat)), (linesFrom i rs).length = rs.length
  | _, [] => rfl
  | i, r :: rs => by rw [linesFrom, List.length_cons, List.length_cons, linesFrom_len]
theorem frz_last {S : Sto} {xs : List D} {n0 k : Nat} {ds : List D} : True := trivial
theorem rec_loop {k : Nat} {a b : Option D} {s : Src} {S : Sto} (ho : ∀ xs : List D, okS s (S ++ [.lst xs])) : ∀ (rs : List (List Nat)) (done : List (List Nat)) (x y : Option D), done.length + rs.length ≤ 3000 → (∀ r ∈ rs, rowB r = true) →
    ∃ x' y', forL (forB (run Cr.P (k + 3)) (.nm 3) (.cons (.set 4 (.call 4 (.cons (.bin .add (.blt .len (.var 2)) (.int 1)) (.cons (.var 3) .nil))))
  (.cons (.ite (.val (.isN (.var 4))) (.cons (.ret (.tup (.cons (.tupOf (.var 2)) (.cons (.tup (.cons (.str "spoilt") (.cons (.bin .add (.blt .len (.var 2)) (.int 1)) .nil))) .nil))))
   .nil) .nil)
  (.cons (.app (.var 2) (.var 4))
  .nil)))) s ((linesFrom done.length rs).map strW) [a, b, some (.loc S.length), x, y] (S ++ [.lst (done.map strW)]) =
      .nx [a, b, some (.loc S.length), x', y'] (S ++ [.lst ((done ++ rs).map strW)])
  | [], done, x, y, _, _ => ⟨x, y, by rw [linesFrom, List.map_nil, forL_nil, List.append_nil]⟩
  | r :: rs, done, x, y, hn, hr => by
    rw [List.length_cons] at hn
    have hb := hr r List.mem_cons_self
    obtain ⟨x', y', ih⟩ := rec_loop (k := k) (a := a) (b := b) ho rs (done ++ [r]) (some (strW (lineL (done.length + 1) r))) (some (strW r)) (by rw [List.length_append, List.length_singleton]; omega) fun q hq => hr q (List.mem_cons_of_mem _ hq)
    refine ⟨x', y', ?_⟩
    rw [linesFrom, List.map_cons]
    refine (forL_nx (τ' := [a, b, some (.loc S.length), some (strW (lineL (done.length + 1) r)), some (strW r)]) (S' := S ++ [.lst ((done ++ [r]).map strW)]) ?_ (ho _)).trans ?_
    · have hg : run Cr.P (k + 3) 4 [.int ((done.length : Int) + 1), .str (W (lineL (done.length + 1) r))] (S ++ [.lst (done.map strW)]) = .ok (.str (W r)) (S ++ [.lst (done.map strW)]) := by
        have := row_of_ok (k := k) (n := done.length + 1) (l := r) (S := S ++ [.lst (done.map strW)]) (by omega) hb
        exact this
      have hlt : done.length < SMAX := by rw [smax_eq]; omega
      simp only [forB_eq, setT, evE_var, evE_int, evE_str, evE_bl, evE_non, evE_bin, evE_neg, evE_cmp, evE_isN, evE_notN, evE_chain, evE_and, evE_or, evE_not, evE_ite, evE_tup, evE_frz, evE_live, evE_call, evE_dead, evE_lim, evE_blt, evE_isi, evE_divm, evE_tupOf, evE_idx, evE_slS, evE_join, evE_mt1, evE_fld, evE_meth, evE_new, evE_dnil, evE_get2, evE_dcopy, evO_none, evO_some, evEs_nil, evEs_cons, evT_val, evT_tru, evT_and, evT_or, evT_not, evAnd_one, evAnd_cons, evOr_one, evOr_cons, evF_lst, evF_comp, evF_listOf, evF_listRng, evF_cat, evF_rep, evF_slL, evF_split, evF_splitMax, evC_nil, evC_one, evI_seq_true, evI_seq_false, evI_str, evI_rng1, evI_rng2, evI_enumL, evI_enumS, exC_pass, exC_dead, exC_nil, exC_cons, exC_exp, exC_app, exC_set, exC_setc, exC_aug, exC_setIx, exC_setKy, exC_setFd, exC_noneFault, exC_augIx, exC_two, exC_ret, exC_retN, exC_ite, exC_for, exC_while, exC_brk, exC_cnt, exC_raise, exC_fault, bind_ok, bind_exc, of_some, st_ok, st_exc, then_nx, then_ret, then_exc, then_bk, then_ct, start_eq, List.map_cons, List.map_nil, List.length_cons, List.length_nil, List.cons_append, List.nil_append, List.replicate, List.getElem?_cons_zero, List.getElem?_cons_succ, List.set_cons_zero, List.set_cons_succ, Option.map_some, Nat.reduceAdd, Nat.reduceSub, Nat.zero_add, len_last, List.length_map, addI, hg, nonD, strW, Bool.false_eq_true, if_false, own_last]
      rw [if_pos hlt, last_set, List.map_append]
      rfl
    · rw [List.length_append, List.length_singleton] at ih
      rw [ih, List.append_assoc]
      rfl
theorem eq_sw {S : Sto} {a : List Nat} {b : Str} : eqD S (strW a) (.str b) = some (decide (W a = b)) := rfl
theorem frz_tt {S : Sto} {n0 : Nat} {xs ys : List D} (hx : xs.all sca = true) (hy : ys.all sca = true) : frz S n0 8 (.tup [.tup xs, .tup ys]) = some (.tup [.tup xs, .tup ys]) := by
  rw [frz_tup]
  unfold mapO
  rw [frz_tup, mapO_sca hx]
  unfold mapO
  rw [frz_tup, mapO_sca hy]
  rfl
theorem sca_strW {ls : List (List Nat)} : (ls.map strW).all sca = true := by
  rw [List.all_map]
  exact List.all_eq_true.mpr fun _ _ => rfl
/-- what a log's text tells -/
def stateD (last : List Nat) (n : Nat) : List D := if last = [] then [.str "whole"] else [.str "cut", .int ((n : Int) + 1)]
theorem stateD_sca {last : List Nat} {n : Nat} : (stateD last n).all sca = true := by
  unfold stateD
  split <;> rfl
theorem lineL_free {n : Nat} {l : List Nat} (h : rowB l = true) : 10 ∉ lineL n l := by
  obtain ⟨_, _, b3⟩ := rowB_le h
  have hl : 10 ∉ l := fun hm => by have := b3 10 hm; omega
  unfold lineL
  simp only [List.mem_append, List.mem_singleton, not_or]
  exact ⟨⟨⟨⟨⟨⟨free10 _, by omega⟩, free10 _⟩, by omega⟩, free10 _⟩, by omega⟩, hl⟩
theorem linesFrom_free : ∀ (i : Nat) (rs : List (List Nat)), (∀ r ∈ rs, rowB r = true) → ∀ p ∈ linesFrom i rs, 10 ∉ p
  | _, [], _, p, hp => by cases hp
  | i, r :: rs, h, p, hp => by
    rcases List.mem_cons.mp (show p ∈ lineL (i + 1) r :: linesFrom (i + 1) rs from hp) with e | e
    · rw [e]; exact lineL_free (h r List.mem_cons_self)
    · exact linesFrom_free (i + 1) rs (fun q hq => h q (List.mem_cons_of_mem _ hq)) p e
theorem recover_ok {k : Nat} {rs : List (List Nat)} {last : List Nat} {S : Sto} (hn : rs.length ≤ 2000) (hr : ∀ r ∈ rs, rowB r = true) (hl : 10 ∉ last) (hz : (joinL [10] (linesFrom 0 rs ++ [last])).length + 2 ≤ SMAX) :
    run Cr.P (k + 4) 5 [.str (W (joinL [10] (linesFrom 0 rs ++ [last])))] S = .ok (.tup [.tup (rs.map strW), .tup (stateD last rs.length)]) S := by
  rw [run_eq (df := Cr.d5) rfl rfl]
  have hsp : Txt.split (W (joinL [10] (linesFrom 0 rs ++ [last]))) "
" = (linesFrom 0 rs ++ [last]).map W := split_nl (by simp) fun p hp => by
    rcases List.mem_append.mp hp with h | h
    · exact linesFrom_free 0 rs hr p h
    · rw [List.mem_singleton.mp h]; exact hl
  have hc : (("
" : Str).length == 0) = false ∧ (W (joinL [10] (linesFrom 0 rs ++ [last]))).length + 2 ≤ SMAX := ⟨by decide, hz⟩
  have hm : ((linesFrom 0 rs ++ [last]).map W).map D.str = (linesFrom 0 rs).map strW ++ [strW last] := by
    rw [List.map_map, List.map_append]
    rfl
  have hlen : blt S .len (.lst ((linesFrom 0 rs).map strW ++ [strW last])) = some (.int ((rs.length : Int) + 1)) := by
    show some (D.int (((linesFrom 0 rs).map strW ++ [strW last]).length : Int)) = _
    rw [List.length_append, List.length_map, linesFrom_len, List.length_singleton]
    rfl
  have hb : run Cr.P (k + 3) 0 [.str "log", .int ((rs.length : Int) + 1 - 1)] S = .ok .non S := bound_ok (L := 2000) rfl (by omega)
  have hcut : cutL ((linesFrom 0 rs).map strW ++ [strW last]) none (some (-1)) = (linesFrom 0 rs).map strW := cut_m1
  have hat : L2.atI ((linesFrom 0 rs).map strW ++ [strW last]) (-1) = some (strW last) := atI_m1
  obtain ⟨x, y, e⟩ := rec_loop (k := k) (a := some (.str (W (joinL [10] (linesFrom 0 rs ++ [last]))))) (b := some (.lst ((linesFrom 0 rs).map strW ++ [strW last]))) (s := ⟨(linesFrom 0 rs).map strW, none, (linesFrom 0 rs).map strW⟩) (S := S) (fun _ => True.intro) rs [] none none (by rw [List.length_nil]; omega) hr
  rw [List.length_nil, List.nil_append, List.map_nil] at e
  have hg : ∀ S : Sto, ∀ xs, getL S (.lst xs) = some xs := fun _ _ => rfl
  have hlo : ∀ xs, lown (.lst xs) = none := fun _ => rfl
  have hix : ∀ (S : Sto) (xs : List D), idx S (.lst xs) (.int (-1)) = L2.atI xs (-1) := fun _ _ => rfl
  simp only [Cr.d5, Cr.b5, evE_var, evE_int, evE_str, evE_bl, evE_non, evE_bin, evE_neg, evE_cmp, evE_isN, evE_notN, evE_chain, evE_and, evE_or, evE_not, evE_ite, evE_tup, evE_frz, evE_live, evE_call, evE_dead, evE_lim, evE_blt, evE_isi, evE_divm, evE_tupOf, evE_idx, evE_slS, evE_join, evE_mt1, evE_fld, evE_meth, evE_new, evE_dnil, evE_get2, evE_dcopy, evO_none, evO_some, evEs_nil, evEs_cons, evT_val, evT_tru, evT_and, evT_or, evT_not, evAnd_one, evAnd_cons, evOr_one, evOr_cons, evF_lst, evF_comp, evF_listOf, evF_listRng, evF_cat, evF_rep, evF_slL, evF_split, evF_splitMax, evC_nil, evC_one, evI_seq_true, evI_seq_false, evI_str, evI_rng1, evI_rng2, evI_enumL, evI_enumS, exC_pass, exC_dead, exC_nil, exC_cons, exC_exp, exC_app, exC_set, exC_setc, exC_aug, exC_setIx, exC_setKy, exC_setFd, exC_noneFault, exC_augIx, exC_two, exC_ret, exC_retN, exC_ite, exC_for, exC_while, exC_brk, exC_cnt, exC_raise, exC_fault, bind_ok, bind_exc, of_some, st_ok, st_exc, then_nx, then_ret, then_exc, then_bk, then_ct, start_eq, List.map_cons, List.map_nil, List.length_cons, List.length_nil, List.cons_append, List.nil_append, List.replicate, List.getElem?_cons_zero, List.getElem?_cons_succ, List.set_cons_zero, List.set_cons_succ, Option.map_some, Nat.reduceAdd, Nat.reduceSub, Nat.zero_add, hsp, if_pos hc, hm, hlen, subI, hb, hg, hlo, hcut, show (0 ≤ SMAX) from by decide, if_true, e, hix, hat, cop, eq_sw]
  have h1 : 1 ≤ SMAX := by decide
  have h2 : 2 ≤ SMAX := by decide
  by_cases hl0 : last = []
  · have hd : decide (W last = ("" : Str)) = true := by rw [hl0]; decide
    have hs : stateD last rs.length = [.str "whole"] := if_pos hl0
    simp only [hd, Bool.not_true, Bool.false_eq_true, if_false, evE_var, evE_int, evE_str, evE_bl, evE_non, evE_bin, evE_neg, evE_cmp, evE_isN, evE_notN, evE_chain, evE_and, evE_or, evE_not, evE_ite, evE_tup, evE_frz, evE_live, evE_call, evE_dead, evE_lim, evE_blt, evE_isi, evE_divm, evE_tupOf, evE_idx, evE_slS, evE_join, evE_mt1, evE_fld, evE_meth, evE_new, evE_dnil, evE_get2, evE_dcopy, evO_none, evO_some, evEs_nil, evEs_cons, evT_val, evT_tru, evT_and, evT_or, evT_not, evAnd_one, evAnd_cons, evOr_one, evOr_cons, evF_lst, evF_comp, evF_listOf, evF_listRng, evF_cat, evF_rep, evF_slL, evF_split, evF_splitMax, evC_nil, evC_one, evI_seq_true, evI_seq_false, evI_str, evI_rng1, evI_rng2, evI_enumL, evI_enumS, exC_pass, exC_dead, exC_nil, exC_cons, exC_exp, exC_app, exC_set, exC_setc, exC_aug, exC_setIx, exC_setKy, exC_setFd, exC_noneFault, exC_augIx, exC_two, exC_ret, exC_retN, exC_ite, exC_for, exC_while, exC_brk, exC_cnt, exC_raise, exC_fault, bind_ok, bind_exc, of_some, st_ok, st_exc, then_nx, then_ret, then_exc, then_bk, then_ct, start_eq, List.map_cons, List.map_nil, List.length_cons, List.length_nil, List.cons_append, List.nil_append, List.replicate, List.getElem?_cons_zero, List.getElem?_cons_succ, List.set_cons_zero, List.set_cons_succ, Option.map_some, Nat.reduceAdd, Nat.reduceSub, Nat.zero_add, getL_last, if_pos h1, if_pos h2]
    rw [fin_ret (frz_tt sca_strW rfl), cut_app, hs]
  · have hd : decide (W last = ("" : Str)) = false := decide_eq_false fun h => hl0 (W_inj.mp (h.trans (show ("" : Str) = W [] from rfl)))
    have hs : stateD last rs.length = [.str "cut", .int ((rs.length : Int) + 1)] := if_neg hl0
    simp only [hd, Bool.not_false, if_true, evE_var, evE_int, evE_str, evE_bl, evE_non, evE_bin, evE_neg, evE_cmp, evE_isN, evE_notN, evE_chain, evE_and, evE_or, evE_not, evE_ite, evE_tup, evE_frz, evE_live, evE_call, evE_dead, evE_lim, evE_blt, evE_isi, evE_divm, evE_tupOf, evE_idx, evE_slS, evE_join, evE_mt1, evE_fld, evE_meth, evE_new, evE_dnil, evE_get2, evE_dcopy, evO_none, evO_some, evEs_nil, evEs_cons, evT_val, evT_tru, evT_and, evT_or, evT_not, evAnd_one, evAnd_cons, evOr_one, evOr_cons, evF_lst, evF_comp, evF_listOf, evF_listRng, evF_cat, evF_rep, evF_slL, evF_split, evF_splitMax, evC_nil, evC_one, evI_seq_true, evI_seq_false, evI_str, evI_rng1, evI_rng2, evI_enumL, evI_enumS, exC_pass, exC_dead, exC_nil, exC_cons, exC_exp, exC_app, exC_set, exC_setc, exC_aug, exC_setIx, exC_setKy, exC_setFd, exC_noneFault, exC_augIx, exC_two, exC_ret, exC_retN, exC_ite, exC_for, exC_while, exC_brk, exC_cnt, exC_raise, exC_fault, bind_ok, bind_exc, of_some, st_ok, st_exc, then_nx, then_ret, then_exc, then_bk, then_ct, start_eq, List.map_cons, List.map_nil, List.length_cons, List.length_nil, List.cons_append, List.nil_append, List.replicate, List.getElem?_cons_zero, List.getElem?_cons_succ, List.set_cons_zero, List.set_cons_succ, Option.map_some, Nat.reduceAdd, Nat.reduceSub, Nat.zero_add, getL_last, len_last, List.length_map, addI, if_pos h1, if_pos h2]
    rw [fin_ret (frz_tt sca_strW rfl), cut_app, hs]
end Ma
end
section
set_option Elab.async false
set_option linter.all false
set_option maxRecDepth 100000
set_option maxHeartbeats 4000000
set_option exponentiation.threshold 4000
namespace Ma
open Pi PySem PySem.Spec PyProof.Rows TL
theorem chk_loop {cl : Nat → List D → Sto → R D} {a : Option D} {l : List Nat} {s : Src} {S : Sto} (ho : okS s S) (hl : l.length ≤ 10000000) (hc : ∀ c ∈ l, c < 2 ^ 40) : ∀ (m i t : Nat) (x : Option D), i + m = l.length →
    ∃ x', forL (forB cl (.nm 3) (.cons (.aug 2 .add (.bin .mul (.bin .add (.var 3) (.int 1)) (.blt .ord (.idx (.var 1) (.var 3))))) .nil)) s ((List.range' i m).map fun (j : Nat) => D.int (j : Int)) [a, some (.str (W l)), some (.int (t : Int)), x] S =
      .nx [a, some (.str (W l)), some (.int ((t + wsum i (l.drop i) : Nat) : Int)), x'] S
  | 0, i, t, x, hi => ⟨x, by
    rw [show List.range' i 0 = [] from rfl, List.map_nil, forL_nil, List.drop_eq_nil_of_le (by omega)]
    rfl⟩
  | m + 1, i, t, x, hi => by
    have hlt : i < l.length := by omega
    obtain ⟨x', ih⟩ := chk_loop (cl := cl) (a := a) ho hl hc m (i + 1) (t + (i + 1) * l[i]) (some (.int (i : Int))) (by omega)
    refine ⟨x', ?_⟩
    rw [List.range'_succ, List.map_cons]
    have hcc := hc l[i] (List.getElem_mem hlt)
    have hm : bop .mul (.int ((i : Int) + 1)) (.int (l[i] : Int)) = some (.int (((i : Int) + 1) * (l[i] : Int))) := mulI (by omega) (by omega)
    have hix : idx S (.str (W l)) (.int (i : Int)) = some (.str ⟨#[l[i]]⟩) := by
      show (if (W l).length ≤ SMAX then (L2.atI l (i : Int)).map (fun c => D.str ⟨#[c]⟩) else none) = _
      rw [W_len, if_pos (by rw [smax_eq]; omega)]
      have : L2.atI l (i : Int) = some l[i] := by
        unfold L2.atI L2.ixN
        rw [if_pos (by omega), if_pos (by omega), Option.bind_some, Int.toNat_natCast, List.getElem?_eq_getElem hlt]
      rw [this]
      rfl
    refine (forL_nx (τ' := [a, some (.str (W l)), some (.int ((t + (i + 1) * l[i] : Nat) : Int)), some (.int (i : Int))]) (S' := S) ?_ ho).trans ?_
    · simp only [forB_eq, setT, evE_var, evE_int, evE_str, evE_bl, evE_non, evE_bin, evE_neg, evE_cmp, evE_isN, evE_notN, evE_chain, evE_and, evE_or, evE_not, evE_ite, evE_tup, evE_frz, evE_live, evE_call, evE_dead, evE_lim, evE_blt, evE_isi, evE_divm, evE_tupOf, evE_idx, evE_slS, evE_join, evE_mt1, evE_fld, evE_meth, evE_new, evE_dnil, evE_get2, evE_dcopy, evO_none, evO_some, evEs_nil, evEs_cons, evT_val, evT_tru, evT_and, evT_or, evT_not, evAnd_one, evAnd_cons, evOr_one, evOr_cons, evF_lst, evF_comp, evF_listOf, evF_listRng, evF_cat, evF_rep, evF_slL, evF_split, evF_splitMax, evC_nil, evC_one, evI_seq_true, evI_seq_false, evI_str, evI_rng1, evI_rng2, evI_enumL, evI_enumS, exC_pass, exC_dead, exC_nil, exC_cons, exC_exp, exC_app, exC_set, exC_setc, exC_aug, exC_setIx, exC_setKy, exC_setFd, exC_noneFault, exC_augIx, exC_two, exC_ret, exC_retN, exC_ite, exC_for, exC_while, exC_brk, exC_cnt, exC_raise, exC_fault, bind_ok, bind_exc, of_some, st_ok, st_exc, then_nx, then_ret, then_exc, then_bk, then_ct, start_eq, List.map_cons, List.map_nil, List.length_cons, List.length_nil, List.cons_append, List.nil_append, List.replicate, List.getElem?_cons_zero, List.getElem?_cons_succ, List.set_cons_zero, List.set_cons_succ, Option.map_some, Nat.reduceAdd, Nat.reduceSub, Nat.zero_add, addI, hix, ordS, hm, augD]
      rw [show ((t : Int) + ((i : Int) + 1) * (l[i] : Int)) = ((t + (i + 1) * l[i] : Nat) : Int) from by push_cast; rfl]
    · rw [ih, List.drop_eq_getElem_cons hlt, show wsum i (l[i] :: l.drop (i + 1)) = (i + 1) * l[i] + wsum (i + 1) (l.drop (i + 1)) from rfl, Nat.add_assoc]
theorem range_items {n : Nat} : ((List.range n).map fun (i : Nat) => D.int (i : Int)) = ((List.range' 0 n).map fun (j : Nat) => D.int (j : Int)) := by rw [List.range_eq_range']
theorem check_ok {k : Nat} {n : Nat} {l : List Nat} {S : Sto} (hn : n < 2 ^ 500) (hl : l.length ≤ 10000000) (hc : ∀ c ∈ l, c < 2 ^ 40) : run Cr.P (k + 1) 9 [.int (n : Int), .str (W l)] S = .ok (.int (rsN n l : Nat)) S := by
  rw [run_eq (df := Cr.d9) rfl rfl]
  have hm : bop .mul (.int 7) (.int (n : Int)) = some (.int ((7 * n : Nat) : Int)) := by
    rw [mulI (by decide) (by omega)]
    push_cast
    rfl
  have hlen : blt S .len (.str (W l)) = some (.int l.length) := lenS (by rw [smax_eq]; omega)
  obtain ⟨x, e⟩ := chk_loop (cl := run Cr.P k) (a := some (.int (n : Int))) (l := l) (s := ⟨(List.range' 0 l.length).map fun (j : Nat) => D.int (j : Int), none, []⟩) (S := S) True.intro hl hc l.length 0 (7 * n) none (by omega)
  have hr : -(2 ^ 62) ≤ (l.length : Int) ∧ (l.length : Int) < 2 ^ 62 := by omega
  have hmod : bop .mod (.int ((7 * n + wsum 0 (l.drop 0) : Nat) : Int)) (.int 8191) = some (.int (rsN n l : Nat)) := by
    rw [modI (by decide), List.drop_zero, divm_mod]
    rfl
  simp only [Cr.d9, Cr.b9, evE_var, evE_int, evE_str, evE_bl, evE_non, evE_bin, evE_neg, evE_cmp, evE_isN, evE_notN, evE_chain, evE_and, evE_or, evE_not, evE_ite, evE_tup, evE_frz, evE_live, evE_call, evE_dead, evE_lim, evE_blt, evE_isi, evE_divm, evE_tupOf, evE_idx, evE_slS, evE_join, evE_mt1, evE_fld, evE_meth, evE_new, evE_dnil, evE_get2, evE_dcopy, evO_none, evO_some, evEs_nil, evEs_cons, evT_val, evT_tru, evT_and, evT_or, evT_not, evAnd_one, evAnd_cons, evOr_one, evOr_cons, evF_lst, evF_comp, evF_listOf, evF_listRng, evF_cat, evF_rep, evF_slL, evF_split, evF_splitMax, evC_nil, evC_one, evI_seq_true, evI_seq_false, evI_str, evI_rng1, evI_rng2, evI_enumL, evI_enumS, exC_pass, exC_dead, exC_nil, exC_cons, exC_exp, exC_app, exC_set, exC_setc, exC_aug, exC_setIx, exC_setKy, exC_setFd, exC_noneFault, exC_augIx, exC_two, exC_ret, exC_retN, exC_ite, exC_for, exC_while, exC_brk, exC_cnt, exC_raise, exC_fault, bind_ok, bind_exc, of_some, st_ok, st_exc, then_nx, then_ret, then_exc, then_bk, then_ct, start_eq, List.map_cons, List.map_nil, List.length_cons, List.length_nil, List.cons_append, List.nil_append, List.replicate, List.getElem?_cons_zero, List.getElem?_cons_succ, List.set_cons_zero, List.set_cons_succ, Option.map_some, Nat.reduceAdd, Nat.reduceSub, Nat.zero_add, hm, hlen, if_pos hr, Int.toNat_natCast, range_items, e, hmod]
  exact fin_sca rfl
theorem law_line_ok {k : Nat} {n : Nat} {l : List Nat} {S : Sto} (hn : n < 10 ^ 60) (hl : l.length ≤ 10000) (hc : ∀ c ∈ l, c < 2 ^ 40) : run Cr.P (k + 2) 10 [.int (n : Int), .str (W l)] S = .ok (.str (W (lineL n l ++ [10]))) S := by
  rw [run_eq (df := Cr.d10) rfl rfl]
  have hs : run Cr.P (k + 1) 9 [.int (n : Int), .str (W l)] S = .ok (.int (rsN n l : Nat)) S := check_ok (by omega) (by omega) hc
  have he : evE (run Cr.P (k + 1)) (.call 9 (.cons (.var 0) (.cons (.var 1) .nil))) [some (.int (n : Int)), some (.str (W l))] S = .ok (.int (rsN n l : Nat)) S := by
    simp only [evE_var, evE_int, evE_str, evE_bl, evE_non, evE_bin, evE_neg, evE_cmp, evE_isN, evE_notN, evE_chain, evE_and, evE_or, evE_not, evE_ite, evE_tup, evE_frz, evE_live, evE_call, evE_dead, evE_lim, evE_blt, evE_isi, evE_divm, evE_tupOf, evE_idx, evE_slS, evE_join, evE_mt1, evE_fld, evE_meth, evE_new, evE_dnil, evE_get2, evE_dcopy, evO_none, evO_some, evEs_nil, evEs_cons, evT_val, evT_tru, evT_and, evT_or, evT_not, evAnd_one, evAnd_cons, evOr_one, evOr_cons, evF_lst, evF_comp, evF_listOf, evF_listRng, evF_cat, evF_rep, evF_slL, evF_split, evF_splitMax, evC_nil, evC_one, evI_seq_true, evI_seq_false, evI_str, evI_rng1, evI_rng2, evI_enumL, evI_enumS, exC_pass, exC_dead, exC_nil, exC_cons, exC_exp, exC_app, exC_set, exC_setc, exC_aug, exC_setIx, exC_setKy, exC_setFd, exC_noneFault, exC_augIx, exC_two, exC_ret, exC_retN, exC_ite, exC_for, exC_while, exC_brk, exC_cnt, exC_raise, exC_fault, bind_ok, bind_exc, of_some, st_ok, st_exc, then_nx, then_ret, then_exc, then_bk, then_ct, start_eq, List.map_cons, List.map_nil, List.length_cons, List.length_nil, List.cons_append, List.nil_append, List.replicate, List.getElem?_cons_zero, List.getElem?_cons_succ, List.set_cons_zero, List.set_cons_succ, Option.map_some, Nat.reduceAdd, Nat.reduceSub, Nat.zero_add, hs]
  have hv := line_ev (cl := run Cr.P (k + 1)) (S := S) (τ := [some (.int (n : Int)), some (.str (W l))]) hn (by omega) rfl rfl he
  simp only [Cr.d10, Cr.b10, evE_var, evE_int, evE_str, evE_bl, evE_non, evE_neg, evE_cmp, evE_isN, evE_notN, evE_chain, evE_and, evE_or, evE_not, evE_ite, evE_tup, evE_frz, evE_live, evE_call, evE_dead, evE_lim, evE_blt, evE_isi, evE_divm, evE_tupOf, evE_idx, evE_slS, evE_join, evE_mt1, evE_fld, evE_meth, evE_new, evE_dnil, evE_get2, evE_dcopy, evO_none, evO_some, evEs_nil, evEs_cons, evT_val, evT_tru, evT_and, evT_or, evT_not, evAnd_one, evAnd_cons, evOr_one, evOr_cons, evF_lst, evF_comp, evF_listOf, evF_listRng, evF_cat, evF_rep, evF_slL, evF_split, evF_splitMax, evC_nil, evC_one, evI_seq_true, evI_seq_false, evI_str, evI_rng1, evI_rng2, evI_enumL, evI_enumS, exC_pass, exC_dead, exC_nil, exC_cons, exC_exp, exC_app, exC_set, exC_setc, exC_aug, exC_setIx, exC_setKy, exC_setFd, exC_noneFault, exC_augIx, exC_two, exC_ret, exC_retN, exC_ite, exC_for, exC_while, exC_brk, exC_cnt, exC_raise, exC_fault, bind_ok, bind_exc, of_some, st_ok, st_exc, then_nx, then_ret, then_exc, then_bk, then_ct, start_eq, List.map_cons, List.map_nil, List.length_cons, List.length_nil, List.cons_append, List.nil_append, List.replicate, List.getElem?_cons_zero, List.getElem?_cons_succ, List.set_cons_zero, List.set_cons_succ, Option.map_some, Nat.reduceAdd, Nat.reduceSub, Nat.zero_add, hv]
  exact fin_sca rfl
/-- a log's text -/
def logL : Nat → List (List Nat) → List Nat
  | _, [] => []
  | i, r :: rs => (lineL (i + 1) r ++ [10]) ++ logL (i + 1) rs
def okRow (r : List Nat) : Prop := r.length ≤ 10000 ∧ ∀ c ∈ r, c < 2 ^ 40
theorem rowB_ok {r : List Nat} (h : rowB r = true) : okRow r := by
  obtain ⟨b1, b2, b3⟩ := rowB_le h
  exact ⟨by omega, fun c hc => by have := b3 c hc; omega⟩
theorem log_comp {k : Nat} {rs : List (List Nat)} {S : Sto} {τ : Tau} {s : Src} {own : List (Str × Nat)} (ho : okS s S) (h0 : ∀ j : Nat, evE (run Cr.P (k + 2)) (.idx (.var 0) (.var 1)) ((wipeT τ (own.map (·.2))).set 1 (some (.int (j : Int)))) S = R.of ((rs.map strW)[j]?) S) (h1 : ∀ j : Nat, evE (run Cr.P (k + 2)) (.var 1) ((wipeT τ (own.map (·.2))).set 1 (some (.int (j : Int)))) S = .ok (.int (j : Int)) S)
    (hn : rs.length ≤ 100000) (hr : ∀ r ∈ rs, okRow r) :
    compL (compB (run Cr.P (k + 2)) (.nm 1) .nil (.call 10 (.cons (.bin .add (.var 1) (.int 1)) (.cons (.idx (.var 0) (.var 1)) .nil))) own τ) s ((List.range rs.length).map fun (i : Nat) => D.int (i : Int)) S = .ok ((List.range rs.length).map fun i => strW (lineL (i + 1) (rs.getD i []) ++ [10])) S := by
  refine compL_map ho (fun (i : Nat) => D.int (i : Int)) (fun i => strW (lineL (i + 1) (rs.getD i []) ++ [10])) (List.range rs.length) fun j hj => ?_
  have hj := List.mem_range.mp hj
  have hi : rs[j]? = some rs[j] := List.getElem?_eq_getElem hj
  have hd : rs.getD j [] = rs[j] := by rw [List.getD_eq_getElem?_getD, hi]; rfl
  have hok := hr rs[j] (List.getElem_mem hj)
  have hg : run Cr.P (k + 2) 10 [.int ((j : Int) + 1), strW rs[j]] S = .ok (strW (lineL (j + 1) rs[j] ++ [10])) S := law_line_ok (k := k) (n := j + 1) (by omega) hok.1 hok.2
  have hm : (rs.map strW)[j]? = some (strW rs[j]) := by rw [List.getElem?_map, hi]; rfl
  have h0' := h0 j
  rw [hm] at h0'
  simp only [compB_eq, setT, evC_nil, bind_ok, if_true, evE_call, evEs_cons, evEs_nil, evE_bin, evE_int, h1, h0', of_some, addI, hg, hd]
theorem getD_map {rs : List (List Nat)} {i : Nat} : ∀ n, (List.range' i n).map (fun j => strW (lineL (j + 1) (rs.getD j []) ++ [10])) = ((List.range' i n).map fun j => lineL (j + 1) (rs.getD j []) ++ [10]).map strW := fun n => by
  rw [List.map_map]
  rfl
theorem logL_flat : ∀ (rs pre : List (List Nat)), ((List.range' pre.length rs.length).map fun j => lineL (j + 1) ((pre ++ rs).getD j []) ++ [10]).flatten = logL pre.length rs
  | [], _ => rfl
  | r :: rs, pre => by
    have ih := logL_flat rs (pre ++ [r])
    rw [List.length_append, List.length_singleton, List.append_assoc] at ih
    rw [List.length_cons, List.range'_succ, List.map_cons, List.flatten_cons]
    show _ = (lineL (pre.length + 1) r ++ [10]) ++ logL (pre.length + 1) rs
    rw [← ih]
    congr 3
    rw [List.getD_eq_getElem?_getD, List.getElem?_append_right (Nat.le_refl _), Nat.sub_self]
    rfl
theorem listS_strW : ∀ ls : List (List Nat), listS (ls.map strW) = some (ls.map W)
  | [] => rfl
  | l :: ls => by
    rw [List.map_cons, strW, listS, listS_strW ls]
    rfl
theorem sum_flat : ∀ ls : List (List Nat), ((ls.map W).map (·.length)).sum = ls.flatten.length
  | [] => rfl
  | l :: ls => by
    rw [List.map_cons, List.map_cons, List.sum_cons, sum_flat ls, List.flatten_cons, List.length_append, W_len]
theorem log_ok {k : Nat} {rs : List (List Nat)} {S : Sto} (hn : rs.length ≤ 100000) (hr : ∀ r ∈ rs, okRow r) (hz : (logL 0 rs).length ≤ SMAX) : run Cr.P (k + 3) 11 [.lst (rs.map strW)] S = .ok (.str (W (logL 0 rs))) S := by
  rw [run_eq (df := Cr.d11) rfl rfl]
  have hlen : blt S .len (.lst (rs.map strW)) = some (.int rs.length) := by
    show some (D.int ((rs.map strW).length : Int)) = _
    rw [List.length_map]
  have hix : ∀ j : Nat, idx S (.lst (rs.map strW)) (.int (j : Int)) = (rs.map strW)[j]? := fun j => by
    show L2.atI (rs.map strW) (j : Int) = _
    unfold L2.atI L2.ixN
    rw [if_pos (by omega)]
    by_cases h : (j : Int) < (rs.map strW).length
    · rw [if_pos h, Option.bind_some, Int.toNat_natCast]
    · rw [if_neg h, List.getElem?_eq_none (by omega)]
      rfl
  have hr62 : -(2 ^ 62) ≤ (rs.length : Int) ∧ (rs.length : Int) < 2 ^ 62 := by omega
  have e := log_comp (k := k) (rs := rs) (S := S) (τ := [some (.lst (rs.map strW)), none]) (s := ⟨(List.range rs.length).map fun (i : Nat) => D.int (i : Int), none, []⟩) (own := [("at", 1)]) True.intro (fun j => by
    simp only [wipeT, evE_var, evE_int, evE_str, evE_bl, evE_non, evE_bin, evE_neg, evE_cmp, evE_isN, evE_notN, evE_chain, evE_and, evE_or, evE_not, evE_ite, evE_tup, evE_frz, evE_live, evE_call, evE_dead, evE_lim, evE_blt, evE_isi, evE_divm, evE_tupOf, evE_idx, evE_slS, evE_join, evE_mt1, evE_fld, evE_meth, evE_new, evE_dnil, evE_get2, evE_dcopy, evO_none, evO_some, evEs_nil, evEs_cons, evT_val, evT_tru, evT_and, evT_or, evT_not, evAnd_one, evAnd_cons, evOr_one, evOr_cons, evF_lst, evF_comp, evF_listOf, evF_listRng, evF_cat, evF_rep, evF_slL, evF_split, evF_splitMax, evC_nil, evC_one, evI_seq_true, evI_seq_false, evI_str, evI_rng1, evI_rng2, evI_enumL, evI_enumS, exC_pass, exC_dead, exC_nil, exC_cons, exC_exp, exC_app, exC_set, exC_setc, exC_aug, exC_setIx, exC_setKy, exC_setFd, exC_noneFault, exC_augIx, exC_two, exC_ret, exC_retN, exC_ite, exC_for, exC_while, exC_brk, exC_cnt, exC_raise, exC_fault, bind_ok, bind_exc, of_some, st_ok, st_exc, then_nx, then_ret, then_exc, then_bk, then_ct, start_eq, List.map_cons, List.map_nil, List.length_cons, List.length_nil, List.cons_append, List.nil_append, List.replicate, List.getElem?_cons_zero, List.getElem?_cons_succ, List.set_cons_zero, List.set_cons_succ, Option.map_some, Nat.reduceAdd, Nat.reduceSub, Nat.zero_add, hix]) (fun j => by simp only [wipeT, evE_var, evE_int, evE_str, evE_bl, evE_non, evE_bin, evE_neg, evE_cmp, evE_isN, evE_notN, evE_chain, evE_and, evE_or, evE_not, evE_ite, evE_tup, evE_frz, evE_live, evE_call, evE_dead, evE_lim, evE_blt, evE_isi, evE_divm, evE_tupOf, evE_idx, evE_slS, evE_join, evE_mt1, evE_fld, evE_meth, evE_new, evE_dnil, evE_get2, evE_dcopy, evO_none, evO_some, evEs_nil, evEs_cons, evT_val, evT_tru, evT_and, evT_or, evT_not, evAnd_one, evAnd_cons, evOr_one, evOr_cons, evF_lst, evF_comp, evF_listOf, evF_listRng, evF_cat, evF_rep, evF_slL, evF_split, evF_splitMax, evC_nil, evC_one, evI_seq_true, evI_seq_false, evI_str, evI_rng1, evI_rng2, evI_enumL, evI_enumS, exC_pass, exC_dead, exC_nil, exC_cons, exC_exp, exC_app, exC_set, exC_setc, exC_aug, exC_setIx, exC_setKy, exC_setFd, exC_noneFault, exC_augIx, exC_two, exC_ret, exC_retN, exC_ite, exC_for, exC_while, exC_brk, exC_cnt, exC_raise, exC_fault, bind_ok, bind_exc, of_some, st_ok, st_exc, then_nx, then_ret, then_exc, then_bk, then_ct, start_eq, List.map_cons, List.map_nil, List.length_cons, List.length_nil, List.cons_append, List.nil_append, List.replicate, List.getElem?_cons_zero, List.getElem?_cons_succ, List.set_cons_zero, List.set_cons_succ, Option.map_some, Nat.reduceAdd, Nat.reduceSub, Nat.zero_add]) hn hr
  have hitems : ((List.range rs.length).map fun (i : Nat) => D.int (i : Int)).length ≤ SMAX := by rw [List.length_map, List.length_range, smax_eq]; omega
  have hflat : ((List.range rs.length).map fun i => strW (lineL (i + 1) (rs.getD i []) ++ [10])) = ((List.range' 0 rs.length).map fun j => lineL (j + 1) (rs.getD j []) ++ [10]).map strW := by
    rw [List.range_eq_range']
    exact getD_map _
  have hfl : ((List.range' 0 rs.length).map fun j => lineL (j + 1) (rs.getD j []) ++ [10]).flatten = logL 0 rs := logL_flat rs []
  have hS : (getLT S (.lst (((List.range' 0 rs.length).map fun j => lineL (j + 1) (rs.getD j []) ++ [10]).map strW))).bind listS = some (((List.range' 0 rs.length).map fun j => lineL (j + 1) (rs.getD j []) ++ [10]).map W) := listS_strW _
  have hsz : ((((List.range' 0 rs.length).map fun j => lineL (j + 1) (rs.getD j []) ++ [10]).map W).map (·.length)).sum + (((List.range' 0 rs.length).map fun j => lineL (j + 1) (rs.getD j []) ++ [10]).map W).length * ("" : Str).length ≤ SMAX := by
    rw [sum_flat, hfl, show ("" : Str).length = 0 from rfl, Nat.mul_zero]
    exact hz
  simp only [Cr.d11, Cr.b11, evE_var, evE_int, evE_str, evE_bl, evE_non, evE_bin, evE_neg, evE_cmp, evE_isN, evE_notN, evE_chain, evE_and, evE_or, evE_not, evE_ite, evE_tup, evE_frz, evE_live, evE_call, evE_dead, evE_lim, evE_blt, evE_isi, evE_divm, evE_tupOf, evE_idx, evE_slS, evE_join, evE_mt1, evE_fld, evE_meth, evE_new, evE_dnil, evE_get2, evE_dcopy, evO_none, evO_some, evEs_nil, evEs_cons, evT_val, evT_tru, evT_and, evT_or, evT_not, evAnd_one, evAnd_cons, evOr_one, evOr_cons, evF_lst, evF_comp, evF_listOf, evF_listRng, evF_cat, evF_rep, evF_slL, evF_split, evF_splitMax, evC_nil, evC_one, evI_seq_true, evI_seq_false, evI_str, evI_rng1, evI_rng2, evI_enumL, evI_enumS, exC_pass, exC_dead, exC_nil, exC_cons, exC_exp, exC_app, exC_set, exC_setc, exC_aug, exC_setIx, exC_setKy, exC_setFd, exC_noneFault, exC_augIx, exC_two, exC_ret, exC_retN, exC_ite, exC_for, exC_while, exC_brk, exC_cnt, exC_raise, exC_fault, bind_ok, bind_exc, of_some, st_ok, st_exc, then_nx, then_ret, then_exc, then_bk, then_ct, start_eq, List.map_cons, List.map_nil, List.length_cons, List.length_nil, List.cons_append, List.nil_append, List.replicate, List.getElem?_cons_zero, List.getElem?_cons_succ, List.set_cons_zero, List.set_cons_succ, Option.map_some, Nat.reduceAdd, Nat.reduceSub, Nat.zero_add, hlen, if_pos hr62, Int.toNat_natCast, if_pos hitems, e, hflat, hS, if_pos hsz, join_empty, hfl]
  exact fin_sca rfl
theorem same_str {k : Nat} {x : Str} {S : Sto} : run Cr.P (k + 1) 14 [.str x, .str x] S = .ok (.bl true) S := by
  rw [run_eq (df := Cr.d14) rfl rfl]
  have h1 : isTy S .bool (.str x) = some false := rfl
  have h2 : isTy S .int (.str x) = some false := rfl
  have h3 : isTy S .str (.str x) = some true := rfl
  have h4 : nonD (.str x) = some false := rfl
  simp only [Cr.d14, Cr.b14, evE_var, evE_int, evE_str, evE_bl, evE_non, evE_bin, evE_neg, evE_cmp, evE_isN, evE_notN, evE_chain, evE_and, evE_or, evE_not, evE_ite, evE_tup, evE_frz, evE_live, evE_call, evE_dead, evE_lim, evE_blt, evE_isi, evE_divm, evE_tupOf, evE_idx, evE_slS, evE_join, evE_mt1, evE_fld, evE_meth, evE_new, evE_dnil, evE_get2, evE_dcopy, evO_none, evO_some, evEs_nil, evEs_cons, evT_val, evT_tru, evT_and, evT_or, evT_not, evAnd_one, evAnd_cons, evOr_one, evOr_cons, evF_lst, evF_comp, evF_listOf, evF_listRng, evF_cat, evF_rep, evF_slL, evF_split, evF_splitMax, evC_nil, evC_one, evI_seq_true, evI_seq_false, evI_str, evI_rng1, evI_rng2, evI_enumL, evI_enumS, exC_pass, exC_dead, exC_nil, exC_cons, exC_exp, exC_app, exC_set, exC_setc, exC_aug, exC_setIx, exC_setKy, exC_setFd, exC_noneFault, exC_augIx, exC_two, exC_ret, exC_retN, exC_ite, exC_for, exC_while, exC_brk, exC_cnt, exC_raise, exC_fault, bind_ok, bind_exc, of_some, st_ok, st_exc, then_nx, then_ret, then_exc, then_bk, then_ct, start_eq, List.map_cons, List.map_nil, List.length_cons, List.length_nil, List.cons_append, List.nil_append, List.replicate, List.getElem?_cons_zero, List.getElem?_cons_succ, List.set_cons_zero, List.set_cons_succ, Option.map_some, Nat.reduceAdd, Nat.reduceSub, Nat.zero_add, h1, h2, h3, h4, cop, eqS_str, decide_true, if_true, if_false, Bool.false_eq_true]
  exact fin_sca rfl
theorem same_int {k : Nat} {x : Int} {S : Sto} : run Cr.P (k + 1) 14 [.int x, .int x] S = .ok (.bl true) S := by
  rw [run_eq (df := Cr.d14) rfl rfl]
  have h1 : isTy S .bool (.int x) = some false := rfl
  have h2 : isTy S .int (.int x) = some true := rfl
  have h4 : nonD (.int x) = some false := rfl
  have h5 : eqD S (.int x) (.int x) = some true := by
    show some (decide (x = x)) = _
    rw [decide_eq_true rfl]
  simp only [Cr.d14, Cr.b14, evE_var, evE_int, evE_str, evE_bl, evE_non, evE_bin, evE_neg, evE_cmp, evE_isN, evE_notN, evE_chain, evE_and, evE_or, evE_not, evE_ite, evE_tup, evE_frz, evE_live, evE_call, evE_dead, evE_lim, evE_blt, evE_isi, evE_divm, evE_tupOf, evE_idx, evE_slS, evE_join, evE_mt1, evE_fld, evE_meth, evE_new, evE_dnil, evE_get2, evE_dcopy, evO_none, evO_some, evEs_nil, evEs_cons, evT_val, evT_tru, evT_and, evT_or, evT_not, evAnd_one, evAnd_cons, evOr_one, evOr_cons, evF_lst, evF_comp, evF_listOf, evF_listRng, evF_cat, evF_rep, evF_slL, evF_split, evF_splitMax, evC_nil, evC_one, evI_seq_true, evI_seq_false, evI_str, evI_rng1, evI_rng2, evI_enumL, evI_enumS, exC_pass, exC_dead, exC_nil, exC_cons, exC_exp, exC_app, exC_set, exC_setc, exC_aug, exC_setIx, exC_setKy, exC_setFd, exC_noneFault, exC_augIx, exC_two, exC_ret, exC_retN, exC_ite, exC_for, exC_while, exC_brk, exC_cnt, exC_raise, exC_fault, bind_ok, bind_exc, of_some, st_ok, st_exc, then_nx, then_ret, then_exc, then_bk, then_ct, start_eq, List.map_cons, List.map_nil, List.length_cons, List.length_nil, List.cons_append, List.nil_append, List.replicate, List.getElem?_cons_zero, List.getElem?_cons_succ, List.set_cons_zero, List.set_cons_succ, Option.map_some, Nat.reduceAdd, Nat.reduceSub, Nat.zero_add, h1, h2, h4, cop, h5, if_true, if_false, Bool.false_eq_true]
  exact fin_sca rfl
theorem listB_const : ∀ n i : Nat, listB ((List.range' i n).map fun _ => D.bl true) = some ((List.range' i n).map fun _ => true)
  | 0, _ => rfl
  | n + 1, i => by
    rw [List.range'_succ, List.map_cons, List.map_cons, listB, listB_const n (i + 1)]
    rfl
theorem all_const : ∀ n i : Nat, ((List.range' i n).map fun _ => true).all _root_.id = true
  | 0, _ => rfl
  | n + 1, i => by
    rw [List.range'_succ, List.map_cons, List.all_cons, all_const n (i + 1)]
    rfl
end Ma
end
section
set_option Elab.async false
set_option linter.all false
set_option maxRecDepth 100000
set_option maxHeartbeats 4000000
set_option exponentiation.threshold 4000
namespace Ma
open Pi PySem PySem.Spec PyProof.Rows TL
/-! ### the laws' own comparison, of values that are alike -/
theorem idx_at {xs : List D} {j : Nat} : L2.atI xs (j : Int) = xs[j]? := by
  unfold L2.atI L2.ixN
  rw [if_pos (by omega)]
  by_cases h : (j : Int) < xs.length
  · rw [if_pos h, Option.bind_some, Int.toNat_natCast]
  · rw [if_neg h, List.getElem?_eq_none (by omega)]
    rfl
theorem same_seq {k : Nat} {a d : D} {as ds : List D} {S : Sto} (h7 : nonD a = some false) (h7' : nonD d = some false) (hb : isTy S .bool d = some false) (hb' : isTy S .bool a = some false) (hi : isTy S .int d = some false) (hs : isTy S .str d = some false)
    (hd : isTy S .dict d = some false) (htl : (isTy S .tuple d = some true ∧ isTy S .tuple a = some true ∧ isTy S .list d = some false) ∨ (isTy S .tuple d = some false ∧ isTy S .list d = some true ∧ isTy S .list a = some true))
    (la : blt S .len a = some (.int as.length)) (ld : blt S .len d = some (.int ds.length)) (xa : ∀ j : Nat, idx S a (.int (j : Int)) = as[j]?) (xd : ∀ j : Nat, idx S d (.int (j : Int)) = ds[j]?) (hl : as.length = ds.length) (hz : ds.length ≤ 1000000)
    (ih : ∀ (i : Nat) (u v : D), as[i]? = some u → ds[i]? = some v → run Cr.P (k + 1) 14 [u, v] S = .ok (.bl true) S) : run Cr.P (k + 2) 14 [a, d] S = .ok (.bl true) S := by
  rw [run_eq (df := Cr.d14) rfl rfl]
  have h9 : ∀ x : Int, eqD S (.int x) (.int x) = some true := fun x => by
    show some (decide (x = x)) = _
    rw [decide_eq_true rfl]
  have hr62 : -(2 ^ 62) ≤ (ds.length : Int) ∧ (ds.length : Int) < 2 ^ 62 := by omega
  have hitems : ((List.range ds.length).map fun (i : Nat) => D.int (i : Int)).length ≤ SMAX := by rw [List.length_map, List.length_range, smax_eq]; omega
  have e : compL (compB (run Cr.P (k + 1)) (.nm 3) .nil (.call 14 (.cons (.idx (.var 0) (.var 3)) (.cons (.idx (.var 1) (.var 3)) .nil))) [("at", 3)] [some a, some d, none, none]) ⟨(List.range ds.length).map fun (i : Nat) => D.int (i : Int), none, []⟩ ((List.range ds.length).map fun (i : Nat) => D.int (i : Int)) S = .ok ((List.range' 0 ds.length).map fun _ => D.bl true) S := by
    rw [← List.range_eq_range']
    refine compL_map (s := ⟨_, none, []⟩) True.intro (fun (i : Nat) => D.int (i : Int)) (fun _ => D.bl true) (List.range ds.length) fun j hj => ?_
    have hj := List.mem_range.mp hj
    have e1 : as[j]? = some as[j] := List.getElem?_eq_getElem (by omega)
    have e2 : ds[j]? = some ds[j] := List.getElem?_eq_getElem hj
    have ihj := ih j _ _ e1 e2
    have x1 := xa j
    have x2 := xd j
    rw [e1] at x1
    rw [e2] at x2
    simp only [compB_eq, setT, wipeT, evE_var, evE_int, evE_str, evE_bl, evE_non, evE_bin, evE_neg, evE_cmp, evE_isN, evE_notN, evE_chain, evE_and, evE_or, evE_not, evE_ite, evE_tup, evE_frz, evE_live, evE_call, evE_dead, evE_lim, evE_blt, evE_isi, evE_divm, evE_tupOf, evE_idx, evE_slS, evE_join, evE_mt1, evE_fld, evE_meth, evE_new, evE_dnil, evE_get2, evE_dcopy, evO_none, evO_some, evEs_nil, evEs_cons, evT_val, evT_tru, evT_and, evT_or, evT_not, evAnd_one, evAnd_cons, evOr_one, evOr_cons, evF_lst, evF_comp, evF_listOf, evF_listRng, evF_cat, evF_rep, evF_slL, evF_split, evF_splitMax, evC_nil, evC_one, evI_seq_true, evI_seq_false, evI_str, evI_rng1, evI_rng2, evI_enumL, evI_enumS, exC_pass, exC_dead, exC_nil, exC_cons, exC_exp, exC_app, exC_set, exC_setc, exC_aug, exC_setIx, exC_setKy, exC_setFd, exC_noneFault, exC_augIx, exC_two, exC_ret, exC_retN, exC_ite, exC_for, exC_while, exC_brk, exC_cnt, exC_raise, exC_fault, bind_ok, bind_exc, of_some, st_ok, st_exc, then_nx, then_ret, then_exc, then_bk, then_ct, start_eq, List.map_cons, List.map_nil, List.length_cons, List.length_nil, List.cons_append, List.nil_append, List.replicate, List.getElem?_cons_zero, List.getElem?_cons_succ, List.set_cons_zero, List.set_cons_succ, Option.map_some, Nat.reduceAdd, Nat.reduceSub, Nat.zero_add, x1, x2, ihj, if_true]
  have hall : blt S .all (.lst ((List.range' 0 ds.length).map fun _ => D.bl true)) = some (.bl true) := by
    show ((getL S (.lst ((List.range' 0 ds.length).map fun _ => D.bl true))).bind listB).map (fun bs => D.bl (bs.all _root_.id)) = _
    rw [show getL S (.lst ((List.range' 0 ds.length).map fun _ => D.bl true)) = some ((List.range' 0 ds.length).map fun _ => D.bl true) from rfl, Option.bind_some, listB_const, Option.map_some, all_const]
  rw [hl] at la
  rcases htl with ⟨t1, t2, t3⟩ | ⟨t1, t2, t3⟩
  · simp only [Cr.d14, Cr.b14, evE_var, evE_int, evE_str, evE_bl, evE_non, evE_bin, evE_neg, evE_cmp, evE_isN, evE_notN, evE_chain, evE_and, evE_or, evE_not, evE_ite, evE_tup, evE_frz, evE_live, evE_call, evE_dead, evE_lim, evE_blt, evE_isi, evE_divm, evE_tupOf, evE_idx, evE_slS, evE_join, evE_mt1, evE_fld, evE_meth, evE_new, evE_dnil, evE_get2, evE_dcopy, evO_none, evO_some, evEs_nil, evEs_cons, evT_val, evT_tru, evT_and, evT_or, evT_not, evAnd_one, evAnd_cons, evOr_one, evOr_cons, evF_lst, evF_comp, evF_listOf, evF_listRng, evF_cat, evF_rep, evF_slL, evF_split, evF_splitMax, evC_nil, evC_one, evI_seq_true, evI_seq_false, evI_str, evI_rng1, evI_rng2, evI_enumL, evI_enumS, exC_pass, exC_dead, exC_nil, exC_cons, exC_exp, exC_app, exC_set, exC_setc, exC_aug, exC_setIx, exC_setKy, exC_setFd, exC_noneFault, exC_augIx, exC_two, exC_ret, exC_retN, exC_ite, exC_for, exC_while, exC_brk, exC_cnt, exC_raise, exC_fault, bind_ok, bind_exc, of_some, st_ok, st_exc, then_nx, then_ret, then_exc, then_bk, then_ct, start_eq, List.map_cons, List.map_nil, List.length_cons, List.length_nil, List.cons_append, List.nil_append, List.replicate, List.getElem?_cons_zero, List.getElem?_cons_succ, List.set_cons_zero, List.set_cons_succ, Option.map_some, Nat.reduceAdd, Nat.reduceSub, Nat.zero_add, h7, h7', hb, hb', hi, hs, hd, t1, t2, t3, la, ld, h9, cop, Bool.not_true, if_true, if_false, Bool.false_eq_true, if_pos hr62, Int.toNat_natCast, if_pos hitems, e, hall]
    exact fin_sca rfl
  · simp only [Cr.d14, Cr.b14, evE_var, evE_int, evE_str, evE_bl, evE_non, evE_bin, evE_neg, evE_cmp, evE_isN, evE_notN, evE_chain, evE_and, evE_or, evE_not, evE_ite, evE_tup, evE_frz, evE_live, evE_call, evE_dead, evE_lim, evE_blt, evE_isi, evE_divm, evE_tupOf, evE_idx, evE_slS, evE_join, evE_mt1, evE_fld, evE_meth, evE_new, evE_dnil, evE_get2, evE_dcopy, evO_none, evO_some, evEs_nil, evEs_cons, evT_val, evT_tru, evT_and, evT_or, evT_not, evAnd_one, evAnd_cons, evOr_one, evOr_cons, evF_lst, evF_comp, evF_listOf, evF_listRng, evF_cat, evF_rep, evF_slL, evF_split, evF_splitMax, evC_nil, evC_one, evI_seq_true, evI_seq_false, evI_str, evI_rng1, evI_rng2, evI_enumL, evI_enumS, exC_pass, exC_dead, exC_nil, exC_cons, exC_exp, exC_app, exC_set, exC_setc, exC_aug, exC_setIx, exC_setKy, exC_setFd, exC_noneFault, exC_augIx, exC_two, exC_ret, exC_retN, exC_ite, exC_for, exC_while, exC_brk, exC_cnt, exC_raise, exC_fault, bind_ok, bind_exc, of_some, st_ok, st_exc, then_nx, then_ret, then_exc, then_bk, then_ct, start_eq, List.map_cons, List.map_nil, List.length_cons, List.length_nil, List.cons_append, List.nil_append, List.replicate, List.getElem?_cons_zero, List.getElem?_cons_succ, List.set_cons_zero, List.set_cons_succ, Option.map_some, Nat.reduceAdd, Nat.reduceSub, Nat.zero_add, h7, h7', hb, hb', hi, hs, hd, t1, t2, t3, la, ld, h9, cop, Bool.not_true, if_true, if_false, Bool.false_eq_true, if_pos hr62, Int.toNat_natCast, if_pos hitems, e, hall]
    exact fin_sca rfl
/-- alike, whatever lists of the store stand for lists -/
inductive Sim (S : Sto) : Nat → D → D → Prop
  | str (n : Nat) (x : Str) : Sim S n (.str x) (.str x)
  | int (n : Nat) (i : Int) : Sim S n (.int i) (.int i)
  | tup (n : Nat) (as ds : List D) : as.length = ds.length → ds.length ≤ 1000000 → (∀ (i : Nat) (u v : D), as[i]? = some u → ds[i]? = some v → Sim S n u v) → Sim S (n + 1) (.tup as) (.tup ds)
  | lst (n : Nat) (as ds : List D) : as.length = ds.length → ds.length ≤ 1000000 → (∀ (i : Nat) (u v : D), as[i]? = some u → ds[i]? = some v → Sim S n u v) → Sim S (n + 1) (.lst as) (.lst ds)
  | loc (n m : Nat) (as ds : List D) : S[m]? = some (.lst as) → as.length = ds.length → ds.length ≤ 1000000 → (∀ (i : Nat) (u v : D), as[i]? = some u → ds[i]? = some v → Sim S n u v) → Sim S (n + 1) (.loc m) (.lst ds)
theorem Sim.mono {S : Sto} {n : Nat} {a d : D} (h : Sim S n a d) : ∀ {m : Nat}, n ≤ m → Sim S m a d := by
  induction h with
  | str n x => exact fun _ => .str _ x
  | int n x => exact fun _ => .int _ x
  | tup n as ds h1 h2 h3 ih =>
    intro m hm
    obtain ⟨m, rfl⟩ : ∃ q, m = q + 1 := ⟨m - 1, by omega⟩
    exact .tup m as ds h1 h2 fun i u v e1 e2 => ih i u v e1 e2 (by omega)
  | lst n as ds h1 h2 h3 ih =>
    intro m hm
    obtain ⟨m, rfl⟩ : ∃ q, m = q + 1 := ⟨m - 1, by omega⟩
    exact .lst m as ds h1 h2 fun i u v e1 e2 => ih i u v e1 e2 (by omega)
  | loc n p as ds h0 h1 h2 h3 ih =>
    intro m hm
    obtain ⟨m, rfl⟩ : ∃ q, m = q + 1 := ⟨m - 1, by omega⟩
    exact .loc m p as ds h0 h1 h2 fun i u v e1 e2 => ih i u v e1 e2 (by omega)
theorem same_ok : ∀ (n k : Nat) (a d : D) (S : Sto), Sim S n a d → run Cr.P (k + n + 1) 14 [a, d] S = .ok (.bl true) S
  | _, _, _, _, S, .str n x => same_str
  | _, _, _, _, S, .int n x => same_int
  | _, k, _, _, S, .tup n as ds h1 h2 h3 => same_seq (as := as) (ds := ds) rfl rfl rfl rfl rfl rfl rfl (.inl ⟨rfl, rfl, rfl⟩) rfl rfl (fun j => idx_at) (fun j => idx_at) h1 h2 fun i u v e1 e2 => same_ok n k u v S (h3 i u v e1 e2)
  | _, k, _, _, S, .lst n as ds h1 h2 h3 => same_seq (as := as) (ds := ds) rfl rfl rfl rfl rfl rfl rfl (.inr ⟨rfl, rfl, rfl⟩) rfl rfl (fun j => idx_at) (fun j => idx_at) h1 h2 fun i u v e1 e2 => same_ok n k u v S (h3 i u v e1 e2)
  | _, k, _, _, S, .loc n m as ds h0 h1 h2 h3 => by
    have hg : getL S (.loc m) = some as := by
      show (match S[m]? with
        | some (.lst xs) => some xs
        | _ => none) = _
      rw [h0]
    have ht : ∀ t : Ty, isTy S t (.loc m) = some (t == Ty.list) := fun t => by
      show (match S[m]? with
        | some (.lst _) => some (t == Ty.list)
        | _ => none) = _
      rw [h0]
    refine same_seq (a := .loc m) (d := .lst ds) (as := as) (ds := ds) rfl rfl rfl (ht _) rfl rfl rfl (.inr ⟨rfl, rfl, ht _⟩) ?_ rfl (fun j => ?_) (fun j => idx_at) h1 h2 fun i u v e1 e2 => same_ok n k u v S (h3 i u v e1 e2)
    · show (getL S (.loc m)).map (fun xs : List D => D.int xs.length) = _
      rw [hg]
      rfl
    · show (getL S (.loc m)).bind (fun xs => L2.atI xs (j : Int)) = _
      rw [hg]
      exact idx_at
theorem sim_strs {S : Sto} {n : Nat} {ls : List (List Nat)} : ∀ (i : Nat) (u v : D), (ls.map strW)[i]? = some u → (ls.map strW)[i]? = some v → Sim S n u v := fun i u v e1 e2 => by
  rw [e1] at e2
  cases e2
  rw [List.getElem?_map] at e1
  obtain ⟨l, _, rfl⟩ := Option.map_eq_some_iff.mp e1
  exact .str _ _
theorem sim_two {S : Sto} {n : Nat} {a b c d : D} (h1 : Sim S n a c) (h2 : Sim S n b d) : ∀ (i : Nat) (u v : D), ([a, b] : List D)[i]? = some u → ([c, d] : List D)[i]? = some v → Sim S n u v
  | 0, u, v, e1, e2 => by cases e1; cases e2; exact h1
  | 1, u, v, e1, e2 => by cases e1; cases e2; exact h2
  | i + 2, u, v, e1, e2 => by cases e1
theorem sim_three {S : Sto} {n : Nat} {a b c a' b' c' : D} (h1 : Sim S n a a') (h2 : Sim S n b b') (h3 : Sim S n c c') : ∀ (i : Nat) (u v : D), ([a, b, c] : List D)[i]? = some u → ([a', b', c'] : List D)[i]? = some v → Sim S n u v
  | 0, u, v, e1, e2 => by cases e1; cases e2; exact h1
  | 1, u, v, e1, e2 => by cases e1; cases e2; exact h2
  | 2, u, v, e1, e2 => by cases e1; cases e2; exact h3
  | i + 3, u, v, e1, e2 => by cases e1
theorem sim_one {S : Sto} {n : Nat} {a a' : D} (h1 : Sim S n a a') : ∀ (i : Nat) (u v : D), ([a] : List D)[i]? = some u → ([a'] : List D)[i]? = some v → Sim S n u v
  | 0, u, v, e1, e2 => by cases e1; cases e2; exact h1
  | i + 1, u, v, e1, e2 => by cases e1
end Ma
end
section
set_option Elab.async false
set_option linter.all false
set_option maxRecDepth 100000
set_option maxHeartbeats 4000000
set_option exponentiation.threshold 10000
namespace Ma
open Pi PySem PySem.Spec PyProof.Rows TL
def Sv (a b c : Int) (T : Sto) : Sto := L.lst [.int a, .int b, .int c] :: T
/-- the source's three numbers, after at most n draws -/
structure SvOk (n : Nat) (a b c : Int) : Prop where
  a0 : 0 ≤ a
  a1 : a < 2 ^ 500
  b0 : 0 ≤ b
  b1 : b < 2147483647
  c0 : 0 ≤ c
  c1 : c ≤ n
theorem SvOk.mono {n m : Nat} {a b c : Int} (h : SvOk n a b c) (l : n ≤ m) : SvOk m a b c := ⟨h.a0, h.a1, h.b0, h.b1, h.c0, by have := h.c1; omega⟩
theorem fin_np {S0 S : Sto} {d : D} : fin false S0 (.ret d S) = .ok d S := rfl
theorem pick_ok {k n : Nat} {a b c : Int} {many : Int} {T : Sto} (h : SvOk n a b c) (hn : n ≤ 1000000000) (h1 : 1 ≤ many) (h2 : many ≤ 2 ^ 60) :
    ∃ r a' b' c', run Cr.P (k + 1) 13 [.loc 0, .int many] (Sv a b c T) = .ok (.int r) (Sv a' b' c' T) ∧ 0 ≤ r ∧ r < many ∧ SvOk (n + 1) a' b' c' := by
  obtain ⟨a0, a1, b0, b1, c0, c1⟩ := h
  rw [run_eq (df := Cr.d13) rfl rfl]
  have i0 : ∀ a b c : Int, idx (Sv a b c T) (.loc 0) (.int 0) = some (.int a) := fun _ _ _ => rfl
  have i1 : ∀ a b c : Int, idx (Sv a b c T) (.loc 0) (.int 1) = some (.int b) := fun _ _ _ => rfl
  have i2 : ∀ a b c : Int, idx (Sv a b c T) (.loc 0) (.int 2) = some (.int c) := fun _ _ _ => rfl
  have o0 : ∀ a b c : Int, own (Sv a b c T) (.loc 0) = some (0, [.int a, .int b, .int c]) := fun _ _ _ => rfl
  have x0 : L2.ixN 3 0 = some 0 := by decide
  have x1 : L2.ixN 3 1 = some 1 := by decide
  have x2 : L2.ixN 3 2 = some 2 := by decide
  have bi : ∀ (S : Sto) (i : Int), blt S .int (.int i) = some (.int i) := fun _ _ => rfl
  have s0 : ∀ a b c z : Int, (Sv a b c T).set 0 (L.lst [.int z, .int b, .int c]) = Sv z b c T := fun _ _ _ _ => rfl
  have s1 : ∀ a b c z : Int, (Sv a b c T).set 0 (L.lst [.int a, .int z, .int c]) = Sv a z c T := fun _ _ _ _ => rfl
  have s2 : ∀ a b c z : Int, (Sv a b c T).set 0 (L.lst [.int a, .int b, .int z]) = Sv a b z T := fun _ _ _ _ => rfl
  have hm : 0 < many := by omega
  by_cases ha : 0 < a
  · refine ⟨a % many, a / many, b, c, ?_, Int.emod_nonneg _ (by omega), Int.emod_lt_of_pos _ hm, ⟨Int.ediv_nonneg a0 (by omega), ?_, b0, b1, c0, by omega⟩⟩
    · have hf : bop .fdiv (.int a) (.int many) = some (.int (a / many)) := fdivI hm (by omega)
      have hmod : bop .mod (.int a) (.int many) = some (.int (a % many)) := modI hm
      simp only [Cr.d13, Cr.b13, evE_var, evE_int, evE_str, evE_bl, evE_non, evE_bin, evE_neg, evE_cmp, evE_isN, evE_notN, evE_chain, evE_and, evE_or, evE_not, evE_ite, evE_tup, evE_frz, evE_live, evE_call, evE_dead, evE_lim, evE_blt, evE_isi, evE_divm, evE_tupOf, evE_idx, evE_slS, evE_join, evE_mt1, evE_fld, evE_meth, evE_new, evE_dnil, evE_get2, evE_dcopy, evO_none, evO_some, evEs_nil, evEs_cons, evT_val, evT_tru, evT_and, evT_or, evT_not, evAnd_one, evAnd_cons, evOr_one, evOr_cons, evF_lst, evF_comp, evF_listOf, evF_listRng, evF_cat, evF_rep, evF_slL, evF_split, evF_splitMax, evC_nil, evC_one, evI_seq_true, evI_seq_false, evI_str, evI_rng1, evI_rng2, evI_enumL, evI_enumS, exC_pass, exC_dead, exC_nil, exC_cons, exC_exp, exC_app, exC_set, exC_setc, exC_aug, exC_setIx, exC_setKy, exC_setFd, exC_noneFault, exC_augIx, exC_two, exC_ret, exC_retN, exC_ite, exC_for, exC_while, exC_brk, exC_cnt, exC_raise, exC_fault, bind_ok, bind_exc, of_some, st_ok, st_exc, then_nx, then_ret, then_exc, then_bk, then_ct, start_eq, List.map_cons, List.map_nil, List.length_cons, List.length_nil, List.cons_append, List.nil_append, List.replicate, List.getElem?_cons_zero, List.getElem?_cons_succ, List.set_cons_zero, List.set_cons_succ, Option.map_some, Nat.reduceAdd, Nat.reduceSub, Nat.zero_add, i0, cop, decide_eq_true ha, if_true, bi, hmod, hf, o0, x0, s0]
      rfl
    · have := Int.ediv_le_self many a0
      omega
  · have hc1 : (c + 1).natAbs < 2 ^ 600 := by omega
    have m1 : bop .mul (.int b) (.int 48271) = some (.int (b * 48271)) := mulI (by omega) (by decide)
    have m2 : bop .mul (.int (c + 1)) (.int 70001) = some (.int ((c + 1) * 70001)) := mulI hc1 (by decide)
    have q1 : bop .mod (.int (b * 48271 + (c + 1) * 70001)) (.int 2147483647) = some (.int ((b * 48271 + (c + 1) * 70001) % 2147483647)) := modI (by decide)
    have p0 := Int.emod_nonneg (b * 48271 + (c + 1) * 70001) (show (2147483647 : Int) ≠ 0 by decide)
    have p1 := Int.emod_lt_of_pos (b * 48271 + (c + 1) * 70001) (show (0 : Int) < 2147483647 by decide)
    generalize hb2 : (b * 48271 + (c + 1) * 70001) % 2147483647 = b2 at q1 p0 p1
    have m3 : bop .mul (.int b2) (.int 16807) = some (.int (b2 * 16807)) := mulI (by omega) (by decide)
    have m4 : bop .mul (.int (c + 1)) (.int 6301) = some (.int ((c + 1) * 6301)) := mulI hc1 (by decide)
    have q2 : bop .mod (.int (b2 * 16807 + (c + 1) * 6301)) (.int 2147483629) = some (.int ((b2 * 16807 + (c + 1) * 6301) % 2147483629)) := modI (by decide)
    have q3 : bop .fdiv (.int ((b2 * 16807 + (c + 1) * 6301) % 2147483629)) (.int 8) = some (.int ((b2 * 16807 + (c + 1) * 6301) % 2147483629 / 8)) := fdivI (by decide) (by decide)
    have q4 : bop .mod (.int ((b2 * 16807 + (c + 1) * 6301) % 2147483629 / 8)) (.int many) = some (.int ((b2 * 16807 + (c + 1) * 6301) % 2147483629 / 8 % many)) := modI hm
    have k2 : (0 : Int) ≤ 2 ∧ (2 : Int) < 2 ^ 63 := by decide
    have g2 : ([D.int a, D.int b, D.int c])[(2 : Int).toNat]? = some (.int c) := rfl
    refine ⟨(b2 * 16807 + (c + 1) * 6301) % 2147483629 / 8 % many, a, b2, c + 1, ?_, Int.emod_nonneg _ (by omega), Int.emod_lt_of_pos _ hm, ⟨a0, a1, p0, p1, by omega, by omega⟩⟩
    simp only [Cr.d13, Cr.b13, evE_var, evE_int, evE_str, evE_bl, evE_non, evE_bin, evE_neg, evE_cmp, evE_isN, evE_notN, evE_chain, evE_and, evE_or, evE_not, evE_ite, evE_tup, evE_frz, evE_live, evE_call, evE_dead, evE_lim, evE_blt, evE_isi, evE_divm, evE_tupOf, evE_idx, evE_slS, evE_join, evE_mt1, evE_fld, evE_meth, evE_new, evE_dnil, evE_get2, evE_dcopy, evO_none, evO_some, evEs_nil, evEs_cons, evT_val, evT_tru, evT_and, evT_or, evT_not, evAnd_one, evAnd_cons, evOr_one, evOr_cons, evF_lst, evF_comp, evF_listOf, evF_listRng, evF_cat, evF_rep, evF_slL, evF_split, evF_splitMax, evC_nil, evC_one, evI_seq_true, evI_seq_false, evI_str, evI_rng1, evI_rng2, evI_enumL, evI_enumS, exC_pass, exC_dead, exC_nil, exC_cons, exC_exp, exC_app, exC_set, exC_setc, exC_aug, exC_setIx, exC_setKy, exC_setFd, exC_noneFault, exC_augIx, exC_two, exC_ret, exC_retN, exC_ite, exC_for, exC_while, exC_brk, exC_cnt, exC_raise, exC_fault, bind_ok, bind_exc, of_some, st_ok, st_exc, then_nx, then_ret, then_exc, then_bk, then_ct, start_eq, List.map_cons, List.map_nil, List.length_cons, List.length_nil, List.cons_append, List.nil_append, List.replicate, List.getElem?_cons_zero, List.getElem?_cons_succ, List.set_cons_zero, List.set_cons_succ, Option.map_some, Nat.reduceAdd, Nat.reduceSub, Nat.zero_add, i0, cop, decide_eq_false ha, Bool.false_eq_true, if_false, o0, if_pos k2, g2, augD, x2, s2, i1, i2, bi, m1, m2, addI, q1, x1, s1, m3, m4, q2, q3, q4]
    rfl
theorem powI {i : Int} {j : Nat} (h : j ≤ 1000000) (h2 : i.natAbs < 2 ^ 64) : bop .pow (.int i) (.int (j : Int)) = some (.int (i ^ j)) := by
  show (if 0 ≤ (j : Int) ∧ (j : Int) ≤ 1000000 ∧ i.natAbs < 2 ^ 64 then some (D.int (i ^ (j : Int).toNat)) else none) = _
  rw [if_pos ⟨by omega, by omega, h2⟩, Int.toNat_natCast]
theorem source_ok {k : Nat} {ns : List Int} : ∃ a b, SvOk 0 a b 0 ∧ run Cr.P (k + 1) 12 [.scr ns, .int 0] [] = .ok (.loc 0) (Sv a b 0 []) := by
  generalize hS : ([] : Sto) = S
  rw [run_eq (df := Cr.d12) rfl rfl]
  have bi : ∀ (S : Sto) (i : Int), blt S .int (.int i) = some (.int i) := fun _ _ => rfl
  have hlen : blt S .len (.scr ns) = some (.int ns.length) := by
    show some (D.int ((ns.map D.int).length : Int)) = _
    rw [List.length_map]
  -- the first number
  have hcell : ∃ cell : Int, evE (run Cr.P k) (.ite (.val (.cmp .lt (.var 1) (.blt .len (.var 0)))) (.blt .int (.idx (.var 0) (.var 1))) (.bin .add (.bin .mul (.int 37) (.blt .sum (.frz (.comp (.nm 2) (.seq false (.frz (.slL (.var 0) .none (.some (.int 6))))) .nil (.bin .mod (.blt .int (.var 2)) (.int 999961)) [("one", 2)])))) (.int 23)))
      [some (.scr ns), some (.int 0), none, none, none, none] S = .ok (.int cell) S := by
    cases ns with
    | nil =>
      refine ⟨23, ?_⟩
      have h0 : ¬ ((0 : Int) < (([] : List Int).length : Int)) := by decide
      have g0 : getL S (.scr []) = some [] := rfl
      have g1 : getL S (.lst []) = some [] := rfl
      have lo : lown (.lst []) = none := rfl
      have c0 : cutL ([] : List D) none (some 6) = [] := by
        unfold cutL
        rw [List.drop_nil, List.take_nil]
      have sm : blt S .sum (.lst []) = some (.int 0) := rfl
      have m0 : bop .mul (.int 37) (.int 0) = some (.int 0) := mulI (by decide) (by decide)
      simp only [evE_var, evE_int, evE_str, evE_bl, evE_non, evE_bin, evE_neg, evE_cmp, evE_isN, evE_notN, evE_chain, evE_and, evE_or, evE_not, evE_ite, evE_tup, evE_frz, evE_live, evE_call, evE_dead, evE_lim, evE_blt, evE_isi, evE_divm, evE_tupOf, evE_idx, evE_slS, evE_join, evE_mt1, evE_fld, evE_meth, evE_new, evE_dnil, evE_get2, evE_dcopy, evO_none, evO_some, evEs_nil, evEs_cons, evT_val, evT_tru, evT_and, evT_or, evT_not, evAnd_one, evAnd_cons, evOr_one, evOr_cons, evF_lst, evF_comp, evF_listOf, evF_listRng, evF_cat, evF_rep, evF_slL, evF_split, evF_splitMax, evC_nil, evC_one, evI_seq_true, evI_seq_false, evI_str, evI_rng1, evI_rng2, evI_enumL, evI_enumS, exC_pass, exC_dead, exC_nil, exC_cons, exC_exp, exC_app, exC_set, exC_setc, exC_aug, exC_setIx, exC_setKy, exC_setFd, exC_noneFault, exC_augIx, exC_two, exC_ret, exC_retN, exC_ite, exC_for, exC_while, exC_brk, exC_cnt, exC_raise, exC_fault, bind_ok, bind_exc, of_some, st_ok, st_exc, then_nx, then_ret, then_exc, then_bk, then_ct, start_eq, List.map_cons, List.map_nil, List.length_cons, List.length_nil, List.cons_append, List.nil_append, List.replicate, List.getElem?_cons_zero, List.getElem?_cons_succ, List.set_cons_zero, List.set_cons_succ, Option.map_some, Nat.reduceAdd, Nat.reduceSub, Nat.zero_add, hlen, cop, decide_eq_false h0, Bool.false_eq_true, if_false, g0, g1, lo, c0, show 0 ≤ SMAX from by decide, if_true, compL_nil, sm, m0, addI]
      rfl
    | cons x ns =>
      refine ⟨x, ?_⟩
      have h0 : (0 : Int) < (((x :: ns).length : Nat) : Int) := by rw [List.length_cons]; omega
      have hi : idx S (.scr (x :: ns)) (.int 0) = some (.int x) := by
        show L2.atI ((x :: ns).map D.int) 0 = _
        unfold L2.atI L2.ixN
        rw [if_pos (by decide), List.length_map, if_pos h0]
        rfl
      simp only [evE_ite, evT_val, evE_cmp, evE_var, evE_blt, evE_idx, List.getElem?_cons_zero, List.getElem?_cons_succ, bind_ok, of_some, hlen, cop, decide_eq_true h0, Option.map_some, if_true, hi, bi]
  obtain ⟨cell, hc⟩ := hcell
  have p60 : bop .pow (.int 10) (.int 60) = some (.int (10 ^ 60)) := powI (j := 60) (by decide) (by decide)
  have p18 : bop .pow (.int 10) (.int 18) = some (.int (10 ^ 18)) := powI (j := 18) (by decide) (by decide)
  have mB : bop .mul (.int (10 ^ 60)) (.int (10 ^ 60)) = some (.int (10 ^ 60 * 10 ^ 60)) := mulI (by decide) (by decide)
  have hab : blt S .abs (.int cell) = some (.int (if cell < 0 then -cell else cell)) := rfl
  have hB : (0 : Int) < 10 ^ 60 * 10 ^ 60 := by decide
  have md : bop .mod (.int (if cell < 0 then -cell else cell)) (.int (10 ^ 60 * 10 ^ 60)) = some (.int ((if cell < 0 then -cell else cell) % (10 ^ 60 * 10 ^ 60))) := modI hB
  have z0 := Int.emod_nonneg (if cell < 0 then -cell else cell) (show ((10 : Int) ^ 60 * 10 ^ 60) ≠ 0 by decide)
  have z1 := Int.emod_lt_of_pos (if cell < 0 then -cell else cell) hB
  generalize (if cell < 0 then -cell else cell) % (10 ^ 60 * 10 ^ 60) = size at md z0 z1
  have z2 : size < 2 ^ 400 := Int.lt_trans z1 (by decide)
  have m2 : bop .mul (.int 2) (.int size) = some (.int (2 * size)) := mulI (by decide) (by omega)
  have m0 : bop .mul (.int 0) (.int 120011) = some (.int 0) := mulI (by decide) (by decide)
  have hone : ∃ o : Int, evE (run Cr.P k) (.ite (.val (.cmp .lt (.var 3) (.int 0))) (.int 1) (.int 0)) [some (.scr ns), some (.int 0), none, some (.int cell), some (.int size), none] S = .ok (.int o) S := by
    by_cases h : cell < 0
    · exact ⟨1, by simp only [evE_var, evE_int, evE_str, evE_bl, evE_non, evE_bin, evE_neg, evE_cmp, evE_isN, evE_notN, evE_chain, evE_and, evE_or, evE_not, evE_ite, evE_tup, evE_frz, evE_live, evE_call, evE_dead, evE_lim, evE_blt, evE_isi, evE_divm, evE_tupOf, evE_idx, evE_slS, evE_join, evE_mt1, evE_fld, evE_meth, evE_new, evE_dnil, evE_get2, evE_dcopy, evO_none, evO_some, evEs_nil, evEs_cons, evT_val, evT_tru, evT_and, evT_or, evT_not, evAnd_one, evAnd_cons, evOr_one, evOr_cons, evF_lst, evF_comp, evF_listOf, evF_listRng, evF_cat, evF_rep, evF_slL, evF_split, evF_splitMax, evC_nil, evC_one, evI_seq_true, evI_seq_false, evI_str, evI_rng1, evI_rng2, evI_enumL, evI_enumS, exC_pass, exC_dead, exC_nil, exC_cons, exC_exp, exC_app, exC_set, exC_setc, exC_aug, exC_setIx, exC_setKy, exC_setFd, exC_noneFault, exC_augIx, exC_two, exC_ret, exC_retN, exC_ite, exC_for, exC_while, exC_brk, exC_cnt, exC_raise, exC_fault, bind_ok, bind_exc, of_some, st_ok, st_exc, then_nx, then_ret, then_exc, then_bk, then_ct, start_eq, List.map_cons, List.map_nil, List.length_cons, List.length_nil, List.cons_append, List.nil_append, List.replicate, List.getElem?_cons_zero, List.getElem?_cons_succ, List.set_cons_zero, List.set_cons_succ, Option.map_some, Nat.reduceAdd, Nat.reduceSub, Nat.zero_add, cop, decide_eq_true h, if_true]⟩
    · exact ⟨0, by simp only [evE_var, evE_int, evE_str, evE_bl, evE_non, evE_bin, evE_neg, evE_cmp, evE_isN, evE_notN, evE_chain, evE_and, evE_or, evE_not, evE_ite, evE_tup, evE_frz, evE_live, evE_call, evE_dead, evE_lim, evE_blt, evE_isi, evE_divm, evE_tupOf, evE_idx, evE_slS, evE_join, evE_mt1, evE_fld, evE_meth, evE_new, evE_dnil, evE_get2, evE_dcopy, evO_none, evO_some, evEs_nil, evEs_cons, evT_val, evT_tru, evT_and, evT_or, evT_not, evAnd_one, evAnd_cons, evOr_one, evOr_cons, evF_lst, evF_comp, evF_listOf, evF_listRng, evF_cat, evF_rep, evF_slL, evF_split, evF_splitMax, evC_nil, evC_one, evI_seq_true, evI_seq_false, evI_str, evI_rng1, evI_rng2, evI_enumL, evI_enumS, exC_pass, exC_dead, exC_nil, exC_cons, exC_exp, exC_app, exC_set, exC_setc, exC_aug, exC_setIx, exC_setKy, exC_setFd, exC_noneFault, exC_augIx, exC_two, exC_ret, exC_retN, exC_ite, exC_for, exC_while, exC_brk, exC_cnt, exC_raise, exC_fault, bind_ok, bind_exc, of_some, st_ok, st_exc, then_nx, then_ret, then_exc, then_bk, then_ct, start_eq, List.map_cons, List.map_nil, List.length_cons, List.length_nil, List.cons_append, List.nil_append, List.replicate, List.getElem?_cons_zero, List.getElem?_cons_succ, List.set_cons_zero, List.set_cons_succ, Option.map_some, Nat.reduceAdd, Nat.reduceSub, Nat.zero_add, cop, decide_eq_false h, Bool.false_eq_true, if_false]⟩
  obtain ⟨o, ho⟩ := hone
  have ms : bop .mod (.int (2 * size + o + 0 + 80021)) (.int 2147483629) = some (.int ((2 * size + o + 0 + 80021) % 2147483629)) := modI (by decide)
  have w0 := Int.emod_nonneg (2 * size + o + 0 + 80021) (show (2147483629 : Int) ≠ 0 by decide)
  have w1 := Int.emod_lt_of_pos (2 * size + o + 0 + 80021) (show (0 : Int) < 2147483629 by decide)
  generalize (2 * size + o + 0 + 80021) % 2147483629 = small at ms w0 w1
  have mm : bop .mul (.int (small + 6101)) (.int (small + 90011)) = some (.int ((small + 6101) * (small + 90011))) := mulI (by omega) (by omega)
  have mq : bop .mod (.int ((small + 6101) * (small + 90011))) (.int 2147483629) = some (.int ((small + 6101) * (small + 90011) % 2147483629)) := modI (by decide)
  have hsz : ∃ a : Int, (0 ≤ a ∧ a < 2 ^ 500) ∧ evE (run Cr.P k) (.ite (.val (.cmp .ge (.var 4) (.bin .pow (.int 10) (.int 18)))) (.var 4) (.int 0)) [some (.scr ns), some (.int 0), none, some (.int cell), some (.int size), some (.int small)] S = .ok (.int a) S := by
    by_cases h : (10 : Int) ^ 18 ≤ size
    · exact ⟨size, ⟨z0, by omega⟩, by simp only [evE_var, evE_int, evE_str, evE_bl, evE_non, evE_bin, evE_neg, evE_cmp, evE_isN, evE_notN, evE_chain, evE_and, evE_or, evE_not, evE_ite, evE_tup, evE_frz, evE_live, evE_call, evE_dead, evE_lim, evE_blt, evE_isi, evE_divm, evE_tupOf, evE_idx, evE_slS, evE_join, evE_mt1, evE_fld, evE_meth, evE_new, evE_dnil, evE_get2, evE_dcopy, evO_none, evO_some, evEs_nil, evEs_cons, evT_val, evT_tru, evT_and, evT_or, evT_not, evAnd_one, evAnd_cons, evOr_one, evOr_cons, evF_lst, evF_comp, evF_listOf, evF_listRng, evF_cat, evF_rep, evF_slL, evF_split, evF_splitMax, evC_nil, evC_one, evI_seq_true, evI_seq_false, evI_str, evI_rng1, evI_rng2, evI_enumL, evI_enumS, exC_pass, exC_dead, exC_nil, exC_cons, exC_exp, exC_app, exC_set, exC_setc, exC_aug, exC_setIx, exC_setKy, exC_setFd, exC_noneFault, exC_augIx, exC_two, exC_ret, exC_retN, exC_ite, exC_for, exC_while, exC_brk, exC_cnt, exC_raise, exC_fault, bind_ok, bind_exc, of_some, st_ok, st_exc, then_nx, then_ret, then_exc, then_bk, then_ct, start_eq, List.map_cons, List.map_nil, List.length_cons, List.length_nil, List.cons_append, List.nil_append, List.replicate, List.getElem?_cons_zero, List.getElem?_cons_succ, List.set_cons_zero, List.set_cons_succ, Option.map_some, Nat.reduceAdd, Nat.reduceSub, Nat.zero_add, cop, p18, decide_eq_true h, if_true]⟩
    · exact ⟨0, ⟨by decide, by decide⟩, by simp only [evE_var, evE_int, evE_str, evE_bl, evE_non, evE_bin, evE_neg, evE_cmp, evE_isN, evE_notN, evE_chain, evE_and, evE_or, evE_not, evE_ite, evE_tup, evE_frz, evE_live, evE_call, evE_dead, evE_lim, evE_blt, evE_isi, evE_divm, evE_tupOf, evE_idx, evE_slS, evE_join, evE_mt1, evE_fld, evE_meth, evE_new, evE_dnil, evE_get2, evE_dcopy, evO_none, evO_some, evEs_nil, evEs_cons, evT_val, evT_tru, evT_and, evT_or, evT_not, evAnd_one, evAnd_cons, evOr_one, evOr_cons, evF_lst, evF_comp, evF_listOf, evF_listRng, evF_cat, evF_rep, evF_slL, evF_split, evF_splitMax, evC_nil, evC_one, evI_seq_true, evI_seq_false, evI_str, evI_rng1, evI_rng2, evI_enumL, evI_enumS, exC_pass, exC_dead, exC_nil, exC_cons, exC_exp, exC_app, exC_set, exC_setc, exC_aug, exC_setIx, exC_setKy, exC_setFd, exC_noneFault, exC_augIx, exC_two, exC_ret, exC_retN, exC_ite, exC_for, exC_while, exC_brk, exC_cnt, exC_raise, exC_fault, bind_ok, bind_exc, of_some, st_ok, st_exc, then_nx, then_ret, then_exc, then_bk, then_ct, start_eq, List.map_cons, List.map_nil, List.length_cons, List.length_nil, List.cons_append, List.nil_append, List.replicate, List.getElem?_cons_zero, List.getElem?_cons_succ, List.set_cons_zero, List.set_cons_succ, Option.map_some, Nat.reduceAdd, Nat.reduceSub, Nat.zero_add, cop, p18, decide_eq_false h, Bool.false_eq_true, if_false]⟩
  obtain ⟨a, ⟨ha0, ha1⟩, ha⟩ := hsz
  refine ⟨a, (small + 6101) * (small + 90011) % 2147483629, ⟨ha0, ha1, Int.emod_nonneg _ (by decide), Int.lt_trans (Int.emod_lt_of_pos _ (by decide)) (by decide), by decide, by decide⟩, ?_⟩
  simp only [Cr.d12, Cr.b12, evE_var, evE_int, evE_str, evE_bl, evE_non, evE_bin, evE_neg, evE_cmp, evE_isN, evE_notN, evE_chain, evE_and, evE_or, evE_not, evE_tup, evE_frz, evE_live, evE_call, evE_dead, evE_lim, evE_blt, evE_isi, evE_divm, evE_tupOf, evE_idx, evE_slS, evE_join, evE_mt1, evE_fld, evE_meth, evE_new, evE_dnil, evE_get2, evE_dcopy, evO_none, evO_some, evEs_nil, evEs_cons, evT_val, evT_tru, evT_and, evT_or, evT_not, evAnd_one, evAnd_cons, evOr_one, evOr_cons, evF_lst, evF_comp, evF_listOf, evF_listRng, evF_cat, evF_rep, evF_slL, evF_split, evF_splitMax, evC_nil, evC_one, evI_seq_true, evI_seq_false, evI_str, evI_rng1, evI_rng2, evI_enumL, evI_enumS, exC_pass, exC_dead, exC_nil, exC_cons, exC_exp, exC_app, exC_set, exC_setc, exC_aug, exC_setIx, exC_setKy, exC_setFd, exC_noneFault, exC_augIx, exC_two, exC_ret, exC_retN, exC_ite, exC_for, exC_while, exC_brk, exC_cnt, exC_raise, exC_fault, bind_ok, bind_exc, of_some, st_ok, st_exc, then_nx, then_ret, then_exc, then_bk, then_ct, start_eq, List.map_cons, List.map_nil, List.length_cons, List.length_nil, List.cons_append, List.nil_append, List.replicate, List.getElem?_cons_zero, List.getElem?_cons_succ, List.set_cons_zero, List.set_cons_succ, Option.map_some, Nat.reduceAdd, Nat.reduceSub, Nat.zero_add, hc, hab, p60, mB, md, m2, ho, m0, addI, bi, ms, ha, mm, mq, show 3 ≤ SMAX from by decide, if_true]
  subst hS
  rfl
/-- a comprehension whose turns change the store -/
theorem compL_inv {step : D → Sto → R (Option D)} {s : Src} {Inv : Nat → Sto → Prop} {Q : D → Prop} (ho : ∀ n S, Inv n S → okS s S) : ∀ (l : List D) (n : Nat) (S : Sto), Inv n S → (∀ d ∈ l, ∀ m S, n ≤ m → m < n + l.length → Inv m S → ∃ x S', step d S = .ok (some x) S' ∧ Q x ∧ Inv (m + 1) S') →
    ∃ xs S', compL step s l S = .ok xs S' ∧ xs.length = l.length ∧ (∀ x ∈ xs, Q x) ∧ Inv (n + l.length) S'
  | [], n, S, h, _ => ⟨[], S, compL_nil, rfl, nofun, h⟩
  | d :: l, n, S, h, hs => by
    obtain ⟨x, S', e, q, i⟩ := hs d List.mem_cons_self n S (Nat.le_refl _) (by rw [List.length_cons]; omega) h
    obtain ⟨xs, S2, e2, l2, q2, i2⟩ := compL_inv ho l (n + 1) S' i fun d' hd' m S3 h1 h2 h3 => hs d' (List.mem_cons_of_mem _ hd') m S3 (by omega) (by rw [List.length_cons]; omega) h3
    refine ⟨x :: xs, S2, ?_, by rw [List.length_cons, List.length_cons, l2], fun y hy => ?_, by rw [List.length_cons, show n + (l.length + 1) = n + 1 + l.length from by omega]; exact i2⟩
    · rw [compL, e]
      dsimp only
      rw [if_pos (ho _ _ i), e2]
      rfl
    · rcases List.mem_cons.mp hy with rfl | hy
      · exact q
      · exact q2 y hy
def sgS : Str := " !\"#$&'()*+,-./0123456789:;<=>?@ABCDEFGHIJKLMNOPQRSTUVWXYZ[\\]^_`abcdefghijklmnopqrstuvwxyz{|}~"
def sg1 : List Nat := tl ("0123456789  " : Str)
def sg2 : List Nat := tl sgS
theorem sg1_ok : 0 < sg1.length ∧ sg1.length ≤ 100 ∧ ∀ c ∈ sg1, 32 ≤ c ∧ c ≤ 126 := by decide +kernel
theorem sg2_ok : 0 < sg2.length ∧ sg2.length ≤ 100 ∧ ∀ c ∈ sg2, 32 ≤ c ∧ c ≤ 126 := by decide +kernel
theorem signs_ok {k : Nat} {S : Sto} : run Cr.P (k + 1) 7 [] S = .ok (.str sgS) S := by
  rw [run_eq (df := Cr.d7) rfl rfl]
  simp only [Cr.d7, Cr.b7, evE_var, evE_int, evE_str, evE_bl, evE_non, evE_bin, evE_neg, evE_cmp, evE_isN, evE_notN, evE_chain, evE_and, evE_or, evE_not, evE_ite, evE_tup, evE_frz, evE_live, evE_call, evE_dead, evE_lim, evE_blt, evE_isi, evE_divm, evE_tupOf, evE_idx, evE_slS, evE_join, evE_mt1, evE_fld, evE_meth, evE_new, evE_dnil, evE_get2, evE_dcopy, evO_none, evO_some, evEs_nil, evEs_cons, evT_val, evT_tru, evT_and, evT_or, evT_not, evAnd_one, evAnd_cons, evOr_one, evOr_cons, evF_lst, evF_comp, evF_listOf, evF_listRng, evF_cat, evF_rep, evF_slL, evF_split, evF_splitMax, evC_nil, evC_one, evI_seq_true, evI_seq_false, evI_str, evI_rng1, evI_rng2, evI_enumL, evI_enumS, exC_pass, exC_dead, exC_nil, exC_cons, exC_exp, exC_app, exC_set, exC_setc, exC_aug, exC_setIx, exC_setKy, exC_setFd, exC_noneFault, exC_augIx, exC_two, exC_ret, exC_retN, exC_ite, exC_for, exC_while, exC_brk, exC_cnt, exC_raise, exC_fault, bind_ok, bind_exc, of_some, st_ok, st_exc, then_nx, then_ret, then_exc, then_bk, then_ct, start_eq, List.map_cons, List.map_nil, List.length_cons, List.length_nil, List.cons_append, List.nil_append, List.replicate, List.getElem?_cons_zero, List.getElem?_cons_succ, List.set_cons_zero, List.set_cons_succ, Option.map_some, Nat.reduceAdd, Nat.reduceSub, Nat.zero_add]
  exact fin_sca rfl
def InvS (T : Sto) (n : Nat) (S : Sto) : Prop := ∃ a b c, S = Sv a b c T ∧ SvOk n a b c
def chD (d : D) : Prop := ∃ c : Nat, d = .str (W [c]) ∧ 32 ≤ c ∧ c ≤ 126
theorem chs : ∀ {xs : List D}, (∀ x ∈ xs, chD x) → ∃ w : List Nat, xs = w.map (fun c => D.str (W [c])) ∧ ∀ c ∈ w, 32 ≤ c ∧ c ≤ 126
  | [], _ => ⟨[], rfl, nofun⟩
  | x :: xs, h => by
    obtain ⟨c, rfl, h1⟩ := h x List.mem_cons_self
    obtain ⟨w, e, h2⟩ := chs fun y hy => h y (List.mem_cons_of_mem _ hy)
    refine ⟨c :: w, by rw [e]; rfl, fun d hd => ?_⟩
    rcases List.mem_cons.mp hd with rfl | hd
    · exact h1
    · exact h2 d hd
theorem drawn_ok {k n most : Nat} {a b c : Int} {T : Sto} (h1 : 1 ≤ most) (h2 : most ≤ 1000) (h : SvOk n a b c) (hn : n + 2000 ≤ 1000000000) :
    ∃ w a' b' c', run Cr.P (k + 2) 8 [.loc 0, .int (most : Int)] (Sv a b c T) = .ok (strW w) (Sv a' b' c' T) ∧ 1 ≤ w.length ∧ w.length ≤ most ∧ (∀ ch ∈ w, 32 ≤ ch ∧ ch ≤ 126) ∧ SvOk (n + 2 + most) a' b' c' := by
  rw [run_eq (df := Cr.d8) rfl rfl]
  obtain ⟨r1, a1, b1, c1, e1, p1, p2, s1⟩ := pick_ok (T := T) (k := k) (many := 4) h (by omega) (by decide) (by decide)
  obtain ⟨r2, a2, b2, c2, e2, q1, q2, s2⟩ := pick_ok (T := T) (k := k) (many := (most : Int)) s1 (by omega) (by omega) (by omega)
  -- which signs
  have hsg : ∃ sg : List Nat, (0 < sg.length ∧ sg.length ≤ 100 ∧ ∀ c ∈ sg, 32 ≤ c ∧ c ≤ 126) ∧ evE (run Cr.P (k + 1)) (.ite (.val (.cmp .eq (.call 13 (.cons (.var 0) (.cons (.int 4) .nil))) (.int 0))) (.str "0123456789  ") (.call 7 .nil)) [some (.loc 0), some (.int (most : Int)), none, none] (Sv a b c T) = .ok (.str (W sg)) (Sv a1 b1 c1 T) := by
    have heq : eqD (Sv a1 b1 c1 T) (.int r1) (.int 0) = some (decide (r1 = 0)) := rfl
    by_cases hz : r1 = 0
    · refine ⟨sg1, sg1_ok, ?_⟩
      simp only [evE_var, evE_int, evE_str, evE_bl, evE_non, evE_bin, evE_neg, evE_cmp, evE_isN, evE_notN, evE_chain, evE_and, evE_or, evE_not, evE_ite, evE_tup, evE_frz, evE_live, evE_call, evE_dead, evE_lim, evE_blt, evE_isi, evE_divm, evE_tupOf, evE_idx, evE_slS, evE_join, evE_mt1, evE_fld, evE_meth, evE_new, evE_dnil, evE_get2, evE_dcopy, evO_none, evO_some, evEs_nil, evEs_cons, evT_val, evT_tru, evT_and, evT_or, evT_not, evAnd_one, evAnd_cons, evOr_one, evOr_cons, evF_lst, evF_comp, evF_listOf, evF_listRng, evF_cat, evF_rep, evF_slL, evF_split, evF_splitMax, evC_nil, evC_one, evI_seq_true, evI_seq_false, evI_str, evI_rng1, evI_rng2, evI_enumL, evI_enumS, exC_pass, exC_dead, exC_nil, exC_cons, exC_exp, exC_app, exC_set, exC_setc, exC_aug, exC_setIx, exC_setKy, exC_setFd, exC_noneFault, exC_augIx, exC_two, exC_ret, exC_retN, exC_ite, exC_for, exC_while, exC_brk, exC_cnt, exC_raise, exC_fault, bind_ok, bind_exc, of_some, st_ok, st_exc, then_nx, then_ret, then_exc, then_bk, then_ct, start_eq, List.map_cons, List.map_nil, List.length_cons, List.length_nil, List.cons_append, List.nil_append, List.replicate, List.getElem?_cons_zero, List.getElem?_cons_succ, List.set_cons_zero, List.set_cons_succ, Option.map_some, Nat.reduceAdd, Nat.reduceSub, Nat.zero_add, e1, cop, heq, decide_eq_true hz, if_true]
      rw [show W sg1 = "0123456789  " from W_tl _]
    · refine ⟨sg2, sg2_ok, ?_⟩
      simp only [evE_var, evE_int, evE_str, evE_bl, evE_non, evE_bin, evE_neg, evE_cmp, evE_isN, evE_notN, evE_chain, evE_and, evE_or, evE_not, evE_ite, evE_tup, evE_frz, evE_live, evE_call, evE_dead, evE_lim, evE_blt, evE_isi, evE_divm, evE_tupOf, evE_idx, evE_slS, evE_join, evE_mt1, evE_fld, evE_meth, evE_new, evE_dnil, evE_get2, evE_dcopy, evO_none, evO_some, evEs_nil, evEs_cons, evT_val, evT_tru, evT_and, evT_or, evT_not, evAnd_one, evAnd_cons, evOr_one, evOr_cons, evF_lst, evF_comp, evF_listOf, evF_listRng, evF_cat, evF_rep, evF_slL, evF_split, evF_splitMax, evC_nil, evC_one, evI_seq_true, evI_seq_false, evI_str, evI_rng1, evI_rng2, evI_enumL, evI_enumS, exC_pass, exC_dead, exC_nil, exC_cons, exC_exp, exC_app, exC_set, exC_setc, exC_aug, exC_setIx, exC_setKy, exC_setFd, exC_noneFault, exC_augIx, exC_two, exC_ret, exC_retN, exC_ite, exC_for, exC_while, exC_brk, exC_cnt, exC_raise, exC_fault, bind_ok, bind_exc, of_some, st_ok, st_exc, then_nx, then_ret, then_exc, then_bk, then_ct, start_eq, List.map_cons, List.map_nil, List.length_cons, List.length_nil, List.cons_append, List.nil_append, List.replicate, List.getElem?_cons_zero, List.getElem?_cons_succ, List.set_cons_zero, List.set_cons_succ, Option.map_some, Nat.reduceAdd, Nat.reduceSub, Nat.zero_add, e1, cop, heq, decide_eq_false hz, Bool.false_eq_true, if_false, signs_ok]
      rw [show W sg2 = sgS from W_tl _]
  obtain ⟨sg, ⟨g1, g2, g3⟩, hsg⟩ := hsg
  have hr62 : -(2 ^ 62) ≤ (1 + r2) ∧ (1 + r2) < 2 ^ 62 := by omega
  have hitems : ((List.range (1 + r2).toNat).map fun (i : Nat) => D.int (i : Int)).length ≤ SMAX := by rw [List.length_map, List.length_range, smax_eq]; omega
  have hlen : ∀ S : Sto, blt S .len (.str (W sg)) = some (.int sg.length) := fun S => lenS (by rw [smax_eq]; omega)
  obtain ⟨xs, S', e3, l3, q3, i3⟩ := compL_inv (step := compB (run Cr.P (k + 1)) (.nm 3) .nil (.idx (.var 2) (.call 13 (.cons (.var 0) (.cons (.blt .len (.var 2)) .nil)))) [("at", 3)] [some (.loc 0), some (.int (most : Int)), some (.str (W sg)), none]) (s := ⟨(List.range (1 + r2).toNat).map fun (i : Nat) => D.int (i : Int), none, []⟩) (Inv := InvS T) (Q := chD) (fun _ _ _ => True.intro)
    ((List.range (1 + r2).toNat).map fun (i : Nat) => D.int (i : Int)) (n + 1 + 1) (Sv a2 b2 c2 T) ⟨a2, b2, c2, rfl, s2⟩ (fun d hd m S g4 g5 ⟨a3, b3, c3, hS, s3⟩ => by
      rw [List.length_map, List.length_range] at g5
      obtain ⟨r4, a4, b4, c4, e4, t1, t2, s4⟩ := pick_ok (T := T) (k := k) (many := (sg.length : Int)) s3 (by omega) (by omega) (by omega)
      have hlt : r4.toNat < sg.length := by omega
      have hr4 : ((r4.toNat : Nat) : Int) = r4 := by omega
      have hix : idx (Sv a4 b4 c4 T) (.str (W sg)) (.int r4) = some (.str (W [sg[r4.toNat]])) := by
        show (if (W sg).length ≤ SMAX then (L2.atI sg r4).map (fun c => D.str ⟨#[c]⟩) else none) = _
        rw [W_len, if_pos (by rw [smax_eq]; omega)]
        have : L2.atI sg r4 = some sg[r4.toNat] := by
          unfold L2.atI L2.ixN
          rw [if_pos t1, if_pos t2, Option.bind_some, List.getElem?_eq_getElem hlt]
        rw [this]
        rfl
      refine ⟨.str (W [sg[r4.toNat]]), Sv a4 b4 c4 T, ?_, ⟨_, rfl, g3 _ (List.getElem_mem hlt)⟩, a4, b4, c4, rfl, s4⟩
      subst hS
      simp only [compB_eq, setT, wipeT, evE_var, evE_int, evE_str, evE_bl, evE_non, evE_bin, evE_neg, evE_cmp, evE_isN, evE_notN, evE_chain, evE_and, evE_or, evE_not, evE_ite, evE_tup, evE_frz, evE_live, evE_call, evE_dead, evE_lim, evE_blt, evE_isi, evE_divm, evE_tupOf, evE_idx, evE_slS, evE_join, evE_mt1, evE_fld, evE_meth, evE_new, evE_dnil, evE_get2, evE_dcopy, evO_none, evO_some, evEs_nil, evEs_cons, evT_val, evT_tru, evT_and, evT_or, evT_not, evAnd_one, evAnd_cons, evOr_one, evOr_cons, evF_lst, evF_comp, evF_listOf, evF_listRng, evF_cat, evF_rep, evF_slL, evF_split, evF_splitMax, evC_nil, evC_one, evI_seq_true, evI_seq_false, evI_str, evI_rng1, evI_rng2, evI_enumL, evI_enumS, exC_pass, exC_dead, exC_nil, exC_cons, exC_exp, exC_app, exC_set, exC_setc, exC_aug, exC_setIx, exC_setKy, exC_setFd, exC_noneFault, exC_augIx, exC_two, exC_ret, exC_retN, exC_ite, exC_for, exC_while, exC_brk, exC_cnt, exC_raise, exC_fault, bind_ok, bind_exc, of_some, st_ok, st_exc, then_nx, then_ret, then_exc, then_bk, then_ct, start_eq, List.map_cons, List.map_nil, List.length_cons, List.length_nil, List.cons_append, List.nil_append, List.replicate, List.getElem?_cons_zero, List.getElem?_cons_succ, List.set_cons_zero, List.set_cons_succ, Option.map_some, Nat.reduceAdd, Nat.reduceSub, Nat.zero_add, hlen, e4, hix, if_true])
  obtain ⟨a5, b5, c5, rfl, s5⟩ := i3
  obtain ⟨w, hw, hch⟩ := chs q3
  rw [List.length_map, List.length_range] at l3 s5
  have hwl : w.length = (1 + r2).toNat := by rw [← l3, hw, List.length_map]
  have hstr : (w.map fun c => D.str (W [c])) = (w.map fun c => [c]).map strW := by rw [List.map_map]; rfl
  have hS5 : ∀ S : Sto, (getLT S (.lst xs)).bind listS = some ((w.map fun c => [c]).map W) := fun S => by
    show listS xs = _
    rw [hw, hstr, listS_strW]
  have hfl : (w.map fun c => [c]).flatten = w := by
    clear hw hch hwl hstr hS5
    induction w with
    | nil => rfl
    | cons c w ih => rw [List.map_cons, List.flatten_cons, ih]; rfl
  have hsz : (((w.map fun c => [c]).map W).map (·.length)).sum + ((w.map fun c => [c]).map W).length * ("" : Str).length ≤ SMAX := by
    rw [sum_flat, hfl, show ("" : Str).length = 0 from rfl, Nat.mul_zero, smax_eq]
    omega
  refine ⟨w, a5, b5, c5, ?_, by omega, by omega, hch, s5.mono (by omega)⟩
  simp only [Cr.d8, Cr.b8, evE_var, evE_int, evE_str, evE_bl, evE_non, evE_bin, evE_neg, evE_cmp, evE_isN, evE_notN, evE_chain, evE_and, evE_or, evE_not, evE_tup, evE_frz, evE_live, evE_call, evE_dead, evE_lim, evE_blt, evE_isi, evE_divm, evE_tupOf, evE_idx, evE_slS, evE_join, evE_mt1, evE_fld, evE_meth, evE_new, evE_dnil, evE_get2, evE_dcopy, evO_none, evO_some, evEs_nil, evEs_cons, evT_val, evT_tru, evT_and, evT_or, evT_not, evAnd_one, evAnd_cons, evOr_one, evOr_cons, evF_lst, evF_comp, evF_listOf, evF_listRng, evF_cat, evF_rep, evF_slL, evF_split, evF_splitMax, evC_nil, evC_one, evI_seq_true, evI_seq_false, evI_str, evI_rng1, evI_rng2, evI_enumL, evI_enumS, exC_pass, exC_dead, exC_nil, exC_cons, exC_exp, exC_app, exC_set, exC_setc, exC_aug, exC_setIx, exC_setKy, exC_setFd, exC_noneFault, exC_augIx, exC_two, exC_ret, exC_retN, exC_ite, exC_for, exC_while, exC_brk, exC_cnt, exC_raise, exC_fault, bind_ok, bind_exc, of_some, st_ok, st_exc, then_nx, then_ret, then_exc, then_bk, then_ct, start_eq, List.map_cons, List.map_nil, List.length_cons, List.length_nil, List.cons_append, List.nil_append, List.replicate, List.getElem?_cons_zero, List.getElem?_cons_succ, List.set_cons_zero, List.set_cons_succ, Option.map_some, Nat.reduceAdd, Nat.reduceSub, Nat.zero_add, hsg, e2, addI, if_pos hr62, if_pos hitems, e3, hS5, if_pos hsz, join_empty, hfl]
  rfl
end Ma
end
section
set_option Elab.async false
set_option linter.all false
set_option maxRecDepth 100000
set_option maxHeartbeats 4000000
namespace Ma
open Pi PySem PySem.Spec PyProof.Rows TL
/-! ### a line with one sign changed -/
theorem spl {s : Nat} : ∀ {a a' x x' : List Nat}, s ∉ a → s ∉ a' → a ++ s :: x = a' ++ s :: x' → a = a' ∧ x = x'
  | [], [], x, x', _, _, h => ⟨rfl, (List.cons.inj h).2⟩
  | [], u :: a', x, x', _, h2, h => absurd (List.cons.inj h).1 fun e => h2 (e ▸ List.mem_cons_self)
  | u :: a, [], x, x', h1, _, h => absurd (List.cons.inj h).1 fun e => h1 (e ▸ List.mem_cons_self)
  | u :: a, v :: a', x, x', h1, h2, h => by
    obtain ⟨e1, e2⟩ := List.cons.inj (show u :: (a ++ s :: x) = v :: (a' ++ s :: x') from h)
    obtain ⟨q1, q2⟩ := spl (fun m => h1 (List.mem_cons_of_mem _ m)) (fun m => h2 (List.mem_cons_of_mem _ m)) e2
    exact ⟨by rw [e1, q1], q2⟩
theorem lineL_eq (n : Nat) (l : List Nat) : lineL n l = numL n ++ 32 :: (numL l.length ++ 32 :: (numL (rsN n l) ++ 32 :: l)) := by
  unfold lineL
  simp only [List.append_assoc, List.cons_append, List.nil_append]
theorem line_pre {n : Nat} {r w z : List Nat} (h : lineL n r = lineL n w ++ z) : z = [] := by
  rw [lineL_eq, lineL_eq] at h
  simp only [List.append_assoc, List.cons_append] at h
  obtain ⟨_, h⟩ := spl (free32 _) (free32 _) h
  obtain ⟨e, h⟩ := spl (free32 _) (free32 _) h
  obtain ⟨_, h⟩ := spl (free32 _) (free32 _) h
  have e := numL_inj e
  rw [h, List.length_append] at e
  exact List.length_eq_zero_iff.mp (by omega)
theorem wsum_set : ∀ (r : List Nat) (q i c : Nat) (h : q < r.length), wsum i (r.set q c) + (i + q + 1) * r[q] = wsum i r + (i + q + 1) * c
  | u :: r, 0, i, c, h => by
    show ((i + 1) * c + wsum (i + 1) r) + (i + 0 + 1) * u = ((i + 1) * u + wsum (i + 1) r) + (i + 0 + 1) * c
    rw [Nat.add_zero]
    omega
  | u :: r, q + 1, i, c, h => by
    have hq : q < r.length := by simpa using h
    have ih := wsum_set r q (i + 1) c hq
    show ((i + 1) * u + wsum (i + 1) (r.set q c)) + (i + (q + 1) + 1) * r[q] = ((i + 1) * u + wsum (i + 1) r) + (i + (q + 1) + 1) * c
    rw [show i + (q + 1) + 1 = i + 1 + q + 1 from by omega]
    omega
theorem sum_set {n : Nat} {r : List Nat} {q c : Nat} (hq : q < r.length) (hl : r.length ≤ 60) (hr : ∀ x ∈ r, x ≤ 126) (hc : c ≤ 126) (h : rsN n (r.set q c) = rsN n r) : r.set q c = r := by
  have e := wsum_set r q 0 c hq
  have hx := hr _ (List.getElem_mem hq)
  unfold rsN at h
  have b1 : (0 + q + 1) * r[q] ≤ 60 * 126 := Nat.mul_le_mul (by omega) hx
  have b2 : (0 + q + 1) * c ≤ 60 * 126 := Nat.mul_le_mul (by omega) hc
  have e2 : (0 + q + 1) * r[q] = (0 + q + 1) * c := by omega
  have e3 : r[q] = c := Nat.eq_of_mul_eq_mul_left (by omega) e2
  rw [← e3, List.set_getElem_self]
theorem set_left {a b : List Nat} {p c : Nat} (h : p < a.length) : (a ++ b).set p c = a.set p c ++ b := List.set_append_left p c h
theorem set_right {a b : List Nat} {p c : Nat} (h : a.length ≤ p) : (a ++ b).set p c = a ++ b.set (p - a.length) c := List.set_append_right p c h
theorem numL_two {m : Nat} (h : m < 100) : (numL m).length ≤ 2 := numL_len (k := 2) (by decide) h
theorem numL_ge {m : Nat} (h : 10 ≤ m) : 2 ≤ (numL m).length := by
  rw [numL_step h, List.length_append, List.length_singleton]
  have : (numL (m / 10)).length ≠ 0 := fun e => numL_ne _ (List.length_eq_zero_iff.mp e)
  omega
theorem numL_one {m : Nat} (h : m < 10) : (numL m).length = 1 := by rw [numL_lt h]; rfl
theorem numL_pos (m : Nat) : 1 ≤ (numL m).length := by
  have : (numL m).length ≠ 0 := fun e => numL_ne _ (List.length_eq_zero_iff.mp e)
  omega
theorem take_set_drop {a : List Nat} {q c : Nat} (h : q < a.length) : a.set q c = a.take q ++ c :: a.drop (q + 1) := by
  rw [List.set_eq_take_append_cons_drop, if_pos h]
/-- behind the number: the words' length, their sum, the words -/
theorem rest_set {n : Nat} {r w : List Nat} {q c : Nat} (hl : r.length ≤ 60) (hr : ∀ x ∈ r, x ≤ 126) (hw : ∀ x ∈ w, x ≤ 126) (hne : (numL r.length ++ 32 :: (numL (rsN n r) ++ 32 :: r)).set q c ≠ numL r.length ++ 32 :: (numL (rsN n r) ++ 32 :: r))
    (hq : q < (numL r.length ++ 32 :: (numL (rsN n r) ++ 32 :: r)).length)
    (h : (numL r.length ++ 32 :: (numL (rsN n r) ++ 32 :: r)).set q c = numL w.length ++ 32 :: (numL (rsN n w) ++ 32 :: w)) : False := by
  have hb2 := numL_two (m := r.length) (by omega)
  have f1 := free32 r.length
  have f2 := free32 (rsN n r)
  have g1 := free32 w.length
  have g2 := free32 (rsN n w)
  have dpos := numL_pos (rsN n r)
  by_cases c1 : q < (numL r.length).length
  · rw [set_left c1] at h hne
    by_cases c32 : c = 32
    · subst c32
      rw [take_set_drop c1, List.append_assoc, List.cons_append] at h
      obtain ⟨e1, h⟩ := spl (fun m => f1 (List.mem_of_mem_take m)) g1 h
      obtain ⟨e2, h⟩ := spl (fun m => f1 (List.mem_of_mem_drop m)) g2 h
      have hwl : w.length = (numL (rsN n r)).length + 1 + r.length := by rw [← h, List.length_append, List.length_cons]; omega
      have hb1 : (numL w.length).length = q := by rw [← e1, List.length_take]; omega
      have wpos := numL_pos w.length
      by_cases c3 : r.length < 10
      · have := numL_one c3
        omega
      · have := numL_ge (m := w.length) (by omega)
        omega
    · have f3 : 32 ∉ (numL r.length).set q c := fun m => by
        rcases List.mem_or_eq_of_mem_set m with m | m
        · exact f1 m
        · exact c32 m.symm
      obtain ⟨e1, h⟩ := spl f3 g1 h
      obtain ⟨e2, h⟩ := spl f2 g2 h
      rw [← h] at e1
      rw [e1] at hne
      exact hne rfl
  · by_cases c2 : q = (numL r.length).length
    · rw [set_right (by omega), c2, Nat.sub_self, List.set_cons_zero] at h hne
      have c32 : c ≠ 32 := fun e => hne (by rw [e])
      have f3 : 32 ∉ numL r.length ++ c :: numL (rsN n r) := fun m => by
        rcases List.mem_append.mp m with m | m
        · exact f1 m
        · rcases List.mem_cons.mp m with m | m
          · exact c32 m.symm
          · exact f2 m
      obtain ⟨e1, h⟩ := spl (x := r) f3 g1 (by rw [← h, List.append_assoc, List.cons_append])
      have hwl : w.length < r.length := by
        have := congrArg List.length h
        rw [List.length_append, List.length_cons] at this
        omega
      have hb := numL_two (m := w.length) (by omega)
      have hb1 := numL_pos r.length
      rw [← e1, List.length_append, List.length_cons] at hb
      omega
    · obtain ⟨q2, rfl⟩ : ∃ q2, q = (numL r.length).length + (q2 + 1) := ⟨q - (numL r.length).length - 1, by omega⟩
      rw [set_right (by omega), Nat.add_sub_cancel_left, List.set_cons_succ] at h hne
      obtain ⟨e1, h⟩ := spl f1 g1 h
      have e1 := numL_inj e1
      by_cases d1 : q2 < (numL (rsN n r)).length
      · rw [set_left d1] at h hne
        have hh := List.append_inj' h (by rw [List.length_cons, List.length_cons, e1])
        have e2 := (List.cons.inj hh.2).2
        rw [hh.1, ← e2] at hne
        exact hne rfl
      · by_cases d2 : q2 = (numL (rsN n r)).length
        · rw [set_right (by omega), d2, Nat.sub_self, List.set_cons_zero] at h hne
          have hh := List.append_inj' h (by rw [List.length_cons, List.length_cons, e1])
          have e2 := (List.cons.inj hh.2).1
          rw [e2] at hne
          exact hne rfl
        · obtain ⟨q3, rfl⟩ : ∃ q3, q2 = (numL (rsN n r)).length + (q3 + 1) := ⟨q2 - (numL (rsN n r)).length - 1, by omega⟩
          rw [set_right (by omega), Nat.add_sub_cancel_left, List.set_cons_succ] at h hne
          have hh := List.append_inj' h (by rw [List.length_cons, List.length_cons, List.length_set, e1])
          have e2 := (List.cons.inj hh.2).2
          have e3 := numL_inj hh.1
          have hq3 : q3 < r.length := by
            simp only [List.length_append, List.length_cons] at hq
            omega
          have hc : c ≤ 126 := hw c (by rw [← e2]; exact List.mem_set hq3 c)
          have e4 := sum_set hq3 hl hr hc (n := n) (by rw [e2, e3])
          rw [e4] at hne
          exact hne rfl
theorem line_set {n : Nat} {r w : List Nat} {p c : Nat} (hl : r.length ≤ 60) (hr : ∀ x ∈ r, x ≤ 126) (hw : ∀ x ∈ w, x ≤ 126) (hp : p < (lineL n r).length) (hne : (lineL n r).set p c ≠ lineL n r) : (lineL n r).set p c ≠ lineL n w := fun h => by
  rw [lineL_eq] at h hne hp
  rw [lineL_eq n w] at h
  rw [show numL n ++ 32 :: (numL r.length ++ 32 :: (numL (rsN n r) ++ 32 :: r)) = (numL n ++ [32]) ++ (numL r.length ++ 32 :: (numL (rsN n r) ++ 32 :: r)) from by simp only [List.append_assoc, List.cons_append, List.nil_append]] at h hne hp
  rw [show numL n ++ 32 :: (numL w.length ++ 32 :: (numL (rsN n w) ++ 32 :: w)) = (numL n ++ [32]) ++ (numL w.length ++ 32 :: (numL (rsN n w) ++ 32 :: w)) from by simp only [List.append_assoc, List.cons_append, List.nil_append]] at h
  by_cases c1 : p < (numL n ++ [32]).length
  · rw [set_left c1] at h hne
    have := (List.append_inj h (List.length_set ..)).1
    rw [this] at hne
    exact hne rfl
  · rw [set_right (by omega)] at h hne
    have h := List.append_cancel_left h
    rw [List.length_append] at hp
    exact rest_set hl hr hw (fun e => hne (by rw [e])) (by omega) h
end Ma
end
section
set_option Elab.async false
set_option linter.all false
set_option maxRecDepth 100000
set_option maxHeartbeats 4000000
set_option exponentiation.threshold 10000
namespace Ma
open Pi PySem PySem.Spec PyProof.Rows TL
theorem par_len {S : List Nat} : ∀ (l acc a b : List Nat), par S acc l = some (a, b) → a.length ≤ acc.length + l.length ∧ b.length ≤ l.length
  | [], acc, a, b, h => nomatch h
  | c :: r, acc, a, b, h => by
    cases q : pre S (c :: r) with
    | true =>
      rw [par_hit q] at h
      cases h
      exact ⟨Nat.le_add_right _ _, by rw [List.length_drop]; omega⟩
    | false =>
      rw [par_miss q] at h
      obtain ⟨h1, h2⟩ := par_len r (acc ++ [c]) a b h
      rw [List.length_append, List.length_singleton] at h1
      rw [List.length_cons]
      exact ⟨by omega, by omega⟩
theorem splN_len {S : List Nat} : ∀ (n : Nat) (l p : List Nat), p ∈ splN S n l → p.length ≤ l.length
  | 0, l, p, h => by rw [List.mem_singleton.mp (show p ∈ [l] from h)]; exact Nat.le_refl _
  | n + 1, l, p, h => by
    unfold splN at h
    cases e : par S [] l with
    | none => rw [e] at h; rw [List.mem_singleton.mp h]; exact Nat.le_refl _
    | some q =>
      obtain ⟨a, b⟩ := q
      rw [e] at h
      obtain ⟨h1, h2⟩ := par_len l [] a b e
      rw [List.length_nil, Nat.zero_add] at h1
      rcases List.mem_cons.mp h with rfl | h
      · exact h1
      · exact Nat.le_trans (splN_len n b p h) h2
def Splits (line : List Nat) : Prop := ∃ ps : List (List Nat), Txt.splitMax (W line) " " 3 = ps.map W ∧ ∀ p ∈ ps, p.length ≤ line.length
theorem splits_two {line : List Nat} (h : 2 ≤ line.length) : Splits line := by
  have key := splitMax_N (W line) " " (by decide) (kind_ok (by decide +kernel)) 3 (by rw [W_len]; omega)
  exact ⟨_, map_W key, fun p hp => splN_len 3 line p hp⟩
theorem splits_nil : Splits [] := ⟨[[]], by decide +kernel, by simp⟩
theorem splits_one {c : Nat} (h : 48 ≤ c ∧ c ≤ 57) : Splits [c] := by
  have : c = 48 ∨ c = 49 ∨ c = 50 ∨ c = 51 ∨ c = 52 ∨ c = 53 ∨ c = 54 ∨ c = 55 ∨ c = 56 ∨ c = 57 := by omega
  refine ⟨[[c]], ?_, by simp⟩
  rcases this with rfl | rfl | rfl | rfl | rfl | rfl | rfl | rfl | rfl | rfl <;> decide +kernel
theorem row_none {k n : Nat} {line : List Nat} {S : Sto} (hn : n < 10 ^ 60) (hz : line.length ≤ 1000000) (hsp : Splits line) (h : ∀ w, rowB w = true → line ≠ lineL n w) : run Cr.P (k + 3) 4 [.int (n : Int), .str (W line)] S = .ok .non S := by
  obtain ⟨ps, hsp, hps⟩ := hsp
  rw [run_eq (df := Cr.d4) rfl rfl]
  have hc : ((" " : Str).length == 0) = false ∧ -(2 ^ 63) ≤ (3 : Int) ∧ (3 : Int) < 2 ^ 63 ∧ (W line).length + 2 ≤ SMAX := ⟨by decide, by decide, by decide, by rw [W_len, smax_eq]; omega⟩
  have hlen : blt S .len (.lst ((ps.map W).map D.str)) = some (.int ps.length) := by
    show some (D.int (((ps.map W).map D.str).length : Int)) = _
    rw [List.length_map, List.length_map]
  by_cases h4 : ps.length < 4
  · simp only [Cr.d4, Cr.b4, evE_var, evE_int, evE_str, evE_bl, evE_non, evE_bin, evE_neg, evE_cmp, evE_isN, evE_notN, evE_chain, evE_and, evE_or, evE_not, evE_ite, evE_tup, evE_frz, evE_live, evE_call, evE_dead, evE_lim, evE_blt, evE_isi, evE_divm, evE_tupOf, evE_idx, evE_slS, evE_join, evE_mt1, evE_fld, evE_meth, evE_new, evE_dnil, evE_get2, evE_dcopy, evO_none, evO_some, evEs_nil, evEs_cons, evT_val, evT_tru, evT_and, evT_or, evT_not, evAnd_one, evAnd_cons, evOr_one, evOr_cons, evF_lst, evF_comp, evF_listOf, evF_listRng, evF_cat, evF_rep, evF_slL, evF_split, evF_splitMax, evC_nil, evC_one, evI_seq_true, evI_seq_false, evI_str, evI_rng1, evI_rng2, evI_enumL, evI_enumS, exC_pass, exC_dead, exC_nil, exC_cons, exC_exp, exC_app, exC_set, exC_setc, exC_aug, exC_setIx, exC_setKy, exC_setFd, exC_noneFault, exC_augIx, exC_two, exC_ret, exC_retN, exC_ite, exC_for, exC_while, exC_brk, exC_cnt, exC_raise, exC_fault, bind_ok, bind_exc, of_some, st_ok, st_exc, then_nx, then_ret, then_exc, then_bk, then_ct, start_eq, List.map_cons, List.map_nil, List.length_cons, List.length_nil, List.cons_append, List.nil_append, List.replicate, List.getElem?_cons_zero, List.getElem?_cons_succ, List.set_cons_zero, List.set_cons_succ, Option.map_some, Nat.reduceAdd, Nat.reduceSub, Nat.zero_add, hsp, if_pos hc, hlen, cop, show ((ps.length : Int) < 4) from by omega, decide_true, if_true]
    exact fin_sca rfl
  · have hp3 : ps[3]? = some ps[3] := List.getElem?_eq_getElem (by omega)
    have hmem : ps[3] ∈ ps := List.getElem_mem (by omega)
    generalize ps[3] = w at hp3 hmem
    have hwl := hps w hmem
    have hix : idx S (.lst ((ps.map W).map D.str)) (.int 3) = some (.str (W w)) := by
      show L2.atI ((ps.map W).map D.str) ((3 : Nat) : Int) = _
      rw [idx_at, List.getElem?_map, List.getElem?_map, hp3]
      rfl
    have hr : run Cr.P (k + 2) 2 [.str (W w)] S = .ok (.bl (rowB w)) S := is_row_ok (by omega)
    have e4 : decide ((ps.length : Int) < 4) = false := decide_eq_false (by omega)
    cases hw : rowB w with
    | false =>
      rw [hw] at hr
      simp only [Cr.d4, Cr.b4, evE_var, evE_int, evE_str, evE_bl, evE_non, evE_bin, evE_neg, evE_cmp, evE_isN, evE_notN, evE_chain, evE_and, evE_or, evE_not, evE_ite, evE_tup, evE_frz, evE_live, evE_call, evE_dead, evE_lim, evE_blt, evE_isi, evE_divm, evE_tupOf, evE_idx, evE_slS, evE_join, evE_mt1, evE_fld, evE_meth, evE_new, evE_dnil, evE_get2, evE_dcopy, evO_none, evO_some, evEs_nil, evEs_cons, evT_val, evT_tru, evT_and, evT_or, evT_not, evAnd_one, evAnd_cons, evOr_one, evOr_cons, evF_lst, evF_comp, evF_listOf, evF_listRng, evF_cat, evF_rep, evF_slL, evF_split, evF_splitMax, evC_nil, evC_one, evI_seq_true, evI_seq_false, evI_str, evI_rng1, evI_rng2, evI_enumL, evI_enumS, exC_pass, exC_dead, exC_nil, exC_cons, exC_exp, exC_app, exC_set, exC_setc, exC_aug, exC_setIx, exC_setKy, exC_setFd, exC_noneFault, exC_augIx, exC_two, exC_ret, exC_retN, exC_ite, exC_for, exC_while, exC_brk, exC_cnt, exC_raise, exC_fault, bind_ok, bind_exc, of_some, st_ok, st_exc, then_nx, then_ret, then_exc, then_bk, then_ct, start_eq, List.map_cons, List.map_nil, List.length_cons, List.length_nil, List.cons_append, List.nil_append, List.replicate, List.getElem?_cons_zero, List.getElem?_cons_succ, List.set_cons_zero, List.set_cons_succ, Option.map_some, Nat.reduceAdd, Nat.reduceSub, Nat.zero_add, hsp, if_pos hc, hlen, cop, e4, hix, hr, Bool.not_false, Bool.false_eq_true, if_false, if_true]
      exact fin_sca rfl
    | true =>
      rw [hw] at hr
      have hg : run Cr.P (k + 2) 3 [.int (n : Int), .str (W w)] S = .ok (.str (W (lineL n w ++ [10]))) S := log_line_ok hn hw
      have hadd : bop .add (.str (W line)) (.str "\n") = some (.str (W (line ++ [10]))) := by
        rw [nl_eq]
        exact addS (by rw [smax_eq, List.length_singleton]; omega)
      have hne : decide (W (lineL n w ++ [10]) = W (line ++ [10])) = false := decide_eq_false fun e => h w hw (List.append_cancel_right (W_inj.mp e)).symm
      simp only [Cr.d4, Cr.b4, evE_var, evE_int, evE_str, evE_bl, evE_non, evE_bin, evE_neg, evE_cmp, evE_isN, evE_notN, evE_chain, evE_and, evE_or, evE_not, evE_ite, evE_tup, evE_frz, evE_live, evE_call, evE_dead, evE_lim, evE_blt, evE_isi, evE_divm, evE_tupOf, evE_idx, evE_slS, evE_join, evE_mt1, evE_fld, evE_meth, evE_new, evE_dnil, evE_get2, evE_dcopy, evO_none, evO_some, evEs_nil, evEs_cons, evT_val, evT_tru, evT_and, evT_or, evT_not, evAnd_one, evAnd_cons, evOr_one, evOr_cons, evF_lst, evF_comp, evF_listOf, evF_listRng, evF_cat, evF_rep, evF_slL, evF_split, evF_splitMax, evC_nil, evC_one, evI_seq_true, evI_seq_false, evI_str, evI_rng1, evI_rng2, evI_enumL, evI_enumS, exC_pass, exC_dead, exC_nil, exC_cons, exC_exp, exC_app, exC_set, exC_setc, exC_aug, exC_setIx, exC_setKy, exC_setFd, exC_noneFault, exC_augIx, exC_two, exC_ret, exC_retN, exC_ite, exC_for, exC_while, exC_brk, exC_cnt, exC_raise, exC_fault, bind_ok, bind_exc, of_some, st_ok, st_exc, then_nx, then_ret, then_exc, then_bk, then_ct, start_eq, List.map_cons, List.map_nil, List.length_cons, List.length_nil, List.cons_append, List.nil_append, List.replicate, List.getElem?_cons_zero, List.getElem?_cons_succ, List.set_cons_zero, List.set_cons_succ, Option.map_some, Nat.reduceAdd, Nat.reduceSub, Nat.zero_add, hsp, if_pos hc, hlen, cop, e4, hix, hr, hg, hadd, eqS_str, hne, Bool.not_true, Bool.not_false, Bool.false_eq_true, if_false, if_true]
      exact fin_sca rfl
theorem rec_loop2 {k : Nat} {a b : Option D} {s : Src} {S : Sto} (ho : ∀ xs : List D, okS s (S ++ [.lst xs])) (rest : List D) : ∀ (rs : List (List Nat)) (done : List (List Nat)) (x y : Option D), done.length + rs.length ≤ 3000 → (∀ r ∈ rs, rowB r = true) →
    ∃ x' y', forL (forB (run Cr.P (k + 3)) (.nm 3) (.cons (.set 4 (.call 4 (.cons (.bin .add (.blt .len (.var 2)) (.int 1)) (.cons (.var 3) .nil))))
  (.cons (.ite (.val (.isN (.var 4))) (.cons (.ret (.tup (.cons (.tupOf (.var 2)) (.cons (.tup (.cons (.str "spoilt") (.cons (.bin .add (.blt .len (.var 2)) (.int 1)) .nil))) .nil))))
   .nil) .nil)
  (.cons (.app (.var 2) (.var 4))
  .nil)))) s ((linesFrom done.length rs).map strW ++ rest) [a, b, some (.loc S.length), x, y] (S ++ [.lst (done.map strW)]) =
     forL (forB (run Cr.P (k + 3)) (.nm 3) (.cons (.set 4 (.call 4 (.cons (.bin .add (.blt .len (.var 2)) (.int 1)) (.cons (.var 3) .nil))))
  (.cons (.ite (.val (.isN (.var 4))) (.cons (.ret (.tup (.cons (.tupOf (.var 2)) (.cons (.tup (.cons (.str "spoilt") (.cons (.bin .add (.blt .len (.var 2)) (.int 1)) .nil))) .nil))))
   .nil) .nil)
  (.cons (.app (.var 2) (.var 4))
  .nil)))) s rest [a, b, some (.loc S.length), x', y'] (S ++ [.lst ((done ++ rs).map strW)])
  | [], done, x, y, _, _ => ⟨x, y, by rw [linesFrom, List.map_nil, List.nil_append, List.append_nil]⟩
  | r :: rs, done, x, y, hn, hr => by
    rw [List.length_cons] at hn
    have hb := hr r List.mem_cons_self
    obtain ⟨x', y', ih⟩ := rec_loop2 (k := k) (a := a) (b := b) ho rest rs (done ++ [r]) (some (strW (lineL (done.length + 1) r))) (some (strW r)) (by rw [List.length_append, List.length_singleton]; omega) fun q hq => hr q (List.mem_cons_of_mem _ hq)
    refine ⟨x', y', ?_⟩
    rw [linesFrom, List.map_cons, List.cons_append]
    refine (forL_nx (τ' := [a, b, some (.loc S.length), some (strW (lineL (done.length + 1) r)), some (strW r)]) (S' := S ++ [.lst ((done ++ [r]).map strW)]) ?_ (ho _)).trans ?_
    · have hg : run Cr.P (k + 3) 4 [.int ((done.length : Int) + 1), .str (W (lineL (done.length + 1) r))] (S ++ [.lst (done.map strW)]) = .ok (.str (W r)) (S ++ [.lst (done.map strW)]) := by
        have := row_of_ok (k := k) (n := done.length + 1) (l := r) (S := S ++ [.lst (done.map strW)]) (by omega) hb
        exact this
      have hlt : done.length < SMAX := by rw [smax_eq]; omega
      simp only [forB_eq, setT, evE_var, evE_int, evE_str, evE_bl, evE_non, evE_bin, evE_neg, evE_cmp, evE_isN, evE_notN, evE_chain, evE_and, evE_or, evE_not, evE_ite, evE_tup, evE_frz, evE_live, evE_call, evE_dead, evE_lim, evE_blt, evE_isi, evE_divm, evE_tupOf, evE_idx, evE_slS, evE_join, evE_mt1, evE_fld, evE_meth, evE_new, evE_dnil, evE_get2, evE_dcopy, evO_none, evO_some, evEs_nil, evEs_cons, evT_val, evT_tru, evT_and, evT_or, evT_not, evAnd_one, evAnd_cons, evOr_one, evOr_cons, evF_lst, evF_comp, evF_listOf, evF_listRng, evF_cat, evF_rep, evF_slL, evF_split, evF_splitMax, evC_nil, evC_one, evI_seq_true, evI_seq_false, evI_str, evI_rng1, evI_rng2, evI_enumL, evI_enumS, exC_pass, exC_dead, exC_nil, exC_cons, exC_exp, exC_app, exC_set, exC_setc, exC_aug, exC_setIx, exC_setKy, exC_setFd, exC_noneFault, exC_augIx, exC_two, exC_ret, exC_retN, exC_ite, exC_for, exC_while, exC_brk, exC_cnt, exC_raise, exC_fault, bind_ok, bind_exc, of_some, st_ok, st_exc, then_nx, then_ret, then_exc, then_bk, then_ct, start_eq, List.map_cons, List.map_nil, List.length_cons, List.length_nil, List.cons_append, List.nil_append, List.replicate, List.getElem?_cons_zero, List.getElem?_cons_succ, List.set_cons_zero, List.set_cons_succ, Option.map_some, Nat.reduceAdd, Nat.reduceSub, Nat.zero_add, len_last, List.length_map, addI, hg, nonD, strW, Bool.false_eq_true, if_false, own_last]
      rw [if_pos hlt, last_set, List.map_append]
      rfl
    · rw [List.length_append, List.length_singleton] at ih
      rw [ih, List.append_assoc]
      rfl
/-- a text whose line behind the rows is none of a log's -/
theorem recover_spoilt {k : Nat} {rs : List (List Nat)} {first : List Nat} {ps : List (List Nat)} {S : Sto} (hn : rs.length + ps.length ≤ 2000) (hr : ∀ r ∈ rs, rowB r = true) (hf : 10 ∉ first) (hp0 : ps ≠ []) (hp : ∀ p ∈ ps, 10 ∉ p) (hz : (joinL [10] (linesFrom 0 rs ++ first :: ps)).length ≤ 1000000)
    (hfl : first.length ≤ 1000000) (hsp : Splits first) (h : ∀ w, rowB w = true → first ≠ lineL (rs.length + 1) w) :
    run Cr.P (k + 4) 5 [.str (W (joinL [10] (linesFrom 0 rs ++ first :: ps)))] S = .ok (.tup [.tup (rs.map strW), .tup [.str "spoilt", .int ((rs.length : Int) + 1)]]) S := by
  rw [run_eq (df := Cr.d5) rfl rfl]
  have hspl : Txt.split (W (joinL [10] (linesFrom 0 rs ++ first :: ps))) "\n" = (linesFrom 0 rs ++ first :: ps).map W := split_nl (by simp) fun p hp' => by
    rcases List.mem_append.mp hp' with h | h
    · exact linesFrom_free 0 rs hr p h
    · rcases List.mem_cons.mp h with rfl | h
      · exact hf
      · exact hp p h
  have hc : (("\n" : Str).length == 0) = false ∧ (W (joinL [10] (linesFrom 0 rs ++ first :: ps))).length + 2 ≤ SMAX := ⟨by decide, by rw [W_len, smax_eq]; omega⟩
  obtain ⟨pi, last, rfl⟩ : ∃ pi last, ps = pi ++ [last] := ⟨ps.dropLast, ps.getLast hp0, (List.dropLast_concat_getLast hp0).symm⟩
  have hm : ((linesFrom 0 rs ++ first :: (pi ++ [last])).map W).map D.str = ((linesFrom 0 rs).map strW ++ (strW first :: pi.map strW)) ++ [strW last] := by
    rw [List.map_map, List.map_append, List.map_cons, List.map_append, List.append_assoc]
    rfl
  have hpl : (pi ++ [last]).length = pi.length + 1 := by rw [List.length_append, List.length_singleton]
  rw [hpl] at hn
  have hlen : blt S .len (.lst (((linesFrom 0 rs).map strW ++ (strW first :: pi.map strW)) ++ [strW last])) = some (.int ((rs.length : Int) + (pi.length : Int) + 2)) := by
    show some (D.int ((((linesFrom 0 rs).map strW ++ (strW first :: pi.map strW)) ++ [strW last]).length : Int)) = _
    rw [List.length_append, List.length_append, List.length_map, linesFrom_len, List.length_singleton, List.length_cons, List.length_map]
    congr 2
    all_goals (push_cast; try omega)
  have hb : run Cr.P (k + 3) 0 [.str "log", .int ((rs.length : Int) + (pi.length : Int) + 2 - 1)] S = .ok .non S := bound_ok (L := 2000) rfl (by omega)
  have hcut : cutL (((linesFrom 0 rs).map strW ++ (strW first :: pi.map strW)) ++ [strW last]) none (some (-1)) = (linesFrom 0 rs).map strW ++ (strW first :: pi.map strW) := cut_m1
  obtain ⟨x, y, e⟩ := rec_loop2 (k := k) (a := some (.str (W (joinL [10] (linesFrom 0 rs ++ first :: (pi ++ [last])))))) (b := some (.lst (((linesFrom 0 rs).map strW ++ (strW first :: pi.map strW)) ++ [strW last]))) (s := ⟨(linesFrom 0 rs).map strW ++ (strW first :: pi.map strW), none, (linesFrom 0 rs).map strW ++ (strW first :: pi.map strW)⟩) (S := S) (fun _ => True.intro) (strW first :: pi.map strW) rs [] none none (by rw [List.length_nil]; omega) hr
  rw [List.length_nil, List.nil_append, List.map_nil] at e
  have hg : ∀ S : Sto, ∀ xs, getL S (.lst xs) = some xs := fun _ _ => rfl
  have hlo : ∀ xs, lown (.lst xs) = none := fun _ => rfl
  have hrow : run Cr.P (k + 3) 4 [.int ((rs.length : Int) + 1), .str (W first)] (S ++ [.lst (rs.map strW)]) = .ok .non (S ++ [.lst (rs.map strW)]) := row_none (n := rs.length + 1) (by omega) hfl hsp h
  have h2 : 2 ≤ SMAX := by decide
  simp only [Cr.d5, Cr.b5, evE_var, evE_int, evE_str, evE_bl, evE_non, evE_bin, evE_neg, evE_cmp, evE_isN, evE_notN, evE_chain, evE_and, evE_or, evE_not, evE_ite, evE_tup, evE_frz, evE_live, evE_call, evE_dead, evE_lim, evE_blt, evE_isi, evE_divm, evE_tupOf, evE_idx, evE_slS, evE_join, evE_mt1, evE_fld, evE_meth, evE_new, evE_dnil, evE_get2, evE_dcopy, evO_none, evO_some, evEs_nil, evEs_cons, evT_val, evT_tru, evT_and, evT_or, evT_not, evAnd_one, evAnd_cons, evOr_one, evOr_cons, evF_lst, evF_comp, evF_listOf, evF_listRng, evF_cat, evF_rep, evF_slL, evF_split, evF_splitMax, evC_nil, evC_one, evI_seq_true, evI_seq_false, evI_str, evI_rng1, evI_rng2, evI_enumL, evI_enumS, exC_pass, exC_dead, exC_nil, exC_cons, exC_exp, exC_app, exC_set, exC_setc, exC_aug, exC_setIx, exC_setKy, exC_setFd, exC_noneFault, exC_augIx, exC_two, exC_ret, exC_retN, exC_ite, exC_for, exC_while, exC_brk, exC_cnt, exC_raise, exC_fault, bind_ok, bind_exc, of_some, st_ok, st_exc, then_nx, then_ret, then_exc, then_bk, then_ct, start_eq, List.map_cons, List.map_nil, List.length_cons, List.length_nil, List.cons_append, List.nil_append, List.replicate, List.getElem?_cons_zero, List.getElem?_cons_succ, List.set_cons_zero, List.set_cons_succ, Option.map_some, Nat.reduceAdd, Nat.reduceSub, Nat.zero_add, hspl, if_pos hc, hm, hlen, subI, hb, hg, hlo, hcut, show (0 ≤ SMAX) from by decide, if_true, e]
  rw [forL_ret (x := .tup [.tup (rs.map strW), .tup [.str "spoilt", .int ((rs.length : Int) + 1)]]) (S' := S ++ [.lst (rs.map strW)])]
  · simp only [evE_var, evE_int, evE_str, evE_bl, evE_non, evE_bin, evE_neg, evE_cmp, evE_isN, evE_notN, evE_chain, evE_and, evE_or, evE_not, evE_ite, evE_tup, evE_frz, evE_live, evE_call, evE_dead, evE_lim, evE_blt, evE_isi, evE_divm, evE_tupOf, evE_idx, evE_slS, evE_join, evE_mt1, evE_fld, evE_meth, evE_new, evE_dnil, evE_get2, evE_dcopy, evO_none, evO_some, evEs_nil, evEs_cons, evT_val, evT_tru, evT_and, evT_or, evT_not, evAnd_one, evAnd_cons, evOr_one, evOr_cons, evF_lst, evF_comp, evF_listOf, evF_listRng, evF_cat, evF_rep, evF_slL, evF_split, evF_splitMax, evC_nil, evC_one, evI_seq_true, evI_seq_false, evI_str, evI_rng1, evI_rng2, evI_enumL, evI_enumS, exC_pass, exC_dead, exC_nil, exC_cons, exC_exp, exC_app, exC_set, exC_setc, exC_aug, exC_setIx, exC_setKy, exC_setFd, exC_noneFault, exC_augIx, exC_two, exC_ret, exC_retN, exC_ite, exC_for, exC_while, exC_brk, exC_cnt, exC_raise, exC_fault, bind_ok, bind_exc, of_some, st_ok, st_exc, then_nx, then_ret, then_exc, then_bk, then_ct, start_eq, List.map_cons, List.map_nil, List.length_cons, List.length_nil, List.cons_append, List.nil_append, List.replicate, List.getElem?_cons_zero, List.getElem?_cons_succ, List.set_cons_zero, List.set_cons_succ, Option.map_some, Nat.reduceAdd, Nat.reduceSub, Nat.zero_add]
    rw [fin_ret (frz_tt sca_strW rfl), cut_app]
  · simp only [forB_eq, setT, evE_var, evE_int, evE_str, evE_bl, evE_non, evE_bin, evE_neg, evE_cmp, evE_isN, evE_notN, evE_chain, evE_and, evE_or, evE_not, evE_ite, evE_tup, evE_frz, evE_live, evE_call, evE_dead, evE_lim, evE_blt, evE_isi, evE_divm, evE_tupOf, evE_idx, evE_slS, evE_join, evE_mt1, evE_fld, evE_meth, evE_new, evE_dnil, evE_get2, evE_dcopy, evO_none, evO_some, evEs_nil, evEs_cons, evT_val, evT_tru, evT_and, evT_or, evT_not, evAnd_one, evAnd_cons, evOr_one, evOr_cons, evF_lst, evF_comp, evF_listOf, evF_listRng, evF_cat, evF_rep, evF_slL, evF_split, evF_splitMax, evC_nil, evC_one, evI_seq_true, evI_seq_false, evI_str, evI_rng1, evI_rng2, evI_enumL, evI_enumS, exC_pass, exC_dead, exC_nil, exC_cons, exC_exp, exC_app, exC_set, exC_setc, exC_aug, exC_setIx, exC_setKy, exC_setFd, exC_noneFault, exC_augIx, exC_two, exC_ret, exC_retN, exC_ite, exC_for, exC_while, exC_brk, exC_cnt, exC_raise, exC_fault, bind_ok, bind_exc, of_some, st_ok, st_exc, then_nx, then_ret, then_exc, then_bk, then_ct, start_eq, List.map_cons, List.map_nil, List.length_cons, List.length_nil, List.cons_append, List.nil_append, List.replicate, List.getElem?_cons_zero, List.getElem?_cons_succ, List.set_cons_zero, List.set_cons_succ, Option.map_some, Nat.reduceAdd, Nat.reduceSub, Nat.zero_add, len_last, List.length_map, addI, strW, hrow, nonD, if_true, getL_last, if_pos h2]
end Ma
end
section
set_option Elab.async false
set_option linter.all false
set_option maxRecDepth 100000
set_option maxHeartbeats 4000000
set_option exponentiation.threshold 10000
namespace Ma
open Pi PySem PySem.Spec PyProof.Rows TL
theorem joinL_log : ∀ (i : Nat) (rs : List (List Nat)) (last : List Nat), joinL [10] (linesFrom i rs ++ [last]) = logL i rs ++ last
  | _, [], _ => rfl
  | i, [r], last => by
    show lineL (i + 1) r ++ ([10] ++ last) = ((lineL (i + 1) r ++ [10]) ++ []) ++ last
    simp only [List.append_assoc, List.append_nil]
  | i, r :: q :: rs, last => by
    have ih := joinL_log (i + 1) (q :: rs) last
    show lineL (i + 1) r ++ ([10] ++ joinL [10] (linesFrom (i + 1) (q :: rs) ++ [last])) = _
    rw [ih]
    show _ = ((lineL (i + 1) r ++ [10]) ++ logL (i + 1) (q :: rs)) ++ last
    simp only [List.append_assoc]
theorem logL_take : ∀ (i m : Nat) (rs : List (List Nat)), logL i rs = logL i (rs.take m) ++ logL (i + m) (rs.drop m)
  | i, 0, rs => by rw [List.take_zero, List.drop_zero]; rfl
  | i, m + 1, [] => rfl
  | i, m + 1, r :: rs => by
    have ih := logL_take (i + 1) m rs
    show (lineL (i + 1) r ++ [10]) ++ logL (i + 1) rs = ((lineL (i + 1) r ++ [10]) ++ logL (i + 1) (rs.take m)) ++ logL (i + (m + 1)) (rs.drop m)
    rw [ih, show i + 1 + m = i + (m + 1) from by omega]
    simp only [List.append_assoc]
theorem cut_nat {α : Type} {xs : List α} {j : Nat} : cutL xs none (some (j : Int)) = xs.take j := by
  unfold cutL
  rw [show HT.sIx xs.length 0 none = 0 from rfl, HT.sIx_nat, List.drop_zero, Nat.sub_zero]
  by_cases h : j ≤ xs.length
  · rw [Nat.min_eq_left h]
  · rw [Nat.min_eq_right (by omega), List.take_length, List.take_of_length_le (by omega)]
theorem cutS_nat {l : List Nat} {j : Nat} : L2.cutS (W l) none (some (j : Int)) = W (l.take j) := by
  unfold L2.cutS
  rw [show HT.sIx (W l).length 0 none = 0 from rfl, HT.sIx_nat, List.drop_zero, Nat.sub_zero, W_len]
  show W (l.take (min j l.length)) = _
  by_cases h : j ≤ l.length
  · rw [Nat.min_eq_left h]
  · rw [Nat.min_eq_right (by omega), List.take_length, List.take_of_length_le (by omega)]
theorem logL_len {L : Nat} (hL : L ≤ 10000) : ∀ (rs : List (List Nat)) (i : Nat), i + rs.length < 10 ^ 50 → (∀ r ∈ rs, r.length ≤ L) → (logL i rs).length ≤ rs.length * (301 + L)
  | [], i, _, _ => by simp [logL]
  | r :: rs, i, hi, h => by
    rw [List.length_cons] at hi
    have ih := logL_len hL rs (i + 1) (by omega) fun q hq => h q (List.mem_cons_of_mem _ hq)
    have h1 := h r List.mem_cons_self
    have h2 := lineL_len (n := i + 1) (l := r) (by omega) (by omega)
    show ((lineL (i + 1) r ++ [10]) ++ logL (i + 1) rs).length ≤ _
    rw [List.length_append, List.length_append, List.length_singleton, List.length_cons, Nat.succ_mul]
    omega
theorem joinL_tail (t : List Nat) (ts : List (List Nat)) : ∀ (i : Nat) (rs : List (List Nat)), joinL [10] (linesFrom i rs ++ (t :: ts)) = logL i rs ++ joinL [10] (t :: ts)
  | _, [] => rfl
  | i, [r] => by
    show lineL (i + 1) r ++ ([10] ++ joinL [10] (t :: ts)) = ((lineL (i + 1) r ++ [10]) ++ []) ++ joinL [10] (t :: ts)
    simp only [List.append_assoc, List.append_nil]
  | i, r :: q :: rs => by
    have ih := joinL_tail t ts (i + 1) (q :: rs)
    show lineL (i + 1) r ++ ([10] ++ joinL [10] (linesFrom (i + 1) (q :: rs) ++ (t :: ts))) = _
    rw [ih]
    show _ = ((lineL (i + 1) r ++ [10]) ++ logL (i + 1) (q :: rs)) ++ joinL [10] (t :: ts)
    simp only [List.append_assoc]
theorem joinL_pre (p l : List Nat) : ∀ (ls : List (List Nat)), joinL [10] ((p ++ l) :: ls) = p ++ joinL [10] (l :: ls)
  | [] => rfl
  | q :: r => by
    show (p ++ l) ++ ([10] ++ joinL [10] (q :: r)) = p ++ (l ++ ([10] ++ joinL [10] (q :: r)))
    rw [List.append_assoc]

theorem lines_of : ∀ (Y : List Nat), ∃ ps : List (List Nat), ps ≠ [] ∧ (∀ p ∈ ps, 10 ∉ p) ∧ joinL [10] ps = Y ∧ ps.length ≤ Y.length + 1
  | [] => ⟨[[]], by simp, by simp, rfl, Nat.le_refl _⟩
  | c :: Y => by
    obtain ⟨ps, h0, h1, h2, h3⟩ := lines_of Y
    by_cases hc : c = 10
    · refine ⟨[] :: ps, by simp, fun p hp => ?_, ?_, by rw [List.length_cons, List.length_cons]; omega⟩
      · rcases List.mem_cons.mp hp with rfl | hp
        · simp
        · exact h1 p hp
      · subst hc
        cases ps with
        | nil => exact absurd rfl h0
        | cons a r =>
          show [] ++ ([10] ++ joinL [10] (a :: r)) = _
          rw [h2]
          rfl
    · cases ps with
      | nil => exact absurd rfl h0
      | cons a r =>
        refine ⟨(c :: a) :: r, by simp, fun p hp => ?_, ?_, by rw [List.length_cons] at h3 ⊢; rw [List.length_cons]; omega⟩
        · rcases List.mem_cons.mp hp with rfl | hp
          · intro m
            rcases List.mem_cons.mp m with m | m
            · exact hc m.symm
            · exact h1 a List.mem_cons_self m
          · exact h1 p (List.mem_cons_of_mem _ hp)
        · rw [← h2]
          cases r with
          | nil => rfl
          | cons b r => rfl
theorem join_cons (first : List Nat) : ∀ {ps : List (List Nat)}, ps ≠ [] → joinL [10] (first :: ps) = first ++ 10 :: joinL [10] ps
  | [], h => absurd rfl h
  | a :: r, _ => rfl
theorem lineL_two {n : Nat} {l : List Nat} : 2 ≤ (lineL n l).length := by
  rw [lineL_eq]
  simp only [List.length_append, List.length_cons]
  omega
/-- the first line of what stands behind the rows, once a sign of it is another one -/
theorem first_bad {n place c : Nat} {r rest first Y : List Nat} (hr : rowB r = true) (hl : r.length ≤ 60) (hp : place ≤ (lineL n r).length) (hc : (lineL n r ++ [10])[place]? ≠ some c)
    (h : (lineL n r ++ [10]).set place c ++ rest = first ++ 10 :: Y) (hf : 10 ∉ first) : (∀ w, rowB w = true → first ≠ lineL n w) ∧ Splits first := by
  have hfree := lineL_free (n := n) hr
  have h126 : ∀ w : List Nat, rowB w = true → ∀ x ∈ w, x ≤ 126 := fun w hw x hx => ((rowB_le hw).2.2 x hx).2
  have hL2 := lineL_two (n := n) (l := r)
  by_cases c1 : place < (lineL n r).length
  · have hcl : (lineL n r)[place]? ≠ some c := by rwa [List.getElem?_append_left c1] at hc
    rw [set_left c1, List.append_assoc, List.cons_append, List.nil_append] at h
    by_cases c10 : c = 10
    · subst c10
      rw [take_set_drop c1, List.append_assoc, List.cons_append] at h
      obtain ⟨e1, _⟩ := spl (fun m => hfree (List.mem_of_mem_take m)) hf h
      subst e1
      refine ⟨fun w hw e => ?_, ?_⟩
      · have := line_pre (n := n) (r := r) (w := w) (z := (lineL n r).drop place) (by rw [← e, List.take_append_drop])
        have hh := congrArg List.length this
        rw [List.length_drop, List.length_nil] at hh
        omega
      · by_cases p2 : 2 ≤ place
        · exact splits_two (by rw [List.length_take]; omega)
        · by_cases p0 : place = 0
          · rw [p0, List.take_zero]; exact splits_nil
          · have p1 : place = 1 := by omega
            subst p1
            rw [lineL_eq]
            cases q : numL n with
            | nil => exact absurd q (numL_ne n)
            | cons d a =>
              have hd : d ∈ numL n := by rw [q]; exact List.mem_cons_self
              have := numL_digits n d hd
              exact splits_one (by omega)
    · have hf2 : 10 ∉ (lineL n r).set place c := fun m => by
        rcases List.mem_or_eq_of_mem_set m with m | m
        · exact hfree m
        · exact c10 m.symm
      obtain ⟨e1, _⟩ := spl hf2 hf h
      subst e1
      refine ⟨fun w hw => line_set hl (h126 r hr) (h126 w hw) c1 fun e => hcl ?_, splits_two (by rw [List.length_set]; exact hL2)⟩
      rw [← e, List.getElem?_set_self c1]
  · have ep : place = (lineL n r).length := by omega
    subst ep
    rw [set_right (Nat.le_refl _), Nat.sub_self, List.set_cons_zero, List.append_assoc, List.cons_append, List.nil_append] at h
    have c10 : c ≠ 10 := fun e => hc (by rw [List.getElem?_append_right (Nat.le_refl _), Nat.sub_self, e]; rfl)
    have hmem : 10 ∈ rest := by
      have : 10 ∈ lineL n r ++ c :: rest := by rw [h]; simp
      rcases List.mem_append.mp this with m | m
      · exact absurd m hfree
      · rcases List.mem_cons.mp m with m | m
        · exact absurd m.symm c10
        · exact m
    obtain ⟨as, bs, rfl, has⟩ := List.eq_append_cons_of_mem hmem
    have hf2 : 10 ∉ lineL n r ++ c :: as := fun m => by
      rcases List.mem_append.mp m with m | m
      · exact hfree m
      · rcases List.mem_cons.mp m with m | m
        · exact c10 m.symm
        · exact has m
    obtain ⟨e1, _⟩ := spl (x := bs) hf2 hf (by rw [← h, List.append_assoc, List.cons_append])
    subst e1
    refine ⟨fun w hw e => ?_, splits_two (by rw [List.length_append]; omega)⟩
    have := line_pre (n := n) (r := w) (w := r) (z := c :: as) e.symm
    cases this
def chgX (rs : List (List Nat)) (m place c : Nat) : List Nat := (lineL (m + 1) (rs.getD m []) ++ [10]).set place c ++ logL (m + 1) (rs.drop (m + 1))
def stX (X : List Nat) (m : Nat) : List D := if 10 ∈ X then [.str "spoilt", .int ((m : Int) + 1)] else [.str "cut", .int ((m : Int) + 1)]
/-- what the changed text tells -/
theorem changed_ok {k m place c : Nat} {rs : List (List Nat)} {S : Sto} (hm : m < rs.length) (hn : rs.length ≤ 60) (hr : ∀ r ∈ rs, rowB r = true) (hl : ∀ r ∈ rs, r.length ≤ 60) (hp : place ≤ (lineL (m + 1) (rs.getD m [])).length)
    (hc : (lineL (m + 1) (rs.getD m []) ++ [10])[place]? ≠ some c) (hz : (logL 0 (rs.take m) ++ chgX rs m place c).length ≤ 1900) :
    run Cr.P (k + 4) 5 [.str (W (logL 0 (rs.take m) ++ chgX rs m place c))] S = .ok (.tup [.tup ((rs.take m).map strW), .tup (stX (chgX rs m place c) m)]) S := by
  have hd : rs.getD m [] = rs[m] := by rw [List.getD_eq_getElem?_getD, List.getElem?_eq_getElem hm]; rfl
  have hrm : rowB (rs.getD m []) = true := by rw [hd]; exact hr _ (List.getElem_mem hm)
  have hlm : (rs.getD m []).length ≤ 60 := by rw [hd]; exact hl _ (List.getElem_mem hm)
  have htk : ∀ r ∈ rs.take m, rowB r = true := fun r h => hr r (List.mem_of_mem_take h)
  have htl : (rs.take m).length = m := by rw [List.length_take]; omega
  have hXl : (chgX rs m place c).length ≤ 1900 := by rw [List.length_append] at hz; omega
  by_cases h10 : 10 ∈ chgX rs m place c
  · obtain ⟨first, Y, e, hf⟩ := List.eq_append_cons_of_mem h10
    obtain ⟨hbad, hsp⟩ := first_bad hrm hlm hp hc (show (lineL (m + 1) (rs.getD m []) ++ [10]).set place c ++ logL (m + 1) (rs.drop (m + 1)) = first ++ 10 :: Y from e) hf
    obtain ⟨ps, q0, q1, q2, q3⟩ := lines_of Y
    have hXY := congrArg List.length e
    rw [List.length_append, List.length_cons] at hXY
    have htext : joinL [10] (linesFrom 0 (rs.take m) ++ first :: ps) = logL 0 (rs.take m) ++ chgX rs m place c := by rw [joinL_tail, join_cons first q0, q2, e]
    have := recover_spoilt (k := k) (rs := rs.take m) (first := first) (ps := ps) (S := S) (by rw [htl]; omega) htk hf q0 q1 (by rw [htext]; omega) (by omega) hsp (by rw [htl]; exact hbad)
    rw [htext, htl] at this
    rw [this, show stX (chgX rs m place c) m = [.str "spoilt", .int ((m : Int) + 1)] from if_pos h10]
  · have htext := joinL_log 0 (rs.take m) (chgX rs m place c)
    have := recover_ok (k := k) (rs := rs.take m) (last := chgX rs m place c) (S := S) (by rw [htl]; omega) htk h10 (by rw [htext, smax_eq]; omega)
    have hne : chgX rs m place c ≠ [] := fun e => by
      have := congrArg List.length e
      unfold chgX at this
      rw [List.length_append, List.length_set, List.length_append, List.length_singleton, List.length_nil] at this
      omega
    rw [htext, show stateD (chgX rs m place c) (rs.take m).length = [.str "cut", .int ((m : Int) + 1)] from by unfold stateD; rw [if_neg hne, htl]] at this
    rw [this, show stX (chgX rs m place c) m = [.str "cut", .int ((m : Int) + 1)] from if_neg h10]
end Ma
end
section
set_option Elab.async false
set_option linter.all false
set_option maxRecDepth 100000
set_option maxHeartbeats 4000000
set_option exponentiation.threshold 10000
namespace Ma
open Pi PySem PySem.Spec PyProof.Rows TL
/-! ### the disk -/
def own4 : List Str := ["own_power", "own_synced", "own_files", "own_items"]
def own2 : List Str := ["own_disk", "own_rows"]
def dsk (y : D) (q r : Nat) : L := .ins "Disk" own4 own4 [.non, y, .loc q, .loc r]
def logK : L2.Key := .inr "log"
def fileL : Option (List Nat) → L
  | none => .dct [] []
  | some t => .dct [logK] [strW t]
def fileD : Option (List Nat) → D
  | none => .dic [] []
  | some t => .dic [logK] [strW t]
def addF (f : Option (List Nat)) (w : List Nat) : Option (List Nat) := if w = [] then f else some (f.getD [] ++ w)
theorem set_self {S : Sto} {i : Nat} {x : L} (h : S[i]? = some x) : S.set i x = S := by
  obtain ⟨hi, e⟩ := List.getElem?_eq_some_iff.mp h
  rw [← e, List.set_getElem_self]
section
variable {S : Sto} {p q r : Nat} {y : D} {f : Option (List Nat)} {its : List D}
theorem fld_pow (h : S[p]? = some (dsk y q r)) : fldD S (.loc p) "own_power" = some .non := by
  show (match S[p]? with
    | some (L.ins _ own fs ds) => if own.contains ("own_power" : Str) then lookF fs ds "own_power" else none
    | _ => none) = _
  rw [h]; rfl
theorem fld_fil (h : S[p]? = some (dsk y q r)) : fldD S (.loc p) "own_files" = some (.loc q) := by
  show (match S[p]? with
    | some (L.ins _ own fs ds) => if own.contains ("own_files" : Str) then lookF fs ds "own_files" else none
    | _ => none) = _
  rw [h]; rfl
theorem fld_itm (h : S[p]? = some (dsk y q r)) : fldD S (.loc p) "own_items" = some (.loc r) := by
  show (match S[p]? with
    | some (L.ins _ own fs ds) => if own.contains ("own_items" : Str) then lookF fs ds "own_items" else none
    | _ => none) = _
  rw [h]; rfl
theorem ins_dsk (h : S[p]? = some (dsk y q r)) : insD S "Disk" ["own_power", "own_synced", "own_files", "own_items"] (.loc p) = true := by
  show (match S[p]? with
    | some (L.ins c' own' _ _) => decide (c' = ("Disk" : Str) ∧ own' = (["own_power", "own_synced", "own_files", "own_items"] : List Str))
    | _ => false) = true
  rw [h]
  exact decide_eq_true ⟨rfl, rfl⟩
theorem ownI_dsk (h : S[p]? = some (dsk y q r)) : ownI S (.loc p) = some (p, ("Disk" : Str), own4, own4, [.non, y, .loc q, .loc r]) := by
  show (match S[p]? with
    | some (L.ins c own fs ds) => some (p, c, own, fs, ds)
    | _ => none) = _
  rw [h]; rfl
theorem own_its (h : S[r]? = some (.lst its)) : Pi.own S (.loc r) = some (r, its) := by
  show (match S[r]? with
    | some (L.lst xs) => some (r, xs)
    | _ => none) = _
  rw [h]
def fKs : Option (List Nat) → List L2.Key
  | none => []
  | some _ => [logK]
def fDs : Option (List Nat) → List D
  | none => []
  | some t => [strW t]
theorem fileL_eq : fileL f = .dct (fKs f) (fDs f) := by cases f <;> rfl
theorem dc_fil (h : S[q]? = some (fileL f)) : getDc S (.loc q) = some (fKs f, fDs f) := by
  show (match S[q]? with
    | some (L.dct ks ds) => some (ks, ds)
    | _ => none) = _
  rw [h, fileL_eq]
theorem ownK_fil (h : S[q]? = some (fileL f)) : ownK S (.loc q) = some (q, fKs f, fDs f) := by
  show (match S[q]? with
    | some (L.dct ks ds) => some (q, ks, ds)
    | _ => none) = _
  rw [h, fileL_eq]
theorem look_fil : (lookK (fKs f) (fDs f) logK).getD (.str "") = strW (f.getD []) := by cases f <;> rfl
theorem put_fil (t : List Nat) : L.dct (putKD (fKs f) (fDs f) logK (strW t)).1 (putKD (fKs f) (fDs f) logK (strW t)).2 = fileL (some t) := by cases f <;> rfl
theorem copy_fil : copyK (fKs f) (fDs f) (fKs f) ([], []) = (fKs f, fDs f) := by cases f <;> rfl
theorem fileD_eq : fileD f = .dic (fKs f) (fDs f) := by cases f <;> rfl
theorem fKs_len : (fKs f).length ≤ 1 := by
  cases f with
  | none => exact Nat.zero_le _
  | some _ => exact Nat.le_refl _
end
theorem spend_ok {k p q r : Nat} {y : D} {S : Sto} (h : S[p]? = some (dsk y q r)) : run Cr.P (k + 1) 21 [.loc p] S = .ok .non S := by
  rw [run_eq (df := Cr.d21) rfl rfl]
  have hn : nonD .non = some true := rfl
  simp only [Cr.d21, Cr.b21, evE_var, evE_int, evE_str, evE_bl, evE_non, evE_bin, evE_neg, evE_cmp, evE_isN, evE_notN, evE_chain, evE_and, evE_or, evE_not, evE_ite, evE_tup, evE_frz, evE_live, evE_call, evE_dead, evE_lim, evE_blt, evE_isi, evE_divm, evE_tupOf, evE_idx, evE_slS, evE_join, evE_mt1, evE_fld, evE_meth, evE_new, evE_dnil, evE_get2, evE_dcopy, evO_none, evO_some, evEs_nil, evEs_cons, evT_val, evT_tru, evT_and, evT_or, evT_not, evAnd_one, evAnd_cons, evOr_one, evOr_cons, evF_lst, evF_comp, evF_listOf, evF_listRng, evF_cat, evF_rep, evF_slL, evF_split, evF_splitMax, evC_nil, evC_one, evI_seq_true, evI_seq_false, evI_str, evI_rng1, evI_rng2, evI_enumL, evI_enumS, exC_pass, exC_dead, exC_nil, exC_cons, exC_exp, exC_app, exC_set, exC_setc, exC_aug, exC_setIx, exC_setKy, exC_setFd, exC_noneFault, exC_augIx, exC_two, exC_ret, exC_retN, exC_ite, exC_for, exC_while, exC_brk, exC_cnt, exC_raise, exC_fault, bind_ok, bind_exc, of_some, st_ok, st_exc, then_nx, then_ret, then_exc, then_bk, then_ct, start_eq, List.map_cons, List.map_nil, List.length_cons, List.length_nil, List.cons_append, List.nil_append, List.replicate, List.getElem?_cons_zero, List.getElem?_cons_succ, List.set_cons_zero, List.set_cons_succ, Option.map_some, Nat.reduceAdd, Nat.reduceSub, Nat.zero_add, fld_pow h, hn, if_true]
  rfl
theorem keyD_log : keyD (.str "log") = some logK := rfl
theorem put_ok {k q : Nat} {f : Option (List Nat)} {w : List Nat} {S : Sto} (h : S[q]? = some (fileL f)) (hz : (f.getD []).length + w.length ≤ 1000000) : run Cr.P (k + 1) 6 [.loc q, .tup [.str "put", .str "log", strW w]] S = .ok .non (S.set q (fileL (some (f.getD [] ++ w)))) := by
  rw [run_eq (df := Cr.d6) rfl rfl]
  have i0 : ∀ a b c : D, idx S (.tup [a, b, c]) (.int 0) = some a := fun _ _ _ => rfl
  have i1 : ∀ a b c : D, idx S (.tup [a, b, c]) (.int 1) = some b := fun _ _ _ => rfl
  have i2 : ∀ a b c : D, idx S (.tup [a, b, c]) (.int 2) = some c := fun _ _ _ => rfl
  have hadd : bop .add (strW (f.getD [])) (strW w) = some (strW (f.getD [] ++ w)) := addS (by rw [smax_eq]; omega)
  have hk : (fKs f).length < SMAX := Nat.lt_of_le_of_lt fKs_len (by decide)
  simp only [Cr.d6, Cr.b6, evE_var, evE_int, evE_str, evE_bl, evE_non, evE_bin, evE_neg, evE_cmp, evE_isN, evE_notN, evE_chain, evE_and, evE_or, evE_not, evE_ite, evE_tup, evE_frz, evE_live, evE_call, evE_dead, evE_lim, evE_blt, evE_isi, evE_divm, evE_tupOf, evE_idx, evE_slS, evE_join, evE_mt1, evE_fld, evE_meth, evE_new, evE_dnil, evE_get2, evE_dcopy, evO_none, evO_some, evEs_nil, evEs_cons, evT_val, evT_tru, evT_and, evT_or, evT_not, evAnd_one, evAnd_cons, evOr_one, evOr_cons, evF_lst, evF_comp, evF_listOf, evF_listRng, evF_cat, evF_rep, evF_slL, evF_split, evF_splitMax, evC_nil, evC_one, evI_seq_true, evI_seq_false, evI_str, evI_rng1, evI_rng2, evI_enumL, evI_enumS, exC_pass, exC_dead, exC_nil, exC_cons, exC_exp, exC_app, exC_set, exC_setc, exC_aug, exC_setIx, exC_setKy, exC_setFd, exC_noneFault, exC_augIx, exC_two, exC_ret, exC_retN, exC_ite, exC_for, exC_while, exC_brk, exC_cnt, exC_raise, exC_fault, bind_ok, bind_exc, of_some, st_ok, st_exc, then_nx, then_ret, then_exc, then_bk, then_ct, start_eq, List.map_cons, List.map_nil, List.length_cons, List.length_nil, List.cons_append, List.nil_append, List.replicate, List.getElem?_cons_zero, List.getElem?_cons_succ, List.set_cons_zero, List.set_cons_succ, Option.map_some, Nat.reduceAdd, Nat.reduceSub, Nat.zero_add, dc_fil h, i0, i1, i2, keyD_log, look_fil, cop, eqS_str, decide_true, if_true, hadd, ownK_fil h, if_pos hk, put_fil]
  rfl
theorem trimF_ok {k q n : Nat} {t : List Nat} {S : Sto} (h : S[q]? = some (fileL (some t))) (hz : t.length ≤ 1000000) : run Cr.P (k + 1) 6 [.loc q, .tup [.str "trim", .str "log", .int (n : Int)]] S = .ok .non (S.set q (fileL (some (t.take n)))) := by
  rw [run_eq (df := Cr.d6) rfl rfl]
  have i0 : ∀ a b c : D, idx S (.tup [a, b, c]) (.int 0) = some a := fun _ _ _ => rfl
  have i1 : ∀ a b c : D, idx S (.tup [a, b, c]) (.int 1) = some b := fun _ _ _ => rfl
  have i2 : ∀ a b c : D, idx S (.tup [a, b, c]) (.int 2) = some c := fun _ _ _ => rfl
  have hk : (fKs (some t)).length < SMAX := Nat.lt_of_le_of_lt fKs_len (by decide)
  have hne : decide (("trim" : Str) = "put") = false := by decide
  have hwl : (W t).length ≤ SMAX := by rw [W_len, smax_eq]; omega
  have hg : strW ((some t).getD []) = .str (W t) := rfl
  have hput : L.dct (putKD (fKs (some t)) (fDs (some t)) logK (.str (W (t.take n)))).1 (putKD (fKs (some t)) (fDs (some t)) logK (.str (W (t.take n)))).2 = fileL (some (t.take n)) := put_fil (f := some t) (t.take n)
  simp only [Cr.d6, Cr.b6, evE_var, evE_int, evE_str, evE_bl, evE_non, evE_bin, evE_neg, evE_cmp, evE_isN, evE_notN, evE_chain, evE_and, evE_or, evE_not, evE_ite, evE_tup, evE_frz, evE_live, evE_call, evE_dead, evE_lim, evE_blt, evE_isi, evE_divm, evE_tupOf, evE_idx, evE_slS, evE_join, evE_mt1, evE_fld, evE_meth, evE_new, evE_dnil, evE_get2, evE_dcopy, evO_none, evO_some, evEs_nil, evEs_cons, evT_val, evT_tru, evT_and, evT_or, evT_not, evAnd_one, evAnd_cons, evOr_one, evOr_cons, evF_lst, evF_comp, evF_listOf, evF_listRng, evF_cat, evF_rep, evF_slL, evF_split, evF_splitMax, evC_nil, evC_one, evI_seq_true, evI_seq_false, evI_str, evI_rng1, evI_rng2, evI_enumL, evI_enumS, exC_pass, exC_dead, exC_nil, exC_cons, exC_exp, exC_app, exC_set, exC_setc, exC_aug, exC_setIx, exC_setKy, exC_setFd, exC_noneFault, exC_augIx, exC_two, exC_ret, exC_retN, exC_ite, exC_for, exC_while, exC_brk, exC_cnt, exC_raise, exC_fault, bind_ok, bind_exc, of_some, st_ok, st_exc, then_nx, then_ret, then_exc, then_bk, then_ct, start_eq, List.map_cons, List.map_nil, List.length_cons, List.length_nil, List.cons_append, List.nil_append, List.replicate, List.getElem?_cons_zero, List.getElem?_cons_succ, List.set_cons_zero, List.set_cons_succ, Option.map_some, Nat.reduceAdd, Nat.reduceSub, Nat.zero_add, dc_fil h, i0, i1, i2, keyD_log, look_fil, hg, cop, eqS_str, hne, Bool.false_eq_true, if_false, ownK_fil h, if_pos hk, if_pos hwl, cutS_nat, hput]
  rfl
theorem set3 {S : Sto} {q r : Nat} {A A' B B' : L} (h : q ≠ r) : (((S.set r B).set q A).set q A').set r B' = (S.set q A').set r B' := by
  rw [List.set_set, List.set_comm _ _ (Ne.symm h), List.set_set]
theorem addF_cons {f : Option (List Nat)} {c : Nat} {w : List Nat} : addF (some (f.getD [] ++ [c])) w = addF f (c :: w) := by
  unfold addF
  rw [if_neg (by simp : ¬ (c :: w = []))]
  by_cases h : w = []
  · rw [if_pos h, h]
  · rw [if_neg h, Option.getD_some, List.append_assoc, List.cons_append, List.nil_append]
theorem write_loop {k p q r : Nat} {y : D} {s : Src} (hs : s.own = none) (z : Option D) (hpq : p ≠ q) (hpr : p ≠ r) (hqr : q ≠ r) : ∀ (w : List Nat) (f : Option (List Nat)) (its : List D) (S : Sto) (x : Option D), S[p]? = some (dsk y q r) → S[q]? = some (fileL f) → S[r]? = some (.lst its) →
    (f.getD []).length + w.length ≤ 1000000 → its.length + w.length ≤ 1000000 →
    ∃ x' its', its'.length = its.length + w.length ∧ forL (forB (run Cr.P (k + 1)) (.nm 3) (.cons (.exp (.meth "Disk" ["own_power", "own_synced", "own_files", "own_items"] (.var 0) 21 .nil))
  (.cons (.app (.fld (.var 0) "own_items") (.tup (.cons (.str "put") (.cons (.var 1) (.cons (.var 3) .nil)))))
  (.cons (.exp (.call 6 (.cons (.fld (.var 0) "own_files") (.cons (.tup (.cons (.str "put") (.cons (.var 1) (.cons (.var 3) .nil)))) .nil))))
  .nil)))) s (w.map sgn1) [some (.loc p), some (.str "log"), z, x] S = .nx [some (.loc p), some (.str "log"), z, x'] ((S.set q (fileL (addF f w))).set r (.lst its'))
  | [], f, its, S, x, hp, hq, hr, _, _ => ⟨x, its, rfl, by
    rw [List.map_nil, forL_nil, show addF f [] = f from if_pos rfl, set_self hq, set_self hr]⟩
  | c :: w, f, its, S, x, hp, hq, hr, h1, h2 => by
    rw [List.length_cons] at h1 h2
    have hlt : ∀ {i : Nat} {c : L}, S[i]? = some c → i < S.length := fun h => (List.getElem?_eq_some_iff.mp h).1
    have hpl := hlt hp
    have hql := hlt hq
    have hrl := hlt hr
    have g1 : ((S.set r (.lst (its ++ [.tup [.str "put", .str "log", sgn1 c]]))).set q (fileL (some (f.getD [] ++ [c]))))[p]? = some (dsk y q r) := by
      rw [List.getElem?_set_ne (Ne.symm hpq), List.getElem?_set_ne (Ne.symm hpr)]; exact hp
    have g2 : ((S.set r (.lst (its ++ [.tup [.str "put", .str "log", sgn1 c]]))).set q (fileL (some (f.getD [] ++ [c]))))[q]? = some (fileL (some (f.getD [] ++ [c]))) := List.getElem?_set_self (by rw [List.length_set]; exact hql)
    have g3 : ((S.set r (.lst (its ++ [.tup [.str "put", .str "log", sgn1 c]]))).set q (fileL (some (f.getD [] ++ [c]))))[r]? = some (.lst (its ++ [.tup [.str "put", .str "log", sgn1 c]])) := by
      rw [List.getElem?_set_ne hqr, List.getElem?_set_self hrl]
    obtain ⟨x', its', hl, ih⟩ := write_loop (k := k) hs z hpq hpr hqr w (some (f.getD [] ++ [c])) (its ++ [.tup [.str "put", .str "log", sgn1 c]]) _ (some (sgn1 c)) g1 g2 g3 (by rw [Option.getD_some, List.length_append, List.length_singleton]; omega) (by rw [List.length_append, List.length_singleton]; omega)
    refine ⟨x', its', by rw [hl, List.length_append, List.length_singleton, List.length_cons]; omega, ?_⟩
    rw [List.map_cons]
    have ho : okS s ((S.set r (.lst (its ++ [.tup [.str "put", .str "log", sgn1 c]]))).set q (fileL (some (f.getD [] ++ [c])))) := by
      obtain ⟨i, o, h⟩ := s
      dsimp only at hs
      subst hs
      exact True.intro
    refine (forL_nx (τ' := [some (.loc p), some (.str "log"), z, some (sgn1 c)]) (S' := (S.set r (.lst (its ++ [.tup [.str "put", .str "log", sgn1 c]]))).set q (fileL (some (f.getD [] ++ [c])))) ?_ ho).trans ?_
    · have hsp : run Cr.P (k + 1) 21 [.loc p] S = .ok .non S := spend_ok hp
      have hz : its.length < SMAX := by rw [smax_eq]; omega
      have hp2 : (S.set r (.lst (its ++ [.tup [.str "put", .str "log", sgn1 c]])))[p]? = some (dsk y q r) := by rw [List.getElem?_set_ne (Ne.symm hpr)]; exact hp
      have hq2 : (S.set r (.lst (its ++ [.tup [.str "put", .str "log", sgn1 c]])))[q]? = some (fileL f) := by rw [List.getElem?_set_ne (Ne.symm hqr)]; exact hq
      have hpt : run Cr.P (k + 1) 6 [.loc q, .tup [.str "put", .str "log", sgn1 c]] (S.set r (.lst (its ++ [.tup [.str "put", .str "log", sgn1 c]]))) = .ok .non ((S.set r (.lst (its ++ [.tup [.str "put", .str "log", sgn1 c]]))).set q (fileL (some (f.getD [] ++ [c])))) := put_ok (w := [c]) hq2 (by rw [List.length_singleton]; omega)
      simp only [forB_eq, setT, evE_var, evE_int, evE_str, evE_bl, evE_non, evE_bin, evE_neg, evE_cmp, evE_isN, evE_notN, evE_chain, evE_and, evE_or, evE_not, evE_ite, evE_tup, evE_frz, evE_live, evE_call, evE_dead, evE_lim, evE_blt, evE_isi, evE_divm, evE_tupOf, evE_idx, evE_slS, evE_join, evE_mt1, evE_fld, evE_meth, evE_new, evE_dnil, evE_get2, evE_dcopy, evO_none, evO_some, evEs_nil, evEs_cons, evT_val, evT_tru, evT_and, evT_or, evT_not, evAnd_one, evAnd_cons, evOr_one, evOr_cons, evF_lst, evF_comp, evF_listOf, evF_listRng, evF_cat, evF_rep, evF_slL, evF_split, evF_splitMax, evC_nil, evC_one, evI_seq_true, evI_seq_false, evI_str, evI_rng1, evI_rng2, evI_enumL, evI_enumS, exC_pass, exC_dead, exC_nil, exC_cons, exC_exp, exC_app, exC_set, exC_setc, exC_aug, exC_setIx, exC_setKy, exC_setFd, exC_noneFault, exC_augIx, exC_two, exC_ret, exC_retN, exC_ite, exC_for, exC_while, exC_brk, exC_cnt, exC_raise, exC_fault, bind_ok, bind_exc, of_some, st_ok, st_exc, then_nx, then_ret, then_exc, then_bk, then_ct, start_eq, List.map_cons, List.map_nil, List.length_cons, List.length_nil, List.cons_append, List.nil_append, List.replicate, List.getElem?_cons_zero, List.getElem?_cons_succ, List.set_cons_zero, List.set_cons_succ, Option.map_some, Nat.reduceAdd, Nat.reduceSub, Nat.zero_add, ins_dsk hp, if_true, hsp, fld_itm hp, own_its hr, show 3 ≤ SMAX from by decide, if_pos hz, fld_fil hp2, hpt]
    · rw [ih, addF_cons, set3 hqr]
theorem write_ok {k p q r : Nat} {y : D} {w : List Nat} {f : Option (List Nat)} {its : List D} {S : Sto} (hpq : p ≠ q) (hpr : p ≠ r) (hqr : q ≠ r) (hp : S[p]? = some (dsk y q r)) (hq : S[q]? = some (fileL f)) (hr : S[r]? = some (.lst its))
    (h1 : (f.getD []).length + w.length ≤ 1000000) (h2 : its.length + w.length ≤ 1000000) : ∃ its', its'.length = its.length + w.length ∧ run Cr.P (k + 2) 22 [.loc p, .str "log", .str (W w)] S = .ok .non ((S.set q (fileL (addF f w))).set r (.lst its')) := by
  rw [run_eq (df := Cr.d22) rfl rfl]
  obtain ⟨x', its', hl, e⟩ := write_loop (k := k) (s := ⟨w.map sgn1, none, []⟩) rfl (some (.str (W w))) hpq hpr hqr w f its S none hp hq hr h1 h2
  refine ⟨its', hl, ?_⟩
  simp only [Cr.d22, Cr.b22, evE_var, evE_int, evE_str, evE_bl, evE_non, evE_bin, evE_neg, evE_cmp, evE_isN, evE_notN, evE_chain, evE_and, evE_or, evE_not, evE_ite, evE_tup, evE_frz, evE_live, evE_call, evE_dead, evE_lim, evE_blt, evE_isi, evE_divm, evE_tupOf, evE_idx, evE_slS, evE_join, evE_mt1, evE_fld, evE_meth, evE_new, evE_dnil, evE_get2, evE_dcopy, evO_none, evO_some, evEs_nil, evEs_cons, evT_val, evT_tru, evT_and, evT_or, evT_not, evAnd_one, evAnd_cons, evOr_one, evOr_cons, evF_lst, evF_comp, evF_listOf, evF_listRng, evF_cat, evF_rep, evF_slL, evF_split, evF_splitMax, evC_nil, evC_one, evI_seq_true, evI_seq_false, evI_str, evI_rng1, evI_rng2, evI_enumL, evI_enumS, exC_pass, exC_dead, exC_nil, exC_cons, exC_exp, exC_app, exC_set, exC_setc, exC_aug, exC_setIx, exC_setKy, exC_setFd, exC_noneFault, exC_augIx, exC_two, exC_ret, exC_retN, exC_ite, exC_for, exC_while, exC_brk, exC_cnt, exC_raise, exC_fault, bind_ok, bind_exc, of_some, st_ok, st_exc, then_nx, then_ret, then_exc, then_bk, then_ct, start_eq, List.map_cons, List.map_nil, List.length_cons, List.length_nil, List.cons_append, List.nil_append, List.replicate, List.getElem?_cons_zero, List.getElem?_cons_succ, List.set_cons_zero, List.set_cons_succ, Option.map_some, Nat.reduceAdd, Nat.reduceSub, Nat.zero_add, signs_W, e]
  rfl
theorem trim_ok {k p q r n : Nat} {y : D} {t : List Nat} {its : List D} {S : Sto} (hpq : p ≠ q) (hpr : p ≠ r) (hqr : q ≠ r) (hp : S[p]? = some (dsk y q r)) (hq : S[q]? = some (fileL (some t))) (hr : S[r]? = some (.lst its))
    (h1 : t.length ≤ 1000000) (h2 : its.length ≤ 1000000) : run Cr.P (k + 2) 23 [.loc p, .str "log", .int (n : Int)] S = .ok .non ((S.set r (.lst (its ++ [.tup [.str "trim", .str "log", .int (n : Int)]]))).set q (fileL (some (t.take n)))) := by
  rw [run_eq (df := Cr.d23) rfl rfl]
  have hsp : run Cr.P (k + 1) 21 [.loc p] S = .ok .non S := spend_ok hp
  have hz : its.length < SMAX := by rw [smax_eq]; omega
  have hp2 : (S.set r (.lst (its ++ [.tup [.str "trim", .str "log", .int (n : Int)]])))[p]? = some (dsk y q r) := by rw [List.getElem?_set_ne (Ne.symm hpr)]; exact hp
  have hq2 : (S.set r (.lst (its ++ [.tup [.str "trim", .str "log", .int (n : Int)]])))[q]? = some (fileL (some t)) := by rw [List.getElem?_set_ne (Ne.symm hqr)]; exact hq
  have hpt : run Cr.P (k + 1) 6 [.loc q, .tup [.str "trim", .str "log", .int (n : Int)]] (S.set r (.lst (its ++ [.tup [.str "trim", .str "log", .int (n : Int)]]))) = .ok .non ((S.set r (.lst (its ++ [.tup [.str "trim", .str "log", .int (n : Int)]]))).set q (fileL (some (t.take n)))) := trimF_ok hq2 h1
  simp only [Cr.d23, Cr.b23, evE_var, evE_int, evE_str, evE_bl, evE_non, evE_bin, evE_neg, evE_cmp, evE_isN, evE_notN, evE_chain, evE_and, evE_or, evE_not, evE_ite, evE_tup, evE_frz, evE_live, evE_call, evE_dead, evE_lim, evE_blt, evE_isi, evE_divm, evE_tupOf, evE_idx, evE_slS, evE_join, evE_mt1, evE_fld, evE_meth, evE_new, evE_dnil, evE_get2, evE_dcopy, evO_none, evO_some, evEs_nil, evEs_cons, evT_val, evT_tru, evT_and, evT_or, evT_not, evAnd_one, evAnd_cons, evOr_one, evOr_cons, evF_lst, evF_comp, evF_listOf, evF_listRng, evF_cat, evF_rep, evF_slL, evF_split, evF_splitMax, evC_nil, evC_one, evI_seq_true, evI_seq_false, evI_str, evI_rng1, evI_rng2, evI_enumL, evI_enumS, exC_pass, exC_dead, exC_nil, exC_cons, exC_exp, exC_app, exC_set, exC_setc, exC_aug, exC_setIx, exC_setKy, exC_setFd, exC_noneFault, exC_augIx, exC_two, exC_ret, exC_retN, exC_ite, exC_for, exC_while, exC_brk, exC_cnt, exC_raise, exC_fault, bind_ok, bind_exc, of_some, st_ok, st_exc, then_nx, then_ret, then_exc, then_bk, then_ct, start_eq, List.map_cons, List.map_nil, List.length_cons, List.length_nil, List.cons_append, List.nil_append, List.replicate, List.getElem?_cons_zero, List.getElem?_cons_succ, List.set_cons_zero, List.set_cons_succ, Option.map_some, Nat.reduceAdd, Nat.reduceSub, Nat.zero_add, ins_dsk hp, if_true, hsp, fld_itm hp, own_its hr, show 3 ≤ SMAX from by decide, if_pos hz, fld_fil hp2, hpt]
  rfl
theorem sync_ok {k p q r : Nat} {y : D} {f : Option (List Nat)} {S : Sto} (hpq : p ≠ q) (hp : S[p]? = some (dsk y q r)) (hq : S[q]? = some (fileL f)) : run Cr.P (k + 2) 24 [.loc p] S = .ok .non (S.set p (dsk (fileD f) q S.length) ++ [.lst []]) := by
  rw [run_eq (df := Cr.d24) rfl rfl]
  have hsp : run Cr.P (k + 1) 21 [.loc p] S = .ok .non S := spend_ok hp
  have hpl := (List.getElem?_eq_some_iff.mp hp).1
  have hc : (fldD S (.loc p) "own_files").bind (getDc S) = some (fKs f, fDs f) := by rw [fld_fil hp, Option.bind_some, dc_fil hq]
  have hk : (fKs f).length ≤ 1000 ∧ 1 < 2 := ⟨Nat.le_trans fKs_len (by decide), by decide⟩
  have hp2 : (S.set p (dsk (fileD f) q r))[p]? = some (dsk (fileD f) q r) := List.getElem?_set_self hpl
  have hp3 : (S.set p (dsk (fileD f) q r) ++ [.lst []])[p]? = some (dsk (fileD f) q r) := by rw [List.getElem?_append_left (by rw [List.length_set]; exact hpl)]; exact hp2
  have hcond : ∀ g : Str, own4.contains g = true → (own4.contains g = true ∧ own4.length < 900) := fun g h => ⟨h, by decide⟩
  have e1 : ∀ v : D, L.ins "Disk" own4 (putFs "own_synced" own4) (putFd "own_synced" v own4 [.non, y, .loc q, .loc r]) = dsk v q r := fun _ => rfl
  have e2 : ∀ (v : D) (m : Nat), L.ins "Disk" own4 (putFs "own_items" own4) (putFd "own_items" (.loc m) own4 [.non, v, .loc q, .loc r]) = dsk v q m := fun _ _ => rfl
  have e3 : (S.set p (dsk (fileD f) q r) ++ [L.lst []]).set p (dsk (fileD f) q S.length) = S.set p (dsk (fileD f) q S.length) ++ [L.lst []] := by
    rw [List.set_append_left _ _ (by rw [List.length_set]; exact hpl), List.set_set]
  simp only [Cr.d24, Cr.b24, evE_var, evE_int, evE_str, evE_bl, evE_non, evE_bin, evE_neg, evE_cmp, evE_isN, evE_notN, evE_chain, evE_and, evE_or, evE_not, evE_ite, evE_tup, evE_frz, evE_live, evE_call, evE_dead, evE_lim, evE_blt, evE_isi, evE_divm, evE_tupOf, evE_idx, evE_slS, evE_join, evE_mt1, evE_fld, evE_meth, evE_new, evE_dnil, evE_get2, evE_dcopy, evO_none, evO_some, evEs_nil, evEs_cons, evT_val, evT_tru, evT_and, evT_or, evT_not, evAnd_one, evAnd_cons, evOr_one, evOr_cons, evF_lst, evF_comp, evF_listOf, evF_listRng, evF_cat, evF_rep, evF_slL, evF_split, evF_splitMax, evC_nil, evC_one, evI_seq_true, evI_seq_false, evI_str, evI_rng1, evI_rng2, evI_enumL, evI_enumS, exC_pass, exC_dead, exC_nil, exC_cons, exC_exp, exC_app, exC_set, exC_setc, exC_aug, exC_setIx, exC_setKy, exC_setFd, exC_noneFault, exC_augIx, exC_two, exC_ret, exC_retN, exC_ite, exC_for, exC_while, exC_brk, exC_cnt, exC_raise, exC_fault, bind_ok, bind_exc, of_some, st_ok, st_exc, then_nx, then_ret, then_exc, then_bk, then_ct, start_eq, List.map_cons, List.map_nil, List.length_cons, List.length_nil, List.cons_append, List.nil_append, List.replicate, List.getElem?_cons_zero, List.getElem?_cons_succ, List.set_cons_zero, List.set_cons_succ, Option.map_some, Nat.reduceAdd, Nat.reduceSub, Nat.zero_add, ins_dsk hp, if_true, hsp, hc, if_pos hk, Bool.false_eq_true, if_false, copy_fil, ← fileD_eq, ownI_dsk hp, if_pos (hcond "own_synced" rfl), e1, show 0 ≤ SMAX from by decide, ownI_dsk hp3, if_pos (hcond "own_items" rfl), e2, List.length_set, e3]
  rfl
theorem read_ok {k p q r : Nat} {y : D} {f : Option (List Nat)} {S : Sto} (hp : S[p]? = some (dsk y q r)) (hq : S[q]? = some (fileL f)) : run Cr.P (k + 1) 25 [.loc p, .str "log"] S = .ok (strW (f.getD [])) S := by
  rw [run_eq (df := Cr.d25) rfl rfl]
  simp only [Cr.d25, Cr.b25, evE_var, evE_int, evE_str, evE_bl, evE_non, evE_bin, evE_neg, evE_cmp, evE_isN, evE_notN, evE_chain, evE_and, evE_or, evE_not, evE_ite, evE_tup, evE_frz, evE_live, evE_call, evE_dead, evE_lim, evE_blt, evE_isi, evE_divm, evE_tupOf, evE_idx, evE_slS, evE_join, evE_mt1, evE_fld, evE_meth, evE_new, evE_dnil, evE_get2, evE_dcopy, evO_none, evO_some, evEs_nil, evEs_cons, evT_val, evT_tru, evT_and, evT_or, evT_not, evAnd_one, evAnd_cons, evOr_one, evOr_cons, evF_lst, evF_comp, evF_listOf, evF_listRng, evF_cat, evF_rep, evF_slL, evF_split, evF_splitMax, evC_nil, evC_one, evI_seq_true, evI_seq_false, evI_str, evI_rng1, evI_rng2, evI_enumL, evI_enumS, exC_pass, exC_dead, exC_nil, exC_cons, exC_exp, exC_app, exC_set, exC_setc, exC_aug, exC_setIx, exC_setKy, exC_setFd, exC_noneFault, exC_augIx, exC_two, exC_ret, exC_retN, exC_ite, exC_for, exC_while, exC_brk, exC_cnt, exC_raise, exC_fault, bind_ok, bind_exc, of_some, st_ok, st_exc, then_nx, then_ret, then_exc, then_bk, then_ct, start_eq, List.map_cons, List.map_nil, List.length_cons, List.length_nil, List.cons_append, List.nil_append, List.replicate, List.getElem?_cons_zero, List.getElem?_cons_succ, List.set_cons_zero, List.set_cons_succ, Option.map_some, Nat.reduceAdd, Nat.reduceSub, Nat.zero_add, fld_fil hp, dc_fil hq, keyD_log, look_fil]
  rfl
theorem waiting_ok {k p q r : Nat} {y : D} {its : List D} {S : Sto} (hp : S[p]? = some (dsk y q r)) (hr : S[r]? = some (.lst its)) : run Cr.P (k + 1) 26 [.loc p] S = .ok (.int its.length) S := by
  rw [run_eq (df := Cr.d26) rfl rfl]
  have hl : blt S .len (.loc r) = some (.int its.length) := by
    show (match S[r]? with
      | some (L.lst xs) => some xs
      | _ => none).map (fun xs : List D => D.int xs.length) = _
    rw [hr]
    rfl
  simp only [Cr.d26, Cr.b26, evE_var, evE_int, evE_str, evE_bl, evE_non, evE_bin, evE_neg, evE_cmp, evE_isN, evE_notN, evE_chain, evE_and, evE_or, evE_not, evE_ite, evE_tup, evE_frz, evE_live, evE_call, evE_dead, evE_lim, evE_blt, evE_isi, evE_divm, evE_tupOf, evE_idx, evE_slS, evE_join, evE_mt1, evE_fld, evE_meth, evE_new, evE_dnil, evE_get2, evE_dcopy, evO_none, evO_some, evEs_nil, evEs_cons, evT_val, evT_tru, evT_and, evT_or, evT_not, evAnd_one, evAnd_cons, evOr_one, evOr_cons, evF_lst, evF_comp, evF_listOf, evF_listRng, evF_cat, evF_rep, evF_slL, evF_split, evF_splitMax, evC_nil, evC_one, evI_seq_true, evI_seq_false, evI_str, evI_rng1, evI_rng2, evI_enumL, evI_enumS, exC_pass, exC_dead, exC_nil, exC_cons, exC_exp, exC_app, exC_set, exC_setc, exC_aug, exC_setIx, exC_setKy, exC_setFd, exC_noneFault, exC_augIx, exC_two, exC_ret, exC_retN, exC_ite, exC_for, exC_while, exC_brk, exC_cnt, exC_raise, exC_fault, bind_ok, bind_exc, of_some, st_ok, st_exc, then_nx, then_ret, then_exc, then_bk, then_ct, start_eq, List.map_cons, List.map_nil, List.length_cons, List.length_nil, List.cons_append, List.nil_append, List.replicate, List.getElem?_cons_zero, List.getElem?_cons_succ, List.set_cons_zero, List.set_cons_succ, Option.map_some, Nat.reduceAdd, Nat.reduceSub, Nat.zero_add, fld_itm hp, hl]
  rfl
end Ma
end
section
set_option Elab.async false
set_option linter.all false
set_option maxRecDepth 100000
set_option maxHeartbeats 4000000
set_option exponentiation.threshold 10000
namespace Ma
open Pi PySem PySem.Spec PyProof.Rows TL
/-! ### the store -/
def sto (p m : Nat) : L := .ins "Store" own2 own2 [.loc p, .loc m]
theorem init_ok {k : Nat} {a b c : Int} : run Cr.P (k + 1) 20 [.loc 1, .non] (Sv a b c [.ins "Disk" own4 [] []]) = .ok .non (Sv a b c [dsk (.dic [] []) 2 3, fileL none, .lst []]) := by
  rw [run_eq (df := Cr.d20) rfl rfl]
  simp only [Cr.d20, Cr.b20, evE_var, evE_int, evE_str, evE_bl, evE_non, evE_bin, evE_neg, evE_cmp, evE_isN, evE_notN, evE_chain, evE_and, evE_or, evE_not, evE_ite, evE_tup, evE_frz, evE_live, evE_call, evE_dead, evE_lim, evE_blt, evE_isi, evE_divm, evE_tupOf, evE_idx, evE_slS, evE_join, evE_mt1, evE_fld, evE_meth, evE_new, evE_dnil, evE_get2, evE_dcopy, evO_none, evO_some, evEs_nil, evEs_cons, evT_val, evT_tru, evT_and, evT_or, evT_not, evAnd_one, evAnd_cons, evOr_one, evOr_cons, evF_lst, evF_comp, evF_listOf, evF_listRng, evF_cat, evF_rep, evF_slL, evF_split, evF_splitMax, evC_nil, evC_one, evI_seq_true, evI_seq_false, evI_str, evI_rng1, evI_rng2, evI_enumL, evI_enumS, exC_pass, exC_dead, exC_nil, exC_cons, exC_exp, exC_app, exC_set, exC_setc, exC_aug, exC_setIx, exC_setKy, exC_setFd, exC_noneFault, exC_augIx, exC_two, exC_ret, exC_retN, exC_ite, exC_for, exC_while, exC_brk, exC_cnt, exC_raise, exC_fault, bind_ok, bind_exc, of_some, st_ok, st_exc, then_nx, then_ret, then_exc, then_bk, then_ct, start_eq, List.map_cons, List.map_nil, List.length_cons, List.length_nil, List.cons_append, List.nil_append, List.replicate, List.getElem?_cons_zero, List.getElem?_cons_succ, List.set_cons_zero, List.set_cons_succ, Option.map_some, Nat.reduceAdd, Nat.reduceSub, Nat.zero_add]
  rfl
section
variable {S : Sto} {s p m : Nat} {xs : List D}
theorem fld_dsk (h : S[s]? = some (sto p m)) : fldD S (.loc s) "own_disk" = some (.loc p) := by
  show (match S[s]? with
    | some (L.ins _ own fs ds) => if own.contains ("own_disk" : Str) then lookF fs ds "own_disk" else none
    | _ => none) = _
  rw [h]; rfl
theorem fld_row (h : S[s]? = some (sto p m)) : fldD S (.loc s) "own_rows" = some (.loc m) := by
  show (match S[s]? with
    | some (L.ins _ own fs ds) => if own.contains ("own_rows" : Str) then lookF fs ds "own_rows" else none
    | _ => none) = _
  rw [h]; rfl
theorem ins_sto (h : S[s]? = some (sto p m)) : insD S "Store" ["own_disk", "own_rows"] (.loc s) = true := by
  show (match S[s]? with
    | some (L.ins c' own' _ _) => decide (c' = ("Store" : Str) ∧ own' = (["own_disk", "own_rows"] : List Str))
    | _ => false) = true
  rw [h]
  exact decide_eq_true ⟨rfl, rfl⟩
theorem len_loc (h : S[m]? = some (.lst xs)) : blt S .len (.loc m) = some (.int xs.length) := by
  show (match S[m]? with
    | some (L.lst xs) => some xs
    | _ => none).map (fun xs : List D => D.int xs.length) = _
  rw [h]
  rfl
theorem getLT_loc (h : S[m]? = some (.lst xs)) : getLT S (.loc m) = some xs := by
  show (match S[m]? with
    | some (L.lst xs) => some xs
    | _ => none) = _
  rw [h]
end
theorem rows_ok {k s p m : Nat} {xs : List D} {S : Sto} (hs : S[s]? = some (sto p m)) (hm : S[m]? = some (.lst xs)) : run Cr.P (k + 1) 29 [.loc s] S = .ok (.loc S.length) (S ++ [.lst xs]) := by
  rw [run_eq (df := Cr.d29) rfl rfl]
  simp only [Cr.d29, Cr.b29, evE_var, evE_int, evE_str, evE_bl, evE_non, evE_bin, evE_neg, evE_cmp, evE_isN, evE_notN, evE_chain, evE_and, evE_or, evE_not, evE_ite, evE_tup, evE_frz, evE_live, evE_call, evE_dead, evE_lim, evE_blt, evE_isi, evE_divm, evE_tupOf, evE_idx, evE_slS, evE_join, evE_mt1, evE_fld, evE_meth, evE_new, evE_dnil, evE_get2, evE_dcopy, evO_none, evO_some, evEs_nil, evEs_cons, evT_val, evT_tru, evT_and, evT_or, evT_not, evAnd_one, evAnd_cons, evOr_one, evOr_cons, evF_lst, evF_comp, evF_listOf, evF_listRng, evF_cat, evF_rep, evF_slL, evF_split, evF_splitMax, evC_nil, evC_one, evI_seq_true, evI_seq_false, evI_str, evI_rng1, evI_rng2, evI_enumL, evI_enumS, exC_pass, exC_dead, exC_nil, exC_cons, exC_exp, exC_app, exC_set, exC_setc, exC_aug, exC_setIx, exC_setKy, exC_setFd, exC_noneFault, exC_augIx, exC_two, exC_ret, exC_retN, exC_ite, exC_for, exC_while, exC_brk, exC_cnt, exC_raise, exC_fault, bind_ok, bind_exc, of_some, st_ok, st_exc, then_nx, then_ret, then_exc, then_bk, then_ct, start_eq, List.map_cons, List.map_nil, List.length_cons, List.length_nil, List.cons_append, List.nil_append, List.replicate, List.getElem?_cons_zero, List.getElem?_cons_succ, List.set_cons_zero, List.set_cons_succ, Option.map_some, Nat.reduceAdd, Nat.reduceSub, Nat.zero_add, fld_row hs, getLT_loc hm]
  rfl
theorem add_ok {k s p q r m : Nat} {y : D} {w : List Nat} {f : Option (List Nat)} {its : List D} {rs : List (List Nat)} {S : Sto} (hpq : p ≠ q) (hpr : p ≠ r) (hqr : q ≠ r) (hsp : s ≠ p) (hsq : s ≠ q) (hsr : s ≠ r) (hmp : m ≠ p) (hmq : m ≠ q) (hmr : m ≠ r)
    (hs : S[s]? = some (sto p m)) (hp : S[p]? = some (dsk y q r)) (hq : S[q]? = some (fileL f)) (hr : S[r]? = some (.lst its)) (hm : S[m]? = some (.lst (rs.map strW)))
    (h1 : (f.getD []).length + w.length ≤ 500000) (h2 : its.length ≤ 500000) (h3 : rs.length ≤ 1000) (hw : rowB w = true) :
    ∃ its', run Cr.P (k + 3) 28 [.loc s, strW w] S = .ok .non (((((S.set q (fileL (addF f (lineL (rs.length + 1) w ++ [10])))).set r (.lst its')).set p (dsk (fileD (addF f (lineL (rs.length + 1) w ++ [10]))) q S.length)) ++ [L.lst []]).set m (L.lst ((rs ++ [w]).map strW))) := by
  rw [run_eq (df := Cr.d28) rfl rfl]
  have hb : run Cr.P (k + 2) 0 [.str "log", .int ((rs.length : Int) + 1)] S = .ok .non S := bound_ok (L := 2000) rfl (by omega)
  have hg : run Cr.P (k + 2) 3 [.int ((rs.length : Int) + 1), strW w] S = .ok (.str (W (lineL (rs.length + 1) w ++ [10]))) S := log_line_ok (k := k) (n := rs.length + 1) (by omega) hw
  have hwl := (rowB_le hw).2.1
  have hll := lineL_len (n := rs.length + 1) (l := w) (by omega) (by omega)
  have hpl := (List.getElem?_eq_some_iff.mp hp).1
  have hql := (List.getElem?_eq_some_iff.mp hq).1
  have hml := (List.getElem?_eq_some_iff.mp hm).1
  obtain ⟨its', hl, e⟩ := write_ok (k := k) (w := lineL (rs.length + 1) w ++ [10]) hpq hpr hqr hp hq hr (by rw [List.length_append, List.length_singleton]; omega) (by rw [List.length_append, List.length_singleton]; omega)
  refine ⟨its', ?_⟩
  have e : run Cr.P (k + 2) 22 [.loc p, .str "log", .str (W (lineL (rs.length + 1) w ++ [10]))] S = _ := e
  generalize hF : addF f (lineL (rs.length + 1) w ++ [10]) = F at e ⊢
  have gs : ((S.set q (fileL F)).set r (.lst its'))[s]? = some (sto p m) := by rw [List.getElem?_set_ne (Ne.symm hsr), List.getElem?_set_ne (Ne.symm hsq)]; exact hs
  have gp : ((S.set q (fileL F)).set r (.lst its'))[p]? = some (dsk y q r) := by rw [List.getElem?_set_ne (Ne.symm hpr), List.getElem?_set_ne (Ne.symm hpq)]; exact hp
  have gq : ((S.set q (fileL F)).set r (.lst its'))[q]? = some (fileL F) := by rw [List.getElem?_set_ne (Ne.symm hqr), List.getElem?_set_self hql]
  have gm : ((S.set q (fileL F)).set r (.lst its'))[m]? = some (.lst (rs.map strW)) := by rw [List.getElem?_set_ne (Ne.symm hmr), List.getElem?_set_ne (Ne.symm hmq)]; exact hm
  have gl : ((S.set q (fileL F)).set r (.lst its')).length = S.length := by rw [List.length_set, List.length_set]
  generalize (S.set q (fileL F)).set r (.lst its') = S1 at e gs gp gq gm gl ⊢
  have e2 : run Cr.P (k + 2) 24 [.loc p] S1 = _ := sync_ok (k := k) hpq gp gq
  rw [gl] at e2
  have ks : (S1.set p (dsk (fileD F) q S.length) ++ [L.lst []])[s]? = some (sto p m) := by
    have := (List.getElem?_eq_some_iff.mp gs).1
    rw [List.getElem?_append_left (by rw [List.length_set]; exact this), List.getElem?_set_ne (Ne.symm hsp)]; exact gs
  have km : (S1.set p (dsk (fileD F) q S.length) ++ [L.lst []])[m]? = some (.lst (rs.map strW)) := by
    have := (List.getElem?_eq_some_iff.mp gm).1
    rw [List.getElem?_append_left (by rw [List.length_set]; exact this), List.getElem?_set_ne (Ne.symm hmp)]; exact gm
  have hz : rs.length < SMAX := by rw [smax_eq]; omega
  have hap : (rs.map strW) ++ [strW w] = (rs ++ [w]).map strW := by rw [List.map_append]; rfl
  simp only [Cr.d28, Cr.b28, evE_var, evE_int, evE_str, evE_bl, evE_non, evE_bin, evE_neg, evE_cmp, evE_isN, evE_notN, evE_chain, evE_and, evE_or, evE_not, evE_ite, evE_tup, evE_frz, evE_live, evE_call, evE_dead, evE_lim, evE_blt, evE_isi, evE_divm, evE_tupOf, evE_idx, evE_slS, evE_join, evE_mt1, evE_fld, evE_meth, evE_new, evE_dnil, evE_get2, evE_dcopy, evO_none, evO_some, evEs_nil, evEs_cons, evT_val, evT_tru, evT_and, evT_or, evT_not, evAnd_one, evAnd_cons, evOr_one, evOr_cons, evF_lst, evF_comp, evF_listOf, evF_listRng, evF_cat, evF_rep, evF_slL, evF_split, evF_splitMax, evC_nil, evC_one, evI_seq_true, evI_seq_false, evI_str, evI_rng1, evI_rng2, evI_enumL, evI_enumS, exC_pass, exC_dead, exC_nil, exC_cons, exC_exp, exC_app, exC_set, exC_setc, exC_aug, exC_setIx, exC_setKy, exC_setFd, exC_noneFault, exC_augIx, exC_two, exC_ret, exC_retN, exC_ite, exC_for, exC_while, exC_brk, exC_cnt, exC_raise, exC_fault, bind_ok, bind_exc, of_some, st_ok, st_exc, then_nx, then_ret, then_exc, then_bk, then_ct, start_eq, List.map_cons, List.map_nil, List.length_cons, List.length_nil, List.cons_append, List.nil_append, List.replicate, List.getElem?_cons_zero, List.getElem?_cons_succ, List.set_cons_zero, List.set_cons_succ, Option.map_some, Nat.reduceAdd, Nat.reduceSub, Nat.zero_add, fld_row hs, len_loc hm, List.length_map, addI, hb, hg, fld_dsk hs, ins_dsk hp, if_true, e, fld_dsk gs, ins_dsk gp, e2, fld_row ks, own_its km, if_pos hz, hap]
  rfl
/-! ### a store made of a disk -/
theorem rs_spoilt {k n : Nat} {a b c : Int} {y : D} {t : List Nat} {its : List D} {rs : List (List Nat)} (hn : n < 10 ^ 60) (hrec : ∀ S : Sto, run Cr.P (k + 2) 5 [strW t] S = .ok (.tup [.tup (rs.map strW), .tup [.str "spoilt", .int (n : Int)]]) S) :
    run Cr.P (k + 4) 15 [.loc 1] (Sv a b c [dsk y 2 4, fileL (some t), .lst its, .lst []]) = .ok (.tup [.non, .tup [.str "BadDisk", .int (n : Int)]]) (Sv a b c [dsk y 2 4, fileL (some t), .lst its, .lst [], .ins "Store" own2 [] []]) := by
  rw [run_eq (df := Cr.d15) rfl rfl]
  have hx : excOk "BadDisk" [D.int (n : Int)] = true := by
    show (kindX "BadDisk" == 1 && decide ((n : Int).natAbs.log2 < 1900)) = true
    rw [Int.natAbs_natCast, decide_eq_true (log2_lt' (k := 1900) (by decide) (by omega))]
    rfl
  have hf : faultD "BadDisk" [D.int (n : Int)] = some (.tup [.str "BadDisk", .int (n : Int)]) := rfl
  have hread : run Cr.P (k + 2) 25 [.loc 1, .str "log"] (Sv a b c [dsk y 2 4, fileL (some t), .lst its, .lst [], .ins "Store" own2 [] []]) = .ok (strW t) (Sv a b c [dsk y 2 4, fileL (some t), .lst its, .lst [], .ins "Store" own2 [] []]) := read_ok (p := 1) (q := 2) (r := 4) (f := some t) rfl rfl
  have hins : insD (Sv a b c [dsk y 2 4, fileL (some t), .lst its, .lst [], .ins "Store" own2 [] []]) "Disk" ["own_power", "own_synced", "own_files", "own_items"] (.loc 1) = true := ins_dsk (p := 1) (q := 2) (r := 4) (y := y) rfl
  have i0 : ∀ (S : Sto) (x y : D), idx S (.tup [x, y]) (.int 0) = some x := fun _ _ _ => rfl
  have i1 : ∀ (S : Sto) (x y : D), idx S (.tup [x, y]) (.int 1) = some y := fun _ _ _ => rfl
  have hini : run Cr.P (k + 3) 27 [.loc 5, .loc 1] (Sv a b c [dsk y 2 4, fileL (some t), .lst its, .lst [], .ins "Store" own2 [] []]) = .exc "BadDisk" [.int (n : Int)] (Sv a b c [dsk y 2 4, fileL (some t), .lst its, .lst [], .ins "Store" own2 [] []]) := by
    rw [run_eq (df := Cr.d27) rfl rfl]
    simp only [Cr.d27, Cr.b27, evE_var, evE_int, evE_str, evE_bl, evE_non, evE_bin, evE_neg, evE_cmp, evE_isN, evE_notN, evE_chain, evE_and, evE_or, evE_not, evE_ite, evE_tup, evE_frz, evE_live, evE_call, evE_dead, evE_lim, evE_blt, evE_isi, evE_divm, evE_tupOf, evE_idx, evE_slS, evE_join, evE_mt1, evE_fld, evE_meth, evE_new, evE_dnil, evE_get2, evE_dcopy, evO_none, evO_some, evEs_nil, evEs_cons, evT_val, evT_tru, evT_and, evT_or, evT_not, evAnd_one, evAnd_cons, evOr_one, evOr_cons, evF_lst, evF_comp, evF_listOf, evF_listRng, evF_cat, evF_rep, evF_slL, evF_split, evF_splitMax, evC_nil, evC_one, evI_seq_true, evI_seq_false, evI_str, evI_rng1, evI_rng2, evI_enumL, evI_enumS, exC_pass, exC_dead, exC_nil, exC_cons, exC_exp, exC_app, exC_set, exC_setc, exC_aug, exC_setIx, exC_setKy, exC_setFd, exC_noneFault, exC_augIx, exC_two, exC_ret, exC_retN, exC_ite, exC_for, exC_while, exC_brk, exC_cnt, exC_raise, exC_fault, bind_ok, bind_exc, of_some, st_ok, st_exc, then_nx, then_ret, then_exc, then_bk, then_ct, start_eq, List.map_cons, List.map_nil, List.length_cons, List.length_nil, List.cons_append, List.nil_append, List.replicate, List.getElem?_cons_zero, List.getElem?_cons_succ, List.set_cons_zero, List.set_cons_succ, Option.map_some, Nat.reduceAdd, Nat.reduceSub, Nat.zero_add, hins, if_true, hread, hrec, i0, i1, cop, eqS_str, decide_true, hx]
    rfl
  have happ : Sv a b c [dsk y 2 4, fileL (some t), .lst its, .lst []] ++ [.ins "Store" own2 [] []] = Sv a b c [dsk y 2 4, fileL (some t), .lst its, .lst [], .ins "Store" own2 [] []] := rfl
  have happ2 : Sv a b c [dsk y 2 4, fileL (some t), .lst its, .lst []] ++ [.ins "Store" ["own_disk", "own_rows"] [] []] = Sv a b c [dsk y 2 4, fileL (some t), .lst its, .lst [], .ins "Store" own2 [] []] := rfl
  have hlen : (Sv a b c [dsk y 2 4, fileL (some t), .lst its, .lst []]).length = 5 := rfl
  simp only [Cr.d15, Cr.b15, evE_var, evE_int, evE_str, evE_bl, evE_non, evE_bin, evE_neg, evE_cmp, evE_isN, evE_notN, evE_chain, evE_and, evE_or, evE_not, evE_ite, evE_tup, evE_frz, evE_live, evE_call, evE_dead, evE_lim, evE_blt, evE_isi, evE_divm, evE_tupOf, evE_idx, evE_slS, evE_join, evE_mt1, evE_fld, evE_meth, evE_new, evE_dnil, evE_get2, evE_dcopy, evO_none, evO_some, evEs_nil, evEs_cons, evT_val, evT_tru, evT_and, evT_or, evT_not, evAnd_one, evAnd_cons, evOr_one, evOr_cons, evF_lst, evF_comp, evF_listOf, evF_listRng, evF_cat, evF_rep, evF_slL, evF_split, evF_splitMax, evC_nil, evC_one, evI_seq_true, evI_seq_false, evI_str, evI_rng1, evI_rng2, evI_enumL, evI_enumS, exC_pass, exC_dead, exC_nil, exC_cons, exC_exp, exC_app, exC_set, exC_setc, exC_aug, exC_setIx, exC_setKy, exC_setFd, exC_noneFault, exC_augIx, exC_two, exC_ret, exC_retN, exC_ite, exC_for, exC_while, exC_brk, exC_cnt, exC_raise, exC_fault, bind_ok, bind_exc, of_some, st_ok, st_exc, then_nx, then_ret, then_exc, then_bk, then_ct, start_eq, List.map_cons, List.map_nil, List.length_cons, List.length_nil, List.cons_append, List.nil_append, List.replicate, List.getElem?_cons_zero, List.getElem?_cons_succ, List.set_cons_zero, List.set_cons_succ, Option.map_some, Nat.reduceAdd, Nat.reduceSub, Nat.zero_add, hlen, happ2, hini, hf]
  rfl
theorem rs_whole {k : Nat} {a b c : Int} {y : D} {t : List Nat} {its : List D} {rs : List (List Nat)} (hrec : ∀ S : Sto, run Cr.P (k + 2) 5 [strW t] S = .ok (.tup [.tup (rs.map strW), .tup [.str "whole"]]) S) :
    run Cr.P (k + 4) 15 [.loc 1] (Sv a b c [dsk y 2 4, fileL (some t), .lst its, .lst []]) = .ok (.tup [.loc 5, .non]) (Sv a b c [dsk y 2 4, fileL (some t), .lst its, .lst [], sto 1 6, .lst (rs.map strW)]) := by
  rw [run_eq (df := Cr.d15) rfl rfl]
  have hread : run Cr.P (k + 2) 25 [.loc 1, .str "log"] (Sv a b c [dsk y 2 4, fileL (some t), .lst its, .lst [], .ins "Store" own2 [] []]) = .ok (strW t) (Sv a b c [dsk y 2 4, fileL (some t), .lst its, .lst [], .ins "Store" own2 [] []]) := read_ok (p := 1) (q := 2) (r := 4) (f := some t) rfl rfl
  have hins : insD (Sv a b c [dsk y 2 4, fileL (some t), .lst its, .lst [], .ins "Store" own2 [] []]) "Disk" ["own_power", "own_synced", "own_files", "own_items"] (.loc 1) = true := ins_dsk (p := 1) (q := 2) (r := 4) (y := y) rfl
  have i0 : ∀ (S : Sto) (x : D), idx S (.tup [x]) (.int 0) = some x := fun _ _ => rfl
  have n1 : decide (("whole" : Str) = "spoilt") = false := by decide
  have n2 : decide (("whole" : Str) = "cut") = false := by decide
  have hgl : ∀ (S : Sto) (xs : List D), getLT S (.tup xs) = some xs := fun _ _ => rfl
  have hini : run Cr.P (k + 3) 27 [.loc 5, .loc 1] (Sv a b c [dsk y 2 4, fileL (some t), .lst its, .lst [], .ins "Store" own2 [] []]) = .ok .non (Sv a b c [dsk y 2 4, fileL (some t), .lst its, .lst [], sto 1 6, .lst (rs.map strW)]) := by
    rw [run_eq (df := Cr.d27) rfl rfl]
    simp only [Cr.d27, Cr.b27, evE_var, evE_int, evE_str, evE_bl, evE_non, evE_bin, evE_neg, evE_cmp, evE_isN, evE_notN, evE_chain, evE_and, evE_or, evE_not, evE_ite, evE_tup, evE_frz, evE_live, evE_call, evE_dead, evE_lim, evE_blt, evE_isi, evE_divm, evE_tupOf, evE_idx, evE_slS, evE_join, evE_mt1, evE_fld, evE_meth, evE_new, evE_dnil, evE_get2, evE_dcopy, evO_none, evO_some, evEs_nil, evEs_cons, evT_val, evT_tru, evT_and, evT_or, evT_not, evAnd_one, evAnd_cons, evOr_one, evOr_cons, evF_lst, evF_comp, evF_listOf, evF_listRng, evF_cat, evF_rep, evF_slL, evF_split, evF_splitMax, evC_nil, evC_one, evI_seq_true, evI_seq_false, evI_str, evI_rng1, evI_rng2, evI_enumL, evI_enumS, exC_pass, exC_dead, exC_nil, exC_cons, exC_exp, exC_app, exC_set, exC_setc, exC_aug, exC_setIx, exC_setKy, exC_setFd, exC_noneFault, exC_augIx, exC_two, exC_ret, exC_retN, exC_ite, exC_for, exC_while, exC_brk, exC_cnt, exC_raise, exC_fault, bind_ok, bind_exc, of_some, st_ok, st_exc, then_nx, then_ret, then_exc, then_bk, then_ct, start_eq, List.map_cons, List.map_nil, List.length_cons, List.length_nil, List.cons_append, List.nil_append, List.replicate, List.getElem?_cons_zero, List.getElem?_cons_succ, List.set_cons_zero, List.set_cons_succ, Option.map_some, Nat.reduceAdd, Nat.reduceSub, Nat.zero_add, hins, if_true, hread, hrec, i0, cop, eqS_str, n1, n2, Bool.false_eq_true, if_false, hgl]
    rfl
  have happ2 : Sv a b c [dsk y 2 4, fileL (some t), .lst its, .lst []] ++ [.ins "Store" ["own_disk", "own_rows"] [] []] = Sv a b c [dsk y 2 4, fileL (some t), .lst its, .lst [], .ins "Store" own2 [] []] := rfl
  have hlen : (Sv a b c [dsk y 2 4, fileL (some t), .lst its, .lst []]).length = 5 := rfl
  simp only [Cr.d15, Cr.b15, evE_var, evE_int, evE_str, evE_bl, evE_non, evE_bin, evE_neg, evE_cmp, evE_isN, evE_notN, evE_chain, evE_and, evE_or, evE_not, evE_ite, evE_tup, evE_frz, evE_live, evE_call, evE_dead, evE_lim, evE_blt, evE_isi, evE_divm, evE_tupOf, evE_idx, evE_slS, evE_join, evE_mt1, evE_fld, evE_meth, evE_new, evE_dnil, evE_get2, evE_dcopy, evO_none, evO_some, evEs_nil, evEs_cons, evT_val, evT_tru, evT_and, evT_or, evT_not, evAnd_one, evAnd_cons, evOr_one, evOr_cons, evF_lst, evF_comp, evF_listOf, evF_listRng, evF_cat, evF_rep, evF_slL, evF_split, evF_splitMax, evC_nil, evC_one, evI_seq_true, evI_seq_false, evI_str, evI_rng1, evI_rng2, evI_enumL, evI_enumS, exC_pass, exC_dead, exC_nil, exC_cons, exC_exp, exC_app, exC_set, exC_setc, exC_aug, exC_setIx, exC_setKy, exC_setFd, exC_noneFault, exC_augIx, exC_two, exC_ret, exC_retN, exC_ite, exC_for, exC_while, exC_brk, exC_cnt, exC_raise, exC_fault, bind_ok, bind_exc, of_some, st_ok, st_exc, then_nx, then_ret, then_exc, then_bk, then_ct, start_eq, List.map_cons, List.map_nil, List.length_cons, List.length_nil, List.cons_append, List.nil_append, List.replicate, List.getElem?_cons_zero, List.getElem?_cons_succ, List.set_cons_zero, List.set_cons_succ, Option.map_some, Nat.reduceAdd, Nat.reduceSub, Nat.zero_add, hlen, happ2, hini, show 2 ≤ SMAX from by decide, if_true]
  rfl
theorem rs_cut {k n m : Nat} {a b c : Int} {y : D} {t : List Nat} {its : List D} {rs : List (List Nat)} (ht : t.length ≤ 100000) (hrf : Txt.rfind (W t) "\n" + 1 = (m : Int)) (hrec : ∀ S : Sto, run Cr.P (k + 2) 5 [strW t] S = .ok (.tup [.tup (rs.map strW), .tup [.str "cut", .int (n : Int)]]) S) :
    ∃ its2, its2.length ≤ 1 ∧ run Cr.P (k + 4) 15 [.loc 1] (Sv a b c [dsk y 2 4, fileL (some t), .lst its, .lst []]) = .ok (.tup [.loc 5, .non]) (Sv a b c [dsk (fileD (some (t.take m))) 2 6, fileL (some (t.take m)), .lst its, .lst its2, sto 1 7, .lst [], .lst (rs.map strW)]) := by
  refine ⟨[.tup [.str "trim", .str "log", .int (m : Int)]], Nat.le_refl _, ?_⟩
  rw [run_eq (df := Cr.d15) rfl rfl]
  have hread : run Cr.P (k + 2) 25 [.loc 1, .str "log"] (Sv a b c [dsk y 2 4, fileL (some t), .lst its, .lst [], .ins "Store" own2 [] []]) = .ok (strW t) (Sv a b c [dsk y 2 4, fileL (some t), .lst its, .lst [], .ins "Store" own2 [] []]) := read_ok (p := 1) (q := 2) (r := 4) (f := some t) rfl rfl
  have hins : insD (Sv a b c [dsk y 2 4, fileL (some t), .lst its, .lst [], .ins "Store" own2 [] []]) "Disk" ["own_power", "own_synced", "own_files", "own_items"] (.loc 1) = true := ins_dsk (p := 1) (q := 2) (r := 4) (y := y) rfl
  have i0 : ∀ (S : Sto) (x y : D), idx S (.tup [x, y]) (.int 0) = some x := fun _ _ _ => rfl
  have n1 : decide (("cut" : Str) = "spoilt") = false := by decide
  have hgl : ∀ (S : Sto) (xs : List D), getLT S (.tup xs) = some xs := fun _ _ => rfl
  have hmt : mt1 .rfind (.str (W t)) (.str "\n") = some (.int (Txt.rfind (W t) "\n")) := rfl
  have hst : strW t = .str (W t) := rfl
  have htr : run Cr.P (k + 2) 23 [.loc 1, .str "log", .int (m : Int)] (Sv a b c [dsk y 2 4, fileL (some t), .lst its, .lst [], .ins "Store" own2 [] []]) = .ok .non (Sv a b c [dsk y 2 4, fileL (some (t.take m)), .lst its, .lst [.tup [.str "trim", .str "log", .int (m : Int)]], .ins "Store" own2 [] []]) :=
    trim_ok (k := k) (p := 1) (q := 2) (r := 4) (n := m) (t := t) (its := []) (by decide) (by decide) (by decide) rfl rfl rfl (by omega) (by decide)
  have hins2 : insD (Sv a b c [dsk y 2 4, fileL (some (t.take m)), .lst its, .lst [.tup [.str "trim", .str "log", .int (m : Int)]], .ins "Store" own2 [] []]) "Disk" ["own_power", "own_synced", "own_files", "own_items"] (.loc 1) = true := ins_dsk (p := 1) (q := 2) (r := 4) (y := y) rfl
  have hsy : run Cr.P (k + 2) 24 [.loc 1] (Sv a b c [dsk y 2 4, fileL (some (t.take m)), .lst its, .lst [.tup [.str "trim", .str "log", .int (m : Int)]], .ins "Store" own2 [] []]) = .ok .non (Sv a b c [dsk (fileD (some (t.take m))) 2 6, fileL (some (t.take m)), .lst its, .lst [.tup [.str "trim", .str "log", .int (m : Int)]], .ins "Store" own2 [] [], .lst []]) :=
    sync_ok (k := k) (p := 1) (q := 2) (r := 4) (f := some (t.take m)) (by decide) rfl rfl
  have hini : run Cr.P (k + 3) 27 [.loc 5, .loc 1] (Sv a b c [dsk y 2 4, fileL (some t), .lst its, .lst [], .ins "Store" own2 [] []]) = .ok .non (Sv a b c [dsk (fileD (some (t.take m))) 2 6, fileL (some (t.take m)), .lst its, .lst [.tup [.str "trim", .str "log", .int (m : Int)]], sto 1 7, .lst [], .lst (rs.map strW)]) := by
    rw [hst] at hread hrec
    rw [run_eq (df := Cr.d27) rfl rfl]
    simp only [Cr.d27, Cr.b27, evE_var, evE_int, evE_str, evE_bl, evE_non, evE_bin, evE_neg, evE_cmp, evE_isN, evE_notN, evE_chain, evE_and, evE_or, evE_not, evE_ite, evE_tup, evE_frz, evE_live, evE_call, evE_dead, evE_lim, evE_blt, evE_isi, evE_divm, evE_tupOf, evE_idx, evE_slS, evE_join, evE_mt1, evE_fld, evE_meth, evE_new, evE_dnil, evE_get2, evE_dcopy, evO_none, evO_some, evEs_nil, evEs_cons, evT_val, evT_tru, evT_and, evT_or, evT_not, evAnd_one, evAnd_cons, evOr_one, evOr_cons, evF_lst, evF_comp, evF_listOf, evF_listRng, evF_cat, evF_rep, evF_slL, evF_split, evF_splitMax, evC_nil, evC_one, evI_seq_true, evI_seq_false, evI_str, evI_rng1, evI_rng2, evI_enumL, evI_enumS, exC_pass, exC_dead, exC_nil, exC_cons, exC_exp, exC_app, exC_set, exC_setc, exC_aug, exC_setIx, exC_setKy, exC_setFd, exC_noneFault, exC_augIx, exC_two, exC_ret, exC_retN, exC_ite, exC_for, exC_while, exC_brk, exC_cnt, exC_raise, exC_fault, bind_ok, bind_exc, of_some, st_ok, st_exc, then_nx, then_ret, then_exc, then_bk, then_ct, start_eq, List.map_cons, List.map_nil, List.length_cons, List.length_nil, List.cons_append, List.nil_append, List.replicate, List.getElem?_cons_zero, List.getElem?_cons_succ, List.set_cons_zero, List.set_cons_succ, Option.map_some, Nat.reduceAdd, Nat.reduceSub, Nat.zero_add, hins, if_true, hread, hrec, i0, cop, eqS_str, n1, decide_true, Bool.false_eq_true, if_false, hmt, addI, hrf, htr, hins2, hsy, hgl]
    rfl
  have happ2 : Sv a b c [dsk y 2 4, fileL (some t), .lst its, .lst []] ++ [.ins "Store" ["own_disk", "own_rows"] [] []] = Sv a b c [dsk y 2 4, fileL (some t), .lst its, .lst [], .ins "Store" own2 [] []] := rfl
  have hlen : (Sv a b c [dsk y 2 4, fileL (some t), .lst its, .lst []]).length = 5 := rfl
  simp only [Cr.d15, Cr.b15, evE_var, evE_int, evE_str, evE_bl, evE_non, evE_bin, evE_neg, evE_cmp, evE_isN, evE_notN, evE_chain, evE_and, evE_or, evE_not, evE_ite, evE_tup, evE_frz, evE_live, evE_call, evE_dead, evE_lim, evE_blt, evE_isi, evE_divm, evE_tupOf, evE_idx, evE_slS, evE_join, evE_mt1, evE_fld, evE_meth, evE_new, evE_dnil, evE_get2, evE_dcopy, evO_none, evO_some, evEs_nil, evEs_cons, evT_val, evT_tru, evT_and, evT_or, evT_not, evAnd_one, evAnd_cons, evOr_one, evOr_cons, evF_lst, evF_comp, evF_listOf, evF_listRng, evF_cat, evF_rep, evF_slL, evF_split, evF_splitMax, evC_nil, evC_one, evI_seq_true, evI_seq_false, evI_str, evI_rng1, evI_rng2, evI_enumL, evI_enumS, exC_pass, exC_dead, exC_nil, exC_cons, exC_exp, exC_app, exC_set, exC_setc, exC_aug, exC_setIx, exC_setKy, exC_setFd, exC_noneFault, exC_augIx, exC_two, exC_ret, exC_retN, exC_ite, exC_for, exC_while, exC_brk, exC_cnt, exC_raise, exC_fault, bind_ok, bind_exc, of_some, st_ok, st_exc, then_nx, then_ret, then_exc, then_bk, then_ct, start_eq, List.map_cons, List.map_nil, List.length_cons, List.length_nil, List.cons_append, List.nil_append, List.replicate, List.getElem?_cons_zero, List.getElem?_cons_succ, List.set_cons_zero, List.set_cons_succ, Option.map_some, Nat.reduceAdd, Nat.reduceSub, Nat.zero_add, hlen, happ2, hini, show 2 ≤ SMAX from by decide, if_true]
  rfl
end Ma
end
section
set_option Elab.async false
set_option linter.all false
set_option maxRecDepth 100000
set_option maxHeartbeats 4000000
set_option exponentiation.threshold 10000
namespace Ma
open Pi PySem PySem.Spec PyProof.Rows TL
theorem at_nl {t : List Nat} {i : Nat} : StrLaws.At (W t) "\n" (W t).length i ↔ t[i]? = some 10 := by
  rw [at_iff (by decide : tl ("\n" : Str) ≠ [])]
  show ((t.drop i).take 1 == [10]) = true ↔ _
  rw [beq_iff_eq]
  cases h : t[i]? with
  | none =>
    rw [List.drop_eq_nil_of_le (List.getElem?_eq_none_iff.mp h)]
    simp
  | some c =>
    obtain ⟨hi, e⟩ := List.getElem?_eq_some_iff.mp h
    rw [List.drop_eq_getElem_cons hi, e]
    simp
theorem rfind_last {A X : List Nat} (hA : A = [] ∨ ∃ A', A = A' ++ [10]) (hX : 10 ∉ X) : Txt.rfind (W (A ++ X)) "\n" + 1 = (A.length : Int) := by
  have hno : ∀ i, A.length ≤ i → (A ++ X)[i]? ≠ some 10 := fun i hi e => by
    rw [List.getElem?_append_right hi] at e
    exact hX (List.mem_of_getElem? e)
  rcases rfind_whole (W (A ++ X)) "\n" with ⟨h1, h2⟩ | ⟨i, h1, h2, h3⟩
  · rcases hA with rfl | ⟨A', rfl⟩
    · rw [h1]; rfl
    · exact absurd (at_nl.mpr (by rw [List.append_assoc, List.getElem?_append_right (Nat.le_refl _), Nat.sub_self]; rfl)) (h2 A'.length)
  · have hi := at_nl.mp h2
    rcases hA with rfl | ⟨A', rfl⟩
    · exact absurd hi (hno i (Nat.zero_le _))
    · rw [List.length_append, List.length_singleton] at hno ⊢
      have e : i = A'.length := by
        by_cases l1 : A'.length < i
        · exact absurd hi (hno i (by omega))
        · by_cases l2 : i < A'.length
          · exact absurd (at_nl.mpr (by rw [List.append_assoc, List.getElem?_append_right (Nat.le_refl _), Nat.sub_self]; rfl)) (h3 A'.length l2)
          · omega
      rw [h1, e]
      push_cast
      rfl
theorem in_nl {t : List Nat} {S : Sto} : cop S .inn (.str "\n") (.str (W t)) = some (decide (10 ∈ t)) := by
  show some (!(Builtin.Str.occurrences (W t) "\n" 0 (W t).length 1).isEmpty) = _
  congr 1
  obtain ⟨f, g, hno⟩ := StrLaws.occ_tight (W t) "\n" (by decide)
  rw [occ_take (W t) "\n" 1 (by omega)]
  cases ho : Builtin.Str.occurrences (W t) "\n" 0 (W t).length ((W t).length + 1) with
  | nil =>
    rw [ho] at g
    have hf : f = 0 := g
    subst hf
    have : ¬ 10 ∈ t := fun m => by
      obtain ⟨i, hi⟩ := List.mem_iff_getElem?.mp m
      exact hno i (Nat.zero_le _) (at_nl.mpr hi)
    rw [decide_eq_false this]
    rfl
  | cons c r =>
    rw [ho] at g
    have : 10 ∈ t := List.mem_of_getElem? (at_nl.mp g.2.1)
    rw [decide_eq_true this]
    rfl
theorem logL_end : ∀ (rs : List (List Nat)) (i : Nat), logL i rs = [] ∨ ∃ A', logL i rs = A' ++ [10]
  | [], i => .inl rfl
  | r :: rs, i => by
    rcases logL_end rs (i + 1) with h | ⟨A', h⟩
    · exact .inr ⟨lineL (i + 1) r, by rw [logL, h, List.append_nil]⟩
    · exact .inr ⟨(lineL (i + 1) r ++ [10]) ++ A', by rw [logL, h]; simp only [List.append_assoc]⟩
/-! ### where a sign is changed -/
theorem take_range {l : List Nat} : ∀ {n : Nat}, n ≤ l.length → l.take n = (List.range n).map fun i => l.getD i 0 := fun {n} h => by
  refine List.ext_getElem? fun i => ?_
  rw [List.getElem?_take, List.getElem?_map]
  by_cases hi : i < n
  · rw [if_pos hi, List.getElem?_range hi, Option.map_some, List.getD_eq_getElem?_getD, List.getElem?_eq_getElem (by omega)]
    rfl
  · rw [if_neg hi, List.getElem?_eq_none (by rw [List.length_range]; omega)]
    rfl
theorem spaces_aux {H r rest : List Nat} : ((List.range ((H ++ r).length - r.length)).filter fun i => (H ++ r ++ rest).getD i 0 == 32).length = H.countP (· == 32) := by
  have hl : (H ++ r).length - r.length = H.length := by rw [List.length_append]; omega
  rw [hl]
  have h1 := take_range (l := H ++ r ++ rest) (n := H.length) (by rw [List.append_assoc, List.length_append]; omega)
  rw [List.append_assoc, List.take_left] at h1
  have h2 := congrArg (List.countP (· == 32)) h1
  rw [List.countP_map] at h2
  rw [← List.countP_eq_length_filter, List.append_assoc]
  exact h2.symm
theorem spaces_len {n : Nat} {r : List Nat} {rest : List Nat} : ((List.range ((lineL n r).length - r.length)).filter fun i => (lineL n r ++ rest).getD i 0 == 32).length = 3 := by
  have e : lineL n r = (numL n ++ [32] ++ numL r.length ++ [32] ++ numL (rsN n r) ++ [32]) ++ r := rfl
  rw [e, spaces_aux]
  have z : ∀ m, List.countP (· == 32) (numL m) = 0 := fun m => List.countP_eq_zero.mpr fun c hc hh => free32 m (by rw [← (beq_iff_eq.mp hh : c = 32)]; exact hc)
  simp only [List.countP_append, z]
  rfl
section
variable {T : Sto}
theorem spot_ok {k n : Nat} {a b c : Int} {rs : List (List Nat)} (h0 : 1 ≤ rs.length) (hn : rs.length ≤ 60) (hr : ∀ r ∈ rs, rowB r = true) (hl : ∀ r ∈ rs, r.length ≤ 60) (h : SvOk n a b c) (hb : n + 5000 ≤ 1000000000) :
    ∃ (m place : Nat) (a' b' c' : Int), run Cr.P (k + 3) 16 [.loc 0, .lst (rs.map strW)] (Sv a b c T) = .ok (.tup [.int ((m : Int) + 1), .int (place : Int)]) (Sv a' b' c' T) ∧ m < rs.length ∧ place ≤ (lineL (m + 1) (rs.getD m [])).length ∧ SvOk (n + 3) a' b' c' := by
  rw [run_eq (df := Cr.d16) rfl rfl]
  obtain ⟨r1, a1, b1, c1, e1, p1, q1, s1⟩ := pick_ok (T := T) (k := k + 1) (many := (rs.length : Int)) h (by omega) (by omega) (by omega)
  obtain ⟨m, rfl⟩ : ∃ m : Nat, r1 = (m : Int) := ⟨r1.toNat, by omega⟩
  have hm : m < rs.length := by omega
  have hd : rs.getD m [] = rs[m] := by rw [List.getD_eq_getElem?_getD, List.getElem?_eq_getElem hm]; rfl
  have hrm : rowB (rs.getD m []) = true := by rw [hd]; exact hr _ (List.getElem_mem hm)
  have hlm : (rs.getD m []).length ≤ 60 := by rw [hd]; exact hl _ (List.getElem_mem hm)
  have hgm : (rs.map strW)[m]? = some (strW (rs.getD m [])) := by rw [List.getElem?_map, List.getElem?_eq_getElem hm, hd]; rfl
  generalize hrr : rs.getD m [] = r at hrm hlm hgm
  have hlen : ∀ S : Sto, blt S .len (.lst (rs.map strW)) = some (.int rs.length) := fun S => by
    show some (D.int ((rs.map strW).length : Int)) = _
    rw [List.length_map]
  have hsub : (1 : Int) + (m : Int) - 1 = (m : Int) := by omega
  have hix : ∀ S : Sto, idx S (.lst (rs.map strW)) (.int (m : Int)) = some (strW r) := fun S => by
    show L2.atI (rs.map strW) (m : Int) = _
    rw [idx_at, hgm]
  have hrow := rowB_ok hrm
  have hline : ∀ S : Sto, run Cr.P (k + 2) 10 [.int (1 + (m : Int)), strW r] S = .ok (.str (W (lineL (m + 1) r ++ [10]))) S := fun S => by
    rw [Int.add_comm]
    exact law_line_ok (k := k) (n := m + 1) (by omega) (by omega) hrow.2
  have hL := lineL_len (n := m + 1) (l := r) (by omega) (by omega)
  have hge : r.length + 3 ≤ (lineL (m + 1) r).length := by
    rw [lineL_eq]
    simp only [List.length_append, List.length_cons]
    omega
  have hlenL : ∀ S : Sto, blt S .len (.str (W (lineL (m + 1) r ++ [10]))) = some (.int (((lineL (m + 1) r).length + 1 : Nat) : Int)) := fun S => by
    rw [lenS (by rw [smax_eq, List.length_append, List.length_singleton]; omega), List.length_append, List.length_singleton]
  have hlenr : ∀ S : Sto, blt S .len (strW r) = some (.int r.length) := fun S => lenS (by rw [smax_eq]; omega)
  have hhead : (((lineL (m + 1) r).length + 1 : Nat) : Int) - (r.length : Int) - 1 = (((lineL (m + 1) r).length - r.length : Nat) : Int) := by omega
  obtain ⟨r2, a2, b2, c2, e2, p2, q2, s2⟩ := pick_ok (T := T) (k := k + 1) (many := 6) s1 (by omega) (by decide) (by decide)
  have hswap : (1 : Int) + (m : Int) = (m : Int) + 1 := Int.add_comm _ _
  have heq : ∀ (S : Sto) (x y : Int), eqD S (.int x) (.int y) = some (decide (x = y)) := fun _ _ _ => rfl
  by_cases w1 : r2 < 2
  · obtain ⟨r3, a3, b3, c3, e3, p3, q3, s3⟩ := pick_ok (T := T) (k := k + 1) (many := (((lineL (m + 1) r).length - r.length : Nat) : Int)) s2 (by omega) (by omega) (by omega)
    refine ⟨m, r3.toNat, a3, b3, c3, ?_, hm, by rw [hrr]; omega, s3⟩
    have hr3 : ((r3.toNat : Nat) : Int) = r3 := by omega
    simp only [Cr.d16, Cr.b16, evE_var, evE_int, evE_str, evE_bl, evE_non, evE_bin, evE_neg, evE_cmp, evE_isN, evE_notN, evE_chain, evE_and, evE_or, evE_not, evE_ite, evE_tup, evE_frz, evE_live, evE_call, evE_dead, evE_lim, evE_blt, evE_isi, evE_divm, evE_tupOf, evE_idx, evE_slS, evE_join, evE_mt1, evE_fld, evE_meth, evE_new, evE_dnil, evE_get2, evE_dcopy, evO_none, evO_some, evEs_nil, evEs_cons, evT_val, evT_tru, evT_and, evT_or, evT_not, evAnd_one, evAnd_cons, evOr_one, evOr_cons, evF_lst, evF_comp, evF_listOf, evF_listRng, evF_cat, evF_rep, evF_slL, evF_split, evF_splitMax, evC_nil, evC_one, evI_seq_true, evI_seq_false, evI_str, evI_rng1, evI_rng2, evI_enumL, evI_enumS, exC_pass, exC_dead, exC_nil, exC_cons, exC_exp, exC_app, exC_set, exC_setc, exC_aug, exC_setIx, exC_setKy, exC_setFd, exC_noneFault, exC_augIx, exC_two, exC_ret, exC_retN, exC_ite, exC_for, exC_while, exC_brk, exC_cnt, exC_raise, exC_fault, bind_ok, bind_exc, of_some, st_ok, st_exc, then_nx, then_ret, then_exc, then_bk, then_ct, start_eq, List.map_cons, List.map_nil, List.length_cons, List.length_nil, List.cons_append, List.nil_append, List.replicate, List.getElem?_cons_zero, List.getElem?_cons_succ, List.set_cons_zero, List.set_cons_succ, Option.map_some, Nat.reduceAdd, Nat.reduceSub, Nat.zero_add, hlen, e1, addI, subI, hsub, hix, hline, hlenL, hlenr, hhead, e2, cop, decide_eq_true w1, if_true, e3, show 2 ≤ SMAX from by decide, hr3]
    rw [hswap]
    rfl
  · by_cases w2 : r2 = 2
    · obtain ⟨r3, a3, b3, c3, e3, p3, q3, s3⟩ := pick_ok (T := T) (k := k + 1) (many := 3) s2 (by omega) (by decide) (by decide)
      have hsl := spaces_len (n := m + 1) (r := r) (rest := [10])
      have hr62 : -(2 ^ 62) ≤ (((lineL (m + 1) r).length - r.length : Nat) : Int) ∧ (((lineL (m + 1) r).length - r.length : Nat) : Int) < 2 ^ 62 := by omega
      have hitems : ((List.range ((lineL (m + 1) r).length - r.length)).map fun (i : Nat) => D.int (i : Int)).length ≤ SMAX := by rw [List.length_map, List.length_range, smax_eq]; omega
      have hcomp : compL (compB (run Cr.P (k + 2)) (.nm 6) (.one (.val (.cmp .eq (.idx (.var 3) (.var 6)) (.str " ")))) (.var 6) [("at", 6)] [some (.loc 0), some (.lst (rs.map strW)), some (.int (1 + (m : Int))), some (.str (W (lineL (m + 1) r ++ [10]))), some (.int (((lineL (m + 1) r).length - r.length : Nat) : Int)), some (.int r2), none, none]) ⟨(List.range ((lineL (m + 1) r).length - r.length)).map fun (i : Nat) => D.int (i : Int), none, []⟩
          ((List.range ((lineL (m + 1) r).length - r.length)).map fun (i : Nat) => D.int (i : Int)) (Sv a2 b2 c2 T) = .ok (((List.range ((lineL (m + 1) r).length - r.length)).filter fun i => (lineL (m + 1) r ++ [10]).getD i 0 == 32).map fun (i : Nat) => D.int (i : Int)) (Sv a2 b2 c2 T) := by
        refine compL_filter (s := ⟨_, none, []⟩) True.intro (fun (i : Nat) => D.int (i : Int)) (fun i => (lineL (m + 1) r ++ [10]).getD i 0 == 32) (fun (i : Nat) => D.int (i : Int)) _ fun j hj => ?_
        have hj := List.mem_range.mp hj
        have hjl : j < (lineL (m + 1) r ++ [10]).length := by rw [List.length_append]; omega
        have hx : idx (Sv a2 b2 c2 T) (.str (W (lineL (m + 1) r ++ [10]))) (.int (j : Int)) = some (.str (W [(lineL (m + 1) r ++ [10]).getD j 0])) := by
          show (if (W (lineL (m + 1) r ++ [10])).length ≤ SMAX then (L2.atI (lineL (m + 1) r ++ [10]) (j : Int)).map (fun c => D.str ⟨#[c]⟩) else none) = _
          rw [W_len, if_pos (by rw [smax_eq, List.length_append, List.length_singleton]; omega)]
          have : L2.atI (lineL (m + 1) r ++ [10]) (j : Int) = some ((lineL (m + 1) r ++ [10]).getD j 0) := by
            unfold L2.atI L2.ixN
            rw [if_pos (by omega), if_pos (by omega), Option.bind_some, Int.toNat_natCast, List.getD_eq_getElem?_getD, List.getElem?_eq_getElem hjl]
            rfl
          rw [this]
          rfl
        have hq : eqD (Sv a2 b2 c2 T) (.str (W [(lineL (m + 1) r ++ [10]).getD j 0])) (.str " ") = some ((lineL (m + 1) r ++ [10]).getD j 0 == 32) := by
          show some (decide (W [(lineL (m + 1) r ++ [10]).getD j 0] = (" " : Str))) = _
          rw [sp_eq]
          congr 1
          by_cases hh : (lineL (m + 1) r ++ [10]).getD j 0 = 32
          · rw [hh]; rfl
          · rw [decide_eq_false fun e => hh (List.cons.inj (W_inj.mp e)).1]
            exact (beq_eq_false_iff_ne.mpr hh).symm
        cases hb : (lineL (m + 1) r ++ [10]).getD j 0 == 32 with
        | true => simp only [compB_eq, setT, wipeT, evE_var, evE_int, evE_str, evE_bl, evE_non, evE_bin, evE_neg, evE_cmp, evE_isN, evE_notN, evE_chain, evE_and, evE_or, evE_not, evE_ite, evE_tup, evE_frz, evE_live, evE_call, evE_dead, evE_lim, evE_blt, evE_isi, evE_divm, evE_tupOf, evE_idx, evE_slS, evE_join, evE_mt1, evE_fld, evE_meth, evE_new, evE_dnil, evE_get2, evE_dcopy, evO_none, evO_some, evEs_nil, evEs_cons, evT_val, evT_tru, evT_and, evT_or, evT_not, evAnd_one, evAnd_cons, evOr_one, evOr_cons, evF_lst, evF_comp, evF_listOf, evF_listRng, evF_cat, evF_rep, evF_slL, evF_split, evF_splitMax, evC_nil, evC_one, evI_seq_true, evI_seq_false, evI_str, evI_rng1, evI_rng2, evI_enumL, evI_enumS, exC_pass, exC_dead, exC_nil, exC_cons, exC_exp, exC_app, exC_set, exC_setc, exC_aug, exC_setIx, exC_setKy, exC_setFd, exC_noneFault, exC_augIx, exC_two, exC_ret, exC_retN, exC_ite, exC_for, exC_while, exC_brk, exC_cnt, exC_raise, exC_fault, bind_ok, bind_exc, of_some, st_ok, st_exc, then_nx, then_ret, then_exc, then_bk, then_ct, start_eq, List.map_cons, List.map_nil, List.length_cons, List.length_nil, List.cons_append, List.nil_append, List.replicate, List.getElem?_cons_zero, List.getElem?_cons_succ, List.set_cons_zero, List.set_cons_succ, Option.map_some, Nat.reduceAdd, Nat.reduceSub, Nat.zero_add, hx, cop, hq, hb, if_true]
        | false => simp only [compB_eq, setT, wipeT, evE_var, evE_int, evE_str, evE_bl, evE_non, evE_bin, evE_neg, evE_cmp, evE_isN, evE_notN, evE_chain, evE_and, evE_or, evE_not, evE_ite, evE_tup, evE_frz, evE_live, evE_call, evE_dead, evE_lim, evE_blt, evE_isi, evE_divm, evE_tupOf, evE_idx, evE_slS, evE_join, evE_mt1, evE_fld, evE_meth, evE_new, evE_dnil, evE_get2, evE_dcopy, evO_none, evO_some, evEs_nil, evEs_cons, evT_val, evT_tru, evT_and, evT_or, evT_not, evAnd_one, evAnd_cons, evOr_one, evOr_cons, evF_lst, evF_comp, evF_listOf, evF_listRng, evF_cat, evF_rep, evF_slL, evF_split, evF_splitMax, evC_nil, evC_one, evI_seq_true, evI_seq_false, evI_str, evI_rng1, evI_rng2, evI_enumL, evI_enumS, exC_pass, exC_dead, exC_nil, exC_cons, exC_exp, exC_app, exC_set, exC_setc, exC_aug, exC_setIx, exC_setKy, exC_setFd, exC_noneFault, exC_augIx, exC_two, exC_ret, exC_retN, exC_ite, exC_for, exC_while, exC_brk, exC_cnt, exC_raise, exC_fault, bind_ok, bind_exc, of_some, st_ok, st_exc, then_nx, then_ret, then_exc, then_bk, then_ct, start_eq, List.map_cons, List.map_nil, List.length_cons, List.length_nil, List.cons_append, List.nil_append, List.replicate, List.getElem?_cons_zero, List.getElem?_cons_succ, List.set_cons_zero, List.set_cons_succ, Option.map_some, Nat.reduceAdd, Nat.reduceSub, Nat.zero_add, hx, cop, hq, hb, Bool.false_eq_true, if_false]
      have hFm : ∀ j ∈ (List.range ((lineL (m + 1) r).length - r.length)).filter fun i => (lineL (m + 1) r ++ [10]).getD i 0 == 32, j < (lineL (m + 1) r).length - r.length := fun j hj => List.mem_range.mp (List.mem_filter.mp hj).1
      generalize ((List.range ((lineL (m + 1) r).length - r.length)).filter fun i => (lineL (m + 1) r ++ [10]).getD i 0 == 32) = Fs at hsl hcomp hFm
      obtain ⟨v, hv⟩ : ∃ v, Fs[r3.toNat]? = some v := ⟨_, List.getElem?_eq_getElem (by rw [hsl]; omega)⟩
      have hpl := hFm v (List.mem_of_getElem? hv)
      have hix2 : ∀ S : Sto, idx S (.lst (Fs.map fun (i : Nat) => D.int (i : Int))) (.int r3) = some (.int (v : Int)) := fun S => by
        show L2.atI _ r3 = _
        rw [show r3 = ((r3.toNat : Nat) : Int) from by omega, idx_at, List.getElem?_map, hv]
        rfl
      refine ⟨m, v, a3, b3, c3, ?_, hm, by rw [hrr]; omega, s3⟩
      simp only [Cr.d16, Cr.b16, evE_var, evE_int, evE_str, evE_bl, evE_non, evE_bin, evE_neg, evE_cmp, evE_isN, evE_notN, evE_chain, evE_and, evE_or, evE_not, evE_ite, evE_tup, evE_frz, evE_live, evE_call, evE_dead, evE_lim, evE_blt, evE_isi, evE_divm, evE_tupOf, evE_idx, evE_slS, evE_join, evE_mt1, evE_fld, evE_meth, evE_new, evE_dnil, evE_get2, evE_dcopy, evO_none, evO_some, evEs_nil, evEs_cons, evT_val, evT_tru, evT_and, evT_or, evT_not, evAnd_one, evAnd_cons, evOr_one, evOr_cons, evF_lst, evF_comp, evF_listOf, evF_listRng, evF_cat, evF_rep, evF_slL, evF_split, evF_splitMax, evC_nil, evC_one, evI_seq_true, evI_seq_false, evI_str, evI_rng1, evI_rng2, evI_enumL, evI_enumS, exC_pass, exC_dead, exC_nil, exC_cons, exC_exp, exC_app, exC_set, exC_setc, exC_aug, exC_setIx, exC_setKy, exC_setFd, exC_noneFault, exC_augIx, exC_two, exC_ret, exC_retN, exC_ite, exC_for, exC_while, exC_brk, exC_cnt, exC_raise, exC_fault, bind_ok, bind_exc, of_some, st_ok, st_exc, then_nx, then_ret, then_exc, then_bk, then_ct, start_eq, List.map_cons, List.map_nil, List.length_cons, List.length_nil, List.cons_append, List.nil_append, List.replicate, List.getElem?_cons_zero, List.getElem?_cons_succ, List.set_cons_zero, List.set_cons_succ, Option.map_some, Nat.reduceAdd, Nat.reduceSub, Nat.zero_add, hlen, e1, addI, subI, hsub, hix, hline, hlenL, hlenr, hhead, e2, cop, decide_eq_false w1, Bool.false_eq_true, if_false, heq, decide_eq_true w2, if_true, if_pos hr62, Int.toNat_natCast, if_pos hitems, hcomp, e3, hix2, show 2 ≤ SMAX from by decide]
      rw [hswap]
      rfl
    · by_cases w3 : r2 = 3
      · refine ⟨m, (lineL (m + 1) r).length, a2, b2, c2, ?_, hm, by rw [hrr]; exact Nat.le_refl _, s2.mono (by omega)⟩
        have hl1 : (((lineL (m + 1) r).length + 1 : Nat) : Int) - 1 = ((lineL (m + 1) r).length : Int) := by omega
        simp only [Cr.d16, Cr.b16, evE_var, evE_int, evE_str, evE_bl, evE_non, evE_bin, evE_neg, evE_cmp, evE_isN, evE_notN, evE_chain, evE_and, evE_or, evE_not, evE_ite, evE_tup, evE_frz, evE_live, evE_call, evE_dead, evE_lim, evE_blt, evE_isi, evE_divm, evE_tupOf, evE_idx, evE_slS, evE_join, evE_mt1, evE_fld, evE_meth, evE_new, evE_dnil, evE_get2, evE_dcopy, evO_none, evO_some, evEs_nil, evEs_cons, evT_val, evT_tru, evT_and, evT_or, evT_not, evAnd_one, evAnd_cons, evOr_one, evOr_cons, evF_lst, evF_comp, evF_listOf, evF_listRng, evF_cat, evF_rep, evF_slL, evF_split, evF_splitMax, evC_nil, evC_one, evI_seq_true, evI_seq_false, evI_str, evI_rng1, evI_rng2, evI_enumL, evI_enumS, exC_pass, exC_dead, exC_nil, exC_cons, exC_exp, exC_app, exC_set, exC_setc, exC_aug, exC_setIx, exC_setKy, exC_setFd, exC_noneFault, exC_augIx, exC_two, exC_ret, exC_retN, exC_ite, exC_for, exC_while, exC_brk, exC_cnt, exC_raise, exC_fault, bind_ok, bind_exc, of_some, st_ok, st_exc, then_nx, then_ret, then_exc, then_bk, then_ct, start_eq, List.map_cons, List.map_nil, List.length_cons, List.length_nil, List.cons_append, List.nil_append, List.replicate, List.getElem?_cons_zero, List.getElem?_cons_succ, List.set_cons_zero, List.set_cons_succ, Option.map_some, Nat.reduceAdd, Nat.reduceSub, Nat.zero_add, hlen, e1, addI, subI, hsub, hix, hline, hlenL, hlenr, hhead, e2, cop, decide_eq_false w1, Bool.false_eq_true, if_false, heq, decide_eq_false w2, decide_eq_true w3, if_true, hl1, show 2 ≤ SMAX from by decide]
        rw [hswap]
        rfl
      · obtain ⟨r3, a3, b3, c3, e3, p3, q3, s3⟩ := pick_ok (T := T) (k := k + 1) (many := (((lineL (m + 1) r).length + 1 : Nat) : Int)) s2 (by omega) (by omega) (by omega)
        refine ⟨m, r3.toNat, a3, b3, c3, ?_, hm, by rw [hrr]; omega, s3⟩
        have hr3 : ((r3.toNat : Nat) : Int) = r3 := by omega
        simp only [Cr.d16, Cr.b16, evE_var, evE_int, evE_str, evE_bl, evE_non, evE_bin, evE_neg, evE_cmp, evE_isN, evE_notN, evE_chain, evE_and, evE_or, evE_not, evE_ite, evE_tup, evE_frz, evE_live, evE_call, evE_dead, evE_lim, evE_blt, evE_isi, evE_divm, evE_tupOf, evE_idx, evE_slS, evE_join, evE_mt1, evE_fld, evE_meth, evE_new, evE_dnil, evE_get2, evE_dcopy, evO_none, evO_some, evEs_nil, evEs_cons, evT_val, evT_tru, evT_and, evT_or, evT_not, evAnd_one, evAnd_cons, evOr_one, evOr_cons, evF_lst, evF_comp, evF_listOf, evF_listRng, evF_cat, evF_rep, evF_slL, evF_split, evF_splitMax, evC_nil, evC_one, evI_seq_true, evI_seq_false, evI_str, evI_rng1, evI_rng2, evI_enumL, evI_enumS, exC_pass, exC_dead, exC_nil, exC_cons, exC_exp, exC_app, exC_set, exC_setc, exC_aug, exC_setIx, exC_setKy, exC_setFd, exC_noneFault, exC_augIx, exC_two, exC_ret, exC_retN, exC_ite, exC_for, exC_while, exC_brk, exC_cnt, exC_raise, exC_fault, bind_ok, bind_exc, of_some, st_ok, st_exc, then_nx, then_ret, then_exc, then_bk, then_ct, start_eq, List.map_cons, List.map_nil, List.length_cons, List.length_nil, List.cons_append, List.nil_append, List.replicate, List.getElem?_cons_zero, List.getElem?_cons_succ, List.set_cons_zero, List.set_cons_succ, Option.map_some, Nat.reduceAdd, Nat.reduceSub, Nat.zero_add, hlen, e1, addI, subI, hsub, hix, hline, hlenL, hlenr, hhead, e2, cop, decide_eq_false w1, Bool.false_eq_true, if_false, heq, decide_eq_false w2, decide_eq_false w3, e3, show 2 ≤ SMAX from by decide, if_true, hr3]
        rw [hswap]
        rfl
def menus : List (List Nat) := [tl ("0123456789" : Str), [32], [10], [9], sg2]
theorem menus_ok : ∀ g ∈ menus, 1 ≤ g.length ∧ g.length ≤ 100 := by decide +kernel
theorem other_ok {k n x : Nat} {a b c : Int} (h : SvOk n a b c) (hb : n + 5000 ≤ 1000000000) :
    ∃ (y : Nat) (a' b' c' : Int), run Cr.P (k + 2) 17 [.loc 0, .str (W [x])] (Sv a b c T) = .ok (.str (W [y])) (Sv a' b' c' T) ∧ y ≠ x ∧ SvOk (n + 2) a' b' c' := by
  rw [run_eq (df := Cr.d17) rfl rfl]
  obtain ⟨r1, a1, b1, c1, e1, p1, q1, s1⟩ := pick_ok (T := T) (k := k) (many := 5) h (by omega) (by decide) (by decide)
  have hml : menus.length = 5 := rfl
  obtain ⟨g, hgm⟩ : ∃ g, menus[r1.toNat]? = some g := ⟨_, List.getElem?_eq_getElem (by rw [hml]; omega)⟩
  have hg := menus_ok g (List.mem_of_getElem? hgm)
  have hmenu : ∀ S : Sto, idx S (.lst [.str "0123456789", .str " ", .str "\n", .str "\t", .str sgS]) (.int r1) = some (strW g) := fun S => by
    have e0 : ([.str "0123456789", .str " ", .str "\n", .str "\t", .str sgS] : List D) = menus.map strW := by
      show _ = [strW (tl "0123456789"), strW [32], strW [10], strW [9], strW (tl sgS)]
      unfold strW
      rw [W_tl, W_tl]
      rfl
    rw [e0]
    show L2.atI _ r1 = _
    rw [show r1 = ((r1.toNat : Nat) : Int) from by omega, idx_at, List.getElem?_map, hgm]
    rfl
  obtain ⟨r2, a2, b2, c2, e2, p2, q2, s2⟩ := pick_ok (T := T) (k := k) (many := (g.length : Int)) s1 (by omega) (by omega) (by omega)
  have hlen : ∀ S : Sto, blt S .len (strW g) = some (.int g.length) := fun S => lenS (by rw [smax_eq]; omega)
  have hlt2 : r2.toNat < g.length := by omega
  have hix : ∀ S : Sto, idx S (strW g) (.int r2) = some (.str (W [g[r2.toNat]])) := fun S => by
    show (if (W g).length ≤ SMAX then (L2.atI g r2).map (fun c => D.str ⟨#[c]⟩) else none) = _
    rw [W_len, if_pos (by rw [smax_eq]; omega)]
    have : L2.atI g r2 = some g[r2.toNat] := by
      unfold L2.atI L2.ixN
      rw [if_pos p2, if_pos q2, Option.bind_some, List.getElem?_eq_getElem hlt2]
    rw [this]
    rfl
  generalize g[r2.toNat] = z at hix
  have hs : ∀ S : Sto, run Cr.P (k + 1) 7 [] S = .ok (.str sgS) S := fun S => signs_ok
  by_cases hz : z = x
  · have n1 : decide (W [z] = W [x]) = true := by rw [hz]; exact decide_eq_true rfl
    by_cases h7 : x = 55
    · have n2 : decide (W [x] = ("7" : Str)) = true := by rw [h7]; exact decide_eq_true rfl
      refine ⟨32, a2, b2, c2, ?_, by omega, s2⟩
      simp only [Cr.d17, Cr.b17, evE_var, evE_int, evE_str, evE_bl, evE_non, evE_bin, evE_neg, evE_cmp, evE_isN, evE_notN, evE_chain, evE_and, evE_or, evE_not, evE_ite, evE_tup, evE_frz, evE_live, evE_call, evE_dead, evE_lim, evE_blt, evE_isi, evE_divm, evE_tupOf, evE_idx, evE_slS, evE_join, evE_mt1, evE_fld, evE_meth, evE_new, evE_dnil, evE_get2, evE_dcopy, evO_none, evO_some, evEs_nil, evEs_cons, evT_val, evT_tru, evT_and, evT_or, evT_not, evAnd_one, evAnd_cons, evOr_one, evOr_cons, evF_lst, evF_comp, evF_listOf, evF_listRng, evF_cat, evF_rep, evF_slL, evF_split, evF_splitMax, evC_nil, evC_one, evI_seq_true, evI_seq_false, evI_str, evI_rng1, evI_rng2, evI_enumL, evI_enumS, exC_pass, exC_dead, exC_nil, exC_cons, exC_exp, exC_app, exC_set, exC_setc, exC_aug, exC_setIx, exC_setKy, exC_setFd, exC_noneFault, exC_augIx, exC_two, exC_ret, exC_retN, exC_ite, exC_for, exC_while, exC_brk, exC_cnt, exC_raise, exC_fault, bind_ok, bind_exc, of_some, st_ok, st_exc, then_nx, then_ret, then_exc, then_bk, then_ct, start_eq, List.map_cons, List.map_nil, List.length_cons, List.length_nil, List.cons_append, List.nil_append, List.replicate, List.getElem?_cons_zero, List.getElem?_cons_succ, List.set_cons_zero, List.set_cons_succ, Option.map_some, Nat.reduceAdd, Nat.reduceSub, Nat.zero_add, e1, hs, show 5 ≤ SMAX from by decide, if_true, hmenu, hlen, e2, hix, cop, eqS_str, n1, n2, Bool.not_true, Bool.false_eq_true, if_false]
      rfl
    · have n2 : decide (W [x] = ("7" : Str)) = false := decide_eq_false fun e => h7 (List.cons.inj (W_inj.mp (e.trans (show ("7" : Str) = W [55] from rfl)))).1
      refine ⟨55, a2, b2, c2, ?_, by omega, s2⟩
      simp only [Cr.d17, Cr.b17, evE_var, evE_int, evE_str, evE_bl, evE_non, evE_bin, evE_neg, evE_cmp, evE_isN, evE_notN, evE_chain, evE_and, evE_or, evE_not, evE_ite, evE_tup, evE_frz, evE_live, evE_call, evE_dead, evE_lim, evE_blt, evE_isi, evE_divm, evE_tupOf, evE_idx, evE_slS, evE_join, evE_mt1, evE_fld, evE_meth, evE_new, evE_dnil, evE_get2, evE_dcopy, evO_none, evO_some, evEs_nil, evEs_cons, evT_val, evT_tru, evT_and, evT_or, evT_not, evAnd_one, evAnd_cons, evOr_one, evOr_cons, evF_lst, evF_comp, evF_listOf, evF_listRng, evF_cat, evF_rep, evF_slL, evF_split, evF_splitMax, evC_nil, evC_one, evI_seq_true, evI_seq_false, evI_str, evI_rng1, evI_rng2, evI_enumL, evI_enumS, exC_pass, exC_dead, exC_nil, exC_cons, exC_exp, exC_app, exC_set, exC_setc, exC_aug, exC_setIx, exC_setKy, exC_setFd, exC_noneFault, exC_augIx, exC_two, exC_ret, exC_retN, exC_ite, exC_for, exC_while, exC_brk, exC_cnt, exC_raise, exC_fault, bind_ok, bind_exc, of_some, st_ok, st_exc, then_nx, then_ret, then_exc, then_bk, then_ct, start_eq, List.map_cons, List.map_nil, List.length_cons, List.length_nil, List.cons_append, List.nil_append, List.replicate, List.getElem?_cons_zero, List.getElem?_cons_succ, List.set_cons_zero, List.set_cons_succ, Option.map_some, Nat.reduceAdd, Nat.reduceSub, Nat.zero_add, e1, hs, show 5 ≤ SMAX from by decide, if_true, hmenu, hlen, e2, hix, cop, eqS_str, n1, n2, Bool.not_true, Bool.not_false, Bool.false_eq_true, if_false]
      rfl
  · have n1 : decide (W [z] = W [x]) = false := decide_eq_false fun e => hz (List.cons.inj (W_inj.mp e)).1
    refine ⟨z, a2, b2, c2, ?_, hz, s2⟩
    simp only [Cr.d17, Cr.b17, evE_var, evE_int, evE_str, evE_bl, evE_non, evE_bin, evE_neg, evE_cmp, evE_isN, evE_notN, evE_chain, evE_and, evE_or, evE_not, evE_ite, evE_tup, evE_frz, evE_live, evE_call, evE_dead, evE_lim, evE_blt, evE_isi, evE_divm, evE_tupOf, evE_idx, evE_slS, evE_join, evE_mt1, evE_fld, evE_meth, evE_new, evE_dnil, evE_get2, evE_dcopy, evO_none, evO_some, evEs_nil, evEs_cons, evT_val, evT_tru, evT_and, evT_or, evT_not, evAnd_one, evAnd_cons, evOr_one, evOr_cons, evF_lst, evF_comp, evF_listOf, evF_listRng, evF_cat, evF_rep, evF_slL, evF_split, evF_splitMax, evC_nil, evC_one, evI_seq_true, evI_seq_false, evI_str, evI_rng1, evI_rng2, evI_enumL, evI_enumS, exC_pass, exC_dead, exC_nil, exC_cons, exC_exp, exC_app, exC_set, exC_setc, exC_aug, exC_setIx, exC_setKy, exC_setFd, exC_noneFault, exC_augIx, exC_two, exC_ret, exC_retN, exC_ite, exC_for, exC_while, exC_brk, exC_cnt, exC_raise, exC_fault, bind_ok, bind_exc, of_some, st_ok, st_exc, then_nx, then_ret, then_exc, then_bk, then_ct, start_eq, List.map_cons, List.map_nil, List.length_cons, List.length_nil, List.cons_append, List.nil_append, List.replicate, List.getElem?_cons_zero, List.getElem?_cons_succ, List.set_cons_zero, List.set_cons_succ, Option.map_some, Nat.reduceAdd, Nat.reduceSub, Nat.zero_add, e1, hs, show 5 ≤ SMAX from by decide, if_true, hmenu, hlen, e2, hix, cop, eqS_str, n1, Bool.not_false]
    rfl
end
end Ma
end
section
set_option Elab.async false
set_option linter.all false
set_option maxRecDepth 100000
set_option maxHeartbeats 4000000
set_option exponentiation.threshold 10000
namespace Ma
open Pi PySem PySem.Spec PyProof.Rows TL
theorem rowB_of {l : List Nat} (h1 : 1 ≤ l.length) (h2 : l.length ≤ 2000) (h3 : ∀ c ∈ l, 32 ≤ c ∧ c ≤ 126) : rowB l = true := by
  unfold rowB
  rw [decide_eq_true h1, decide_eq_true h2, List.all_eq_true.mpr fun c hc => by rw [decide_eq_true (h3 c hc).1, decide_eq_true (h3 c hc).2]; rfl]
  rfl
theorem logL_snoc : ∀ (rs : List (List Nat)) (i : Nat) (w : List Nat), logL i (rs ++ [w]) = logL i rs ++ (lineL (i + rs.length + 1) w ++ [10])
  | [], i, w => by
    show (lineL (i + 1) w ++ [10]) ++ [] = [] ++ (lineL (i + 0 + 1) w ++ [10])
    rw [List.append_nil, List.nil_append, Nat.add_zero]
  | r :: rs, i, w => by
    show (lineL (i + 1) r ++ [10]) ++ logL (i + 1) (rs ++ [w]) = ((lineL (i + 1) r ++ [10]) ++ logL (i + 1) rs) ++ _
    rw [logL_snoc rs (i + 1) w, List.length_cons, show i + 1 + rs.length + 1 = i + (rs.length + 1) + 1 from by omega]
    simp only [List.append_assoc]
theorem add_spec {k s p q r m : Nat} {y : D} {w : List Nat} {f : Option (List Nat)} {its : List D} {rs : List (List Nat)} {S : Sto} (hpq : p ≠ q) (hpr : p ≠ r) (hqr : q ≠ r) (hsp : s ≠ p) (hsq : s ≠ q) (hsr : s ≠ r) (hmp : m ≠ p) (hmq : m ≠ q) (hmr : m ≠ r) (hms : m ≠ s)
    (p0 : p ≠ 0) (q0 : q ≠ 0) (r0 : r ≠ 0) (m0 : m ≠ 0)
    (hs : S[s]? = some (sto p m)) (hp : S[p]? = some (dsk y q r)) (hq : S[q]? = some (fileL f)) (hr : S[r]? = some (.lst its)) (hm : S[m]? = some (.lst (rs.map strW)))
    (h1 : (f.getD []).length + w.length ≤ 500000) (h2 : its.length ≤ 500000) (h3 : rs.length ≤ 1000) (hw : rowB w = true) :
    ∃ S', run Cr.P (k + 3) 28 [.loc s, strW w] S = .ok .non S' ∧ S'.length = S.length + 1 ∧ S'[0]? = S[0]? ∧ S'[s]? = some (sto p m) ∧ S'[p]? = some (dsk (fileD (addF f (lineL (rs.length + 1) w ++ [10]))) q S.length) ∧
      S'[q]? = some (fileL (addF f (lineL (rs.length + 1) w ++ [10]))) ∧ S'[S.length]? = some (.lst []) ∧ S'[m]? = some (.lst ((rs ++ [w]).map strW)) := by
  obtain ⟨its', e⟩ := add_ok (k := k) hpq hpr hqr hsp hsq hsr hmp hmq hmr hs hp hq hr hm h1 h2 h3 hw
  have hlt : ∀ {i : Nat} {c : L}, S[i]? = some c → i < S.length := fun h => (List.getElem?_eq_some_iff.mp h).1
  have hpl := hlt hp
  have hql := hlt hq
  have hml := hlt hm
  have hsl := hlt hs
  have h0l : 0 < S.length := by omega
  generalize hF : addF f (lineL (rs.length + 1) w ++ [10]) = F at e ⊢
  refine ⟨_, e, ?_, ?_, ?_, ?_, ?_, ?_, ?_⟩
  · simp only [List.length_set, List.length_append, List.length_singleton]
  · rw [List.getElem?_set_ne m0, List.getElem?_append_left (by simp only [List.length_set]; exact h0l), List.getElem?_set_ne p0, List.getElem?_set_ne r0, List.getElem?_set_ne q0]
  · rw [List.getElem?_set_ne hms, List.getElem?_append_left (by simp only [List.length_set]; exact hsl), List.getElem?_set_ne (Ne.symm hsp), List.getElem?_set_ne (Ne.symm hsr), List.getElem?_set_ne (Ne.symm hsq)]
    exact hs
  · rw [List.getElem?_set_ne hmp, List.getElem?_append_left (by simp only [List.length_set]; exact hpl), List.getElem?_set_self (by simp only [List.length_set]; exact hpl)]
  · rw [List.getElem?_set_ne hmq, List.getElem?_append_left (by simp only [List.length_set]; exact hql), List.getElem?_set_ne hpq, List.getElem?_set_ne (Ne.symm hqr), List.getElem?_set_self hql]
  · rw [List.getElem?_set_ne (by omega), List.getElem?_append_right (by simp only [List.length_set]; exact Nat.le_refl _)]
    simp only [List.length_set, Nat.sub_self]
    rfl
  · rw [List.getElem?_set_self (by simp only [List.length_set, List.length_append]; omega)]
theorem sv_get {a b c a' b' c' : Int} {T : Sto} {i : Nat} (h : i ≠ 0) : (Sv a b c T)[i]? = (Sv a' b' c' T)[i]? := by
  cases i with
  | zero => exact absurd rfl h
  | succ i => rfl
theorem sv_of {S : Sto} {a b c : Int} (h : S[0]? = some (.lst [.int a, .int b, .int c])) : ∃ T, S = Sv a b c T := by
  cases S with
  | nil => cases h
  | cons x T => cases h; exact ⟨T, rfl⟩
def cdr : C → C
  | .cons _ b => b
  | c => c
theorem tail_ok {k n r m : Nat} {a b c : Int} {y st : D} {t : List Nat} {T : Sto} {rs : List (List Nat)} (r0 : r ≠ 0) (r1 : r ≠ 1) (r2 : r ≠ 2) (r5 : r ≠ 5) (m0 : m ≠ 0) (m1 : m ≠ 1) (m2 : m ≠ 2) (m5 : m ≠ 5) (hmr : m ≠ r)
    (h5 : (Sv a b c T)[5]? = some (sto 1 m)) (h1 : (Sv a b c T)[1]? = some (dsk y 2 r)) (h2 : (Sv a b c T)[2]? = some (fileL (some (logL 0 rs)))) (hr : (Sv a b c T)[r]? = some (.lst [])) (hm : (Sv a b c T)[m]? = some (.lst (rs.map strW)))
    (hn : rs.length ≤ 60) (hrs : ∀ r ∈ rs, rowB r = true) (hz : (logL 0 rs).length ≤ 100000) (h : SvOk n a b c) (hb : n + 5000 ≤ 1000000000) :
    ∃ a' b' c' T', exC (run Cr.P (k + 5)) (cdr (cdr (cdr (cdr (cdr Cr.b18))))) [some (.loc 0), some (strW t), some (.lst (rs.map strW)), some st, some (.loc 1), some (.loc 5), some .non, none, none, none] (Sv a b c T) = .ret (.bl true) (Sv a' b' c' T') ∧ SvOk (n + 11) a' b' c' := by
  have hlt : ∀ {S : Sto} {i : Nat} {x : L}, S[i]? = some x → i < S.length := fun h => (List.getElem?_eq_some_iff.mp h).1
  have app : ∀ {S : Sto} {i : Nat} {x z : L}, S[i]? = some x → (S ++ [z])[i]? = some x := fun h => by rw [List.getElem?_append_left (hlt h)]; exact h
  -- the rows, told
  have eA : run Cr.P (k + 5) 29 [.loc 5] (Sv a b c T) = .ok (.loc (Sv a b c T).length) (Sv a b c (T ++ [.lst (rs.map strW)])) := rows_ok (k := k + 4) h5 hm
  have g5 : (Sv a b c (T ++ [.lst (rs.map strW)]))[5]? = some (sto 1 m) := app (S := Sv a b c T) h5
  have g1 : (Sv a b c (T ++ [.lst (rs.map strW)]))[1]? = some (dsk y 2 r) := app (S := Sv a b c T) h1
  have g2 : (Sv a b c (T ++ [.lst (rs.map strW)]))[2]? = some (fileL (some (logL 0 rs))) := app (S := Sv a b c T) h2
  have gr : (Sv a b c (T ++ [.lst (rs.map strW)]))[r]? = some (.lst []) := app (S := Sv a b c T) hr
  have gm : (Sv a b c (T ++ [.lst (rs.map strW)]))[m]? = some (.lst (rs.map strW)) := app (S := Sv a b c T) hm
  have gl : (Sv a b c (T ++ [.lst (rs.map strW)]))[(Sv a b c T).length]? = some (.lst (rs.map strW)) := last_get (S := Sv a b c T)
  generalize (Sv a b c T).length = l0 at eA gl
  have i5 := ins_sto h5
  generalize T ++ [.lst (rs.map strW)] = T1 at eA g5 g1 g2 gr gm gl
  have i1 := ins_dsk g1
  have eB : run Cr.P (k + 5) 25 [.loc 1, .str "log"] (Sv a b c T1) = .ok (strW (logL 0 rs)) (Sv a b c T1) := read_ok (k := k + 4) g1 g2
  have hgl : ∀ (S : Sto) (xs : List D), getLT S (.lst xs) = some xs := fun _ _ => rfl
  have eC : ∀ S : Sto, run Cr.P (k + 5) 11 [.lst (rs.map strW)] S = .ok (.str (W (logL 0 rs))) S := fun S => log_ok (k := k + 2) (by omega) (fun r h => rowB_ok (hrs r h)) (by rw [smax_eq]; omega)
  have eD : run Cr.P (k + 5) 14 [.lst [.loc l0, strW (logL 0 rs)], .lst [.lst (rs.map strW), .str (W (logL 0 rs))]] (Sv a b c T1) = .ok (.bl true) (Sv a b c T1) :=
    same_ok 2 (k + 2) _ _ _ (.lst 1 _ _ rfl (show 2 ≤ 1000000 by decide) (sim_two (.loc 0 l0 _ _ gl rfl (by rw [List.length_map]; omega) sim_strs) (.str _ _)))
  -- a row drawn
  obtain ⟨w, a2, b2, c2, eE, w1, w2, w3, s2⟩ := drawn_ok (T := T1) (k := k + 3) (most := 9) (by decide) (by decide) h (by omega)
  have hw : rowB w = true := rowB_of w1 (by omega) w3
  have k5 : (Sv a2 b2 c2 T1)[5]? = some (sto 1 m) := g5
  have k1 : (Sv a2 b2 c2 T1)[1]? = some (dsk y 2 r) := g1
  have k2 : (Sv a2 b2 c2 T1)[2]? = some (fileL (some (logL 0 rs))) := g2
  have kr : (Sv a2 b2 c2 T1)[r]? = some (.lst []) := (sv_get r0).trans gr
  have km : (Sv a2 b2 c2 T1)[m]? = some (.lst (rs.map strW)) := (sv_get m0).trans gm
  have j5 := ins_sto k5
  obtain ⟨S3, eF, l3, z0, z5, z1, z2, zr, zm⟩ := add_spec (k := k + 2) (s := 5) (p := 1) (q := 2) (by decide) (Ne.symm r1) (Ne.symm r2) (by decide) (by decide) (Ne.symm r5) m1 m2 hmr m5 (by decide) (by decide) r0 m0 k5 k1 k2 kr km (by rw [Option.getD_some]; omega) (by decide) (by omega) hw
  have hF : addF (some (logL 0 rs)) (lineL (rs.length + 1) w ++ [10]) = some (logL 0 (rs ++ [w])) := by
    unfold addF
    rw [if_neg (by simp), Option.getD_some, logL_snoc, Nat.zero_add]
  rw [hF] at z1 z2
  obtain ⟨T3, rfl⟩ := sv_of (a := a2) (b := b2) (c := c2) z0
  generalize (Sv a2 b2 c2 T1).length = l2 at z1 zr
  -- the rows told once more, and that list changed
  have hrs' : ∀ r ∈ rs ++ [w], rowB r = true := fun r h => by
    rcases List.mem_append.mp h with h | h
    · exact hrs r h
    · rw [List.mem_singleton.mp h]; exact hw
  have hcat : (rs.map strW) ++ [strW w] = (rs ++ [w]).map strW := by rw [List.map_append]; rfl
  have hln : (rs ++ [w]).length = rs.length + 1 := by rw [List.length_append, List.length_singleton]
  have hM : ∀ (S : Sto) (xs : List D), getM S (.lst xs) = some xs := fun _ _ => rfl
  have hcz : rs.length + 1 ≤ SMAX := by rw [smax_eq]; omega
  have q5 := ins_sto z5
  have eG : run Cr.P (k + 5) 29 [.loc 5] (Sv a2 b2 c2 T3) = .ok (.loc (Sv a2 b2 c2 T3).length) (Sv a2 b2 c2 T3 ++ [.lst ((rs ++ [w]).map strW)]) := rows_ok (k := k + 4) z5 zm
  have hap : (rs ++ [w]).length < SMAX := by rw [hln, smax_eq]; omega
  have y5 : (Sv a2 b2 c2 T3 ++ [.lst ((rs ++ [w]).map strW ++ [.str "x"])])[5]? = some (sto 1 m) := app z5
  have y1 : (Sv a2 b2 c2 T3 ++ [.lst ((rs ++ [w]).map strW ++ [.str "x"])])[1]? = some (dsk (fileD (some (logL 0 (rs ++ [w])))) 2 l2) := app z1
  have y2 : (Sv a2 b2 c2 T3 ++ [.lst ((rs ++ [w]).map strW ++ [.str "x"])])[2]? = some (fileL (some (logL 0 (rs ++ [w])))) := app z2
  have yr : (Sv a2 b2 c2 T3 ++ [.lst ((rs ++ [w]).map strW ++ [.str "x"])])[l2]? = some (.lst []) := app zr
  have ym : (Sv a2 b2 c2 T3 ++ [.lst ((rs ++ [w]).map strW ++ [.str "x"])])[m]? = some (.lst ((rs ++ [w]).map strW)) := app zm
  have eo : Pi.own (Sv a2 b2 c2 T3 ++ [.lst ((rs ++ [w]).map strW)]) (.loc (Sv a2 b2 c2 T3).length) = some ((Sv a2 b2 c2 T3).length, (rs ++ [w]).map strW) := own_last
  have es : (Sv a2 b2 c2 T3 ++ [L.lst ((rs ++ [w]).map strW)]).set (Sv a2 b2 c2 T3).length (.lst ((rs ++ [w]).map strW ++ [.str "x"])) = Sv a2 b2 c2 T3 ++ [.lst ((rs ++ [w]).map strW ++ [.str "x"])] := last_set
  generalize (Sv a2 b2 c2 T3).length = l3' at eG eo es
  generalize Sv a2 b2 c2 T3 ++ [L.lst ((rs ++ [w]).map strW)] = S4 at eG eo es
  have hS5 : ∃ T5, Sv a2 b2 c2 T3 ++ [.lst ((rs ++ [w]).map strW ++ [.str "x"])] = Sv a2 b2 c2 T5 := ⟨_, rfl⟩
  obtain ⟨T5, hT5⟩ := hS5
  rw [hT5] at es y5 y1 y2 yr ym
  -- at last
  have x5 := ins_sto y5
  have eH : run Cr.P (k + 5) 29 [.loc 5] (Sv a2 b2 c2 T5) = .ok (.loc (Sv a2 b2 c2 T5).length) (Sv a2 b2 c2 (T5 ++ [.lst ((rs ++ [w]).map strW)])) := rows_ok (k := k + 4) y5 ym
  have v1 : (Sv a2 b2 c2 (T5 ++ [.lst ((rs ++ [w]).map strW)]))[1]? = some (dsk (fileD (some (logL 0 (rs ++ [w])))) 2 l2) := app (S := Sv a2 b2 c2 T5) y1
  have v2 : (Sv a2 b2 c2 (T5 ++ [.lst ((rs ++ [w]).map strW)]))[2]? = some (fileL (some (logL 0 (rs ++ [w])))) := app (S := Sv a2 b2 c2 T5) y2
  have vr : (Sv a2 b2 c2 (T5 ++ [.lst ((rs ++ [w]).map strW)]))[l2]? = some (.lst []) := app (S := Sv a2 b2 c2 T5) yr
  have vl : (Sv a2 b2 c2 (T5 ++ [.lst ((rs ++ [w]).map strW)]))[(Sv a2 b2 c2 T5).length]? = some (.lst ((rs ++ [w]).map strW)) := last_get (S := Sv a2 b2 c2 T5)
  generalize (Sv a2 b2 c2 T5).length = l5 at eH vl
  generalize T5 ++ [.lst ((rs ++ [w]).map strW)] = T6 at eH v1 v2 vr vl
  have u1 := ins_dsk v1
  have eI : run Cr.P (k + 5) 25 [.loc 1, .str "log"] (Sv a2 b2 c2 T6) = .ok (strW (logL 0 (rs ++ [w]))) (Sv a2 b2 c2 T6) := read_ok (k := k + 4) v1 v2
  have eJ : run Cr.P (k + 5) 26 [.loc 1] (Sv a2 b2 c2 T6) = .ok (.int 0) (Sv a2 b2 c2 T6) := waiting_ok (k := k + 4) v1 vr
  have hz2 : (logL 0 (rs ++ [w])).length ≤ 200000 := by
    rw [logL_snoc]
    have := lineL_len (n := 0 + rs.length + 1) (l := w) (by omega) (by omega)
    simp only [List.length_append, List.length_cons, List.length_nil]
    omega
  have eK : ∀ S : Sto, run Cr.P (k + 5) 11 [.lst ((rs ++ [w]).map strW)] S = .ok (.str (W (logL 0 (rs ++ [w])))) S := fun S => log_ok (k := k + 2) (by omega) (fun r h => rowB_ok (hrs' r h)) (by rw [smax_eq]; omega)
  have eL : run Cr.P (k + 5) 14 [.lst [.loc l5, strW (logL 0 (rs ++ [w])), .int 0], .lst [.lst ((rs ++ [w]).map strW), .str (W (logL 0 (rs ++ [w]))), .int 0]] (Sv a2 b2 c2 T6) = .ok (.bl true) (Sv a2 b2 c2 T6) :=
    same_ok 2 (k + 2) _ _ _ (.lst 1 _ _ rfl (show 3 ≤ 1000000 by decide) (sim_three (.loc 0 l5 _ _ vl rfl (by rw [List.length_map]; omega) sim_strs) (.str _ _) (.int _ _)))
  refine ⟨a2, b2, c2, T6, ?_, s2.mono (by omega)⟩
  have hn0 : nonD .non = some true := rfl
  have e9 : ((9 : Nat) : Int) = 9 := rfl
  rw [e9] at eE
  simp only [cdr, Cr.b18, evE_var, evE_int, evE_str, evE_bl, evE_non, evE_bin, evE_neg, evE_cmp, evE_isN, evE_notN, evE_chain, evE_and, evE_or, evE_not, evE_ite, evE_tup, evE_frz, evE_live, evE_call, evE_dead, evE_lim, evE_blt, evE_isi, evE_divm, evE_tupOf, evE_idx, evE_slS, evE_join, evE_mt1, evE_fld, evE_meth, evE_new, evE_dnil, evE_get2, evE_dcopy, evO_none, evO_some, evEs_nil, evEs_cons, evT_val, evT_tru, evT_and, evT_or, evT_not, evAnd_one, evAnd_cons, evOr_one, evOr_cons, evF_lst, evF_comp, evF_listOf, evF_listRng, evF_cat, evF_rep, evF_slL, evF_split, evF_splitMax, evC_nil, evC_one, evI_seq_true, evI_seq_false, evI_str, evI_rng1, evI_rng2, evI_enumL, evI_enumS, exC_pass, exC_dead, exC_nil, exC_cons, exC_exp, exC_app, exC_set, exC_setc, exC_aug, exC_setIx, exC_setKy, exC_setFd, exC_noneFault, exC_augIx, exC_two, exC_ret, exC_retN, exC_ite, exC_for, exC_while, exC_brk, exC_cnt, exC_raise, exC_fault, bind_ok, bind_exc, of_some, st_ok, st_exc, then_nx, then_ret, then_exc, then_bk, then_ct, start_eq, List.map_cons, List.map_nil, List.length_cons, List.length_nil, List.cons_append, List.nil_append, List.replicate, List.getElem?_cons_zero, List.getElem?_cons_succ, List.set_cons_zero, List.set_cons_succ, Option.map_some, Nat.reduceAdd, Nat.reduceSub, Nat.zero_add, hn0, Bool.not_true, Bool.false_eq_true, if_false, i5, if_true, eA, i1, eB, show 2 ≤ SMAX from by decide, hgl, eC, eD, eE, j5, eF, hM, List.length_map, if_pos hcz, show 1 ≤ SMAX from by decide, hcat, q5, eG, eo]
  rw [if_pos hap]
  simp only [evE_var, evE_int, evE_str, evE_bl, evE_non, evE_bin, evE_neg, evE_cmp, evE_isN, evE_notN, evE_chain, evE_and, evE_or, evE_not, evE_ite, evE_tup, evE_frz, evE_live, evE_call, evE_dead, evE_lim, evE_blt, evE_isi, evE_divm, evE_tupOf, evE_idx, evE_slS, evE_join, evE_mt1, evE_fld, evE_meth, evE_new, evE_dnil, evE_get2, evE_dcopy, evO_none, evO_some, evEs_nil, evEs_cons, evT_val, evT_tru, evT_and, evT_or, evT_not, evAnd_one, evAnd_cons, evOr_one, evOr_cons, evF_lst, evF_comp, evF_listOf, evF_listRng, evF_cat, evF_rep, evF_slL, evF_split, evF_splitMax, evC_nil, evC_one, evI_seq_true, evI_seq_false, evI_str, evI_rng1, evI_rng2, evI_enumL, evI_enumS, exC_pass, exC_dead, exC_nil, exC_cons, exC_exp, exC_app, exC_set, exC_setc, exC_aug, exC_setIx, exC_setKy, exC_setFd, exC_noneFault, exC_augIx, exC_two, exC_ret, exC_retN, exC_ite, exC_for, exC_while, exC_brk, exC_cnt, exC_raise, exC_fault, bind_ok, bind_exc, of_some, st_ok, st_exc, then_nx, then_ret, then_exc, then_bk, then_ct, start_eq, List.map_cons, List.map_nil, List.length_cons, List.length_nil, List.cons_append, List.nil_append, List.replicate, List.getElem?_cons_zero, List.getElem?_cons_succ, List.set_cons_zero, List.set_cons_succ, Option.map_some, Nat.reduceAdd, Nat.reduceSub, Nat.zero_add, es, hn0, x5, if_true, eH, u1, eI, eJ, show 3 ≤ SMAX from by decide, eK, eL]
end Ma
end
section
set_option Elab.async false
set_option linter.all false
set_option maxRecDepth 100000
set_option maxHeartbeats 4000000
set_option exponentiation.threshold 10000
namespace Ma
open Pi PySem PySem.Spec PyProof.Rows TL
theorem b18_eq : Cr.b18 = (.cons (.set 4 (.new "Disk" ["own_power", "own_synced", "own_files", "own_items"] 20 (.cons .non .nil))) (.cons (.exp (.meth "Disk" ["own_power", "own_synced", "own_files", "own_items"] (.var 4) 22 (.cons (.str "log") (.cons (.var 1) .nil)))) (.cons (.exp (.meth "Disk" ["own_power", "own_synced", "own_files", "own_items"] (.var 4) 24 .nil)) (.cons (.two 5 6 (.call 15 (.cons (.var 4) .nil))) (.cons (.ite (.val (.cmp .eq (.idx (.var 3) (.int 0)) (.str "spoilt"))) (.cons (.ret (.call 14 (.cons (.frz (.lst (.cons (.var 6) (.cons (.meth "Disk" ["own_power", "own_synced", "own_files", "own_items"] (.var 4) 25 (.cons (.str "log") .nil)) (.cons (.meth "Disk" ["own_power", "own_synced", "own_files", "own_items"] (.var 4) 26 .nil) .nil))))) (.cons (.frz (.lst (.cons (.tup (.cons (.str "BadDisk") (.cons (.idx (.var 3) (.int 1)) .nil))) (.cons (.var 1) (.cons (.int 0) .nil))))) .nil))))
  .nil) .nil) (cdr (cdr (cdr (cdr (cdr Cr.b18)))))))))) := rfl
theorem cut_svs {α : Type} {a b c a' b' c' : Int} {T : Sto} {k : Sto → R α} : Pi.cut (Sv a b c []) (Sv a' b' c' T) k = k (Sv a' b' c' []) := by
  unfold Pi.cut
  exact if_pos (.inr rfl)
theorem mk_ok {k : Nat} {a b c : Int} : run Cr.P (k + 1) 20 [.loc (Sv a b c []).length, .non] (Sv a b c [] ++ [.ins "Disk" ["own_power", "own_synced", "own_files", "own_items"] [] []]) = .ok .non (Sv a b c [dsk (.dic [] []) 2 3, fileL none, .lst []]) := init_ok
theorem wr_ok {k : Nat} {a b c : Int} {t : List Nat} (h0 : t ≠ []) (ht : t.length ≤ 100000) : ∃ its, run Cr.P (k + 2) 22 [.loc 1, .str "log", strW t] (Sv a b c [dsk (.dic [] []) 2 3, fileL none, .lst []]) = .ok .non (Sv a b c [dsk (.dic [] []) 2 3, fileL (some t), .lst its]) := by
  obtain ⟨its, _, e⟩ := write_ok (k := k) (p := 1) (q := 2) (r := 3) (y := .dic [] []) (w := t) (f := none) (its := []) (S := Sv a b c [dsk (.dic [] []) 2 3, fileL none, .lst []]) (by decide) (by decide) (by decide) rfl rfl rfl (by show 0 + _ ≤ _; omega) (by show 0 + _ ≤ _; omega)
  refine ⟨its, ?_⟩
  have hF : addF none t = some t := if_neg h0
  rw [hF] at e
  exact e
theorem sy_ok {k : Nat} {a b c : Int} {t : List Nat} {its : List D} : run Cr.P (k + 2) 24 [.loc 1] (Sv a b c [dsk (.dic [] []) 2 3, fileL (some t), .lst its]) = .ok .non (Sv a b c [dsk (fileD (some t)) 2 4, fileL (some t), .lst its, .lst []]) :=
  sync_ok (k := k) (p := 1) (q := 2) (r := 3) (f := some t) (S := Sv a b c [dsk (.dic [] []) 2 3, fileL (some t), .lst its]) (by decide) rfl rfl
theorem kept_spoilt {k n j : Nat} {a b c : Int} {t : List Nat} {rs : List (List Nat)} (h0 : t ≠ []) (ht : t.length ≤ 100000) (hj : j < 10 ^ 60) (hrec : ∀ S : Sto, run Cr.P (k + 4) 5 [strW t] S = .ok (.tup [.tup (rs.map strW), .tup [.str "spoilt", .int (j : Int)]]) S) (h : SvOk n a b c) :
    ∃ a' b' c', run Cr.P (k + 7) 18 [.loc 0, strW t, .lst (rs.map strW), .tup [.str "spoilt", .int (j : Int)]] (Sv a b c []) = .ok (.bl true) (Sv a' b' c' []) ∧ SvOk (n + 11) a' b' c' := by
  refine ⟨a, b, c, ?_, h.mono (by omega)⟩
  rw [run_eq (df := Cr.d18) rfl rfl]
  obtain ⟨its, eW⟩ := wr_ok (k := k + 4) (a := a) (b := b) (c := c) h0 ht
  have eM := mk_ok (k := k + 5) (a := a) (b := b) (c := c)
  have eS := sy_ok (k := k + 4) (a := a) (b := b) (c := c) (t := t) (its := its)
  have eR := rs_spoilt (k := k + 2) (a := a) (b := b) (c := c) (y := fileD (some t)) (t := t) (its := its) (rs := rs) hj hrec
  have i1 : insD (Sv a b c [dsk (.dic [] []) 2 3, fileL none, .lst []]) "Disk" ["own_power", "own_synced", "own_files", "own_items"] (.loc (Sv a b c []).length) = true := ins_dsk (p := 1) (q := 2) (r := 3) (y := .dic [] []) rfl
  have i2 : insD (Sv a b c [dsk (.dic [] []) 2 3, fileL (some t), .lst its]) "Disk" ["own_power", "own_synced", "own_files", "own_items"] (.loc (Sv a b c []).length) = true := ins_dsk (p := 1) (q := 2) (r := 3) (y := .dic [] []) rfl
  have hl : (Sv a b c []).length = 1 := rfl
  have v1 : (Sv a b c [dsk (fileD (some t)) 2 4, fileL (some t), .lst its, .lst [], .ins "Store" own2 [] []])[1]? = some (dsk (fileD (some t)) 2 4) := rfl
  have v2 : (Sv a b c [dsk (fileD (some t)) 2 4, fileL (some t), .lst its, .lst [], .ins "Store" own2 [] []])[2]? = some (fileL (some t)) := rfl
  have v4 : (Sv a b c [dsk (fileD (some t)) 2 4, fileL (some t), .lst its, .lst [], .ins "Store" own2 [] []])[4]? = some (.lst []) := rfl
  have eF : ∀ x, fin true (Sv a b c []) (.ret (.bl x) (Sv a b c [dsk (fileD (some t)) 2 4, fileL (some t), .lst its, .lst [], .ins "Store" own2 [] []])) = .ok (.bl x) (Sv a b c []) := fun x => by
    rw [fin_ret (frz_sca rfl), cut_svs]
  generalize Sv a b c [dsk (fileD (some t)) 2 4, fileL (some t), .lst its, .lst [], .ins "Store" own2 [] []] = S5 at eR v1 v2 v4 eF
  have u1 := ins_dsk v1
  have eB : run Cr.P (k + 6) 25 [.loc 1, .str "log"] S5 = .ok (strW t) S5 := read_ok (k := k + 5) v1 v2
  have eJ : run Cr.P (k + 6) 26 [.loc 1] S5 = .ok (.int 0) S5 := waiting_ok (k := k + 5) v1 v4
  have eL : run Cr.P (k + 6) 14 [.lst [.tup [.str "BadDisk", .int (j : Int)], strW t, .int 0], .lst [.tup [.str "BadDisk", .int (j : Int)], strW t, .int 0]] S5 = .ok (.bl true) S5 :=
    same_ok 2 (k + 3) _ _ _ (.lst 1 _ _ rfl (show 3 ≤ 1000000 by decide) (sim_three (.tup 0 _ _ rfl (show 2 ≤ 1000000 by decide) (sim_two (.str _ _) (.int _ _))) (.str _ _) (.int _ _)))
  have x0 : ∀ (S : Sto) (x y : D), idx S (.tup [x, y]) (.int 0) = some x := fun _ _ _ => rfl
  have x1 : ∀ (S : Sto) (x y : D), idx S (.tup [x, y]) (.int 1) = some y := fun _ _ _ => rfl
  rw [hl] at eM i1 i2
  show fin true _ (exC _ Cr.b18 _ _) = _
  rw [b18_eq]
  generalize cdr (cdr (cdr (cdr (cdr Cr.b18)))) = TL
  simp only [Cr.d18, evE_var, evE_int, evE_str, evE_bl, evE_non, evE_bin, evE_neg, evE_cmp, evE_isN, evE_notN, evE_chain, evE_and, evE_or, evE_not, evE_ite, evE_tup, evE_frz, evE_live, evE_call, evE_dead, evE_lim, evE_blt, evE_isi, evE_divm, evE_tupOf, evE_idx, evE_slS, evE_join, evE_mt1, evE_fld, evE_meth, evE_new, evE_dnil, evE_get2, evE_dcopy, evO_none, evO_some, evEs_nil, evEs_cons, evT_val, evT_tru, evT_and, evT_or, evT_not, evAnd_one, evAnd_cons, evOr_one, evOr_cons, evF_lst, evF_comp, evF_listOf, evF_listRng, evF_cat, evF_rep, evF_slL, evF_split, evF_splitMax, evC_nil, evC_one, evI_seq_true, evI_seq_false, evI_str, evI_rng1, evI_rng2, evI_enumL, evI_enumS, exC_pass, exC_dead, exC_nil, exC_cons, exC_exp, exC_app, exC_set, exC_setc, exC_aug, exC_setIx, exC_setKy, exC_setFd, exC_noneFault, exC_augIx, exC_two, exC_ret, exC_retN, exC_ite, exC_for, exC_while, exC_brk, exC_cnt, exC_raise, exC_fault, bind_ok, bind_exc, of_some, st_ok, st_exc, then_nx, then_ret, then_exc, then_bk, then_ct, start_eq, List.map_cons, List.map_nil, List.length_cons, List.length_nil, List.cons_append, List.nil_append, List.replicate, List.getElem?_cons_zero, List.getElem?_cons_succ, List.set_cons_zero, List.set_cons_succ, Option.map_some, Nat.reduceAdd, Nat.reduceSub, Nat.zero_add, hl, eM, i1, if_true, eW, i2, eS, eR, x0, x1, cop, eqS_str, decide_true, u1, eB, eJ, show 3 ≤ SMAX from by decide, show 2 ≤ SMAX from by decide, eL]
  exact eF true
theorem kept_ok {k n : Nat} {a b c : Int} {t : List Nat} {st : D} {sts : List D} {rs : List (List Nat)} (h0 : t ≠ []) (ht : t.length ≤ 100000) (hst : st = .tup sts) (hsts : ∃ x more, sts = .str x :: more ∧ decide (x = ("spoilt" : Str)) = false)
    (hn : rs.length ≤ 60) (hrs : ∀ r ∈ rs, rowB r = true) (hz : (logL 0 rs).length ≤ 100000)
    (hR : ∀ its : List D, ∃ y r m T, run Cr.P (k + 6) 15 [.loc 1] (Sv a b c [dsk (fileD (some t)) 2 4, fileL (some t), .lst its, .lst []]) = .ok (.tup [.loc 5, .non]) (Sv a b c T) ∧ r ≠ 0 ∧ r ≠ 1 ∧ r ≠ 2 ∧ r ≠ 5 ∧ m ≠ 0 ∧ m ≠ 1 ∧ m ≠ 2 ∧ m ≠ 5 ∧ m ≠ r ∧
      (Sv a b c T)[5]? = some (sto 1 m) ∧ (Sv a b c T)[1]? = some (dsk y 2 r) ∧ (Sv a b c T)[2]? = some (fileL (some (logL 0 rs))) ∧ (Sv a b c T)[r]? = some (.lst []) ∧ (Sv a b c T)[m]? = some (.lst (rs.map strW))) (h : SvOk n a b c) (hb : n + 5000 ≤ 1000000000) :
    ∃ a' b' c', run Cr.P (k + 7) 18 [.loc 0, strW t, .lst (rs.map strW), st] (Sv a b c []) = .ok (.bl true) (Sv a' b' c' []) ∧ SvOk (n + 11) a' b' c' := by
  obtain ⟨its, eW⟩ := wr_ok (k := k + 4) (a := a) (b := b) (c := c) h0 ht
  have eM := mk_ok (k := k + 5) (a := a) (b := b) (c := c)
  have eS := sy_ok (k := k + 4) (a := a) (b := b) (c := c) (t := t) (its := its)
  have i1 : insD (Sv a b c [dsk (.dic [] []) 2 3, fileL none, .lst []]) "Disk" ["own_power", "own_synced", "own_files", "own_items"] (.loc (Sv a b c []).length) = true := ins_dsk (p := 1) (q := 2) (r := 3) (y := .dic [] []) rfl
  have i2 : insD (Sv a b c [dsk (.dic [] []) 2 3, fileL (some t), .lst its]) "Disk" ["own_power", "own_synced", "own_files", "own_items"] (.loc (Sv a b c []).length) = true := ins_dsk (p := 1) (q := 2) (r := 3) (y := .dic [] []) rfl
  have hl : (Sv a b c []).length = 1 := rfl
  obtain ⟨y, r, m, T, eR, r0, r1, r2, r5, m0, m1, m2, m5, hmr, g5, g1, g2, gr, gm⟩ := hR its
  obtain ⟨a', b', c', T', eT, hs⟩ := tail_ok (k := k + 1) (st := st) (t := t) r0 r1 r2 r5 m0 m1 m2 m5 hmr g5 g1 g2 gr gm hn hrs hz h hb
  refine ⟨a', b', c', ?_, hs⟩
  have eF : fin true (Sv a b c []) (.ret (.bl true) (Sv a' b' c' T')) = .ok (.bl true) (Sv a' b' c' []) := by
    rw [fin_ret (frz_sca rfl), cut_svs]
  obtain ⟨x, more, rfl, hx⟩ := hsts
  subst hst
  have x0 : ∀ (S : Sto) (x : D) (ys : List D), idx S (.tup (x :: ys)) (.int 0) = some x := fun _ _ ys => by
    show L2.atI (_ :: ys) ((0 : Nat) : Int) = _
    rw [idx_at]
    rfl
  rw [run_eq (df := Cr.d18) rfl rfl]
  rw [hl] at eM i1 i2
  show fin true _ (exC _ Cr.b18 _ _) = _
  rw [b18_eq]
  generalize cdr (cdr (cdr (cdr (cdr Cr.b18)))) = TL at eT ⊢
  simp only [Cr.d18, evE_var, evE_int, evE_str, evE_bl, evE_non, evE_bin, evE_neg, evE_cmp, evE_isN, evE_notN, evE_chain, evE_and, evE_or, evE_not, evE_ite, evE_tup, evE_frz, evE_live, evE_call, evE_dead, evE_lim, evE_blt, evE_isi, evE_divm, evE_tupOf, evE_idx, evE_slS, evE_join, evE_mt1, evE_fld, evE_meth, evE_new, evE_dnil, evE_get2, evE_dcopy, evO_none, evO_some, evEs_nil, evEs_cons, evT_val, evT_tru, evT_and, evT_or, evT_not, evAnd_one, evAnd_cons, evOr_one, evOr_cons, evF_lst, evF_comp, evF_listOf, evF_listRng, evF_cat, evF_rep, evF_slL, evF_split, evF_splitMax, evC_nil, evC_one, evI_seq_true, evI_seq_false, evI_str, evI_rng1, evI_rng2, evI_enumL, evI_enumS, exC_pass, exC_dead, exC_nil, exC_cons, exC_exp, exC_app, exC_set, exC_setc, exC_aug, exC_setIx, exC_setKy, exC_setFd, exC_noneFault, exC_augIx, exC_two, exC_ret, exC_retN, exC_ite, exC_for, exC_while, exC_brk, exC_cnt, exC_raise, exC_fault, bind_ok, bind_exc, of_some, st_ok, st_exc, then_nx, then_ret, then_exc, then_bk, then_ct, start_eq, List.map_cons, List.map_nil, List.length_cons, List.length_nil, List.cons_append, List.nil_append, List.replicate, List.getElem?_cons_zero, List.getElem?_cons_succ, List.set_cons_zero, List.set_cons_succ, Option.map_some, Nat.reduceAdd, Nat.reduceSub, Nat.zero_add, hl, eM, i1, if_true, eW, i2, eS, eR, x0, cop, eqS_str, hx, Bool.false_eq_true, if_false, eT]
  exact eF
theorem kept_whole {k n : Nat} {a b c : Int} {rs : List (List Nat)} (h0 : rs ≠ []) (hn : rs.length ≤ 60) (hrs : ∀ r ∈ rs, rowB r = true) (hz : (logL 0 rs).length ≤ 100000)
    (hrec : ∀ S : Sto, run Cr.P (k + 4) 5 [strW (logL 0 rs)] S = .ok (.tup [.tup (rs.map strW), .tup [.str "whole"]]) S) (h : SvOk n a b c) (hb : n + 5000 ≤ 1000000000) :
    ∃ a' b' c', run Cr.P (k + 7) 18 [.loc 0, strW (logL 0 rs), .lst (rs.map strW), .tup [.str "whole"]] (Sv a b c []) = .ok (.bl true) (Sv a' b' c' []) ∧ SvOk (n + 11) a' b' c' := by
  have ht0 : logL 0 rs ≠ [] := by
    cases rs with
    | nil => exact absurd rfl h0
    | cons r rs =>
      show (lineL 1 r ++ [10]) ++ _ ≠ []
      simp
  exact kept_ok ht0 hz rfl ⟨_, _, rfl, by decide⟩ hn hrs hz (fun its => ⟨_, 4, 6, _, rs_whole (k := k + 2) (rs := rs) hrec, by decide, by decide, by decide, by decide, by decide, by decide, by decide, by decide, by decide, rfl, rfl, rfl, rfl, rfl⟩) h hb
theorem kept_cut {k n j : Nat} {a b c : Int} {X : List Nat} {rs : List (List Nat)} (hX0 : X ≠ []) (hX : 10 ∉ X) (hn : rs.length ≤ 60) (hrs : ∀ r ∈ rs, rowB r = true) (hz : (logL 0 rs ++ X).length ≤ 100000)
    (hrec : ∀ S : Sto, run Cr.P (k + 4) 5 [strW (logL 0 rs ++ X)] S = .ok (.tup [.tup (rs.map strW), .tup [.str "cut", .int (j : Int)]]) S) (h : SvOk n a b c) (hb : n + 5000 ≤ 1000000000) :
    ∃ a' b' c', run Cr.P (k + 7) 18 [.loc 0, strW (logL 0 rs ++ X), .lst (rs.map strW), .tup [.str "cut", .int (j : Int)]] (Sv a b c []) = .ok (.bl true) (Sv a' b' c' []) ∧ SvOk (n + 11) a' b' c' := by
  have hz2 : (logL 0 rs).length ≤ 100000 := by rw [List.length_append] at hz; omega
  have hrf := rfind_last (X := X) (logL_end rs 0) hX
  refine kept_ok (by simp [hX0]) hz rfl ⟨_, _, rfl, by decide⟩ hn hrs hz2 (fun its => ?_) h hb
  obtain ⟨its2, _, e⟩ := rs_cut (k := k + 2) (n := j) (a := a) (b := b) (c := c) (y := fileD (some (logL 0 rs ++ X))) (its := its) (rs := rs) hz hrf hrec
  rw [List.take_left] at e
  exact ⟨_, 6, 7, _, e, by decide, by decide, by decide, by decide, by decide, by decide, by decide, by decide, by decide, rfl, rfl, rfl, rfl, rfl⟩
end Ma
end
section
set_option Elab.async false
set_option linter.all false
set_option maxRecDepth 100000
set_option maxHeartbeats 4000000
set_option exponentiation.threshold 10000
namespace Ma
open Pi PySem PySem.Spec PyProof.Rows TL
theorem draws_ok {k n m most : Nat} {τ : Tau} {S : Sto} {s : Src} (hs : s.own = none) (h1 : 1 ≤ most) (h2 : most ≤ 90) (hm : m ≤ 200) (hn : n ≤ 1000000) (hτ : ∀ (j : Nat) (S : Sto), evE (run Cr.P (k + 2)) (.var 1) ((wipeT τ [2]).set 2 (some (.int (j : Int)))) S = .ok (.loc 0) S) (hi : InvS [] n S) :
    ∃ (rs : List (List Nat)) (S' : Sto), compL (compB (run Cr.P (k + 2)) (.nm 2) .nil (.call 8 (.cons (.var 1) (.cons (.int (most : Int)) .nil))) [("at", 2)] τ) s ((List.range m).map fun (i : Nat) => D.int (i : Int)) S = .ok (rs.map strW) S' ∧ rs.length = m ∧ (∀ r ∈ rs, rowB r = true ∧ r.length ≤ most) ∧ InvS [] (n + 100 * m) S' := by
  have ho : ∀ S : Sto, okS s S := fun S => by
    obtain ⟨i, o, h⟩ := s
    dsimp only at hs
    subst hs
    exact True.intro
  obtain ⟨xs, S', e, l, q, i⟩ := compL_inv (step := compB (run Cr.P (k + 2)) (.nm 2) .nil (.call 8 (.cons (.var 1) (.cons (.int (most : Int)) .nil))) [("at", 2)] τ) (s := s) (Inv := fun j S => InvS [] (n + 100 * j) S) (Q := fun d => ∃ w, d = strW w ∧ rowB w = true ∧ w.length ≤ most) (fun _ S _ => ho S)
    ((List.range m).map fun (i : Nat) => D.int (i : Int)) 0 S hi (fun d hd j S1 g4 g5 ⟨a, b, c, hS, h3⟩ => by
      rw [List.length_map, List.length_range] at g5
      obtain ⟨i, _, rfl⟩ := List.mem_map.mp hd
      obtain ⟨w, a', b', c', e1, w1, w2, w3, s1⟩ := drawn_ok (T := []) (k := k) (most := most) h1 (by omega) h3 (by omega)
      refine ⟨strW w, Sv a' b' c' [], ?_, ⟨w, rfl, rowB_of w1 (by omega) w3, w2⟩, a', b', c', rfl, s1.mono (by omega)⟩
      subst hS
      have hv := hτ i (Sv a b c [])
      rw [compB_eq, show setT (.nm 2) (.int (i : Int)) (wipeT τ ([(("at" : Str), 2)].map (·.2))) = some ((wipeT τ [2]).set 2 (some (.int (i : Int)))) from rfl]
      simp only [evC_nil, bind_ok, if_true, evE_call, evEs_cons, evEs_nil, evE_int, hv, e1])
  rw [List.length_map, List.length_range, Nat.zero_add] at i
  rw [List.length_map, List.length_range] at l
  have : ∃ rs : List (List Nat), xs = rs.map strW ∧ ∀ r ∈ rs, rowB r = true ∧ r.length ≤ most := by
    clear e l i
    induction xs with
    | nil => exact ⟨[], rfl, nofun⟩
    | cons x xs ih =>
      obtain ⟨w, rfl, h1⟩ := q x List.mem_cons_self
      obtain ⟨rs, e, h2⟩ := ih fun y hy => q y (List.mem_cons_of_mem _ hy)
      refine ⟨w :: rs, by rw [e]; rfl, fun d hd => ?_⟩
      rcases List.mem_cons.mp hd with rfl | hd
      · exact h1
      · exact h2 d hd
  obtain ⟨rs, rfl, hr⟩ := this
  exact ⟨rs, S', e, by rw [← l, List.length_map], hr, i⟩
theorem cutS_from {l : List Nat} {j : Nat} (h : j ≤ l.length) : L2.cutS (W l) (some (j : Int)) none = W (l.drop j) := by
  unfold L2.cutS
  rw [show HT.sIx (W l).length (W l).length none = (W l).length from rfl, HT.sIx_nat, W_len, Nat.min_eq_left h]
  show W ((l.drop j).take (l.length - j)) = _
  rw [List.take_of_length_le (by rw [List.length_drop]; omega)]

def bd : C := (.cons (.two 6 7 (.call 16 (.cons (.var 1) (.cons (.var 3) .nil))))
  (.cons (.set 8 (.blt .len (.call 11 (.cons (.frz (.slL (.var 3) .none (.some (.bin .sub (.var 6) (.int 1))))) .nil))))
  (.cons (.set 2 (.bin .add (.var 8) (.var 7)))
  (.cons (.set 9 (.bin .add (.bin .add (.slS (.var 4) .none (.some (.var 2))) (.call 17 (.cons (.var 1) (.cons (.idx (.var 4) (.var 2)) .nil)))) (.slS (.var 4) (.some (.bin .add (.var 2) (.int 1))) .none)))
  (.cons (.set 10 (.ite (.val (.cmp .inn (.str "\n") (.slS (.var 9) (.some (.var 8)) .none))) (.tup (.cons (.str "spoilt") (.cons (.var 6) .nil))) (.tup (.cons (.str "cut") (.cons (.var 6) .nil)))))
  (.cons (.ite (.not (.val (.call 14 (.cons (.call 5 (.cons (.var 9) .nil)) (.cons (.tup (.cons (.tupOf (.frz (.slL (.var 3) .none (.some (.bin .sub (.var 6) (.int 1)))))) (.cons (.var 10) .nil))) .nil))))) (.cons (.ret (.bl false))
   .nil) .nil)
  (.cons (.ite (.and (.cons (.val (.cmp .lt (.var 5) (.int 4))) (.one (.not (.val (.call 18 (.cons (.var 1) (.cons (.var 9) (.cons (.frz (.slL (.var 3) .none (.some (.bin .sub (.var 6) (.int 1))))) (.cons (.var 10) .nil)))))))))) (.cons (.ret (.bl false))
   .nil) .nil)
  .nil)))))))
theorem stX_sim {S : Sto} {X : List Nat} {m : Nat} : Sim S 1 (.tup (stX X m)) (.tup (stX X m)) := by
  unfold stX
  split
  · exact .tup 0 _ _ rfl (show 2 ≤ 1000000 by decide) (sim_two (.str _ _) (.int _ _))
  · exact .tup 0 _ _ rfl (show 2 ≤ 1000000 by decide) (sim_two (.str _ _) (.int _ _))
structure RowsOk (rs : List (List Nat)) : Prop where
  n0 : 1 ≤ rs.length
  n1 : rs.length ≤ 6
  rb : ∀ r ∈ rs, rowB r = true
  rl : ∀ r ∈ rs, r.length ≤ 12
theorem RowsOk.len {rs : List (List Nat)} (h : RowsOk rs) : (logL 0 rs).length ≤ 1878 := by
  have h1 := logL_len (L := 12) (by decide) rs 0 (by have := h.n1; omega) h.rl
  have : rs.length * (301 + 12) ≤ 6 * 313 := Nat.mul_le_mul h.n1 (by decide)
  omega
theorem turn_ok {k n i : Nat} {a b c : Int} {ns : List Int} {rs : List (List Nat)} {o2 o6 o7 o8 o9 o10 : Option D} (R : RowsOk rs) (h : SvOk n a b c) (hb : n + 10000 ≤ 1000000000) :
    ∃ a' b' c' x2 x6 x7 x8 x9 x10, exC (run Cr.P (k + 7)) bd [some (.scr ns), some (.loc 0), o2, some (.lst (rs.map strW)), some (.str (W (logL 0 rs))), some (.int (i : Int)), o6, o7, o8, o9, o10] (Sv a b c []) =
      .nx [some (.scr ns), some (.loc 0), x2, some (.lst (rs.map strW)), some (.str (W (logL 0 rs))), some (.int (i : Int)), x6, x7, x8, x9, x10] (Sv a' b' c' []) ∧ SvOk (n + 20) a' b' c' := by
  have hzt := R.len
  have hl60 : ∀ r ∈ rs, r.length ≤ 60 := fun r hr => by have := R.rl r hr; omega
  have hn60 : rs.length ≤ 60 := by have := R.n1; omega
  obtain ⟨m, place, a1, b1, c1, e1, hm, hp, s1⟩ := spot_ok (T := []) (k := k + 4) R.n0 hn60 R.rb hl60 h (by omega)
  have htl : (rs.take m).length = m := by rw [List.length_take]; omega
  have htk : ∀ r ∈ rs.take m, rowB r = true := fun r h => R.rb r (List.mem_of_mem_take h)
  have hd : rs.getD m [] = rs[m] := by rw [List.getD_eq_getElem?_getD, List.getElem?_eq_getElem hm]; rfl
  have htext : logL 0 rs = logL 0 (rs.take m) ++ ((lineL (m + 1) (rs.getD m []) ++ [10]) ++ logL (m + 1) (rs.drop (m + 1))) := by
    rw [logL_take 0 m rs, List.drop_eq_getElem_cons hm, hd, Nat.zero_add]
    rfl
  have hAl : (logL 0 (rs.take m)).length + (lineL (m + 1) (rs.getD m [])).length + 1 ≤ (logL 0 rs).length := by
    have := congrArg List.length htext
    simp only [List.length_append, List.length_singleton] at this
    omega
  have hsub : (m : Int) + 1 - 1 = (m : Int) := by omega
  have hcut : ∀ xs : List D, cutL xs none (some (m : Int)) = xs.take m := fun xs => cut_nat
  have hgl : ∀ (S : Sto) (xs : List D), getL S (.lst xs) = some xs := fun _ _ => rfl
  have htm : (rs.map strW).take m = (rs.take m).map strW := by rw [List.map_take]
  have hz1 : (logL 0 (rs.take m)).length ≤ 1878 := by omega
  have e2 : ∀ S : Sto, run Cr.P (k + 7) 11 [.lst ((rs.take m).map strW)] S = .ok (.str (W (logL 0 (rs.take m)))) S := fun S => log_ok (k := k + 4) (by omega) (fun r h => rowB_ok (htk r h)) (by rw [smax_eq]; omega)
  have hlen : ∀ S : Sto, blt S .len (.str (W (logL 0 (rs.take m)))) = some (.int (logL 0 (rs.take m)).length) := fun S => lenS (by rw [smax_eq]; omega)
  -- the sign that stands there
  have hpl : place < (lineL (m + 1) (rs.getD m []) ++ [10]).length := by rw [List.length_append, List.length_singleton]; omega
  obtain ⟨x, hx⟩ : ∃ x, (lineL (m + 1) (rs.getD m []) ++ [10])[place]? = some x := ⟨_, List.getElem?_eq_getElem hpl⟩
  have hxt : (logL 0 rs)[(logL 0 (rs.take m)).length + place]? = some x := by
    rw [htext, List.getElem?_append_right (by omega), Nat.add_sub_cancel_left, List.getElem?_append_left hpl]
    exact hx
  have hadd : (((logL 0 (rs.take m)).length : Nat) : Int) + (place : Int) = (((logL 0 (rs.take m)).length + place : Nat) : Int) := by push_cast; rfl
  have hix : ∀ S : Sto, idx S (.str (W (logL 0 rs))) (.int (((logL 0 (rs.take m)).length + place : Nat) : Int)) = some (.str (W [x])) := fun S => by
    show (if (W (logL 0 rs)).length ≤ SMAX then (L2.atI (logL 0 rs) (((logL 0 (rs.take m)).length + place : Nat) : Int)).map (fun c => D.str ⟨#[c]⟩) else none) = _
    rw [W_len, if_pos (by rw [smax_eq]; omega)]
    have : L2.atI (logL 0 rs) (((logL 0 (rs.take m)).length + place : Nat) : Int) = some x := by
      unfold L2.atI L2.ixN
      have hlt := (List.getElem?_eq_some_iff.mp hxt).1
      rw [if_pos (by omega), if_pos (by omega), Option.bind_some, Int.toNat_natCast, hxt]
    rw [this]
    rfl
  obtain ⟨y, a2, b2, c2, e3, hy, s2⟩ := other_ok (T := []) (k := k + 5) (x := x) s1 (by omega)
  have hlt := (List.getElem?_eq_some_iff.mp hxt).1
  have hset : (logL 0 rs).take ((logL 0 (rs.take m)).length + place) ++ [y] ++ (logL 0 rs).drop ((logL 0 (rs.take m)).length + place + 1) = logL 0 (rs.take m) ++ chgX rs m place y := by
    rw [List.append_assoc, List.cons_append, List.nil_append, ← take_set_drop hlt, htext, set_right (by omega), Nat.add_sub_cancel_left, set_left hpl]
    rfl
  have hc : (lineL (m + 1) (rs.getD m []) ++ [10])[place]? ≠ some y := by
    rw [hx]
    exact fun e => hy (Option.some.inj e).symm
  have hXl : (logL 0 (rs.take m) ++ chgX rs m place y).length = (logL 0 rs).length := by
    rw [← hset]
    simp only [List.length_append, List.length_take, List.length_drop, List.length_singleton]
    omega
  have hrec : ∀ (q : Nat) (S : Sto), run Cr.P (q + 4) 5 [.str (W (logL 0 (rs.take m) ++ chgX rs m place y))] S = .ok (.tup [.tup ((rs.take m).map strW), .tup (stX (chgX rs m place y) m)]) S := fun q S => changed_ok hm hn60 R.rb hl60 hp hc (by omega)
  have hX0 : chgX rs m place y ≠ [] := fun e => by
    have := congrArg List.length e
    unfold chgX at this
    rw [List.length_append, List.length_set, List.length_append, List.length_singleton, List.length_nil] at this
    omega
  have hin : ∀ S : Sto, cop S .inn (.str "
") (.str (W (chgX rs m place y))) = some (decide (10 ∈ chgX rs m place y)) := fun S => in_nl
  have htkl : ((logL 0 rs).take ((logL 0 (rs.take m)).length + place)).length = (logL 0 (rs.take m)).length + place := by rw [List.length_take]; omega
  have htdl : ((logL 0 rs).drop ((logL 0 (rs.take m)).length + place + 1)).length = (logL 0 rs).length - ((logL 0 (rs.take m)).length + place + 1) := List.length_drop
  have hb1 : bop .add (.str (W ((logL 0 rs).take ((logL 0 (rs.take m)).length + place)))) (.str (W [y])) = some (.str (W ((logL 0 rs).take ((logL 0 (rs.take m)).length + place) ++ [y]))) := addS (by rw [htkl, smax_eq, List.length_singleton]; omega)
  have hb2 : bop .add (.str (W ((logL 0 rs).take ((logL 0 (rs.take m)).length + place) ++ [y]))) (.str (W ((logL 0 rs).drop ((logL 0 (rs.take m)).length + place + 1)))) = some (.str (W (logL 0 (rs.take m) ++ chgX rs m place y))) := by
    rw [addS (by rw [List.length_append, htkl, htdl, smax_eq, List.length_singleton]; omega), hset]
  have hcf : L2.cutS (W (logL 0 rs)) (some ((((logL 0 (rs.take m)).length + place : Nat) : Int) + 1)) none = W ((logL 0 rs).drop ((logL 0 (rs.take m)).length + place + 1)) := cutS_from (j := (logL 0 (rs.take m)).length + place + 1) (by omega)
  have hct : L2.cutS (W (logL 0 rs)) none (some (((logL 0 (rs.take m)).length + place : Nat) : Int)) = W ((logL 0 rs).take ((logL 0 (rs.take m)).length + place)) := cutS_nat
  have hcx : L2.cutS (W (logL 0 (rs.take m) ++ chgX rs m place y)) (some (((logL 0 (rs.take m)).length : Nat) : Int)) none = W (chgX rs m place y) := by
    rw [cutS_from (by rw [List.length_append]; omega), List.drop_left]
  have hw1 : (W (logL 0 rs)).length ≤ SMAX := by rw [W_len, smax_eq]; omega
  have hw2 : (W (logL 0 (rs.take m) ++ chgX rs m place y)).length ≤ SMAX := by rw [W_len, smax_eq]; omega
  have e1 : run Cr.P (k + 7) 16 [.loc 0, .lst (rs.map strW)] (Sv a b c []) = _ := e1
  have e3 : run Cr.P (k + 7) 17 [.loc 0, .str (W [x])] (Sv a1 b1 c1 []) = _ := e3
  have e5 : run Cr.P (k + 7) 5 [.str (W (logL 0 (rs.take m) ++ chgX rs m place y))] (Sv a2 b2 c2 []) = _ := hrec (k + 3) _
  have e6 : run Cr.P (k + 7) 14 [.tup [.tup ((rs.take m).map strW), .tup (stX (chgX rs m place y) m)], .tup [.tup ((rs.take m).map strW), .tup (stX (chgX rs m place y) m)]] (Sv a2 b2 c2 []) = .ok (.bl true) (Sv a2 b2 c2 []) :=
    same_ok 2 (k + 4) _ _ _ (.tup 1 _ _ rfl (show 2 ≤ 1000000 by decide) (sim_two (.tup 0 _ _ rfl (by rw [List.length_map, htl]; omega) sim_strs) stX_sim))
  have hz3 : (logL 0 (rs.take m) ++ chgX rs m place y).length ≤ 100000 := by omega
  have hst : stX (chgX rs m place y) m = if 10 ∈ chgX rs m place y then [.str "spoilt", .int ((m : Int) + 1)] else [.str "cut", .int ((m : Int) + 1)] := rfl
  have hkept : ∃ a' b' c', run Cr.P (k + 7) 18 [.loc 0, .str (W (logL 0 (rs.take m) ++ chgX rs m place y)), .lst ((rs.take m).map strW), .tup (stX (chgX rs m place y) m)] (Sv a2 b2 c2 []) = .ok (.bl true) (Sv a' b' c' []) ∧ SvOk (n + 3 + 2 + 11) a' b' c' := by
    by_cases h10 : 10 ∈ chgX rs m place y
    · rw [if_pos h10] at hst
      rw [hst] at hrec ⊢
      exact kept_spoilt (j := m + 1) (by simp [hX0]) hz3 (by omega) (fun S => hrec k S) s2
    · rw [if_neg h10] at hst
      rw [hst] at hrec ⊢
      exact kept_cut (j := m + 1) hX0 h10 (by omega) htk hz3 (fun S => hrec k S) s2 (by omega)
  obtain ⟨a3, b3, c3, e7, s3⟩ := hkept
  have h2 : 2 ≤ SMAX := by decide
  generalize hX : chgX rs m place y = X at *
  generalize logL 0 (rs.take m) = A at *
  have hite : ∀ S : Sto, evE (run Cr.P (k + 7)) (.ite (.val (.cmp .inn (.str "
") (.slS (.var 9) (.some (.var 8)) .none))) (.tup (.cons (.str "spoilt") (.cons (.var 6) .nil))) (.tup (.cons (.str "cut") (.cons (.var 6) .nil))))
      [some (.scr ns), some (.loc 0), some (.int ((A.length + place : Nat) : Int)), some (.lst (rs.map strW)), some (.str (W (logL 0 rs))), some (.int (i : Int)), some (.int ((m : Int) + 1)), some (.int (place : Int)), some (.int (A.length : Int)), some (.str (W (A ++ X))), o10] S = .ok (.tup (stX X m)) S := fun S => by
    by_cases h10 : 10 ∈ X
    · rw [show stX X m = [.str "spoilt", .int ((m : Int) + 1)] from if_pos h10]
      simp only [evE_var, evE_int, evE_str, evE_bl, evE_non, evE_bin, evE_neg, evE_cmp, evE_isN, evE_notN, evE_chain, evE_and, evE_or, evE_not, evE_ite, evE_tup, evE_frz, evE_live, evE_call, evE_dead, evE_lim, evE_blt, evE_isi, evE_divm, evE_tupOf, evE_idx, evE_slS, evE_join, evE_mt1, evE_fld, evE_meth, evE_new, evE_dnil, evE_get2, evE_dcopy, evO_none, evO_some, evEs_nil, evEs_cons, evT_val, evT_tru, evT_and, evT_or, evT_not, evAnd_one, evAnd_cons, evOr_one, evOr_cons, evF_lst, evF_comp, evF_listOf, evF_listRng, evF_cat, evF_rep, evF_slL, evF_split, evF_splitMax, evC_nil, evC_one, evI_seq_true, evI_seq_false, evI_str, evI_rng1, evI_rng2, evI_enumL, evI_enumS, exC_pass, exC_dead, exC_nil, exC_cons, exC_exp, exC_app, exC_set, exC_setc, exC_aug, exC_setIx, exC_setKy, exC_setFd, exC_noneFault, exC_augIx, exC_two, exC_ret, exC_retN, exC_ite, exC_for, exC_while, exC_brk, exC_cnt, exC_raise, exC_fault, bind_ok, bind_exc, of_some, st_ok, st_exc, then_nx, then_ret, then_exc, then_bk, then_ct, start_eq, List.map_cons, List.map_nil, List.length_cons, List.length_nil, List.cons_append, List.nil_append, List.replicate, List.getElem?_cons_zero, List.getElem?_cons_succ, List.set_cons_zero, List.set_cons_succ, Option.map_some, Nat.reduceAdd, Nat.reduceSub, Nat.zero_add, if_pos hw2, hcx, hin, decide_eq_true h10, if_true, if_pos h2]
    · rw [show stX X m = [.str "cut", .int ((m : Int) + 1)] from if_neg h10]
      simp only [evE_var, evE_int, evE_str, evE_bl, evE_non, evE_bin, evE_neg, evE_cmp, evE_isN, evE_notN, evE_chain, evE_and, evE_or, evE_not, evE_ite, evE_tup, evE_frz, evE_live, evE_call, evE_dead, evE_lim, evE_blt, evE_isi, evE_divm, evE_tupOf, evE_idx, evE_slS, evE_join, evE_mt1, evE_fld, evE_meth, evE_new, evE_dnil, evE_get2, evE_dcopy, evO_none, evO_some, evEs_nil, evEs_cons, evT_val, evT_tru, evT_and, evT_or, evT_not, evAnd_one, evAnd_cons, evOr_one, evOr_cons, evF_lst, evF_comp, evF_listOf, evF_listRng, evF_cat, evF_rep, evF_slL, evF_split, evF_splitMax, evC_nil, evC_one, evI_seq_true, evI_seq_false, evI_str, evI_rng1, evI_rng2, evI_enumL, evI_enumS, exC_pass, exC_dead, exC_nil, exC_cons, exC_exp, exC_app, exC_set, exC_setc, exC_aug, exC_setIx, exC_setKy, exC_setFd, exC_noneFault, exC_augIx, exC_two, exC_ret, exC_retN, exC_ite, exC_for, exC_while, exC_brk, exC_cnt, exC_raise, exC_fault, bind_ok, bind_exc, of_some, st_ok, st_exc, then_nx, then_ret, then_exc, then_bk, then_ct, start_eq, List.map_cons, List.map_nil, List.length_cons, List.length_nil, List.cons_append, List.nil_append, List.replicate, List.getElem?_cons_zero, List.getElem?_cons_succ, List.set_cons_zero, List.set_cons_succ, Option.map_some, Nat.reduceAdd, Nat.reduceSub, Nat.zero_add, if_pos hw2, hcx, hin, decide_eq_false h10, Bool.false_eq_true, if_false, if_pos h2]
  by_cases hi : (i : Int) < 4
  · refine ⟨a3, b3, c3, some (.int ((A.length + place : Nat) : Int)), some (.int ((m : Int) + 1)), some (.int (place : Int)), some (.int (A.length : Int)), some (.str (W (A ++ X))), some (.tup (stX X m)), ?_, s3.mono (by omega)⟩
    simp only [bd, evE_var, evE_int, evE_str, evE_bl, evE_non, evE_bin, evE_neg, evE_cmp, evE_isN, evE_notN, evE_chain, evE_and, evE_or, evE_not, evE_tup, evE_frz, evE_live, evE_call, evE_dead, evE_lim, evE_blt, evE_isi, evE_divm, evE_tupOf, evE_idx, evE_slS, evE_join, evE_mt1, evE_fld, evE_meth, evE_new, evE_dnil, evE_get2, evE_dcopy, evO_none, evO_some, evEs_nil, evEs_cons, evT_val, evT_tru, evT_and, evT_or, evT_not, evAnd_one, evAnd_cons, evOr_one, evOr_cons, evF_lst, evF_comp, evF_listOf, evF_listRng, evF_cat, evF_rep, evF_slL, evF_split, evF_splitMax, evC_nil, evC_one, evI_seq_true, evI_seq_false, evI_str, evI_rng1, evI_rng2, evI_enumL, evI_enumS, exC_pass, exC_dead, exC_nil, exC_cons, exC_exp, exC_app, exC_set, exC_setc, exC_aug, exC_setIx, exC_setKy, exC_setFd, exC_noneFault, exC_augIx, exC_two, exC_ret, exC_retN, exC_ite, exC_for, exC_while, exC_brk, exC_cnt, exC_raise, exC_fault, bind_ok, bind_exc, of_some, st_ok, st_exc, then_nx, then_ret, then_exc, then_bk, then_ct, start_eq, List.map_cons, List.map_nil, List.length_cons, List.length_nil, List.cons_append, List.nil_append, List.replicate, List.getElem?_cons_zero, List.getElem?_cons_succ, List.set_cons_zero, List.set_cons_succ, Option.map_some, Nat.reduceAdd, Nat.reduceSub, Nat.zero_add, e1, hgl, subI, hsub, hcut, htm, e2, hlen, addI, hadd, if_pos hw1, hct, hix, e3, hb1, hcf, hb2, hite, e5, if_pos h2, e6, Bool.not_true, Bool.false_eq_true, if_false, cop, decide_eq_true hi, if_true, e7]
  · refine ⟨a2, b2, c2, some (.int ((A.length + place : Nat) : Int)), some (.int ((m : Int) + 1)), some (.int (place : Int)), some (.int (A.length : Int)), some (.str (W (A ++ X))), some (.tup (stX X m)), ?_, s2.mono (by omega)⟩
    simp only [bd, evE_var, evE_int, evE_str, evE_bl, evE_non, evE_bin, evE_neg, evE_cmp, evE_isN, evE_notN, evE_chain, evE_and, evE_or, evE_not, evE_tup, evE_frz, evE_live, evE_call, evE_dead, evE_lim, evE_blt, evE_isi, evE_divm, evE_tupOf, evE_idx, evE_slS, evE_join, evE_mt1, evE_fld, evE_meth, evE_new, evE_dnil, evE_get2, evE_dcopy, evO_none, evO_some, evEs_nil, evEs_cons, evT_val, evT_tru, evT_and, evT_or, evT_not, evAnd_one, evAnd_cons, evOr_one, evOr_cons, evF_lst, evF_comp, evF_listOf, evF_listRng, evF_cat, evF_rep, evF_slL, evF_split, evF_splitMax, evC_nil, evC_one, evI_seq_true, evI_seq_false, evI_str, evI_rng1, evI_rng2, evI_enumL, evI_enumS, exC_pass, exC_dead, exC_nil, exC_cons, exC_exp, exC_app, exC_set, exC_setc, exC_aug, exC_setIx, exC_setKy, exC_setFd, exC_noneFault, exC_augIx, exC_two, exC_ret, exC_retN, exC_ite, exC_for, exC_while, exC_brk, exC_cnt, exC_raise, exC_fault, bind_ok, bind_exc, of_some, st_ok, st_exc, then_nx, then_ret, then_exc, then_bk, then_ct, start_eq, List.map_cons, List.map_nil, List.length_cons, List.length_nil, List.cons_append, List.nil_append, List.replicate, List.getElem?_cons_zero, List.getElem?_cons_succ, List.set_cons_zero, List.set_cons_succ, Option.map_some, Nat.reduceAdd, Nat.reduceSub, Nat.zero_add, e1, hgl, subI, hsub, hcut, htm, e2, hlen, addI, hadd, if_pos hw1, hct, hix, e3, hb1, hcf, hb2, hite, e5, if_pos h2, e6, Bool.not_true, Bool.false_eq_true, if_false, cop, decide_eq_false hi]
theorem loop_ok {k : Nat} {ns : List Int} {rs : List (List Nat)} {s : Src} (hs : s.own = none) (R : RowsOk rs) : ∀ (l : List Nat) (n : Nat) (a b c : Int) (o2 o5 o6 o7 o8 o9 o10 : Option D), SvOk n a b c → n + 20 * l.length + 10000 ≤ 1000000000 →
    ∃ a' b' c' x2 x5 x6 x7 x8 x9 x10, forL (forB (run Cr.P (k + 7)) (.nm 5) bd) s (l.map fun (i : Nat) => D.int (i : Int)) [some (.scr ns), some (.loc 0), o2, some (.lst (rs.map strW)), some (.str (W (logL 0 rs))), o5, o6, o7, o8, o9, o10] (Sv a b c []) =
      .nx [some (.scr ns), some (.loc 0), x2, some (.lst (rs.map strW)), some (.str (W (logL 0 rs))), x5, x6, x7, x8, x9, x10] (Sv a' b' c' []) ∧ SvOk (n + 20 * l.length) a' b' c'
  | [], n, a, b, c, o2, o5, o6, o7, o8, o9, o10, h, _ => ⟨a, b, c, o2, o5, o6, o7, o8, o9, o10, by rw [List.map_nil, forL_nil], h⟩
  | i :: l, n, a, b, c, o2, o5, o6, o7, o8, o9, o10, h, hb => by
    rw [List.length_cons] at hb
    obtain ⟨a1, b1, c1, x2, x6, x7, x8, x9, x10, e, s1⟩ := turn_ok (k := k) (i := i) (ns := ns) (o2 := o2) (o6 := o6) (o7 := o7) (o8 := o8) (o9 := o9) (o10 := o10) R h (by omega)
    obtain ⟨a2, b2, c2, z2, z5, z6, z7, z8, z9, z10, e2, s2⟩ := loop_ok (k := k) (ns := ns) hs R l (n + 20) a1 b1 c1 x2 (some (.int (i : Int))) x6 x7 x8 x9 x10 s1 (by omega)
    refine ⟨a2, b2, c2, z2, z5, z6, z7, z8, z9, z10, ?_, s2.mono (by rw [List.length_cons]; omega)⟩
    rw [List.map_cons]
    have ho : okS s (Sv a1 b1 c1 []) := by
      obtain ⟨it, o, hd⟩ := s
      dsimp only at hs
      subst hs
      exact True.intro
    refine (forL_nx (τ' := [some (.scr ns), some (.loc 0), x2, some (.lst (rs.map strW)), some (.str (W (logL 0 rs))), some (.int (i : Int)), x6, x7, x8, x9, x10]) (S' := Sv a1 b1 c1 []) ?_ ho).trans e2
    rw [forB_eq]
    exact e
theorem law_true : ∀ ns : List Int, ns.length ≤ 63 → ∃ S', run Cr.P 12 19 [.scr ns] [] = .ok (.bl true) S' := by
  intro ns _
  rw [run_eq (df := Cr.d19) rfl rfl]
  obtain ⟨a, b, s0, e0⟩ := source_ok (k := 10) (ns := ns)
  have e0 : run Cr.P 11 12 [.scr ns, .int 0] [] = .ok (.loc 0) (Sv a b 0 []) := e0
  obtain ⟨r1, a1, b1, c1, e1, p1, q1, s1⟩ := pick_ok (T := []) (k := 10) (many := 6) s0 (by decide) (by decide) (by decide)
  obtain ⟨m, hm⟩ : ∃ m : Nat, 1 + r1 = (m : Int) := ⟨(1 + r1).toNat, by omega⟩
  have hr62 : -(2 ^ 62) ≤ (m : Int) ∧ (m : Int) < 2 ^ 62 := by omega
  have hitems : m ≤ SMAX := by rw [smax_eq]; omega
  obtain ⟨rs, S2, e2, l2, h2, a2, b2, c2, hS2, s2⟩ := draws_ok (k := 9) (n := 1) (m := m) (most := 12) (τ := [some (.scr ns), some (.loc 0), none, none, none, none, none, none, none, none, none]) (S := Sv a1 b1 c1 []) (s := ⟨(List.range m).map fun (i : Nat) => D.int (i : Int), none, []⟩) rfl (by decide) (by decide) (by omega) (by decide) (fun j S => by simp only [wipeT, evE_var, evE_int, evE_str, evE_bl, evE_non, evE_bin, evE_neg, evE_cmp, evE_isN, evE_notN, evE_chain, evE_and, evE_or, evE_not, evE_ite, evE_tup, evE_frz, evE_live, evE_call, evE_dead, evE_lim, evE_blt, evE_isi, evE_divm, evE_tupOf, evE_idx, evE_slS, evE_join, evE_mt1, evE_fld, evE_meth, evE_new, evE_dnil, evE_get2, evE_dcopy, evO_none, evO_some, evEs_nil, evEs_cons, evT_val, evT_tru, evT_and, evT_or, evT_not, evAnd_one, evAnd_cons, evOr_one, evOr_cons, evF_lst, evF_comp, evF_listOf, evF_listRng, evF_cat, evF_rep, evF_slL, evF_split, evF_splitMax, evC_nil, evC_one, evI_seq_true, evI_seq_false, evI_str, evI_rng1, evI_rng2, evI_enumL, evI_enumS, exC_pass, exC_dead, exC_nil, exC_cons, exC_exp, exC_app, exC_set, exC_setc, exC_aug, exC_setIx, exC_setKy, exC_setFd, exC_noneFault, exC_augIx, exC_two, exC_ret, exC_retN, exC_ite, exC_for, exC_while, exC_brk, exC_cnt, exC_raise, exC_fault, bind_ok, bind_exc, of_some, st_ok, st_exc, then_nx, then_ret, then_exc, then_bk, then_ct, start_eq, List.map_cons, List.map_nil, List.length_cons, List.length_nil, List.cons_append, List.nil_append, List.replicate, List.getElem?_cons_zero, List.getElem?_cons_succ, List.set_cons_zero, List.set_cons_succ, Option.map_some, Nat.reduceAdd, Nat.reduceSub, Nat.zero_add]) ⟨a1, b1, c1, rfl, s1⟩
  subst hS2
  have R : RowsOk rs := ⟨by omega, by omega, fun r hr => (h2 r hr).1, fun r hr => (h2 r hr).2⟩
  have hzt := R.len
  have hlog : run Cr.P 11 11 [.lst (rs.map strW)] (Sv a2 b2 c2 []) = .ok (.str (W (logL 0 rs))) (Sv a2 b2 c2 []) := log_ok (k := 8) (by have := R.n1; omega) (fun r hr => rowB_ok (R.rb r hr)) (by rw [smax_eq]; omega)
  obtain ⟨a3, b3, c3, x2, x5, x6, x7, x8, x9, x10, e3, s3⟩ := loop_ok (k := 4) (ns := ns) (s := ⟨(List.range 12).map fun (i : Nat) => D.int (i : Int), none, []⟩) rfl R (List.range 12) (1 + 100 * m) a2 b2 c2 none none none none none none none s2 (by rw [List.length_range]; omega)
  have hrec : ∀ (q : Nat) (S : Sto), run Cr.P (q + 4) 5 [strW (logL 0 rs)] S = .ok (.tup [.tup (rs.map strW), .tup [.str "whole"]]) S := fun q S => by
    have htx := joinL_log 0 rs []
    rw [List.append_nil] at htx
    have := recover_ok (k := q) (rs := rs) (last := []) (S := S) (by have := R.n1; omega) R.rb (by simp) (by rw [htx, smax_eq]; omega)
    rw [htx] at this
    exact this
  rw [List.length_range] at s3
  obtain ⟨a4, b4, c4, e4, s4⟩ := kept_whole (k := 4) (rs := rs) (fun e => by have := R.n0; rw [e] at this; exact absurd this (by decide)) (by have := R.n1; omega) R.rb (by omega) (fun S => hrec 4 S) s3 (by omega)
  have e5 := hrec 7 (Sv a3 b3 c3 [])
  have e5 : run Cr.P 11 5 [.str (W (logL 0 rs))] (Sv a3 b3 c3 []) = _ := e5
  have e4 : run Cr.P 11 18 [.loc 0, .str (W (logL 0 rs)), .lst (rs.map strW), .tup [.str "whole"]] (Sv a3 b3 c3 []) = _ := e4
  have e6 : run Cr.P 11 14 [.tup [.tup (rs.map strW), .tup [.str "whole"]], .tup [.tup (rs.map strW), .tup [.str "whole"]]] (Sv a3 b3 c3 []) = .ok (.bl true) (Sv a3 b3 c3 []) :=
    same_ok 2 8 _ _ _ (.tup 1 _ _ rfl (show 2 ≤ 1000000 by decide) (sim_two (.tup 0 _ _ rfl (by rw [List.length_map]; have := R.n1; omega) sim_strs) (.tup 0 _ _ rfl (show 1 ≤ 1000000 by decide) (sim_one (.str _ _)))))
  refine ⟨[], ?_⟩
  have e12 : ((12 : Nat) : Int) = 12 := rfl
  rw [e12] at e2
  have hr12 : -(2 ^ 62) ≤ (12 : Int) ∧ (12 : Int) < 2 ^ 62 := by decide
  have hn12 : (12 : Int).toNat = 12 := rfl
  have hb : Cr.b19 = (.cons (.set 1 (.call 12 (.cons (.var 0) (.cons (.int 0) .nil))))
 (.cons (.setc 3 (.frz (.comp (.nm 2) (.rng1 (.bin .add (.int 1) (.call 13 (.cons (.var 1) (.cons (.int 6) .nil))))) .nil (.call 8 (.cons (.var 1) (.cons (.int 12) .nil))) [("at", 2)])))
 (.cons (.set 4 (.call 11 (.cons (.var 3) .nil)))
 (.cons (.for (.nm 5) (.rng1 (.int 12)) bd)
 (.cons (.ret (.and (.call 14 (.cons (.call 5 (.cons (.var 4) .nil)) (.cons (.tup (.cons (.tupOf (.var 3)) (.cons (.tup (.cons (.str "whole") .nil)) .nil))) .nil))) (.call 18 (.cons (.var 1) (.cons (.var 4) (.cons (.var 3) (.cons (.tup (.cons (.str "whole") .nil)) .nil)))))))
 .nil))))) := rfl
  have hgl : ∀ (S : Sto) (xs : List D), getL S (.lst xs) = some xs := fun _ _ => rfl
  show fin true _ (exC _ Cr.b19 _ _) = _
  rw [hb]
  simp only [Cr.d19, evE_var, evE_int, evE_str, evE_bl, evE_non, evE_bin, evE_neg, evE_cmp, evE_isN, evE_notN, evE_chain, evE_and, evE_or, evE_not, evE_ite, evE_tup, evE_frz, evE_live, evE_call, evE_dead, evE_lim, evE_blt, evE_isi, evE_divm, evE_tupOf, evE_idx, evE_slS, evE_join, evE_mt1, evE_fld, evE_meth, evE_new, evE_dnil, evE_get2, evE_dcopy, evO_none, evO_some, evEs_nil, evEs_cons, evT_val, evT_tru, evT_and, evT_or, evT_not, evAnd_one, evAnd_cons, evOr_one, evOr_cons, evF_lst, evF_comp, evF_listOf, evF_listRng, evF_cat, evF_rep, evF_slL, evF_split, evF_splitMax, evC_nil, evC_one, evI_seq_true, evI_seq_false, evI_str, evI_rng1, evI_rng2, evI_enumL, evI_enumS, exC_pass, exC_dead, exC_nil, exC_cons, exC_exp, exC_app, exC_set, exC_setc, exC_aug, exC_setIx, exC_setKy, exC_setFd, exC_noneFault, exC_augIx, exC_two, exC_ret, exC_retN, exC_ite, exC_for, exC_while, exC_brk, exC_cnt, exC_raise, exC_fault, bind_ok, bind_exc, of_some, st_ok, st_exc, then_nx, then_ret, then_exc, then_bk, then_ct, start_eq, List.map_cons, List.map_nil, List.length_cons, List.length_nil, List.cons_append, List.nil_append, List.replicate, List.getElem?_cons_zero, List.getElem?_cons_succ, List.set_cons_zero, List.set_cons_succ, Option.map_some, Nat.reduceAdd, Nat.reduceSub, Nat.zero_add, e0, e1, addI, hm, if_pos hr62, Int.toNat_natCast, List.length_map, List.length_range, if_pos hitems, e2, hlog, if_pos hr12, hn12, e3, e5, hgl, show 1 ≤ SMAX from by decide, show 2 ≤ SMAX from by decide, if_true, e6, e4]
  rw [fin_ret (frz_sca rfl)]
  unfold Pi.cut
  exact if_pos (.inl rfl)
end Ma
end
set_option Elab.async false
set_option linter.all false
set_option maxRecDepth 100000
set_option maxHeartbeats 0
open PySem PySem.W PySem.Calls PyProof.Rows
theorem PySem.Challenge.cw_highenough_k83_one_sign_of_a_log_changed_holds : PySem.Challenge.rw_highenough_k83_one_sign_of_a_log_changed.Holds := by
  w_on; o_law
  refine HandSHeadRun.head_any (r := OpenLaw.row PySem.Challenge.rw_highenough_k83_one_sign_of_a_log_changed) (q := view (OpenLaw.row PySem.Challenge.rw_highenough_k83_one_sign_of_a_log_changed).prog [41]) (H := Hd.hk) (ob := Hd.ob) (M := 8000) (loose := Hd.loose) (d := HandSHeadRun.topDef (OpenLaw.row PySem.Challenge.rw_highenough_k83_one_sign_of_a_log_changed).prog 41) (kwd := []) Hd.ob_eq
    (by kernel_rfl) (fun s => by kernel_rfl) Hd.run (by kernel_rfl) (by kernel_rfl) (by kernel_rfl) (by rfl) (by first | assumption | decide +kernel) (by decide +kernel) ⟨rfl, rfl, rfl, rfl, rfl, by decide +kernel⟩ ?hw ?hc
  case hw => w_witness2
  case hc => exact Pi.walk_pi (l := PySem.Challenge.rw_highenough_k83_one_sign_of_a_log_changed) (n := 63) (k := 12) (f := 19) (P := Cr.P) rfl rfl rfl (by decide +kernel) (by kernel_rfl) (by kernel_rfl) rfl ⟨rfl, by decide, by decide⟩ (fun w K mg base h X G c => Hd.gok X G c) Ma.law_true
