import PyProof.Rows.All
import Wide.All
import OpenK.AllK
import Wide.FinOn
import HandS.ForMost
import HandS.ForExc
import HandS.Wide
import HandS.IsInst
import HandS.Conv
import HandS.Zip
import HandS.TupAny
import HandS.TupMul
import HandS.Style
import HandS.RevTup
import HandS.Slots
import HandS.SlotsOwn
import HandS.EndBits
import PySem.Challenge.RW_crewclocks_k09_whole_flights_with_a_wish
set_option Elab.async false
set_option linter.all false
set_option maxRecDepth 100000
set_option maxHeartbeats 8000000
/-! CwA: the data, the small tree, its reckoning. -/
namespace Cw
open PySem PySem.Spec PyProof.Rows L2

/-- data: tuples (and lists that are only read) by value, lists that may change by their place in a store -/
inductive D where
  | non | bl (b : Bool) | int (i : Int) | str (x : Str) | tup (xs : List D) | rol (xs : List D) | ref (n : Nat)
  deriving Inhabited

/-- what stands in the store -/
inductive SO where
  | lst (xs : List D)
  /-- an instance with slots: its class, what its slots hold -/
  | ins (c : Str) (fs : List (Option D))
  deriving Inhabited
abbrev Store := List SO
def isL : Option SO → Bool
  | some (.lst _) => true
  | _ => false
theorem isL_inv : ∀ {o : Option SO}, isL o = true → ∃ xs, o = some (.lst xs)
  | some (.lst xs), _ => ⟨xs, rfl⟩
abbrev Env := List (Option D)

/-- an own error: its class's number, its value -/
structure Xc where
  cls : Nat
  val : D

inductive Rs (α : Type) where
  | ok (a : α) (S : Store)
  | exc (x : Xc) (S : Store)
  | bad
def Rs.bnd {α β : Type} (r : Rs α) (f : α → Store → Rs β) : Rs β := match r with
  | .ok a S => f a S
  | .exc x S => .exc x S
  | .bad => .bad

/-! ### the small tree -/
inductive Bop where
  | add | sub | mul | fdiv | mod | pow
  deriving DecidableEq
inductive Cop where
  | eq | ne | lt | le | gt | ge | isN | notN | isin | notin
  deriving DecidableEq
/-- built-ins of one argument -/
inductive B1 where
  | len | abs | int | all | any | sum | tuple | list | repr | str | lrange
  deriving DecidableEq
inductive B2 where
  | min | max
  deriving DecidableEq
inductive Ty where
  | int | bool | str | tuple | list
  deriving DecidableEq
/-- methods of lists and texts -/
inductive M0 where
  | pop
  deriving DecidableEq
inductive M1 where
  | append | extend | popAt | split | join
  deriving DecidableEq
/-- targets -/
inductive Tg where
  | nm (i : Nat)
  | tp (ts : List Tg)

mutual
inductive E where
  | var (i : Nat)
  | cst (d : D)
  | tup (es : Es)
  | lst (es : Es)
  | bin (op : Bop) (a b : E)
  | neg (a : E)
  | not (a : E)
  | and (a b : E)
  | or (a b : E)
  | cmp (op : Cop) (a b : E)
  | chain (o1 o2 : Cop) (a b c : E)
  | ite (c a b : E)
  | idx (a b : E)
  | slc (a : E) (lo hi : Eo)
  | rev (a : E)
  | call (f : Nat) (es ks : Es) (pm : Option (List Nat))
  | b1 (f : B1) (a : E)
  | b2 (f : B2) (a b : E)
  | isi (a : E) (t : Ty)
  | m0 (m : M0) (a : E)
  | m1 (m : M1) (a b : E)
  | comp (own : List Nat) (tg : Tg) (it : E) (cond : Eo) (elt : E)
  /-- o.f, a slot: its place by the class -/
  | fld (f : Str) (a : E) (t : List (Str × Nat))
  /-- o.f, a property: its getter's number by the class -/
  | prp (f : Str) (a : E) (t : List (Str × Nat))
  /-- o.m(..): the def's number by the class -/
  | mth (m : Str) (a : E) (t : List (Str × Nat)) (es : Es)
  /-- C(..): the number of its __init__ -/
  | mk (c : Str) (g : Nat) (es : Es)
  -- what stands only as a walk's source, as an argument of list, of isinstance
  | rngV (a : E)
  | rngV2 (a b : E)
  | zipV (a b : E)
  | enumV (a : E)
  | tyV (t : Ty)
  -- never reckoned
  | nev
inductive Es where
  | nil
  | cons (e : E) (r : Es)
inductive Eo where
  | none
  | some (e : E)
end

mutual
inductive T where
  | asg (i : Nat) (e : E)
  | asgT (tg : Tg) (e : E)
  | par (i j : Nat) (a b : E)
  | par3 (i j k : Nat) (a b c : E)
  | set (o i e : E)
  | exp (e : E)
  | ret (e : E)
  | retN
  | iff (c : E) (a b : Ts)
  | whl (c : E) (b : Ts)
  | fr (tg : Tg) (it : E) (b : Ts)
  | pas | brk | cnt
  | rse (cls : Nat) (e : E)
  /-- o.f = e -/
  | stA (f : Str) (a : E) (t : List (Str × Nat)) (e : E)
  -- never run
  | nev
inductive Ts where
  | nil
  | cons (t : T) (r : Ts)
end

/-! ### reckoning: values -/
/-- the items of a tuple, a list -/
def sq (S : Store) : D → Option (List D)
  | .tup xs => some xs
  | .rol xs => some xs
  | .ref n => match S[n]? with
    | some (.lst xs) => some xs
    | _ => none
  | _ => none
def isSeqL : D → Bool
  | .rol _ => true
  | .ref _ => true
  | _ => false
def isTup : D → Bool
  | .tup _ => true
  | _ => false
/-- a new list -/
def alloc (xs : List D) (S : Store) : Rs D := if xs.length ≤ sizeLine then .ok (.ref S.length) (S ++ [.lst xs]) else .bad
def mkTup (xs : List D) (S : Store) : Rs D := if xs.length ≤ sizeLine then .ok (.tup xs) S else .bad

def mapO {α β : Type} (f : α → Option β) : List α → Option (List β)
  | [] => some []
  | d :: ds => match f d with
    | none => none
    | some p => match mapO f ds with
      | none => none
      | some ps => some (p :: ps)
/-- as the library's data, so deep -/
def toPy (S : Store) : Nat → D → Option PyData
  | 0 => fun _ => none
  | k + 1 => fun d => match d with
    | .non => some .none
    | .bl b => some (.bool b)
    | .int i => some (.int i)
    | .str x => some (.str x)
    | .tup xs => (mapO (toPy S k) xs).map .tuple
    | .rol xs => (mapO (toPy S k) xs).map .list
    | .ref n => match S[n]? with
      | some (.lst xs) => (mapO (toPy S k) xs).map .list
      | _ => none

def okMul (i j : Int) : Bool := decide (i.natAbs.log2 + j.natAbs.log2 < 1000000)
def okDiv (j : Int) : Bool := decide (j ≠ 0) && decide (j.natAbs.log2 < 9000)
def okPow (i j : Int) : Bool := decide (0 ≤ j) && decide ((Builtin.Int.intBits i : Int) * j ≤ 2 ^ 27)
def boolOf : D → Option Bool
  | .bl b => some b
  | _ => none
def isRefD : D → Bool
  | .ref _ => true
  | _ => false

def evBop (op : Bop) (x y : D) (S : Store) : Rs D := match op, x, y with
  | .add, .int i, .int j => .ok (.int (i + j)) S
  | .add, .str a, .str b => if a.length + b.length ≤ sizeLine then .ok (.str (a ++ b)) S else .bad
  | .add, .tup xs, .tup ys => if xs.length + ys.length ≤ sizeLine then .ok (.tup (xs ++ ys)) S else .bad
  | .add, .ref n, .ref m => match S[n]?, S[m]? with
    | some (.lst xs), some (.lst ys) => if xs.length + ys.length ≤ sizeLine then .ok (.ref S.length) (S ++ [.lst (xs ++ ys)]) else .bad
    | _, _ => .bad
  | .sub, .int i, .int j => .ok (.int (i - j)) S
  | .mul, .int i, .int j => if okMul i j then .ok (.int (i * j)) S else .bad
  | .mul, .ref n, .int k => match S[n]? with
    | some (.lst xs) => if decide (-(2 ^ 63) ≤ k) && decide (k < 2 ^ 63) && decide (xs.length * k.toNat ≤ sizeLine) then .ok (.ref S.length) (S ++ [.lst (List.replicate k.toNat xs).flatten]) else .bad
    | _ => .bad
  | .fdiv, .int i, .int j => if okDiv j then .ok (.int (i.fdiv j)) S else .bad
  | .mod, .int i, .int j => if decide (j ≠ 0) then .ok (.int (i.fmod j)) S else .bad
  | .pow, .int i, .int j => if okPow i j then .ok (.int (i ^ j.toNat)) S else .bad
  | _, _, _ => .bad

def flatD : D → Bool
  | .non | .bl _ | .int _ | .str _ => true
  | _ => false
def vOf : D → V
  | .non => .non
  | .bl b => .bl b
  | .int i => .int i
  | .str x => .str x
  | _ => .non
/-- x in y, where the items are data of any depth -/
def inP (p : PyData) : PyData → Option Bool
  | .list qs => if SeqAt.shaped p && SeqAt.shaped (.list qs) then some (qs.any fun z => PyData.eqv z p) else none
  | .tuple qs => if SeqAt.shaped p && SeqAt.shaped (.tuple qs) then some (qs.any fun z => PyData.eqv z p) else none
  | _ => none
def inD0 (S : Store) (x y : D) : Option Bool := match toPy S 40 x, toPy S 40 y with
  | some p, some q => inP p q
  | _, _ => none
def inD (S : Store) (x y : D) : Option Bool := match x, y with
  | .str a, .str b => some (!(Builtin.Str.occurrences b a 0 b.length 1).isEmpty)
  | x, y => match sq S y with
    | some xs => if flatD x && xs.all flatD then some (inV (vOf x) (xs.map vOf)) else inD0 S x y
    | none => none
def eqD0 (S : Store) (x y : D) : Option Bool := match toPy S 40 x, toPy S 40 y with
  | some p, some q => if SeqAt.shaped p && SeqAt.shaped q then some (PyData.eqv p q) else none
  | _, _ => none
def eqD (S : Store) (x y : D) : Option Bool := match x, y with
  | .str a, .str b => some (decide (a = b))
  | x, y => eqD0 S x y
def ofOpt (S : Store) : Option Bool → Rs D
  | some b => .ok (.bl b) S
  | none => .bad
def isNonD : D → Bool
  | .non => true
  | _ => false
def evCop (op : Cop) (x y : D) (S : Store) : Rs D := match op with
  | .eq => ofOpt S (eqD S x y)
  | .ne => ofOpt S ((eqD S x y).map (!·))
  | .lt => match x, y with | .int i, .int j => .ok (.bl (decide (i < j))) S | _, _ => .bad
  | .le => match x, y with | .int i, .int j => .ok (.bl (decide (i ≤ j))) S | _, _ => .bad
  | .gt => match x, y with | .int i, .int j => .ok (.bl (decide (j < i))) S | _, _ => .bad
  | .ge => match x, y with | .int i, .int j => .ok (.bl (decide (j ≤ i))) S | _, _ => .bad
  | .isN => match y with
    | .non => .ok (.bl (isNonD x)) S
    | .bl b => (match x with | .bl a => .ok (.bl (decide (a = b))) S | _ => .bad)
    | _ => .bad
  | .notN => match y with
    | .non => .ok (.bl (!isNonD x)) S
    | .bl b => (match x with | .bl a => .ok (.bl (!decide (a = b))) S | _ => .bad)
    | _ => .bad
  | .isin => ofOpt S (inD S x y)
  | .notin => ofOpt S ((inD S x y).map (!·))

/-- a value's truth -/
def truD (S : Store) : D → Option Bool
  | .non => some false
  | .bl b => some b
  | .int i => some (i != 0)
  | .str y => if y.length ≤ sizeLine then some ((y.length : Int) != 0) else none
  | .tup xs => some (!xs.isEmpty)
  | .rol xs => some (!xs.isEmpty)
  | .ref n => match S[n]? with
    | some (.lst xs) => some (!xs.isEmpty)
    | _ => none
def evTru (d : D) (S : Store) : Rs Bool := match truD S d with
  | some b => .ok b S
  | none => .bad
def ofBl (d : D) (S : Store) : Rs Bool := match d with
  | .bl b => .ok b S
  | _ => .bad

def evIdx (x y : D) (S : Store) : Rs D := match x, y with
  | .str z, .int i => if z.length ≤ sizeLine then (match atI z.cps.toList i with | some c => .ok (.str ⟨#[c]⟩) S | none => .bad) else .bad
  | x, .int i => match sq S x with
    | some xs => (match atI xs i with | some d => .ok d S | none => .bad)
    | none => .bad
  | _, _ => .bad
def cutL {α : Type} (xs : List α) (lo hi : Option Int) : List α := (xs.drop (HT.sIx xs.length 0 lo)).take (HT.sIx xs.length xs.length hi - HT.sIx xs.length 0 lo)
def evSlc (x : D) (lo hi : Option Int) (S : Store) : Rs D := match x with
  | .tup xs => .ok (.tup (cutL xs lo hi)) S
  | .rol xs => .ok (.ref S.length) (S ++ [.lst (cutL xs lo hi)])
  | .ref n => match S[n]? with
    | some (.lst xs) => .ok (.ref S.length) (S ++ [.lst (cutL xs lo hi)])
    | _ => .bad
  | .str z => if z.length ≤ sizeLine then .ok (.str (cutS z lo hi)) S else .bad
  | _ => .bad
/-- x[::-1] -/
def evRev (x : D) (S : Store) : Rs D := match x with
  | .tup xs => .ok (.tup xs.reverse) S
  | .rol xs => .ok (.ref S.length) (S ++ [.lst xs.reverse])
  | .ref n => match S[n]? with
    | some (.lst xs) => .ok (.ref S.length) (S ++ [.lst xs.reverse])
    | _ => .bad
  | _ => .bad
def intsOf : List D → Option (List Int)
  | [] => some []
  | .int i :: r => (intsOf r).map (i :: ·)
  | _ => none
def blsOf : List D → Option (List Bool)
  | [] => some []
  | .bl i :: r => (blsOf r).map (i :: ·)
  | _ => none
def strsOf : List D → Option (List Str)
  | [] => some []
  | .str i :: r => (strsOf r).map (i :: ·)
  | _ => none
/-- lo, lo + 1, .. -/
def rangeL (lo hi : Int) : List D := (List.range (hi - lo).toNat).map fun k => .int (lo + (k : Nat))

def evB1 (f : B1) (x : D) (S : Store) : Rs D := match f with
  | .len => match x with
    | .str z => if z.length ≤ sizeLine then .ok (.int z.length) S else .bad
    | x => match sq S x with
      | some xs => .ok (.int xs.length) S
      | none => .bad
  | .abs => match x with | .int i => .ok (.int (if i < 0 then -i else i)) S | _ => .bad
  | .int => match x with
    | .int i => .ok (.int i) S
    | .bl b => .ok (.int (if b then 1 else 0)) S
    | .str a => match PySem.intText? a with
      | some n => if a.length ≤ 640 then .ok (.int n) S else .bad
      | none => .bad
    | _ => .bad
  | .all => if isSeqL x then (match (sq S x).bind blsOf with | some bs => .ok (.bl (bs.all id)) S | none => .bad) else .bad
  | .any => if isSeqL x then (match (sq S x).bind blsOf with | some bs => .ok (.bl (bs.any id)) S | none => .bad) else .bad
  | .sum => if isSeqL x then (match (sq S x).bind intsOf with | some ns => .ok (.int ns.sum) S | none => .bad) else .bad
  | .tuple => match sq S x with | some xs => .ok (.tup xs) S | none => .bad
  | .list => match sq S x with | some xs => .ok (.ref S.length) (S ++ [.lst xs]) | none => .bad
  | .repr => match toPy S 40 x with
    | some p => if p.showable && !p.hasDict && decide (p.depth ≤ 60) && decide (p.shown.length ≤ sizeLine) then .ok (.str p.shown) S else .bad
    | none => .bad
  | .str => match x with | .int i => if i.natAbs.log2 < 1920 then .ok (.str (toString i)) S else .bad | _ => .bad
  | .lrange => match x with | .int i => if decide (i ≤ 1000000) && decide (-1000000 ≤ i) then .ok (.ref S.length) (S ++ [.lst (rangeL 0 i)]) else .bad | _ => .bad
def evB2 (f : B2) (x y : D) (S : Store) : Rs D := match f, x, y with
  | .min, .int i, .int j => .ok (.int (if j < i then j else i)) S
  | .max, .int i, .int j => .ok (.int (if j > i then j else i)) S
  | _, _, _ => .bad
def isTy (t : Ty) : D → Bool
  | .int _ => t = .int
  | .bl _ => t = .int || t = .bool
  | .str _ => t = .str
  | .tup _ => t = .tuple
  | .rol _ => t = .list
  | .ref _ => t = .list
  | .non => false
def evIsi (x : D) (t : Ty) (S : Store) : Rs D := match x with
  | .ref n => if isL S[n]? then .ok (.bl (isTy t x)) S else .bad
  | _ => .ok (.bl (isTy t x)) S
/-- the receiver is of the method's kind -/
def isLst (x : D) (S : Store) : Bool := match x with
  | .ref n => match S[n]? with
    | some (.lst _) => true
    | _ => false
  | _ => false
def isStr : D → Bool
  | .str _ => true
  | _ => false
def okM0 (m : M0) (x : D) (S : Store) : Bool := match m with
  | .pop => isLst x S
def okM1 (m : M1) (x : D) (S : Store) : Bool := match m with
  | .append | .extend | .popAt => isLst x S
  | .split | .join => isStr x
def evM0 (m : M0) (x : D) (S : Store) : Rs D := match m, x with
  | .pop, .ref n => match S[n]? with
    | some (.lst xs) => match xs[xs.length - 1]? with
      | some d => .ok d (S.set n (.lst xs.dropLast))
      | none => .bad
    | _ => .bad
  | _, _ => .bad
def evM1 (m : M1) (x y : D) (S : Store) : Rs D := match m, x, y with
  | .append, .ref n, d => match S[n]? with
    | some (.lst xs) => if xs.length < sizeLine then .ok .non (S.set n (.lst (xs ++ [d]))) else .bad
    | _ => .bad
  | .extend, .ref n, .ref k => match S[n]?, S[k]? with
    | some (.lst xs), some (.lst ys) => if xs.length + ys.length ≤ sizeLine then .ok .non (S.set n (.lst (xs ++ ys))) else .bad
    | _, _ => .bad
  | .popAt, .ref n, .int i => match S[n]? with
    | some (.lst xs) => if decide (-(2 ^ 63) ≤ i) && decide (i < 2 ^ 63) then (match seqIndex? i xs.length with
      | some k => match xs[k]? with
        | some d => .ok d (S.set n (.lst (xs.eraseIdx k)))
        | none => .bad
      | none => .bad) else .bad
    | _ => .bad
  | .split, .str a, .str b => if !(b.length == 0) && decide (a.length + 2 ≤ sizeLine) then .ok (.ref S.length) (S ++ [.lst ((Txt.split a b).map .str)]) else .bad
  | .join, .str a, y => match (sq S y).bind strsOf with
    | some ys => if (ys.map (·.length)).sum + ys.length * a.length ≤ 16777216 then .ok (.str (Txt.join a ys)) S else .bad
    | none => .bad
  | _, _, _ => .bad

/-! ### targets, walks -/
mutual
def evTg : Tg → D → Env → Option Env
  | .nm i, d, ρ => some (ρ.set i (some d))
  | .tp ts, d, ρ => match d with
    | .tup ds => evTgs ts ds ρ
    | _ => none
termination_by structural t => t
def evTgs : List Tg → List D → Env → Option Env
  | [], ds, ρ => match ds with
    | [] => some ρ
    | _ => none
  | t :: ts, ds, ρ => match ds with
    | [] => none
    | d :: ds' => match evTg t d ρ with
      | some ρ' => evTgs ts ds' ρ'
      | none => none
termination_by structural t => t
end
/-- what a loop walks -/
inductive Src where
  | fix (xs : List D)
  | live (n : Nat)
  | rng (lo : Int) (n : Nat)
  | zip (a b : D)
  | enum (a : D)
def Src.at (S : Store) (i : Nat) : Src → Option D
  | .fix xs => xs[i]?
  | .live n => match S[n]? with
    | some (.lst xs) => xs[i]?
    | _ => none
  | .rng lo n => if i < n then some (.int (lo + (i : Nat))) else none
  | .zip a b => match sq S a, sq S b with
    | some xs, some ys => match xs[i]?, ys[i]? with
      | some x, some y => some (.tup [x, y])
      | _, _ => none
    | _, _ => none
  | .enum a => match sq S a with
    | some xs => (xs[i]?).map fun x => .tup [.int (i : Nat), x]
    | none => none
/-- at least so many turns as it has now -/
def Src.len (S : Store) : Src → Nat
  | .fix xs => xs.length
  | .live n => match S[n]? with
    | some (.lst xs) => xs.length
    | _ => 0
  | .rng _ n => n
  | .zip a b => match sq S a, sq S b with
    | some xs, some ys => min xs.length ys.length
    | _, _ => 0
  | .enum a => match sq S a with
    | some xs => xs.length
    | none => 0
/-- it stands (its lists are there) -/
def Src.there (S : Store) : Src → Bool
  | .fix _ => true
  | .live n => isL S[n]?
  | .rng _ _ => true
  | .zip a b => (sq S a).isSome && (sq S b).isSome
  | .enum a => (sq S a).isSome

/-- the end of a statement -/
inductive Fl where
  | nx (ρ : Env) | rt (d : D) | bk (ρ : Env) | ct (ρ : Env) | ex (x : Xc) (ρ : Env)
abbrev Rt := Option (Fl × Store)

def loopF (src : Src) (body : D → Env → Store → Rt) : Nat → Nat → Env → Store → Rt
  | 0, i, ρ, S => if src.there S then (match src.at S i with
    | none => some (.nx ρ, S)
    | some _ => none) else none
  | m + 1, i, ρ, S => if src.there S then (match src.at S i with
    | none => some (.nx ρ, S)
    | some d => match body d ρ S with
      | some (.nx ρ', S') => loopF src body m (i + 1) ρ' S'
      | some (.ct ρ', S') => loopF src body m (i + 1) ρ' S'
      | some (.bk ρ', S') => some (.nx ρ', S')
      | some (.rt d, S') => some (.rt d, S')
      | some (.ex x ρ', S') => some (.ex x ρ', S')
      | none => none) else none
def loopW (c : Env → Store → Rs Bool) (body : Env → Store → Rt) : Nat → Env → Store → Rt
  | 0, _, _ => none
  | m + 1, ρ, S => match c ρ S with
    | .ok false S' => some (.nx ρ, S')
    | .ok true S' => match body ρ S' with
      | some (.nx ρ', S') => loopW c body m ρ' S'
      | some (.ct ρ', S') => loopW c body m ρ' S'
      | some (.bk ρ', S') => some (.nx ρ', S')
      | some (.rt d, S') => some (.rt d, S')
      | some (.ex x ρ', S') => some (.ex x ρ', S')
      | none => none
    | .exc x S' => some (.ex x ρ, S')
    | .bad => none
/-- a comprehension's turns: acc the items so far -/
def loopC (src : Src) (turn : D → Store → Rs (Option D)) : Nat → Nat → List D → Store → Rs (List D)
  | 0, i, acc, S => if src.there S then (match src.at S i with
    | none => .ok acc S
    | some _ => .bad) else .bad
  | m + 1, i, acc, S => if src.there S then (match src.at S i with
    | none => .ok acc S
    | some d => match turn d S with
      | .ok (some y) S' => if acc.length < sizeLine then loopC src turn m (i + 1) (acc ++ [y]) S' else .bad
      | .ok none S' => loopC src turn m (i + 1) acc S'
      | .exc _ _ => .bad
      | .bad => .bad) else .bad
def wipeD (ρ : Env) : List Nat → Env
  | [] => ρ
  | v :: vs => (wipeD ρ vs).set v none

abbrev CallT := Nat → List D → Store → Rs D
def permute (pm : Option (List Nat)) (ds : List D) : Option (List D) := match pm with
  | none => some ds
  | some p => p.mapM fun i => ds[i]?
def toSrc (S : Store) (d : D) : Rs Src := match d with
  | .tup xs => .ok (.fix xs) S
  | .rol xs => .ok (.fix xs) S
  | .ref n => if isL S[n]? then .ok (.live n) S else .bad
  | _ => .bad

/-- an expression's three meanings: its value, its test, what is walked in it -/
structure Sm where
  v : Env → Store → Rs D
  b : Env → Store → Rs Bool
  w : Env → Store → Rs Src
/-- of a value alone -/
def ofV (f : Env → Store → Rs D) : Sm := ⟨f, fun ρ S => (f ρ S).bnd evTru, fun ρ S => (f ρ S).bnd fun x S1 => toSrc S1 x⟩
def ofVB (f : Env → Store → Rs D) (g : Env → Store → Rs Bool) : Sm := ⟨f, g, fun ρ S => (f ρ S).bnd fun x S1 => toSrc S1 x⟩
/-- of a walk alone -/
def ofW (g : Env → Store → Rs Src) : Sm := ⟨fun _ _ => .bad, fun _ _ => .bad, g⟩
def bin2 (f g : Env → Store → Rs D) (k : D → D → Store → Rs D) : Env → Store → Rs D := fun ρ S => (f ρ S).bnd fun x S1 => (g ρ S1).bnd fun y S2 => k x y S2
def evChain (o1 o2 : Cop) (f g h : Env → Store → Rs D) : Env → Store → Rs D := fun ρ S => (f ρ S).bnd fun x S1 => (g ρ S1).bnd fun y S2 => (evCop o1 x y S2).bnd fun z S3 => match z with
  | .bl true => (h ρ S3).bnd fun u S4 => evCop o2 y u S4
  | .bl false => .ok (.bl false) S3
  | _ => .bad
def evNeg (x : D) (S : Store) : Rs D := match x with
  | .int i => .ok (.int (-i)) S
  | _ => .bad
def evNot (x : D) (S : Store) : Rs D := match x with
  | .bl b => .ok (.bl (!b)) S
  | _ => .bad
def evAnd (f g : Env → Store → Rs D) : Env → Store → Rs D := fun ρ S => (f ρ S).bnd fun x S1 => match x with
  | .bl true => g ρ S1
  | .bl false => .ok (.bl false) S1
  | _ => .bad
def evOr (f g : Env → Store → Rs D) : Env → Store → Rs D := fun ρ S => (f ρ S).bnd fun x S1 => match x with
  | .bl true => .ok (.bl true) S1
  | .bl false => g ρ S1
  | _ => .bad
def evAndB (f g : Env → Store → Rs Bool) : Env → Store → Rs Bool := fun ρ S => (f ρ S).bnd fun k S1 => match k with
  | true => g ρ S1
  | false => .ok false S1
def evOrB (f g : Env → Store → Rs Bool) : Env → Store → Rs Bool := fun ρ S => (f ρ S).bnd fun k S1 => match k with
  | true => .ok true S1
  | false => g ρ S1
def evIte {α : Type} (c : Env → Store → Rs Bool) (f g : Env → Store → Rs α) : Env → Store → Rs α := fun ρ S => (c ρ S).bnd fun k S1 => match k with
  | true => f ρ S1
  | false => g ρ S1
def evCall (cl : CallT) (f : Nat) (pm : Option (List Nat)) (ds : List D) (S : Store) : Rs D := match permute pm ds with
  | some ds' => cl f ds' S
  | none => .bad
def evComp (own : List Nat) (tg : Tg) (it : Env → Store → Rs Src) (cond : Env → Store → Rs Bool) (elt : Env → Store → Rs D) : Env → Store → Rs D := fun ρ S => (it ρ S).bnd fun src S1 =>
  (loopC src (fun d S2 => match evTg tg d (wipeD ρ own) with
    | none => .bad
    | some ρ' => (cond ρ' S2).bnd fun k S3 => match k with
      | true => (elt ρ' S3).bnd fun y S4 => .ok (some y) S4
      | false => .ok none S3) (src.len S1) 0 [] S1).bnd fun acc S2 => .ok (.ref S2.length) (S2 ++ [.lst acc])
def evMt0 (m : M0) (f : Env → Store → Rs D) : Env → Store → Rs D := fun ρ S => (f ρ S).bnd fun x S1 => if okM0 m x S1 then evM0 m x S1 else .bad
def evMt1 (m : M1) (f g : Env → Store → Rs D) : Env → Store → Rs D := fun ρ S => (f ρ S).bnd fun x S1 => if okM1 m x S1 then (g ρ S1).bnd fun y S2 => evM1 m x y S2 else .bad
def evRng1 (x : D) (S : Store) : Rs Src := match x with
  | .int j => if decide (-(2 ^ 62) ≤ j) && decide (j < 2 ^ 62) then .ok (.rng 0 j.toNat) S else .bad
  | _ => .bad
def evRng2 (x y : D) (S : Store) : Rs Src := match x, y with
  | .int i, .int j => if decide (-(2 ^ 62) ≤ i) && decide (i < 2 ^ 62) && decide (-(2 ^ 62) ≤ j) && decide (j < 2 ^ 62) then .ok (.rng i (j - i).toNat) S else .bad
  | _, _ => .bad
def evZip (x y : D) (S : Store) : Rs Src := if ((isSeqL x && isSeqL y) || (isTup x && isTup y)) && (sq S x).isSome && (sq S y).isSome then .ok (.zip x y) S else .bad
def evEnum (x : D) (S : Store) : Rs Src := if isSeqL x && (sq S x).isSome then .ok (.enum x) S else .bad

def putD (i : Nat) (d : D) (fs : List (Option D)) : List (Option D) := (fs ++ List.replicate (i + 1 - fs.length) none).set i (some d)
/-- an instance's class, what its slots hold -/
def insOf (S : Store) : D → Option (Str × List (Option D))
  | .ref n => match S[n]? with
    | some (.ins c fs) => some (c, fs)
    | _ => none
  | _ => none
def evFld (t : List (Str × Nat)) (x : D) (S : Store) : Rs D := match insOf S x with
  | some (c, fs) => match t.lookup c with
    | some i => match fs[i]? with
      | some (some d) => .ok d S
      | _ => .bad
    | none => .bad
  | none => .bad
/-- nothing raised -/
def noX (r : Rs D) : Rs D := match r with
  | .ok a S => .ok a S
  | _ => .bad
def evPrp (cl : CallT) (t : List (Str × Nat)) (x : D) (S : Store) : Rs D := match insOf S x with
  | some (c, _) => match t.lookup c with
    | some g => noX (cl g [x] S)
    | none => .bad
  | none => .bad
def evMth (cl : CallT) (t : List (Str × Nat)) (x : D) (f : Store → Rs (List D)) (S : Store) : Rs D := match insOf S x with
  | some (c, _) => match t.lookup c with
    | some g => (f S).bnd fun ds S1 => cl g (x :: ds) S1
    | none => .bad
  | none => .bad
def evMk (cl : CallT) (c : Str) (g : Nat) (ds : List D) (S : Store) : Rs D := (cl g (.ref S.length :: ds) (S ++ [.ins c []])).bnd fun r S2 => match r with
  | .non => .ok (.ref S.length) S2
  | _ => .bad
def evStA (t : List (Str × Nat)) (x d : D) (ρ : Env) (S : Store) : Option (Env × Store) := match x with
  | .ref n => match S[n]? with
    | some (.ins c fs) => match t.lookup c with
      | some i => some (ρ, S.set n (.ins c (putD i d fs)))
      | none => none
    | _ => none
  | _ => none
mutual
def ev3 (cl : CallT) : E → Sm
  | .var i => ofV fun ρ S => match ρ[i]? with
    | some (some d) => .ok d S
    | _ => .bad
  | .cst d => ofV fun _ S => .ok d S
  | .tup es => ofV fun ρ S => (evEs cl es ρ S).bnd mkTup
  | .lst es => ofV fun ρ S => (evEs cl es ρ S).bnd alloc
  | .bin op a b => ofV (bin2 (ev3 cl a).v (ev3 cl b).v (evBop op))
  | .neg a => ofV fun ρ S => ((ev3 cl a).v ρ S).bnd evNeg
  | .not a => ofVB (fun ρ S => ((ev3 cl a).v ρ S).bnd evNot) fun ρ S => ((ev3 cl a).b ρ S).bnd fun k S1 => .ok (!k) S1
  | .and a b => ofVB (evAnd (ev3 cl a).v (ev3 cl b).v) (evAndB (ev3 cl a).b (ev3 cl b).b)
  | .or a b => ofVB (evOr (ev3 cl a).v (ev3 cl b).v) (evOrB (ev3 cl a).b (ev3 cl b).b)
  | .cmp op a b => ofVB (bin2 (ev3 cl a).v (ev3 cl b).v (evCop op)) fun ρ S => (bin2 (ev3 cl a).v (ev3 cl b).v (evCop op) ρ S).bnd ofBl
  | .chain o1 o2 a b c => ofVB (evChain o1 o2 (ev3 cl a).v (ev3 cl b).v (ev3 cl c).v) fun ρ S => (evChain o1 o2 (ev3 cl a).v (ev3 cl b).v (ev3 cl c).v ρ S).bnd ofBl
  | .ite c a b => ofVB (evIte (ev3 cl c).b (ev3 cl a).v (ev3 cl b).v) (evIte (ev3 cl c).b (ev3 cl a).b (ev3 cl b).b)
  | .idx a b => ofV (bin2 (ev3 cl a).v (ev3 cl b).v evIdx)
  | .slc a lo hi => ofV fun ρ S => ((ev3 cl a).v ρ S).bnd fun x S1 => (evEo cl lo ρ S1).bnd fun l S2 => (evEo cl hi ρ S2).bnd fun h S3 => evSlc x l h S3
  | .rev a => ofV fun ρ S => ((ev3 cl a).v ρ S).bnd evRev
  | .call f es ks pm => ofV fun ρ S => (evEs cl es ρ S).bnd fun ds S1 => (evEs cl ks ρ S1).bnd fun ws S2 => evCall cl f pm (ds ++ ws) S2
  | .b1 f a => ofV fun ρ S => ((ev3 cl a).v ρ S).bnd (evB1 f)
  | .b2 f a b => ofV (bin2 (ev3 cl a).v (ev3 cl b).v (evB2 f))
  | .isi a t => ofV fun ρ S => ((ev3 cl a).v ρ S).bnd fun x S1 => evIsi x t S1
  | .m0 m a => ofV (evMt0 m (ev3 cl a).v)
  | .m1 m a b => ofV (evMt1 m (ev3 cl a).v (ev3 cl b).v)
  | .comp own tg it cond elt => ofV (evComp own tg (ev3 cl it).w (evCond cl cond) (ev3 cl elt).v)
  | .fld _ a t => ofV fun ρ S => ((ev3 cl a).v ρ S).bnd (evFld t)
  | .prp _ a t => ofV fun ρ S => ((ev3 cl a).v ρ S).bnd (evPrp cl t)
  | .mth _ a t es => ofV fun ρ S => ((ev3 cl a).v ρ S).bnd fun x S1 => evMth cl t x (evEs cl es ρ) S1
  | .mk c g es => ofV fun ρ S => (evEs cl es ρ S).bnd (evMk cl c g)
  | .rngV a => ofW fun ρ S => ((ev3 cl a).v ρ S).bnd evRng1
  | .rngV2 a b => ofW fun ρ S => ((ev3 cl a).v ρ S).bnd fun x S1 => ((ev3 cl b).v ρ S1).bnd fun y S2 => evRng2 x y S2
  | .zipV a b => ofW fun ρ S => ((ev3 cl a).v ρ S).bnd fun x S1 => ((ev3 cl b).v ρ S1).bnd fun y S2 => evZip x y S2
  | .enumV a => ofW fun ρ S => ((ev3 cl a).v ρ S).bnd evEnum
  | .tyV _ => ofW fun _ _ => .bad
  | .nev => ofW fun _ _ => .bad
termination_by structural e => e
def evEs (cl : CallT) : Es → Env → Store → Rs (List D)
  | .nil, _, S => .ok [] S
  | .cons e r, ρ, S => ((ev3 cl e).v ρ S).bnd fun x S1 => (evEs cl r ρ S1).bnd fun xs S2 => .ok (x :: xs) S2
termination_by structural e => e
def evEo (cl : CallT) : Eo → Env → Store → Rs (Option Int)
  | .none, _, S => .ok none S
  | .some e, ρ, S => ((ev3 cl e).v ρ S).bnd fun x S1 => match x with
    | .int i => .ok (some i) S1
    | _ => .bad
termination_by structural e => e
/-- a comprehension's test -/
def evCond (cl : CallT) : Eo → Env → Store → Rs Bool
  | .none, _, S => .ok true S
  | .some e, ρ, S => (ev3 cl e).b ρ S
termination_by structural e => e
end
abbrev evE (cl : CallT) (e : E) : Env → Store → Rs D := (ev3 cl e).v
abbrev evB (cl : CallT) (e : E) : Env → Store → Rs Bool := (ev3 cl e).b
abbrev evIt (cl : CallT) (e : E) : Env → Store → Rs Src := (ev3 cl e).w

def rtE {α : Type} (ρ : Env) (r : Rs α) (f : α → Store → Rt) : Rt := match r with
  | .ok a S => f a S
  | .exc x S => some (.ex x ρ, S)
  | .bad => none

mutual
/-- fu: how many turns a while may take -/
def evT (fu : Nat) (cl : CallT) : T → Env → Store → Rt
  | .asg i e, ρ, S => rtE ρ (evE cl e ρ S) fun d S1 => some (.nx (ρ.set i (some d)), S1)
  | .asgT tg e, ρ, S => rtE ρ (evE cl e ρ S) fun d S1 => match evTg tg d ρ with
    | some ρ' => some (.nx ρ', S1)
    | none => none
  | .par i j a b, ρ, S => rtE ρ (evE cl a ρ S) fun x S1 => rtE ρ (evE cl b ρ S1) fun y S2 => some (.nx ((ρ.set i (some x)).set j (some y)), S2)
  | .par3 i j k a b c, ρ, S => rtE ρ (evE cl a ρ S) fun x S1 => rtE ρ (evE cl b ρ S1) fun y S2 => rtE ρ (evE cl c ρ S2) fun z S3 => some (.nx (((ρ.set i (some x)).set j (some y)).set k (some z)), S3)
  | .set o i e, ρ, S => rtE ρ (evE cl e ρ S) fun d S1 => rtE ρ (evE cl o ρ S1) fun x S2 => rtE ρ (evE cl i ρ S2) fun y S3 => match x, y with
    | .ref n, .int k => match S3[n]? with
      | some (.lst xs) => match ixN xs.length k with
        | some j => some (.nx ρ, S3.set n (.lst (xs.set j d)))
        | none => none
      | _ => none
    | _, _ => none
  | .exp e, ρ, S => rtE ρ (evE cl e ρ S) fun _ S1 => some (.nx ρ, S1)
  | .ret e, ρ, S => rtE ρ (evE cl e ρ S) fun d S1 => some (.rt d, S1)
  | .retN, _, S => some (.rt .non, S)
  | .iff c a b, ρ, S => rtE ρ (evB cl c ρ S) fun k S1 => match k with
    | true => evTs fu cl a ρ S1
    | false => evTs fu cl b ρ S1
  | .whl c b, ρ, S => loopW (evB cl c) (evTs fu cl b) fu ρ S
  | .fr tg it b, ρ, S => rtE ρ (evIt cl it ρ S) fun src S1 => loopF src (fun d ρ1 S2 => match evTg tg d ρ1 with
      | none => none
      | some ρ2 => evTs fu cl b ρ2 S2) (src.len S1) 0 ρ S1
  | .pas, ρ, S => some (.nx ρ, S)
  | .brk, ρ, S => some (.bk ρ, S)
  | .cnt, ρ, S => some (.ct ρ, S)
  | .rse c e, ρ, S => rtE ρ (evE cl e ρ S) fun d S1 => some (.ex ⟨c, d⟩ ρ, S1)
  | .stA _ a t e, ρ, S => rtE ρ (evE cl e ρ S) fun d S1 => rtE ρ (evE cl a ρ S1) fun x S2 => match evStA t x d ρ S2 with
    | some (ρ', S3) => some (.nx ρ', S3)
    | none => none
  | .nev, _, _ => none
termination_by structural t => t
def evTs (fu : Nat) (cl : CallT) : Ts → Env → Store → Rt
  | .nil, ρ, S => some (.nx ρ, S)
  | .cons t r, ρ, S => match evT fu cl t ρ S with
    | some (.nx ρ', S') => evTs fu cl r ρ' S'
    | x => x
termination_by structural t => t
end

/-- a def: how many slots, its body -/
structure Fd where
  slots : Nat
  body : Ts
def bodyRs : Rt → Rs D
  | some (.nx _, S) => .ok .non S
  | some (.rt d, S) => .ok d S
  | some (.ex x _, S) => .exc x S
  | _ => .bad
def startD (n : Nat) (ds : List D) : Env := ds.map some ++ List.replicate (n - ds.length) none
/-- a call, at most so deep -/
def evC (fu : Nat) (tab : Nat → Option Fd) : Nat → CallT
  | 0 => fun _ _ _ => .bad
  | k + 1 => fun f ds S => match tab f with
    | some fd => bodyRs (evTs fu (evC fu tab k) fd.body (startD fd.slots ds) S)
    | none => .bad
end Cw
/-! CwB: how data lie in the abstract heap. -/
namespace Cw
open PySem PySem.Spec PyProof.Rows L2

/-- a list that is never written: frozen, or of the module -/
def SqR (K : PySem.W.Frag) (H : Hp) (a : Addr) (xs : List V) : Prop :=
  (∃ o, H a = some (.frz o (.lst xs))) ∨
    ∃ (o : Obj) (its : Array Value) (n : Nat), K.lookup a = some o ∧ o.cls = .type "list" ∧ o.dict = none ∧ o.data = .seq its n ∧ its.size ≤ sizeLine ∧ Vals xs its.toList
theorem SqR.sq {K : PySem.W.Frag} {H : Hp} {a : Addr} {xs : List V} (h : SqR K H a xs) : SqL K H a xs := by
  rcases h with h | h
  · exact .inl (.inr h)
  · exact .inr h

mutual
def RV (K : PySem.W.Frag) (μ : List Addr) (H : Hp) : D → V → Prop
  | .non, v => v = .non
  | .bl b, v => v = .bl b
  | .int i, v => v = .int i
  | .str x, v => v = .str x
  | .tup ds, v => ∃ a vs, v = .ref a ∧ SqT K H a vs ∧ RVs K μ H ds vs
  | .rol ds, v => ∃ a vs, v = .ref a ∧ SqR K H a vs ∧ RVs K μ H ds vs
  | .ref n, v => ∃ a, v = .ref a ∧ μ[n]? = some a
def RVs (K : PySem.W.Frag) (μ : List Addr) (H : Hp) : List D → List V → Prop
  | [], vs => vs = []
  | d :: ds, vs => ∃ v r, vs = v :: r ∧ RV K μ H d v ∧ RVs K μ H ds r
end

/-- the class of that name -/
def ClsAt (K : PySem.W.Frag) (c : Str) (C : Addr) : Prop := PySem.W.nsIn K mainGlobals c = some (some (.ref C))
/-- what an instance's slots hold -/
def RFs (K : PySem.W.Frag) (μ : List Addr) (H : Hp) (fs : List (Option D)) (vs : List (Option V)) : Prop := ∀ (i : Nat) (d : D), fs[i]? = some (some d) → ∃ v, vs[i]? = some (some v) ∧ RV K μ H d v
/-- what a thing of the store is -/
def Mu (u : HO) : Prop := (∃ vs, u = .lst vs) ∨ ∃ a C dx vs, u = SlX.SlO a C dx vs
/-- the store lies at μ -/
structure RS (K : PySem.W.Frag) (μ : List Addr) (H : Hp) (S : Store) : Prop where
  len : μ.length = S.length
  nd : μ.Nodup
  at_ : ∀ (n : Nat) (xs : List D), S[n]? = some (SO.lst xs) → ∃ a vs, μ[n]? = some a ∧ H a = some (.lst vs) ∧ RVs K μ H xs vs
  in_ : ∀ (n : Nat) (c : Str) (fs : List (Option D)), S[n]? = some (SO.ins c fs) → ∃ a C dx vs, μ[n]? = some a ∧ ClsAt K c C ∧ dx ≠ a ∧ H a = some (SlX.SlO a C dx vs) ∧ H dx = some (.xd []) ∧ RFs K μ H fs vs

/-- the heap grew, what the store does not hold stands -/
structure Ext (μ : List Addr) (H : Hp) (μ' : List Addr) (H' : Hp) : Prop where
  pre : ∃ t, μ' = μ ++ t
  keep : ∀ b o, H b = some o → b ∉ μ → H' b = some o ∧ b ∉ μ'

theorem Ext.refl (μ : List Addr) (H : Hp) : Ext μ H μ H := ⟨⟨[], by simp⟩, fun _ _ e n => ⟨e, n⟩⟩
theorem Ext.trans {μ μ1 μ2 : List Addr} {H H1 H2 : Hp} (a : Ext μ H μ1 H1) (b : Ext μ1 H1 μ2 H2) : Ext μ H μ2 H2 := by
  refine ⟨?_, fun c o e n => ?_⟩
  · obtain ⟨t, rfl⟩ := a.pre
    obtain ⟨u, rfl⟩ := b.pre
    exact ⟨t ++ u, by rw [List.append_assoc]⟩
  · obtain ⟨e1, n1⟩ := a.keep c o e n
    exact b.keep c o e1 n1

section
variable {K : PySem.W.Frag} {μ μ' : List Addr} {H H' : Hp} {S : Store}
theorem RS.mem (r : RS K μ H S) {a : Addr} (h : a ∈ μ) : ∃ u, H a = some u ∧ Mu u := by
  obtain ⟨n, hn, e⟩ := List.getElem_of_mem h
  have hs : n < S.length := by rw [← r.len]; exact hn
  have e2 : S[n]? = some S[n] := List.getElem?_eq_getElem hs
  cases q : S[n] with
  | lst xs =>
    rw [q] at e2
    obtain ⟨b, vs, h1, h2, _⟩ := r.at_ n xs e2
    rw [List.getElem?_eq_getElem hn] at h1
    cases h1
    rw [e] at h2
    exact ⟨_, h2, .inl ⟨vs, rfl⟩⟩
  | ins c fs =>
    rw [q] at e2
    obtain ⟨b, C, dx, vs, h1, _, _, h2, _, _⟩ := r.in_ n c fs e2
    rw [List.getElem?_eq_getElem hn] at h1
    cases h1
    rw [e] at h2
    exact ⟨_, h2, .inr ⟨a, C, dx, vs, rfl⟩⟩
theorem RS.out (r : RS K μ H S) {a : Addr} {u : HO} (h : H a = some u) (hu : ¬ Mu u) : a ∉ μ := fun m => by
  obtain ⟨w, e, k⟩ := r.mem m
  rw [h] at e; cases e
  exact hu k
theorem RS.free (r : RS K μ H S) {p : Addr} (h : H p = none) : p ∉ μ := fun m => by
  obtain ⟨vs, e, _⟩ := r.mem m
  rw [h] at e; cases e
theorem mu_frz {o : Obj} {u : HO} : ¬ Mu (.frz o u) := by
  rintro (⟨vs, h⟩ | ⟨a, C, dx, vs, h⟩)
  · cases h
  · unfold SlX.SlO at h; cases h
theorem mu_tup {xs : List V} : ¬ Mu (.tup xs) := by
  rintro (⟨vs, h⟩ | ⟨a, C, dx, vs, h⟩)
  · cases h
  · unfold SlX.SlO at h; cases h
theorem mu_xd {fs : List (Str × V)} : ¬ Mu (.xd fs) := by
  rintro (⟨vs, h⟩ | ⟨a, C, dx, vs, h⟩)
  · cases h
  · unfold SlX.SlO at h; cases h
theorem Ext.rd {u : HO} (x : Ext μ H μ' H') (r : RS K μ H S) {a : Addr} (hu : ¬ Mu u) (h : Rd H a u) : Rd H' a u := by
  rcases h with h | ⟨o, h⟩
  · exact .inl (x.keep a _ h (r.out h hu)).1
  · exact .inr ⟨o, (x.keep a _ h (r.out h mu_frz)).1⟩
theorem Ext.sqT (x : Ext μ H μ' H') (r : RS K μ H S) {a : Addr} {vs : List V} (h : SqT K H a vs) : SqT K H' a vs := by
  rcases h with h | h
  · exact .inl (x.rd r mu_tup h)
  · exact .inr h
theorem Ext.sqR (x : Ext μ H μ' H') (r : RS K μ H S) {a : Addr} {vs : List V} (h : SqR K H a vs) : SqR K H' a vs := by
  rcases h with ⟨o, h⟩ | h
  · exact .inl ⟨o, (x.keep a _ h (r.out h mu_frz)).1⟩
  · exact .inr h
theorem get_pre {t : List Addr} {n : Nat} {a : Addr} (h : μ[n]? = some a) : (μ ++ t)[n]? = some a := by
  have hl : n < μ.length := (List.getElem?_eq_some_iff.mp h).1
  rw [List.getElem?_append_left hl]; exact h
mutual
theorem RV.mono' (hT : ∀ a vs, SqT K H a vs → SqT K H' a vs) (hR : ∀ a vs, SqR K H a vs → SqR K H' a vs) (hp : ∃ t, μ' = μ ++ t) : ∀ (d : D) (v : V), RV K μ H d v → RV K μ' H' d v
  | .non, _, h => by unfold RV at *; exact h
  | .bl _, _, h => by unfold RV at *; exact h
  | .int _, _, h => by unfold RV at *; exact h
  | .str _, _, h => by unfold RV at *; exact h
  | .tup ds, v, h => by
    unfold RV at *
    obtain ⟨a, vs, e, hs, hv⟩ := h
    exact ⟨a, vs, e, hT _ _ hs, RVs.mono' hT hR hp ds vs hv⟩
  | .rol ds, v, h => by
    unfold RV at *
    obtain ⟨a, vs, e, hs, hv⟩ := h
    exact ⟨a, vs, e, hR _ _ hs, RVs.mono' hT hR hp ds vs hv⟩
  | .ref n, v, h => by
    unfold RV at *
    obtain ⟨a, e, hn⟩ := h
    obtain ⟨t, rfl⟩ := hp
    exact ⟨a, e, get_pre hn⟩
theorem RVs.mono' (hT : ∀ a vs, SqT K H a vs → SqT K H' a vs) (hR : ∀ a vs, SqR K H a vs → SqR K H' a vs) (hp : ∃ t, μ' = μ ++ t) : ∀ (ds : List D) (vs : List V), RVs K μ H ds vs → RVs K μ' H' ds vs
  | [], _, h => by unfold RVs at *; exact h
  | d :: ds, vs, h => by
    unfold RVs at *
    obtain ⟨v, r', e, h1, h2⟩ := h
    exact ⟨v, r', e, RV.mono' hT hR hp d v h1, RVs.mono' hT hR hp ds r' h2⟩
end
theorem RV.mono (x : Ext μ H μ' H') (r : RS K μ H S) (d : D) (v : V) (h : RV K μ H d v) : RV K μ' H' d v := RV.mono' (fun _ _ => x.sqT r) (fun _ _ => x.sqR r) x.pre d v h
theorem RVs.mono (x : Ext μ H μ' H') (r : RS K μ H S) (ds : List D) (vs : List V) (h : RVs K μ H ds vs) : RVs K μ' H' ds vs := RVs.mono' (fun _ _ => x.sqT r) (fun _ _ => x.sqR r) x.pre ds vs h
end

/-! ### lists of values -/
section
variable {K : PySem.W.Frag} {μ μ' : List Addr} {H H' : Hp} {S : Store}
theorem RVs.nil_ : RVs K μ H [] [] := by unfold RVs; rfl
theorem RVs.cons_ {d : D} {v : V} {ds : List D} {vs : List V} (h : RV K μ H d v) (t : RVs K μ H ds vs) : RVs K μ H (d :: ds) (v :: vs) := by
  unfold RVs; exact ⟨v, vs, rfl, h, t⟩
theorem RVs.inv {d : D} {ds : List D} {vs : List V} (h : RVs K μ H (d :: ds) vs) : ∃ v r, vs = v :: r ∧ RV K μ H d v ∧ RVs K μ H ds r := by
  unfold RVs at h; exact h
theorem RVs.inv0 {vs : List V} (h : RVs K μ H [] vs) : vs = [] := by
  unfold RVs at h; exact h
theorem RVs.length : ∀ {ds : List D} {vs : List V}, RVs K μ H ds vs → vs.length = ds.length
  | [], _, h => by rw [h.inv0]; rfl
  | d :: ds, _, h => by
    obtain ⟨v, r, e, _, t⟩ := h.inv
    rw [e, List.length_cons, List.length_cons, RVs.length t]
theorem RVs.get : ∀ {ds : List D} {vs : List V} {i : Nat} {d : D}, RVs K μ H ds vs → ds[i]? = some d → ∃ v, vs[i]? = some v ∧ RV K μ H d v
  | [], _, _, _, _, e => by simp at e
  | c :: ds, _, 0, d, h, e => by
    obtain ⟨v, r, rfl, hv, _⟩ := h.inv
    simp at e; subst e
    exact ⟨v, rfl, hv⟩
  | c :: ds, _, i + 1, d, h, e => by
    obtain ⟨v, r, rfl, _, t⟩ := h.inv
    obtain ⟨v', e', h'⟩ := RVs.get (i := i) (d := d) t (by simpa using e)
    exact ⟨v', by simpa using e', h'⟩
theorem RVs.get' : ∀ {ds : List D} {vs : List V} {i : Nat} {v : V}, RVs K μ H ds vs → vs[i]? = some v → ∃ d, ds[i]? = some d ∧ RV K μ H d v := fun {ds vs i v} h e => by
  have hl : i < vs.length := (List.getElem?_eq_some_iff.mp e).1
  rw [h.length] at hl
  obtain ⟨v', e', h'⟩ := h.get (List.getElem?_eq_getElem hl)
  rw [e] at e'; cases e'
  exact ⟨_, List.getElem?_eq_getElem hl, h'⟩
theorem RVs.append : ∀ {ds es : List D} {vs ws : List V}, RVs K μ H ds vs → RVs K μ H es ws → RVs K μ H (ds ++ es) (vs ++ ws)
  | [], _, _, _, h, k => by rw [h.inv0]; exact k
  | d :: ds, es, _, ws, h, k => by
    obtain ⟨v, r, rfl, hv, t⟩ := h.inv
    exact .cons_ hv (RVs.append t k)
theorem RVs.take : ∀ {ds : List D} {vs : List V} (n : Nat), RVs K μ H ds vs → RVs K μ H (ds.take n) (vs.take n)
  | _, _, 0, _ => by simp; exact .nil_
  | [], _, n + 1, h => by rw [h.inv0]; exact .nil_
  | d :: ds, _, n + 1, h => by
    obtain ⟨v, r, rfl, hv, t⟩ := h.inv
    exact .cons_ hv (RVs.take n t)
theorem RVs.drop : ∀ {ds : List D} {vs : List V} (n : Nat), RVs K μ H ds vs → RVs K μ H (ds.drop n) (vs.drop n)
  | _, _, 0, h => h
  | [], _, n + 1, h => by rw [h.inv0]; exact .nil_
  | d :: ds, _, n + 1, h => by
    obtain ⟨v, r, rfl, hv, t⟩ := h.inv
    exact RVs.drop n t
theorem RVs.set : ∀ {ds : List D} {vs : List V} {d : D} {v : V} (n : Nat), RVs K μ H ds vs → RV K μ H d v → RVs K μ H (ds.set n d) (vs.set n v)
  | [], _, _, _, _, h, _ => by rw [h.inv0]; exact .nil_
  | c :: ds, _, d, v, 0, h, k => by
    obtain ⟨v', r, rfl, hv, t⟩ := h.inv
    exact .cons_ k t
  | c :: ds, _, d, v, n + 1, h, k => by
    obtain ⟨v', r, rfl, hv, t⟩ := h.inv
    exact .cons_ hv (RVs.set n t k)
theorem RVs.eraseIdx : ∀ {ds : List D} {vs : List V} (n : Nat), RVs K μ H ds vs → RVs K μ H (ds.eraseIdx n) (vs.eraseIdx n)
  | [], _, _, h => by rw [h.inv0]; exact .nil_
  | c :: ds, _, 0, h => by
    obtain ⟨v', r, rfl, hv, t⟩ := h.inv
    exact t
  | c :: ds, _, n + 1, h => by
    obtain ⟨v', r, rfl, hv, t⟩ := h.inv
    exact .cons_ hv (RVs.eraseIdx n t)
theorem RVs.dropLast : ∀ {ds : List D} {vs : List V}, RVs K μ H ds vs → RVs K μ H ds.dropLast vs.dropLast := fun {ds vs} h => by
  rw [List.dropLast_eq_take, List.dropLast_eq_take, h.length]
  exact h.take _
theorem RVs.rep {ds : List D} {vs : List V} (h : RVs K μ H ds vs) : ∀ k : Nat, RVs K μ H (List.replicate k ds).flatten (List.replicate k vs).flatten
  | 0 => .nil_
  | k + 1 => by
    rw [List.replicate_succ, List.replicate_succ, List.flatten_cons, List.flatten_cons]
    exact h.append (RVs.rep h k)
theorem RVs.cut {ds : List D} {vs : List V} (h : RVs K μ H ds vs) (lo hi : Option Int) : RVs K μ H (cutL ds lo hi) (cutV vs lo hi) := by
  unfold cutL cutV
  rw [h.length]
  exact (h.drop _).take _
theorem RVs.nil_iff {ds : List D} {vs : List V} (h : RVs K μ H ds vs) : vs = [] ↔ ds = [] := by
  have e := h.length
  constructor
  · rintro rfl
    exact List.length_eq_zero_iff.mp e.symm
  · rintro rfl
    exact List.length_eq_zero_iff.mp e
theorem RVs.empty {ds : List D} {vs : List V} (h : RVs K μ H ds vs) : vs.isEmpty = ds.isEmpty := by
  cases ds with
  | nil => rw [h.inv0]; rfl
  | cons d r =>
    obtain ⟨v, r', rfl, _⟩ := h.inv
    rfl
theorem RVs.atI {ds : List D} {vs : List V} {i : Int} {d : D} (h : RVs K μ H ds vs) (e : atI ds i = some d) : ∃ v, L2.atI vs i = some v ∧ RV K μ H d v := by
  unfold L2.atI at *
  rw [h.length]
  cases q : ixN ds.length i with
  | none => rw [q] at e; cases e
  | some j =>
    rw [q] at e
    exact h.get e
theorem RVs.ints : ∀ {ds : List D} {vs : List V} {ns : List Int}, RVs K μ H ds vs → intsOf ds = some ns → vs = ns.map V.int
  | [], _, _, h, e => by
    unfold intsOf at e; cases e
    rw [h.inv0]; rfl
  | d :: ds, _, ns, h, e => by
    obtain ⟨v, r, rfl, hv, t⟩ := h.inv
    cases d with
    | int i =>
      unfold intsOf at e
      cases q : intsOf ds with
      | none => rw [q] at e; cases e
      | some ms =>
        rw [q] at e; cases e
        unfold RV at hv
        rw [hv, RVs.ints t q]; rfl
    | _ => unfold intsOf at e; cases e
theorem RVs.bls : ∀ {ds : List D} {vs : List V} {ns : List Bool}, RVs K μ H ds vs → blsOf ds = some ns → vs = ns.map V.bl
  | [], _, _, h, e => by
    unfold blsOf at e; cases e
    rw [h.inv0]; rfl
  | d :: ds, _, ns, h, e => by
    obtain ⟨v, r, rfl, hv, t⟩ := h.inv
    cases d with
    | bl i =>
      unfold blsOf at e
      cases q : blsOf ds with
      | none => rw [q] at e; cases e
      | some ms =>
        rw [q] at e; cases e
        unfold RV at hv
        rw [hv, RVs.bls t q]; rfl
    | _ => unfold blsOf at e; cases e
theorem RVs.strs : ∀ {ds : List D} {vs : List V} {ns : List Str}, RVs K μ H ds vs → strsOf ds = some ns → vs = ns.map V.str
  | [], _, _, h, e => by
    unfold strsOf at e; cases e
    rw [h.inv0]; rfl
  | d :: ds, _, ns, h, e => by
    obtain ⟨v, r, rfl, hv, t⟩ := h.inv
    cases d with
    | str i =>
      unfold strsOf at e
      cases q : strsOf ds with
      | none => rw [q] at e; cases e
      | some ms =>
        rw [q] at e; cases e
        unfold RV at hv
        rw [hv, RVs.strs t q]; rfl
    | _ => unfold strsOf at e; cases e
theorem RV.int_ {i : Int} {v : V} (h : RV K μ H (.int i) v) : v = .int i := by unfold RV at h; exact h
theorem RV.bl_ {i : Bool} {v : V} (h : RV K μ H (.bl i) v) : v = .bl i := by unfold RV at h; exact h
theorem RV.str_ {i : Str} {v : V} (h : RV K μ H (.str i) v) : v = .str i := by unfold RV at h; exact h
theorem RV.non_ {v : V} (h : RV K μ H .non v) : v = .non := by unfold RV at h; exact h
theorem RV.tup_ {ds : List D} {v : V} (h : RV K μ H (.tup ds) v) : ∃ a vs, v = .ref a ∧ SqT K H a vs ∧ RVs K μ H ds vs := by unfold RV at h; exact h
theorem RV.rol_ {ds : List D} {v : V} (h : RV K μ H (.rol ds) v) : ∃ a vs, v = .ref a ∧ SqR K H a vs ∧ RVs K μ H ds vs := by unfold RV at h; exact h
theorem RV.ref_ {n : Nat} {v : V} (h : RV K μ H (.ref n) v) : ∃ a, v = .ref a ∧ μ[n]? = some a := by unfold RV at h; exact h
theorem RV.int {i : Int} : RV K μ H (.int i) (.int i) := by unfold RV; rfl
theorem RV.bl {i : Bool} : RV K μ H (.bl i) (.bl i) := by unfold RV; rfl
theorem RV.str {i : Str} : RV K μ H (.str i) (.str i) := by unfold RV; rfl
theorem RV.non : RV K μ H .non .non := by unfold RV; rfl
theorem RV.tup {ds : List D} {a : Addr} {vs : List V} (h : SqT K H a vs) (r : RVs K μ H ds vs) : RV K μ H (.tup ds) (.ref a) := by unfold RV; exact ⟨a, vs, rfl, h, r⟩
theorem RV.ref {n : Nat} {a : Addr} (h : μ[n]? = some a) : RV K μ H (.ref n) (.ref a) := by unfold RV; exact ⟨a, rfl, h⟩
/-- a list in the store -/
theorem RS.lst (r : RS K μ H S) {n : Nat} {v : V} {xs : List D} (h : RV K μ H (.ref n) v) (e : S[n]? = some (SO.lst xs)) : ∃ a vs, v = .ref a ∧ μ[n]? = some a ∧ H a = some (.lst vs) ∧ RVs K μ H xs vs := by
  obtain ⟨a, rfl, ha⟩ := h.ref_
  obtain ⟨b, vs, h1, h2, h3⟩ := r.at_ n xs e
  rw [ha] at h1; cases h1
  exact ⟨a, vs, rfl, ha, h2, h3⟩
/-- the items of a tuple or a list -/
theorem RS.sq (r : RS K μ H S) {d : D} {v : V} {xs : List D} (h : RV K μ H d v) (e : Cw.sq S d = some xs) : ∃ a vs, v = .ref a ∧ (SqL K H a vs ∨ SqT K H a vs) ∧ RVs K μ H xs vs ∧ (isSeqL d = true → SqL K H a vs) ∧ (isTup d = true → SqT K H a vs) := by
  cases d with
  | tup ds =>
    unfold Cw.sq at e; cases e
    obtain ⟨a, vs, rfl, hs, hv⟩ := h.tup_
    exact ⟨a, vs, rfl, .inr hs, hv, (fun z => by cases z), fun _ => hs⟩
  | rol ds =>
    unfold Cw.sq at e; cases e
    obtain ⟨a, vs, rfl, hs, hv⟩ := h.rol_
    exact ⟨a, vs, rfl, .inl hs.sq, hv, (fun _ => hs.sq), fun z => by cases z⟩
  | ref n =>
    cases q : S[n]? with
    | none => simp [Cw.sq, q] at e
    | some o =>
      cases o with
      | lst ys =>
        simp [Cw.sq, q] at e
        subst e
        obtain ⟨a, vs, rfl, _, hs, hv⟩ := r.lst h q
        exact ⟨a, vs, rfl, .inl (.of hs), hv, (fun _ => .of hs), fun z => by cases z⟩
      | ins c fs => simp [Cw.sq, q] at e
  | _ => unfold Cw.sq at e; cases e

/-! ### new and changed -/
theorem Ext.new (r : RS K μ H S) {p : Addr} {o : HO} (h : H p = none) : Ext μ H μ (upd H p o) :=
  ⟨⟨[], by simp⟩, fun b u e n => ⟨by rw [upd_ne (ne_of_none e h)]; exact e, n⟩⟩
theorem RFs.mono (x : Ext μ H μ' H') (r : RS K μ H S) {fs : List (Option D)} {vs : List (Option V)} (h : RFs K μ H fs vs) : RFs K μ' H' fs vs := fun i d e =>
  let ⟨v, e1, e2⟩ := h i d e; ⟨v, e1, RV.mono x r d v e2⟩
theorem RS.in_mono (r : RS K μ H S) (x : Ext μ H μ' H') {n : Nat} {c : Str} {fs : List (Option D)} (e : S[n]? = some (SO.ins c fs)) :
    ∃ a C dx vs, μ[n]? = some a ∧ μ'[n]? = some a ∧ ClsAt K c C ∧ dx ≠ a ∧ H a = some (SlX.SlO a C dx vs) ∧ H' dx = some (.xd []) ∧ RFs K μ' H' fs vs := by
  obtain ⟨a, C, dx, vs, h1, h2, h3, h4, h5, h6⟩ := r.in_ n c fs e
  obtain ⟨t, rfl⟩ := x.pre
  exact ⟨a, C, dx, vs, h1, get_pre h1, h2, h3, h4, (x.keep dx _ h5 (r.out h5 mu_xd)).1, h6.mono x r⟩
theorem RS.ext (r : RS K μ H S) (x : Ext μ H μ H') (k : ∀ a u, a ∈ μ → H a = some u → H' a = some u) : RS K μ H' S :=
  ⟨r.len, r.nd, fun n xs e => by
    obtain ⟨a, vs, h1, h2, h3⟩ := r.at_ n xs e
    exact ⟨a, vs, h1, k a _ (List.mem_of_getElem? h1) h2, RVs.mono x r _ _ h3⟩, fun n c fs e => by
    obtain ⟨a, C, dx, vs, h1, _, h2, h3, h4, h5, h6⟩ := r.in_mono x e
    exact ⟨a, C, dx, vs, h1, h2, h3, k a _ (List.mem_of_getElem? h1) h4, h5, h6⟩⟩
theorem RS.new (r : RS K μ H S) {p : Addr} {o : HO} (h : H p = none) : RS K μ (upd H p o) S :=
  r.ext (Ext.new r h) fun a u _ e => by rw [upd_ne (ne_of_none e h)]; exact e
theorem slot_lt {n : Nat} {x y : SO} (e : (S ++ [x])[n]? = some y) (hn : ¬ n < S.length) : n = S.length ∧ x = y := by
  have h1 : n < (S ++ [x]).length := (List.getElem?_eq_some_iff.mp e).1
  have h2 : n = S.length := by simp at h1; omega
  subst h2
  simp at e
  exact ⟨rfl, e⟩
theorem mu_inj (r : RS K μ H S) {a : Addr} {m n : Nat} (h1 : μ[m]? = some a) (h2 : μ[n]? = some a) : m = n := by
  obtain ⟨l1, e1⟩ := List.getElem?_eq_some_iff.mp h1
  obtain ⟨l2, e2⟩ := List.getElem?_eq_some_iff.mp h2
  exact (List.getElem_inj r.nd).mp (e1.trans e2.symm)
theorem nd_new (r : RS K μ H S) {p : Addr} (h : p ∉ μ) : (μ ++ [p]).Nodup := by
  rw [List.nodup_append]
  refine ⟨r.nd, by simp, fun a ha b hb => ?_⟩
  have e : b = p := by simpa using hb
  subst e
  intro z
  subst z
  exact h ha
/-- a new tuple -/
theorem RS.newTup (r : RS K μ H S) {p : Addr} {ds : List D} {vs : List V} (h : H p = none) (hv : RVs K μ H ds vs) : Ext μ H μ (upd H p (.tup vs)) ∧ RS K μ (upd H p (.tup vs)) S ∧ RV K μ (upd H p (.tup vs)) (.tup ds) (.ref p) :=
  ⟨Ext.new r h, r.new h, .tup (.of upd_same) (RVs.mono (Ext.new r h) r _ _ hv)⟩
/-- a new list of the store -/
theorem Ext.newL (r : RS K μ H S) {p : Addr} {o : HO} (h : H p = none) : Ext μ H (μ ++ [p]) (upd H p o) :=
  ⟨⟨[p], rfl⟩, fun b u e n => ⟨by rw [upd_ne (ne_of_none e h)]; exact e, fun m => by
    rcases List.mem_append.mp m with m | m
    · exact n m
    · have e' : b = p := by simpa using m
      exact ne_of_none e h e'⟩⟩
theorem RS.newL (r : RS K μ H S) {p : Addr} {xs : List D} {vs : List V} (h : H p = none) (hv : RVs K μ H xs vs) : RS K (μ ++ [p]) (upd H p (.lst vs)) (S ++ [.lst xs]) := by
  have x : Ext μ H (μ ++ [p]) (upd H p (.lst vs)) := Ext.newL r h
  refine ⟨by simp [r.len], nd_new r (r.free h), fun n ys e => ?_, fun n c fs e => ?_⟩
  · by_cases hn : n < S.length
    · rw [List.getElem?_append_left hn] at e
      obtain ⟨a, ws, h1, h2, h3⟩ := r.at_ n ys e
      exact ⟨a, ws, get_pre h1, by rw [upd_ne (ne_of_none h2 h)]; exact h2, RVs.mono x r _ _ h3⟩
    · obtain ⟨rfl, e'⟩ := slot_lt e hn
      cases e'
      exact ⟨p, vs, by rw [← r.len]; simp, upd_same, RVs.mono x r _ _ hv⟩
  · by_cases hn : n < S.length
    · rw [List.getElem?_append_left hn] at e
      obtain ⟨a, C, dx, ws, _, h1, h2, h3, h4, h5, h6⟩ := r.in_mono x e
      exact ⟨a, C, dx, ws, h1, h2, h3, by rw [upd_ne (ne_of_none h4 h)]; exact h4, h5, h6⟩
    · obtain ⟨rfl, e'⟩ := slot_lt e hn
      cases e'
theorem RS.newRef (r : RS K μ H S) {p : Addr} {xs : List D} {vs : List V} (h : H p = none) (hv : RVs K μ H xs vs) :
    Ext μ H (μ ++ [p]) (upd H p (.lst vs)) ∧ RS K (μ ++ [p]) (upd H p (.lst vs)) (S ++ [.lst xs]) ∧ RV K (μ ++ [p]) (upd H p (.lst vs)) (.ref S.length) (.ref p) :=
  ⟨Ext.newL r h, r.newL h hv, .ref (by rw [← r.len]; simp)⟩
/-- a list of the store is changed -/
theorem Ext.at (r : RS K μ H S) {a : Addr} {u : HO} (hm : a ∈ μ) : Ext μ H μ (L2.upd H a u) := ⟨⟨[], by simp⟩, fun b u e nb => ⟨by rw [upd_ne (fun z => nb (by rw [z]; exact hm))]; exact e, nb⟩⟩
theorem RS.upd (r : RS K μ H S) {n : Nat} {a : Addr} {xs : List D} {vs : List V} (ha : μ[n]? = some a) (hv : RVs K μ H xs vs) : Ext μ H μ (upd H a (.lst vs)) ∧ RS K μ (upd H a (.lst vs)) (S.set n (.lst xs)) := by
  have hm : a ∈ μ := List.mem_of_getElem? ha
  have x : Ext μ H μ (L2.upd H a (.lst vs)) := Ext.at r hm
  have hl : n < S.length := by rw [← r.len]; exact (List.getElem?_eq_some_iff.mp ha).1
  refine ⟨x, by simp [r.len], r.nd, fun m ys e => ?_, fun m c fs e => ?_⟩
  · by_cases hmn : m = n
    · subst hmn
      rw [List.getElem?_set_self hl] at e
      cases e
      exact ⟨a, vs, ha, upd_same, RVs.mono x r _ _ hv⟩
    · rw [List.getElem?_set_ne (Ne.symm hmn)] at e
      obtain ⟨b, ws, h1, h2, h3⟩ := r.at_ m ys e
      have hb : b ≠ a := fun z => by subst z; exact hmn (mu_inj r h1 ha)
      exact ⟨b, ws, h1, by rw [upd_ne hb]; exact h2, RVs.mono x r _ _ h3⟩
  · by_cases hmn : m = n
    · subst hmn
      rw [List.getElem?_set_self hl] at e
      cases e
    · rw [List.getElem?_set_ne (Ne.symm hmn)] at e
      obtain ⟨b, C, dx, ws, h0, h1, h2, h3, h4, h5, h6⟩ := r.in_mono x e
      have hb : b ≠ a := fun z => by subst z; exact hmn (mu_inj r h0 ha)
      exact ⟨b, C, dx, ws, h1, h2, h3, by rw [upd_ne hb]; exact h4, h5, h6⟩
/-- an instance of the store -/
theorem RS.ins (r : RS K μ H S) {n : Nat} {v : V} {c : Str} {fs : List (Option D)} (h : RV K μ H (.ref n) v) (e : S[n]? = some (SO.ins c fs)) : ∃ a C dx vs, v = .ref a ∧ μ[n]? = some a ∧ ClsAt K c C ∧ dx ≠ a ∧ H a = some (SlX.SlO a C dx vs) ∧ H dx = some (.xd []) ∧ RFs K μ H fs vs := by
  obtain ⟨a, rfl, ha⟩ := h.ref_
  obtain ⟨b, C, dx, vs, h1, h2⟩ := r.in_ n c fs e
  rw [ha] at h1; cases h1
  exact ⟨a, C, dx, vs, rfl, ha, h2⟩
theorem slH_one {a C dx : Addr} {vs : List (Option V)} (h : H dx = some (.xd [])) (hd : dx ≠ a) : SlX.slH H a C dx vs = L2.upd H a (SlX.SlO a C dx vs) := by
  funext b
  unfold SlX.slH
  by_cases h1 : b = a
  · subst h1; rw [upd_same, upd_same]
  · rw [upd_ne h1, upd_ne h1]
    by_cases h2 : b = dx
    · subst h2; rw [upd_same, h]
    · rw [upd_ne h2]
theorem putD_get {i j : Nat} {d e : D} {fs : List (Option D)} (h : (putD i d fs)[j]? = some (some e)) : (j = i ∧ e = d) ∨ (j ≠ i ∧ fs[j]? = some (some e)) := by
  unfold putD at h
  by_cases q : j = i
  · subst q
    left
    rw [List.getElem?_set_self (by
      have := (List.getElem?_eq_some_iff.mp h).1
      simpa using this)] at h
    cases h
    exact ⟨rfl, rfl⟩
  · right
    refine ⟨q, ?_⟩
    rw [List.getElem?_set_ne (Ne.symm q)] at h
    by_cases hl : j < fs.length
    · rw [List.getElem?_append_left hl] at h; exact h
    · rw [List.getElem?_append_right (by omega), List.getElem?_replicate] at h
      split at h <;> cases h
theorem RFs.put {fs : List (Option D)} {vs : List (Option V)} (h : RFs K μ H fs vs) {i : Nat} {d : D} {v : V} (k : RV K μ H d v) : RFs K μ H (putD i d fs) (SlX.putS i v vs) := fun j e hj => by
  rcases putD_get hj with ⟨rfl, rfl⟩ | ⟨q, hj⟩
  · exact ⟨v, SlX.putS_get _ _ _, k⟩
  · obtain ⟨w, e1, e2⟩ := h j e hj
    exact ⟨w, (SlX.putS_ne q).mpr e1, e2⟩
/-- a slot of an instance is written -/
theorem RS.putI (r : RS K μ H S) {n : Nat} {a C dx : Addr} {c : Str} {fs : List (Option D)} {vs : List (Option V)} {i : Nat} {d : D} {v : V} (ha : μ[n]? = some a) (hc : ClsAt K c C) (hd : dx ≠ a) (hx : H dx = some (.xd [])) (hf : RFs K μ H fs vs) (hv : RV K μ H d v) :
    Ext μ H μ (SlX.slH H a C dx (SlX.putS i v vs)) ∧ RS K μ (SlX.slH H a C dx (SlX.putS i v vs)) (S.set n (.ins c (putD i d fs))) := by
  rw [slH_one hx hd]
  have hm : a ∈ μ := List.mem_of_getElem? ha
  have x : Ext μ H μ (L2.upd H a (SlX.SlO a C dx (SlX.putS i v vs))) := Ext.at r hm
  have hl : n < S.length := by rw [← r.len]; exact (List.getElem?_eq_some_iff.mp ha).1
  refine ⟨x, by simp [r.len], r.nd, fun m ys e => ?_, fun m c' gs e => ?_⟩
  · by_cases hmn : m = n
    · subst hmn
      rw [List.getElem?_set_self hl] at e
      cases e
    · rw [List.getElem?_set_ne (Ne.symm hmn)] at e
      obtain ⟨b, ws, h1, h2, h3⟩ := r.at_ m ys e
      have hb : b ≠ a := fun z => by subst z; exact hmn (mu_inj r h1 ha)
      exact ⟨b, ws, h1, by rw [upd_ne hb]; exact h2, RVs.mono x r _ _ h3⟩
  · by_cases hmn : m = n
    · subst hmn
      rw [List.getElem?_set_self hl] at e
      cases e
      exact ⟨a, C, dx, _, ha, hc, hd, upd_same, by rw [upd_ne hd]; exact hx, RFs.mono x r (hf.put hv)⟩
    · rw [List.getElem?_set_ne (Ne.symm hmn)] at e
      obtain ⟨b, C', dx', ws, h0, h1, h2, h3, h4, h5, h6⟩ := r.in_mono x e
      have hb : b ≠ a := fun z => by subst z; exact hmn (mu_inj r h0 ha)
      exact ⟨b, C', dx', ws, h1, h2, h3, by rw [upd_ne hb]; exact h4, h5, h6⟩
/-- a new instance -/
theorem RS.newI (r : RS K μ H S) {x C dx : Addr} {c : Str} (hc : ClsAt K c C) (h1 : H x = none) (h2 : H dx = none) (hd : dx ≠ x) :
    Ext μ H (μ ++ [x]) (L2.upd (L2.upd H dx (.xd [])) x (SlX.SlO x C dx [])) ∧ RS K (μ ++ [x]) (L2.upd (L2.upd H dx (.xd [])) x (SlX.SlO x C dx [])) (S ++ [.ins c []]) ∧ RV K (μ ++ [x]) (L2.upd (L2.upd H dx (.xd [])) x (SlX.SlO x C dx [])) (.ref S.length) (.ref x) := by
  have k : ∀ b u, H b = some u → L2.upd (L2.upd H dx (.xd [])) x (SlX.SlO x C dx []) b = some u := fun b u e => by
    rw [upd_ne (ne_of_none e h1), upd_ne (ne_of_none e h2)]; exact e
  have X : Ext μ H (μ ++ [x]) (L2.upd (L2.upd H dx (.xd [])) x (SlX.SlO x C dx [])) := ⟨⟨[x], rfl⟩, fun b u e n => ⟨k b u e, fun m => by
    rcases List.mem_append.mp m with m | m
    · exact n m
    · have e' : b = x := by simpa using m
      exact ne_of_none e h1 e'⟩⟩
  refine ⟨X, ⟨by simp [r.len], nd_new r (r.free h1), fun n ys e => ?_, fun n c' fs e => ?_⟩, .ref (by rw [← r.len]; simp)⟩
  · by_cases hn : n < S.length
    · rw [List.getElem?_append_left hn] at e
      obtain ⟨a, ws, g1, g2, g3⟩ := r.at_ n ys e
      exact ⟨a, ws, get_pre g1, k _ _ g2, RVs.mono X r _ _ g3⟩
    · obtain ⟨rfl, e'⟩ := slot_lt e hn
      cases e'
  · by_cases hn : n < S.length
    · rw [List.getElem?_append_left hn] at e
      obtain ⟨a, C', dx', ws, _, g1, g2, g3, g4, g5, g6⟩ := r.in_mono X e
      exact ⟨a, C', dx', ws, g1, g2, g3, k _ _ g4, g5, g6⟩
    · obtain ⟨rfl, e'⟩ := slot_lt e hn
      cases e'
      exact ⟨x, C, dx, [], by rw [← r.len]; simp, hc, hd, upd_same, by rw [upd_ne hd, upd_same], fun i d e => by simp at e⟩

/-- a tracked list that is no store's is changed -/
theorem sqT_own {a D : Addr} {vs ws zs : List V} (hD : H D = some (.lst ws)) (h : SqT K H a vs) : SqT K (L2.upd H D (.lst zs)) a vs := by
  rcases h with (h | ⟨o, h⟩) | h
  · refine .inl (.inl ?_)
    rw [upd_ne (fun e => by subst e; rw [hD] at h; cases h)]; exact h
  · refine .inl (.inr ⟨o, ?_⟩)
    rw [upd_ne (fun e => by subst e; rw [hD] at h; cases h)]; exact h
  · exact .inr h
theorem sqR_own {a D : Addr} {vs ws zs : List V} (hD : H D = some (.lst ws)) (h : SqR K H a vs) : SqR K (L2.upd H D (.lst zs)) a vs := by
  rcases h with ⟨o, h⟩ | h
  · refine .inl ⟨o, ?_⟩
    rw [upd_ne (fun e => by subst e; rw [hD] at h; cases h)]; exact h
  · exact .inr h
theorem RVs.own {D : Addr} {ws zs : List V} {ds : List Cw.D} {vs : List V} (hD : H D = some (.lst ws)) (h : RVs K μ H ds vs) : RVs K μ (L2.upd H D (.lst zs)) ds vs := RVs.mono' (fun _ _ => sqT_own hD) (fun _ _ => sqR_own hD) ⟨[], by simp⟩ ds vs h
theorem RV.own {D : Addr} {ws zs : List V} {d : Cw.D} {v : V} (hD : H D = some (.lst ws)) (h : RV K μ H d v) : RV K μ (L2.upd H D (.lst zs)) d v := RV.mono' (fun _ _ => sqT_own hD) (fun _ _ => sqR_own hD) ⟨[], by simp⟩ d v h
theorem RS.own (r : RS K μ H S) {D : Addr} {ws zs : List V} (hD : H D = some (.lst ws)) (n : D ∉ μ) : RS K μ (L2.upd H D (.lst zs)) S :=
  ⟨r.len, r.nd, fun m xs e => by
    obtain ⟨a, vs, h1, h2, h3⟩ := r.at_ m xs e
    exact ⟨a, vs, h1, by rw [upd_ne (fun z => n (by rw [← z]; exact List.mem_of_getElem? h1))]; exact h2, h3.own hD⟩, fun m c fs e => by
    obtain ⟨a, C, dx, vs, h1, h2, h3, h4, h5, h6⟩ := r.in_ m c fs e
    exact ⟨a, C, dx, vs, h1, h2, h3, by rw [upd_ne (fun z => n (by rw [← z]; exact List.mem_of_getElem? h1))]; exact h4, by
      rw [upd_ne (fun z => by rw [z, hD] at h5; cases h5)]; exact h5, fun i d e => let ⟨v, e1, e2⟩ := h6 i d e; ⟨v, e1, e2.own hD⟩⟩⟩
/-- a tracked list comes to the store -/
theorem RS.addL (r : RS K μ H S) {p : Addr} {xs : List Cw.D} {vs : List V} (h : H p = some (.lst vs)) (n : p ∉ μ) (hv : RVs K μ H xs vs) : RS K (μ ++ [p]) H (S ++ [.lst xs]) ∧ RV K (μ ++ [p]) H (.ref S.length) (.ref p) := by
  have up : ∀ ds ws, RVs K μ H ds ws → RVs K (μ ++ [p]) H ds ws := fun ds ws q => RVs.mono' (fun _ _ z => z) (fun _ _ z => z) ⟨[p], rfl⟩ ds ws q
  have up1 : ∀ d w, RV K μ H d w → RV K (μ ++ [p]) H d w := fun d w q => RV.mono' (fun _ _ z => z) (fun _ _ z => z) ⟨[p], rfl⟩ d w q
  refine ⟨⟨by simp [r.len], nd_new r n, fun m ys e => ?_, fun m c fs e => ?_⟩, .ref (by rw [← r.len]; simp)⟩
  · by_cases hn : m < S.length
    · rw [List.getElem?_append_left hn] at e
      obtain ⟨a, ws, h1, h2, h3⟩ := r.at_ m ys e
      exact ⟨a, ws, get_pre h1, h2, up _ _ h3⟩
    · obtain ⟨rfl, e'⟩ := slot_lt e hn
      cases e'
      exact ⟨p, vs, by rw [← r.len]; simp, h, up _ _ hv⟩
  · by_cases hn : m < S.length
    · rw [List.getElem?_append_left hn] at e
      obtain ⟨a, C, dx, ws, h1, h2, h3, h4, h5, h6⟩ := r.in_ m c fs e
      exact ⟨a, C, dx, ws, get_pre h1, h2, h3, h4, h5, fun i d e => let ⟨v, e1, e2⟩ := h6 i d e; ⟨v, e1, up1 _ _ e2⟩⟩
    · obtain ⟨rfl, e'⟩ := slot_lt e hn
      cases e'

/-! ### deep data -/
theorem mapO_dp {f : D → Option PyData} (hf : ∀ d v p, f d = some p → RV K μ H d v → Dp K H v p) : ∀ (ds : List D) (vs : List V) (ps : List PyData), mapO f ds = some ps → RVs K μ H ds vs → DpAll K H vs ps
  | [], vs, ps, e, h => by
    simp only [mapO, Option.some.injEq] at e; subst e
    rw [h.inv0]; exact .nil
  | d :: ds, vs, ps, e, h => by
    obtain ⟨v, r', rfl, hv, ht⟩ := h.inv
    simp only [mapO] at e
    cases q : f d with
    | none => rw [q] at e; cases e
    | some p =>
      rw [q] at e
      dsimp only at e
      cases q2 : mapO f ds with
      | none => rw [q2] at e; cases e
      | some ps' =>
        rw [q2] at e; cases e
        exact .cons (hf d v p q hv) (mapO_dp hf ds r' ps' q2 ht)
theorem toPy_dp (r : RS K μ H S) : ∀ (k : Nat) (d : D) (v : V) (p : PyData), toPy S k d = some p → RV K μ H d v → Dp K H v p
  | 0, _, _, _, e, _ => by simp [toPy] at e
  | k + 1, .non, v, p, e, h => by simp [toPy] at e; subst e; rw [h.non_]; exact .non
  | k + 1, .bl b, v, p, e, h => by simp [toPy] at e; subst e; rw [h.bl_]; exact .bl b
  | k + 1, .int b, v, p, e, h => by simp [toPy] at e; subst e; rw [h.int_]; exact .int b
  | k + 1, .str b, v, p, e, h => by simp [toPy] at e; subst e; rw [h.str_]; exact .str b
  | k + 1, .tup xs, v, p, e, h => by
    simp only [toPy] at e
    cases q : mapO (toPy S k) xs with
    | none => rw [q] at e; cases e
    | some ps =>
      rw [q] at e; cases e
      obtain ⟨a, vs, rfl, hs, hv⟩ := h.tup_
      exact .tup hs (mapO_dp (toPy_dp r k) xs vs ps q hv)
  | k + 1, .rol xs, v, p, e, h => by
    simp only [toPy] at e
    cases q : mapO (toPy S k) xs with
    | none => rw [q] at e; cases e
    | some ps =>
      rw [q] at e; cases e
      obtain ⟨a, vs, rfl, hs, hv⟩ := h.rol_
      exact .lst hs.sq (mapO_dp (toPy_dp r k) xs vs ps q hv)
  | k + 1, .ref n, v, p, e, h => by
    simp only [toPy] at e
    cases q0 : S[n]? with
    | none => rw [q0] at e; cases e
    | some o =>
      cases o with
      | lst xs =>
        rw [q0] at e
        dsimp only at e
        cases q : mapO (toPy S k) xs with
        | none => rw [q] at e; cases e
        | some ps =>
          rw [q] at e; cases e
          obtain ⟨a, vs, rfl, _, hs, hv⟩ := r.lst h q0
          exact .lst (.of hs) (mapO_dp (toPy_dp r k) xs vs ps q hv)
      | ins c fs => rw [q0] at e; cases e
end

/-! ### slots -/
structure Rσ (K : PySem.W.Frag) (μ : List Addr) (H : Hp) (ρ : Env) (σ : L2.St) : Prop where
  len : ρ.length = σ.length
  at_ : ∀ (i : Nat) d, ρ[i]? = some (some d) → ∃ v, σ[i]? = some (some v) ∧ RV K μ H d v
section
variable {K : PySem.W.Frag} {μ μ' : List Addr} {H H' : Hp} {S : Store} {ρ : Env} {σ : L2.St}
theorem Rσ.mono' (h : Rσ K μ H ρ σ) (hT : ∀ a vs, SqT K H a vs → SqT K H' a vs) (hR : ∀ a vs, SqR K H a vs → SqR K H' a vs) (hp : ∃ t, μ' = μ ++ t) : Rσ K μ' H' ρ σ :=
  ⟨h.len, fun i d e => let ⟨v, e1, e2⟩ := h.at_ i d e; ⟨v, e1, RV.mono' hT hR hp d v e2⟩⟩
theorem Rσ.mono (h : Rσ K μ H ρ σ) (x : Ext μ H μ' H') (r : RS K μ H S) : Rσ K μ' H' ρ σ :=
  ⟨h.len, fun i d e => let ⟨v, e1, e2⟩ := h.at_ i d e; ⟨v, e1, RV.mono x r d v e2⟩⟩
theorem Rσ.set (h : Rσ K μ H ρ σ) {d : D} {v : V} (i : Nat) (k : RV K μ H d v) : Rσ K μ H (ρ.set i (some d)) (σ.set i (some v)) := by
  refine ⟨by simp [h.len], fun j e hj => ?_⟩
  by_cases q : j = i
  · subst q
    have hl : j < ρ.length := by
      have := (List.getElem?_eq_some_iff.mp hj).1
      simpa using this
    rw [List.getElem?_set_self hl] at hj
    cases hj
    exact ⟨v, List.getElem?_set_self (by rw [← h.len]; exact hl), k⟩
  · rw [List.getElem?_set_ne (Ne.symm q)] at hj
    rw [List.getElem?_set_ne (Ne.symm q)]
    exact h.at_ j e hj
theorem Rσ.wipe (h : Rσ K μ H ρ σ) : ∀ vs : List Nat, Rσ K μ H (wipeD ρ vs) (wipe σ vs)
  | [] => h
  | v :: vs => by
    have ih := Rσ.wipe h vs
    unfold wipeD L2.wipe
    refine ⟨by simp [ih.len], fun j e hj => ?_⟩
    by_cases q : j = v
    · subst q
      by_cases hl : j < (wipeD ρ vs).length
      · rw [List.getElem?_set_self hl] at hj; cases hj
      · rw [List.getElem?_eq_none (by simpa using hl)] at hj; cases hj
    · rw [List.getElem?_set_ne (Ne.symm q)] at hj
      rw [List.getElem?_set_ne (Ne.symm q)]
      exact ih.at_ j e hj
theorem Rσ.start {n : Nat} {ds : List D} {vs : List V} (N : List Str) (hn : N.length = n) (h : RVs K μ H ds vs) : Rσ K μ H (startD n ds) (L2.start N vs) := by
  unfold startD L2.start
  have hl := h.length
  refine ⟨by simp [hl, hn], fun i d e => ?_⟩
  by_cases hi : i < ds.length
  · rw [List.getElem?_append_left (by simpa using hi), List.getElem?_map] at e
    cases q : ds[i]? with
    | none => rw [q] at e; cases e
    | some d' =>
      rw [q] at e; cases e
      obtain ⟨v, e1, e2⟩ := h.get q
      refine ⟨v, ?_, e2⟩
      rw [List.getElem?_append_left (by simpa [hl] using hi), List.getElem?_map, e1]; rfl
  · rw [List.getElem?_append_right (by simpa using hi), List.getElem?_replicate] at e
    split at e <;> cases e
end
end Cw
/-! CwC: the primitive operations keep what the data say. -/
namespace Cw
open PySem PySem.Spec PyProof.Rows L2

def RX (CT : Nat → Option Addr) (K : PySem.W.Frag) (μ : List Addr) (H : Hp) (x : Xc) (cls : Value) (dd : Option Addr) : Prop :=
  ∃ C d v, CT x.cls = some C ∧ cls = .ref C ∧ dd = some d ∧ H d = some (.xd [(("value" : Str), v)]) ∧ RV K μ H x.val v

/-- what a reckoning's end asks of what follows -/
def Out {α β : Type} (K : PySem.W.Frag) (CT : Nat → Option Addr) (W : WX) (rel : List Addr → Hp → α → β → Prop) (μ : List Addr) (H : Hp) (σ : L2.St) (r : Rs α) (Q : β → Hp → Prop) : Prop := match r with
  | .ok a S' => ∀ μ' H' b, Ext μ H μ' H' → RS K μ' H' S' → rel μ' H' a b → Q b H'
  | .exc x S' => ∀ μ' H' cls dd, Ext μ H μ' H' → RS K μ' H' S' → RX CT K μ' H' x cls dd → W cls dd σ H'
  | .bad => False

section
variable {α β γ δ : Type} {K : PySem.W.Frag} {CT : Nat → Option Addr} {W : WX} {rel : List Addr → Hp → α → β → Prop} {rel2 : List Addr → Hp → γ → δ → Prop} {μ μ1 : List Addr} {H H1 : Hp} {σ : L2.St} {r : Rs α} {Q Q' : β → Hp → Prop}
theorem Out.ext (h : Out K CT W rel μ H σ r Q) (x : Ext μ H μ1 H1) : Out K CT W rel μ1 H1 σ r Q := by
  cases r with
  | ok a S => exact fun μ' H' b y => h μ' H' b (x.trans y)
  | exc e S => exact fun μ' H' c d y => h μ' H' c d (x.trans y)
  | bad => exact h
theorem Out.mono (h : Out K CT W rel μ H σ r Q) (k : ∀ b H', Q b H' → Q' b H') : Out K CT W rel μ H σ r Q' := by
  cases r with
  | ok a S => exact fun μ' H' b y s q => k _ _ (h μ' H' b y s q)
  | exc e S => exact h
  | bad => exact h
theorem Out.bnd {f : α → Store → Rs γ} {Q : δ → Hp → Prop} (h : Out K CT W rel2 μ H σ (r.bnd f) Q) :
    Out K CT W rel μ H σ r (fun b H1 => ∃ μ1 a S1, Ext μ H μ1 H1 ∧ RS K μ1 H1 S1 ∧ rel μ1 H1 a b ∧ Out K CT W rel2 μ1 H1 σ (f a S1) Q) := by
  cases r with
  | ok a S => exact fun μ' H' b y s q => ⟨μ', a, S, y, s, q, Out.ext h y⟩
  | exc e S => exact h
  | bad => exact h
theorem Out.ok {a : α} {b : β} {S : Store} (h : Out K CT W rel μ H σ (.ok a S) Q) (s : RS K μ H S) (k : rel μ H a b) : Q b H := h μ H b (Ext.refl _ _) s k
end

/-! ### operators -/
/-- a two-place operation on data -/
def rP (K : PySem.W.Frag) (ev : D → D → Store → Rs D) : R2 := fun x y H Q => ∃ μ S dx dy CT W σ, RS K μ H S ∧ RV K μ H dx x ∧ RV K μ H dy y ∧ Out K CT W (RV K) μ H σ (ev dx dy S) Q
def rC1 (K : PySem.W.Frag) (ev : D → Store → Rs D) : List V → Hp → VK → Prop := fun xs H Q => ∃ μ S d v CT W σ, xs = [v] ∧ RS K μ H S ∧ RV K μ H d v ∧ Out K CT W (RV K) μ H σ (ev d S) Q
def rC2 (K : PySem.W.Frag) (ev : D → D → Store → Rs D) : List V → Hp → VK → Prop := fun xs H Q => ∃ μ S d e v u CT W σ, xs = [v, u] ∧ RS K μ H S ∧ RV K μ H d v ∧ RV K μ H e u ∧ Out K CT W (RV K) μ H σ (ev d e S) Q
section
variable {X : Cx}
theorem fin_tup {K : PySem.W.Frag} {CT : Nat → Option Addr} {W : WX} {μ : List Addr} {H : Hp} {σ : L2.St} {S : Store} {ds : List D} {vs : List V} {Q : VK} (s : RS K μ H S) (hv : RVs K μ H ds vs) (h : Out K CT W (RV K) μ H σ (.ok (.tup ds) S) Q) :
    ∀ p, H p = none → Q (.ref p) (upd H p (.tup vs)) := fun p hp =>
  let ⟨x, s', v⟩ := s.newTup hp hv
  h μ _ _ x s' v
theorem fin_lst {K : PySem.W.Frag} {CT : Nat → Option Addr} {W : WX} {μ : List Addr} {H : Hp} {σ : L2.St} {S : Store} {ds : List D} {vs : List V} {Q : VK} (s : RS K μ H S) (hv : RVs K μ H ds vs) (h : Out K CT W (RV K) μ H σ (.ok (.ref S.length) (S ++ [.lst ds])) Q) :
    ∀ p, H p = none → Q (.ref p) (upd H p (.lst vs)) := fun p hp =>
  let ⟨x, s', v⟩ := s.newRef hp hv
  h _ _ _ x s' v

theorem op_fdivG : OpR X (binaryOp .FloorDiv) (rI (fun _ j => j ≠ 0 ∧ j.natAbs.log2 < 9000) fun i j => .int (i.fdiv j)) := opI fun _ _ _ _ _ _ _ hc q => PyProof.Rows.floordiv_int hc.1 q (.inl (PyProof.noPylong_of_log2 hc.2))
theorem op_powG : OpR X (binaryOp .Pow) (rI (fun i j => 0 ≤ j ∧ (Builtin.Int.intBits i : Int) * j ≤ 2 ^ 27) fun i j => .int (i ^ j.toNat)) := opI fun _ _ _ _ _ _ _ hc q => PyProof.Rows.pow_int hc.1 hc.2 q
def opB : Bop → Operator
  | .add => .Add
  | .sub => .Sub
  | .mul => .Mult
  | .fdiv => .FloorDiv
  | .mod => .Mod
  | .pow => .Pow
theorem op_B : ∀ op : Bop, OpR X (binaryOp (opB op)) (rP X.K (evBop op)) := by
  intro op pins s σ H x y v u Q I rx ry h
  obtain ⟨μ, S, dx, dy, CT, W, σ0, hS, hx, hy, h⟩ := h
  cases op with
  | add =>
    cases dx with
    | int i =>
      cases dy with
      | int j =>
        rw [hx.int_] at rx; rw [hy.int_] at ry
        exact op_add pins s σ H _ _ v u Q I rx ry ⟨i, j, rfl, rfl, h.ok hS .int⟩
      | _ => exact h.elim
    | str i =>
      cases dy with
      | str j =>
        rw [hx.str_] at rx; rw [hy.str_] at ry
        simp only [evBop] at h
        split at h
        · rename_i hl
          exact op_add_str pins s σ H _ _ v u Q I rx ry ⟨i, j, rfl, rfl, hl, h.ok hS .str⟩
        · exact h.elim
      | _ => exact h.elim
    | tup xs =>
      cases dy with
      | tup ys =>
        simp only [evBop] at h
        split at h
        · rename_i hl
          obtain ⟨a, vs, rfl, ha, hv⟩ := hx.tup_
          obtain ⟨b, ws, rfl, hb, hw⟩ := hy.tup_
          refine op_catA pins s σ H _ _ v u Q I rx ry ⟨a, b, vs, ws, rfl, rfl, ha, hb, by rw [hv.length, hw.length]; exact hl, fun e => ?_, fun _ e => ?_, fun _ _ => fin_tup hS (hv.append hw) h⟩
          · have e' := hv.nil_iff.mp e
            subst e'
            exact h.ok hS (.tup hb hw)
          · have e' := hw.nil_iff.mp e
            subst e'
            rw [List.append_nil] at h
            exact h.ok hS (.tup ha hv)
        · exact h.elim
      | _ => exact h.elim
    | ref n =>
      cases dy with
      | ref m =>
        simp only [evBop] at h
        split at h
        · rename_i xs ys e1 e2
          split at h
          · rename_i hl
            obtain ⟨a, vs, rfl, _, ha, hv⟩ := hS.lst hx e1
            obtain ⟨b, ws, rfl, _, hb, hw⟩ := hS.lst hy e2
            exact op_cat pins s σ H _ _ v u Q I rx ry ⟨a, b, vs, ws, rfl, rfl, ha, hb, by rw [hv.length, hw.length]; exact hl, fin_lst hS (hv.append hw) h⟩
          · exact h.elim
        · exact h.elim
      | _ => exact h.elim
    | _ => exact h.elim
  | sub =>
    cases dx with
    | int i =>
      cases dy with
      | int j =>
        rw [hx.int_] at rx; rw [hy.int_] at ry
        exact op_sub pins s σ H _ _ v u Q I rx ry ⟨i, j, rfl, rfl, h.ok hS .int⟩
      | _ => exact h.elim
    | _ => exact h.elim
  | mul =>
    cases dx with
    | int i =>
      cases dy with
      | int j =>
        rw [hx.int_] at rx; rw [hy.int_] at ry
        simp only [evBop] at h
        split at h
        · rename_i hc
          exact op_mulW pins s σ H _ _ v u Q I rx ry ⟨i, j, rfl, rfl, (show i.natAbs.log2 + j.natAbs.log2 < 1000000 by unfold okMul at hc; exact of_decide_eq_true hc), h.ok hS .int⟩
        · exact h.elim
      | _ => exact h.elim
    | ref n =>
      cases dy with
      | int j =>
        rw [hy.int_] at ry
        simp only [evBop] at h
        split at h
        · rename_i xs e1
          split at h
          · rename_i hc
            simp only [Bool.and_eq_true, decide_eq_true_eq] at hc
            obtain ⟨a, vs, rfl, _, ha, hv⟩ := hS.lst hx e1
            exact op_rep pins s σ H _ _ v u Q I rx ry ⟨a, j, vs, rfl, rfl, ha, hc.1.1, hc.1.2, by rw [hv.length]; exact hc.2, fin_lst hS (hv.rep _) h⟩
          · exact h.elim
        · exact h.elim
      | _ => exact h.elim
    | _ => exact h.elim
  | fdiv =>
    cases dx with
    | int i =>
      cases dy with
      | int j =>
        rw [hx.int_] at rx; rw [hy.int_] at ry
        simp only [evBop] at h
        split at h
        · rename_i hc
          simp only [okDiv, Bool.and_eq_true, decide_eq_true_eq] at hc
          exact op_fdivG pins s σ H _ _ v u Q I rx ry ⟨i, j, rfl, rfl, hc, h.ok hS .int⟩
        · exact h.elim
      | _ => exact h.elim
    | _ => exact h.elim
  | mod =>
    cases dx with
    | int i =>
      cases dy with
      | int j =>
        rw [hx.int_] at rx; rw [hy.int_] at ry
        simp only [evBop] at h
        split at h
        · rename_i hc
          exact op_modN pins s σ H _ _ v u Q I rx ry ⟨i, j, rfl, rfl, of_decide_eq_true hc, h.ok hS .int⟩
        · exact h.elim
      | _ => exact h.elim
    | _ => exact h.elim
  | pow =>
    cases dx with
    | int i =>
      cases dy with
      | int j =>
        rw [hx.int_] at rx; rw [hy.int_] at ry
        simp only [evBop] at h
        split at h
        · rename_i hc
          simp only [okPow, Bool.and_eq_true, decide_eq_true_eq] at hc
          exact op_powG pins s σ H _ _ v u Q I rx ry ⟨i, j, rfl, rfl, hc, h.ok hS .int⟩
        · exact h.elim
      | _ => exact h.elim
    | _ => exact h.elim

/-! ### comparisons -/
def opC : Cop → CmpOp
  | .eq => .Eq
  | .ne => .NotEq
  | .lt => .Lt
  | .le => .LtE
  | .gt => .Gt
  | .ge => .GtE
  | .isN => .Is
  | .notN => .IsNot
  | .isin => .In
  | .notin => .NotIn
theorem RVs.flat {K : PySem.W.Frag} {μ : List Addr} {H : Hp} : ∀ {ds : List D} {vs : List V}, RVs K μ H ds vs → ds.all flatD = true → vs = ds.map vOf ∧ vs.all flatV = true
  | [], _, h, _ => by rw [h.inv0]; exact ⟨rfl, rfl⟩
  | d :: ds, _, h, a => by
    obtain ⟨v, r, rfl, hv, t⟩ := h.inv
    rw [List.all_cons, Bool.and_eq_true] at a
    obtain ⟨e1, e2⟩ := RVs.flat t a.2
    subst e1
    cases d with
    | non => rw [hv.non_]; exact ⟨rfl, by simpa [flatV] using e2⟩
    | bl b => rw [hv.bl_]; exact ⟨rfl, by simpa [flatV] using e2⟩
    | int i => rw [hv.int_]; exact ⟨rfl, by simpa [flatV] using e2⟩
    | str x => rw [hv.str_]; exact ⟨rfl, by simpa [flatV] using e2⟩
    | _ => exact absurd a.1 Bool.false_ne_true
theorem RV.flat1 {K : PySem.W.Frag} {μ : List Addr} {H : Hp} {d : D} {v : V} (h : RV K μ H d v) (a : flatD d = true) : v = vOf d ∧ flatV v = true := by
  obtain ⟨e1, e2⟩ := RVs.flat (RVs.cons_ h RVs.nil_) (by simp [a])
  have e1 : v = vOf d := by simpa using e1
  exact ⟨e1, by simpa using e2⟩
theorem inP_inv {p c : PyData} {b : Bool} (q : inP p c = some b) : ∃ ds, (c = .list ds ∨ c = .tuple ds) ∧ SeqAt.shaped p = true ∧ SeqAt.shaped c = true ∧ (ds.any fun z => PyData.eqv z p) = b := by
  unfold inP at q
  split at q
  · split at q
    · rename_i h; rw [Bool.and_eq_true] at h; cases q; exact ⟨_, .inl rfl, h.1, h.2, rfl⟩
    · cases q
  · split at q
    · rename_i h; rw [Bool.and_eq_true] at h; cases q; exact ⟨_, .inr rfl, h.1, h.2, rfl⟩
    · cases q
  · cases q
def rInQ (K : PySem.W.Frag) (neg : Bool) : R2 := fun x y H Q => ∃ d c ds, Dp K H x d ∧ Dp K H y c ∧ (c = .list ds ∨ c = .tuple ds) ∧ SeqAt.shaped d = true ∧ SeqAt.shaped c = true ∧ Q (.bl (if neg then !ds.any fun z => PyData.eqv z d else ds.any fun z => PyData.eqv z d)) H
theorem op_inQ (hu : X.A.units + 65 < cLine) : OpR X (compareOp .In) (rInQ X.K false) := by
  intro pins s σ H x y v u Q I rx ry h
  obtain ⟨d, c, ds, hd, he, hc, sd, se, q⟩ := h
  obtain ⟨as, r1⟩ := Dp.reads I d x v hd rx
  obtain ⟨bs, r2⟩ := Dp.reads I c y u he ry
  rcases hc with rfl | rfl
  · exact SeqAt.in_list_reads r2 r1 (SeqAt.canLay_of_shaped se) (SeqAt.canLay_of_shaped sd) (room_in_shaped sd hu) ⟨.bl _, H, I, rfl, q⟩
  · exact SeqAt.in_tuple_reads r2 r1 (SeqAt.canLay_of_shaped se) (SeqAt.canLay_of_shaped sd) (room_in_shaped sd hu) ⟨.bl _, H, I, rfl, q⟩
theorem op_notInQ (hu : X.A.units + 65 < cLine) : OpR X (compareOp .NotIn) (rInQ X.K true) := by
  intro pins s σ H x y v u Q I rx ry h
  obtain ⟨d, c, ds, hd, he, hc, sd, se, q⟩ := h
  obtain ⟨as, r1⟩ := Dp.reads I d x v hd rx
  obtain ⟨bs, r2⟩ := Dp.reads I c y u he ry
  rcases hc with rfl | rfl
  · exact SeqAt.notIn_list_reads r2 r1 (SeqAt.canLay_of_shaped se) (SeqAt.canLay_of_shaped sd) (room_in_shaped sd hu) ⟨.bl _, H, I, rfl, q⟩
  · exact SeqAt.notIn_tuple_reads r2 r1 (SeqAt.canLay_of_shaped se) (SeqAt.canLay_of_shaped sd) (room_in_shaped sd hu) ⟨.bl _, H, I, rfl, q⟩
theorem in_two {neg : Bool} {pins : List (Addr × Obj)} {s : Shared} {σ σ0 : L2.St} {H : Hp} {x y : V} {v u : Value} {Q : VK} {μ : List Addr} {S : Store} {dx dy : D} {CT : Nat → Option Addr} {W : WX} (hS : RS X.K μ H S) (hx : RV X.K μ H dx x) (hy : RV X.K μ H dy y)
    (h : Out X.K CT W (RV X.K) μ H σ0 (ofOpt S ((inD S dx dy).map fun b => if neg then !b else b)) Q) :
    ((rIn X.K neg x y H Q) ∨ rInQ X.K neg x y H Q) ∨ ∃ i j, x = .str i ∧ y = .str j ∧ Q (.bl (if neg then !(!(Builtin.Str.occurrences j i 0 j.length 1).isEmpty) else !(Builtin.Str.occurrences j i 0 j.length 1).isEmpty)) H := by
  cases q : inD S dx dy with
  | none => rw [q] at h; exact h.elim
  | some b =>
    rw [q] at h
    have h := h.ok hS .bl
    by_cases hstr : ∃ a c, dx = .str a ∧ dy = .str c
    · obtain ⟨a, c, rfl, rfl⟩ := hstr
      refine .inr ⟨a, c, hx.str_, hy.str_, ?_⟩
      simp only [inD, Option.some.injEq] at q
      rw [q]; exact h
    · have q' : (match sq S dy with
          | some xs => if flatD dx && xs.all flatD then some (inV (vOf dx) (xs.map vOf)) else inD0 S dx dy
          | none => none) = some b := by
        unfold inD at q
        split at q
        · exact absurd ⟨_, _, rfl, rfl⟩ hstr
        · exact q
      cases q2 : sq S dy with
      | none => rw [q2] at q'; cases q'
      | some xs =>
        rw [q2] at q'
        dsimp only at q'
        split at q'
        · rename_i hf
          rw [Bool.and_eq_true] at hf
          obtain ⟨a, vs, rfl, hs, hv, _⟩ := hS.sq hy q2
          obtain ⟨e1, f1⟩ := hx.flat1 hf.1
          obtain ⟨e2, f2⟩ := hv.flat hf.2
          refine .inl (.inl ⟨a, vs, rfl, hs, f1, f2, ?_⟩)
          cases q'
          rw [e1, e2]
          exact h
        · unfold inD0 at q'
          split at q'
          · rename_i p p' p1 p2
            obtain ⟨ds, hc, s1, s2, e⟩ := inP_inv q'
            refine .inl (.inr ⟨p, p', ds, toPy_dp hS _ _ _ _ p1 hx, toPy_dp hS _ _ _ _ p2 hy, hc, s1, s2, ?_⟩)
            rw [e]; exact h
          · cases q'
theorem eqD_old {S : Store} {x y : D} (h : ¬ ∃ a b, x = .str a ∧ y = .str b) : eqD S x y = eqD0 S x y := by
  cases x <;> cases y <;> first | rfl | exact absurd ⟨_, _, rfl, rfl⟩ h
theorem op_C (hu : X.A.units + 65 < cLine) : ∀ op : Cop, OpR X (compareOp (opC op)) (rP X.K (evCop op)) := by
  intro op pins s σ H x y v u Q I rx ry h
  obtain ⟨μ, S, dx, dy, CT, W, σ0, hS, hx, hy, h⟩ := h
  cases op with
  | eq =>
    unfold evCop at h
    by_cases hz : ∃ a b, dx = .str a ∧ dy = .str b
    · obtain ⟨a, b, rfl, rfl⟩ := hz
      have h : Out X.K CT W (RV X.K) μ H σ0 (.ok (.bl (decide (a = b))) S) Q := h
      have h := h.ok hS .bl
      exact op_eq pins s σ H x y v u Q I rx ry ⟨by rw [hx.str_, hy.str_]; rfl, by rw [hx.str_, hy.str_]; simpa using h⟩
    rw [eqD_old hz] at h
    cases q : eqD0 S dx dy with
    | none => simp only [q] at h; exact h.elim
    | some b =>
      simp only [q] at h
      have h := h.ok hS .bl
      unfold eqD0 at q
      split at q
      · rename_i p p' e1 e2
        split at q
        · rename_i hs
          rw [Bool.and_eq_true] at hs
          cases q
          exact op_eqD (by omega) pins s σ H x y v u Q I rx ry ⟨p, p', toPy_dp hS _ _ _ _ e1 hx, toPy_dp hS _ _ _ _ e2 hy, hs.1, hs.2, h⟩
        · cases q
      · cases q
  | ne =>
    unfold evCop at h
    by_cases hz : ∃ a b, dx = .str a ∧ dy = .str b
    · obtain ⟨a, b, rfl, rfl⟩ := hz
      have h : Out X.K CT W (RV X.K) μ H σ0 (.ok (.bl (!decide (a = b))) S) Q := h
      have h := h.ok hS .bl
      exact op_ne pins s σ H x y v u Q I rx ry ⟨by rw [hx.str_, hy.str_]; rfl, by rw [hx.str_, hy.str_]; simpa using h⟩
    rw [eqD_old hz] at h
    cases q : eqD0 S dx dy with
    | none => simp only [q] at h; exact h.elim
    | some b =>
      simp only [q] at h
      have h := h.ok hS .bl
      unfold eqD0 at q
      split at q
      · rename_i p p' e1 e2
        split at q
        · rename_i hs
          rw [Bool.and_eq_true] at hs
          cases q
          exact op_neD (by omega) pins s σ H x y v u Q I rx ry ⟨p, p', toPy_dp hS _ _ _ _ e1 hx, toPy_dp hS _ _ _ _ e2 hy, hs.1, hs.2, h⟩
        · cases q
      · cases q
  | lt =>
    cases dx with
    | int i =>
      cases dy with
      | int j =>
        rw [hx.int_] at rx; rw [hy.int_] at ry
        exact op_lt pins s σ H _ _ v u Q I rx ry ⟨i, j, rfl, rfl, h.ok hS .bl⟩
      | _ => exact h.elim
    | _ => exact h.elim
  | le =>
    cases dx with
    | int i =>
      cases dy with
      | int j =>
        rw [hx.int_] at rx; rw [hy.int_] at ry
        exact op_le pins s σ H _ _ v u Q I rx ry ⟨i, j, rfl, rfl, h.ok hS .bl⟩
      | _ => exact h.elim
    | _ => exact h.elim
  | gt =>
    cases dx with
    | int i =>
      cases dy with
      | int j =>
        rw [hx.int_] at rx; rw [hy.int_] at ry
        exact op_gt pins s σ H _ _ v u Q I rx ry ⟨i, j, rfl, rfl, h.ok hS .bl⟩
      | _ => exact h.elim
    | _ => exact h.elim
  | ge =>
    cases dx with
    | int i =>
      cases dy with
      | int j =>
        rw [hx.int_] at rx; rw [hy.int_] at ry
        exact op_ge pins s σ H _ _ v u Q I rx ry ⟨i, j, rfl, rfl, h.ok hS .bl⟩
      | _ => exact h.elim
    | _ => exact h.elim
  | isN =>
    unfold evCop at h
    cases dy with
    | non =>
      have h := h.ok hS .bl
      refine op_isN pins s σ H x y v u Q I rx ry ⟨hy.non_, ?_⟩
      have e : decide (x = V.non) = isNonD dx := by
        cases dx with
        | non => rw [hx.non_]; rfl
        | bl _ => rw [hx.bl_]; rfl
        | int _ => rw [hx.int_]; rfl
        | str _ => rw [hx.str_]; rfl
        | tup _ => obtain ⟨_, _, e, _⟩ := hx.tup_; rw [e]; rfl
        | rol _ => obtain ⟨_, _, e, _⟩ := hx.rol_; rw [e]; rfl
        | ref _ => obtain ⟨_, e, _⟩ := hx.ref_; rw [e]; rfl
      rw [e]; exact h
    | bl b =>
      cases dx with
      | bl a =>
        have h := h.ok hS .bl
        exact op_isBl pins s σ H x y v u Q I rx ry ⟨a, b, hx.bl_, hy.bl_, h⟩
      | _ => exact h.elim
    | _ => exact h.elim
  | notN =>
    unfold evCop at h
    cases dy with
    | non =>
      have h := h.ok hS .bl
      refine op_notN pins s σ H x y v u Q I rx ry ⟨hy.non_, ?_⟩
      have e : decide (x = V.non) = isNonD dx := by
        cases dx with
        | non => rw [hx.non_]; rfl
        | bl _ => rw [hx.bl_]; rfl
        | int _ => rw [hx.int_]; rfl
        | str _ => rw [hx.str_]; rfl
        | tup _ => obtain ⟨_, _, e, _⟩ := hx.tup_; rw [e]; rfl
        | rol _ => obtain ⟨_, _, e, _⟩ := hx.rol_; rw [e]; rfl
        | ref _ => obtain ⟨_, e, _⟩ := hx.ref_; rw [e]; rfl
      rw [e]; exact h
    | bl b =>
      cases dx with
      | bl a =>
        have h := h.ok hS .bl
        exact op_notBl pins s σ H x y v u Q I rx ry ⟨a, b, hx.bl_, hy.bl_, h⟩
      | _ => exact h.elim
    | _ => exact h.elim
  | isin =>
    have h' : Out X.K CT W (RV X.K) μ H σ0 (ofOpt S ((inD S dx dy).map fun b => if false then !b else b)) Q := by
      have e : (inD S dx dy).map (fun b => if false = true then !b else b) = inD S dx dy := by cases inD S dx dy <;> rfl
      rw [e]; exact h
    exact ((op_in_seq.or (op_inQ hu)).or op_in_str) pins s σ H x y v u Q I rx ry (in_two (neg := false) (pins := pins) (s := s) (σ := σ) (v := v) (u := u) hS hx hy h')
  | notin =>
    have h' : Out X.K CT W (RV X.K) μ H σ0 (ofOpt S ((inD S dx dy).map fun b => if true then !b else b)) Q := h
    exact ((op_notIn_seq.or (op_notInQ hu)).or op_notIn_str) pins s σ H x y v u Q I rx ry (in_two (neg := true) (pins := pins) (s := s) (σ := σ) (v := v) (u := u) hS hx hy h')

/-! ### truth -/
theorem truV_of {μ : List Addr} {H : Hp} {S : Store} {d : D} {v : V} {b : Bool} {K : PySem.W.Frag} (hS : RS K μ H S) (hv : RV K μ H d v) (e : truD S d = some b) : TruV K v H b := by
  cases d with
  | non => rw [hv.non_]; simp only [truD, Option.some.injEq] at e; exact e.symm
  | bl c => rw [hv.bl_]; simp only [truD, Option.some.injEq] at e; exact e.symm
  | int c => rw [hv.int_]; simp only [truD, Option.some.injEq] at e; exact e.symm
  | str c =>
    rw [hv.str_]
    simp only [truD] at e
    by_cases hl : c.length ≤ sizeLine
    · rw [if_pos hl] at e; cases e; exact ⟨hl, rfl⟩
    · rw [if_neg hl] at e; cases e
  | tup ds =>
    obtain ⟨a, vs, rfl, ha, hv⟩ := hv.tup_
    simp only [truD, Option.some.injEq] at e
    exact .inr (.inl ⟨vs, ha, by rw [hv.empty]; exact e.symm⟩)
  | rol ds =>
    obtain ⟨a, vs, rfl, ha, hv⟩ := hv.rol_
    simp only [truD, Option.some.injEq] at e
    exact .inl ⟨vs, ha.sq, by rw [hv.empty]; exact e.symm⟩
  | ref n =>
    simp only [truD] at e
    cases q : S[n]? with
    | none => rw [q] at e; cases e
    | some o =>
      cases o with
      | lst xs =>
        rw [q] at e
        obtain ⟨a, vs, rfl, _, ha, hv⟩ := hS.lst hv q
        cases e
        exact .inl ⟨vs, .of ha, by rw [hv.empty]⟩
      | ins c fs => rw [q] at e; cases e

/-! ### subscripts -/
theorem ix_G : IxR X (rP X.K evIdx) := by
  intro value slice pins s σ H x y v u Q I rx ry h hsub
  obtain ⟨μ, S, dx, dy, CT, W, σ0, hS, hx, hy, h⟩ := h
  cases dy with
  | int i =>
    refine ix_seq value slice pins s σ H x y v u Q I rx ry ?_ hsub
    by_cases hz : ∃ z, dx = .str z
    · obtain ⟨z, rfl⟩ := hz
      simp only [evIdx] at h
      split at h
      · rename_i hl
        split at h
        · rename_i c e
          exact .inr (.inr ⟨z, i, c, hx.str_, hy.int_, hl, e, h.ok hS .str⟩)
        · exact h.elim
      · exact h.elim
    · have h' : Out X.K CT W (RV X.K) μ H σ0 (match sq S dx with
          | some xs => (match atI xs i with | some d => .ok d S | none => .bad)
          | none => .bad) Q := by
        cases dx with
        | str z => exact absurd ⟨z, rfl⟩ hz
        | _ => exact h
      cases q : sq S dx with
      | none => rw [q] at h'; exact h'.elim
      | some xs =>
        rw [q] at h'
        dsimp only at h'
        cases q2 : L2.atI xs i with
        | none => rw [q2] at h'; exact h'.elim
        | some d =>
          rw [q2] at h'
          obtain ⟨a, vs, rfl, hs, hv, _⟩ := hS.sq hx q
          obtain ⟨w', e, hw⟩ := hv.atI q2
          rcases hs with hs | hs
          · exact .inl ⟨a, vs, i, w', rfl, hy.int_, hs, e, h'.ok hS hw⟩
          · exact .inr (.inl ⟨a, vs, i, w', rfl, hy.int_, hs, e, h'.ok hS hw⟩)
  | _ => cases dx <;> exact h.elim
/-- x[lo:hi], by values -/
def rSlG (K : PySem.W.Frag) : V → Option Int → Option Int → Hp → VK → Prop := fun x lo hi H Q => ∃ μ S dx CT W σ, RS K μ H S ∧ RV K μ H dx x ∧ Out K CT W (RV K) μ H σ (evSlc dx lo hi S) Q
theorem sl_G : SlR X (rSlG X.K) := by
  intro pins s σ H x v vl vu lo hi sl Q I rx hs pl pu h
  obtain ⟨μ, S, dx, CT, W, σ0, hS, hx, h⟩ := h
  refine (sl_tupA.or (sl_list.or sl_str)) pins s σ H x v vl vu lo hi sl Q I rx hs pl pu ?_
  cases dx with
  | tup ds =>
    obtain ⟨a, vs, rfl, ha, hv⟩ := hx.tup_
    refine .inl ⟨a, vs, rfl, ha, fun ⟨e1, e2⟩ => ?_, fun _ => fin_tup hS (hv.cut lo hi) h⟩
    have e : cutL ds lo hi = ds := by
      unfold cutL
      rw [← hv.length, e1, e2, List.drop_zero, Nat.sub_zero, hv.length, List.take_length]
    simp only [evSlc, e] at h
    exact h.ok hS (.tup ha hv)
  | rol ds =>
    obtain ⟨a, vs, rfl, ha, hv⟩ := hx.rol_
    exact .inr (.inl ⟨a, vs, rfl, ha.sq, fin_lst hS (hv.cut lo hi) h⟩)
  | ref n =>
    simp only [evSlc] at h
    split at h
    · rename_i xs e
      obtain ⟨a, vs, rfl, _, ha, hv⟩ := hS.lst hx e
      exact .inr (.inl ⟨a, vs, rfl, .of ha, fin_lst hS (hv.cut lo hi) h⟩)
    · exact h.elim
  | str z =>
    simp only [evSlc] at h
    split at h
    · rename_i hl
      exact .inr (.inr ⟨z, hx.str_, hl, h.ok hS .str⟩)
    · exact h.elim
  | _ => exact h.elim

/-! ### built-ins -/
theorem call_reprD (hg : X.A.guards = some []) (hu : X.A.units + 65 < cLine) : CallR X (.builtin "repr") (fun xs H Q => ∃ v p, xs = [v] ∧ Dp X.K H v p ∧ p.showable = true ∧ p.hasDict = false ∧ p.depth ≤ 60 ∧ p.shown.length ≤ sizeLine ∧ Q (.str p.shown) H) := by
  intro pins s σ H xs us Q I r h
  obtain ⟨v, p, rfl, hd, hsh, hno, hdp, hsz, q⟩ := h
  obtain ⟨u, rfl, rv⟩ := Vals.one r
  obtain ⟨as, hr⟩ := Dp.reads I p v u hd rv
  cases hd with
  | non => cases rv; exact PySem.P.repr_of_none ⟨.str _, H, I.tok _, ⟨_, rfl⟩, by simpa [PyData.shown] using q⟩
  | bl b => cases rv; exact PySem.P.repr_of_bool ⟨.str _, H, I.tok _, ⟨_, rfl⟩, by simpa [PyData.shown] using q⟩
  | int i =>
    obtain ⟨t, rfl⟩ := rv
    have hb : i.natAbs.log2 < 1920 := by simpa [PyData.showable] using hsh
    exact PySem.P.repr_of_int hb ⟨.str _, H, I.tok _, ⟨_, rfl⟩, by simpa [PyData.shown] using q⟩
  | str x =>
    obtain ⟨t, rfl⟩ := rv
    exact PySem.P.repr_of_str ⟨.str _, H, I.tok _, ⟨_, rfl⟩, by simpa [PyData.shown] using q⟩ (by simpa [PyData.shown] using hsz)
  | lst h1 h2 =>
    cases rv
    refine PySem.repr_of_reads' (h₀ := s.heap) hr hsh (fun z => by rw [hno] at z; cases z) hg (by omega) (fun _ _ e => e) (fun h' w' tk hk => ?_) hsz
    exact ⟨.str _, H, I.kept hk, ⟨_, rfl⟩, q⟩
  | tup h1 h2 =>
    cases rv
    refine PySem.repr_of_reads' (h₀ := s.heap) hr hsh (fun z => by rw [hno] at z; cases z) hg (by omega) (fun _ _ e => e) (fun h' w' tk hk => ?_) hsz
    exact ⟨.str _, H, I.kept hk, ⟨_, rfl⟩, q⟩

theorem c_len : CallR X (.builtin "len") (rC1 X.K (evB1 .len)) := by
  intro pins s σ H xs us Q I r h
  obtain ⟨μ, S, d, v, CT, W, σ0, rfl, hS, hd, h⟩ := h
  refine (call_len_seq.or call_len_str) pins s σ H _ us Q I r ?_
  by_cases hz : ∃ z, d = .str z
  · obtain ⟨z, rfl⟩ := hz
    simp only [evB1] at h
    split at h
    · rename_i hl
      exact .inr ⟨z, by rw [hd.str_], hl, h.ok hS .int⟩
    · exact h.elim
  · have h' : Out X.K CT W (RV X.K) μ H σ0 (match sq S d with
        | some xs => .ok (.int xs.length) S
        | none => .bad) Q := by
      cases d with
      | str z => exact absurd ⟨z, rfl⟩ hz
      | _ => exact h
    cases q : sq S d with
    | none => rw [q] at h'; exact h'.elim
    | some xs =>
      rw [q] at h'
      obtain ⟨a, vs, rfl, hs, hv, _⟩ := hS.sq hd q
      exact .inl ⟨a, vs, rfl, hs, by rw [hv.length]; exact h'.ok hS .int⟩
theorem c_abs : CallR X (.builtin "abs") (rC1 X.K (evB1 .abs)) := by
  intro pins s σ H xs us Q I r h
  obtain ⟨μ, S, d, v, CT, W, σ0, rfl, hS, hd, h⟩ := h
  cases d with
  | int i => exact call_abs pins s σ H _ us Q I r ⟨i, by rw [hd.int_], h.ok hS .int⟩
  | _ => exact h.elim
theorem c_int : CallR X (.type "int") (rC1 X.K (evB1 .int)) := by
  intro pins s σ H xs us Q I r h
  obtain ⟨μ, S, d, v, CT, W, σ0, rfl, hS, hd, h⟩ := h
  refine (call_int1.or call_int_str) pins s σ H _ us Q I r ?_
  cases d with
  | int i => exact .inl (.inl ⟨i, by rw [hd.int_], h.ok hS .int⟩)
  | bl b => exact .inl (.inr ⟨b, by rw [hd.bl_], h.ok hS .int⟩)
  | str a =>
    simp only [evB1] at h
    split at h
    · rename_i n e
      split at h
      · rename_i hl
        exact .inr ⟨a, n, by rw [hd.str_], e, hl, h.ok hS .int⟩
      · exact h.elim
    · exact h.elim
  | _ => exact h.elim
theorem c_all (hc : X.calm = true) : CallR X (.builtin "all") (rC1 X.K (evB1 .all)) := by
  intro pins s σ H xs us Q I r h
  obtain ⟨μ, S, d, v, CT, W, σ0, rfl, hS, hd, h⟩ := h
  simp only [evB1] at h
  split at h
  · rename_i hl
    cases q : sq S d with
    | none => rw [q] at h; exact h.elim
    | some xs =>
      rw [q] at h
      simp only [Option.bind_some] at h
      cases q2 : blsOf xs with
      | none => rw [q2] at h; exact h.elim
      | some bs =>
        rw [q2] at h
        obtain ⟨a, vs, rfl, hs, hv, hL, _⟩ := hS.sq hd q
        have e := hv.bls q2
        subst e
        exact cr_all hc pins s σ H _ us Q I r ⟨a, bs, rfl, hL hl, h.ok hS .bl⟩
  · exact h.elim
theorem c_any (hc : X.calm = true) : CallR X (.builtin "any") (rC1 X.K (evB1 .any)) := by
  intro pins s σ H xs us Q I r h
  obtain ⟨μ, S, d, v, CT, W, σ0, rfl, hS, hd, h⟩ := h
  simp only [evB1] at h
  split at h
  · rename_i hl
    cases q : sq S d with
    | none => rw [q] at h; exact h.elim
    | some xs =>
      rw [q] at h
      simp only [Option.bind_some] at h
      cases q2 : blsOf xs with
      | none => rw [q2] at h; exact h.elim
      | some bs =>
        rw [q2] at h
        obtain ⟨a, vs, rfl, hs, hv, hL, _⟩ := hS.sq hd q
        have e := hv.bls q2
        subst e
        exact cr_any hc pins s σ H _ us Q I r ⟨a, bs, rfl, hL hl, h.ok hS .bl⟩
  · exact h.elim
theorem c_sum (hc : X.calm = true) : CallR X (.builtin "sum") (rC1 X.K (evB1 .sum)) := by
  intro pins s σ H xs us Q I r h
  obtain ⟨μ, S, d, v, CT, W, σ0, rfl, hS, hd, h⟩ := h
  simp only [evB1] at h
  split at h
  · rename_i hl
    cases q : sq S d with
    | none => rw [q] at h; exact h.elim
    | some xs =>
      rw [q] at h
      simp only [Option.bind_some] at h
      cases q2 : intsOf xs with
      | none => rw [q2] at h; exact h.elim
      | some bs =>
        rw [q2] at h
        obtain ⟨a, vs, rfl, hs, hv, hL, _⟩ := hS.sq hd q
        have e := hv.ints q2
        subst e
        exact cr_sum hc pins s σ H _ us Q I r ⟨a, bs, rfl, hL hl, h.ok hS .int⟩
  · exact h.elim
theorem c_tuple : CallR X (.type "tuple") (rC1 X.K (evB1 .tuple)) := by
  intro pins s σ H xs us Q I r h
  obtain ⟨μ, S, d, v, CT, W, σ0, rfl, hS, hd, h⟩ := h
  simp only [evB1] at h
  cases q : sq S d with
  | none => rw [q] at h; exact h.elim
  | some xs =>
    rw [q] at h
    obtain ⟨a, vs, rfl, hs, hv, hL, hT⟩ := hS.sq hd q
    refine call_tuple_of pins s σ H _ us Q I r ⟨a, vs, rfl, ?_⟩
    rcases hs with hs | hs
    · exact .inl ⟨hs, fin_tup hS hv h⟩
    · exact .inr ⟨hs, h.ok hS (.tup hs hv)⟩
theorem c_list : CallR X (.type "list") (rC1 X.K (evB1 .list)) := by
  intro pins s σ H xs us Q I r h
  obtain ⟨μ, S, d, v, CT, W, σ0, rfl, hS, hd, h⟩ := h
  simp only [evB1] at h
  cases q : sq S d with
  | none => rw [q] at h; exact h.elim
  | some xs =>
    rw [q] at h
    obtain ⟨a, vs, rfl, hs, hv, hL, hT⟩ := hS.sq hd q
    exact call_list_of pins s σ H _ us Q I r ⟨a, vs, rfl, hs, fin_lst hS hv h⟩
theorem c_repr (hg : X.A.guards = some []) (hu : X.A.units + 65 < cLine) : CallR X (.builtin "repr") (rC1 X.K (evB1 .repr)) := by
  intro pins s σ H xs us Q I r h
  obtain ⟨μ, S, d, v, CT, W, σ0, rfl, hS, hd, h⟩ := h
  simp only [evB1] at h
  cases q : toPy S 40 d with
  | none => rw [q] at h; exact h.elim
  | some p =>
    rw [q] at h
    dsimp only at h
    split at h
    · rename_i hc
      simp only [Bool.and_eq_true, Bool.not_eq_true', decide_eq_true_eq] at hc
      exact call_reprD hg hu pins s σ H _ us Q I r ⟨v, p, rfl, toPy_dp hS _ _ _ _ q hd, hc.1.1.1, hc.1.1.2, hc.1.2, hc.2, h.ok hS .str⟩
    · exact h.elim
theorem c_str : CallR X (.type "str") (rC1 X.K (evB1 .str)) := by
  intro pins s σ H xs us Q I r h
  obtain ⟨μ, S, d, v, CT, W, σ0, rfl, hS, hd, h⟩ := h
  cases d with
  | int i =>
    simp only [evB1] at h
    split at h
    · rename_i hl
      exact call_str_int pins s σ H _ us Q I r ⟨i, by rw [hd.int_], hl, h.ok hS .str⟩
    · exact h.elim
  | _ => exact h.elim
theorem c_min (hc : X.calm = true) : CallR X (.builtin "min") (rC2 X.K (evB2 .min)) := by
  intro pins s σ H xs us Q I r h
  obtain ⟨μ, S, d, e, v, u, CT, W, σ0, rfl, hS, hd, he, h⟩ := h
  cases d with
  | int i =>
    cases e with
    | int j => exact call_min2 hc pins s σ H _ us Q I r ⟨i, j, by rw [hd.int_, he.int_], h.ok hS .int⟩
    | _ => exact h.elim
  | _ => exact h.elim
theorem c_max (hc : X.calm = true) : CallR X (.builtin "max") (rC2 X.K (evB2 .max)) := by
  intro pins s σ H xs us Q I r h
  obtain ⟨μ, S, d, e, v, u, CT, W, σ0, rfl, hS, hd, he, h⟩ := h
  cases d with
  | int i =>
    cases e with
    | int j => exact call_max2 hc pins s σ H _ us Q I r ⟨i, j, by rw [hd.int_, he.int_], h.ok hS .int⟩
    | _ => exact h.elim
  | _ => exact h.elim
def tyN : Ty → String
  | .int => "int"
  | .bool => "bool"
  | .str => "str"
  | .tuple => "tuple"
  | .list => "list"
/-- isinstance(x, T) -/
def rIs (K : PySem.W.Frag) (t : Ty) : List V → Hp → VK → Prop := fun xs H Q => ∃ μ S d v CT W σ, xs = [v, .ty (tyN t)] ∧ RS K μ H S ∧ RV K μ H d v ∧ Out K CT W (RV K) μ H σ (evIsi d t S) Q
theorem kk_non : ∀ t : Ty, kitB "NoneType" (tyN t) = some false := by intro t; cases t <;> decide +kernel
theorem kk_bl : ∀ t : Ty, kitB "bool" (tyN t) = some (decide (t = .int) || decide (t = .bool)) := by intro t; cases t <;> decide +kernel
theorem kk_int : ∀ t : Ty, kitB "int" (tyN t) = some (decide (t = .int)) := by intro t; cases t <;> decide +kernel
theorem kk_str : ∀ t : Ty, kitB "str" (tyN t) = some (decide (t = .str)) := by intro t; cases t <;> decide +kernel
theorem kk_tup : ∀ t : Ty, kitB "tuple" (tyN t) = some (decide (t = .tuple)) := by intro t; cases t <;> decide +kernel
theorem kk_lst : ∀ t : Ty, kitB "list" (tyN t) = some (decide (t = .list)) := by intro t; cases t <;> decide +kernel
theorem c_isi (t : Ty) : CallR X (.builtin "isinstance") (rIs X.K t) := by
  intro pins s σ H xs us Q I r h
  obtain ⟨μ, S, d, v, CT, W, σ0, rfl, hS, hd, h⟩ := h
  refine call_isi pins s σ H _ us Q I r ?_
  have fin : ∀ {ty : String}, TyX X.K H v (.type ty) → PySem.W.kitOne X.K (.type ty) (.type (tyN t)) = some (isTy t d) → (∀ n, d = .ref n → isL S[n]? = true) → rIsi X.K [v, .ty (tyN t)] H Q := fun {ty} hT hk hr => by
    refine ⟨v, .ty (tyN t), .type ty, .type (tyN t), isTy t d, rfl, .ty _, hT, hk, ?_⟩
    unfold evIsi at h
    split at h
    · rename_i n
      rw [if_pos (hr n rfl)] at h
      exact h.ok hS .bl
    · exact h.ok hS .bl
  cases d with
  | non => rw [hd.non_] at fin ⊢; exact fin (.base .non) (kit_ty (kk_non t)) (fun _ z => by cases z)
  | bl b => rw [hd.bl_] at fin ⊢; exact fin (.base (.bl b)) (kit_ty (kk_bl t)) (fun _ z => by cases z)
  | int b => rw [hd.int_] at fin ⊢; exact fin (.base (.int b)) (kit_ty (kk_int t)) (fun _ z => by cases z)
  | str b => rw [hd.str_] at fin ⊢; exact fin (.base (.str b)) (kit_ty (kk_str t)) (fun _ z => by cases z)
  | tup ds =>
    obtain ⟨a, vs, rfl, ha, hv⟩ := hd.tup_
    have hT : TyX X.K H (.ref a) (.type "tuple") := by
      rcases ha with (ha | ⟨o, ha⟩) | ⟨o, its, n, e, c, _⟩
      · exact .base (.tup ha)
      · exact .fTuple ha
      · exact .kTuple e c
    exact fin hT (kit_ty (kk_tup t)) (fun _ z => by cases z)
  | rol ds =>
    obtain ⟨a, vs, rfl, ha, hv⟩ := hd.rol_
    have hT : TyX X.K H (.ref a) (.type "list") := by
      rcases ha with ⟨o, ha⟩ | ⟨o, its, n, e, c, _⟩
      · exact .base (.frz ha)
      · exact .kList e c
    exact fin hT (kit_ty (kk_lst t)) (fun _ z => by cases z)
  | ref n =>
    by_cases hs : isL S[n]? = true
    · obtain ⟨xs, q⟩ := isL_inv hs
      obtain ⟨a, vs, rfl, _, ha, hv⟩ := hS.lst hd q
      exact fin (.base (.lst ha)) (kit_ty (kk_lst t)) (fun m z => by cases z; exact hs)
    · simp only [evIsi] at h
      rw [if_neg hs] at h
      exact h.elim

/-! ### methods -/
def rM0 (K : PySem.W.Frag) (m : M0) : V → List V → Hp → VK → Prop := fun x xs H Q => ∃ μ S d CT W σ, xs = [] ∧ RS K μ H S ∧ RV K μ H d x ∧ Out K CT W (RV K) μ H σ (evM0 m d S) Q
def rM1 (K : PySem.W.Frag) (m : M1) : V → List V → Hp → VK → Prop := fun x xs H Q => ∃ μ S d e v CT W σ, xs = [v] ∧ RS K μ H S ∧ RV K μ H d x ∧ RV K μ H e v ∧ Out K CT W (RV K) μ H σ (evM1 m d e S) Q
theorem m_pop : MtR X "list.pop" (rM0 X.K .pop) := by
  intro pins s σ H x xs v us Q I rx rs h
  obtain ⟨μ, S, d, CT, W, σ0, rfl, hS, hd, h⟩ := h
  cases d with
  | ref n =>
    simp only [evM0] at h
    split at h
    · rename_i ys e
      split at h
      · rename_i y ey
        obtain ⟨a, vs, rfl, ha, hl, hv⟩ := hS.lst hd e
        obtain ⟨z, ez, hz⟩ := hv.get ey
        obtain ⟨x1, s1⟩ := hS.upd ha hv.dropLast
        exact mt_pop pins s σ H _ _ v us Q I rx rs ⟨a, vs, z, rfl, rfl, hl, by rw [hv.length]; exact ez, h _ _ _ x1 s1 (RV.mono x1 hS _ _ hz)⟩
      · exact h.elim
    · exact h.elim
  | _ => exact h.elim
theorem m_append : MtR X "list.append" (rM1 X.K .append) := by
  intro pins s σ H x xs v us Q I rx rs h
  obtain ⟨μ, S, d, e, w', CT, W, σ0, rfl, hS, hd, he, h⟩ := h
  cases d with
  | ref n =>
    simp only [evM1] at h
    split at h
    · rename_i ys q
      split at h
      · rename_i hl
        obtain ⟨a, vs, rfl, ha, hL, hv⟩ := hS.lst hd q
        obtain ⟨x1, s1⟩ := hS.upd ha (hv.append (.cons_ he .nil_))
        exact mt_append pins s σ H _ _ v us Q I rx rs ⟨a, vs, w', rfl, rfl, hL, by rw [hv.length]; exact hl, h _ _ _ x1 s1 .non⟩
      · exact h.elim
    · exact h.elim
  | _ => exact h.elim
theorem m_extend : MtR X "list.extend" (rM1 X.K .extend) := by
  intro pins s σ H x xs v us Q I rx rs h
  obtain ⟨μ, S, d, e, w', CT, W, σ0, rfl, hS, hd, he, h⟩ := h
  cases d with
  | ref n =>
    cases e with
    | ref k =>
      simp only [evM1] at h
      split at h
      · rename_i ys zs q q2
        split at h
        · rename_i hl
          obtain ⟨a, vs, rfl, ha, hL, hv⟩ := hS.lst hd q
          obtain ⟨b, ws, rfl, hb, hL2, hw⟩ := hS.lst he q2
          obtain ⟨x1, s1⟩ := hS.upd ha (hv.append hw)
          exact mt_extend pins s σ H _ _ v us Q I rx rs ⟨a, b, vs, ws, rfl, rfl, hL, hL2, by rw [hv.length, hw.length]; exact hl, h _ _ _ x1 s1 .non⟩
        · exact h.elim
      · exact h.elim
    | _ => exact h.elim
  | _ => exact h.elim
theorem m_popAt : MtR X "list.pop" (rM1 X.K .popAt) := by
  intro pins s σ H x xs v us Q I rx rs h
  obtain ⟨μ, S, d, e, w', CT, W, σ0, rfl, hS, hd, he, h⟩ := h
  cases d with
  | ref n =>
    cases e with
    | int i =>
      simp only [evM1] at h
      split at h
      · rename_i ys q
        split at h
        · rename_i hb
          simp only [Bool.and_eq_true, decide_eq_true_eq] at hb
          split at h
          · rename_i k ek
            split at h
            · rename_i y ey
              obtain ⟨a, vs, rfl, ha, hL, hv⟩ := hS.lst hd q
              obtain ⟨z, ez, hz⟩ := hv.get ey
              obtain ⟨x1, s1⟩ := hS.upd ha (hv.eraseIdx k)
              exact mt_popAt pins s σ H _ _ v us Q I rx rs ⟨a, vs, i, k, z, rfl, by rw [he.int_], hL, hb.1, hb.2, by rw [hv.length]; exact ek, ez, h _ _ _ x1 s1 (RV.mono x1 hS _ _ hz)⟩
            · exact h.elim
          · exact h.elim
        · exact h.elim
      · exact h.elim
    | _ => exact h.elim
  | _ => exact h.elim
theorem m_split : MtR X "str.split" (rM1 X.K .split) := by
  intro pins s σ H x xs v us Q I rx rs h
  obtain ⟨μ, S, d, e, w', CT, W, σ0, rfl, hS, hd, he, h⟩ := h
  cases d with
  | str a =>
    cases e with
    | str b =>
      simp only [evM1] at h
      split at h
      · rename_i hb
        simp only [Bool.and_eq_true, Bool.not_eq_true', decide_eq_true_eq] at hb
        have go : ∀ l : List Str, RVs X.K μ H (l.map D.str) (l.map V.str) := fun l => by
          induction l with
          | nil => exact .nil_
          | cons m r ih => exact .cons_ .str ih
        exact mt_split pins s σ H _ _ v us Q I rx rs ⟨a, b, hd.str_, by rw [he.str_], hb.1, hb.2, fin_lst hS (go _) h⟩
      · exact h.elim
    | _ => exact h.elim
  | _ => exact h.elim
theorem m_join : MtR X "str.join" (rM1 X.K .join) := by
  intro pins s σ H x xs v us Q I rx rs h
  obtain ⟨μ, S, d, e, w', CT, W, σ0, rfl, hS, hd, he, h⟩ := h
  cases d with
  | str a =>
    simp only [evM1] at h
    cases q : sq S e with
    | none => rw [q] at h; exact h.elim
    | some ys =>
      rw [q] at h
      simp only [Option.bind_some] at h
      cases q2 : strsOf ys with
      | none => rw [q2] at h; exact h.elim
      | some zs =>
        rw [q2] at h
        dsimp only at h
        split at h
        · rename_i hl
          obtain ⟨b, vs, rfl, hs, hv, _⟩ := hS.sq he q
          have e := hv.strs q2
          subst e
          exact mt_join pins s σ H _ _ v us Q I rx rs ⟨a, b, zs, hd.str_, rfl, hs, hl, h.ok hS .str⟩
        · exact h.elim
  | _ => exact h.elim
theorem ty_lst {μ : List Addr} {H : Hp} {S : Store} {d : D} {x : V} (hS : RS X.K μ H S) (hd : RV X.K μ H d x) (h : isLst d S = true) : tyV X.K "list" x H := by
  cases d with
  | ref n =>
    simp only [isLst] at h
    split at h
    · rename_i ys e
      obtain ⟨a, vs, rfl, ha, hl, hv⟩ := hS.lst hd e
      exact .inl ⟨rfl, _, .of hl⟩
    · cases h
  | _ => cases h
theorem ty_str {μ : List Addr} {H : Hp} {d : D} {x : V} (hd : RV X.K μ H d x) (h : isStr d = true) : tyV X.K "str" x H := by
  cases d with
  | str n => rw [hd.str_]; rfl
  | _ => cases h
end
end Cw
/-! CwD: the rules for expressions, over data. -/
namespace Cw
open PySem PySem.Spec PyProof.Rows L2

/-! ### readings -/
section
variable (K : PySem.W.Frag) (CT : Nat → Option Addr) (W : WX)
def tG {α β : Type} (rel : List Addr → Hp → α → β → Prop) (ev : Env → Store → Rs α) (σ : L2.St) (H : Hp) (Q : β → Hp → Prop) : Prop := ∃ μ ρ S, Rσ K μ H ρ σ ∧ RS K μ H S ∧ Out K CT W rel μ H σ (ev ρ S) Q
abbrev relEq {α : Type} : List Addr → Hp → α → α → Prop := fun _ _ a b => b = a
abbrev tX (ev : Env → Store → Rs D) : TE := tG K CT W (RV K) ev
abbrev tT (ev : Env → Store → Rs Bool) : TT := tG K CT W relEq ev
abbrev tA (ev : Env → Store → Rs (List D)) : TA := tG K CT W (RVs K) ev
abbrev tP (ev : Env → Store → Rs (Option Int)) : TO := tG K CT W relEq ev
/-- J walks src as it lies from μ0, H0 on -/
def Wk (J : L2.It) (src : Src) (μ0 : List Addr) (H0 : Hp) : Prop := ∀ μ H S, Ext μ0 H0 μ H → RS K μ H S → src.there S = true → ∀ i : Nat,
  (∀ d, src.at S i = some d → J.go i H ∧ ∀ x H', J.yld i H x H' → Ext μ H μ H' ∧ RS K μ H' S ∧ RV K μ H' d x) ∧ (src.at S i = none → J.stop i H)
abbrev tI (ev : Env → Store → Rs Src) : TI := tG K CT W (fun μ H src (J : L2.It) => Wk K J src μ H) ev
end

section
variable {K : PySem.W.Frag} {CT : Nat → Option Addr} {W : WX} {α β γ δ : Type} {rel : List Addr → Hp → α → β → Prop} {rel2 : List Addr → Hp → γ → δ → Prop}
/-- the first of two reckonings -/
theorem tG.fst {f : Env → Store → Rs α} {g : Env → α → Store → Rs γ} {σ : L2.St} {H : Hp} {Q : δ → Hp → Prop} (h : tG K CT W rel2 (fun ρ S => (f ρ S).bnd (g ρ)) σ H Q) :
    tG K CT W rel f σ H fun b H1 => ∃ μ ρ a S, Rσ K μ H1 ρ σ ∧ RS K μ H1 S ∧ rel μ H1 a b ∧ Out K CT W rel2 μ H1 σ (g ρ a S) Q := by
  obtain ⟨μ, ρ, S, hσ, hS, h⟩ := h
  exact ⟨μ, ρ, S, hσ, hS, (Out.bnd h).mono fun v H1 ⟨μ1, d, S1, x1, s1, r1, h1⟩ => ⟨μ1, ρ, d, S1, hσ.mono x1 hS, s1, r1, h1⟩⟩
/-- a value, then what is asked of it -/
theorem tX.one {f : Env → Store → Rs D} {k : D → Store → Rs γ} {σ : L2.St} {H : Hp} {Q : δ → Hp → Prop} (h : tG K CT W rel2 (fun ρ S => (f ρ S).bnd k) σ H Q) :
    tX K CT W f σ H fun x H1 => ∃ μ S d, RS K μ H1 S ∧ RV K μ H1 d x ∧ Out K CT W rel2 μ H1 σ (k d S) Q := by
  obtain ⟨μ, ρ, S, hσ, hS, h⟩ := tG.fst (rel := RV K) (g := fun _ => k) h
  exact ⟨μ, ρ, S, hσ, hS, h.mono fun v H1 ⟨μ1, _, d, S1, _, s1, r1, h1⟩ => ⟨μ1, S1, d, s1, r1, h1⟩⟩
/-- two values -/
theorem tX.two {f g : Env → Store → Rs D} {k : D → D → Store → Rs γ} {σ : L2.St} {H : Hp} {Q : δ → Hp → Prop} (h : tG K CT W rel2 (fun ρ S => (f ρ S).bnd fun x S1 => (g ρ S1).bnd fun y S2 => k x y S2) σ H Q) :
    tX K CT W f σ H fun x H1 => tX K CT W g σ H1 fun y H2 => ∃ μ S d e, RS K μ H2 S ∧ RV K μ H2 d x ∧ RV K μ H2 e y ∧ Out K CT W rel2 μ H2 σ (k d e S) Q := by
  obtain ⟨μ, ρ, S, hσ, hS, h⟩ := h
  exact ⟨μ, ρ, S, hσ, hS, (Out.bnd h).mono fun v H1 ⟨μ1, d, S1, x1, s1, r1, h1⟩ => ⟨μ1, ρ, S1, hσ.mono x1 hS, s1, (Out.bnd h1).mono fun u H2 ⟨μ2, e, S2, x2, s2, r2, h2⟩ => ⟨μ2, S2, d, e, s2, RV.mono x2 s1 _ _ r1, r2, h2⟩⟩⟩
theorem tG.mono {f : Env → Store → Rs α} {σ : L2.St} {H : Hp} {Q Q' : β → Hp → Prop} (h : tG K CT W rel f σ H Q) (k : ∀ b H', Q b H' → Q' b H') : tG K CT W rel f σ H Q' := by
  obtain ⟨μ, ρ, S, hσ, hS, h⟩ := h
  exact ⟨μ, ρ, S, hσ, hS, h.mono k⟩
theorem tG.of {f : Env → Store → Rs α} {μ : List Addr} {ρ : Env} {S : Store} {σ : L2.St} {H : Hp} {Q : β → Hp → Prop} (hσ : Rσ K μ H ρ σ) (hS : RS K μ H S) (h : Out K CT W rel μ H σ (f ρ S) Q) : tG K CT W rel f σ H Q := ⟨μ, ρ, S, hσ, hS, h⟩
end

theorem PE_of {X : Cx} {e : Expr} {t t' : TE} (h : PE X e t) (k : ∀ σ H Q, t' σ H Q → t σ H Q) : PE X e t' := ⟨fun pins s σ H Q I q => h.run pins s σ H Q I (k σ H Q q)⟩
theorem PT_of {X : Cx} {e : Expr} {t t' : TT} (h : PT X e t) (k : ∀ σ H Q, t' σ H Q → t σ H Q) : PT X e t' := ⟨fun pins s σ H Q I q => h.run pins s σ H Q I (k σ H Q q)⟩
theorem PW_of {X : Cx} {e : Expr} {t t' : TT} (h : PW X e t) (k : ∀ σ H Q, t' σ H Q → t σ H Q) : PW X e t' := ⟨fun wh pins s σ H Q I q => h.run wh pins s σ H Q I (k σ H Q q)⟩
theorem PA_of {X : Cx} {e : List Expr} {t t' : TA} (h : PA X e t) (k : ∀ σ H Q, t' σ H Q → t σ H Q) : PA X e t' := ⟨fun po pins s σ H Q I q => h.run po pins s σ H Q I (k σ H Q q)⟩
theorem PI_of {X : Cx} {tg e : Expr} {t t' : TI} (h : PI X tg e t) (k : ∀ σ H Q, t' σ H Q → t σ H Q) : PI X tg e t' := ⟨fun pins s σ H Q I q => h.run pins s σ H Q I (k σ H Q q)⟩
theorem PO_of {X : Cx} {e : Option Expr} {t t' : TO} (h : PO X e t) (k : ∀ σ H Q, t' σ H Q → t σ H Q) : PO X e t' := ⟨fun pins s σ H Q I q => h.run pins s σ H Q I (k σ H Q q)⟩

section
variable {X : Cx} {CT : Nat → Option Addr} {W : WX} {a b c : Expr} {fa fb fc : Env → Store → Rs D} {ga gb gc : Env → Store → Rs Bool} {pos : Pos}

/-! ### names, constants, displays -/
theorem e_var {i : Nat} {x : Str} (h : PE X (.Name x pos) (tVar i)) : PE X (.Name x pos) (tX X.K CT W fun ρ S => match ρ[i]? with
    | some (some d) => .ok d S
    | _ => .bad) := PE_of h fun σ H Q ⟨μ, ρ, S, hσ, hS, h⟩ => by
  cases q : ρ[i]? with
  | none => simp only [q] at h; exact h.elim
  | some o =>
    cases o with
    | none => simp only [q] at h; exact h.elim
    | some d =>
      simp only [q] at h
      obtain ⟨v, e, r⟩ := hσ.at_ i d q
      exact ⟨v, e, h.ok hS r⟩
theorem e_cst {e : Expr} {v : V} {d : D} (h : PE X e (tC v)) (r : ∀ μ H, RV X.K μ H d v) : PE X e (tX X.K CT W fun _ S => .ok d S) := PE_of h fun σ H Q ⟨μ, ρ, S, hσ, hS, h⟩ => h.ok hS (r μ H)
theorem e_tup {es : List Expr} {k : Nat} {fs : Env → Store → Rs (List D)} (h : PA X es (tA X.K CT W fs)) : PE X (.Tuple es k pos) (tX X.K CT W fun ρ S => (fs ρ S).bnd mkTup) := PE_of (pe_tup h) fun σ H Q q => by
  refine (tG.fst (rel := RVs X.K) (g := fun _ => mkTup) q).mono fun vs H1 ⟨μ, ρ, ds, S, hσ, hS, hv, h⟩ => ?_
  unfold mkTup at h
  split at h
  · rename_i hl
    exact ⟨by rw [hv.length]; exact hl, fin_tup hS hv h⟩
  · exact h.elim
theorem e_lst {es : List Expr} {fs : Env → Store → Rs (List D)} (h : PA X es (tA X.K CT W fs)) : PE X (.List es pos) (tX X.K CT W fun ρ S => (fs ρ S).bnd alloc) := PE_of (pe_lst h) fun σ H Q q => by
  refine (tG.fst (rel := RVs X.K) (g := fun _ => alloc) q).mono fun vs H1 ⟨μ, ρ, ds, S, hσ, hS, hv, h⟩ => ?_
  unfold alloc at h
  split at h
  · rename_i hl
    exact ⟨by rw [hv.length]; exact hl, fin_lst hS hv h⟩
  · exact h.elim
theorem a_nil : PA X [] (tA X.K CT W fun _ S => .ok [] S) := PA_of pa_nil fun σ H Q ⟨μ, ρ, S, hσ, hS, h⟩ => h.ok hS .nil_
theorem a_cons {es : List Expr} {fs : Env → Store → Rs (List D)} (ha : PE X a (tX X.K CT W fa)) (hr : PA X es (tA X.K CT W fs)) (hs : starEach (a :: es) X.env = (false, eval a X.env) :: starEach es X.env) :
    PA X (a :: es) (tA X.K CT W fun ρ S => (fa ρ S).bnd fun x S1 => (fs ρ S1).bnd fun xs S2 => .ok (x :: xs) S2) := PA_of (pa_cons ha hr hs) fun σ H Q q => by
  refine (tG.fst (rel := RV X.K) (g := fun ρ x S1 => (fs ρ S1).bnd fun xs S2 => .ok (x :: xs) S2) q).mono fun v H1 ⟨μ, ρ, d, S, hσ, hS, hv, h⟩ => ?_
  exact ⟨μ, ρ, S, hσ, hS, (Out.bnd h).mono fun vs H2 ⟨μ2, ds, S2, x2, s2, r2, h2⟩ => h2.ok s2 (.cons_ (RV.mono x2 hS _ _ hv) r2)⟩
theorem k_nil : PK X [] (tA X.K CT W fun _ S => .ok [] S) := ⟨fun po pins s σ H Q I ⟨μ, ρ, S, hσ, hS, h⟩ => pk_nil.run po pins s σ H Q I (h.ok hS .nil_)⟩
theorem k_cons {nm : Option Str} {kp : Pos} {kws : List Keyword} {fs : Env → Store → Rs (List D)} (ha : PE X a (tX X.K CT W fa)) (hr : PK X kws (tA X.K CT W fs)) :
    PK X (⟨nm, a, kp⟩ :: kws) (tA X.K CT W fun ρ S => (fa ρ S).bnd fun x S1 => (fs ρ S1).bnd fun xs S2 => .ok (x :: xs) S2) := ⟨fun po pins s σ H Q I q => (pk_cons ha hr).run po pins s σ H Q I (by
  refine (tG.fst (rel := RV X.K) (g := fun ρ x S1 => (fs ρ S1).bnd fun xs S2 => .ok (x :: xs) S2) q).mono fun v H1 ⟨μ, ρ, d, S, hσ, hS, hv, h⟩ => ?_
  exact ⟨μ, ρ, S, hσ, hS, (Out.bnd h).mono fun vs H2 ⟨μ2, ds, S2, x2, s2, r2, h2⟩ => h2.ok s2 (.cons_ (RV.mono x2 hS _ _ hv) r2)⟩)⟩

/-! ### operators -/
theorem e_bin (op : Bop) (ha : PE X a (tX X.K CT W fa)) (hb : PE X b (tX X.K CT W fb)) : PE X (.BinOp a (opB op) b pos) (tX X.K CT W (bin2 fa fb (evBop op))) := PE_of (pe_op (op_B op) ha hb) fun σ H Q q =>
  (tX.two q).mono fun x H1 h1 => h1.mono fun y H2 ⟨μ, S, d, e, hS, hd, he, h⟩ => ⟨μ, S, d, e, CT, W, σ, hS, hd, he, h⟩
theorem e_neg (ha : PE X a (tX X.K CT W fa)) : PE X (.UnaryOp .USub a pos) (tX X.K CT W fun ρ S => (fa ρ S).bnd evNeg) := PE_of (pe_un un_neg ha) fun σ H Q q =>
  (tX.one q).mono fun x H1 ⟨μ, S, d, hS, hd, h⟩ => by
    cases d with
    | int i => exact ⟨i, hd.int_, h.ok hS .int⟩
    | _ => exact h.elim
theorem e_not (ha : PE X a (tX X.K CT W fa)) : PE X (.UnaryOp .Not a pos) (tX X.K CT W fun ρ S => (fa ρ S).bnd evNot) := PE_of (pe_not ha) fun σ H Q q =>
  (tX.one q).mono fun x H1 ⟨μ, S, d, hS, hd, h⟩ => by
    cases d with
    | bl i => exact ⟨i, hd.bl_, h.ok hS .bl⟩
    | _ => exact h.elim
theorem t_not (ha : PT X a (tT X.K CT W ga)) : PT X (.UnaryOp .Not a pos) (tT X.K CT W fun ρ S => (ga ρ S).bnd fun k S1 => .ok (!k) S1) := PT_of (pt_not ha) fun σ H Q q =>
  (tG.fst (rel := relEq) (g := fun _ k S1 => .ok (!k) S1) q).mono fun k H1 ⟨μ, ρ, d, S, hσ, hS, hd, h⟩ => by
    have e : k = d := hd
    subst e
    exact h.ok hS rfl
theorem e_and {rest : List Expr} (ha : PE X a (tX X.K CT W fa)) (hb : PE X (.BoolOp .And (b :: rest) pos) (tX X.K CT W fb)) : PE X (.BoolOp .And (a :: b :: rest) pos) (tX X.K CT W (evAnd fa fb)) := PE_of (pe_and ha hb) fun σ H Q q => by
  refine (tG.fst (rel := RV X.K) (g := fun ρ x S1 => match x with
    | .bl true => fb ρ S1
    | .bl false => .ok (.bl false) S1
    | _ => .bad) q).mono fun x H1 ⟨μ, ρ, d, S, hσ, hS, hd, h⟩ => ?_
  cases d with
  | bl k =>
    refine ⟨k, hd.bl_, ?_⟩
    cases k with
    | true => exact ⟨μ, ρ, S, hσ, hS, h⟩
    | false => exact h.ok hS .bl
  | _ => exact h.elim
theorem e_or {rest : List Expr} (ha : PE X a (tX X.K CT W fa)) (hb : PE X (.BoolOp .Or (b :: rest) pos) (tX X.K CT W fb)) : PE X (.BoolOp .Or (a :: b :: rest) pos) (tX X.K CT W (evOr fa fb)) := PE_of (pe_or ha hb) fun σ H Q q => by
  refine (tG.fst (rel := RV X.K) (g := fun ρ x S1 => match x with
    | .bl true => .ok (.bl true) S1
    | .bl false => fb ρ S1
    | _ => .bad) q).mono fun x H1 ⟨μ, ρ, d, S, hσ, hS, hd, h⟩ => ?_
  cases d with
  | bl k =>
    refine ⟨k, hd.bl_, ?_⟩
    cases k with
    | true => exact h.ok hS .bl
    | false => exact ⟨μ, ρ, S, hσ, hS, h⟩
  | _ => exact h.elim
theorem w_and {rest : List Expr} (ha : PT X a (tT X.K CT W ga)) (hb : PW X (.BoolOp .And (b :: rest) pos) (tT X.K CT W gb)) : PW X (.BoolOp .And (a :: b :: rest) pos) (tT X.K CT W (evAndB ga gb)) := PW_of (pw_and ha hb) fun σ H Q q => by
  refine (tG.fst (rel := relEq) (g := fun ρ k S1 => match k with
    | true => gb ρ S1
    | false => .ok false S1) q).mono fun x H1 ⟨μ, ρ, d, S, hσ, hS, hd, h⟩ => ?_
  have e : x = d := hd
  subst e
  cases x with
  | true => exact ⟨μ, ρ, S, hσ, hS, h⟩
  | false => exact h.ok hS rfl
theorem w_or {rest : List Expr} (ha : PT X a (tT X.K CT W ga)) (hb : PW X (.BoolOp .Or (b :: rest) pos) (tT X.K CT W gb)) : PW X (.BoolOp .Or (a :: b :: rest) pos) (tT X.K CT W (evOrB ga gb)) := PW_of (pw_or ha hb) fun σ H Q q => by
  refine (tG.fst (rel := relEq) (g := fun ρ k S1 => match k with
    | true => .ok true S1
    | false => gb ρ S1) q).mono fun x H1 ⟨μ, ρ, d, S, hσ, hS, hd, h⟩ => ?_
  have e : x = d := hd
  subst e
  cases x with
  | true => exact h.ok hS rfl
  | false => exact ⟨μ, ρ, S, hσ, hS, h⟩
theorem e_ite (hc : PT X c (tT X.K CT W gc)) (ha : PE X a (tX X.K CT W fa)) (hb : PE X b (tX X.K CT W fb)) : PE X (.IfExp c a b pos) (tX X.K CT W (evIte gc fa fb)) := PE_of (pe_ifExp hc ha hb) fun σ H Q q => by
  refine (tG.fst (rel := relEq) (g := fun ρ k S1 => match k with
    | true => fa ρ S1
    | false => fb ρ S1) q).mono fun x H1 ⟨μ, ρ, d, S, hσ, hS, hd, h⟩ => ?_
  have e : x = d := hd
  subst e
  cases x with
  | true => exact ⟨μ, ρ, S, hσ, hS, h⟩
  | false => exact ⟨μ, ρ, S, hσ, hS, h⟩
/-- a test by cases of another -/
theorem isTrue_ife {prog : Program} {w : World} {A : Around} {E : Value → Shared → Prop} {s : Shared} {env : PySem.Env} {whole : Sem Value} {Q : Bool → Shared → Prop}
    (h : wpAny (model prog w) A (isTrue c env (eval c env)) (fun k s1 => wpAny (model prog w) A (if k = true then isTrue a env (eval a env) else isTrue b env (eval b env)) Q E s1) E s) :
    wpAny (model prog w) A (isTrue (.IfExp c a b pos) env whole) Q E s := by
  have e : isTrue (.IfExp c a b pos) env whole = (do if ← isTrue c env (eval c env) then isTrue a env (eval a env) else isTrue b env (eval b env)) := by rfl
  rw [e]
  exact wpAny_bind h
theorem t_ite (hc : PT X c (tT X.K CT W gc)) (ha : PT X a (tT X.K CT W ga)) (hb : PT X b (tT X.K CT W gb)) : PT X (.IfExp c a b pos) (tT X.K CT W (evIte gc ga gb)) := by
  refine ⟨fun pins s σ H Q I q => ?_⟩
  have q' := (tG.fst (rel := relEq) (g := fun ρ k S1 => match k with
    | true => ga ρ S1
    | false => gb ρ S1) q)
  refine isTrue_ife (thn (hc.run pins s σ H _ I q') fun k s1 ⟨H1, I1, μ, ρ, d, S, hσ, hS, hd, h⟩ => ?_)
  have e : k = d := hd
  subst e
  cases k with
  | true => exact ha.run pins s1 σ H1 Q I1 ⟨μ, ρ, S, hσ, hS, h⟩
  | false => exact hb.run pins s1 σ H1 Q I1 ⟨μ, ρ, S, hσ, hS, h⟩

/-! ### comparisons -/
theorem e_cmp (hu : X.A.units + 65 < cLine) (op : Cop) (ha : PE X a (tX X.K CT W fa)) (hb : PE X b (tX X.K CT W fb)) (hm : behindInMarks (opC op) b = false) : PE X (.Compare a [opC op] [b] pos) (tX X.K CT W (bin2 fa fb (evCop op))) := PE_of (pe_cmpR (op_C hu op) ha hb hm) fun σ H Q q =>
  (tX.two q).mono fun x H1 h1 => h1.mono fun y H2 ⟨μ, S, d, e, hS, hd, he, h⟩ => ⟨μ, S, d, e, CT, W, σ, hS, hd, he, h⟩
theorem ofBl_of {μ : List Addr} {H : Hp} {σ : L2.St} {r : Rs D} {Q : Bool → Hp → Prop} (h : Out X.K CT W relEq μ H σ (r.bnd ofBl) Q) : Out X.K CT W (RV X.K) μ H σ r fun x H' => ∃ k, x = .bl k ∧ Q k H' :=
  (Out.bnd (rel := RV X.K) h).mono fun x H1 ⟨μ1, d, S, x1, s1, hd, h1⟩ => by
    cases d with
    | bl k => exact ⟨k, hd.bl_, h1.ok s1 rfl⟩
    | _ => exact h1.elim
theorem t_cmp (hu : X.A.units + 65 < cLine) (op : Cop) (ha : PE X a (tX X.K CT W fa)) (hb : PE X b (tX X.K CT W fb)) (hm : behindInMarks (opC op) b = false) : PT X (.Compare a [opC op] [b] pos) (tT X.K CT W fun ρ S => (bin2 fa fb (evCop op) ρ S).bnd ofBl) := PT_of (pt_cmpR (op_C hu op) ha hb hm) fun σ H Q q => by
  obtain ⟨μ, ρ, S, hσ, hS, h⟩ := q
  have q : tX X.K CT W (bin2 fa fb (evCop op)) σ H fun x H' => ∃ k, x = .bl k ∧ Q k H' := ⟨μ, ρ, S, hσ, hS, ofBl_of h⟩
  exact (tX.two q).mono fun x H1 h1 => h1.mono fun y H2 ⟨μ, S, d, e, hS, hd, he, h⟩ => ⟨μ, S, d, e, CT, W, σ, hS, hd, he, h⟩
theorem chain_of {o1 o2 : Cop} {σ : L2.St} {H : Hp} {Q : VK} (q : tX X.K CT W (evChain o1 o2 fa fb fc) σ H Q) : tChain (rP X.K (evCop o1)) (rP X.K (evCop o2)) (tX X.K CT W fa) (tX X.K CT W fb) (tX X.K CT W fc) σ H Q := by
  obtain ⟨μ, ρ, S, hσ, hS, h⟩ := q
  refine ⟨μ, ρ, S, hσ, hS, (Out.bnd h).mono fun v H1 ⟨μ1, d, S1, x1, s1, r1, h1⟩ => ⟨μ1, ρ, S1, hσ.mono x1 hS, s1, (Out.bnd h1).mono fun u H2 ⟨μ2, e, S2, x2, s2, r2, h2⟩ => ?_⟩⟩
  refine ⟨μ2, S2, d, e, CT, W, σ, s2, RV.mono x2 s1 _ _ r1, r2, (Out.bnd (rel := RV X.K) h2).mono fun z H3 ⟨μ3, f, S3, x3, s3, r3, h3⟩ => ?_⟩
  cases f with
  | bl k =>
    refine ⟨k, r3.bl_, ?_⟩
    cases k with
    | true =>
      show tX X.K CT W fc σ H3 _
      exact ⟨μ3, ρ, S3, ((hσ.mono x1 hS).mono x2 s1).mono x3 s2, s3, (Out.bnd h3).mono fun w' H4 ⟨μ4, g, S4, x4, s4, r4, h4⟩ => ⟨μ4, S4, e, g, CT, W, σ, s4, RV.mono (x3.trans x4) s2 _ _ r2, r4, h4⟩⟩
    | false => exact h3.ok s3 .bl
  | _ => exact h3.elim
theorem e_chain (hu : X.A.units + 65 < cLine) (o1 o2 : Cop) (ha : PE X a (tX X.K CT W fa)) (hb : PE X b (tX X.K CT W fb)) (hc : PE X c (tX X.K CT W fc)) (hm : lastMarks [opC o1, opC o2] [b, c] = false) :
    PE X (.Compare a [opC o1, opC o2] [b, c] pos) (tX X.K CT W (evChain o1 o2 fa fb fc)) := PE_of (pe_chain (op_C hu o1) (op_C hu o2) ha hb hc hm) fun σ H Q q => chain_of q
theorem t_chain (hu : X.A.units + 65 < cLine) (o1 o2 : Cop) (ha : PE X a (tX X.K CT W fa)) (hb : PE X b (tX X.K CT W fb)) (hc : PE X c (tX X.K CT W fc)) (hm : lastMarks [opC o1, opC o2] [b, c] = false) :
    PT X (.Compare a [opC o1, opC o2] [b, c] pos) (tT X.K CT W fun ρ S => (evChain o1 o2 fa fb fc ρ S).bnd ofBl) := PT_of (pt_chain (op_C hu o1) (op_C hu o2) ha hb hc hm) fun σ H Q ⟨μ, ρ, S, hσ, hS, h⟩ => chain_of ⟨μ, ρ, S, hσ, hS, ofBl_of h⟩
/-- a value's truth -/
theorem t_val (ha : PE X a (tX X.K CT W fa)) (he : ∀ whole, isTrue a X.env whole = (do let v ← whole; standAt a.pos; holding [v] (truthy v))) : PT X a (tT X.K CT W fun ρ S => (fa ρ S).bnd evTru) := PT_of (pt_truth ha he) fun σ H Q q =>
  (tX.one q).mono fun x H1 ⟨μ, S, d, hS, hd, h⟩ => by
    unfold evTru at h
    cases q2 : truD S d with
    | none => rw [q2] at h; exact h.elim
    | some k => rw [q2] at h; exact ⟨k, truV_of hS hd q2, h.ok hS rfl⟩

/-! ### subscripts -/
theorem e_idx (ha : PE X a (tX X.K CT W fa)) (hb : PE X b (tX X.K CT W fb)) (hs : PlainIx b) : PE X (.Subscript a b pos) (tX X.K CT W (bin2 fa fb evIdx)) := PE_of (pe_ix ix_G ha hb hs) fun σ H Q q =>
  (tX.two q).mono fun x H1 h1 => h1.mono fun y H2 ⟨μ, S, d, e, hS, hd, he, h⟩ => ⟨μ, S, d, e, CT, W, σ, hS, hd, he, h⟩
theorem p_none : PO X none (tP X.K CT W fun _ S => .ok none S) := PO_of po_none fun σ H Q ⟨μ, ρ, S, hσ, hS, h⟩ => h.ok hS rfl
theorem p_some (ha : PE X a (tX X.K CT W fa)) : PO X (some a) (tP X.K CT W fun ρ S => (fa ρ S).bnd fun x S1 => match x with
    | .int i => .ok (some i) S1
    | _ => .bad) := PO_of (po_some ha) fun σ H Q q => (tX.one q).mono fun x H1 ⟨μ, S, d, hS, hd, h⟩ => by
  cases d with
  | int i => exact ⟨i, hd.int_, h.ok hS rfl⟩
  | _ => exact h.elim
theorem e_slc {lo hi : Option Expr} {fl fh : Env → Store → Rs (Option Int)} {p2 : Pos} (ha : PE X a (tX X.K CT W fa)) (hl : PO X lo (tP X.K CT W fl)) (hh : PO X hi (tP X.K CT W fh)) :
    PE X (.Subscript a (.Slice lo hi none p2) pos) (tX X.K CT W fun ρ S => (fa ρ S).bnd fun x S1 => (fl ρ S1).bnd fun l S2 => (fh ρ S2).bnd fun h S3 => evSlc x l h S3) := PE_of (pe_slice sl_G ha hl hh) fun σ H Q q => by
  obtain ⟨μ, ρ, S, hσ, hS, h⟩ := q
  refine ⟨μ, ρ, S, hσ, hS, (Out.bnd h).mono fun v H1 ⟨μ1, d, S1, x1, s1, r1, h1⟩ => ⟨μ1, ρ, S1, hσ.mono x1 hS, s1, (Out.bnd (rel := relEq) h1).mono fun l H2 ⟨μ2, l', S2, x2, s2, r2, h2⟩ => ?_⟩⟩
  refine ⟨μ2, ρ, S2, (hσ.mono x1 hS).mono x2 s1, s2, (Out.bnd (rel := relEq) h2).mono fun u H3 ⟨μ3, u', S3, x3, s3, r3, h3⟩ => ?_⟩
  have e2 : l = l' := r2
  have e3 : u = u' := r3
  subst e2
  subst e3
  exact ⟨μ3, S3, d, CT, W, σ, s3, RV.mono (x2.trans x3) s1 _ _ r1, h3⟩

/-! ### built-ins -/
theorem e_b1B {f : B1} {id : String} {x : Str} {p : Pos} (hc : CallR X (.builtin id) (rC1 X.K (evB1 f))) (hg : Gl X x) (hm : X.mg x = none) (hv : bootBuiltins x = some (.builtin id)) (ha : PE X a (tX X.K CT W fa))
    (hs : starEach [a] X.env = (false, eval a X.env) :: starEach [] X.env) (hn : x ≠ "__name__") (hdb : (x == ("__debug__" : Str)) = false) : PE X (.Call (.Name x p) [a] [] pos) (tX X.K CT W fun ρ S => (fa ρ S).bnd (evB1 f)) :=
  PE_of (pe_callB hc hg hm hv (pa_cons ha pa_nil hs) hn hdb hs (by rfl)) fun σ H Q q => (tX.one q).mono fun x H1 ⟨μ, S, d, hS, hd, h⟩ => ⟨μ, S, d, x, CT, W, σ, rfl, hS, hd, h⟩
theorem e_b1T {f : B1} {id : String} {x : Str} {p : Pos} (hc : CallR X (.type id) (rC1 X.K (evB1 f))) (hg : Gl X x) (hm : X.mg x = none) (hv : bootBuiltins x = some (.type id)) (ha : PE X a (tX X.K CT W fa))
    (hs : starEach [a] X.env = (false, eval a X.env) :: starEach [] X.env) (hn : x ≠ "__name__") (hdb : (x == ("__debug__" : Str)) = false) : PE X (.Call (.Name x p) [a] [] pos) (tX X.K CT W fun ρ S => (fa ρ S).bnd (evB1 f)) :=
  PE_of (pe_callTy hc hg hm hv (pa_cons ha pa_nil hs) hn hdb hs (by rfl)) fun σ H Q q => (tX.one q).mono fun x H1 ⟨μ, S, d, hS, hd, h⟩ => ⟨μ, S, d, x, CT, W, σ, rfl, hS, hd, h⟩
theorem any_star {e : Expr} {env : PySem.Env} {p : Pos} (h : starEach [e] env = (false, eval e env) :: starEach [] env) : (backTo p (starEach [e] env)).any (·.1) = false := by
  rw [h]; rfl
theorem e_b2B {f : B2} {id : String} {x : Str} {p : Pos} (hc : CallR X (.builtin id) (rC2 X.K (evB2 f))) (hg : Gl X x) (hm : X.mg x = none) (hv : bootBuiltins x = some (.builtin id)) (ha : PE X a (tX X.K CT W fa)) (hb : PE X b (tX X.K CT W fb))
    (hs : starEach [a, b] X.env = (false, eval a X.env) :: starEach [b] X.env) (hs2 : starEach [b] X.env = (false, eval b X.env) :: starEach [] X.env) (hn : x ≠ "__name__") (hdb : (x == ("__debug__" : Str)) = false) : PE X (.Call (.Name x p) [a, b] [] pos) (tX X.K CT W (bin2 fa fb (evB2 f))) :=
  PE_of (pe_callB hc hg hm hv (pa_cons ha (pa_cons hb pa_nil hs2) hs) hn hdb hs (any_star hs2)) fun σ H Q q => (tX.two q).mono fun x H1 h1 => h1.mono fun y H2 ⟨μ, S, d, e, hS, hd, he, h⟩ => ⟨μ, S, d, e, x, y, CT, W, σ, rfl, hS, hd, he, h⟩
theorem e_isi {t : Ty} {p : Pos} (hg : Gl X "isinstance") (hm : X.mg "isinstance" = none) (hv : bootBuiltins "isinstance" = some (.builtin "isinstance")) (ha : PE X a (tX X.K CT W fa)) (hb : PE X b (tC (.ty (tyN t))))
    (hs : starEach [a, b] X.env = (false, eval a X.env) :: starEach [b] X.env) (hs2 : starEach [b] X.env = (false, eval b X.env) :: starEach [] X.env) : PE X (.Call (.Name "isinstance" p) [a, b] [] pos) (tX X.K CT W fun ρ S => (fa ρ S).bnd fun x S1 => evIsi x t S1) :=
  PE_of (pe_callB (c_isi t) hg hm hv (pa_cons ha (pa_cons hb pa_nil hs2) hs) (by decide) (by decide) hs (any_star hs2)) fun σ H Q q => (tX.one q).mono fun x H1 ⟨μ, S, d, hS, hd, h⟩ => ⟨μ, S, d, x, CT, W, σ, rfl, hS, hd, h⟩
theorem e_lrange {p p2 pos2 : Pos} (hc : X.calm = true) (hgl : Gl X "list") (hml : X.mg "list" = none) (hgr : Gl X "range") (hmr : X.mg "range" = none) (ha : PE X a (tX X.K CT W fa)) (hs : starEach [a] X.env = (false, eval a X.env) :: starEach [] X.env) :
    PE X (.Call (.Name "list" p) [.Call (.Name "range" p2) [a] [] pos2] [] pos) (tX X.K CT W fun ρ S => (fa ρ S).bnd (evB1 .lrange)) :=
  PE_of (pe_listRg hc hgl hml (prg_1 hgr hmr ha hs)) fun σ H Q q => (tX.one q).mono fun x H1 ⟨μ, S, d, hS, hd, h⟩ => by
    cases d with
    | int i =>
      simp only [evB1] at h
      split at h
      · rename_i hl
        rw [Bool.and_eq_true, decide_eq_true_eq, decide_eq_true_eq] at hl
        refine ⟨i, hd.int_, ⟨by omega, by omega, by omega, by omega, by omega⟩, fin_lst hS ?_ h⟩
        unfold rangeL rgV
        have go : ∀ l : List Nat, RVs X.K μ H1 (l.map fun k => D.int (0 + (k : Nat))) (l.map fun k => V.int (0 + (k : Nat))) := fun l => by
          induction l with
          | nil => exact .nil_
          | cons m r ih => exact .cons_ .int ih
        exact go _
      · exact h.elim
    | _ => exact h.elim
/-! ### methods -/
theorem e_m0 {m : M0} {T id : String} {name : Str} {apos : Pos} (pa : PlainAttrs T) (slot : Slot T name id) (hty : typeOf (.builtin id) = pure (.type "method_descriptor")) (hm : MtR X id (rM0 X.K m)) (hT : ∀ μ S d x H, RS X.K μ H S → RV X.K μ H d x → okM0 m d S = true → tyV X.K T x H)
    (ha : PE X a (tX X.K CT W fa)) (hbase : attributeBase a name X.env (eval a X.env) = eval a X.env) (hline : (apos.endLine == pos.line) = true) : PE X (.Call (.Attribute a name apos) [] [] pos) (tX X.K CT W (evMt0 m fa)) :=
  PE_of (pe_bm0 pa slot hty hm ha hbase hline) fun σ H Q q => (tX.one q).mono fun x H1 ⟨μ, S, d, hS, hd, h⟩ => by
    split at h
    · rename_i ok
      exact ⟨hT μ S d x H1 hS hd ok, μ, S, d, CT, W, σ, rfl, hS, hd, h⟩
    · exact h.elim
theorem few_one {e : Expr} {env : PySem.Env} {p : Pos} (h : starEach [e] env = (false, eval e env) :: starEach [] env) : ((backTo p (starEach [e] env)).all (fun x => !x.1) && (backToKw p (keywordEach [] env)).all (fun x => x.1.isSome)
      && decide ([e].length + ([] : List Keyword).length + (if ([] : List Keyword).isEmpty then 0 else 1) < 30)) = true := by
  rw [h]; rfl
theorem e_m1 {m : M1} {T id : String} {name : Str} {apos : Pos} (pa : PlainAttrs T) (slot : Slot T name id) (hty : typeOf (.builtin id) = pure (.type "method_descriptor")) (hm : MtR X id (rM1 X.K m)) (hT : ∀ μ S d x H, RS X.K μ H S → RV X.K μ H d x → okM1 m d S = true → tyV X.K T x H)
    (ha : PE X a (tX X.K CT W fa)) (hb : PE X b (tX X.K CT W fb)) (hbase : attributeBase a name X.env (eval a X.env) = eval a X.env) (hline : (apos.endLine == pos.line) = true) (hs : starEach [b] X.env = (false, eval b X.env) :: starEach [] X.env) :
    PE X (.Call (.Attribute a name apos) [b] [] pos) (tX X.K CT W (evMt1 m fa fb)) :=
  PE_of (pe_bm pa slot hty hm ha (pa_cons hb pa_nil hs) hbase (few_one hs) hline hs (by rfl)) fun σ H Q q => by
    obtain ⟨μ, ρ, S, hσ, hS, h⟩ := q
    refine ⟨μ, ρ, S, hσ, hS, (Out.bnd h).mono fun x H1 ⟨μ1, d, S1, x1, s1, r1, h1⟩ => ?_⟩
    split at h1
    · rename_i ok
      exact ⟨hT μ1 S1 d x H1 s1 r1 ok, μ1, ρ, S1, hσ.mono x1 hS, s1, (Out.bnd h1).mono fun y H2 ⟨μ2, e, S2, x2, s2, r2, h2⟩ => ⟨μ2, S2, d, e, y, CT, W, σ, rfl, s2, RV.mono x2 s1 _ _ r1, r2, h2⟩⟩
    · exact h1.elim

/-! ### what is walked -/
theorem wk_list {K : PySem.W.Frag} {μ0 : List Addr} {H0 : Hp} {S0 : Store} {n : Nat} {a : Addr} (hS0 : RS K μ0 H0 S0) (ha : μ0[n]? = some a) : Wk K (Itl K a) (.live n) μ0 H0 := by
  intro μ H S x hS ht i
  obtain ⟨xs, q⟩ := isL_inv (show isL S[n]? = true from ht)
  obtain ⟨t, rfl⟩ := x.pre
  · obtain ⟨b, vs, h1, h2, h3⟩ := hS.at_ n xs q
    rw [get_pre ha] at h1
    cases h1
    have hL : SqL K H a vs := .of h2
    refine ⟨fun d e => ?_, fun e => ?_⟩
    · simp only [Src.at, q] at e
      obtain ⟨v, ev, hv⟩ := h3.get e
      refine ⟨⟨vs, v, hL, ev⟩, fun y H' hy => ?_⟩
      obtain ⟨rfl, f⟩ := hy
      have := f vs hL
      rw [ev] at this
      cases this
      exact ⟨Ext.refl _ _, hS, hv⟩
    · simp only [Src.at, q] at e
      refine ⟨vs, hL, ?_⟩
      rw [h3.length]
      exact List.getElem?_eq_none_iff.mp e
theorem wk_tup {K : PySem.W.Frag} {μ0 : List Addr} {H0 : Hp} {S0 : Store} {xs : List D} {vs : List V} {a : Addr} (hS0 : RS K μ0 H0 S0) (ha : SqT K H0 a vs) (hv : RVs K μ0 H0 xs vs) : Wk K (Itt K a) (.fix xs) μ0 H0 := by
  intro μ H S x hS ht i
  have hT : SqT K H a vs := x.sqT hS0 ha
  have h3 := RVs.mono x hS0 _ _ hv
  refine ⟨fun d e => ?_, fun e => ?_⟩
  · obtain ⟨v, ev, hv⟩ := h3.get e
    refine ⟨⟨vs, v, hT, ev⟩, fun y H' hy => ?_⟩
    obtain ⟨rfl, f⟩ := hy
    have := f vs hT
    rw [ev] at this
    cases this
    exact ⟨Ext.refl _ _, hS, hv⟩
  · refine ⟨vs, hT, ?_⟩
    rw [h3.length]
    exact List.getElem?_eq_none_iff.mp e
theorem wk_rol {K : PySem.W.Frag} {μ0 : List Addr} {H0 : Hp} {S0 : Store} {xs : List D} {vs : List V} {a : Addr} (hS0 : RS K μ0 H0 S0) (ha : SqR K H0 a vs) (hv : RVs K μ0 H0 xs vs) : Wk K (Itl K a) (.fix xs) μ0 H0 := by
  intro μ H S x hS ht i
  have hT : SqL K H a vs := (x.sqR hS0 ha).sq
  have h3 := RVs.mono x hS0 _ _ hv
  refine ⟨fun d e => ?_, fun e => ?_⟩
  · obtain ⟨v, ev, hv⟩ := h3.get e
    refine ⟨⟨vs, v, hT, ev⟩, fun y H' hy => ?_⟩
    obtain ⟨rfl, f⟩ := hy
    have := f vs hT
    rw [ev] at this
    cases this
    exact ⟨Ext.refl _ _, hS, hv⟩
  · refine ⟨vs, hT, ?_⟩
    rw [h3.length]
    exact List.getElem?_eq_none_iff.mp e
theorem wk_rng {K : PySem.W.Frag} {μ0 : List Addr} {H0 : Hp} {lo : Int} {n : Nat} : Wk K (Itr lo n) (.rng lo n) μ0 H0 := by
  intro μ H S x hS ht i
  refine ⟨fun d e => ?_, fun e => ?_⟩
  · simp only [Src.at] at e
    split at e
    · rename_i hi
      cases e
      exact ⟨hi, fun y H' hy => by obtain ⟨rfl, rfl⟩ := hy; exact ⟨Ext.refl _ _, hS, .int⟩⟩
    · cases e
  · simp only [Src.at] at e
    split at e
    · cases e
    · rename_i hi
      exact Nat.not_lt.mp hi
/-- the items of a tuple, a list, that stands on -/
theorem sq_on {K : PySem.W.Frag} {μ0 μ : List Addr} {H0 H : Hp} {S0 S : Store} {d : D} {v : V} (x : Ext μ0 H0 μ H) (hS0 : RS K μ0 H0 S0) (hS : RS K μ H S) (hd : RV K μ0 H0 d v) (ht : (sq S d).isSome = true) : ∃ xs a vs, sq S d = some xs ∧ v = .ref a ∧ (SqL K H a vs ∨ SqT K H a vs) ∧ RVs K μ H xs vs ∧ (isSeqL d = true → SqL K H a vs) ∧ (isTup d = true → SqT K H a vs) := by
  obtain ⟨xs, q⟩ := Option.isSome_iff_exists.mp ht
  obtain ⟨a, vs, e, h⟩ := hS.sq (RV.mono x hS0 _ _ hd) q
  exact ⟨xs, a, vs, q, e, h⟩
theorem wk_zipL {K : PySem.W.Frag} {μ0 : List Addr} {H0 : Hp} {S0 : Store} {d e : D} {a b : Addr} (hS0 : RS K μ0 H0 S0) (hd : RV K μ0 H0 d (.ref a)) (he : RV K μ0 H0 e (.ref b)) (ld : isSeqL d = true) (le : isSeqL e = true) : Wk K (Itz K a b) (.zip d e) μ0 H0 := by
  intro μ H S x hS ht i
  rw [show Src.there S (.zip d e) = ((sq S d).isSome && (sq S e).isSome) from rfl, Bool.and_eq_true] at ht
  obtain ⟨xs, a', vs, q1, e1, _, hv, hL, _⟩ := sq_on x hS0 hS hd ht.1
  obtain ⟨ys, b', ws, q2, e2, _, hw, hL2, _⟩ := sq_on x hS0 hS he ht.2
  cases e1
  cases e2
  have hA := hL ld
  have hB := hL2 le
  refine ⟨fun c ec => ?_, fun ec => ?_⟩
  · simp only [Src.at, q1, q2] at ec
    split at ec
    · rename_i x' y' ex ey
      cases ec
      obtain ⟨v, ev, rv⟩ := hv.get ex
      obtain ⟨u, eu, ru⟩ := hw.get ey
      refine ⟨⟨vs, ws, v, u, hA, hB, ev, eu⟩, fun z H' hz => ?_⟩
      obtain ⟨T, p, r, rfl, hT, rfl, f1, f2⟩ := hz
      have g1 := f1 vs hA
      have g2 := f2 ws hB
      rw [ev] at g1
      rw [eu] at g2
      cases g1
      cases g2
      obtain ⟨x1, s1, r1⟩ := hS.newTup hT (.cons_ rv (.cons_ ru .nil_))
      exact ⟨x1, s1, r1⟩
    · cases ec
  · refine ⟨vs, ws, hA, hB, ?_⟩
    simp only [Src.at, q1, q2] at ec
    by_cases h1 : i < xs.length
    · by_cases h2 : i < ys.length
      · rw [List.getElem?_eq_getElem h1, List.getElem?_eq_getElem h2] at ec; cases ec
      · exact .inr (by rw [hw.length]; omega)
    · exact .inl (by rw [hv.length]; omega)
theorem wk_zipT {K : PySem.W.Frag} {μ0 : List Addr} {H0 : Hp} {S0 : Store} {d e : D} {a b : Addr} (hS0 : RS K μ0 H0 S0) (hd : RV K μ0 H0 d (.ref a)) (he : RV K μ0 H0 e (.ref b)) (ld : isTup d = true) (le : isTup e = true) : Wk K (RZ.ItzT K a b) (.zip d e) μ0 H0 := by
  intro μ H S x hS ht i
  rw [show Src.there S (.zip d e) = ((sq S d).isSome && (sq S e).isSome) from rfl, Bool.and_eq_true] at ht
  obtain ⟨xs, a', vs, q1, e1, _, hv, _, hL⟩ := sq_on x hS0 hS hd ht.1
  obtain ⟨ys, b', ws, q2, e2, _, hw, _, hL2⟩ := sq_on x hS0 hS he ht.2
  cases e1
  cases e2
  have hA := hL ld
  have hB := hL2 le
  refine ⟨fun c ec => ?_, fun ec => ?_⟩
  · simp only [Src.at, q1, q2] at ec
    split at ec
    · rename_i x' y' ex ey
      cases ec
      obtain ⟨v, ev, rv⟩ := hv.get ex
      obtain ⟨u, eu, ru⟩ := hw.get ey
      refine ⟨⟨vs, ws, v, u, hA, hB, ev, eu⟩, fun z H' hz => ?_⟩
      obtain ⟨T, p, r, rfl, hT, rfl, f1, f2⟩ := hz
      have g1 := f1 vs hA
      have g2 := f2 ws hB
      rw [ev] at g1
      rw [eu] at g2
      cases g1
      cases g2
      obtain ⟨x1, s1, r1⟩ := hS.newTup hT (.cons_ rv (.cons_ ru .nil_))
      exact ⟨x1, s1, r1⟩
    · cases ec
  · refine ⟨vs, ws, hA, hB, ?_⟩
    simp only [Src.at, q1, q2] at ec
    by_cases h1 : i < xs.length
    · by_cases h2 : i < ys.length
      · rw [List.getElem?_eq_getElem h1, List.getElem?_eq_getElem h2] at ec; cases ec
      · exact .inr (by rw [hw.length]; omega)
    · exact .inl (by rw [hv.length]; omega)
theorem wk_enum {K : PySem.W.Frag} {μ0 : List Addr} {H0 : Hp} {S0 : Store} {d : D} {a : Addr} (hS0 : RS K μ0 H0 S0) (hd : RV K μ0 H0 d (.ref a)) (ld : isSeqL d = true) : Wk K (Ite K a) (.enum d) μ0 H0 := by
  intro μ H S x hS ht i
  obtain ⟨xs, a', vs, q1, e1, _, hv, hL, _⟩ := sq_on x hS0 hS hd ht
  cases e1
  have hA := hL ld
  refine ⟨fun c ec => ?_, fun ec => ?_⟩
  · simp only [Src.at, q1] at ec
    cases ex : xs[i]? with
    | none => rw [ex] at ec; cases ec
    | some x' =>
      rw [ex] at ec
      cases ec
      obtain ⟨v, ev, rv⟩ := hv.get ex
      refine ⟨⟨vs, v, hA, ev⟩, fun z H' hz => ?_⟩
      obtain ⟨T, p, rfl, hT, rfl, f1⟩ := hz
      have g1 := f1 vs hA
      rw [ev] at g1
      cases g1
      obtain ⟨x1, s1, r1⟩ := hS.newTup hT (.cons_ .int (.cons_ rv .nil_))
      exact ⟨x1, s1, r1⟩
  · refine ⟨vs, hA, ?_⟩
    simp only [Src.at, q1] at ec
    cases ex : xs[i]? with
    | none => rw [hv.length]; exact List.getElem?_eq_none_iff.mp ex
    | some x' => rw [ex] at ec; cases ec

/-- a list or a tuple, walked -/
def iSeq (K : PySem.W.Frag) (tl : TE) : TI := fun σ H R => tl σ H fun x H1 => ∃ a, x = .ref a ∧ (((∃ xs, SqL K H1 a xs) ∧ R (Itl K a) H1) ∨ ((∃ xs, SqT K H1 a xs) ∧ R (Itt K a) H1))
theorem pi_seq {tg l : Expr} {tl : TE} (hl : PE X l tl) : PI X tg l (iSeq X.K tl) := by
  refine ⟨fun pins s σ H R I h => ?_⟩
  refine thn (hl.run pins s σ H _ I h) fun v s1 ⟨x, H1, I1, r1, q1⟩ => ?_
  obtain ⟨a, rfl, q⟩ := q1
  cases r1
  have fresh : ∀ b ∈ [s1.heap.objs.size], FpOk X pins H1 b := fun b hb => by
    have e : b = s1.heap.objs.size := by simpa using hb
    subst e
    exact I1.fpOk (Nat.le_refl _) (I1.hok.fresh (Nat.le_refl _))
  rcases q with ⟨⟨xs, hq⟩, q⟩ | ⟨⟨xs, hq⟩, q⟩
  · obtain ⟨its, rv, p, _⟩ := I1.list hq
    refine wpAny_pyIter_list p.isList ?_
    exact ⟨_, [s1.heap.objs.size], _, _, H1, rfl, I1.kept (t' := s1.toks) fun b o e => Heap.get?_push_of_some _ e, turn_list a _, ⟨_, Heap.get?_push_size _ rfl, rfl, rfl⟩, fresh, q⟩
  · obtain ⟨its, rv, p, _⟩ := I1.tuple hq
    refine wpAny_pyIter_tuple (show s1.heap.IsTuple a its.toArray from p) ?_
    exact ⟨_, [s1.heap.objs.size], _, _, H1, rfl, I1.kept (t' := s1.toks) fun b o e => Heap.get?_push_of_some _ e, turn_tuple a _, ⟨_, Heap.get?_push_size _ rfl, rfl, rfl⟩, fresh, q⟩
theorem i_seq {tg : Expr} (ha : PE X a (tX X.K CT W fa)) : PI X tg a (tI X.K CT W fun ρ S => (fa ρ S).bnd fun x S1 => toSrc S1 x) := PI_of (pi_seq ha) fun σ H R q =>
  (tX.one q).mono fun x H1 ⟨μ, S, d, hS, hd, h⟩ => by
    cases d with
    | tup xs =>
      obtain ⟨b, vs, rfl, hs, hv⟩ := hd.tup_
      exact ⟨b, rfl, .inr ⟨⟨vs, hs⟩, h.ok hS (wk_tup hS hs hv)⟩⟩
    | rol xs =>
      obtain ⟨b, vs, rfl, hs, hv⟩ := hd.rol_
      exact ⟨b, rfl, .inl ⟨⟨vs, hs.sq⟩, h.ok hS (wk_rol hS hs hv)⟩⟩
    | ref n =>
      simp only [toSrc] at h
      split at h
      · rename_i hs
        obtain ⟨xs, q⟩ := isL_inv hs
        · obtain ⟨b, vs, rfl, hb, hl, hv⟩ := hS.lst hd q
          exact ⟨b, rfl, .inl ⟨⟨vs, .of hl⟩, h.ok hS (wk_list hS hb)⟩⟩
      · exact h.elim
    | _ => exact h.elim
theorem i_rng1 {tg : Expr} {p : Pos} (hg : Gl X "range") (hm : X.mg "range" = none) (ha : PE X a (tX X.K CT W fa)) (hs : starEach [a] X.env = (false, eval a X.env) :: starEach [] X.env) : PI X tg (.Call (.Name "range" p) [a] [] pos) (tI X.K CT W fun ρ S => (fa ρ S).bnd evRng1) :=
  PI_of (pi_range1 hg hm (pa_cons ha pa_nil hs) hs) fun σ H R q => (tX.one q).mono fun x H1 ⟨μ, S, d, hS, hd, h⟩ => by
    cases d with
    | int j =>
      simp only [evRng1] at h
      split at h
      · rename_i hb
        rw [Bool.and_eq_true, decide_eq_true_eq, decide_eq_true_eq] at hb
        exact ⟨j, by rw [hd.int_], hb.1, hb.2, h.ok hS wk_rng⟩
      · exact h.elim
    | _ => exact h.elim
theorem i_rng2 {tg : Expr} {p : Pos} (hg : Gl X "range") (hm : X.mg "range" = none) (ha : PE X a (tX X.K CT W fa)) (hb : PE X b (tX X.K CT W fb)) (hs : starEach [a, b] X.env = (false, eval a X.env) :: starEach [b] X.env) (hs2 : starEach [b] X.env = (false, eval b X.env) :: starEach [] X.env) :
    PI X tg (.Call (.Name "range" p) [a, b] [] pos) (tI X.K CT W fun ρ S => (fa ρ S).bnd fun x S1 => (fb ρ S1).bnd fun y S2 => evRng2 x y S2) :=
  PI_of (pi_range2 hg hm (pa_cons ha (pa_cons hb pa_nil hs2) hs) (by rw [hs, hs2]; rfl) hs2) fun σ H R q => (tX.two q).mono fun x H1 h1 => h1.mono fun y H2 ⟨μ, S, d, e, hS, hd, he, h⟩ => by
    cases d with
    | int i =>
      cases e with
      | int j =>
        simp only [evRng2] at h
        split at h
        · rename_i hb
          simp only [Bool.and_eq_true, decide_eq_true_eq] at hb
          exact ⟨i, j, by rw [hd.int_, he.int_], ⟨hb.1.1.1, hb.1.1.2, hb.1.2, hb.2⟩, h.ok hS wk_rng⟩
        · exact h.elim
      | _ => exact h.elim
    | _ => exact h.elim
theorem i_zip {elts : List Expr} {kk : Nat} {tpos p : Pos} (hg : Gl X "zip") (hm : X.mg "zip" = none) (ha : PE X a (tX X.K CT W fa)) (hb : PE X b (tX X.K CT W fb)) (hs : starEach [a, b] X.env = (false, eval a X.env) :: starEach [b] X.env) (hs2 : starEach [b] X.env = (false, eval b X.env) :: starEach [] X.env) :
    PI X (.Tuple elts kk tpos) (.Call (.Name "zip" p) [a, b] [] pos) (tI X.K CT W fun ρ S => (fa ρ S).bnd fun x S1 => (fb ρ S1).bnd fun y S2 => evZip x y S2) :=
  PI_of (RZ.pi_zipA hg hm (pa_cons ha (pa_cons hb pa_nil hs2) hs) hs (any_star hs2)) fun σ H R q => (tX.two q).mono fun x H1 h1 => h1.mono fun y H2 ⟨μ, S, d, e, hS, hd, he, h⟩ => by
    unfold evZip at h
    split at h
    · rename_i hc
      rw [Bool.and_eq_true, Bool.and_eq_true, Bool.or_eq_true, Bool.and_eq_true, Bool.and_eq_true] at hc
      obtain ⟨⟨hk, t1⟩, t2⟩ := hc
      obtain ⟨xs, q1⟩ := Option.isSome_iff_exists.mp t1
      obtain ⟨ys, q2⟩ := Option.isSome_iff_exists.mp t2
      obtain ⟨a', vs, rfl, _, hv, hL, hT⟩ := hS.sq hd q1
      obtain ⟨b', ws, rfl, _, hw, hL2, hT2⟩ := hS.sq he q2
      refine ⟨a', b', vs, ws, rfl, ?_⟩
      rcases hk with ⟨k1, k2⟩ | ⟨k1, k2⟩
      · exact .inl ⟨hL k1, hL2 k2, h.ok hS (wk_zipL hS hd he k1 k2)⟩
      · exact .inr ⟨hT k1, hT2 k2, h.ok hS (wk_zipT hS hd he k1 k2)⟩
    · exact h.elim
theorem i_enum {elts : List Expr} {kk : Nat} {tpos p : Pos} (hg : Gl X "enumerate") (hm : X.mg "enumerate" = none) (ha : PE X a (tX X.K CT W fa)) (hs : starEach [a] X.env = (false, eval a X.env) :: starEach [] X.env) :
    PI X (.Tuple elts kk tpos) (.Call (.Name "enumerate" p) [a] [] pos) (tI X.K CT W fun ρ S => (fa ρ S).bnd evEnum) :=
  PI_of (pi_enum hg hm (pa_cons ha pa_nil hs) hs) fun σ H R q => (tX.one q).mono fun x H1 ⟨μ, S, d, hS, hd, h⟩ => by
    unfold evEnum at h
    split at h
    · rename_i hc
      rw [Bool.and_eq_true] at hc
      obtain ⟨xs, q1⟩ := Option.isSome_iff_exists.mp hc.2
      obtain ⟨a', vs, rfl, _, hv, hL, _⟩ := hS.sq hd q1
      exact ⟨a', vs, rfl, hL hc.1, h.ok hS (wk_enum hS hd hc.1)⟩
    · exact h.elim
end
end Cw
/-! CwR: x[::-1] of a tuple, of a list. -/
namespace Cw
open PySem PySem.Spec PyProof.Rows L2
section
variable {prog : Program} {w : World} {A : Around} {E : Value → Shared → Prop} {s : Shared}
theorem adjust_rev (n : Nat) : Builtin.Slice.sliceAdjust none none (-1) (n : Int) = ((n : Int) - 1, -1) := by
  unfold Builtin.Slice.sliceAdjust
  simp
theorem places_rev (n : Nat) : Builtin.Slice.slicePlaces ((n : Int) - 1) (-1) (-1) = n := by
  unfold Builtin.Slice.slicePlaces
  have h1 : ¬ ((-1 : Int) > 0) := by omega
  have h2 : (-(-1) : Int) = 1 := by omega
  simp only [h1, if_false, h2, Int.ediv_one]
  split <;> omega
theorem applied_rev {sl : Addr} {vst : Value} {n : Nat} {Q : Int × Int × Nat → Shared → Prop} (hs : s.heap.IsSliceOf sl .none .none vst) (ps : IsPart vst (some (-1)))
    (h : Q ((n : Int) - 1, -1, n) s) : wpAny (model prog w) A (Builtin.Slice.sliceApplied (.ref sl) (pure (n : Int))) Q E s := by
  obtain ⟨os, hos, hcs, hds⟩ := id hs
  unfold Builtin.Slice.sliceApplied Builtin.Slice.sliceFields
  refine wpAny_bind (wpAny_bind (wpAny_field hos hds (x := Value.none) rfl (wpAny_bind (wpAny_field hos hds (x := Value.none) rfl (wpAny_bind (wpAny_field hos hds (x := vst) rfl (wpAny_pure ?_)))))))
  refine wpAny_bind (HT.slicePart_ ps ?_)
  show wpAny _ _ (if ((-1 : Int) == 0) = true then _ else _) _ _ s
  rw [if_neg (by decide)]
  refine wpAny_bind (slicePart_none (wpAny_bind (slicePart_none (wpAny_bind (wpAny_pure ?_)))))
  show wpAny _ _ (match Builtin.Slice.sliceAdjust none none (-1) (n : Int) with | (lo, hi) => pure (lo, (-1 : Int), Builtin.Slice.slicePlaces lo hi (-1))) _ _ s
  rw [adjust_rev n]
  show wpAny _ _ (pure ((n : Int) - 1, (-1 : Int), Builtin.Slice.slicePlaces ((n : Int) - 1) (-1) (-1))) _ _ s
  rw [places_rev]
  exact wpAny_pure h
theorem fmap_all {α β : Type} {f : α → Option β} {g : α → β} : ∀ l : List α, (∀ m ∈ l, f m = some (g m)) → l.filterMap f = l.map g
  | [], _ => rfl
  | a :: r, h => by
    rw [List.filterMap_cons, h a (by simp), List.map_cons, fmap_all r fun m hm => h m (by simp [hm])]
theorem pick_rev (xs : Array Value) : ((List.range xs.size).filterMap fun (m : Nat) => xs[((xs.size : Int) - 1 + (m : Int) * (-1)).toNat]?).toArray = xs.toList.reverse.toArray := by
  have e : (List.range xs.size).filterMap (fun (m : Nat) => xs[((xs.size : Int) - 1 + (m : Int) * (-1)).toNat]?) = (List.range xs.size).map (fun m => xs.toList.reverse.getD m default) := by
    refine fmap_all _ fun m hm => ?_
    have hm : m < xs.size := List.mem_range.mp hm
    have : ((xs.size : Int) - 1 + (m : Int) * (-1)).toNat = xs.size - 1 - m := by omega
    rw [this]
    have h2 : xs.size - 1 - m < xs.size := by omega
    rw [Array.getElem?_eq_getElem h2]
    simp [List.getElem?_reverse, hm, h2]
  rw [e]
  congr 1
  refine List.ext_getElem? fun i => ?_
  by_cases hi : i < xs.size
  · simp [hi]
  · rw [List.getElem?_eq_none (by simp; omega), List.getElem?_eq_none (by simp; omega)]
theorem getItem_tuple_rev {t sl : Addr} {items : Array Value} {vst : Value} {Q : Value → Shared → Prop} (ht : IsTup s.heap t items) (hs : s.heap.IsSliceOf sl .none .none vst) (ps : IsPart vst (some (-1)))
    (h : Q (.ref s.heap.objs.size) { s with heap := s.heap.push { cls := .type "tuple", data := .seq items.toList.reverse.toArray } }) (hsz : items.size ≤ sizeLine) : wpAny (model prog w) A (getItem (.ref t) (.ref sl)) Q E s := by
  have hrev : sizeOk (.seq items.toList.reverse.toArray) := by
    show items.toList.reverse.toArray.size ≤ sizeLine
    rw [List.size_toArray, List.length_reverse, Array.length_toList]
    exact hsz
  obtain ⟨os, hos, hcs, hds⟩ := id hs
  have hTs : s.TypeIs (.ref sl) "slice" := ⟨os, hos, hcs⟩
  unfold getItem
  try with_reducible refine wpAny_holding ?_
  first | refine wpAny_bind (wpAny_pure ?_) | skip
  refine wpAny_bind (wpAny_sequenceKey ht.typeIs (by decide) ?_)
  refine wpAny_bind (wpAny_callSpecial?_slot (name := Str.ofString "__getitem__") ht.typeIs PyProof.Rows.slot_tuple_getitem
    (wpAny_call_entry PyProof.Rows.slot_tuple_getitem ht.typeIs PyProof.Rows.entry_tuple_getitem ?_ (PyProof.Rows.args_tuple_getitem _ _)))
  show wpAny _ _ (Builtin.Tuple.tupleItemsOf (.ref t) >>= _) _ _ s
  refine wpAny_bind (tupleItemsOf_ ht ?_)
  refine wpAny_bind (wpAny_typeOf hTs ?_)
  rw [if_pos (by decide)]
  refine wpAny_bind (applied_rev hs ps ?_)
  have hno : ¬ ((((items.size : Int) - 1) == 0 && (-1 : Int) == 1 && items.size == items.size) = true) := by
    intro q
    rw [Bool.and_eq_true, Bool.and_eq_true] at q
    exact absurd q.1.2 (by decide)
  show wpAny _ _ (if (((items.size : Int) - 1) == 0 && (-1 : Int) == 1 && items.size == items.size) = true then _ else _) _ _ s
  rw [if_neg hno, pick_rev]
  first
    | exact wpAny_bind (m := Builtin.Tuple.tupleExact _) (wpAny_newObj_type (wpAny_pure ⟨_, rfl, wpAny_pure h⟩) hrev)
    | exact wpAny_bind (m := Builtin.Tuple.tupleExact _) (wpAny_newObj_type (wpAny_bind (wpAny_pure (wpAny_pure ⟨_, rfl, wpAny_pure h⟩))) hrev)
    | exact wpAny_bind (wpAny_bind (m := Builtin.Tuple.tupleExact _) (wpAny_newObj_type (wpAny_pure (wpAny_pure ⟨_, rfl, wpAny_pure h⟩)) hrev))
    | exact wpAny_bind (wpAny_bind (m := Builtin.Tuple.tupleExact _) (wpAny_newObj_type (wpAny_pure ⟨_, rfl, wpAny_pure h⟩) hrev))
end
def tRevG (K : PySem.W.Frag) (te : TE) : TE := fun σ H Q => te σ H fun x H1 => ∃ a xs, x = .ref a ∧ ((SqL K H1 a xs ∧ ∀ p, H1 p = none → Q (.ref p) (upd H1 p (.lst xs.reverse))) ∨ (SqT K H1 a xs ∧ ∀ p, H1 p = none → Q (.ref p) (upd H1 p (.tup xs.reverse))))
section
variable {X : Cx} {CT : Nat → Option Addr} {W : WX}
theorem pe_revG {e : Expr} {te : TE} {k : Nat} {p1 p2 p3 pos : Pos} (he : PE X e te) : PE X (.Subscript e (.Slice none none (some (.UnaryOp .USub (.Constant (.int 1) k p1) p2)) p3) pos) (tRevG X.K te) := by
  refine ⟨fun pins s σ H Q I h => ?_⟩
  refine Subscript_ (thn (he.run pins s σ H _ I h) fun v s1 ⟨x, H1, I1, r1, q1⟩ => ?_)
  obtain ⟨a, xs, ex, q⟩ := q1
  subst ex
  cases r1
  have hst : PO X (some (.UnaryOp .USub (.Constant (.int 1) k p1) p2)) (tPart (tUn (rU fun i => .int (-i)) (tC (.int 1)))) := po_some (pe_un un_neg pe_int)
  refine wpAny_Slice (thn (po_none.run pins s1 σ H1 (fun o H2 => o = none ∧ H2 = H1) I1 ⟨rfl, rfl⟩) fun vl s2 ⟨l, H2, I2, pl, el, e2⟩ => ?_)
  subst el e2
  refine thn (po_none.run pins s2 σ H2 (fun o H3 => o = none ∧ H3 = H2) I2 ⟨rfl, rfl⟩) fun vu s3 ⟨u, H3, I3, pu, eu, e3⟩ => ?_
  subst eu e3
  refine thn (hst.run pins s3 σ H3 (fun o H4 => o = some (-1) ∧ H4 = H3) I3 ⟨1, rfl, -1, rfl, rfl, rfl⟩) fun vs s4 ⟨o, H4, I4, ps, eo, e4⟩ => ?_
  subst eo e4
  have I5 : Inv X pins σ H4 { s4 with heap := s4.heap.push { cls := .type "slice", data := .fields #[vl, vu, vs] } } := I4.kept (t' := s4.toks) fun b ob q => Heap.get?_push_of_some _ q
  show wpAny (model X.prog X.w) X.A (subscriptTail e (.Slice none none (some (.UnaryOp .USub (.Constant (.int 1) k p1) p2)) p3) (.ref a) (.ref s4.heap.objs.size)) (EP X pins σ Q) X.xe { s4 with heap := s4.heap.push { cls := .type "slice", data := .fields #[vl, vu, vs] } }
  rcases q with ⟨hx, q⟩ | ⟨hx, q⟩
  · obtain ⟨its, r, ht, hz⟩ := I5.list hx
    have hlen := r.length
    refine tail_any (ops := [.ref a, .ref s4.heap.objs.size]) ht.isList.typeIs (PySem.slot_list_getitem.lookup) ?_ (by with_unfolding_all rfl)
    refine wpAny_getItem_list_slice ht.isList (Heap.IsSliceOf.new _ vl vu vs) pl pu ps (by decide) ?_ (by rw [List.size_toArray]; omega)
    rw [PySem.W.krv_pick]
    refine ⟨.ref _, _, I5.laid (t' := s4.toks) (o := .lst xs.reverse) (fun b ob q => Heap.get?_push_of_some _ q) (Nat.le_refl _) ?_, rfl, q _ (I5.hok.fresh (Nat.le_refl _))⟩
    exact ⟨by rw [List.length_reverse]; exact hz, _, 0, r.reverse, Heap.get?_push_size _ rfl⟩
  · obtain ⟨its, r, ht, hz⟩ := I5.tuple hx
    have hlen := r.length
    cases pl
    cases pu
    refine tail_any (ops := [.ref a, .ref s4.heap.objs.size]) (show IsTup _ a its.toArray from ht).typeIs (PyProof.Rows.slot_tuple_getitem.lookup) ?_ (by with_unfolding_all rfl)
    refine getItem_tuple_rev ht (Heap.IsSliceOf.new _ .none .none vs) ps ?_ (by rw [List.size_toArray]; omega)
    refine ⟨.ref _, _, I5.laid (t' := s4.toks) (o := .tup xs.reverse) (fun b ob q => Heap.get?_push_of_some _ q) (Nat.le_refl _) ?_, rfl, q _ (I5.hok.fresh (Nat.le_refl _))⟩
    exact ⟨by rw [List.length_reverse]; exact hz, _, r.reverse, IsTup.new _ _⟩
theorem RVs.rev {K : PySem.W.Frag} {μ : List Addr} {H : Hp} : ∀ {ds : List D} {vs : List V}, RVs K μ H ds vs → RVs K μ H ds.reverse vs.reverse
  | [], _, h => by rw [h.inv0]; exact .nil_
  | d :: ds, _, h => by
    obtain ⟨v, r, rfl, hv, t⟩ := h.inv
    rw [List.reverse_cons, List.reverse_cons]
    exact (RVs.rev t).append (.cons_ hv .nil_)
theorem e_rev {a : Expr} {fa : Env → Store → Rs D} {k : Nat} {p1 p2 p3 pos : Pos} (ha : PE X a (tX X.K CT W fa)) : PE X (.Subscript a (.Slice none none (some (.UnaryOp .USub (.Constant (.int 1) k p1) p2)) p3) pos) (tX X.K CT W fun ρ S => (fa ρ S).bnd evRev) := PE_of (pe_revG ha) fun σ H Q q =>
  (tX.one q).mono fun x H1 ⟨μ, S, d, hS, hd, h⟩ => by
    cases d with
    | tup ds =>
      obtain ⟨b, vs, rfl, hs, hv⟩ := hd.tup_
      exact ⟨b, vs, rfl, .inr ⟨hs, fin_tup hS hv.rev h⟩⟩
    | rol ds =>
      obtain ⟨b, vs, rfl, hs, hv⟩ := hd.rol_
      exact ⟨b, vs, rfl, .inl ⟨hs.sq, fin_lst hS hv.rev h⟩⟩
    | ref n =>
      simp only [evRev] at h
      split at h
      · rename_i xs e
        obtain ⟨b, vs, rfl, hb, hl, hv⟩ := hS.lst hd e
        exact ⟨b, vs, rfl, .inl ⟨.of hl, fin_lst hS hv.rev h⟩⟩
      · exact h.elim
    | _ => exact h.elim
end
end Cw
/-! CwE: targets, comprehensions, calls. -/
namespace Cw
open PySem PySem.Spec PyProof.Rows L2

/-! ### targets -/
mutual
def slots : Tg → List Nat
  | .nm i => [i]
  | .tp ts => slotsL ts
termination_by structural t => t
def slotsL : List Tg → List Nat
  | [] => []
  | t :: ts => slots t ++ slotsL ts
termination_by structural t => t
end
/-- alike but at those slots -/
def Agr (vs : List Nat) (σ σ' : L2.St) : Prop := σ'.length = σ.length ∧ ∀ i, i ∉ vs → σ'[i]? = σ[i]?
theorem Agr.refl {vs : List Nat} {σ : L2.St} : Agr vs σ σ := ⟨rfl, fun _ _ => rfl⟩
theorem Agr.trans {vs us : List Nat} {σ σ1 σ2 : L2.St} (a : Agr vs σ σ1) (b : Agr us σ1 σ2) : Agr (vs ++ us) σ σ2 :=
  ⟨b.1.trans a.1, fun i h => by
    rw [List.mem_append, not_or] at h
    exact (b.2 i h.2).trans (a.2 i h.1)⟩
theorem wipe_at : ∀ (vs : List Nat) (σ : L2.St) (i : Nat), (L2.wipe σ vs)[i]? = if i ∈ vs ∧ i < σ.length then some none else σ[i]?
  | [], σ, i => by simp [L2.wipe]
  | v :: vs, σ, i => by
    unfold L2.wipe
    by_cases q : i = v
    · subst q
      by_cases hl : i < σ.length
      · rw [List.getElem?_set_self (by rw [wipe_length]; exact hl), if_pos ⟨by simp, hl⟩]
      · rw [if_neg (fun z => hl z.2), List.getElem?_eq_none (by rw [List.length_set, wipe_length]; omega), List.getElem?_eq_none (by omega)]
    · rw [List.getElem?_set_ne (Ne.symm q), wipe_at vs σ i]
      simp [q]
theorem Agr.wiped {vs us : List Nat} {σ σ' : L2.St} (a : Agr us (L2.wipe σ vs) σ') (h : ∀ i ∈ us, i ∈ vs) : L2.wipe σ' vs = L2.wipe σ vs := by
  have el : σ'.length = σ.length := by rw [a.1, wipe_length]
  refine List.ext_getElem? fun i => ?_
  rw [wipe_at, wipe_at, el]
  split
  · rfl
  · rename_i hn
    by_cases hi : i ∈ vs
    · have hl : ¬ i < σ.length := fun z => hn ⟨hi, z⟩
      rw [List.getElem?_eq_none (by omega), List.getElem?_eq_none (by omega)]
    · rw [a.2 i fun z => hi (h i z), wipe_at, if_neg hn]

section
variable (K : PySem.W.Frag)
def gT (t : Tg) : TG := fun v σ H Q => ∃ μ ρ d ρ', Rσ K μ H ρ σ ∧ RV K μ H d v ∧ evTg t d ρ = some ρ' ∧ ∀ σ', Rσ K μ H ρ' σ' → Agr (slots t) σ σ' → Q σ' H
def gTs (ts : List Tg) : TGs := fun vs σ H Q => ∃ μ ρ ds ρ', Rσ K μ H ρ σ ∧ RVs K μ H ds vs ∧ evTgs ts ds ρ = some ρ' ∧ ∀ σ', Rσ K μ H ρ' σ' → Agr (slotsL ts) σ σ' → Q σ' H
end
theorem PG_of {X : Cx} {e : Expr} {t t' : TG} (h : PG X e t) (k : ∀ v σ H Q, t' v σ H Q → t v σ H Q) : PG X e t' := ⟨fun pins s σ H v u Q I r q => h.run pins s σ H v u Q I r (k v σ H Q q)⟩
theorem PGs_of {X : Cx} {e : List Expr} {t t' : TGs} (h : PGs X e t) (k : ∀ v σ H Q, t' v σ H Q → t v σ H Q) : PGs X e t' := ⟨fun pins s σ H v u Q I r q => h.run pins s σ H v u Q I r (k v σ H Q q)⟩
section
variable {X : Cx} {CT : Nat → Option Addr} {W : WX}
theorem g_nm {i : Nat} {x : Str} {pos : Pos} (h : PG X (.Name x pos) (gName i)) : PG X (.Name x pos) (gT X.K (.nm i)) := PG_of h fun v σ H Q ⟨μ, ρ, d, ρ', hσ, hd, e, q⟩ => by
  simp only [evTg, Option.some.injEq] at e
  subst e
  refine q _ (hσ.set i hd) ⟨by simp, fun j hj => ?_⟩
  simp [slots] at hj
  rw [List.getElem?_set_ne (Ne.symm hj)]
theorem gs_nil : PGs X [] (gTs X.K []) := PGs_of pgs_nil fun vs σ H Q ⟨μ, ρ, ds, ρ', hσ, hd, e, q⟩ => by
  cases ds with
  | nil =>
    simp only [evTgs, Option.some.injEq] at e
    subst e
    exact ⟨hd.inv0, q _ hσ .refl⟩
  | cons d r => simp [evTgs] at e
theorem gs_cons {e : Expr} {es : List Expr} {t : Tg} {ts : List Tg} (h1 : PG X e (gT X.K t)) (h2 : PGs X es (gTs X.K ts)) (hs : (assignEach (e :: es) X.env).map (·.2) = assign e X.env :: (assignEach es X.env).map (·.2)) : PGs X (e :: es) (gTs X.K (t :: ts)) :=
  PGs_of (pgs_cons h1 h2 hs) fun vs σ H Q ⟨μ, ρ, ds, ρ', hσ, hd, e, q⟩ => by
    cases ds with
    | nil => simp [evTgs] at e
    | cons d r =>
      simp only [evTgs] at e
      cases q1 : evTg t d ρ with
      | none => rw [q1] at e; cases e
      | some ρ1 =>
        rw [q1] at e
        dsimp only at e
        obtain ⟨v, vr, rfl, hv, hr⟩ := hd.inv
        exact ⟨v, vr, rfl, μ, ρ, d, ρ1, hσ, hv, q1, fun σ1 h1 a1 => ⟨μ, ρ1, r, ρ', h1, hr, e, fun σ2 h2 a2 => q _ h2 (a1.trans a2)⟩⟩
theorem evTgs_len : ∀ {ts : List Tg} {ds : List D} {ρ ρ' : Env}, evTgs ts ds ρ = some ρ' → ds.length = ts.length
  | [], ds, ρ, ρ', e => by
    cases ds with
    | nil => rfl
    | cons d r => simp [evTgs] at e
  | t :: ts, ds, ρ, ρ', e => by
    cases ds with
    | nil => simp [evTgs] at e
    | cons d r =>
      simp only [evTgs] at e
      cases q1 : evTg t d ρ with
      | none => rw [q1] at e; cases e
      | some ρ1 =>
        rw [q1] at e
        have := evTgs_len (ts := ts) (ds := r) e
        simp [this]
theorem g_tp {es : List Expr} {k : Nat} {ts : List Tg} {pos : Pos} (hc : X.calm = true) (h : PGs X es (gTs X.K ts)) (hn : (assignEach es X.env).length = ts.length) (hst : (assignEach es X.env).findIdx? (·.1) = none) : PG X (.Tuple es k pos) (gT X.K (.tp ts)) :=
  PG_of (pg_tup hc h hn hst) fun v σ H Q ⟨μ, ρ, d, ρ', hσ, hd, e, q⟩ => by
    cases d with
    | tup ds =>
      obtain ⟨a, vs, rfl, hs, hv⟩ := hd.tup_
      simp only [evTg] at e
      exact ⟨a, vs, rfl, hs, by rw [hv.length, evTgs_len e], μ, ρ, ds, ρ', hσ, hv, e, q⟩
    | _ => simp [evTg] at e

/-! ### comprehensions -/
abbrev WF : WX := fun _ _ _ _ => False
theorem Ext.own {μ0 μ : List Addr} {H0 H : Hp} {Dl : Addr} {o : HO} (x : Ext μ0 H0 μ H) (h : H0 Dl = none) : Ext μ0 H0 μ (upd H Dl o) :=
  ⟨x.pre, fun b u e n => ⟨by rw [upd_ne (ne_of_none e h)]; exact (x.keep b u e n).1, (x.keep b u e n).2⟩⟩
theorem Ext.addL {μ0 μ : List Addr} {H0 H : Hp} {Dl : Addr} (x : Ext μ0 H0 μ H) (h : H0 Dl = none) : Ext μ0 H0 (μ ++ [Dl]) H := by
  refine ⟨?_, fun b u e n => ⟨(x.keep b u e n).1, fun m => ?_⟩⟩
  · obtain ⟨t, rfl⟩ := x.pre
    exact ⟨t ++ [Dl], by rw [List.append_assoc]⟩
  · rcases List.mem_append.mp m with m | m
    · exact (x.keep b u e n).2 m
    · have e' : b = Dl := by simpa using m
      exact ne_of_none e h e'
theorem Rs.bnd_assoc {α β γ : Type} (r : Rs α) (f : α → Store → Rs β) (g : β → Store → Rs γ) : (r.bnd f).bnd g = r.bnd fun a S => (f a S).bnd g := by
  cases r <;> rfl
/-- one turn of a comprehension -/
def turnC (own : List Nat) (tg : Tg) (fc : Env → Store → Rs Bool) (fe : Env → Store → Rs D) (ρ : Env) (d : D) (S2 : Store) : Rs (Option D) := match evTg tg d (wipeD ρ own) with
  | none => .bad
  | some ρ' => (fc ρ' S2).bnd fun k S3 => match k with
    | true => (fe ρ' S3).bnd fun y S4 => .ok (some y) S4
    | false => .ok none S3
theorem evComp_eq (own : List Nat) (tg : Tg) (fi : Env → Store → Rs Src) (fc : Env → Store → Rs Bool) (fe : Env → Store → Rs D) (ρ : Env) (S : Store) :
    evComp own tg fi fc fe ρ S = (fi ρ S).bnd fun src S1 => (loopC src (turnC own tg fc fe ρ) (src.len S1) 0 [] S1).bnd fun acc S2 => .ok (.ref S2.length) (S2 ++ [.lst acc]) := rfl
theorem lc_of {own : List Nat} {tg : Tg} {fi : Env → Store → Rs Src} {fc : Env → Store → Rs Bool} {fe : Env → Store → Rs D} (hsub : ∀ i ∈ slots tg, i ∈ own) {σ : L2.St} {H : Hp} {Q : VK} (q : tX X.K CT W (evComp own tg fi fc fe) σ H Q) :
    tLc (tI X.K CT W fi) (gT X.K tg) (tT X.K CT WF fc) (tX X.K CT WF fe) own σ H Q := by
  obtain ⟨μ, ρ, S, hσ, hS, h⟩ := q
  rw [evComp_eq] at h
  refine ⟨μ, ρ, S, hσ, hS, (Out.bnd (rel := fun μ H src (J : L2.It) => Wk X.K J src μ H) h).mono fun J H1 ⟨μ1, src, S1, x1, s1, wk, h1⟩ => ?_⟩
  clear h
  have hσ1 := hσ.mono x1 hS
  intro Dl hD
  refine ⟨fun i m H' => ∃ μ' S' acc vs, Ext μ1 H1 μ' H' ∧ RS X.K μ' H' S' ∧ Dl ∉ μ' ∧ H' Dl = some (.lst vs) ∧ RVs X.K μ' H' acc vs ∧
    Out X.K CT W (RV X.K) μ1 H1 σ ((loopC src (turnC own tg fc fe ρ) m i acc S').bnd fun acc S2 => .ok (.ref S2.length) (S2 ++ [.lst acc])) Q,
    ⟨src.len S1, μ1, S1, [], [], (Ext.refl _ _).own hD, s1.new hD, s1.free hD, upd_same, .nil_, h1⟩, ?_⟩
  rintro i m H' ⟨μ', S', acc, vs, x2, s2, nD, eD, hv, hO⟩
  have th : src.there S' = true := by
    cases m with
    | zero =>
      by_cases t : src.there S' = true
      · exact t
      · simp only [loopC, if_neg t, Rs.bnd] at hO; exact hO.elim
    | succ m =>
      by_cases t : src.there S' = true
      · exact t
      · simp only [loopC, if_neg t, Rs.bnd] at hO; exact hO.elim
  obtain ⟨w1, w2⟩ := wk μ' H' S' x2 s2 th i
  cases ea : src.at S' i with
  | none =>
    refine .inl ⟨w2 ea, ?_⟩
    have e : loopC src (turnC own tg fc fe ρ) m i acc S' = .ok acc S' := by
      cases m <;> simp only [loopC, if_pos th, ea]
    rw [e] at hO
    obtain ⟨s3, r3⟩ := s2.addL eD nD hv
    exact hO _ _ _ (x2.addL hD) s3 r3
  | some d =>
    obtain ⟨go, step⟩ := w1 d ea
    cases m with
    | zero => simp only [loopC, if_pos th, ea, Rs.bnd] at hO; exact hO.elim
    | succ m =>
      simp only [loopC, if_pos th, ea] at hO
      refine .inr ⟨go, fun H' => ∃ μ' S' acc vs, Ext μ1 H1 μ' H' ∧ RS X.K μ' H' S' ∧ Dl ∉ μ' ∧ H' Dl = some (.lst vs) ∧ RVs X.K μ' H' acc vs ∧
        Out X.K CT W (RV X.K) μ1 H1 σ ((loopC src (turnC own tg fc fe ρ) m (i + 1) acc S').bnd fun acc S2 => .ok (.ref S2.length) (S2 ++ [.lst acc])) Q, fun H' h => ⟨m, Nat.lt_succ_self _, h⟩, fun x H3 hy => ?_⟩
      obtain ⟨x3, s3, r3⟩ := step x H3 hy
      cases eg : evTg tg d (wipeD ρ own) with
      | none =>
        have et : turnC own tg fc fe ρ d S' = .bad := by simp only [turnC, eg]
        rw [et] at hO
        exact (show False from hO).elim
      | some ρ' =>
        refine ⟨μ', wipeD ρ own, d, ρ', ((hσ1.mono x2 s1).mono x3 s2).wipe own, r3, eg, fun σ2 h2 a2 => ⟨a2.wiped hsub, ?_⟩⟩
        refine ⟨μ', ρ', S', h2, s3, ?_⟩
        cases ec : fc ρ' S' with
        | bad =>
          have et : turnC own tg fc fe ρ d S' = .bad := by simp only [turnC, eg, ec, Rs.bnd]
          rw [et] at hO
          exact (show False from hO).elim
        | exc e S4 =>
          have et : turnC own tg fc fe ρ d S' = .exc e S4 := by simp only [turnC, eg, ec, Rs.bnd]
          rw [et] at hO
          exact (show False from hO).elim
        | ok k S4 =>
          intro μ4 H4 b x4 s4 eb
          have eb : b = k := eb
          subst eb
          have D3 := x3.keep Dl _ eD nD
          have D4 := x4.keep Dl _ D3.1 D3.2
          have hv4 := RVs.mono (x3.trans x4) s2 _ _ hv
          cases b with
          | false =>
            have et : turnC own tg fc fe ρ d S' = .ok none S4 := by simp only [turnC, eg, ec, Rs.bnd]
            rw [et] at hO
            simp only [Bool.false_eq_true, if_false]
            exact ⟨μ4, S4, acc, vs, x2.trans (x3.trans x4), s4, D4.2, D4.1, hv4, hO⟩
          | true =>
            simp only [if_true]
            refine ⟨μ4, ρ', S4, h2.mono x4 s3, s4, ?_⟩
            cases ee : fe ρ' S4 with
            | bad =>
              have et : turnC own tg fc fe ρ d S' = .bad := by simp only [turnC, eg, ec, ee, Rs.bnd]
              rw [et] at hO
              exact (show False from hO).elim
            | exc e S5 =>
              have et : turnC own tg fc fe ρ d S' = .exc e S5 := by simp only [turnC, eg, ec, ee, Rs.bnd]
              rw [et] at hO
              exact (show False from hO).elim
            | ok y S5 =>
              have et : turnC own tg fc fe ρ d S' = .ok (some y) S5 := by simp only [turnC, eg, ec, ee, Rs.bnd]
              rw [et] at hO
              dsimp only at hO
              by_cases hl : acc.length < sizeLine
              · rw [if_pos hl] at hO
                intro μ5 H5 v x5 s5 r5
                have D5 := x5.keep Dl _ D4.1 D4.2
                have hv5 := RVs.mono x5 s4 _ _ hv4
                exact ⟨vs, D5.1, by rw [hv.length]; exact hl, μ5, S5, acc ++ [y], vs ++ [v], (x2.trans (x3.trans (x4.trans x5))).own hD, s5.own D5.1 D5.2, D5.2, upd_same, (hv5.append (.cons_ r5 .nil_)).own D5.1, hO⟩
              · rw [if_neg hl] at hO
                exact (show False from hO).elim
theorem e_comp {tg iter elt : Expr} {ifs : List Expr} {scope : Scope} {own : List (Str × Nat)} {pos : Pos} {t : Tg} {fi : Env → Store → Rs Src} {fc : Env → Store → Rs Bool} {fe : Env → Store → Rs D} (hc : X.calm = true) (hN : X.N.Nodup) (hi : PI X tg iter (tI X.K CT W fi)) (ok : BlkOk X.N X.env.scope scope own)
    (hsub : ∀ i ∈ slots t, i ∈ own.map (·.2))
    (hg : ∀ (s : Shared) (H : Hp) (C : Addr) (cl : List (Str × Addr)) (fp : List Addr), PG (X.blk s H scope (compEnvC scope cl C X.env) fp) tg (gT X.K t))
    (ht : ∀ (s : Shared) (H : Hp) (C : Addr) (cl : List (Str × Addr)) (fp : List Addr), PTs (X.blk s H scope (compEnvC scope cl C X.env) fp) ifs (tT X.K CT WF fc))
    (he : ∀ (s : Shared) (H : Hp) (C : Addr) (cl : List (Str × Addr)) (fp : List Addr), PE (X.blk s H scope (compEnvC scope cl C X.env) fp) elt (tX X.K CT WF fe)) (hs : ∀ x, foldedSetIterable iter X.env x = pure x) :
    PE X (.ListComp elt [⟨tg, iter, ifs, 0⟩] scope pos) (tX X.K CT W (evComp (own.map (·.2)) t fi fc fe)) :=
  PE_of (pe_lc hc hN hi ok hg ht he hs) fun σ H Q q => lc_of hsub q
theorem pts_yes : PTs X [] (tT X.K CT W fun _ S => .ok true S) := ⟨fun pins s σ H Q I ⟨μ, ρ, S, hσ, hS, h⟩ => pts_nil.run pins s σ H Q I (h.ok hS rfl)⟩
end
end Cw
/-! CwF: calls; the check of expressions and what it gives. -/
namespace Cw
open PySem PySem.Spec PyProof.Rows L2

/-! ### calls -/
section
variable {α β γ δ : Type} {K : PySem.W.Frag} {CT : Nat → Option Addr} {W : WX} {rel : List Addr → Hp → α → β → Prop} {rel2 : List Addr → Hp → γ → δ → Prop} {μ μ1 : List Addr} {H H1 : Hp} {σ : L2.St} {r : Rs α} {Q Q' : β → Hp → Prop}
theorem Out.bndE {f : α → Store → Rs γ} {Q : δ → Hp → Prop} (h : Out K CT W rel2 μ H σ (r.bnd f) Q) :
    Out K CT W rel μ H σ r (fun b H1 => ∃ μ1 a S1, r = .ok a S1 ∧ Ext μ H μ1 H1 ∧ RS K μ1 H1 S1 ∧ rel μ1 H1 a b ∧ Out K CT W rel2 μ1 H1 σ (f a S1) Q) := by
  cases r with
  | ok a S => exact fun μ' H' b y s q => ⟨μ', a, S, rfl, y, s, q, Out.ext h y⟩
  | exc e S => exact h
  | bad => exact h
end
/-- as FnOk, with no guard around -/
structure FnG (P : Program) (w : World) (K : PySem.W.Frag) (mg : Str → Option Value) (base : Heap) (k : Nat) (f : Addr) (fd : FuncData) (ps : List Str) (sp : Sp) : Prop where
  run : ∀ (A : Around) (outer : List PySem.Env) (s : Shared) (H : Hp) (args : Args) (us : List Value) (vs : List V) (Q : VK) (E : XK), Room (2 * k + 1) A → A.guards = some [] → Env0 P w K mg base A outer s H → BindsTo s fd args (ps.zip us) → us.length = ps.length → Vals vs us → sp vs H Q E →
    codeAny (model P w) A (.call (.ref f) args) (CR (L2.CX P w) outer P w H s Q E) s
/-- what a def promises over data -/
def spD (K : PySem.W.Frag) (CT : Nat → Option Addr) (ev : List D → Store → Rs D) : Sp := fun vs H Q E => ∃ μ ds S, RVs K μ H ds vs ∧ RS K μ H S ∧ Out K CT (fun c d _ H' => E c d H') (RV K) μ H [] (ev ds S) Q
/-- a call's shape: how many positional arguments, the keywords, where each parameter's value stands -/
structure Shp where
  n : Nat
  ks : List Str
  pm : Option (List Nat)
def permG {α : Type} (z : α) (pm : Option (List Nat)) (l : List α) : List α := match pm with
  | none => l
  | some p => p.map fun i => l.getD i z
def CallShape (K : PySem.W.Frag) (fd : FuncData) (ps : List Str) (h : Shp) : Prop := ∀ (s : Shared) (us ws : List Value), K.In s.heap → us.length = h.n → ws.length = h.ks.length →
  BindsTo s fd ⟨us, h.ks.zip ws⟩ (ps.zip (permG Value.none h.pm (us ++ ws))) ∧ (permG Value.none h.pm (us ++ ws)).length = ps.length
theorem perm_mem {ds : List D} : ∀ {p : List Nat} {ds' : List D}, (p.mapM fun i => ds[i]?) = some ds' → ds' = p.map (fun i => ds.getD i .non) ∧ ∀ i ∈ p, i < ds.length
  | [], ds', e => by simp at e; subst e; exact ⟨rfl, by simp⟩
  | i :: p, ds', e => by
    rw [List.mapM_cons] at e
    cases q : ds[i]? with
    | none => rw [q] at e; simp at e
    | some d =>
      cases q2 : p.mapM (fun i => ds[i]?) with
      | none => rw [q, q2] at e; simp at e
      | some r =>
        rw [q, q2] at e
        simp at e
        obtain ⟨h1, h2⟩ := perm_mem q2
        subst e
        refine ⟨by rw [h1]; simp [q], fun j hj => ?_⟩
        rcases List.mem_cons.mp hj with rfl | hj
        · exact (List.getElem?_eq_some_iff.mp q).1
        · exact h2 j hj
theorem perm_rv {K : PySem.W.Frag} {μ : List Addr} {H : Hp} {pm : Option (List Nat)} {ds ds' : List D} {vs : List V} (e : permute pm ds = some ds') (h : RVs K μ H ds vs) : RVs K μ H ds' (permG .non pm vs) := by
  cases pm with
  | none => simp [permute] at e; subst e; exact h
  | some p =>
    obtain ⟨e1, hl⟩ := perm_mem (show (p.mapM fun i => ds[i]?) = some ds' from e)
    subst e1
    show RVs K μ H _ (p.map fun i => vs.getD i .non)
    clear e
    induction p with
    | nil => exact .nil_
    | cons i p ih =>
      have hi := hl i (by simp)
      obtain ⟨v, e1, r1⟩ := h.get (List.getElem?_eq_getElem hi)
      rw [List.map_cons, List.map_cons]
      refine .cons_ ?_ (ih fun j hj => hl j (by simp [hj]))
      rw [List.getD_eq_getElem?_getD, List.getD_eq_getElem?_getD, e1, List.getElem?_eq_getElem hi]
      exact r1
theorem perm_vals {pm : Option (List Nat)} {ds ds' : List D} {vs : List V} {us : List Value} (e : permute pm ds = some ds') (hl : vs.length = ds.length) (h : Vals vs us) : Vals (permG V.non pm vs) (permG Value.none pm us) := by
  cases pm with
  | none => exact h
  | some p =>
    have hp := (perm_mem (show (p.mapM fun i => ds[i]?) = some ds' from e)).2
    show Vals (p.map fun i => vs.getD i .non) (p.map fun i => us.getD i .none)
    clear e
    induction p with
    | nil => exact .nil
    | cons i p ih =>
      have hi := hp i (by simp)
      obtain ⟨v, e1, r1⟩ := h.get (List.getElem?_eq_getElem (by rw [hl]; exact hi))
      rw [List.map_cons, List.map_cons]
      refine .cons ?_ (ih fun j hj => hp j (by simp [hj]))
      rw [List.getD_eq_getElem?_getD, List.getD_eq_getElem?_getD, e1, List.getElem?_eq_getElem (by rw [hl]; exact hi)]
      exact r1

/-- no star, no slice, no set -/
def okE : Expr → Bool
  | .Starred .. => false
  | .Slice .. => false
  | .Set .. => false
  | _ => true
theorem star_of {a : Expr} (h : okE a = true) (es : List Expr) (env : PySem.Env) : starEach (a :: es) env = (false, eval a env) :: starEach es env := by
  cases a <;> first | rfl | cases h
theorem assign_of {a : Expr} (h : okE a = true) (es : List Expr) (env : PySem.Env) : assignEach (a :: es) env = (false, assign a env) :: assignEach es env := by
  cases a <;> first | rfl | cases h
theorem plain_of {a : Expr} (h : okE a = true) : PlainIx a := by
  intro o i
  cases a <;> first | rfl | cases h
theorem behind_of {a : Expr} (h : okE a = true) (op : CmpOp) : behindInMarks op a = false := by
  cases a <;> first | rfl | cases h
theorem last_of {b c : Expr} (h : okE c = true) (o1 o2 : CmpOp) : lastMarks [o1, o2] [b, c] = false := behind_of h o2
theorem folded_of {a : Expr} (h : okE a = true) (env : PySem.Env) (x : Value) : foldedSetIterable a env x = pure x := by
  cases a <;> first | rfl | cases h
theorem stars_any (pos : Pos) (env : PySem.Env) : ∀ {es : List Expr}, es.all okE = true → (backTo pos (starEach es env)).any (·.1) = false
  | [], _ => rfl
  | a :: es, h => by
    rw [List.all_cons, Bool.and_eq_true] at h
    rw [star_of h.1]
    exact stars_any pos env (es := es) h.2
theorem kw_all (pos : Pos) (env : PySem.Env) : ∀ {kws : List Keyword} {ks : List Str}, kws.map Keyword.arg = ks.map some → (backToKw pos (keywordEach kws env)).all (·.1.isSome) = true ∧ (backToKw pos (keywordEach kws env)).filterMap (·.1) = ks ∧ (backToKw pos (keywordEach kws env)).any (·.1.isNone) = false
  | [], ks, h => by
    cases ks with
    | nil => exact ⟨rfl, rfl, rfl⟩
    | cons a r => simp at h
  | ⟨nm, e, p⟩ :: kws, ks, h => by
    cases ks with
    | nil => simp at h
    | cons a r =>
      simp only [List.map_cons, List.cons.injEq] at h
      obtain ⟨h1, h2⟩ := h
      subst h1
      obtain ⟨q1, q2, q3⟩ := kw_all pos env (kws := kws) (ks := r) h2
      refine ⟨?_, ?_, ?_⟩
      · show (_ && _) = true
        rw [Bool.and_eq_true]; exact ⟨rfl, q1⟩
      · show a :: _ = _
        exact congrArg (a :: ·) q2
      · show (_ || _) = false
        rw [Bool.or_eq_false_iff]; exact ⟨rfl, q3⟩
section
variable {X : Cx} {CT : Nat → Option Addr} {W : WX}
theorem run_fnG {pins : List (Addr × Obj)} {σ : L2.St} {H : Hp} {s : Shared} {Q : VK} {us ws : List Value} {vs zs : List V} {f : Addr} {fd : FuncData} {ps : List Str} {k : Nat} {ev : List D → Store → Rs D} {h : Shp} {μ : List Addr} {ds es : List D} {S : Store}
    (F : FnG X.prog X.w X.K X.mg X.base k f fd ps (spD X.K CT ev)) (hr : Room (2 * k + 1) X.A) (hgd : X.A.guards = some []) (tk : Takes X W) (sh : CallShape X.K fd ps h) (I : Inv X pins σ H s) (r : Vals vs us) (rz : Vals zs ws) (hn : us.length = h.n) (hk : ws.length = h.ks.length)
    (hS : RS X.K μ H S) (hd : RVs X.K μ H ds vs) (he : RVs X.K μ H es zs)
    (hq : Out X.K CT W (RV X.K) μ H σ (match permute h.pm (ds ++ es) with
      | some ds' => ev ds' S
      | none => .bad) Q) : wpAny (model X.prog X.w) X.A (call (.ref f) us (h.ks.zip ws)) (EP X pins σ Q) X.xe s := by
  cases q : permute h.pm (ds ++ es) with
  | none => rw [q] at hq; exact (show False from hq).elim
  | some ds' =>
    rw [q] at hq
    replace hq : Out X.K CT W (RV X.K) μ H σ (ev ds' S) Q := hq
    have hv := hd.append he
    obtain ⟨hb, hl⟩ := sh s us ws I.kIn hn hk
    refine wpAny_call (codeAny_mono (F.run X.A X.stack s H ⟨us, h.ks.zip ws⟩ _ (permG .non h.pm (vs ++ zs)) Q (fun c d H' => W c d σ H') hr hgd I.env0 hb hl (perm_vals q hv.length (r.append rz)) ⟨μ, ds', S, perm_rv q hv, hS, ?_⟩) fun r s' hq => ?_)
    · cases e : ev ds' S with
      | ok a S' => rw [e] at hq; exact hq
      | exc a S' => rw [e] at hq; exact hq
      | bad => rw [e] at hq; exact hq
    · cases r with
      | error e => exact tk e s' (XE.of_call I (fun cls d H' h => h) hq)
      | ok fl =>
        cases fl with
        | ret u => exact I.after hq
        | next => exact False.elim hq
        | brk => exact False.elim hq
        | cont => exact False.elim hq
theorem e_call {f : Addr} {fd : FuncData} {ps : List Str} {k : Nat} {ev : List D → Store → Rs D} {h : Shp} {es : List Expr} {kws : List Keyword} {fs fk : Env → Store → Rs (List D)} {x : Str} {p pos : Pos}
    (F : FnG X.prog X.w X.K X.mg X.base k f fd ps (spD X.K CT ev)) (hr : Room (2 * k + 1) X.A) (hgd : X.A.guards = some []) (tk : Takes X W) (hg : Gl X x) (hm : X.mg x = some (.ref f)) (hk : PySem.W.keepIn X.K (.ref f) = true) (sh : CallShape X.K fd ps h)
    (ha : PA X es (tA X.K CT W fs)) (hkw : PK X kws (tA X.K CT W fk)) (nf : ∀ ρ S ds S', fs ρ S = .ok ds S' → ds.length = h.n) (nk : ∀ ρ S ds S', fk ρ S = .ok ds S' → ds.length = h.ks.length)
    (hks : kws.map Keyword.arg = h.ks.map some) (hst : es.all okE = true) (hnil : es = [] → ∀ ρ S, fs ρ S = .ok [] S) (hdb : (x == ("__debug__" : Str)) = false) :
    PE X (.Call (.Name x p) es kws pos) (tX X.K CT W fun ρ S => (fs ρ S).bnd fun ds S1 => (fk ρ S1).bnd fun ws S2 => match permute h.pm (ds ++ ws) with
      | some ds' => ev ds' S2
      | none => .bad) := by
  refine ⟨fun pins s σ H Q I ⟨μ, ρ, S, hσ, hS, hq⟩ => ?_⟩
  have hq := Out.bndE (rel := RVs X.K) hq
  obtain ⟨k1, k2, k3⟩ := kw_all pos X.env hks
  have kq : ∀ (us : List Value) (s1 : Shared) (vs : List V) (H1 : Hp), Inv X pins σ H1 s1 → Vals vs us → (∃ μ1 ds S1, fs ρ S = .ok ds S1 ∧ Ext μ H μ1 H1 ∧ RS X.K μ1 H1 S1 ∧ RVs X.K μ1 H1 ds vs ∧ Out X.K CT W (RV X.K) μ1 H1 σ ((fk ρ S1).bnd fun ws S2 => match permute h.pm (ds ++ ws) with
      | some ds' => ev ds' S2
      | none => .bad) Q) → wpAny (model X.prog X.w) X.A (evalAll ((backToKw pos (keywordEach kws X.env)).map (·.2)))
      (fun ks s₂ => X.K.In s₂.heap ∧ wpAny (model X.prog X.w) X.A (call (.ref f) us (((backToKw pos (keywordEach kws X.env)).filterMap (·.1)).zip ks)) (EP X pins σ Q) X.xe s₂) X.xe s1 := by
    intro us s1 vs H1 I1 r ⟨μ1, ds, S1, e1, x1, s1', rv, q⟩
    have q := Out.bndE (rel := RVs X.K) q
    refine thn (hkw.run pos pins s1 σ H1 _ I1 ⟨μ1, ρ, S1, hσ.mono x1 hS, s1', q⟩) fun ws s2 ⟨zs, H2, I2, rz, μ2, ws', S2, e2, x2, s2', rv2, q2⟩ => ⟨I2.kIn, ?_⟩
    rw [k2]
    exact run_fnG F hr hgd tk sh I2 r rz (by rw [← r.length, rv.length]; exact nf _ _ _ _ e1) (by rw [← rz.length, rv2.length]; exact nk _ _ _ _ e2) s2' (RVs.mono x2 s1' _ _ rv) rv2 q2
  refine wpAny_Call_Name_kw (ld_glob I hg hm ?_ hdb)
  cases es with
  | nil =>
    refine PySem.W.callWith_KW0 (first := []) (h₀ := X.base) I.ok.mod.kin hk k1 ?_ (by rw [k3]; rfl)
    rw [hnil rfl] at hq
    exact kq [] s [] H I .nil (hq μ H [] (Ext.refl _ _) hS .nil_ |> fun ⟨μ1, ds, S1, e1, r⟩ => ⟨μ1, ds, S1, (hnil rfl ρ S).trans e1, r⟩)
  | cons e rest =>
    have h1 : okE e = true := by rw [List.all_cons, Bool.and_eq_true] at hst; exact hst.1
    refine PySem.W.callWith_KW (first := []) (h₀ := X.base) I.ok.mod.kin hk k1 (thn (ha.run pos pins s σ H _ I ⟨μ, ρ, S, hσ, hS, hq⟩) fun us s1 ⟨vs, H1, I1, r, q⟩ => ?_) (by rw [stars_any pos X.env hst, k3]; rfl) (star_of h1 _ _)
    exact kq us s1 vs H1 I1 r q
end
end Cw
/-! CwS: instances with slots: read, written, their properties, methods; made. -/
namespace Cw
open PySem PySem.Spec PyProof.Rows L2

/-- o.m(..): what is called is got, then the arguments -/
theorem wpAny_Call_meth {prog : Program} {w : World} {A : Around} {E : Value → Shared → Prop} {env : PySem.Env} {s : Shared} {o : Expr} {name : Str} {apos pos : Pos} {args : List Expr} {Q : Value → Shared → Prop}
    (hbase : attributeBase o name env (eval o env) = eval o env)
    (hfew : ((backTo pos (starEach args env)).all (fun x => !x.1) && (backToKw pos (keywordEach [] env)).all (fun x => x.1.isSome)
      && decide (args.length + ([] : List Keyword).length + (if ([] : List Keyword).isEmpty then 0 else 1) < 30)) = true)
    (hline : (apos.endLine == pos.line) = true)
    (h : wpAny (model prog w) A (eval o env) (fun ov s₁ => ∀ pl, wpAny (model prog w) A (getMethod ov name pl) (fun fx s₂ => wpAny (model prog w) A (callWith pos fx.1 fx.2 (backTo pos (starEach args env)) (backToKw pos (keywordEach [] env))) Q E s₂) E s₁) E s) :
    wpAny (model prog w) A (eval (.Call (.Attribute o name apos) args [] pos) env) Q E s := by
  rw [arm_eval_Call, hbase]
  refine wpAny_bind (wpAny_mono h (fun ov s₁ h₁ => ?_) fun _ _ e => e)
  refine wpAny_bind (wpAny_standAt ?_)
  have hform : methodCallForm (args.length + ([] : List Keyword).length) (backTo pos (starEach args env)) (backToKw pos (keywordEach [] env)) = true := hfew
  have hpos : methodCallPos true o env apos pos = pure pos := by unfold methodCallPos; simp [hline]
  unfold methodCall
  rw [hform]
  refine wpAny_bind (wpAny_holding (wpAny_mono (h₁ _) (fun fx s₂ h₂ => ?_) fun _ _ e => e))
  exact wpAny_bind (wpAny_of_eq hpos h₂)

theorem ClsAt.inj {K : PySem.W.Frag} {c : Str} {C C' : Addr} (h : ClsAt K c C) (h' : ClsAt K c C') : C = C' := by
  unfold ClsAt at h h'
  rw [h] at h'
  cases h'
  rfl
theorem insOf_inv {S : Store} {d : D} {c : Str} {fs : List (Option D)} (h : insOf S d = some (c, fs)) : ∃ n, d = .ref n ∧ S[n]? = some (.ins c fs) := by
  unfold insOf at h
  split at h
  · rename_i n
    split at h
    · rename_i e
      cases h
      exact ⟨n, rfl, e⟩
    · cases h
  · cases h
section
variable {X : Cx} {CT : Nat → Option Addr} {W : WX} {a : Expr} {fa : Env → Store → Rs D} {cl : CallT} {pos : Pos} {t : List (Str × Nat)} {f : Str}
/-- the callee runs, in whatever is around -/
theorem run_G {A : Around} {pins : List (Addr × Obj)} {σ : L2.St} {H : Hp} {s : Shared} {Q : VK} {us : List Value} {vs : List V} {f : Addr} {fd : FuncData} {ps : List Str} {k n : Nat} {ev : List D → Store → Rs D} {μ : List Addr} {ds : List D} {S : Store}
    (F : FnG X.prog X.w X.K X.mg X.base k f fd ps (spD X.K CT ev)) (hr : Room (2 * k + 1) A) (hgd : A.guards = some []) (tk : Takes X W) (sh : CallShape X.K fd ps ⟨n, [], none⟩) (I : Inv X pins σ H s) (e0 : Env0 X.prog X.w X.K X.mg X.base A X.stack s H) (r : Vals vs us) (hn : us.length = n)
    (hS : RS X.K μ H S) (hd : RVs X.K μ H ds vs) (hq : Out X.K CT W (RV X.K) μ H σ (ev ds S) Q) :
    codeAny (model X.prog X.w) A (.call (.ref f) ⟨us, []⟩) (fun r s' => match r with | .ok (.ret v) => EP X pins σ Q v s' | .ok _ => False | .error e => X.xe e s') s := by
  obtain ⟨hb, hl⟩ := sh s us [] I.kIn hn rfl
  have e : permG Value.none (none : Option (List Nat)) (us ++ []) = us := List.append_nil _
  rw [e] at hb hl
  refine codeAny_mono (F.run A X.stack s H ⟨us, []⟩ us vs Q (fun c d H' => W c d σ H') hr hgd e0 hb hl r ⟨μ, ds, S, hd, hS, ?_⟩) fun r s' hq => ?_
  · cases e : ev ds S with
    | ok a S' => rw [e] at hq; exact hq
    | exc a S' => rw [e] at hq; exact hq
    | bad => rw [e] at hq; exact hq
  · cases r with
    | error e => exact tk e s' (XE.of_call I (fun cls d H' h => h) hq)
    | ok fl =>
      cases fl with
      | ret u => exact I.after hq
      | next => exact False.elim hq
      | brk => exact False.elim hq
      | cont => exact False.elim hq
/-- the same where nothing is raised -/
theorem run_G0 {A : Around} {pins : List (Addr × Obj)} {σ : L2.St} {H : Hp} {s : Shared} {Q : VK} {us : List Value} {vs : List V} {f : Addr} {fd : FuncData} {ps : List Str} {k n : Nat} {ev : List D → Store → Rs D} {μ : List Addr} {ds : List D} {S : Store}
    (F : FnG X.prog X.w X.K X.mg X.base k f fd ps (spD X.K CT ev)) (hr : Room (2 * k + 1) A) (hgd : A.guards = some []) (sh : CallShape X.K fd ps ⟨n, [], none⟩) (I : Inv X pins σ H s) (e0 : Env0 X.prog X.w X.K X.mg X.base A X.stack s H) (r : Vals vs us) (hn : us.length = n)
    (hS : RS X.K μ H S) (hd : RVs X.K μ H ds vs) (hq : Out X.K CT W (RV X.K) μ H σ (noX (ev ds S)) Q) :
    codeAny (model X.prog X.w) A (.call (.ref f) ⟨us, []⟩) (fun r s' => match r with | .ok (.ret v) => EP X pins σ Q v s' | .ok _ => False | .error _ => False) s := by
  obtain ⟨hb, hl⟩ := sh s us [] I.kIn hn rfl
  have e : permG Value.none (none : Option (List Nat)) (us ++ []) = us := List.append_nil _
  rw [e] at hb hl
  refine codeAny_mono (F.run A X.stack s H ⟨us, []⟩ us vs Q (fun c d H' => False) hr hgd e0 hb hl r ⟨μ, ds, S, hd, hS, ?_⟩) fun r s' hq => ?_
  · cases e : ev ds S with
    | ok a S' => rw [e] at hq; exact hq
    | exc a S' => rw [e] at hq; exact hq.elim
    | bad => rw [e] at hq; exact hq
  · cases r with
    | error e =>
      obtain ⟨_, _, _, _, _, _, _, _, _, _, _, _, z⟩ := hq
      exact z.elim
    | ok fl =>
      cases fl with
      | ret u => exact I.after hq
      | next => exact False.elim hq
      | brk => exact False.elim hq
      | cont => exact False.elim hq
/-! ### slots -/
theorem e_fld (hk : ∀ c i, t.lookup c = some i → ∀ C, ClsAt X.K c C → SlX.SCls X.K C ∧ ∃ p, SlX.Slot1 X.K C f p i) (ha : PE X a (tX X.K CT W fa)) (hb : attributeBase a f X.env (eval a X.env) = eval a X.env) :
    PE X (.Attribute a f pos) (tX X.K CT W fun ρ S => (fa ρ S).bnd (evFld t)) := PE_of (SlX.pe_sl ha hb) fun σ H Q q => (tX.one q).mono fun x H1 ⟨μ, S, d, hS, hd, h⟩ => by
  unfold evFld at h
  split at h
  · rename_i c fs e
    obtain ⟨n, rfl, e1⟩ := insOf_inv e
    split at h
    · rename_i i el
      split at h
      · rename_i d' ef
        obtain ⟨b, C, dx, vs, rfl, _, hc, hne, hH, hx, hf⟩ := hS.ins hd e1
        obtain ⟨sc, p, s1⟩ := hk c i el C hc
        obtain ⟨v, ev, rv⟩ := hf i d' ef
        exact ⟨b, C, dx, p, vs, i, v, rfl, .inr ⟨hH, hx⟩, sc, s1, ev, h.ok hS rv⟩
      · exact h.elim
    · exact h.elim
  · exact h.elim
theorem s_stA {e : Expr} {fe : Env → Store → Rs D} {pos' : Pos} (hk : ∀ c i, t.lookup c = some i → ∀ C, ClsAt X.K c C → SlX.SCls X.K C ∧ ∃ p, SlX.Slot1 X.K C f p i) (ha : PE X a (tX X.K CT W fa)) (he : PE X e (tX X.K CT W fe))
    (hs : swapsWith e (some (.Attribute a f pos')) pos.line X.env = pure false) : PS X (.Assign [.Attribute a f pos'] e pos) (SlX.sSl X.K (tX X.K CT W fa) (tX X.K CT W fe) f) := SlX.ps_sl ha he hs
/-! ### properties -/
theorem e_prp {k : Nat} (hr : Room (2 * k + 2) X.A) (hgd : X.A.guards = some [])
    (hk : ∀ c g, t.lookup c = some g → ∀ C, ClsAt X.K c C → SlX.SCls X.K C ∧ ∃ p ga fd ps, PySem.W.findIn X.K (.ref C) f = some (some (.ref p)) ∧ PySem.W.specialIn X.K (.ref p) "__get__" = some (some (.builtin "property.__get__")) ∧ PySem.W.takesIn X.K (.ref p) = some true ∧ (∃ rest, PySem.W.recIn X.K p "property" = some (.ref ga :: rest)) ∧
      FnG X.prog X.w X.K X.mg X.base k ga fd ps (spD X.K CT (cl g)) ∧ CallShape X.K fd ps ⟨1, [], none⟩)
    (ha : PE X a (tX X.K CT W fa)) (hb : attributeBase a f X.env (eval a X.env) = eval a X.env) :
    PE X (.Attribute a f pos) (tX X.K CT W fun ρ S => (fa ρ S).bnd (evPrp cl t)) := by
  refine ⟨fun pins s σ H Q I q => ?_⟩
  refine attr_of hb (thn (ha.run pins s σ H _ I (tX.one q)) fun u s1 ⟨x, H1, I1, rx, μ, S, d, hS, hd, h⟩ => ?_)
  unfold evPrp at h
  split at h
  · rename_i c fs e
    obtain ⟨n, rfl, e1⟩ := insOf_inv e
    split at h
    · rename_i g el
      obtain ⟨b, C, dx, vs, rfl, _, hc, hne, hH, hx, hf⟩ := hS.ins hd e1
      obtain ⟨sc, p, ga, fd, ps, at_, get, tk_, ⟨rest, hrec⟩, F, sh⟩ := hk c g el C hc
      obtain rfl : u = Value.ref b := rx
      obtain ⟨sl, od, _, J, _⟩ := SlX.slt_inst I1 (.inr ⟨hH, hx⟩)
      have I2 : Inv X pins σ H1 { s1 with toks := s1.toks + 1 } := I1.tok (s1.toks + 1)
      refine PySem.W.get_bind I1.kIn J (PySem.W.plainGet_of (sc.get f)).1 (PySem.W.findObj_data sc.ic at_ get tk_) (PySem.W.plainGet_of (sc.get f)).2 (wpAny_call (PySem.W.prop_get (s := { s1 with toks := s1.toks + 1 }) I1.kIn hrec ?_))
      refine codeAny_mono (run_G0 (A := X.A.in1) (us := [.ref b]) (vs := [.ref b]) F (show Room (2 * k + 1) X.A.in1 from hr.in1) hgd sh I2 I2.env0.in1 (.cons rfl .nil) rfl hS (.cons_ hd .nil_) h) fun r s' hq => ?_
      cases r with
      | error e => exact False.elim hq
      | ok fl =>
        cases fl with
        | ret u =>
          obtain ⟨v, H', I3, rv, q⟩ := hq
          exact wpAny_of_eq (PySem.W.handedOut_of (handed_of rv)) ⟨v, H', I3, rv, q⟩
        | next => exact False.elim hq
        | brk => exact False.elim hq
        | cont => exact False.elim hq
    · exact h.elim
  · exact h.elim
/-! ### methods -/
theorem few_all {es : List Expr} {env : PySem.Env} {pos : Pos} (h : es.all okE = true) (hl : es.length < 20) : ((backTo pos (starEach es env)).all (fun x => !x.1) && (backToKw pos (keywordEach [] env)).all (fun x => x.1.isSome)
      && decide (es.length + ([] : List Keyword).length + (if ([] : List Keyword).isEmpty then 0 else 1) < 30)) = true := by
  have h1 := stars_any pos env h
  rw [Bool.and_eq_true, Bool.and_eq_true]
  refine ⟨⟨?_, rfl⟩, decide_eq_true (by show es.length + 0 + 0 < 30; omega)⟩
  rw [List.all_eq_true]
  intro x hx
  rw [List.any_eq_false] at h1
  simpa using h1 x hx
theorem e_mth {k : Nat} {es : List Expr} {fs : Env → Store → Rs (List D)} {apos : Pos} {n : Nat} (hr : Room (2 * k + 2) X.A) (hgd : X.A.guards = some []) (tk : Takes X W)
    (hk : ∀ c g, t.lookup c = some g → ∀ C, ClsAt X.K c C → SlX.SCls X.K C ∧ ∃ ga fd ps, Meth X.K C f ga ∧ FnG X.prog X.w X.K X.mg X.base k ga fd ps (spD X.K CT (cl g)) ∧ CallShape X.K fd ps ⟨n + 1, [], none⟩)
    (ha : PE X a (tX X.K CT W fa)) (hb : attributeBase a f X.env (eval a X.env) = eval a X.env) (hline : (apos.endLine == pos.line) = true)
    (hes : PA X es (tA X.K CT W fs)) (nf : ∀ ρ S ds S', fs ρ S = .ok ds S' → ds.length = n) (hst : es.all okE = true) (hlen : es.length < 20) (hnil : es = [] → ∀ ρ S, fs ρ S = .ok [] S) :
    PE X (.Call (.Attribute a f apos) es [] pos) (tX X.K CT W fun ρ S => (fa ρ S).bnd fun x S1 => evMth cl t x (fs ρ) S1) := by
  refine ⟨fun pins s σ H Q I ⟨μ0, ρ, S0, hσ, hS0, q⟩ => ?_⟩
  have q := Out.bndE (rel := RV X.K) q
  refine wpAny_Call_meth hb (few_all hst hlen) hline (thn (ha.run pins s σ H _ I ⟨μ0, ρ, S0, hσ, hS0, q⟩) fun u s1 ⟨x, H1, I1, rx, μ, d, S, e0, x1, hS, hd, h⟩ => ?_)
  intro pl
  unfold evMth at h
  split at h
  · rename_i c gs e
    obtain ⟨m, rfl, e1⟩ := insOf_inv e
    split at h
    · rename_i g el
      obtain ⟨b, C, dx, vs, rfl, _, hc, hne, hH, hx, hf⟩ := hS.ins hd e1
      obtain ⟨sc, ga, fd, ps, hm, F, sh⟩ := hk c g el C hc
      obtain rfl : u = Value.ref b := rx
      refine SlX.getmethsl_ok I1 (.inr ⟨hH, hx⟩) sc hm ?_
      have h := Out.bndE (rel := RVs X.K) h
      have fin : ∀ (us : List Value) (s2 : Shared) (ws : List V) (H2 : Hp), Inv X pins σ H2 s2 → Vals ws us → (∃ μ1 ds S1, fs ρ S = .ok ds S1 ∧ Ext μ H1 μ1 H2 ∧ RS X.K μ1 H2 S1 ∧ RVs X.K μ1 H2 ds ws ∧ Out X.K CT W (RV X.K) μ1 H2 σ (cl g (.ref m :: ds) S1) Q) →
          wpAny (model X.prog X.w) X.A (call (.ref ga) (.ref b :: us)) (EP X pins σ Q) X.xe s2 := by
        intro us s2 ws H2 I2 r ⟨μ1, ds, S1, ee, x2, s2', rv, q2⟩
        have hlu : us.length = n := by rw [← r.length, rv.length]; exact nf _ _ _ _ ee
        exact wpAny_call (run_G (us := .ref b :: us) (vs := .ref b :: ws) F (hr.mono (by omega)) hgd tk sh I2 I2.env0 (.cons rfl r) (by rw [List.length_cons, hlu]) s2' (.cons_ (RV.mono x2 hS _ _ hd) rv) q2)
      cases es with
      | nil =>
        refine PySem.W.callWith_K0 (first := [.ref b]) I1.kIn hm.kp ?_
        rw [hnil rfl] at h
        exact fin [] s1 [] H1 I1 .nil (h μ H1 [] (Ext.refl _ _) hS .nil_ |> fun ⟨μ1, ds, S1, e1, r⟩ => ⟨μ1, ds, S1, (hnil rfl ρ S).trans e1, r⟩)
      | cons y rest =>
        have hst' := hst
        rw [List.all_cons, Bool.and_eq_true] at hst'
        refine PySem.W.callWith_K (first := [.ref b]) (h₀ := X.base) I.ok.mod.kin hm.kp (thn (hes.run pos pins s1 σ H1 _ I1 ⟨μ, ρ, S, hσ.mono x1 hS0, hS, h⟩) fun us s2 ⟨ws, H2, I2, r, q2⟩ => ⟨I2.kIn, ?_⟩) (star_of hst'.1 _ _) (stars_any pos X.env hst'.2)
        exact fin us s2 ws H2 I2 r q2
    · exact h.elim
  · exact h.elim
/-! ### a new instance -/
theorem run_mkG {pins : List (Addr × Obj)} {σ : L2.St} {H : Hp} {s : Shared} {Q : VK} {us : List Value} {vs : List V} {C fi : Addr} {fd : FuncData} {ps : List Str} {k n g : Nat} {c : Str} {μ : List Addr} {ds : List D} {S : Store}
    (hm : PySem.W.makesIn X.K C = true) (hi : PySem.W.findIn X.K (.ref C) "__init__" = some (some (.ref fi))) (hf : PySem.W.isFn X.K (.ref fi) = true) (hc : ClsAt X.K c C)
    (F : FnG X.prog X.w X.K X.mg X.base k fi fd ps (spD X.K CT (cl g))) (hr : Room (2 * k + 2) X.A) (hgd : X.A.guards = some []) (tk : Takes X W) (sh : CallShape X.K fd ps ⟨n + 1, [], none⟩) (I : Inv X pins σ H s) (r : Vals vs us) (hn : us.length = n)
    (hS : RS X.K μ H S) (hd : RVs X.K μ H ds vs) (hq : Out X.K CT W (RV X.K) μ H σ (evMk cl c g ds S) Q) : wpAny (model X.prog X.w) X.A (call (.ref C) us) (EP X pins σ Q) X.xe s := by
  have n1 : H (s.heap.objs.size + 1) = none := I.hok.fresh (Nat.le_succ _)
  have n2 : H s.heap.objs.size = none := I.hok.fresh (Nat.le_refl _)
  have ne : s.heap.objs.size ≠ s.heap.objs.size + 1 := Nat.ne_of_lt (Nat.lt_succ_self _)
  have I2 := Inv.made (C := C) I
  have e2 : ((s.heap.push PySem.W.emptyDict).push (PySem.W.instObj C s.heap.objs.size)).get? (s.heap.objs.size + 1) = some (PySem.W.instObj C s.heap.objs.size) := by
    have := Heap.get?_push_size (s.heap.push PySem.W.emptyDict) (o := PySem.W.instObj C s.heap.objs.size) rfl
    rwa [Heap.size_push] at this
  have I3 := SlX.inv_slot (vs' := []) (sl' := (PySem.W.instObj C s.heap.objs.size).slots) (t' := s.toks) I2 (.inl ⟨upd_same, rfl⟩) (fun b o _ _ e => e) (fun m h => h) e2 (SlX.SlR.nil _)
  have eH : SlX.slH (L2.upd (L2.upd H s.heap.objs.size (.own (s.heap.objs.size + 1))) (s.heap.objs.size + 1) (.ins C s.heap.objs.size [])) (s.heap.objs.size + 1) C s.heap.objs.size [] = L2.upd (L2.upd H s.heap.objs.size (.xd [])) (s.heap.objs.size + 1) (SlX.SlO (s.heap.objs.size + 1) C s.heap.objs.size []) := by
    funext b
    unfold SlX.slH
    by_cases h1 : b = s.heap.objs.size + 1
    · subst h1; rw [upd_same, upd_same]
    · rw [upd_ne h1, upd_ne h1]
      by_cases h2 : b = s.heap.objs.size
      · subst h2; rw [upd_same, upd_same]
      · rw [upd_ne h2, upd_ne h2, upd_ne h1, upd_ne h2]
  rw [eH] at I3
  obtain ⟨x1, s1, r1⟩ := hS.newI (x := s.heap.objs.size + 1) (dx := s.heap.objs.size) hc n1 n2 ne
  have hq := Out.bndE (rel := RV X.K) (show Out X.K CT W (RV X.K) _ _ σ ((cl g (.ref S.length :: ds) (S ++ [.ins c []])).bnd fun r S2 => match r with
    | .non => .ok (.ref S.length) S2
    | _ => .bad) Q from Out.ext hq x1)
  have hq2 : Out X.K CT W (RV X.K) (μ ++ [s.heap.objs.size + 1]) (L2.upd (L2.upd H s.heap.objs.size (.xd [])) (s.heap.objs.size + 1) (SlX.SlO (s.heap.objs.size + 1) C s.heap.objs.size [])) σ (cl g (.ref S.length :: ds) (S ++ [.ins c []])) (fun v H2 => v = .non ∧ Q (.ref (s.heap.objs.size + 1)) H2) := by
    refine hq.mono fun v H2 ⟨μ2, a, S2, ea, x2, s2, ra, o⟩ => ?_
    cases a with
    | non =>
      refine ⟨ra.non_, o.ok s2 (.ref ?_)⟩
      obtain ⟨t, rfl⟩ := x2.pre
      refine get_pre ?_
      rw [← hS.len]
      simp
    | _ => exact o.elim
  refine wpAny_call (make_map (f := fi) I.kIn hm hi (beq_iff_eq.mp hf) (codeAny_mono (run_G (A := X.A.under (.builtin "type.__call__" ⟨.ref C :: us, []⟩)) (us := .ref (s.heap.objs.size + 1) :: us) (vs := .ref (s.heap.objs.size + 1) :: vs) F (show Room (2 * k + 1) _ from hr.make C us []) hgd tk sh I3
    (I3.env0.make C us []) (.cons rfl r) (by rw [List.length_cons, hn]) s1 (.cons_ r1 (RVs.mono x1 hS _ _ hd)) hq2) fun r s' hq' => ?_))
  cases r with
  | error e => exact hq'
  | ok fl =>
    cases fl with
    | ret u =>
      obtain ⟨v, H', I4, rv, ev, q3⟩ := hq'
      subst ev
      exact ⟨rv, ⟨V.ref (s.heap.objs.size + 1), H', I4, rfl, q3⟩⟩
    | next => exact False.elim hq'
    | brk => exact False.elim hq'
    | cont => exact False.elim hq'
theorem e_mk {k n g : Nat} {c : Str} {C fi : Addr} {fd : FuncData} {ps : List Str} {es : List Expr} {fs : Env → Store → Rs (List D)} {x : Str} {p : Pos} (hr : Room (2 * k + 2) X.A) (hgd : X.A.guards = some []) (tk : Takes X W) (hg : Gl X x) (hmg : X.mg x = some (.ref C)) (kp : PySem.W.keepIn X.K (.ref C) = true) (hdb : (x == ("__debug__" : Str)) = false)
    (hm : PySem.W.makesIn X.K C = true) (hi : PySem.W.findIn X.K (.ref C) "__init__" = some (some (.ref fi))) (hf : PySem.W.isFn X.K (.ref fi) = true) (hc : ClsAt X.K c C)
    (F : FnG X.prog X.w X.K X.mg X.base k fi fd ps (spD X.K CT (cl g))) (sh : CallShape X.K fd ps ⟨n + 1, [], none⟩)
    (hes : PA X es (tA X.K CT W fs)) (nf : ∀ ρ S ds S', fs ρ S = .ok ds S' → ds.length = n) (hst : es.all okE = true) (hnil : es = [] → ∀ ρ S, fs ρ S = .ok [] S) :
    PE X (.Call (.Name x p) es [] pos) (tX X.K CT W fun ρ S => (fs ρ S).bnd (evMk cl c g)) := by
  refine ⟨fun pins s σ H Q I ⟨μ, ρ, S, hσ, hS, hq⟩ => ?_⟩
  have hq := Out.bndE (rel := RVs X.K) hq
  refine wpAny_Call_Name_kw (ld_glob I hg hmg ?_ hdb)
  have fin : ∀ (us : List Value) (s2 : Shared) (ws : List V) (H2 : Hp), Inv X pins σ H2 s2 → Vals ws us → (∃ μ1 ds S1, fs ρ S = .ok ds S1 ∧ Ext μ H μ1 H2 ∧ RS X.K μ1 H2 S1 ∧ RVs X.K μ1 H2 ds ws ∧ Out X.K CT W (RV X.K) μ1 H2 σ (evMk cl c g ds S1) Q) →
      wpAny (model X.prog X.w) X.A (call (.ref C) us) (EP X pins σ Q) X.xe s2 := fun us s2 ws H2 I2 r ⟨μ1, ds, S1, ee, x2, s2', rv, q2⟩ =>
    run_mkG hm hi hf hc F hr hgd tk sh I2 r (by rw [← r.length, rv.length]; exact nf _ _ _ _ ee) s2' rv q2
  cases es with
  | nil =>
    refine PySem.W.callWith_K0 (first := []) I.kIn kp ?_
    rw [hnil rfl] at hq
    exact fin [] s [] H I .nil (hq μ H [] (Ext.refl _ _) hS .nil_ |> fun ⟨μ1, ds, S1, e1, r⟩ => ⟨μ1, ds, S1, (hnil rfl ρ S).trans e1, r⟩)
  | cons y rest =>
    have hst' := hst
    rw [List.all_cons, Bool.and_eq_true] at hst'
    refine PySem.W.callWith_K (first := []) (h₀ := X.base) I.ok.mod.kin kp (thn (hes.run pos pins s σ H _ I ⟨μ, ρ, S, hσ, hS, hq⟩) fun us s2 ⟨ws, H2, I2, r, q2⟩ => ⟨I2.kIn, ?_⟩) (star_of hst'.1 _ _) (stars_any pos X.env hst'.2)
    exact fin us s2 ws H2 I2 r q2
end
end Cw
/-! CwG: the check of expressions and what it gives. -/
namespace Cw
open PySem PySem.Spec PyProof.Rows L2

/-! ### alike data -/
mutual
def eqDD : D → D → Bool
  | .non, d => match d with | .non => true | _ => false
  | .bl b, d => match d with | .bl c => b == c | _ => false
  | .int b, d => match d with | .int c => decide (b = c) | _ => false
  | .str b, d => match d with | .str c => decide (b = c) | _ => false
  | .tup xs, d => match d with | .tup ys => eqDs xs ys | _ => false
  | .rol xs, d => match d with | .rol ys => eqDs xs ys | _ => false
  | .ref n, d => match d with | .ref m => decide (n = m) | _ => false
termination_by structural d => d
def eqDs : List D → List D → Bool
  | [], ds => ds.isEmpty
  | x :: xs, ds => match ds with
    | [] => false
    | y :: ys => eqDD x y && eqDs xs ys
termination_by structural d => d
end
mutual
theorem eqDD_eq : ∀ (a b : D), eqDD a b = true → a = b
  | .non, b, h => by cases b <;> simp [eqDD] at h ⊢
  | .bl x, b, h => by cases b <;> simp [eqDD] at h ⊢; exact h
  | .int x, b, h => by cases b <;> simp [eqDD] at h ⊢; exact h
  | .str x, b, h => by cases b <;> simp [eqDD] at h ⊢; exact h
  | .tup xs, b, h => by
    cases b with
    | tup ys => exact congrArg D.tup (eqDs_eq xs ys (by simpa [eqDD] using h))
    | _ => simp [eqDD] at h
  | .rol xs, b, h => by
    cases b with
    | rol ys => exact congrArg D.rol (eqDs_eq xs ys (by simpa [eqDD] using h))
    | _ => simp [eqDD] at h
  | .ref n, b, h => by cases b <;> simp [eqDD] at h ⊢; exact h
theorem eqDs_eq : ∀ (a b : List D), eqDs a b = true → a = b
  | [], b, h => by cases b <;> simp [eqDs] at h ⊢
  | x :: xs, b, h => by
    cases b with
    | nil => simp [eqDs] at h
    | cons y ys =>
      simp [eqDs] at h
      rw [eqDD_eq x y h.1, eqDs_eq xs ys h.2]
end

/-! ### the context -/
/-- a global name of the module: a def with the shapes of its calls, or data -/
inductive GV where
  | fnv (id : Nat) (sh : List Shp)
  | cst (d : D)
/-- a class: its slots, properties, methods (a def's number, how many arguments), its __init__ -/
structure ClsT where
  sl : List (Str × Nat)
  pr : List (Str × Nat)
  me : List (Str × (Nat × Nat))
  ini : Nat × Nat
structure Tab where
  gl : List (Str × GV)
  bl : List Str
  cs : List (Str × ClsT)
/-- a def of a class runs so -/
def MethG (P : Program) (w : World) (K : PySem.W.Frag) (mg : Str → Option Value) (base : Heap) (CT : Nat → Option Addr) (cl : CallT) (k : Nat) (g : Addr) (id n : Nat) : Prop :=
  ∃ fd ps, FnG P w K mg base k g fd ps (spD K CT (cl id)) ∧ CallShape K fd ps ⟨n, [], none⟩
/-- a class's facts, over what its defs promise -/
structure ClsF (K : PySem.W.Frag) (mg : Str → Option Value) (R : Addr → Nat → Nat → Prop) (cn : Str) (ct : ClsT) (C : Addr) : Prop where
  at_ : ClsAt K cn C
  mg_ : mg cn = some (.ref C)
  sc : SlX.SCls K C
  mk_ : PySem.W.makesIn K C = true
  kp : PySem.W.keepIn K (.ref C) = true
  ini : ∃ f, PySem.W.findIn K (.ref C) "__init__" = some (some (.ref f)) ∧ PySem.W.isFn K (.ref f) = true ∧ R f ct.ini.1 (ct.ini.2 + 1)
  sl : ∀ f i, ct.sl.lookup f = some i → ∃ p, SlX.Slot1 K C f p i
  pr : ∀ f g, ct.pr.lookup f = some g → ∃ p ga, PySem.W.findIn K (.ref C) f = some (some (.ref p)) ∧ PySem.W.specialIn K (.ref p) "__get__" = some (some (.builtin "property.__get__")) ∧ PySem.W.takesIn K (.ref p) = some true ∧ (∃ rest, PySem.W.recIn K p "property" = some (.ref ga :: rest)) ∧ R ga g 1
  me : ∀ m g n, ct.me.lookup m = some (g, n) → ∃ ga, Meth K C m ga ∧ R ga g (n + 1)
structure Sx where
  N : List Str
  sc : Scope
  fn : Str → Bool
structure XOk (T : Tab) (c : Sx) (X : Cx) (CT : Nat → Option Addr) (W : WX) (cl : CallT) : Prop where
  N : X.N = c.N
  sc : X.env.scope = c.sc
  fn : X.fn = c.fn
  nd : X.N.Nodup
  calm : X.calm = true
  un : X.A.units + 65 < cLine
  gd : X.A.guards = some []
  tk : Takes X W
  k : ∃ k, Room (2 * k + 2) X.A ∧ (∀ x id sh, T.gl.lookup x = some (.fnv id sh) → ∃ f fd ps, X.mg x = some (.ref f) ∧ PySem.W.keepIn X.K (.ref f) = true ∧ FnG X.prog X.w X.K X.mg X.base k f fd ps (spD X.K CT (cl id)) ∧ ∀ h ∈ sh, CallShape X.K fd ps h) ∧
    ∀ cn ct, T.cs.lookup cn = some ct → ∃ C, ClsF X.K X.mg (MethG X.prog X.w X.K X.mg X.base CT cl k) cn ct C
  cst : ∀ x d, T.gl.lookup x = some (.cst d) → ∃ v u, X.mg x = some u ∧ RelV v u ∧ ∀ μ H, RV X.K μ H d v
  bl : ∀ x ∈ T.bl, X.mg x = none
/-- the context of a block -/
def Sx.blk (c : Sx) (scope : Scope) : Sx := ⟨c.N, relS scope c.sc, fun x => scope.names.lookup x == some .cell⟩
theorem takes_WF (X : Cx) : Takes X WF := fun u s' ⟨_, _, _, _, _, _, _, _, _, _, _, _, _, _, _, _, h⟩ => h.elim
theorem XOk.blk {T : Tab} {c : Sx} {X : Cx} {CT : Nat → Option Addr} {W : WX} {cl : CallT} (h : XOk T c X CT W cl) (s : Shared) (H : Hp) (scope : Scope) (C : Addr) (cells : List (Str × Addr)) (fp : List Addr) :
    XOk T (c.blk scope) (X.blk s H scope (compEnvC scope cells C X.env) fp) CT WF cl :=
  ⟨h.N, (show relS scope X.env.scope = relS scope c.sc by rw [h.sc]), rfl, h.nd, h.calm, h.un, h.gd, takes_WF _, h.k, h.cst, h.bl⟩

/-! ### the check -/
def visB (sc : Scope) (x : Str) : Bool := match sc.names.lookup x with
  | some .local | some .cell | some .free => true
  | _ => false
def locB (c : Sx) (x : Str) : Bool := match c.sc.names.lookup x with
  | some .local => true
  | some .cell => c.fn x
  | _ => false
def oddN (x : Str) : Bool := x == ("__debug__" : Str) || x == ("__classdict__" : Str) || decide (x = "__name__")
def varOk (c : Sx) (i : Nat) (x : Str) : Bool := decide (c.N[i]? = some x) && visB c.sc x && !oddN x
def glB (c : Sx) (x : Str) : Bool := (match c.sc.names.lookup x with
  | some .globalImplicit => true
  | _ => false) && !oddN x
def bltB (T : Tab) (c : Sx) (x : Str) : Bool := glB c x && decide (x ∈ T.bl)
def cstB (d : D) (k : Const) : Bool := match d, k with
  | .non, .none => true
  | .bl b, .bool c => b == c
  | .int i, .int j => decide (i = j)
  | .str x, .str y => decide (x = y)
  | _, _ => false
def b1N : B1 → Str
  | .len => "len"
  | .abs => "abs"
  | .int => "int"
  | .all => "all"
  | .any => "any"
  | .sum => "sum"
  | .tuple => "tuple"
  | .list => "list"
  | .repr => "repr"
  | .str => "str"
  | .lrange => "list"
def b2N : B2 → Str
  | .min => "min"
  | .max => "max"
def tyS : Ty → Str
  | .int => "int"
  | .bool => "bool"
  | .str => "str"
  | .tuple => "tuple"
  | .list => "list"
def m0N : M0 → Str
  | .pop => "pop"
def m1N : M1 → Str
  | .append => "append"
  | .extend => "extend"
  | .popAt => "pop"
  | .split => "split"
  | .join => "join"
/-- not super() -/
def okBase : Expr → Bool
  | .Call (.Name _ _) [] [] _ => false
  | _ => true
def restB (op : BoolOp) (v : Expr) (r : List Expr) (p : Pos) : Expr := match r with
  | [] => v
  | _ => .BoolOp op (v :: r) p
/-- zip, enumerate only where a tuple is stored -/
def wOk : E → Expr → Bool
  | .zipV _ _, t => match t with | .Tuple .. => true | _ => false
  | .enumV _, t => match t with | .Tuple .. => true | _ => false
  | _, _ => true
def plainT : Expr → Bool
  | .UnaryOp o _ _ => decide (o ≠ .Not)
  | .BoolOp .. => false
  | .IfExp .. => false
  | .Compare .. => false
  | _ => true
def subB (a b : List Nat) : Bool := a.all fun i => decide (i ∈ b)
mutual
def ckG : Tg → Sx → Expr → Bool
  | .nm i, c, x => match x with
    | .Name n _ => decide (c.N[i]? = some n) && locB c n
    | _ => false
  | .tp ts, c, x => match x with
    | .Tuple es _ _ => ckGs ts c es
    | _ => false
termination_by structural t => t
def ckGs : List Tg → Sx → List Expr → Bool
  | [], _, es => es.isEmpty
  | t :: ts, c, es => match es with
    | [] => false
    | e :: r => okE e && ckG t c e && ckGs ts c r
termination_by structural t => t
end
def lenEs : Es → Nat
  | .nil => 0
  | .cons _ r => lenEs r + 1
/-- what the table says of an attribute, class by class -/
def tblB {α : Type} [DecidableEq α] (T : Tab) (g : ClsT → Option α) (t : List (Str × α)) : Bool := t.all fun p => match T.cs.lookup p.1 with
  | some ct => decide (g ct = some p.2)
  | none => false
theorem tblB_of {α : Type} [DecidableEq α] {T : Tab} {g : ClsT → Option α} {t : List (Str × α)} (h : tblB T g t = true) {c : Str} {i : α} (e : t.lookup c = some i) : ∃ ct, T.cs.lookup c = some ct ∧ g ct = some i := by
  unfold tblB at h
  induction t with
  | nil => simp at e
  | cons p r ih =>
    rw [List.all_cons, Bool.and_eq_true] at h
    rw [List.lookup_cons] at e
    split at e
    · rename_i hx
      cases e
      have := eq_of_beq hx
      subst this
      have h1 := h.1
      split at h1
      · rename_i ct q
        exact ⟨ct, q, of_decide_eq_true h1⟩
      · cases h1
    · exact ih h.2 e
mutual
def ckE (T : Tab) : E → Sx → Expr → Bool
  | .nev, _, x => okE x
  | .var i, c, x => match x with
    | .Name n _ => varOk c i n
    | _ => false
  | .cst d, c, x => match x with
    | .Constant k _ _ => cstB d k
    | .Name n _ => glB c n && (match T.gl.lookup n with
      | some (.cst d') => eqDD d d'
      | _ => false)
    | _ => false
  | .tup es, c, x => match x with
    | .Tuple xs _ _ => ckEs T es c xs
    | _ => false
  | .lst es, c, x => match x with
    | .List xs _ => ckEs T es c xs
    | _ => false
  | .bin op a b, c, x => match x with
    | .BinOp u o v _ => decide (o = opB op) && ckE T a c u && ckE T b c v
    | _ => false
  | .neg a, c, x => match x with
    | .UnaryOp o u _ => decide (o = .USub) && ckE T a c u
    | _ => false
  | .not a, c, x => match x with
    | .UnaryOp o u _ => decide (o = .Not) && ckE T a c u
    | _ => false
  | .and a b, c, x => match x with
    | .BoolOp o (u :: v :: r) p => decide (o = .And) && ckE T a c u && ckE T b c (restB .And v r p)
    | _ => false
  | .or a b, c, x => match x with
    | .BoolOp o (u :: v :: r) p => decide (o = .Or) && ckE T a c u && ckE T b c (restB .Or v r p)
    | _ => false
  | .cmp op a b, c, x => match x with
    | .Compare u [o] [v] _ => decide (o = opC op) && okE v && ckE T a c u && ckE T b c v
    | _ => false
  | .chain o1 o2 a b d, c, x => match x with
    | .Compare u [p1, p2] [v, w] _ => decide (p1 = opC o1) && decide (p2 = opC o2) && okE w && ckE T a c u && ckE T b c v && ckE T d c w
    | _ => false
  | .ite t a b, c, x => match x with
    | .IfExp u v w _ => ckE T t c u && ckE T a c v && ckE T b c w
    | _ => false
  | .idx a b, c, x => match x with
    | .Subscript u v _ => okE v && ckE T a c u && ckE T b c v
    | _ => false
  | .slc a lo hi, c, x => match x with
    | .Subscript u (.Slice l h none _) _ => ckE T a c u && ckO T lo c l && ckO T hi c h
    | _ => false
  | .rev a, c, x => match x with
    | .Subscript u (.Slice none none (some (.UnaryOp .USub (.Constant (.int i) _ _) _)) _) _ => decide (i = 1) && ckE T a c u
    | _ => false
  | .call f es ks pm, c, x => match x with
    | .Call (.Name n _) args kws _ => glB c n && (match T.gl.lookup n with
      | some (.fnv id sh) => decide (id = f) && (sh.any fun h => decide (h.n = lenEs es) && decide (h.ks.length = lenEs ks) && decide (kws.map Keyword.arg = h.ks.map some) && decide (h.pm = pm))
      | _ => false) && ckEs T es c args && ckKs T ks c kws
    | _ => false
  | .b1 f a, c, x => match x with
    | .Call (.Name n _) [u] [] _ => (match f with
      | .lrange => (match u with
        | .Call (.Name m _) [v] [] _ => decide (n = "list") && decide (m = "range") && bltB T c n && bltB T c m && okE v && ckE T a c v
        | _ => false)
      | f => decide (n = b1N f) && bltB T c n && okE u && ckE T a c u)
    | _ => false
  | .b2 f a b, c, x => match x with
    | .Call (.Name n _) [u, v] [] _ => decide (n = b2N f) && bltB T c n && okE u && okE v && ckE T a c u && ckE T b c v
    | _ => false
  | .isi a t, c, x => match x with
    | .Call (.Name n _) [u, .Name m _] [] _ => decide (n = "isinstance") && decide (m = tyS t) && bltB T c n && bltB T c m && okE u && ckE T a c u
    | _ => false
  | .m0 m a, c, x => match x with
    | .Call (.Attribute u n ap) [] [] p => decide (n = m0N m) && okBase u && decide (ap.endLine = p.line) && ckE T a c u
    | _ => false
  | .m1 m a b, c, x => match x with
    | .Call (.Attribute u n ap) [v] [] p => decide (n = m1N m) && okBase u && decide (ap.endLine = p.line) && okE v && ckE T a c u && ckE T b c v
    | _ => false
  | .comp own tg it cond elt, c, x => match x with
    | .ListComp el [⟨t, i, ifs, a⟩] scope _ => decide (a = 0) && okE i && wOk it t && ckE T it c i && blkC c.N c.sc scope (own.map fun i => (c.N.getD i default, i)) && subB (slots tg) own &&
        ckG tg (c.blk scope) t && ckI T cond (c.blk scope) ifs && ckE T elt (c.blk scope) el
    | _ => false
  | .fld f a t, c, x => match x with
    | .Attribute u n _ => decide (n = f) && okBase u && tblB T (fun ct => ct.sl.lookup f) t && ckE T a c u
    | _ => false
  | .prp f a t, c, x => match x with
    | .Attribute u n _ => decide (n = f) && okBase u && tblB T (fun ct => ct.pr.lookup f) t && ckE T a c u
    | _ => false
  | .mth m a t es, c, x => match x with
    | .Call (.Attribute u n ap) args [] p => decide (n = m) && okBase u && decide (ap.endLine = p.line) && decide (lenEs es < 20) && tblB T (fun ct => (ct.me.lookup m).bind fun q => if q.2 = lenEs es then some q.1 else none) t && ckE T a c u && ckEs T es c args
    | _ => false
  | .mk cn g es, c, x => match x with
    | .Call (.Name n _) args [] _ => decide (n = cn) && glB c n && (match T.cs.lookup n with
      | some ct => decide (ct.ini = (g, lenEs es))
      | none => false) && ckEs T es c args
    | _ => false
  | .rngV a, c, x => match x with
    | .Call (.Name n _) [u] [] _ => decide (n = "range") && bltB T c n && okE u && ckE T a c u
    | _ => false
  | .rngV2 a b, c, x => match x with
    | .Call (.Name n _) [u, v] [] _ => decide (n = "range") && bltB T c n && okE u && okE v && ckE T a c u && ckE T b c v
    | _ => false
  | .zipV a b, c, x => match x with
    | .Call (.Name n _) [u, v] [] _ => decide (n = "zip") && bltB T c n && okE u && okE v && ckE T a c u && ckE T b c v
    | _ => false
  | .enumV a, c, x => match x with
    | .Call (.Name n _) [u] [] _ => decide (n = "enumerate") && bltB T c n && okE u && ckE T a c u
    | _ => false
  | .tyV _, _, _ => false
termination_by structural e => e
def ckEs (T : Tab) : Es → Sx → List Expr → Bool
  | .nil, _, xs => xs.isEmpty
  | .cons e r, c, xs => match xs with
    | [] => false
    | x :: xs => okE x && ckE T e c x && ckEs T r c xs
termination_by structural e => e
def ckKs (T : Tab) : Es → Sx → List Keyword → Bool
  | .nil, _, xs => xs.isEmpty
  | .cons e r, c, xs => match xs with
    | [] => false
    | ⟨_, x, _⟩ :: xs => ckE T e c x && ckKs T r c xs
termination_by structural e => e
def ckO (T : Tab) : Eo → Sx → Option Expr → Bool
  | .none, _, x => x.isNone
  | .some e, c, x => match x with
    | none => false
    | some x => ckE T e c x
termination_by structural e => e
def ckI (T : Tab) : Eo → Sx → List Expr → Bool
  | .none, _, xs => xs.isEmpty
  | .some e, c, xs => match xs with
    | [x] => ckE T e c x
    | _ => false
termination_by structural e => e
end
end Cw
/-! CwH: what the check of an expression gives. -/
namespace Cw
open PySem PySem.Spec PyProof.Rows L2

def isB : Expr → Bool
  | .BoolOp .. => true
  | _ => false
structure Ok3 (X : Cx) (CT : Nat → Option Addr) (W : WX) (cl : CallT) (e : E) (x : Expr) : Prop where
  pe : PE X x (tX X.K CT W (evE cl e))
  pt : PT X x (tT X.K CT W (evB cl e))
  pw : isB x = true → PW X x (tT X.K CT W (evB cl e))
  pi : ∀ tg, wOk e tg = true → PI X tg x (tI X.K CT W (evIt cl e))

section
variable {X : Cx} {CT : Nat → Option Addr} {W : WX} {cl : CallT} {e : E} {x : Expr}
theorem true_of (h : plainT x = true) (env : PySem.Env) (whole : Sem Value) : isTrue x env whole = (do let v ← whole; standAt x.pos; holding [v] (truthy v)) := by
  cases x with
  | UnaryOp o u p => cases o <;> first | rfl | simp [plainT] at h
  | _ => first | rfl | cases h
theorem Ok3.val {f : Env → Store → Rs D} (he : ev3 cl e = ofV f) (hp : plainT x = true) (hb : isB x = false) (h : PE X x (tX X.K CT W f)) : Ok3 X CT W cl e x := by
  have h1 : evE cl e = f := by show (ev3 cl e).v = f; rw [he]; rfl
  have h2 : evB cl e = fun ρ S => (f ρ S).bnd evTru := by show (ev3 cl e).b = _; rw [he]; rfl
  have h3 : evIt cl e = fun ρ S => (f ρ S).bnd fun x S1 => toSrc S1 x := by show (ev3 cl e).w = _; rw [he]; rfl
  refine ⟨by rw [h1]; exact h, ?_, fun z => (by rw [hb] at z; cases z), fun tg _ => ?_⟩
  · rw [h2]; exact t_val h (true_of hp X.env)
  · rw [h3]; exact i_seq h
theorem Ok3.valB {f : Env → Store → Rs D} {g : Env → Store → Rs Bool} (he : ev3 cl e = ofVB f g) (h : PE X x (tX X.K CT W f)) (ht : PT X x (tT X.K CT W g)) (hw : isB x = true → PW X x (tT X.K CT W g)) : Ok3 X CT W cl e x := by
  have h1 : evE cl e = f := by show (ev3 cl e).v = f; rw [he]; rfl
  have h2 : evB cl e = g := by show (ev3 cl e).b = _; rw [he]; rfl
  have h3 : evIt cl e = fun ρ S => (f ρ S).bnd fun x S1 => toSrc S1 x := by show (ev3 cl e).w = _; rw [he]; rfl
  refine ⟨by rw [h1]; exact h, by rw [h2]; exact ht, by rw [h2]; exact hw, fun tg _ => ?_⟩
  rw [h3]; exact i_seq h
theorem Ok3.walk {g : Env → Store → Rs Src} (he : ev3 cl e = ofW g) (h : ∀ tg, wOk e tg = true → PI X tg x (tI X.K CT W g)) : Ok3 X CT W cl e x := by
  have h1 : evE cl e = fun _ _ => .bad := by show (ev3 cl e).v = _; rw [he]; rfl
  have h2 : evB cl e = fun _ _ => .bad := by show (ev3 cl e).b = _; rw [he]; rfl
  have h3 : evIt cl e = g := by show (ev3 cl e).w = _; rw [he]; rfl
  refine ⟨by rw [h1]; exact ⟨fun _ _ _ _ _ _ ⟨_, _, _, _, _, z⟩ => z.elim⟩, by rw [h2]; exact ⟨fun _ _ _ _ _ _ ⟨_, _, _, _, _, z⟩ => z.elim⟩, fun _ => by rw [h2]; exact ⟨fun _ _ _ _ _ _ _ ⟨_, _, _, _, _, z⟩ => z.elim⟩, fun tg ht => by rw [h3]; exact h tg ht⟩
end

theorem evEs_len {cl : CallT} : ∀ {es : Es} {ρ : Env} {S S' : Store} {ds : List D}, evEs cl es ρ S = .ok ds S' → ds.length = lenEs es
  | .nil, ρ, S, S', ds, h => by simp only [evEs, Rs.ok.injEq] at h; rw [← h.1]; rfl
  | .cons e r, ρ, S, S', ds, h => by
    simp only [evEs] at h
    cases q : (ev3 cl e).v ρ S with
    | ok a S1 =>
      rw [q] at h
      simp only [Rs.bnd] at h
      cases q2 : evEs cl r ρ S1 with
      | ok as S2 =>
        rw [q2] at h
        simp only [Rs.ok.injEq] at h
        rw [← h.1, List.length_cons, evEs_len q2]; rfl
      | exc y S2 => rw [q2] at h; cases h
      | bad => rw [q2] at h; cases h
    | exc y S1 => rw [q] at h; cases h
    | bad => rw [q] at h; cases h

section
variable {T : Tab} {c : Sx} {X : Cx} {CT : Nat → Option Addr} {W : WX} {cl : CallT}
theorem vis_of {sc : Scope} {x : Str} (h : visB sc x = true) : Vis sc x := by
  unfold visB at h
  split at h
  · rename_i q; exact .inl q
  · rename_i q; exact .inr (.inl q)
  · rename_i q; exact .inr (.inr q)
  · cases h
theorem odd_of {x : Str} (h : oddN x = false) : (x == ("__debug__" : Str)) = false ∧ (x == ("__classdict__" : Str)) = false ∧ x ≠ "__name__" := by
  unfold oddN at h
  rw [Bool.or_eq_false_iff, Bool.or_eq_false_iff, decide_eq_false_iff_not] at h
  exact ⟨h.1.1, h.1.2, h.2⟩
theorem gl_of (ok : XOk T c X CT W cl) {x : Str} (h : glB c x = true) : Gl X x ∧ (x == ("__debug__" : Str)) = false ∧ x ≠ "__name__" := by
  unfold glB at h
  rw [Bool.and_eq_true, Bool.not_eq_true'] at h
  obtain ⟨h1, h2⟩ := h
  obtain ⟨q1, _, q3⟩ := odd_of h2
  refine ⟨?_, q1, q3⟩
  show X.env.scope.names.lookup x = _
  rw [ok.sc]
  split at h1
  · assumption
  · cases h1
theorem blt_of (ok : XOk T c X CT W cl) {x : Str} (h : bltB T c x = true) : Gl X x ∧ X.mg x = none ∧ (x == ("__debug__" : Str)) = false ∧ x ≠ "__name__" := by
  unfold bltB at h
  rw [Bool.and_eq_true, decide_eq_true_eq] at h
  obtain ⟨q1, q2, q3⟩ := gl_of ok h.1
  exact ⟨q1, ok.bl x h.2, q2, q3⟩
theorem var_of (ok : XOk T c X CT W cl) {i : Nat} {x : Str} {pos : Pos} (h : varOk c i x = true) : PE X (.Name x pos) (tVar i) := by
  unfold varOk at h
  rw [Bool.and_eq_true, Bool.and_eq_true, Bool.not_eq_true', decide_eq_true_eq] at h
  obtain ⟨⟨h1, h2⟩, h3⟩ := h
  obtain ⟨q1, q2, _⟩ := odd_of h3
  exact pe_var (by rw [ok.N]; exact h1) (by rw [ok.sc]; exact vis_of h2) q1 q2
theorem pg_of (ok : XOk T c X CT W cl) {i : Nat} {n : Str} {pos : Pos} (h1 : c.N[i]? = some n) (h2 : locB c n = true) : PG X (.Name n pos) (gName i) := by
  unfold locB at h2
  split at h2
  · rename_i q
    exact pg_name ok.nd (by rw [ok.N]; exact h1) (by rw [ok.sc]; exact .inl q) (.inr (by rw [ok.sc]; exact q))
  · rename_i q
    exact pg_name ok.nd (by rw [ok.N]; exact h1) (by rw [ok.sc]; exact .inr q) (.inl (by rw [ok.fn]; exact h2))
  · cases h2
theorem ckGs_each {env : PySem.Env} : ∀ {ts : List Tg} {c : Sx} {es : List Expr}, ckGs ts c es = true → (assignEach es env).length = ts.length ∧ (assignEach es env).findIdx? (·.1) = none
  | [], c, es, h => by
    cases es with
    | nil => exact ⟨rfl, rfl⟩
    | cons a r => simp [ckGs] at h
  | t :: ts, c, es, h => by
    cases es with
    | nil => simp [ckGs] at h
    | cons a r =>
      simp only [ckGs, Bool.and_eq_true] at h
      obtain ⟨q1, q2⟩ := ckGs_each (env := env) h.2
      rw [assign_of h.1.1]
      refine ⟨by simp [q1], ?_⟩
      rw [List.findIdx?_cons]
      simp [q2]
mutual
theorem sG : ∀ (t : Tg) (c : Sx) (x : Expr), ckG t c x = true → ∀ {X : Cx} {CT : Nat → Option Addr} {W : WX}, XOk T c X CT W cl → PG X x (gT X.K t)
  | .nm i, c, x, h, X, CT, W, ok => by
    simp only [ckG] at h
    split at h
    · rw [Bool.and_eq_true, decide_eq_true_eq] at h
      exact g_nm (pg_of ok h.1 h.2)
    · cases h
  | .tp ts, c, x, h, X, CT, W, ok => by
    simp only [ckG] at h
    split at h
    · obtain ⟨q1, q2⟩ := ckGs_each (env := X.env) h
      exact g_tp ok.calm (sGs ts c _ h ok) q1 q2
    · cases h
theorem sGs : ∀ (ts : List Tg) (c : Sx) (es : List Expr), ckGs ts c es = true → ∀ {X : Cx} {CT : Nat → Option Addr} {W : WX}, XOk T c X CT W cl → PGs X es (gTs X.K ts)
  | [], c, es, h, X, CT, W, ok => by
    cases es with
    | nil => exact gs_nil
    | cons a r => simp [ckGs] at h
  | t :: ts, c, es, h, X, CT, W, ok => by
    cases es with
    | nil => simp [ckGs] at h
    | cons a r =>
      simp only [ckGs, Bool.and_eq_true] at h
      exact gs_cons (sG t c a h.1.2 ok) (sGs ts c r h.2 ok) (by rw [assign_of h.1.1]; rfl)
end
theorem cst_of {d : D} {k : Const} {j : Nat} {pos : Pos} (h : cstB d k = true) : PE X (.Constant k j pos) (tX X.K CT W fun _ S => .ok d S) := by
  unfold cstB at h
  split at h
  · exact e_cst pe_non fun _ _ => .non
  · have e := eq_of_beq h
    subst e
    exact e_cst pe_bl fun _ _ => .bl
  · have e := of_decide_eq_true h
    subst e
    exact e_cst pe_int fun _ _ => .int
  · have e := of_decide_eq_true h
    subst e
    exact e_cst pe_str fun _ _ => .str
  · cases h
theorem rest_pe {op : BoolOp} {v : Expr} {r : List Expr} {p : Pos} {t : TE} (h : PE X (restB op v r p) t) : PE X (.BoolOp op (v :: r) p) t := by
  cases r with
  | nil => exact pe_one h
  | cons a r => exact h
theorem rest_and {v : Expr} {r : List Expr} {p : Pos} {t : TT} (h : PT X (restB .And v r p) t) (h2 : isB (restB .And v r p) = true → PW X (restB .And v r p) t) : PW X (.BoolOp .And (v :: r) p) t := by
  cases r with
  | nil => exact pw_and1 h
  | cons a r => exact h2 rfl
theorem rest_or {v : Expr} {r : List Expr} {p : Pos} {t : TT} (h : PT X (restB .Or v r p) t) (h2 : isB (restB .Or v r p) = true → PW X (restB .Or v r p) t) : PW X (.BoolOp .Or (v :: r) p) t := by
  cases r with
  | nil => exact pw_or1 h
  | cons a r => exact h2 rfl
theorem base_of {u : Expr} (h : okBase u = true) (n : Str) (env : PySem.Env) : attributeBase u n env (eval u env) = eval u env := by
  unfold attributeBase
  split
  · cases h
  · rfl
theorem ty_of {t : Ty} {m : Str} {p : Pos} (ok : XOk T c X CT W cl) (hm : m = tyS t) (hb : bltB T c m = true) : PE X (.Name m p) (tC (.ty (tyN t))) := by
  obtain ⟨q1, q2, q3, q4⟩ := blt_of ok hb
  subst hm
  cases t <;> exact pe_bltn q1 q2 rfl rfl q4 q3
theorem wOk_tup {a b : E} {t : Expr} (h : wOk (.zipV a b) t = true) : ∃ es k p, t = .Tuple es k p := by
  cases t <;> first | exact ⟨_, _, _, rfl⟩ | cases h
theorem wOk_tupE {a : E} {t : Expr} (h : wOk (.enumV a) t = true) : ∃ es k p, t = .Tuple es k p := by
  cases t <;> first | exact ⟨_, _, _, rfl⟩ | cases h
theorem sub_of {a b : List Nat} (h : subB a b = true) : ∀ i ∈ a, i ∈ b := by
  intro i hi
  unfold subB at h
  rw [List.all_eq_true] at h
  simpa using h i hi
end
end Cw
/-! CwI: a checked expression does what its tree says. -/
namespace Cw
open PySem PySem.Spec PyProof.Rows L2
section
variable {T : Tab} {cl : CallT}
mutual
theorem sE : ∀ (e : E) (c : Sx) (x : Expr), ckE T e c x = true → ∀ {X : Cx} {CT : Nat → Option Addr} {W : WX}, XOk T c X CT W cl → Ok3 X CT W cl e x
  | .nev, c, x, h, X, CT, W, ok => .walk (g := fun _ _ => .bad) rfl fun tg _ => ⟨fun _ _ _ _ _ _ ⟨_, _, _, _, _, z⟩ => z.elim⟩
  | .var i, c, x, h, X, CT, W, ok => by
    simp only [ckE] at h
    split at h
    · exact .val rfl rfl rfl (e_var (var_of ok h))
    · cases h
  | .cst d, c, x, h, X, CT, W, ok => by
    simp only [ckE] at h
    split at h
    · exact .val rfl rfl rfl (cst_of h)
    · rw [Bool.and_eq_true] at h
      obtain ⟨h1, h2⟩ := h
      obtain ⟨g1, g2, _⟩ := gl_of ok h1
      split at h2
      · rename_i d' q
        have e := eqDD_eq _ _ h2
        subst e
        obtain ⟨v, u, m1, r1, hv⟩ := ok.cst _ _ q
        exact .val rfl rfl rfl (e_cst (pe_glob g1 m1 r1 g2) hv)
      · cases h2
    · cases h
  | .tup es, c, x, h, X, CT, W, ok => by
    simp only [ckE] at h
    split at h
    · exact .val rfl rfl rfl (e_tup (sEs es c _ h ok).1)
    · cases h
  | .lst es, c, x, h, X, CT, W, ok => by
    simp only [ckE] at h
    split at h
    · exact .val rfl rfl rfl (e_lst (sEs es c _ h ok).1)
    · cases h
  | .bin op a b, c, x, h, X, CT, W, ok => by
    simp only [ckE] at h
    split at h
    · simp only [Bool.and_eq_true, decide_eq_true_eq] at h
      obtain ⟨⟨rfl, h1⟩, h2⟩ := h
      exact .val rfl rfl rfl (e_bin op (sE a c _ h1 ok).pe (sE b c _ h2 ok).pe)
    · cases h
  | .neg a, c, x, h, X, CT, W, ok => by
    simp only [ckE] at h
    split at h
    · simp only [Bool.and_eq_true, decide_eq_true_eq] at h
      obtain ⟨rfl, h1⟩ := h
      exact .val rfl rfl rfl (e_neg (sE a c _ h1 ok).pe)
    · cases h
  | .not a, c, x, h, X, CT, W, ok => by
    simp only [ckE] at h
    split at h
    · simp only [Bool.and_eq_true, decide_eq_true_eq] at h
      obtain ⟨rfl, h1⟩ := h
      have q := sE a c _ h1 ok
      exact .valB rfl (e_not q.pe) (t_not q.pt) (fun z => by cases z)
    · cases h
  | .and a b, c, x, h, X, CT, W, ok => by
    simp only [ckE] at h
    split at h
    · simp only [Bool.and_eq_true, decide_eq_true_eq] at h
      obtain ⟨⟨rfl, h1⟩, h2⟩ := h
      have q := sE a c _ h1 ok
      have r := sE b c _ h2 ok
      have w := w_and (pos := by assumption) q.pt (rest_and r.pt r.pw)
      exact .valB rfl (e_and q.pe (rest_pe r.pe)) w.pt fun _ => w
    · cases h
  | .or a b, c, x, h, X, CT, W, ok => by
    simp only [ckE] at h
    split at h
    · simp only [Bool.and_eq_true, decide_eq_true_eq] at h
      obtain ⟨⟨rfl, h1⟩, h2⟩ := h
      have q := sE a c _ h1 ok
      have r := sE b c _ h2 ok
      have w := w_or (pos := by assumption) q.pt (rest_or r.pt r.pw)
      exact .valB rfl (e_or q.pe (rest_pe r.pe)) w.pt fun _ => w
    · cases h
  | .cmp op a b, c, x, h, X, CT, W, ok => by
    simp only [ckE] at h
    split at h
    · simp only [Bool.and_eq_true, decide_eq_true_eq] at h
      obtain ⟨⟨⟨rfl, h0⟩, h1⟩, h2⟩ := h
      have q := sE a c _ h1 ok
      have r := sE b c _ h2 ok
      exact .valB rfl (e_cmp ok.un op q.pe r.pe (behind_of h0 _)) (t_cmp ok.un op q.pe r.pe (behind_of h0 _)) (fun z => by cases z)
    · cases h
  | .chain o1 o2 a b d, c, x, h, X, CT, W, ok => by
    simp only [ckE] at h
    split at h
    · simp only [Bool.and_eq_true, decide_eq_true_eq] at h
      obtain ⟨⟨⟨⟨⟨rfl, rfl⟩, h0⟩, h1⟩, h2⟩, h3⟩ := h
      have q := sE a c _ h1 ok
      have r := sE b c _ h2 ok
      have t := sE d c _ h3 ok
      exact .valB rfl (e_chain ok.un o1 o2 q.pe r.pe t.pe (last_of h0 _ _)) (t_chain ok.un o1 o2 q.pe r.pe t.pe (last_of h0 _ _)) (fun z => by cases z)
    · cases h
  | .ite t a b, c, x, h, X, CT, W, ok => by
    simp only [ckE] at h
    split at h
    · simp only [Bool.and_eq_true] at h
      obtain ⟨⟨h0, h1⟩, h2⟩ := h
      have p := sE t c _ h0 ok
      have q := sE a c _ h1 ok
      have r := sE b c _ h2 ok
      exact .valB rfl (e_ite p.pt q.pe r.pe) (t_ite p.pt q.pt r.pt) (fun z => by cases z)
    · cases h
  | .idx a b, c, x, h, X, CT, W, ok => by
    simp only [ckE] at h
    split at h
    · simp only [Bool.and_eq_true] at h
      obtain ⟨⟨h0, h1⟩, h2⟩ := h
      exact .val rfl rfl rfl (e_idx (sE a c _ h1 ok).pe (sE b c _ h2 ok).pe (plain_of h0))
    · cases h
  | .slc a lo hi, c, x, h, X, CT, W, ok => by
    simp only [ckE] at h
    split at h
    · simp only [Bool.and_eq_true] at h
      obtain ⟨⟨h0, h1⟩, h2⟩ := h
      exact .val rfl rfl rfl (e_slc (sE a c _ h0 ok).pe (sO lo c _ h1 ok) (sO hi c _ h2 ok))
    · cases h
  | .rev a, c, x, h, X, CT, W, ok => by
    simp only [ckE] at h
    split at h
    · rw [Bool.and_eq_true, decide_eq_true_eq] at h
      obtain ⟨rfl, h1⟩ := h
      exact .val rfl rfl rfl (e_rev (sE a c _ h1 ok).pe)
    · cases h
  | .call f es ks pm, c, x, h, X, CT, W, ok => by
    simp only [ckE] at h
    split at h
    · simp only [Bool.and_eq_true] at h
      obtain ⟨⟨⟨h0, h1⟩, h2⟩, h3⟩ := h
      obtain ⟨g1, g2, _⟩ := gl_of ok h0
      split at h1
      · rename_i id sh q
        rw [Bool.and_eq_true, decide_eq_true_eq, List.any_eq_true] at h1
        obtain ⟨rfl, hh, hm, hs⟩ := h1
        simp only [Bool.and_eq_true, decide_eq_true_eq] at hs
        obtain ⟨⟨⟨s1, s2⟩, s3⟩, s4⟩ := hs
        obtain ⟨k, hr', hk, _⟩ := ok.k
        have hr := hr'.mono (show 2 * k + 1 ≤ 2 * k + 2 by omega)
        obtain ⟨f, fd, ps, m1, kp, F, shp⟩ := hk _ _ _ q
        obtain ⟨a1, a2, a3⟩ := sEs es c _ h2 ok
        have k1 := sKs ks c _ h3 ok
        subst s4
        refine .val (f := fun ρ S => (evEs cl es ρ S).bnd fun ds S1 => (evEs cl ks ρ S1).bnd fun ws S2 => evCall cl id hh.pm (ds ++ ws) S2) rfl rfl rfl (e_call F hr ok.gd ok.tk g1 m1 kp (shp hh hm) a1 k1 (fun ρ S ds S' e => by rw [s1]; exact evEs_len e) (fun ρ S ds S' e => by rw [s2]; exact evEs_len e) s3 a2 (fun e => ?_) g2)
        · cases es with
          | nil => exact fun _ _ => rfl
          | cons b r =>
            subst e
            exact absurd a3 (by simp [lenEs])
      · cases h1
    · cases h
  | .b1 f a, c, x, h, X, CT, W, ok => by
    simp only [ckE] at h
    split at h
    · split at h
      · split at h
        · simp only [Bool.and_eq_true, decide_eq_true_eq] at h
          obtain ⟨⟨⟨⟨⟨rfl, rfl⟩, hb1⟩, hb2⟩, ho⟩, h1⟩ := h
          obtain ⟨q1, q2, q3, q4⟩ := blt_of ok hb1
          obtain ⟨r1, r2, r3, r4⟩ := blt_of ok hb2
          exact .val rfl rfl rfl (e_lrange ok.calm q1 q2 r1 r2 (sE a c _ h1 ok).pe (star_of ho _ _))
        · cases h
      · rename_i hf
        simp only [Bool.and_eq_true, decide_eq_true_eq] at h
        obtain ⟨⟨⟨rfl, hb⟩, ho⟩, h1⟩ := h
        obtain ⟨q1, q2, q3, q4⟩ := blt_of ok hb
        have hp := (sE a c _ h1 ok).pe
        have st : ∀ env, starEach [_] env = _ := fun env => star_of ho [] env
        cases f with
        | len => exact .val rfl rfl rfl (e_b1B c_len q1 q2 rfl hp (st _) q4 q3)
        | abs => exact .val rfl rfl rfl (e_b1B c_abs q1 q2 rfl hp (st _) q4 q3)
        | int => exact .val rfl rfl rfl (e_b1T c_int q1 q2 rfl hp (st _) q4 q3)
        | all => exact .val rfl rfl rfl (e_b1B (c_all ok.calm) q1 q2 rfl hp (st _) q4 q3)
        | any => exact .val rfl rfl rfl (e_b1B (c_any ok.calm) q1 q2 rfl hp (st _) q4 q3)
        | sum => exact .val rfl rfl rfl (e_b1B (c_sum ok.calm) q1 q2 rfl hp (st _) q4 q3)
        | tuple => exact .val rfl rfl rfl (e_b1T c_tuple q1 q2 rfl hp (st _) q4 q3)
        | list => exact .val rfl rfl rfl (e_b1T c_list q1 q2 rfl hp (st _) q4 q3)
        | repr => exact .val rfl rfl rfl (e_b1B (c_repr ok.gd ok.un) q1 q2 rfl hp (st _) q4 q3)
        | str => exact .val rfl rfl rfl (e_b1T c_str q1 q2 rfl hp (st _) q4 q3)
        | lrange => exact absurd rfl (by assumption)
    · cases h
  | .b2 f a b, c, x, h, X, CT, W, ok => by
    simp only [ckE] at h
    split at h
    · simp only [Bool.and_eq_true, decide_eq_true_eq] at h
      obtain ⟨⟨⟨⟨⟨rfl, hb⟩, ho⟩, ho2⟩, h1⟩, h2⟩ := h
      obtain ⟨q1, q2, q3, q4⟩ := blt_of ok hb
      have p1 := (sE a c _ h1 ok).pe
      have p2 := (sE b c _ h2 ok).pe
      cases f with
      | min => exact .val rfl rfl rfl (e_b2B (c_min ok.calm) q1 q2 rfl p1 p2 (star_of ho _ _) (star_of ho2 _ _) q4 q3)
      | max => exact .val rfl rfl rfl (e_b2B (c_max ok.calm) q1 q2 rfl p1 p2 (star_of ho _ _) (star_of ho2 _ _) q4 q3)
    · cases h
  | .isi a t, c, x, h, X, CT, W, ok => by
    simp only [ckE] at h
    split at h
    · simp only [Bool.and_eq_true, decide_eq_true_eq] at h
      obtain ⟨⟨⟨⟨⟨rfl, hm⟩, hb⟩, hb2⟩, ho⟩, h1⟩ := h
      obtain ⟨q1, q2, q3, q4⟩ := blt_of ok hb
      exact .val rfl rfl rfl (e_isi q1 q2 rfl (sE a c _ h1 ok).pe (ty_of ok hm hb2) (star_of ho _ _) (star_of rfl _ _))
    · cases h
  | .m0 m a, c, x, h, X, CT, W, ok => by
    simp only [ckE] at h
    split at h
    · simp only [Bool.and_eq_true, decide_eq_true_eq] at h
      obtain ⟨⟨⟨rfl, hb⟩, hl⟩, h1⟩ := h
      have p1 := (sE a c _ h1 ok).pe
      cases m with
      | pop => exact .val rfl rfl rfl (e_m0 PySem.F.plainAttrs_list PySem.F.slot_list_pop PySem.F.type_list_pop m_pop (fun μ S d x H hS hd k => ty_lst hS hd k) p1 (base_of hb _ _) (beq_iff_eq.mpr hl))
    · cases h
  | .m1 m a b, c, x, h, X, CT, W, ok => by
    simp only [ckE] at h
    split at h
    · simp only [Bool.and_eq_true, decide_eq_true_eq] at h
      obtain ⟨⟨⟨⟨⟨rfl, hb⟩, hl⟩, ho⟩, h1⟩, h2⟩ := h
      have p1 := (sE a c _ h1 ok).pe
      have p2 := (sE b c _ h2 ok).pe
      cases m with
      | append => exact .val rfl rfl rfl (e_m1 PySem.F.plainAttrs_list PySem.F.slot_list_append PySem.F.type_list_append m_append (fun μ S d x H hS hd k => ty_lst hS hd k) p1 p2 (base_of hb _ _) (beq_iff_eq.mpr hl) (star_of ho _ _))
      | extend => exact .val rfl rfl rfl (e_m1 PySem.F.plainAttrs_list PySem.F.slot_list_extend PySem.F.type_list_extend m_extend (fun μ S d x H hS hd k => ty_lst hS hd k) p1 p2 (base_of hb _ _) (beq_iff_eq.mpr hl) (star_of ho _ _))
      | popAt => exact .val rfl rfl rfl (e_m1 PySem.F.plainAttrs_list PySem.F.slot_list_pop PySem.F.type_list_pop m_popAt (fun μ S d x H hS hd k => ty_lst hS hd k) p1 p2 (base_of hb _ _) (beq_iff_eq.mpr hl) (star_of ho _ _))
      | split => exact .val rfl rfl rfl (e_m1 PySem.F.plainAttrs_str PySem.F.slot_str_split PySem.F.type_str_split m_split (fun μ S d x H hS hd k => ty_str hd k) p1 p2 (base_of hb _ _) (beq_iff_eq.mpr hl) (star_of ho _ _))
      | join => exact .val rfl rfl rfl (e_m1 PySem.F.plainAttrs_str PySem.F.slot_str_join PySem.F.type_str_join m_join (fun μ S d x H hS hd k => ty_str hd k) p1 p2 (base_of hb _ _) (beq_iff_eq.mpr hl) (star_of ho _ _))
    · cases h
  | .comp own tg it cond elt, c, x, h, X, CT, W, ok => by
    simp only [ckE] at h
    split at h
    · simp only [Bool.and_eq_true, decide_eq_true_eq] at h
      obtain ⟨⟨⟨⟨⟨⟨⟨⟨rfl, ho⟩, hw⟩, hi⟩, hb⟩, hs⟩, hg⟩, hc⟩, he⟩ := h
      have bk := blkOk_by hb
      rw [← ok.N, ← ok.sc] at bk
      have el : (own.map fun i => (c.N.getD i default, i)).map (·.2) = own := by rw [List.map_map]; exact List.map_id _
      rw [ok.N] at bk
      refine .val (f := evComp own tg (ev3 cl it).w (evCond cl cond) (ev3 cl elt).v) rfl rfl rfl ?_
      have q := fun pos => e_comp (pos := pos) (X := X) (CT := CT) (W := W) (own := own.map fun i => (c.N.getD i default, i)) (t := tg) ok.calm ok.nd ((sE it c _ hi ok).pi _ hw) (by rw [ok.N]; exact bk) (by rw [el]; exact sub_of hs) (fun s H C cells fp => sG tg _ _ hg (ok.blk s H _ C cells fp)) (fun s H C cells fp => sI cond _ _ hc (ok.blk s H _ C cells fp)) (fun s H C cells fp => (sE elt _ _ he (ok.blk s H _ C cells fp)).pe) (fun x => folded_of ho _ x)
      rw [el] at q
      exact q _
    · cases h
  | .fld f a t, c, x, h, X, CT, W, ok => by
    simp only [ckE] at h
    split at h
    · simp only [Bool.and_eq_true, decide_eq_true_eq] at h
      obtain ⟨⟨⟨rfl, hb⟩, ht⟩, h1⟩ := h
      obtain ⟨k, hr, _, hk⟩ := ok.k
      refine .val (f := fun ρ S => ((ev3 cl a).v ρ S).bnd (evFld t)) rfl rfl rfl (e_fld (fun cn i e C hC => ?_) (sE a c _ h1 ok).pe (base_of hb _ _))
      obtain ⟨ct, e1, e2⟩ := tblB_of ht e
      obtain ⟨C', F⟩ := hk cn ct e1
      cases F.at_.inj hC
      exact ⟨F.sc, F.sl _ _ e2⟩
    · cases h
  | .prp f a t, c, x, h, X, CT, W, ok => by
    simp only [ckE] at h
    split at h
    · simp only [Bool.and_eq_true, decide_eq_true_eq] at h
      obtain ⟨⟨⟨rfl, hb⟩, ht⟩, h1⟩ := h
      obtain ⟨k, hr, _, hk⟩ := ok.k
      refine .val (f := fun ρ S => ((ev3 cl a).v ρ S).bnd (evPrp cl t)) rfl rfl rfl (e_prp hr ok.gd (fun cn g e C hC => ?_) (sE a c _ h1 ok).pe (base_of hb _ _))
      obtain ⟨ct, e1, e2⟩ := tblB_of ht e
      obtain ⟨C', F⟩ := hk cn ct e1
      cases F.at_.inj hC
      obtain ⟨p, ga, q1, q2, q3, q4, fd, ps, q5, q6⟩ := F.pr _ _ e2
      exact ⟨F.sc, p, ga, fd, ps, q1, q2, q3, q4, q5, q6⟩
    · cases h
  | .mth m a t es, c, x, h, X, CT, W, ok => by
    simp only [ckE] at h
    split at h
    · simp only [Bool.and_eq_true, decide_eq_true_eq] at h
      obtain ⟨⟨⟨⟨⟨⟨rfl, hb⟩, hl⟩, hn⟩, ht⟩, h1⟩, h2⟩ := h
      obtain ⟨k, hr, _, hk⟩ := ok.k
      obtain ⟨a1, a2, a3⟩ := sEs es c _ h2 ok
      refine .val (f := fun ρ S => ((ev3 cl a).v ρ S).bnd fun x S1 => evMth cl t x (evEs cl es ρ) S1) rfl rfl rfl (e_mth (n := lenEs es) hr ok.gd ok.tk (fun cn g e C hC => ?_) (sE a c _ h1 ok).pe (base_of hb _ _) (beq_iff_eq.mpr hl) a1 (fun ρ S ds S' e => evEs_len e) a2 (by rw [a3]; exact hn) (fun e => ?_))
      · obtain ⟨ct, e1, e2⟩ := tblB_of ht e
        obtain ⟨C', F⟩ := hk cn ct e1
        cases F.at_.inj hC
        cases q : ct.me.lookup _ with
        | none => rw [q] at e2; cases e2
        | some p =>
          rw [q] at e2
          obtain ⟨g', n'⟩ := p
          simp only [Option.bind_some] at e2
          split at e2
          · rename_i en
            cases e2
            try dsimp only at en
            subst en
            obtain ⟨ga, q1, fd, ps, q5, q6⟩ := F.me _ _ _ q
            exact ⟨F.sc, ga, fd, ps, q1, q5, q6⟩
          · cases e2
      · cases es with
        | nil => exact fun _ _ => rfl
        | cons b r =>
          subst e
          exact absurd a3 (by simp [lenEs])
    · cases h
  | .mk cn g es, c, x, h, X, CT, W, ok => by
    simp only [ckE] at h
    split at h
    · simp only [Bool.and_eq_true, decide_eq_true_eq] at h
      obtain ⟨⟨⟨rfl, hg⟩, hc⟩, h2⟩ := h
      obtain ⟨g1, g2, _⟩ := gl_of ok hg
      obtain ⟨a1, a2, a3⟩ := sEs es c _ h2 ok
      split at hc
      · rename_i ct q
        have hi := of_decide_eq_true hc
        obtain ⟨k, hr, _, hk⟩ := ok.k
        obtain ⟨C, F⟩ := hk _ ct q
        obtain ⟨fi, i1, i2, fd, ps, i3, i4⟩ := F.ini
        rw [hi] at i3 i4
        refine .val (f := fun ρ S => (evEs cl es ρ S).bnd (evMk cl _ g)) rfl rfl rfl (e_mk (n := lenEs es) hr ok.gd ok.tk g1 F.mg_ F.kp g2 F.mk_ i1 i2 F.at_ i3 i4 a1 (fun ρ S ds S' e => evEs_len e) a2 (fun e => ?_))
        cases es with
        | nil => exact fun _ _ => rfl
        | cons b r =>
          subst e
          exact absurd a3 (by simp [lenEs])
      · cases hc
    · cases h
  | .rngV a, c, x, h, X, CT, W, ok => by
    simp only [ckE] at h
    split at h
    · simp only [Bool.and_eq_true, decide_eq_true_eq] at h
      obtain ⟨⟨⟨rfl, hb⟩, ho⟩, h1⟩ := h
      obtain ⟨q1, q2, q3, q4⟩ := blt_of ok hb
      exact .walk rfl fun tg _ => i_rng1 q1 q2 (sE a c _ h1 ok).pe (star_of ho _ _)
    · cases h
  | .rngV2 a b, c, x, h, X, CT, W, ok => by
    simp only [ckE] at h
    split at h
    · simp only [Bool.and_eq_true, decide_eq_true_eq] at h
      obtain ⟨⟨⟨⟨⟨rfl, hb⟩, ho⟩, ho2⟩, h1⟩, h2⟩ := h
      obtain ⟨q1, q2, q3, q4⟩ := blt_of ok hb
      exact .walk rfl fun tg _ => i_rng2 q1 q2 (sE a c _ h1 ok).pe (sE b c _ h2 ok).pe (star_of ho _ _) (star_of ho2 _ _)
    · cases h
  | .zipV a b, c, x, h, X, CT, W, ok => by
    simp only [ckE] at h
    split at h
    · simp only [Bool.and_eq_true, decide_eq_true_eq] at h
      obtain ⟨⟨⟨⟨⟨rfl, hb⟩, ho⟩, ho2⟩, h1⟩, h2⟩ := h
      obtain ⟨q1, q2, q3, q4⟩ := blt_of ok hb
      refine .walk rfl fun tg ht => ?_
      obtain ⟨es, k, p, rfl⟩ := wOk_tup ht
      exact i_zip q1 q2 (sE a c _ h1 ok).pe (sE b c _ h2 ok).pe (star_of ho _ _) (star_of ho2 _ _)
    · cases h
  | .enumV a, c, x, h, X, CT, W, ok => by
    simp only [ckE] at h
    split at h
    · simp only [Bool.and_eq_true, decide_eq_true_eq] at h
      obtain ⟨⟨⟨rfl, hb⟩, ho⟩, h1⟩ := h
      obtain ⟨q1, q2, q3, q4⟩ := blt_of ok hb
      refine .walk rfl fun tg ht => ?_
      obtain ⟨es, k, p, rfl⟩ := wOk_tupE ht
      exact i_enum q1 q2 (sE a c _ h1 ok).pe (star_of ho _ _)
    · cases h
  | .tyV _, c, x, h, X, CT, W, ok => by
    simp only [ckE] at h
    cases h
termination_by structural e => e
theorem sEs : ∀ (es : Es) (c : Sx) (xs : List Expr), ckEs T es c xs = true → ∀ {X : Cx} {CT : Nat → Option Addr} {W : WX}, XOk T c X CT W cl → PA X xs (tA X.K CT W (evEs cl es)) ∧ xs.all okE = true ∧ xs.length = lenEs es
  | .nil, c, xs, h, X, CT, W, ok => by
    cases xs with
    | nil => exact ⟨a_nil, rfl, rfl⟩
    | cons a r => simp [ckEs] at h
  | .cons e r, c, xs, h, X, CT, W, ok => by
    cases xs with
    | nil => simp [ckEs] at h
    | cons a as =>
      simp only [ckEs, Bool.and_eq_true] at h
      obtain ⟨⟨h0, h1⟩, h2⟩ := h
      obtain ⟨q1, q2, q3⟩ := sEs r c as h2 ok
      exact ⟨a_cons (sE e c a h1 ok).pe q1 (star_of h0 _ _), by rw [List.all_cons, h0, q2]; rfl, by rw [List.length_cons, q3]; rfl⟩
termination_by structural e => e
theorem sKs : ∀ (es : Es) (c : Sx) (xs : List Keyword), ckKs T es c xs = true → ∀ {X : Cx} {CT : Nat → Option Addr} {W : WX}, XOk T c X CT W cl → PK X xs (tA X.K CT W (evEs cl es))
  | .nil, c, xs, h, X, CT, W, ok => by
    cases xs with
    | nil => exact k_nil
    | cons a r => simp [ckKs] at h
  | .cons e r, c, xs, h, X, CT, W, ok => by
    cases xs with
    | nil => simp [ckKs] at h
    | cons a as =>
      obtain ⟨nm, x, p⟩ := a
      simp only [ckKs, Bool.and_eq_true] at h
      exact k_cons (sE e c x h.1 ok).pe (sKs r c as h.2 ok)
termination_by structural e => e
theorem sO : ∀ (e : Eo) (c : Sx) (x : Option Expr), ckO T e c x = true → ∀ {X : Cx} {CT : Nat → Option Addr} {W : WX}, XOk T c X CT W cl → PO X x (tP X.K CT W (evEo cl e))
  | .none, c, x, h, X, CT, W, ok => by
    cases x with
    | none => exact p_none
    | some a => simp [ckO] at h
  | .some e, c, x, h, X, CT, W, ok => by
    cases x with
    | none => simp [ckO] at h
    | some a =>
      simp only [ckO] at h
      exact p_some (sE e c a h ok).pe
termination_by structural e => e
theorem sI : ∀ (e : Eo) (c : Sx) (xs : List Expr), ckI T e c xs = true → ∀ {X : Cx} {CT : Nat → Option Addr} {W : WX}, XOk T c X CT W cl → PTs X xs (tT X.K CT W (evCond cl e))
  | .none, c, xs, h, X, CT, W, ok => by
    cases xs with
    | nil => exact pts_yes
    | cons a r => simp [ckI] at h
  | .some e, c, xs, h, X, CT, W, ok => by
    simp only [ckI] at h
    split at h
    · exact pts_one (sE e c _ h ok).pt
    · cases h
end
end
end Cw
/-! CwJ: the rules for statements, over data. -/
namespace Cw
open PySem PySem.Spec PyProof.Rows L2

def OutT (K : PySem.W.Frag) (CT : Nat → Option Addr) (W : WX) (μ : List Addr) (H : Hp) (r : Rt) (D : Ends) : Prop := match r with
  | none => False
  | some (.nx ρ, S) => ∀ μ' H' σ', Ext μ H μ' H' → RS K μ' H' S → Rσ K μ' H' ρ σ' → D.nx σ' H'
  | some (.rt d, S) => ∀ μ' H' v, Ext μ H μ' H' → RS K μ' H' S → RV K μ' H' d v → D.rt v H'
  | some (.bk ρ, S) => ∀ μ' H' σ', Ext μ H μ' H' → RS K μ' H' S → Rσ K μ' H' ρ σ' → D.bk σ' H'
  | some (.ct ρ, S) => ∀ μ' H' σ', Ext μ H μ' H' → RS K μ' H' S → Rσ K μ' H' ρ σ' → D.ct σ' H'
  | some (.ex x ρ, S) => ∀ μ' H' σ' cls dd, Ext μ H μ' H' → RS K μ' H' S → Rσ K μ' H' ρ σ' → RX CT K μ' H' x cls dd → W cls dd σ' H'
def tS (K : PySem.W.Frag) (CT : Nat → Option Addr) (W : WX) (ev : Env → Store → Rt) : TS := fun D σ H => ∃ μ ρ S, Rσ K μ H ρ σ ∧ RS K μ H S ∧ OutT K CT W μ H (ev ρ S) D
section
variable {α β : Type} {K : PySem.W.Frag} {CT : Nat → Option Addr} {W : WX} {rel : List Addr → Hp → α → β → Prop} {μ μ1 : List Addr} {H H1 : Hp} {σ : L2.St} {r : Rt} {D : Ends}
theorem OutT.ext (h : OutT K CT W μ H r D) (x : Ext μ H μ1 H1) : OutT K CT W μ1 H1 r D := by
  cases r with
  | none => exact h
  | some p =>
    obtain ⟨f, S⟩ := p
    cases f with
    | nx ρ => exact fun μ' H' σ' y => h μ' H' σ' (x.trans y)
    | rt d => exact fun μ' H' v y => h μ' H' v (x.trans y)
    | bk ρ => exact fun μ' H' σ' y => h μ' H' σ' (x.trans y)
    | ct ρ => exact fun μ' H' σ' y => h μ' H' σ' (x.trans y)
    | ex e ρ => exact fun μ' H' σ' c d y => h μ' H' σ' c d (x.trans y)
/-- the first reckoning of a statement -/
theorem OutT.rtE {ρ : Env} {S : Store} {q : Rs α} {f : α → Store → Rt} (hσ : Rσ K μ H ρ σ) (hS : RS K μ H S) (h : OutT K CT W μ H (rtE ρ q f) D) :
    Out K CT W rel μ H σ q fun b H1 => ∃ μ1 a S1, q = .ok a S1 ∧ Ext μ H μ1 H1 ∧ Rσ K μ1 H1 ρ σ ∧ RS K μ1 H1 S1 ∧ rel μ1 H1 a b ∧ OutT K CT W μ1 H1 (f a S1) D := by
  cases q with
  | ok a S1 => exact fun μ' H' b y s k => ⟨μ', a, S1, rfl, y, hσ.mono y hS, s, k, OutT.ext h y⟩
  | exc e S1 => exact fun μ' H' c d y s k => h μ' H' σ c d y s (hσ.mono y hS) k
  | bad => exact h
theorem tS.fst {g : Env → Store → Rs α} {f : Env → α → Store → Rt} {D : Ends} (h : tS K CT W (fun ρ S => Cw.rtE ρ (g ρ S) (f ρ)) D σ H) :
    tG K CT W rel g σ H fun b H1 => ∃ μ1 ρ a S1, Rσ K μ1 H1 ρ σ ∧ RS K μ1 H1 S1 ∧ rel μ1 H1 a b ∧ OutT K CT W μ1 H1 (f ρ a S1) D := by
  obtain ⟨μ, ρ, S, hσ, hS, h⟩ := h
  exact ⟨μ, ρ, S, hσ, hS, (OutT.rtE (rel := rel) hσ hS h).mono fun b H1 ⟨μ1, a, S1, _, _, z1, z2, z3, z4⟩ => ⟨μ1, ρ, a, S1, z1, z2, z3, z4⟩⟩
theorem OutT.nx {ρ : Env} {S : Store} (h : OutT K CT W μ H (some (.nx ρ, S)) D) (hS : RS K μ H S) (hσ : Rσ K μ H ρ σ) : D.nx σ H := h μ H σ (Ext.refl _ _) hS hσ
end
theorem PS_of {X : Cx} {e : Stmt} {t t' : TS} (h : PS X e t) (k : ∀ D σ H, t' D σ H → t D σ H) : PS X e t' := ⟨fun pins s σ H D I q => h.run pins s σ H D I (k D σ H q)⟩
theorem PSs_of {X : Cx} {e : List Stmt} {t t' : TS} (h : PSs X e t) (k : ∀ D σ H, t' D σ H → t D σ H) : PSs X e t' := ⟨fun pins s σ H D I q => h.run pins s σ H D I (k D σ H q)⟩

section
variable {X : Cx} {CT : Nat → Option Addr} {W : WX} {fa fb fc : Env → Store → Rs D} {ga : Env → Store → Rs Bool} {ea eb : Env → Store → Rt} {pos : Pos} {a b c : Expr}
theorem ss_nil : PSs X [] (tS X.K CT W fun ρ S => some (.nx ρ, S)) := PSs_of pss_nil fun D σ H ⟨μ, ρ, S, hσ, hS, h⟩ => h.nx hS hσ
theorem ss_cons {st : Stmt} {rest : List Stmt} (h1 : PS X st (tS X.K CT W ea)) (h2 : PSs X rest (tS X.K CT W eb)) : PSs X (st :: rest) (tS X.K CT W fun ρ S => match ea ρ S with
    | some (.nx ρ', S') => eb ρ' S'
    | x => x) := PSs_of (pss_cons h1 h2) fun D σ H ⟨μ, ρ, S, hσ, hS, h⟩ => by
  refine ⟨μ, ρ, S, hσ, hS, ?_⟩
  dsimp only at h
  cases q : ea ρ S with
  | none => rw [q] at h; exact h
  | some p =>
    obtain ⟨f, S1⟩ := p
    rw [q] at h
    cases f with
    | nx ρ' => exact fun μ' H' σ' x s k => ⟨μ', ρ', S1, k, s, OutT.ext h x⟩
    | _ => exact h
theorem s_pas : PS X (.Pass pos) (tS X.K CT W fun ρ S => some (.nx ρ, S)) := PS_of ps_pass fun D σ H ⟨μ, ρ, S, hσ, hS, h⟩ => h.nx hS hσ
theorem s_brk : PS X (.Break pos) (tS X.K CT W fun ρ S => some (.bk ρ, S)) := PS_of ps_break fun D σ H ⟨μ, ρ, S, hσ, hS, h⟩ => h μ H σ (Ext.refl _ _) hS hσ
theorem s_cnt : PS X (.Continue pos) (tS X.K CT W fun ρ S => some (.ct ρ, S)) := PS_of ps_continue fun D σ H ⟨μ, ρ, S, hσ, hS, h⟩ => h μ H σ (Ext.refl _ _) hS hσ
theorem s_nev {st : Stmt} : PS X st (tS X.K CT W fun _ _ => none) := PS_of ps_never fun D σ H ⟨μ, ρ, S, hσ, hS, h⟩ => h
theorem s_exp (ha : PE X a (tX X.K CT W fa)) (hs : swapsWith a none pos.line X.env = pure false) : PS X (.Expr a pos) (tS X.K CT W fun ρ S => rtE ρ (fa ρ S) fun _ S1 => some (.nx ρ, S1)) :=
  PS_of (ps_expr ha hs) fun D σ H h => (tS.fst (rel := RV X.K) (f := fun ρ _ S1 => some (.nx ρ, S1)) h).mono fun v H1 ⟨μ, ρ, d, S, hσ, hS, hd, h⟩ => h.nx hS hσ
theorem s_ret (ha : PE X a (tX X.K CT W fa)) : PS X (.Return (some a) pos) (tS X.K CT W fun ρ S => rtE ρ (fa ρ S) fun d S1 => some (.rt d, S1)) :=
  PS_of (ps_ret ha) fun D σ H h => (tS.fst (rel := RV X.K) (f := fun ρ d S1 => some (.rt d, S1)) h).mono fun v H1 ⟨μ, ρ, d, S, hσ, hS, hd, h⟩ => h μ H1 v (Ext.refl _ _) hS hd
theorem s_retN : PS X (.Return none pos) (tS X.K CT W fun _ S => some (.rt .non, S)) := PS_of ps_retN fun D σ H ⟨μ, ρ, S, hσ, hS, h⟩ => h μ H .non (Ext.refl _ _) hS .non
theorem s_if {p q : List Stmt} (hc : PT X c (tT X.K CT W ga)) (ha : PSs X p (tS X.K CT W ea)) (hb : PSs X q (tS X.K CT W eb)) : PS X (.If c p q pos) (tS X.K CT W fun ρ S => rtE ρ (ga ρ S) fun k S1 => match k with
    | true => ea ρ S1
    | false => eb ρ S1) := PS_of (ps_if hc ha hb) fun D σ H h => (tS.fst (rel := relEq) (f := fun ρ k S1 => match k with
    | true => ea ρ S1
    | false => eb ρ S1) h).mono fun k H1 ⟨μ, ρ, d, S, hσ, hS, hd, h⟩ => by
  have e : k = d := hd
  subst e
  cases k with
  | true => exact ⟨μ, ρ, S, hσ, hS, h⟩
  | false => exact ⟨μ, ρ, S, hσ, hS, h⟩
theorem set_of {i : Nat} {D : Ends} {σ : L2.St} {H : Hp} (h : tS X.K CT W (fun ρ S => rtE ρ (fa ρ S) fun d S1 => some (.nx (ρ.set i (some d)), S1)) D σ H) : tAsg (tX X.K CT W fa) (gName i) D σ H :=
  (tS.fst (rel := RV X.K) (f := fun ρ d S1 => some (.nx (ρ.set i (some d)), S1)) h).mono fun v H1 ⟨μ, ρ, d, S, hσ, hS, hd, h⟩ => h.nx hS (hσ.set i hd)
theorem s_asgT {t : Tg} (ha : PE X a (tX X.K CT W fa)) (hg : PG X b (gT X.K t)) (hs : swapsWithSole [b] a pos.line X.env = pure false) (hw : swappedStores [b] a X.env = pure none) (h1 : (assignEach [b] X.env).map (·.2) = [assign b X.env]) :
    PS X (.Assign [b] a pos) (tS X.K CT W fun ρ S => rtE ρ (fa ρ S) fun d S1 => match evTg t d ρ with
      | some ρ' => some (.nx ρ', S1)
      | none => none) := PS_of (ps_asg ha hg hs hw h1) fun D σ H h => (tS.fst (rel := RV X.K) (f := fun ρ d S1 => match evTg t d ρ with
      | some ρ' => some (.nx ρ', S1)
      | none => none) h).mono fun v H1 ⟨μ, ρ, d, S, hσ, hS, hd, h⟩ => by
  cases q : evTg t d ρ with
  | none => rw [q] at h; exact (show False from h).elim
  | some ρ' =>
    rw [q] at h
    exact ⟨μ, ρ, d, ρ', hσ, hd, q, fun σ' h' _ => OutT.nx h hS h'⟩
theorem s_set {o i : Expr} {fo fi : Env → Store → Rs D} {tpos : Pos} (hi0 : okE i = true) (ha : PE X a (tX X.K CT W fa)) (ho : PE X o (tX X.K CT W fo)) (hi : PE X i (tX X.K CT W fi)) (hs : swapsWithSole [.Subscript o i tpos] a pos.line X.env = pure false) :
    PS X (.Assign [.Subscript o i tpos] a pos) (tS X.K CT W fun ρ S => rtE ρ (fa ρ S) fun d S1 => rtE ρ (fo ρ S1) fun x S2 => rtE ρ (fi ρ S2) fun y S3 => match x, y with
      | .ref n, .int k => match S3[n]? with
        | some (.lst xs) => match ixN xs.length k with
          | some j => some (.nx ρ, S3.set n (.lst (xs.set j d)))
          | none => none
        | _ => none
      | _, _ => none) := PS_of (ps_asg ha (pg_sub ho hi set_list (by
        intro v
        cases i <;> first | rfl | cases hi0)) hs (by rfl) (by rfl)) fun D σ H h => by
  refine (tS.fst (rel := RV X.K) (f := fun ρ d S1 => rtE ρ (fo ρ S1) fun x S2 => rtE ρ (fi ρ S2) fun y S3 => match x, y with
      | .ref n, .int k => match S3[n]? with
        | some (.lst xs) => match ixN xs.length k with
          | some j => some (.nx ρ, S3.set n (.lst (xs.set j d)))
          | none => none
        | _ => none
      | _, _ => none) h).mono fun v H1 ⟨μ, ρ, d, S, hσ, hS, hd, h⟩ => ?_
  refine ⟨μ, ρ, S, hσ, hS, (OutT.rtE (rel := RV X.K) hσ hS h).mono fun o' H2 ⟨μ2, x, S2, _, x2, hσ2, s2, hx, h2⟩ => ?_⟩
  refine ⟨μ2, ρ, S2, hσ2, s2, (OutT.rtE (rel := RV X.K) hσ2 s2 h2).mono fun i' H3 ⟨μ3, y, S3, _, x3, hσ3, s3, hy, h3⟩ => ?_⟩
  have hx3 := RV.mono x3 s2 _ _ hx
  have hd3 := RV.mono (x2.trans x3) hS _ _ hd
  cases x with
  | ref n =>
    cases y with
    | int k =>
      dsimp only at h3
      split at h3
      · rename_i xs e
        split at h3
        · rename_i j ej
          obtain ⟨p, vs, rfl, hp, hl, hv⟩ := s3.lst hx3 e
          obtain ⟨xe, se⟩ := s3.upd hp (hv.set j hd3)
          exact ⟨p, vs, k, j, rfl, hy.int_, hl, by rw [hv.length]; exact ej, OutT.nx (OutT.ext h3 xe) se (hσ3.mono xe s3)⟩
        · exact (show False from h3).elim
      · exact (show False from h3).elim
    | _ => exact (show False from h3).elim
  | _ => exact (show False from h3).elim

/-- o.f = e -/
theorem s_stA' {f : Str} {t : List (Str × Nat)} {e : Expr} {fe : Env → Store → Rs D} {pos' : Pos} (hk : ∀ c i, t.lookup c = some i → ∀ C, ClsAt X.K c C → SlX.SCls X.K C ∧ ∃ p, SlX.Slot1 X.K C f p i) (ha : PE X a (tX X.K CT W fa)) (he : PE X e (tX X.K CT W fe))
    (hs : swapsWith e (some (.Attribute a f pos')) pos.line X.env = pure false) : PS X (.Assign [.Attribute a f pos'] e pos) (tS X.K CT W fun ρ S => rtE ρ (fe ρ S) fun d S1 => rtE ρ (fa ρ S1) fun x S2 => match evStA t x d ρ S2 with
      | some (ρ', S3) => some (.nx ρ', S3)
      | none => none) := PS_of (SlX.ps_sl ha he hs) fun D σ H h => by
  refine (tS.fst (rel := RV X.K) (f := fun ρ d S1 => rtE ρ (fa ρ S1) fun x S2 => match evStA t x d ρ S2 with
      | some (ρ', S3) => some (.nx ρ', S3)
      | none => none) h).mono fun v H1 ⟨μ, ρ, d, S, hσ, hS, hd, h⟩ => ?_
  refine ⟨μ, ρ, S, hσ, hS, (OutT.rtE (rel := RV X.K) hσ hS h).mono fun o' H2 ⟨μ2, x, S2, _, x2, hσ2, s2, hx, h2⟩ => ?_⟩
  unfold evStA at h2
  split at h2
  · rename_i ρ' S3 e0
    split at e0
    · rename_i n
      split at e0
      · rename_i c fs e1
        split at e0
        · rename_i i el
          cases e0
          obtain ⟨b, C, dx, vs, rfl, hb, hc, hne, hH, hdx, hf⟩ := s2.ins hx e1
          obtain ⟨sc, p, s1⟩ := hk c i el C hc
          obtain ⟨xe, se⟩ := s2.putI (i := i) hb hc hne hdx hf (RV.mono x2 hS _ _ hd)
          exact ⟨b, C, dx, p, vs, i, rfl, .inr ⟨hH, hdx⟩, sc, s1, OutT.nx (OutT.ext h2 xe) se (hσ2.mono xe s2)⟩
        · cases e0
      · cases e0
    · cases e0
  · exact (show False from h2).elim
/-! ### several at once -/
theorem pa2_of (ha : PE X a (tX X.K CT W fa)) (hb : PE X b (tX X.K CT W fb)) (h1 : okE a = true) (h2 : okE b = true) :
    PA X [a, b] fun σ H Q => tX X.K CT W fa σ H fun v H1 => tX X.K CT W fb σ H1 fun w H2 => Q [v, w] H2 := by
  have q := pa_cons ha (pa_cons hb pa_nil (star_of h2 _ _)) (star_of h1 _ _)
  exact PA_of q fun σ H Q z => z
theorem pa3_of (ha : PE X a (tX X.K CT W fa)) (hb : PE X b (tX X.K CT W fb)) (hc : PE X c (tX X.K CT W fc)) (h1 : okE a = true) (h2 : okE b = true) (h3 : okE c = true) :
    PA X [a, b, c] fun σ H Q => tX X.K CT W fa σ H fun v H1 => tX X.K CT W fb σ H1 fun w H2 => tX X.K CT W fc σ H2 fun u H3 => Q [v, w, u] H3 := by
  have q := pa_cons ha (pa_cons hb (pa_cons hc pa_nil (star_of h3 _ _)) (star_of h2 _ _)) (star_of h1 _ _)
  exact PA_of q fun σ H Q z => z
theorem s_par {i j : Nat} {x y : Str} {px py pt : Pos} {kt k2 pt2} (hc : X.calm = true) (hN : X.N.Nodup) (hi : X.N[i]? = some x) (hj : X.N[j]? = some y) (hij : i ≠ j)
    (hx : X.env.scope.names.lookup x = some .local) (hy : X.env.scope.names.lookup y = some .local) (h1 : okE a = true) (h2 : okE b = true) (ha : PE X a (tX X.K CT W fa)) (hb : PE X b (tX X.K CT W fb))
    (hw : swappedStores [.Tuple [.Name x px, .Name y py] kt pt] (.Tuple [a, b] k2 pt2) X.env = pure (some [x, y])) :
    PS X (.Assign [.Tuple [.Name x px, .Name y py] kt pt] (.Tuple [a, b] k2 pt2) pos) (tS X.K CT W fun ρ S => rtE ρ (fa ρ S) fun x S1 => rtE ρ (fb ρ S1) fun y S2 => some (.nx ((ρ.set i (some x)).set j (some y)), S2)) :=
  PS_of (ps_par hc hN hi hj hij hx hy (pa2_of ha hb h1 h2) hw (by rfl)) fun D σ H h => by
    refine (tS.fst (rel := RV X.K) (f := fun ρ x S1 => rtE ρ (fb ρ S1) fun y S2 => some (.nx ((ρ.set i (some x)).set j (some y)), S2)) h).mono fun v H1 ⟨μ, ρ, d, S, hσ, hS, hd, h⟩ => ?_
    exact ⟨μ, ρ, S, hσ, hS, (OutT.rtE (rel := RV X.K) hσ hS h).mono fun w H2 ⟨μ2, e, S2, _, x2, hσ2, s2, he, h2⟩ => ⟨v, w, rfl, OutT.nx h2 s2 ((hσ2.set i (RV.mono x2 hS _ _ hd)).set j he)⟩⟩
theorem s_par3 {i j l : Nat} {x y z : Str} {px py pz pt : Pos} {kt k2 pt2} (hc : X.calm = true) (hN : X.N.Nodup) (hi : X.N[i]? = some x) (hj : X.N[j]? = some y) (hl : X.N[l]? = some z) (hij : i ≠ j) (hil : i ≠ l) (hjl : j ≠ l)
    (hx : X.env.scope.names.lookup x = some .local) (hy : X.env.scope.names.lookup y = some .local) (hz : X.env.scope.names.lookup z = some .local) (h1 : okE a = true) (h2 : okE b = true) (h3 : okE c = true) (ha : PE X a (tX X.K CT W fa)) (hb : PE X b (tX X.K CT W fb)) (hd : PE X c (tX X.K CT W fc))
    (hw : swappedStores [.Tuple [.Name x px, .Name y py, .Name z pz] kt pt] (.Tuple [a, b, c] k2 pt2) X.env = pure (some [x, y, z])) :
    PS X (.Assign [.Tuple [.Name x px, .Name y py, .Name z pz] kt pt] (.Tuple [a, b, c] k2 pt2) pos) (tS X.K CT W fun ρ S => rtE ρ (fa ρ S) fun x S1 => rtE ρ (fb ρ S1) fun y S2 => rtE ρ (fc ρ S2) fun z S3 => some (.nx (((ρ.set i (some x)).set j (some y)).set l (some z)), S3)) :=
  PS_of (ps_par3 hc hN hi hj hl hij hil hjl hx hy hz (pa3_of ha hb hd h1 h2 h3) hw (by rfl)) fun D σ H h => by
    refine (tS.fst (rel := RV X.K) (f := fun ρ x S1 => rtE ρ (fb ρ S1) fun y S2 => rtE ρ (fc ρ S2) fun z S3 => some (.nx (((ρ.set i (some x)).set j (some y)).set l (some z)), S3)) h).mono fun v H1 ⟨μ, ρ, d, S, hσ, hS, hd, h⟩ => ?_
    refine ⟨μ, ρ, S, hσ, hS, (OutT.rtE (rel := RV X.K) hσ hS h).mono fun w H2 ⟨μ2, e, S2, _, x2, hσ2, s2, he, h2⟩ => ?_⟩
    exact ⟨μ2, ρ, S2, hσ2, s2, (OutT.rtE (rel := RV X.K) hσ2 s2 h2).mono fun u H3 ⟨μ3, g, S3, _, x3, hσ3, s3, hg, h3⟩ => ⟨v, w, u, rfl, OutT.nx h3 s3 (((hσ3.set i (RV.mono (x2.trans x3) hS _ _ hd)).set j (RV.mono x3 s2 _ _ he)).set l hg)⟩⟩

/-! ### loops -/
theorem s_whl {body : List Stmt} {fu : Nat} (hp : PassesOwn (model X.prog X.w) X.A X.env X.xe) (hc : PT X c (tT X.K CT W ga)) (hb : PSs X body (tS X.K CT W eb)) : PS X (.While c body [] pos) (tS X.K CT W (loopW ga eb fu)) :=
  PS_of (ps_while hp hc hb) fun D σ H ⟨μ, ρ, S, hσ, hS, h⟩ => by
    refine ⟨fun m σ H => tS X.K CT W (loopW ga eb m) D σ H, ⟨fu, μ, ρ, S, hσ, hS, h⟩, ?_⟩
    clear h hS hσ
    rintro m σ H ⟨μ, ρ, S, hσ, hS, h⟩
    cases m with
    | zero => exact (show False from h).elim
    | succ m =>
      simp only [loopW] at h
      refine ⟨μ, ρ, S, hσ, hS, ?_⟩
      cases q : ga ρ S with
      | bad => rw [q] at h; exact h
      | exc e S1 =>
        rw [q] at h
        exact fun μ' H' cl dd x s k => h μ' H' σ cl dd x s (hσ.mono x hS) k
      | ok k S1 =>
        rw [q] at h
        intro μ1 H1 b x1 s1 eb'
        have eb' : b = k := eb'
        subst eb'
        have hσ1 := hσ.mono x1 hS
        cases b with
        | false =>
          simp only [Bool.false_eq_true, if_false]
          exact OutT.nx (OutT.ext h x1) s1 hσ1
        | true =>
          simp only [if_true]
          dsimp only at h
          refine ⟨fun σ' H' => tS X.K CT W (loopW ga eb m) D σ' H', fun σ' H' z => ⟨m, Nat.lt_succ_self _, z⟩, μ1, ρ, S1, hσ1, s1, ?_⟩
          cases q2 : eb ρ S1 with
          | none => rw [q2] at h; exact h
          | some p =>
            obtain ⟨f, S2⟩ := p
            rw [q2] at h
            cases f with
            | nx ρ2 => exact fun μ2 H2 σ2 x2 s2 k2 => ⟨μ2, ρ2, S2, k2, s2, OutT.ext h (x1.trans x2)⟩
            | ct ρ2 => exact fun μ2 H2 σ2 x2 s2 k2 => ⟨μ2, ρ2, S2, k2, s2, OutT.ext h (x1.trans x2)⟩
            | bk ρ2 => exact OutT.ext h x1
            | rt d => exact OutT.ext h x1
            | ex e ρ2 => exact OutT.ext h x1
theorem s_fr {iter tg : Expr} {body : List Stmt} {t : Tg} {fi : Env → Store → Rs Src} (hp : PassesOwn (model X.prog X.w) X.A X.env X.xe) (hc : X.calm = true) (hi : PI X tg iter (tI X.K CT W fi)) (hg : PG X tg (gT X.K t)) (hb : PSs X body (tS X.K CT W eb)) (hs : ∀ x, foldedSetIterable iter X.env x = pure x) :
    PS X (.For tg iter body [] pos) (tS X.K CT W fun ρ S => rtE ρ (fi ρ S) fun src S1 => loopF src (fun d ρ1 S2 => match evTg t d ρ1 with
      | none => none
      | some ρ2 => eb ρ2 S2) (src.len S1) 0 ρ S1) :=
  PS_of (ps_for hp hc hi hg hb hs) fun D σ H h => by
    refine (tS.fst (rel := fun μ H src (J : L2.It) => Wk X.K J src μ H) (f := fun ρ src S1 => loopF src (fun d ρ1 S2 => match evTg t d ρ1 with
      | none => none
      | some ρ2 => eb ρ2 S2) (src.len S1) 0 ρ S1) h).mono fun J H1 ⟨μ1, ρ, src, S1, hσ, s1, wk, h1⟩ => ?_
    clear h
    generalize hbd : (fun (d : Cw.D) (ρ1 : Env) (S2 : Store) => match evTg t d ρ1 with
      | none => none
      | some ρ2 => eb ρ2 S2) = bd at h1
    refine ⟨fun i m σ H => ∃ μ ρ S, Ext μ1 H1 μ H ∧ Rσ X.K μ H ρ σ ∧ RS X.K μ H S ∧ OutT X.K CT W μ H (loopF src bd m i ρ S) D, ⟨src.len S1, μ1, ρ, S1, Ext.refl _ _, hσ, s1, h1⟩, ?_⟩
    clear h1 hσ
    rintro i m σ H ⟨μ, ρ, S, x, hσ, hS, h⟩
    have th : src.there S = true := by
      cases m with
      | zero =>
        by_cases z : src.there S = true
        · exact z
        · simp only [loopF, if_neg z] at h; exact (show False from h).elim
      | succ m =>
        by_cases z : src.there S = true
        · exact z
        · simp only [loopF, if_neg z] at h; exact (show False from h).elim
    obtain ⟨w1, w2⟩ := wk μ H S x hS th i
    cases ea : src.at S i with
    | none =>
      refine .inl ⟨w2 ea, ?_⟩
      have e : loopF src bd m i ρ S = some (.nx ρ, S) := by cases m <;> simp only [loopF, if_pos th, ea]
      rw [e] at h
      exact h.nx hS hσ
    | some d =>
      obtain ⟨go, step⟩ := w1 d ea
      cases m with
      | zero => simp only [loopF, if_pos th, ea] at h; exact (show False from h).elim
      | succ m =>
        simp only [loopF, if_pos th, ea] at h
        refine .inr ⟨go, fun σ' H' => ∃ μ ρ S, Ext μ1 H1 μ H' ∧ Rσ X.K μ H' ρ σ' ∧ RS X.K μ H' S ∧ OutT X.K CT W μ H' (loopF src bd m (i + 1) ρ S) D, fun σ' H' z => ⟨m, Nat.lt_succ_self _, z⟩, fun v H3 hy => ?_⟩
        obtain ⟨x3, s3, r3⟩ := step v H3 hy
        have hσ3 := hσ.mono x3 hS
        cases eg : evTg t d ρ with
        | none =>
          have e : bd d ρ S = none := by rw [← hbd]; simp only [eg]
          rw [e] at h
          exact (show False from h).elim
        | some ρ2 =>
          have e : bd d ρ S = eb ρ2 S := by rw [← hbd]; simp only [eg]
          rw [e] at h
          refine ⟨μ, ρ, d, ρ2, hσ3, r3, eg, fun σ2 h2 _ => ⟨μ, ρ2, S, h2, s3, ?_⟩⟩
          cases q2 : eb ρ2 S with
          | none => rw [q2] at h; exact h
          | some p =>
            obtain ⟨f, S2⟩ := p
            rw [q2] at h
            cases f with
            | nx ρ2 => exact fun μ4 H4 σ4 x4 s4 k4 => ⟨μ4, ρ2, S2, x.trans (x3.trans x4), k4, s4, OutT.ext h (x3.trans x4)⟩
            | ct ρ2 => exact fun μ4 H4 σ4 x4 s4 k4 => ⟨μ4, ρ2, S2, x.trans (x3.trans x4), k4, s4, OutT.ext h (x3.trans x4)⟩
            | bk ρ2 => exact OutT.ext h x3
            | rt d => exact OutT.ext h x3
            | ex e ρ2 => exact OutT.ext h x3

/-! ### swaps -/
def noComp : Expr → Bool
  | .ListComp .. => false
  | .SetComp .. => false
  | .DictComp .. => false
  | _ => true
theorem sw_none {e : Expr} (h : noComp e = true) (t : Option Expr) (l : Nat) (env : PySem.Env) : swapsWith e t l env = pure false := by
  cases e <;> first | rfl | cases h
theorem sw_att {e a : Expr} {f : Str} {p : Pos} (h : noComp e = true) (l : Nat) (env : PySem.Env) : swapsWith e (some (.Attribute a f p)) l env = pure false := sw_none h _ l env
theorem sw_tup {e : Expr} {es : List Expr} {k : Nat} {p : Pos} (l : Nat) (env : PySem.Env) : swapsWithSole [.Tuple es k p] e l env = pure false := by
  cases e <;> rfl
theorem sw_sub {e o i : Expr} {p : Pos} (l : Nat) (env : PySem.Env) : swapsWithSole [.Subscript o i p] e l env = pure false := by
  cases e <;> rfl
def noTup : Expr → Bool
  | .Tuple .. => false
  | _ => true
theorem ws_tup {e : Expr} {es : List Expr} {k : Nat} {p : Pos} (h : noTup e = true) (env : PySem.Env) : swappedStores [.Tuple es k p] e env = pure none := by
  cases e <;> first | rfl | cases h
/-- names that are no locals, or what is folded: no exchange of stores -/
def farB (names : List (Str × NameKind)) (e : Expr) : Bool := match e with
  | .Name n _ => !decide (names.lookup n = some .local)
  | _ => true
def nswB (names : List (Str × NameKind)) (es : List Expr) (x : Expr) : Bool := match x with
  | .Tuple vs _ _ => vs.all (foldedForSure 8) || es.any (farB names)
  | _ => true
theorem fm_lt {α β : Type} (f : α → Option β) : ∀ {l : List α}, (∃ x ∈ l, f x = none) → (l.filterMap f).length < l.length
  | [], ⟨x, h, _⟩ => nomatch h
  | a :: r, ⟨x, h, e⟩ => by
    have hle : (r.filterMap f).length ≤ r.length := List.length_filterMap_le f r
    rw [List.filterMap_cons]
    cases q : f a with
    | none => dsimp only; rw [List.length_cons]; omega
    | some b =>
      dsimp only
      rcases List.mem_cons.mp h with rfl | h
      · rw [e] at q; cases q
      · have := fm_lt f (l := r) ⟨x, h, e⟩
        rw [List.length_cons, List.length_cons]; omega
theorem ws_far {x : Expr} {es : List Expr} {k : Nat} {p : Pos} {env : PySem.Env} (h : nswB env.scope.names es x = true) : swappedStores [.Tuple es k p] x env = pure none := by
  cases x with
  | Tuple vs kk pp =>
    unfold nswB at h
    dsimp only at h
    unfold swappedStores
    dsimp only
    rw [Bool.or_eq_true] at h
    split
    · rfl
    · split
      · rfl
      · split
        · rfl
        · rename_i hn
          rcases h with h | h
          · rw [if_pos h]
          · exfalso
            apply hn
            rw [Bool.or_eq_true]
            left
            rw [bne_iff_ne]
            refine Nat.ne_of_lt (fm_lt _ ?_)
            rw [List.any_eq_true] at h
            obtain ⟨y, hy, f⟩ := h
            refine ⟨y, hy, ?_⟩
            unfold farB at f
            split at f
            · rename_i n pn
              have hk : (env.kindOf n == some .local) = false := by
                have : ¬ env.scope.names.lookup n = some .local := by simpa using f
                exact beq_eq_false_iff_ne.mpr this
              dsimp only
              rw [hk]
              rfl
            · split
              · rename_i hx
                exact (hx _ _ rfl).elim
              · rfl
  | _ => rfl
theorem star_one {a : Expr} (h : okE a = true) : (match a with | .Starred .. => true | _ => false) = false := by
  cases a <;> first | rfl | cases h
theorem ws_pair {x y : Str} {px py pt : Pos} {kt k2 pt2} {a b : Expr} {env : PySem.Env} (hk : env.scope.kind = .function) (hx : env.scope.names.lookup x = some .local) (hy : env.scope.names.lookup y = some .local) (hl : py.line = px.line) (hxy : x ≠ y) (h1 : okE a = true) (h2 : okE b = true)
    (hf : (foldedForSure 8 a && foldedForSure 8 b) = false) (hf2 : (constantsAlone 8 a && constantsAlone 8 b) = false) :
    swappedStores [.Tuple [.Name x px, .Name y py] kt pt] (.Tuple [a, b] k2 pt2) env = pure (some [x, y]) := by
  have kb : env.blockKind = .function := by unfold Env.blockKind; rw [hk]; rfl
  have kx : env.kindOf x = some .local := hx
  have ky : env.kindOf y = some .local := hy
  have f1 : [a, b].all (foldedForSure 8) = false := by simpa using hf
  have f2 : [a, b].all (constantsAlone 8) = false := by simpa using hf2
  have ed : [x, y].eraseDups = [x, y] := by simp [List.eraseDups_cons, hxy, Ne.symm hxy]
  unfold swappedStores
  dsimp only
  rw [kb, f1, f2]
  rw [if_neg (by intro h; cases h)]
  rw [if_neg (by
    rw [List.any_cons, List.any_cons, List.any_nil, Bool.or_false, Bool.or_eq_true]
    rintro (h | h)
    · cases a <;> first | (cases h; done) | (cases h1; done)
    · cases b <;> first | (cases h; done) | (cases h2; done))]
  simp [kx, ky, hl, ed, PySem.Expr.pos]
theorem ws_three {x y z : Str} {px py pz pt : Pos} {kt k2 pt2} {a b c : Expr} {env : PySem.Env} (hk : env.scope.kind = .function) (hx : env.scope.names.lookup x = some .local) (hy : env.scope.names.lookup y = some .local) (hz : env.scope.names.lookup z = some .local) (hl : py.line = px.line) (hl2 : pz.line = px.line) (hxy : x ≠ y) (hxz : x ≠ z) (hyz : y ≠ z) (h1 : okE a = true) (h2 : okE b = true) (h3 : okE c = true)
    (hf : (foldedForSure 8 a && (foldedForSure 8 b && foldedForSure 8 c)) = false) (hf2 : (constantsAlone 8 a && (constantsAlone 8 b && constantsAlone 8 c)) = false) :
    swappedStores [.Tuple [.Name x px, .Name y py, .Name z pz] kt pt] (.Tuple [a, b, c] k2 pt2) env = pure (some [x, y, z]) := by
  have kb : env.blockKind = .function := by unfold Env.blockKind; rw [hk]; rfl
  have kx : env.kindOf x = some .local := hx
  have ky : env.kindOf y = some .local := hy
  have kz : env.kindOf z = some .local := hz
  have f1 : [a, b, c].all (foldedForSure 8) = false := by simpa using hf
  have f2 : [a, b, c].all (constantsAlone 8) = false := by simpa using hf2
  have ed : [x, y, z].eraseDups = [x, y, z] := by simp [List.eraseDups_cons, hxy, Ne.symm hxy, hxz, Ne.symm hxz, hyz, Ne.symm hyz]
  unfold swappedStores
  dsimp only
  rw [kb, f1, f2]
  rw [if_neg (by intro h; cases h)]
  rw [if_neg (by
    rw [List.any_cons, List.any_cons, List.any_cons, List.any_nil, Bool.or_false, Bool.or_eq_true, Bool.or_eq_true]
    rintro (h | h | h)
    · cases a <;> first | (cases h; done) | (cases h1; done)
    · cases b <;> first | (cases h; done) | (cases h2; done)
    · cases c <;> first | (cases h; done) | (cases h3; done))]
  simp [kx, ky, kz, hl, hl2, ed, PySem.Expr.pos]
end
end Cw
/-! CwK: the check of statements; a checked def keeps what its tree promises. -/
namespace Cw
open PySem PySem.Spec PyProof.Rows L2
theorem room65 {k : Nat} {A : Around} (r : Room k A) : A.units + 65 < cLine := by have := r.un; omega

def isComp : E → Bool
  | .comp .. => true
  | _ => false
def swB (c : Sx) (n : Str) (np : Pos) : Expr → Bool
  | .ListComp _ _ scope pos => decide (c.sc.kind = .function) && decide (c.sc.names.lookup n = some .local) && (np.line == pos.line) && !(scope.names.any fun (m, k) => m == n && (k == .local || k == .cell))
  | _ => false
def ckN (c : Sx) (i : Nat) (n : Str) : Bool := decide (c.N[i]? = some n) && decide (c.sc.names.lookup n = some .local)
mutual
def ckT (Tb : Tab) : T → Sx → Stmt → Bool
  | .nev, _, _ => true
  | .asg i e, c, s => match s with
    | .Assign [.Name n np] x _ => decide (c.N[i]? = some n) && locB c n && ckE Tb e c x && (noComp x || (isComp e && swB c n np x))
    | _ => false
  | .asgT tg e, c, s => match s with
    | .Assign [.Tuple es k p] x _ => ckG tg c (.Tuple es k p) && nswB c.sc.names es x && ckE Tb e c x
    | _ => false
  | .par i j a b, c, s => match s with
    | .Assign [.Tuple [.Name x px, .Name y py] _ _] (.Tuple [u, v] _ _) _ => decide (c.sc.kind = .function) && ckN c i x && ckN c j y && decide (i ≠ j) && decide (py.line = px.line) && decide (x ≠ y) && okE u && okE v &&
        !(foldedForSure 8 u && foldedForSure 8 v) && !(constantsAlone 8 u && constantsAlone 8 v) && ckE Tb a c u && ckE Tb b c v
    | _ => false
  | .par3 i j l a b d, c, s => match s with
    | .Assign [.Tuple [.Name x px, .Name y py, .Name z pz] _ _] (.Tuple [u, v, w] _ _) _ => decide (c.sc.kind = .function) && ckN c i x && ckN c j y && ckN c l z && decide (i ≠ j) && decide (i ≠ l) && decide (j ≠ l) && decide (py.line = px.line) && decide (pz.line = px.line) &&
        decide (x ≠ y) && decide (x ≠ z) && decide (y ≠ z) && okE u && okE v && okE w && !(foldedForSure 8 u && (foldedForSure 8 v && foldedForSure 8 w)) && !(constantsAlone 8 u && (constantsAlone 8 v && constantsAlone 8 w)) && ckE Tb a c u && ckE Tb b c v && ckE Tb d c w
    | _ => false
  | .set o i e, c, s => match s with
    | .Assign [.Subscript u v _] x _ => okE v && ckE Tb o c u && ckE Tb i c v && ckE Tb e c x
    | _ => false
  | .exp e, c, s => match s with
    | .Expr x _ => noComp x && ckE Tb e c x
    | _ => false
  | .ret e, c, s => match s with
    | .Return (some x) _ => ckE Tb e c x
    | _ => false
  | .retN, _, s => match s with
    | .Return none _ => true
    | _ => false
  | .iff t a b, c, s => match s with
    | .If x p q _ => ckE Tb t c x && ckTs Tb a c p && ckTs Tb b c q
    | _ => false
  | .whl t b, c, s => match s with
    | .While x p [] _ => ckE Tb t c x && ckTs Tb b c p
    | _ => false
  | .fr tg it b, c, s => match s with
    | .For t x p [] _ => okE x && wOk it t && ckE Tb it c x && ckG tg c t && ckTs Tb b c p
    | _ => false
  | .pas, _, s => match s with
    | .Pass _ => true
    | _ => false
  | .brk, _, s => match s with
    | .Break _ => true
    | _ => false
  | .cnt, _, s => match s with
    | .Continue _ => true
    | _ => false
  | .rse _ _, _, _ => false
  | .stA f a t e, c, s => match s with
    | .Assign [.Attribute u n _] x _ => decide (n = f) && noComp x && tblB Tb (fun ct => ct.sl.lookup f) t && ckE Tb a c u && ckE Tb e c x
    | _ => false
termination_by structural t => t
def ckTs (Tb : Tab) : Ts → Sx → List Stmt → Bool
  | .nil, _, ss => ss.isEmpty
  | .cons t r, c, ss => match ss with
    | [] => false
    | s :: ss => ckT Tb t c s && ckTs Tb r c ss
termination_by structural t => t
end

section
variable {Tb : Tab} {cl : CallT} {fu : Nat}
theorem ckN_of {c : Sx} {i : Nat} {n : Str} (h : ckN c i n = true) : c.N[i]? = some n ∧ c.sc.names.lookup n = some .local := by
  unfold ckN at h
  rw [Bool.and_eq_true, decide_eq_true_eq, decide_eq_true_eq] at h
  exact h
/-- name = [..] -/
theorem s_lc {X : Cx} {CT : Nat → Option Addr} {W : WX} {c : Sx} (ok : XOk Tb c X CT W cl) {i : Nat} {n : Str} {np pos : Pos} {e : E} {x : Expr} (hn : c.N[i]? = some n) (hc : isComp e = true) (hx : noComp x = false) (hs : swB c n np x = true) (h : ckE Tb e c x = true) :
    PS X (.Assign [.Name n np] x pos) (tS X.K CT W fun ρ S => rtE ρ (evE cl e ρ S) fun d S1 => some (.nx (ρ.set i (some d)), S1)) := by
  cases e with
  | comp own tg it cond elt =>
    simp only [ckE] at h
    split at h
    · rename_i el t it' ifs a scope p
      simp only [Bool.and_eq_true, decide_eq_true_eq] at h
      obtain ⟨⟨⟨⟨⟨⟨⟨⟨rfl, ho⟩, hw⟩, hi⟩, hb⟩, hsb⟩, hg⟩, hcd⟩, he⟩ := h
      simp only [swB, Bool.and_eq_true, decide_eq_true_eq, Bool.not_eq_true'] at hs
      obtain ⟨⟨⟨k1, k2⟩, k3⟩, k4⟩ := hs
      have bk := blkOk_by hb
      rw [← ok.sc] at bk k1 k2
      have el' : (own.map fun i => (c.N.getD i default, i)).map (·.2) = own := by rw [List.map_map]; exact List.map_id _
      have q := ps_setLc (X := X) (wi := tI X.K CT W (evIt cl it)) (g := gT X.K tg) (tt := tT X.K CT WF (evCond cl cond)) (te := tX X.K CT WF (evE cl elt)) (i := i) (y := n) (py := np) (spos := pos) (pos := p) (own := own.map fun i => (c.N.getD i default, i)) ok.calm ok.nd (by rw [ok.N]; exact hn) k2 (sw_true k1 k2 k3 k4) ((sE it c _ hi ok).pi _ hw) (by rw [ok.N]; exact bk) (fun s H C cells fp => sG tg _ _ hg (ok.blk s H _ C cells fp)) (fun s H C cells fp => sI cond _ _ hcd (ok.blk s H _ C cells fp)) (fun s H C cells fp => (sE elt _ _ he (ok.blk s H _ C cells fp)).pe) (fun x => folded_of ho _ x)
      rw [el'] at q
      refine PS_of q fun D σ H z => ?_
      have z2 := (tS.fst (rel := RV X.K) (f := fun ρ d S1 => some (.nx (ρ.set i (some d)), S1)) z)
      exact lc_of (sub_of hsb) (z2.mono fun v H1 ⟨μ, ρ, d, S, hσ, hS, hd, h⟩ => OutT.nx h hS (hσ.set i hd))
    · cases h
  | _ => cases hc
mutual
theorem sT : ∀ (t : T) (c : Sx) (s : Stmt), ckT Tb t c s = true → ∀ {X : Cx} {CT : Nat → Option Addr} {W : WX}, XOk Tb c X CT W cl → PassesOwn (model X.prog X.w) X.A X.env X.xe → PS X s (tS X.K CT W (evT fu cl t))
  | .nev, c, s, h, X, CT, W, ok, hp => s_nev
  | .asg i e, c, s, h, X, CT, W, ok, hp => by
    simp only [ckT] at h
    split at h
    · simp only [Bool.and_eq_true, Bool.or_eq_true, decide_eq_true_eq] at h
      obtain ⟨⟨⟨h1, h2⟩, h3⟩, h4⟩ := h
      rename_i n np x pos
      cases hx : noComp x with
      | true =>
        refine PS_of (ps_set ok.nd (by rw [ok.N]; exact h1) ?_ (sE e c _ h3 ok).pe (sw_none hx _ _ _) ?_) fun D σ H z => set_of z
        · unfold locB at h2
          split at h2
          · rename_i q; exact .inl (by rw [ok.sc]; exact q)
          · rename_i q; exact .inr (by rw [ok.sc]; exact q)
          · cases h2
        · unfold locB at h2
          split at h2
          · rename_i q; exact .inr (by rw [ok.sc]; exact q)
          · exact .inl (by rw [ok.fn]; exact h2)
          · cases h2
      | false =>
        rw [hx] at h4
        simp only [Bool.false_eq_true, false_or] at h4
        exact s_lc ok h1 h4.1 hx h4.2 h3
    · cases h
  | .asgT tg e, c, s, h, X, CT, W, ok, hp => by
    simp only [ckT] at h
    split at h
    · simp only [Bool.and_eq_true] at h
      obtain ⟨⟨h1, h2⟩, h3⟩ := h
      exact s_asgT (sE e c _ h3 ok).pe (sG tg c _ h1 ok) (sw_tup _ _) (ws_far (by rw [ok.sc]; exact h2)) rfl
    · cases h
  | .par i j a b, c, s, h, X, CT, W, ok, hp => by
    simp only [ckT] at h
    split at h
    · simp only [Bool.and_eq_true, decide_eq_true_eq, Bool.not_eq_true'] at h
      obtain ⟨⟨⟨⟨⟨⟨⟨⟨⟨⟨⟨hk, hx⟩, hy⟩, hij⟩, hl⟩, hxy⟩, hu⟩, hv⟩, hf⟩, hf2⟩, ha⟩, hb⟩ := h
      obtain ⟨x1, x2⟩ := ckN_of hx
      obtain ⟨y1, y2⟩ := ckN_of hy
      rw [← ok.sc] at hk x2 y2
      rw [← ok.N] at x1 y1
      exact s_par ok.calm ok.nd x1 y1 hij x2 y2 hu hv (sE a c _ ha ok).pe (sE b c _ hb ok).pe (ws_pair hk x2 y2 hl hxy hu hv hf hf2)
    · cases h
  | .par3 i j l a b d, c, s, h, X, CT, W, ok, hp => by
    simp only [ckT] at h
    split at h
    · simp only [Bool.and_eq_true, decide_eq_true_eq, Bool.not_eq_true'] at h
      obtain ⟨⟨⟨⟨⟨⟨⟨⟨⟨⟨⟨⟨⟨⟨⟨⟨⟨⟨⟨hk, hx⟩, hy⟩, hz⟩, hij⟩, hil⟩, hjl⟩, hl⟩, hl2⟩, hxy⟩, hxz⟩, hyz⟩, hu⟩, hv⟩, hw⟩, hf⟩, hf2⟩, ha⟩, hb⟩, hd⟩ := h
      obtain ⟨x1, x2⟩ := ckN_of hx
      obtain ⟨y1, y2⟩ := ckN_of hy
      obtain ⟨z1, z2⟩ := ckN_of hz
      rw [← ok.sc] at hk x2 y2 z2
      rw [← ok.N] at x1 y1 z1
      exact s_par3 ok.calm ok.nd x1 y1 z1 hij hil hjl x2 y2 z2 hu hv hw (sE a c _ ha ok).pe (sE b c _ hb ok).pe (sE d c _ hd ok).pe (ws_three hk x2 y2 z2 hl hl2 hxy hxz hyz hu hv hw hf hf2)
    · cases h
  | .set o i e, c, s, h, X, CT, W, ok, hp => by
    simp only [ckT] at h
    split at h
    · simp only [Bool.and_eq_true] at h
      obtain ⟨⟨⟨h0, h1⟩, h2⟩, h3⟩ := h
      exact s_set h0 (sE e c _ h3 ok).pe (sE o c _ h1 ok).pe (sE i c _ h2 ok).pe (sw_sub _ _)
    · cases h
  | .exp e, c, s, h, X, CT, W, ok, hp => by
    simp only [ckT] at h
    split at h
    · rw [Bool.and_eq_true] at h
      exact s_exp (sE e c _ h.2 ok).pe (sw_none h.1 _ _ _)
    · cases h
  | .ret e, c, s, h, X, CT, W, ok, hp => by
    simp only [ckT] at h
    split at h
    · exact s_ret (sE e c _ h ok).pe
    · cases h
  | .retN, c, s, h, X, CT, W, ok, hp => by
    simp only [ckT] at h
    split at h
    · exact s_retN
    · cases h
  | .iff t a b, c, s, h, X, CT, W, ok, hp => by
    simp only [ckT] at h
    split at h
    · simp only [Bool.and_eq_true] at h
      obtain ⟨⟨h1, h2⟩, h3⟩ := h
      exact s_if (sE t c _ h1 ok).pt (sTs a c _ h2 ok hp) (sTs b c _ h3 ok hp)
    · cases h
  | .whl t b, c, s, h, X, CT, W, ok, hp => by
    simp only [ckT] at h
    split at h
    · rw [Bool.and_eq_true] at h
      exact s_whl hp (sE t c _ h.1 ok).pt (sTs b c _ h.2 ok hp)
    · cases h
  | .fr tg it b, c, s, h, X, CT, W, ok, hp => by
    simp only [ckT] at h
    split at h
    · simp only [Bool.and_eq_true] at h
      obtain ⟨⟨⟨⟨h0, h1⟩, h2⟩, h3⟩, h4⟩ := h
      exact s_fr hp ok.calm ((sE it c _ h2 ok).pi _ h1) (sG tg c _ h3 ok) (sTs b c _ h4 ok hp) (fun x => folded_of h0 _ x)
    · cases h
  | .pas, c, s, h, X, CT, W, ok, hp => by
    simp only [ckT] at h
    split at h
    · exact s_pas
    · cases h
  | .brk, c, s, h, X, CT, W, ok, hp => by
    simp only [ckT] at h
    split at h
    · exact s_brk
    · cases h
  | .cnt, c, s, h, X, CT, W, ok, hp => by
    simp only [ckT] at h
    split at h
    · exact s_cnt
    · cases h
  | .rse _ _, c, s, h, X, CT, W, ok, hp => by
    simp only [ckT] at h
    cases h
  | .stA f a t e, c, s, h, X, CT, W, ok, hp => by
    simp only [ckT] at h
    split at h
    · simp only [Bool.and_eq_true, decide_eq_true_eq] at h
      obtain ⟨⟨⟨⟨rfl, hn⟩, ht⟩, h1⟩, h2⟩ := h
      obtain ⟨k, hr, _, hk⟩ := ok.k
      refine s_stA' (fun cn i e C hC => ?_) (sE a c _ h1 ok).pe (sE e c _ h2 ok).pe (sw_att hn _ _)
      obtain ⟨ct, e1, e2⟩ := tblB_of ht e
      obtain ⟨C', F⟩ := hk cn ct e1
      cases F.at_.inj hC
      exact ⟨F.sc, F.sl _ _ e2⟩
    · cases h
termination_by structural t => t
theorem sTs : ∀ (t : Ts) (c : Sx) (ss : List Stmt), ckTs Tb t c ss = true → ∀ {X : Cx} {CT : Nat → Option Addr} {W : WX}, XOk Tb c X CT W cl → PassesOwn (model X.prog X.w) X.A X.env X.xe → PSs X ss (tS X.K CT W (evTs fu cl t))
  | .nil, c, ss, h, X, CT, W, ok, hp => by
    cases ss with
    | nil => exact ss_nil
    | cons a r => simp [ckTs] at h
  | .cons t r, c, ss, h, X, CT, W, ok, hp => by
    cases ss with
    | nil => simp [ckTs] at h
    | cons s ss =>
      simp only [ckTs, Bool.and_eq_true] at h
      exact ss_cons (sT t c s h.1 ok hp) (sTs r c ss h.2 ok hp)
termination_by structural t => t
end
end

/-! ### defs -/
theorem guards_deeper {A : Around} (h : A.guards = some []) (env : PySem.Env) : (A.deeper env).guards = some [] := by
  exact h
section
variable {P : Program} {w : World} {K : PySem.W.Frag} {mg : Str → Option Value} {base : Heap} {CT : Nat → Option Addr} {fu : Nat} {tab : Nat → Option Fd} {Tb : Tab}
/-- a call of that shape binds so -/
theorem fun_shape {x qual : Str} {st : Stmt} {f : Addr} {fd : FuncData} {ps : List Str} {h : Shp} (F : Fun K x qual st f fd)
    (hb : ∀ (kV doc pm : Value) (an : Option Addr) (cdv ct : Value) (us ws : List Value), us.length = h.n → ws.length = h.ks.length → bindArgs (PySem.W.fnOf x qual (defArgs st) (defBody st) (defScope st) .none kV doc pm an cdv ct) ⟨us, h.ks.zip ws⟩ = pure (ps.zip (permG Value.none h.pm (us ++ ws))) ∧ (permG Value.none h.pm (us ++ ws)).length = ps.length) : CallShape K fd ps h := by
  obtain ⟨oc, od, kV, doc, pm, an, cdv, ct, osl, rfl, lk, hcd⟩ := F.ex
  intro s us ws _ h1 h2
  obtain ⟨e1, e2⟩ := hb kV doc pm an cdv ct us ws h1 h2
  exact ⟨.of_eq e1, e2⟩
/-- what is known of a def of the table -/
structure DefOk (K : PySem.W.Frag) (mg : Str → Option Value) (tab : Nat → Option Fd) (Tb : Tab) (y : Str) (id : Nat) (sh : List Shp) : Prop where
  ex : ∃ (x qual : Str) (st : Stmt) (f : Addr) (fd : FuncData) (N ps : List Str) (d : Fd), tab id = some d ∧ Fun K x qual st f fd ∧ FnScope N ps (defScope st) ∧ N.length = d.slots ∧ ckTs Tb d.body ⟨N, defScope st, fun _ => true⟩ (defBody st) = true ∧
    mg y = some (.ref f) ∧ ∀ h ∈ sh, CallShape K fd ps h
/-- what is known of a name of the table -/
def GOk (K : PySem.W.Frag) (mg : Str → Option Value) (tab : Nat → Option Fd) (Tb : Tab) (y : Str) : GV → Prop
  | .fnv id sh => DefOk K mg tab Tb y id sh
  | .cst d => ∃ v u, mg y = some u ∧ RelV v u ∧ ∀ μ H, RV K μ H d v
def AllOk (K : PySem.W.Frag) (mg : Str → Option Value) (tab : Nat → Option Fd) (Tb : Tab) : List (Str × GV) → Prop
  | [] => True
  | p :: r => GOk K mg tab Tb p.1 p.2 ∧ AllOk K mg tab Tb r
theorem AllOk.get : ∀ {l : List (Str × GV)} {x : Str} {g : GV}, AllOk K mg tab Tb l → l.lookup x = some g → GOk K mg tab Tb x g
  | [], _, _, _, e => by simp at e
  | p :: r, x, g, h, e => by
    rw [List.lookup_cons] at e
    split at e
    · rename_i hx
      cases e
      have := eq_of_beq hx
      subst this
      exact h.1
    · exact AllOk.get h.2 e
/-- what is known of the module's other names -/
structure ModOk (K : PySem.W.Frag) (mg : Str → Option Value) (Tb : Tab) : Prop where
  cst : ∀ x d, Tb.gl.lookup x = some (.cst d) → ∃ v u, mg x = some u ∧ RelV v u ∧ ∀ μ H, RV K μ H d v
  bl : ∀ x ∈ Tb.bl, mg x = none
theorem fn_G {k : Nat} {id : Nat} {x qual : Str} {st : Stmt} {f : Addr} {fd : FuncData} {N ps : List Str} {d : Fd} (ht : tab id = some d) (F : Fun K x qual st f fd) (S : FnScope N ps (defScope st)) (hN : N.length = d.slots)
    (hck : ckTs Tb d.body ⟨N, defScope st, fun _ => true⟩ (defBody st) = true) (M : ModOk K mg Tb)
    (ih : ∀ x id sh, Tb.gl.lookup x = some (.fnv id sh) → ∃ f fd ps, mg x = some (.ref f) ∧ PySem.W.keepIn K (.ref f) = true ∧ FnG P w K mg base k f fd ps (spD K CT (evC fu tab k id)) ∧ ∀ h ∈ sh, CallShape K fd ps h)
    (ihc : ∀ cn ct, Tb.cs.lookup cn = some ct → ∃ C, ClsF K mg (MethG P w K mg base CT (evC fu tab k) k) cn ct C) :
    FnG P w K mg base (k + 1) f fd ps (spD K CT (evC fu tab (k + 1) id)) := by
  obtain ⟨oc, od, kV, doc, pm, an, cdv, ct, osl, rfl, lk, hcd⟩ := F.ex
  refine ⟨fun A outer s H args us vs Q E hr hgd e0 hb hl r hsp => ?_⟩
  have hl2 : vs.length = ps.length := r.length.trans hl
  have KX : K.In s.heap := e0.mod.kin.keeps fun b o e => (e0.bs b o e).1
  have lim : s.heap.NoLimit := e0.mod.nolimit.keeps fun b o e => (e0.bs b o e).1
  have hkind : ∀ y ∈ ps.zip us, (defScope st).names.lookup y.1 = some .local ∨ ((defScope st).names.lookup y.1 = some .cell ∧ ((cellsFrom (s.heap.objs.size + 1) (defScope st).names []).lookup y.1).isSome = true) := fun ⟨n, v⟩ hy => by
    rcases S.par n (List.of_mem_zip hy).1 with q | q
    · exact .inl q
    · exact .inr ⟨q, PySem.W.cellsFrom_some _ _ _ (.inl q)⟩
  refine codeAny_call_function hr.depth (KX _ _ lk) rfl S.co S.gen rfl (PySem.W.codeRec_of KX hcd) (hb _ _ _ _ ?_)
  refine wpAny_newFunctionEnv_cells S.kind hkind fun env he s1 x => ?_
  subst he
  refine ⟨lim.keeps x.toInCall.keep, codeAny_func ?_⟩
  have I : Inv (cxOf (L2.CX P w) P w K mg base N qual (defScope st) f cdv A outer s H E) [] (start N vs) H s1 := inv_start S hr.hd e0 hl2 r x
  have tk : Takes (cxOf (L2.CX P w) P w K mg base N qual (defScope st) f cdv A outer s H E) (fun c d _ H' => E c d H') := takes_of rfl rfl rfl rfl
  have ok : XOk Tb ⟨N, defScope st, fun _ => true⟩ (cxOf (L2.CX P w) P w K mg base N qual (defScope st) f cdv A outer s H E) CT (fun c d _ H' => E c d H') (evC fu tab k) :=
    ⟨rfl, rfl, rfl, S.nd, rfl, (room65 (hr.deeper _)), guards_deeper hgd _, tk, ⟨k, hr.deeper _, ih, ihc⟩, M.cst, M.bl⟩
  have hbody := sTs (fu := fu) d.body _ _ hck ok (passes_of rfl)
  obtain ⟨μ, ds, S0, hds, hS, hq⟩ := hsp
  have ee : evC fu tab (k + 1) id ds S0 = bodyRs (evTs fu (evC fu tab k) d.body (startD d.slots ds) S0) := by
    show (match tab id with
      | some fd => bodyRs (evTs fu (evC fu tab k) fd.body (startD fd.slots ds) S0)
      | none => .bad) = _
    rw [ht]
  rw [ee] at hq
  have hq' : OutT K CT (fun c d _ H' => E c d H') μ H (evTs fu (evC fu tab k) d.body (startD d.slots ds) S0) { nx := fun _ H' => Q .non H', rt := Q } := by
    cases q : evTs fu (evC fu tab k) d.body (startD d.slots ds) S0 with
    | none => rw [q] at hq; exact hq
    | some p =>
      obtain ⟨fl, S1⟩ := p
      rw [q] at hq
      cases fl with
      | nx ρ => exact fun μ' H' σ' y s k => hq μ' H' .non y s .non
      | rt d => exact fun μ' H' v y s k => hq μ' H' v y s k
      | bk ρ => exact hq.elim
      | ct ρ => exact hq.elim
      | ex e ρ => exact fun μ' H' σ' c d y s _ k => hq μ' H' c d y s k
  refine wpAny_mono (hbody.run [] s1 (start N vs) H _ I ⟨μ, startD d.slots ds, S0, Rσ.start N hN hds, hS, hq'⟩) (fun fl s' hs => ?_) fun e s' hs => hs
  have fin : ∀ {σ' : L2.St} {H' : Hp} {v : V} {u : Value}, Inv (cxOf (L2.CX P w) P w K mg base N qual (defScope st) f cdv A outer s H E) [] σ' H' s' → RelV v u → Q v H' → CE outer P w H s Q u s' :=
    fun {σ' H' v u} J rv q => ⟨v, H', J.os, J.bare, J.base, J.hok, rv, q⟩
  cases fl with
  | ret u =>
    obtain ⟨v, σ', H', J, rv, q⟩ := hs
    exact fin J rv q
  | next =>
    obtain ⟨σ', H', J, q⟩ := hs
    exact fin (v := V.non) (u := Value.none) J rfl q
  | brk =>
    obtain ⟨_, _, _, q⟩ := hs
    exact False.elim q
  | cont =>
    obtain ⟨_, _, _, q⟩ := hs
    exact False.elim q
/-- what is known of a def of a class -/
def MethOk (K : PySem.W.Frag) (tab : Nat → Option Fd) (Tb : Tab) (f : Addr) (id n : Nat) : Prop :=
  ∃ (x qual : Str) (st : Stmt) (fd : FuncData) (N ps : List Str) (d : Fd), tab id = some d ∧ Fun K x qual st f fd ∧ FnScope N ps (defScope st) ∧ N.length = d.slots ∧ ckTs Tb d.body ⟨N, defScope st, fun _ => true⟩ (defBody st) = true ∧ CallShape K fd ps ⟨n, [], none⟩
theorem ClsF.imp {R R' : Addr → Nat → Nat → Prop} {cn : Str} {ct : ClsT} {C : Addr} (F : ClsF K mg R cn ct C) (h : ∀ a i n, R a i n → R' a i n) : ClsF K mg R' cn ct C :=
  ⟨F.at_, F.mg_, F.sc, F.mk_, F.kp, let ⟨f, h1, h2, h3⟩ := F.ini; ⟨f, h1, h2, h _ _ _ h3⟩, F.sl, fun f g e => let ⟨p, ga, h1, h2, h3, h4, h5⟩ := F.pr f g e; ⟨p, ga, h1, h2, h3, h4, h _ _ _ h5⟩, fun m g n e => let ⟨ga, h1, h2⟩ := F.me m g n e; ⟨ga, h1, h _ _ _ h2⟩⟩
/-- every def of the table, however deep -/
theorem all_G2 (M : ModOk K mg Tb) (h : ∀ x id sh, Tb.gl.lookup x = some (.fnv id sh) → DefOk K mg tab Tb x id sh) (hc : ∀ cn ct, Tb.cs.lookup cn = some ct → ∃ C, ClsF K mg (MethOk K tab Tb) cn ct C) : ∀ (k : Nat),
    (∀ x id sh, Tb.gl.lookup x = some (.fnv id sh) → ∃ f fd ps, mg x = some (.ref f) ∧ PySem.W.keepIn K (.ref f) = true ∧ FnG P w K mg base k f fd ps (spD K CT (evC fu tab k id)) ∧ ∀ h ∈ sh, CallShape K fd ps h) ∧
      ∀ cn ct, Tb.cs.lookup cn = some ct → ∃ C, ClsF K mg (MethG P w K mg base CT (evC fu tab k) k) cn ct C
  | 0 => ⟨fun x id sh e => by
    obtain ⟨x', qual, st, f, fd, N, ps, d, h1, F, S, hN, hck, m1, m2⟩ := (h x id sh e).ex
    exact ⟨f, fd, ps, m1, F.kp, ⟨fun A outer s H args us vs Q E _ _ _ _ _ _ ⟨_, _, _, _, _, q⟩ => q.elim⟩, m2⟩, fun cn ct e => by
    obtain ⟨C, F⟩ := hc cn ct e
    exact ⟨C, F.imp fun a i n ⟨x', qual, st, fd, N, ps, d, h1, F, S, hN, hck, m2⟩ => ⟨fd, ps, ⟨fun A outer s H args us vs Q E _ _ _ _ _ _ ⟨_, _, _, _, _, q⟩ => q.elim⟩, m2⟩⟩⟩
  | k + 1 => by
    obtain ⟨g1, g2⟩ := all_G2 M h hc k
    refine ⟨fun x id sh e => ?_, fun cn ct e => ?_⟩
    · obtain ⟨x', qual, st, f, fd, N, ps, d, h1, F, S, hN, hck, m1, m2⟩ := (h x id sh e).ex
      exact ⟨f, fd, ps, m1, F.kp, fn_G h1 F S hN hck M g1 g2, m2⟩
    · obtain ⟨C, F⟩ := hc cn ct e
      exact ⟨C, F.imp fun a i n ⟨x', qual, st, fd, N, ps, d, h1, F, S, hN, hck, m2⟩ => ⟨fd, ps, fn_G h1 F S hN hck M g1 g2, m2⟩⟩
/-- the shapes of a def's calls, one by one -/
theorem shl_nil {fd : FuncData} {ps : List Str} : ∀ h ∈ ([] : List Shp), CallShape K fd ps h := fun _ h => nomatch h
theorem shl_cons {fd : FuncData} {ps : List Str} {a : Shp} {r : List Shp} (h1 : CallShape K fd ps a) (h2 : ∀ h ∈ r, CallShape K fd ps h) : ∀ h ∈ a :: r, CallShape K fd ps h := fun h hh => by
  rcases List.mem_cons.mp hh with rfl | hh
  · exact h1
  · exact h2 h hh
end
end Cw
/-! CwL: a law's end. -/
namespace Cw
open PySem PySem.Spec PyProof.Rows L2

theorem rvs_ints {K : PySem.W.Frag} {μ : List Addr} {H : Hp} : ∀ ns : List Int, RVs K μ H (ns.map D.int) (ns.map V.int)
  | [] => .nil_
  | n :: r => .cons_ .int (rvs_ints r)
/-- the script's law is reckoned true -/
theorem call_C {P : Program} {w : World} {K : PySem.W.Frag} {mg mb : Str → Option Value} {CT : Nat → Option Addr} {fu k id : Nat} {tab : Nat → Option Fd} {Tb : Tab} {x : Str} {sh : List Shp} {fa a : Addr} {s₁ : Shared} {vs : List Value} {ns : List Int} {S : Store}
    (KX : K.In s₁.heap) (hns : s₁.heap.Ns mainGlobals mg) (hb : s₁.heap.Ns builtinsNs mb) (hbb : ∀ x : Str, x ≠ "__name__" → mb x = bootBuiltins x) (hlim : s₁.heap.NoLimit) (hg : s₁.gens = #[])
    (ha : s₁.heap.get? a = some { cls := .type "list", data := .seq vs.toArray }) (hi : IntsAre vs ns) (hl : ns.length ≤ sizeLine) (hr : Room (2 * k + 1) callerA) (hfa : mg x = some (.ref fa))
    (gA : AllOk K mg tab Tb Tb.gl) (hB : ∀ x ∈ Tb.bl, mg x = none) (hC : ∀ cn ct, Tb.cs.lookup cn = some ct → ∃ C, ClsF K mg (MethOk K tab Tb) cn ct C) (hx : Tb.gl.lookup x = some (.fnv id sh)) (hsh : ⟨1, [], none⟩ ∈ sh)
    (hev : evC fu tab k id [.rol (ns.map .int)] [] = .ok (.bl true) S) :
    codeAny (model P w) callerA (.call (.ref fa) ⟨[.ref a], []⟩) (fun r s' => r = .ok (.ret (.bool true)) ∧ OldK s₁.heap s'.heap ∧ s'.os = s₁.os ∧ AllBare s'.gens) s₁ := by
  have rv := vals_ints hi
  have lenV := hi.length
  have go : ∀ H : Hp, Only H → SqR K H a (ns.map V.int) → HOk P w H s₁.heap → (∀ b, H b ≠ none → b = a) → (H a ≠ none → K.lookup a = none) →
      codeAny (model P w) callerA (.call (.ref fa) ⟨[.ref a], []⟩) (fun r s' => r = .ok (.ret (.bool true)) ∧ OldK s₁.heap s'.heap ∧ s'.os = s₁.os ∧ AllBare s'.gens) s₁ := by
    intro H hO hS hok hA hK
    have inB : ∀ {b : Addr} {o : Obj}, s₁.heap.get? b = some o → H b = none → (hidT s₁.heap H).get? b = some o := fun e n => hidT_get e n
    have notA : ∀ {b : Addr} {o : Obj} {es : Array DictEntry} {ep : Nat}, s₁.heap.get? b = some o → o.data = .dict es ep → H b = none := fun {b o es ep} e d => by
      by_cases q : H b = none
      · exact q
      · have e' := hA b q
        subst e'
        rw [ha] at e; cases e
        cases (show Data.seq vs.toArray _ = Data.dict es ep from d)
    have nsB : ∀ {b : Addr} {m : Str → Option Value}, s₁.heap.Ns b m → (hidT s₁.heap H).Ns b m := fun {b m} ⟨o, es, ep, e, d, r⟩ => ⟨o, es, ep, inB e (notA e d), d, r⟩
    have kB : K.In (hidT s₁.heap H) := fun b o e => inB (KX b o e) (by
      by_cases q : H b = none
      · exact q
      · have e' := hA b q
        subst e'
        rw [hK q] at e; cases e)
    have hM : Mod K mg (hidT s₁.heap H) := ⟨kB, nsB hns, ⟨mb, nsB hb, hbb⟩, let ⟨mc, h1, h2⟩ := hlim; ⟨mc, nsB h1, h2⟩⟩
    have e0 : Env0 P w K mg (hidT s₁.heap H) callerA [] s₁ H := ⟨rfl, hM, fun b o e => of_hidT e, Nat.le_of_eq (hidT_size _ _), trivial, (fun b hb => absurd hb (by simp [frs])), hok, .of_eq hg⟩
    obtain ⟨f, fd, ps, m1, kp, G, hs⟩ := (all_G2 (P := P) (w := w) (base := hidT s₁.heap H) (CT := CT) (fu := fu) ⟨fun x d e => gA.get e, hB⟩ (fun x id sh e => gA.get e) hC k).1 x id sh hx
    rw [hfa] at m1
    cases m1
    obtain ⟨b1, b2⟩ := hs _ hsh s₁ [.ref a] [] KX rfl rfl
    have sp : spD K CT (evC fu tab k id) [.ref a] H (fun v _ => v = .bl true) fun _ _ _ => False := by
      refine ⟨[], [.rol (ns.map .int)], [], .cons_ (by unfold RV; exact ⟨a, _, rfl, hS, rvs_ints ns⟩) .nil_, ⟨rfl, List.nodup_nil, fun n xs e => by simp at e, fun n c fs e => by simp at e⟩, ?_⟩
      rw [hev]
      exact fun μ' H' b _ _ q => q.bl_
    refine codeAny_mono (G.run callerA [] s₁ H ⟨[.ref a], []⟩ _ [.ref a] _ _ hr rfl e0 b1 b2 (.cons rfl .nil) sp) fun r s' h => ?_
    cases r with
    | error e =>
      obtain ⟨_, _, _, _, _, _, _, _, _, _, _, _, z⟩ := h
      exact z.elim
    | ok fl =>
      cases fl with
      | ret u =>
        obtain ⟨v, H', os, bare, un, hok', r', q⟩ := h
        have q' : v = .bl true := q
        subst q'
        obtain rfl : u = Value.bool true := r'
        refine ⟨rfl, OldK.of_keep fun b o e => ?_, os, bare⟩
        cases q : H b with
        | none => exact un.keep b o e q (fun z => nomatch z) (by simp)
        | some u =>
          rcases hO b with z | ⟨ob, xs, z⟩
          · rw [q] at z; cases z
          · obtain ⟨e1, _⟩ := hok b _ z
            obtain ⟨e2, _⟩ := hok' b _ (un.frzs b ob _ z)
            rw [e] at e1; cases e1
            exact e2
      | _ => exact False.elim h
  cases hk : K.lookup a with
  | some o =>
    have e := KX a o hk
    rw [ha] at e
    cases e
    exact go (fun _ => none) (fun _ => .inl rfl) (.inr ⟨_, vs.toArray, _, hk, rfl, rfl, rfl, by rw [List.size_toArray, lenV]; exact hl, by simpa using rv⟩) (fun b u z => nomatch z) (fun b z => absurd rfl z) fun z => absurd rfl z
  | none =>
    refine go (fun b => if b = a then some (.frz { cls := .type "list", data := .seq vs.toArray } (.lst (ns.map V.int))) else none) (fun b => ?_) (.inl ⟨{ cls := .type "list", data := .seq vs.toArray }, if_pos rfl⟩) (fun b u z => ?_) (fun b z => ?_) fun _ => hk
    · by_cases hb : b = a
      · exact .inr ⟨_, _, if_pos hb⟩
      · exact .inl (if_neg hb)
    · by_cases hb : b = a
      · have z' := (if_pos hb).symm.trans z
        cases z'
        subst hb
        exact ⟨ha, by rw [List.length_map]; exact hl, vs, _, rv, ha⟩
      · have z' := (if_neg hb).symm.trans z
        cases z'
    · by_cases hb : b = a
      · exact hb
      · exact absurd (if_neg hb) z
/-- the goal that k_head leaves, from what the law's tree is reckoned to -/
theorem walk_C {l : PySem.W.OpenLaw} {n k : Nat} {q : Program} {loose : List Str} {XP : (Str → Option Value) → Heap → Prop} {YP : World → Heap → Prop} {d : DefRec} {K : Params → PySem.W.Frag} (tab : Nat → Option Fd) (Tb : Tab) (id : Nat) (sh : List Shp)
    (hn : l.most = some n) (hn2 : n ≤ sizeLine) (hdf : d.params.defaults = []) (hr : Room (2 * k + 1) callerA)
    (hY : ∀ (w : World) (h : Heap), YP w h → (K w.params).In h)
    (F : ∀ (w : World) (mg : Str → Option Value) (h : Heap), (K w.params).In h → h.Ns mainGlobals mg → AllOk (K w.params) mg tab Tb Tb.gl ∧ (∀ x ∈ Tb.bl, mg x = none) ∧ ∀ cn ct, Tb.cs.lookup cn = some ct → ∃ C, ClsF (K w.params) mg (MethOk (K w.params) tab Tb) cn ct C)
    (hx : Tb.gl.lookup d.name = some (.fnv id sh)) (hsh : ⟨1, [], none⟩ ∈ sh)
    (hev : ∀ ns : List Int, ns.length ≤ n → (∀ z ∈ ns, Builtin.Int.intBits z ≤ 1048576) → ∃ fu S, evC fu tab k id [.rol (ns.map .int)] [] = .ok (.bl true) S) :
    PySem.W.WalkO q loose XP YP l.row.toRowW d [] (fun f vs => PySem.call f vs) := by
  refine Att.attach_callB hn hdf fun w s₀ s₁ mg mb fa o pm cd doc a vs ns G Y ho hd hcd hmg hobj hints hlen hbits hg => ?_
  have KX := hY w _ Y
  obtain ⟨hA, hB, hC⟩ := F w mg _ KX G.T.g
  obtain ⟨fu, S, e⟩ := hev ns hlen hbits
  exact call_C (CT := fun _ => none) KX G.T.g G.T.b G.T.builtins G.T.nolimit hg hobj hints (Nat.le_trans hlen hn2) hr hmg hA hB hC hx hsh e
end Cw
/-! CwV: reckoning a tree by rewriting. -/
namespace Cw
open PySem PySem.Spec PyProof.Rows L2

section
variable {α β : Type} {cl : CallT} {ρ : Env} {S S' : Store} {fu : Nat}
theorem bnd_ok (a : α) (S : Store) (f : α → Store → Rs β) : (Rs.ok a S).bnd f = f a S := rfl
theorem bnd_exc (a : Xc) (S : Store) (f : α → Store → Rs β) : (Rs.exc a S).bnd f = .exc a S := rfl
def varR (o : Option (Option D)) (S : Store) : Rs D := match o with
  | some (some d) => .ok d S
  | _ => .bad
theorem varR_some (d : D) (S : Store) : varR (some (some d)) S = .ok d S := rfl
def kk2 (g : Store → Rs D) (k : D → D → Store → Rs α) (x : D) (S : Store) : Rs α := (g S).bnd (k x)
theorem kk2_eq (g : Store → Rs D) (k : D → D → Store → Rs α) (x : D) (S : Store) : kk2 g k x S = (g S).bnd (k x) := rfl

/-! #### expressions -/
theorem v_var (i : Nat) : (ev3 cl (.var i)).v ρ S = varR ρ[i]? S := rfl
theorem v_cst (d : D) : (ev3 cl (.cst d)).v ρ S = .ok d S := rfl
theorem v_tup (es : Es) : (ev3 cl (.tup es)).v ρ S = (evEs cl es ρ S).bnd mkTup := rfl
theorem v_lst (es : Es) : (ev3 cl (.lst es)).v ρ S = (evEs cl es ρ S).bnd alloc := rfl
theorem v_bin (op : Bop) (a b : E) : (ev3 cl (.bin op a b)).v ρ S = ((ev3 cl a).v ρ S).bnd (kk2 ((ev3 cl b).v ρ) (evBop op)) := rfl
theorem v_neg (a : E) : (ev3 cl (.neg a)).v ρ S = ((ev3 cl a).v ρ S).bnd evNeg := rfl
theorem v_not (a : E) : (ev3 cl (.not a)).v ρ S = ((ev3 cl a).v ρ S).bnd evNot := rfl
def andK (g : Store → Rs D) (x : D) (S : Store) : Rs D := match x with
  | .bl true => g S
  | .bl false => .ok (.bl false) S
  | _ => .bad
def orK (g : Store → Rs D) (x : D) (S : Store) : Rs D := match x with
  | .bl true => .ok (.bl true) S
  | .bl false => g S
  | _ => .bad
theorem andK_t (g : Store → Rs D) : andK g (.bl true) S = g S := rfl
theorem andK_f (g : Store → Rs D) : andK g (.bl false) S = .ok (.bl false) S := rfl
theorem orK_t (g : Store → Rs D) : orK g (.bl true) S = .ok (.bl true) S := rfl
theorem orK_f (g : Store → Rs D) : orK g (.bl false) S = g S := rfl
theorem v_and (a b : E) : (ev3 cl (.and a b)).v ρ S = ((ev3 cl a).v ρ S).bnd (andK ((ev3 cl b).v ρ)) := rfl
theorem v_or (a b : E) : (ev3 cl (.or a b)).v ρ S = ((ev3 cl a).v ρ S).bnd (orK ((ev3 cl b).v ρ)) := rfl
theorem v_cmp (op : Cop) (a b : E) : (ev3 cl (.cmp op a b)).v ρ S = ((ev3 cl a).v ρ S).bnd (kk2 ((ev3 cl b).v ρ) (evCop op)) := rfl
def chK (o2 : Cop) (h : Store → Rs D) (y z : D) (S : Store) : Rs D := match z with
  | .bl true => (h S).bnd (evCop o2 y)
  | .bl false => .ok (.bl false) S
  | _ => .bad
theorem chK_t (o2 : Cop) (h : Store → Rs D) (y : D) : chK o2 h y (.bl true) S = (h S).bnd (evCop o2 y) := rfl
theorem chK_f (o2 : Cop) (h : Store → Rs D) (y : D) : chK o2 h y (.bl false) S = .ok (.bl false) S := rfl
def chJ (o1 o2 : Cop) (h : Store → Rs D) (x y : D) (S : Store) : Rs D := (evCop o1 x y S).bnd (chK o2 h y)
theorem chJ_eq (o1 o2 : Cop) (h : Store → Rs D) (x y : D) : chJ o1 o2 h x y S = (evCop o1 x y S).bnd (chK o2 h y) := rfl
theorem v_chain (o1 o2 : Cop) (a b c : E) : (ev3 cl (.chain o1 o2 a b c)).v ρ S = ((ev3 cl a).v ρ S).bnd (kk2 ((ev3 cl b).v ρ) (chJ o1 o2 ((ev3 cl c).v ρ))) := rfl
def iteK (f g : Store → Rs α) (k : Bool) (S : Store) : Rs α := match k with
  | true => f S
  | false => g S
theorem iteK_t (f g : Store → Rs α) : iteK f g true S = f S := rfl
theorem iteK_f (f g : Store → Rs α) : iteK f g false S = g S := rfl
theorem v_ite (c a b : E) : (ev3 cl (.ite c a b)).v ρ S = ((ev3 cl c).b ρ S).bnd (iteK ((ev3 cl a).v ρ) ((ev3 cl b).v ρ)) := rfl
theorem v_idx (a b : E) : (ev3 cl (.idx a b)).v ρ S = ((ev3 cl a).v ρ S).bnd (kk2 ((ev3 cl b).v ρ) evIdx) := rfl
def slcJ (x : D) (l : Option Int) (h : Option Int) (S : Store) : Rs D := evSlc x l h S
def slcK (hi : Store → Rs (Option Int)) (x : D) (l : Option Int) (S : Store) : Rs D := (hi S).bnd (slcJ x l)
def slcL (lo hi : Store → Rs (Option Int)) (x : D) (S : Store) : Rs D := (lo S).bnd (slcK hi x)
theorem slcK_eq (hi : Store → Rs (Option Int)) (x : D) (l : Option Int) : slcK hi x l S = (hi S).bnd (slcJ x l) := rfl
theorem slcL_eq (lo hi : Store → Rs (Option Int)) (x : D) : slcL lo hi x S = (lo S).bnd (slcK hi x) := rfl
theorem slcJ_eq (x : D) (l h : Option Int) : slcJ x l h S = evSlc x l h S := rfl
theorem v_slc (a : E) (lo hi : Eo) : (ev3 cl (.slc a lo hi)).v ρ S = ((ev3 cl a).v ρ S).bnd (slcL (evEo cl lo ρ) (evEo cl hi ρ)) := rfl
def optK (x : D) (S : Store) : Rs (Option Int) := match x with
  | .int i => .ok (some i) S
  | _ => .bad
theorem optK_int (i : Int) : optK (.int i) S = .ok (some i) S := rfl
theorem o_none : evEo cl .none ρ S = .ok none S := rfl
theorem o_some (e : E) : evEo cl (.some e) ρ S = ((ev3 cl e).v ρ S).bnd optK := rfl
theorem v_rev (a : E) : (ev3 cl (.rev a)).v ρ S = ((ev3 cl a).v ρ S).bnd evRev := rfl
theorem rev_tup (xs : List D) : evRev (.tup xs) S = .ok (.tup xs.reverse) S := rfl
def callJ (cl : CallT) (f : Nat) (pm : Option (List Nat)) (ds ws : List D) (S : Store) : Rs D := evCall cl f pm (ds ++ ws) S
def callK (cl : CallT) (f : Nat) (pm : Option (List Nat)) (ks : Store → Rs (List D)) (ds : List D) (S : Store) : Rs D := (ks S).bnd (callJ cl f pm ds)
theorem callK_eq (f : Nat) (pm : Option (List Nat)) (ks : Store → Rs (List D)) (ds : List D) : callK cl f pm ks ds S = (ks S).bnd (callJ cl f pm ds) := rfl
theorem callJ_none (f : Nat) (ds ws : List D) : callJ cl f none ds ws S = cl f (ds ++ ws) S := rfl
theorem callJ_1 (f : Nat) (a : D) : callJ cl f (some [0]) [] [a] S = cl f [a] S := rfl
theorem callJ_some (f : Nat) (p : List Nat) (ds ws : List D) : callJ cl f (some p) ds ws S = evCall cl f (some p) (ds ++ ws) S := rfl
theorem v_call (f : Nat) (es ks : Es) (pm : Option (List Nat)) : (ev3 cl (.call f es ks pm)).v ρ S = (evEs cl es ρ S).bnd (callK cl f pm (evEs cl ks ρ)) := rfl
theorem v_b1 (f : B1) (a : E) : (ev3 cl (.b1 f a)).v ρ S = ((ev3 cl a).v ρ S).bnd (evB1 f) := rfl
theorem v_b2 (f : B2) (a b : E) : (ev3 cl (.b2 f a b)).v ρ S = ((ev3 cl a).v ρ S).bnd (kk2 ((ev3 cl b).v ρ) (evB2 f)) := rfl
def isiK (t : Ty) (x : D) (S : Store) : Rs D := evIsi x t S
theorem isiK_eq (t : Ty) (x : D) : isiK t x S = evIsi x t S := rfl
theorem v_isi (a : E) (t : Ty) : (ev3 cl (.isi a t)).v ρ S = ((ev3 cl a).v ρ S).bnd (isiK t) := rfl
theorem v_m0 (m : M0) (a : E) : (ev3 cl (.m0 m a)).v ρ S = evMt0 m ((ev3 cl a).v) ρ S := rfl
def m1J (m : M1) (g : Store → Rs D) (x : D) (S : Store) : Rs D := if okM1 m x S then (g S).bnd (evM1 m x) else .bad
theorem v_m1 (m : M1) (a b : E) : (ev3 cl (.m1 m a b)).v ρ S = ((ev3 cl a).v ρ S).bnd (m1J m ((ev3 cl b).v ρ)) := rfl
theorem m1J_ok (m : M1) (g : Store → Rs D) (x : D) (h : okM1 m x S = true) : m1J m g x S = (g S).bnd (evM1 m x) := if_pos h
def compE (acc : List D) (S : Store) : Rs D := .ok (.ref S.length) (S ++ [.lst acc])
theorem compE_eq (acc : List D) : compE acc S = .ok (.ref S.length) (S ++ [.lst acc]) := rfl
def compK (own : List Nat) (tg : Tg) (fc : Env → Store → Rs Bool) (fe : Env → Store → Rs D) (ρ : Env) (src : Src) (S : Store) : Rs D := (loopC src (turnC own tg fc fe ρ) (src.len S) 0 [] S).bnd compE
theorem compK_eq (own : List Nat) (tg : Tg) (fc : Env → Store → Rs Bool) (fe : Env → Store → Rs D) (src : Src) : compK own tg fc fe ρ src S = (loopC src (turnC own tg fc fe ρ) (src.len S) 0 [] S).bnd compE := rfl
theorem v_comp (own : List Nat) (tg : Tg) (it : E) (cond : Eo) (elt : E) : (ev3 cl (.comp own tg it cond elt)).v ρ S = ((ev3 cl it).w ρ S).bnd (compK own tg (evCond cl cond) ((ev3 cl elt).v) ρ) := rfl
theorem es_nil : evEs cl .nil ρ S = .ok [] S := rfl
def consJ (x : D) (xs : List D) (S : Store) : Rs (List D) := .ok (x :: xs) S
def consK (g : Store → Rs (List D)) (x : D) (S : Store) : Rs (List D) := (g S).bnd (consJ x)
theorem consJ_eq (x : D) (xs : List D) : consJ x xs S = .ok (x :: xs) S := rfl
theorem consK_eq (g : Store → Rs (List D)) (x : D) : consK g x S = (g S).bnd (consJ x) := rfl
theorem es_cons (e : E) (r : Es) : evEs cl (.cons e r) ρ S = ((ev3 cl e).v ρ S).bnd (consK (evEs cl r ρ)) := rfl

/-! #### tests -/
def notJ (k : Bool) (S : Store) : Rs Bool := .ok (!k) S
theorem notJ_eq (k : Bool) : notJ k S = .ok (!k) S := rfl
def andJ (g : Store → Rs Bool) (k : Bool) (S : Store) : Rs Bool := match k with
  | true => g S
  | false => .ok false S
def orJ (g : Store → Rs Bool) (k : Bool) (S : Store) : Rs Bool := match k with
  | true => .ok true S
  | false => g S
theorem andJ_t (g : Store → Rs Bool) : andJ g true S = g S := rfl
theorem andJ_f (g : Store → Rs Bool) : andJ g false S = .ok false S := rfl
theorem orJ_t (g : Store → Rs Bool) : orJ g true S = .ok true S := rfl
theorem orJ_f (g : Store → Rs Bool) : orJ g false S = g S := rfl
theorem b_not (a : E) : (ev3 cl (.not a)).b ρ S = ((ev3 cl a).b ρ S).bnd notJ := rfl
theorem b_and (a b : E) : (ev3 cl (.and a b)).b ρ S = ((ev3 cl a).b ρ S).bnd (andJ ((ev3 cl b).b ρ)) := rfl
theorem b_or (a b : E) : (ev3 cl (.or a b)).b ρ S = ((ev3 cl a).b ρ S).bnd (orJ ((ev3 cl b).b ρ)) := rfl
theorem b_cmp (op : Cop) (a b : E) : (ev3 cl (.cmp op a b)).b ρ S = ((ev3 cl (.cmp op a b)).v ρ S).bnd ofBl := rfl
theorem b_chain (o1 o2 : Cop) (a b c : E) : (ev3 cl (.chain o1 o2 a b c)).b ρ S = ((ev3 cl (.chain o1 o2 a b c)).v ρ S).bnd ofBl := rfl
theorem b_ite (c a b : E) : (ev3 cl (.ite c a b)).b ρ S = ((ev3 cl c).b ρ S).bnd (iteK ((ev3 cl a).b ρ) ((ev3 cl b).b ρ)) := rfl
theorem b_var (i : Nat) : (ev3 cl (.var i)).b ρ S = ((ev3 cl (.var i)).v ρ S).bnd evTru := rfl
theorem b_cst (d : D) : (ev3 cl (.cst d)).b ρ S = evTru d S := rfl
theorem b_call (f : Nat) (es ks : Es) (pm : Option (List Nat)) : (ev3 cl (.call f es ks pm)).b ρ S = ((ev3 cl (.call f es ks pm)).v ρ S).bnd evTru := rfl
theorem b_b1 (f : B1) (a : E) : (ev3 cl (.b1 f a)).b ρ S = ((ev3 cl (.b1 f a)).v ρ S).bnd evTru := rfl
theorem b_isi (a : E) (t : Ty) : (ev3 cl (.isi a t)).b ρ S = ((ev3 cl (.isi a t)).v ρ S).bnd evTru := rfl
theorem b_idx (a b : E) : (ev3 cl (.idx a b)).b ρ S = ((ev3 cl (.idx a b)).v ρ S).bnd evTru := rfl
theorem b_bin (op : Bop) (a b : E) : (ev3 cl (.bin op a b)).b ρ S = ((ev3 cl (.bin op a b)).v ρ S).bnd evTru := rfl
theorem b_comp (own : List Nat) (tg : Tg) (it : E) (cond : Eo) (elt : E) : (ev3 cl (.comp own tg it cond elt)).b ρ S = ((ev3 cl (.comp own tg it cond elt)).v ρ S).bnd evTru := rfl
theorem ofBl_bl (k : Bool) : ofBl (.bl k) S = .ok k S := rfl
theorem tru_bl (k : Bool) : evTru (.bl k) S = .ok k S := rfl
theorem tru_int (i : Int) : evTru (.int i) S = .ok (i != 0) S := rfl
theorem tru_tup (xs : List D) : evTru (.tup xs) S = .ok (!xs.isEmpty) S := rfl
theorem tru_non : evTru .non S = .ok false S := rfl
theorem c_none' : evCond cl .none ρ S = .ok true S := rfl
theorem c_some' (e : E) : evCond cl (.some e) ρ S = (ev3 cl e).b ρ S := rfl

/-! #### walks -/
def srcK (x : D) (S : Store) : Rs Src := toSrc S x
theorem srcK_tup (xs : List D) : srcK (.tup xs) S = .ok (.fix xs) S := rfl
theorem srcK_rol (xs : List D) : srcK (.rol xs) S = .ok (.fix xs) S := rfl
theorem srcK_ref (n : Nat) {xs : List D} (h : S[n]? = some (.lst xs)) : srcK (.ref n) S = .ok (.live n) S := by
  show (if isL S[n]? then _ else _) = _
  rw [h]; rfl
theorem w_var (i : Nat) : (ev3 cl (.var i)).w ρ S = ((ev3 cl (.var i)).v ρ S).bnd srcK := rfl
theorem w_cst (d : D) : (ev3 cl (.cst d)).w ρ S = srcK d S := rfl
theorem w_tup (es : Es) : (ev3 cl (.tup es)).w ρ S = ((ev3 cl (.tup es)).v ρ S).bnd srcK := rfl
theorem w_lst (es : Es) : (ev3 cl (.lst es)).w ρ S = ((ev3 cl (.lst es)).v ρ S).bnd srcK := rfl
theorem w_bin (op : Bop) (a b : E) : (ev3 cl (.bin op a b)).w ρ S = ((ev3 cl (.bin op a b)).v ρ S).bnd srcK := rfl
theorem w_idx (a b : E) : (ev3 cl (.idx a b)).w ρ S = ((ev3 cl (.idx a b)).v ρ S).bnd srcK := rfl
theorem w_slc (a : E) (lo hi : Eo) : (ev3 cl (.slc a lo hi)).w ρ S = ((ev3 cl (.slc a lo hi)).v ρ S).bnd srcK := rfl
theorem w_call (f : Nat) (es ks : Es) (pm : Option (List Nat)) : (ev3 cl (.call f es ks pm)).w ρ S = ((ev3 cl (.call f es ks pm)).v ρ S).bnd srcK := rfl
theorem w_comp (own : List Nat) (tg : Tg) (it : E) (cond : Eo) (elt : E) : (ev3 cl (.comp own tg it cond elt)).w ρ S = ((ev3 cl (.comp own tg it cond elt)).v ρ S).bnd srcK := rfl
theorem w_rng (a : E) : (ev3 cl (.rngV a)).w ρ S = ((ev3 cl a).v ρ S).bnd evRng1 := rfl
def rng2K (x y : D) (S : Store) : Rs Src := evRng2 x y S
theorem rng2K_eq (x y : D) : rng2K x y S = evRng2 x y S := rfl
theorem w_rng2 (a b : E) : (ev3 cl (.rngV2 a b)).w ρ S = ((ev3 cl a).v ρ S).bnd (kk2 ((ev3 cl b).v ρ) rng2K) := rfl
def zipK (x y : D) (S : Store) : Rs Src := evZip x y S
theorem zipK_tup (xs ys : List D) : zipK (.tup xs) (.tup ys) S = .ok (.zip (.tup xs) (.tup ys)) S := rfl
theorem zipK_eq (x y : D) : zipK x y S = evZip x y S := rfl
theorem w_zip (a b : E) : (ev3 cl (.zipV a b)).w ρ S = ((ev3 cl a).v ρ S).bnd (kk2 ((ev3 cl b).v ρ) zipK) := rfl
theorem w_enum (a : E) : (ev3 cl (.enumV a)).w ρ S = ((ev3 cl a).v ρ S).bnd evEnum := rfl

/-! #### statements -/
def seqR (r : Rt) (k : Env → Store → Rt) : Rt := match r with
  | some (.nx ρ', S') => k ρ' S'
  | x => x
theorem seqR_nx (k : Env → Store → Rt) : seqR (some (.nx ρ, S)) k = k ρ S := rfl
theorem seqR_rt (d : D) (k : Env → Store → Rt) : seqR (some (.rt d, S)) k = some (.rt d, S) := rfl
theorem seqR_bk (k : Env → Store → Rt) : seqR (some (.bk ρ, S)) k = some (.bk ρ, S) := rfl
theorem seqR_ct (k : Env → Store → Rt) : seqR (some (.ct ρ, S)) k = some (.ct ρ, S) := rfl
theorem seqR_ex (x : Xc) (k : Env → Store → Rt) : seqR (some (.ex x ρ, S)) k = some (.ex x ρ, S) := rfl
theorem ts_nil : evTs fu cl .nil ρ S = some (.nx ρ, S) := rfl
theorem ts_cons (t : T) (r : Ts) : evTs fu cl (.cons t r) ρ S = seqR (evT fu cl t ρ S) (evTs fu cl r) := by
  show (match evT fu cl t ρ S with
    | some (.nx ρ', S') => evTs fu cl r ρ' S'
    | x => x) = _
  unfold seqR
  split <;> rfl
theorem rtE_ok (a : α) (f : α → Store → Rt) : rtE ρ (.ok a S) f = f a S := rfl
def asgK (i : Nat) (ρ : Env) (d : D) (S : Store) : Rt := some (.nx (ρ.set i (some d)), S)
theorem asgK_eq (i : Nat) (d : D) : asgK i ρ d S = some (.nx (ρ.set i (some d)), S) := rfl
theorem t_asg (i : Nat) (e : E) : evT fu cl (.asg i e) ρ S = rtE ρ ((ev3 cl e).v ρ S) (asgK i ρ) := rfl
def tgK (o : Option Env) (S : Store) : Rt := match o with
  | some ρ' => some (.nx ρ', S)
  | none => none
theorem tgK_some : tgK (some ρ) S = some (.nx ρ, S) := rfl
def asgTK (tg : Tg) (ρ : Env) (d : D) (S : Store) : Rt := tgK (evTg tg d ρ) S
theorem asgTK_eq (tg : Tg) (d : D) : asgTK tg ρ d S = tgK (evTg tg d ρ) S := rfl
theorem t_asgT (tg : Tg) (e : E) : evT fu cl (.asgT tg e) ρ S = rtE ρ ((ev3 cl e).v ρ S) (asgTK tg ρ) := by
  show rtE ρ ((ev3 cl e).v ρ S) (fun d S1 => match evTg tg d ρ with
    | some ρ' => some (.nx ρ', S1)
    | none => none) = _
  refine congrArg _ (funext fun d => funext fun S1 => ?_)
  unfold asgTK tgK
  cases evTg tg d ρ <;> rfl
def parJ (i j : Nat) (ρ : Env) (x y : D) (S : Store) : Rt := some (.nx ((ρ.set i (some x)).set j (some y)), S)
theorem parJ_eq (i j : Nat) (x y : D) : parJ i j ρ x y S = some (.nx ((ρ.set i (some x)).set j (some y)), S) := rfl
def parK (i j : Nat) (g : Store → Rs D) (ρ : Env) (x : D) (S : Store) : Rt := rtE ρ (g S) (parJ i j ρ x)
theorem parK_eq (i j : Nat) (g : Store → Rs D) (x : D) : parK i j g ρ x S = rtE ρ (g S) (parJ i j ρ x) := rfl
theorem t_par (i j : Nat) (a b : E) : evT fu cl (.par i j a b) ρ S = rtE ρ ((ev3 cl a).v ρ S) (parK i j ((ev3 cl b).v ρ) ρ) := rfl
def par3H (i j k : Nat) (ρ : Env) (x y z : D) (S : Store) : Rt := some (.nx (((ρ.set i (some x)).set j (some y)).set k (some z)), S)
theorem par3H_eq (i j k : Nat) (x y z : D) : par3H i j k ρ x y z S = some (.nx (((ρ.set i (some x)).set j (some y)).set k (some z)), S) := rfl
def par3J (i j k : Nat) (h : Store → Rs D) (ρ : Env) (x y : D) (S : Store) : Rt := rtE ρ (h S) (par3H i j k ρ x y)
theorem par3J_eq (i j k : Nat) (h : Store → Rs D) (x y : D) : par3J i j k h ρ x y S = rtE ρ (h S) (par3H i j k ρ x y) := rfl
def par3K (i j k : Nat) (g h : Store → Rs D) (ρ : Env) (x : D) (S : Store) : Rt := rtE ρ (g S) (par3J i j k h ρ x)
theorem par3K_eq (i j k : Nat) (g h : Store → Rs D) (x : D) : par3K i j k g h ρ x S = rtE ρ (g S) (par3J i j k h ρ x) := rfl
theorem t_par3 (i j k : Nat) (a b c : E) : evT fu cl (.par3 i j k a b c) ρ S = rtE ρ ((ev3 cl a).v ρ S) (par3K i j k ((ev3 cl b).v ρ) ((ev3 cl c).v ρ) ρ) := rfl
def setH (ρ : Env) (d x y : D) (S : Store) : Rt := match x, y with
  | .ref n, .int k => match S[n]? with
    | some (.lst xs) => match ixN xs.length k with
      | some j => some (.nx ρ, S.set n (.lst (xs.set j d)))
      | none => none
    | _ => none
  | _, _ => none
theorem setH_ok {n : Nat} {k : Int} {xs : List D} {j : Nat} (d : D) (h : S[n]? = some (.lst xs)) (hj : ixN xs.length k = some j) : setH ρ d (.ref n) (.int k) S = some (.nx ρ, S.set n (.lst (xs.set j d))) := by
  simp only [setH, h, hj]
def setJ (i : Store → Rs D) (ρ : Env) (d x : D) (S : Store) : Rt := rtE ρ (i S) (setH ρ d x)
theorem setJ_eq (i : Store → Rs D) (d x : D) : setJ i ρ d x S = rtE ρ (i S) (setH ρ d x) := rfl
def setK (o i : Store → Rs D) (ρ : Env) (d : D) (S : Store) : Rt := rtE ρ (o S) (setJ i ρ d)
theorem setK_eq (o i : Store → Rs D) (d : D) : setK o i ρ d S = rtE ρ (o S) (setJ i ρ d) := rfl
theorem t_set (o i e : E) : evT fu cl (.set o i e) ρ S = rtE ρ ((ev3 cl e).v ρ S) (setK ((ev3 cl o).v ρ) ((ev3 cl i).v ρ) ρ) := by
  show rtE ρ _ (fun d S1 => rtE ρ _ fun x S2 => rtE ρ _ fun y S3 => _) = _
  refine congrArg _ (funext fun d => funext fun S1 => congrArg _ (funext fun x => funext fun S2 => congrArg _ (funext fun y => funext fun S3 => ?_)))
  unfold setH
  cases x <;> cases y <;> rfl
def expK (ρ : Env) (d : D) (S : Store) : Rt := some (.nx ρ, S)
theorem expK_eq (d : D) : expK ρ d S = some (.nx ρ, S) := rfl
theorem t_exp (e : E) : evT fu cl (.exp e) ρ S = rtE ρ ((ev3 cl e).v ρ S) (expK ρ) := rfl
def retK (d : D) (S : Store) : Rt := some (.rt d, S)
theorem retK_eq (d : D) : retK d S = some (.rt d, S) := rfl
theorem t_ret (e : E) : evT fu cl (.ret e) ρ S = rtE ρ ((ev3 cl e).v ρ S) retK := rfl
theorem t_retN : evT fu cl .retN ρ S = some (.rt .non, S) := rfl
def ifK (f g : Store → Rt) (k : Bool) (S : Store) : Rt := match k with
  | true => f S
  | false => g S
theorem ifK_t (f g : Store → Rt) : ifK f g true S = f S := rfl
theorem ifK_f (f g : Store → Rt) : ifK f g false S = g S := rfl
theorem t_if (c : E) (a b : Ts) : evT fu cl (.iff c a b) ρ S = rtE ρ ((ev3 cl c).b ρ S) (ifK (evTs fu cl a ρ) (evTs fu cl b ρ)) := rfl
theorem t_whl (c : E) (b : Ts) : evT fu cl (.whl c b) ρ S = loopW ((ev3 cl c).b) (evTs fu cl b) fu ρ S := rfl
def frB (fu : Nat) (cl : CallT) (tg : Tg) (b : Ts) (d : D) (ρ : Env) (S : Store) : Rt := match evTg tg d ρ with
  | none => none
  | some ρ2 => evTs fu cl b ρ2 S
def frJ (fu : Nat) (cl : CallT) (b : Ts) (o : Option Env) (S : Store) : Rt := match o with
  | none => none
  | some ρ2 => evTs fu cl b ρ2 S
theorem frB_eq (tg : Tg) (b : Ts) (d : D) : frB fu cl tg b d ρ S = frJ fu cl b (evTg tg d ρ) S := rfl
theorem frJ_eq (b : Ts) : frJ fu cl b (some ρ) S = evTs fu cl b ρ S := rfl
def frK (fu : Nat) (cl : CallT) (tg : Tg) (b : Ts) (ρ : Env) (src : Src) (S : Store) : Rt := loopF src (frB fu cl tg b) (src.len S) 0 ρ S
theorem frK_eq (tg : Tg) (b : Ts) (src : Src) : frK fu cl tg b ρ src S = loopF src (frB fu cl tg b) (src.len S) 0 ρ S := rfl
theorem t_fr (tg : Tg) (it : E) (b : Ts) : evT fu cl (.fr tg it b) ρ S = rtE ρ ((ev3 cl it).w ρ S) (frK fu cl tg b ρ) := rfl
theorem t_pas : evT fu cl .pas ρ S = some (.nx ρ, S) := rfl
theorem t_brk : evT fu cl .brk ρ S = some (.bk ρ, S) := rfl
theorem t_cnt : evT fu cl .cnt ρ S = some (.ct ρ, S) := rfl
/-- a call -/
theorem evC_eq {tab : Nat → Option Fd} {k f n : Nat} {b : Ts} {ds : List D} (h : tab f = some ⟨n, b⟩) : evC fu tab (k + 1) f ds S = bodyRs (evTs fu (evC fu tab k) b (startD n ds) S) := by
  show (match tab f with
      | some fd => bodyRs (evTs fu (evC fu tab k) fd.body (startD fd.slots ds) S)
      | none => .bad) = _
  rw [h]
theorem body_rt (d : D) : bodyRs (some (.rt d, S)) = .ok d S := rfl
theorem body_nx : bodyRs (some (.nx ρ, S)) = .ok .non S := rfl
theorem body_ex (x : Xc) : bodyRs (some (.ex x ρ, S)) = .exc x S := rfl

/-! #### operations -/
theorem mkTup_small {xs : List D} (h : xs.length ≤ 1000) : mkTup xs S = .ok (.tup xs) S := if_pos (Nat.le_trans h (by decide))
theorem alloc_small {xs : List D} (h : xs.length ≤ 1000) : alloc xs S = .ok (.ref S.length) (S ++ [.lst xs]) := if_pos (Nat.le_trans h (by decide))
theorem op_addI (i j : Int) : evBop .add (.int i) (.int j) S = .ok (.int (i + j)) S := rfl
theorem op_subI (i j : Int) : evBop .sub (.int i) (.int j) S = .ok (.int (i - j)) S := rfl
theorem op_mulI {i j : Int} (h : okMul i j = true) : evBop .mul (.int i) (.int j) S = .ok (.int (i * j)) S := if_pos h
theorem op_fdivI {i j : Int} (h : okDiv j = true) : evBop .fdiv (.int i) (.int j) S = .ok (.int (i.fdiv j)) S := if_pos h
theorem op_modI {i j : Int} (h : j ≠ 0) : evBop .mod (.int i) (.int j) S = .ok (.int (i.fmod j)) S := if_pos (decide_eq_true h)
theorem op_powI {i j : Int} (h : okPow i j = true) : evBop .pow (.int i) (.int j) S = .ok (.int (i ^ j.toNat)) S := if_pos h
theorem neg_I (i : Int) : evNeg (.int i) S = .ok (.int (-i)) S := rfl
theorem not_B (k : Bool) : evNot (.bl k) S = .ok (.bl (!k)) S := rfl
theorem cop_lt (i j : Int) : evCop .lt (.int i) (.int j) S = .ok (.bl (decide (i < j))) S := rfl
theorem cop_le (i j : Int) : evCop .le (.int i) (.int j) S = .ok (.bl (decide (i ≤ j))) S := rfl
theorem cop_gt (i j : Int) : evCop .gt (.int i) (.int j) S = .ok (.bl (decide (j < i))) S := rfl
theorem cop_ge (i j : Int) : evCop .ge (.int i) (.int j) S = .ok (.bl (decide (j ≤ i))) S := rfl
theorem cop_eq (x y : D) : evCop .eq x y S = ofOpt S (eqD S x y) := rfl
theorem cop_ne (x y : D) : evCop .ne x y S = ofOpt S ((eqD S x y).map (!·)) := rfl
theorem cop_isN (x : D) : evCop .isN x .non S = .ok (.bl (isNonD x)) S := rfl
theorem cop_notN (x : D) : evCop .notN x .non S = .ok (.bl (!isNonD x)) S := rfl
theorem cop_isB (a b : Bool) : evCop .isN (.bl a) (.bl b) S = .ok (.bl (decide (a = b))) S := rfl
theorem cop_notB (a b : Bool) : evCop .notN (.bl a) (.bl b) S = .ok (.bl (!decide (a = b))) S := rfl
theorem ofOpt_some (b : Bool) : ofOpt S (some b) = .ok (.bl b) S := rfl
theorem eqD_str (i j : Str) : eqD S (.str i) (.str j) = some (decide (i = j)) := rfl
theorem eqD_int (i j : Int) : eqD S (.int i) (.int j) = some (decide (i = j)) := by
  have e : eqD S (.int i) (.int j) = eqD0 S (.int i) (.int j) := eqD_old (by rintro ⟨a, b, h, _⟩; cases h)
  rw [e]
  simp [eqD0, toPy, SeqAt.shaped, PyData.eqv]
  exact ⟨⟨⟨rfl, by simp [PyData.depth]⟩, rfl, by simp [PyData.depth]⟩, by rw [Bool.beq_eq_decide_eq]⟩
theorem b1_lenT (xs : List D) : evB1 .len (.tup xs) S = .ok (.int xs.length) S := rfl
theorem b1_abs (i : Int) : evB1 .abs (.int i) S = .ok (.int (if i < 0 then -i else i)) S := rfl
theorem b1_intI (i : Int) : evB1 .int (.int i) S = .ok (.int i) S := rfl
theorem b1_intB (i : Bool) : evB1 .int (.bl i) S = .ok (.int (if i then 1 else 0)) S := rfl
theorem b1_tupL {n : Nat} {xs : List D} (h : S[n]? = some (.lst xs)) : evB1 .tuple (.ref n) S = .ok (.tup xs) S := by
  simp only [evB1, sq, h]
theorem b2_min (i j : Int) : evB2 .min (.int i) (.int j) S = .ok (.int (if j < i then j else i)) S := rfl
theorem b2_max (i j : Int) : evB2 .max (.int i) (.int j) S = .ok (.int (if j > i then j else i)) S := rfl
theorem isi_tup (xs : List D) (t : Ty) : evIsi (.tup xs) t S = .ok (.bl (decide (t = .tuple))) S := rfl
theorem isi_int (i : Int) (t : Ty) : evIsi (.int i) t S = .ok (.bl (decide (t = .int))) S := rfl
theorem isi_bl (i : Bool) (t : Ty) : evIsi (.bl i) t S = .ok (.bl (decide (t = .int) || decide (t = .bool))) S := rfl
theorem isi_str (i : Str) (t : Ty) : evIsi (.str i) t S = .ok (.bl (decide (t = .str))) S := rfl
def idxK (o : Option D) (S : Store) : Rs D := match o with
  | some d => .ok d S
  | none => .bad
theorem idxK_some (d : D) : idxK (some d) S = .ok d S := rfl
theorem idx_tup (xs : List D) (i : Int) : evIdx (.tup xs) (.int i) S = idxK (L2.atI xs i) S := by
  show (match L2.atI xs i with | some d => Rs.ok d S | none => .bad) = _
  unfold idxK
  cases L2.atI xs i <;> rfl
theorem idx_rol (xs : List D) (i : Int) : evIdx (.rol xs) (.int i) S = idxK (L2.atI xs i) S := by
  show (match L2.atI xs i with | some d => Rs.ok d S | none => .bad) = _
  unfold idxK
  cases L2.atI xs i <;> rfl
theorem idx_ref {n : Nat} {xs : List D} (h : S[n]? = some (.lst xs)) (i : Int) : evIdx (.ref n) (.int i) S = idxK (L2.atI xs i) S := by
  show (match sq S (.ref n) with | some xs => (match L2.atI xs i with | some d => Rs.ok d S | none => .bad) | none => .bad) = _
  have e : sq S (.ref n) = some xs := by simp only [sq, h]
  rw [e]
  unfold idxK
  dsimp only
theorem atI_nn {xs : List D} {i : Int} (h : 0 ≤ i) : L2.atI xs i = xs[i.toNat]? := by
  unfold L2.atI L2.ixN
  rw [if_pos h]
  split
  · rfl
  · rw [List.getElem?_eq_none (by omega)]; rfl
theorem atI_neg {xs : List D} {i : Int} (h : i < 0) (h2 : -(xs.length : Int) ≤ i) : L2.atI xs i = xs[(i + xs.length).toNat]? := by
  unfold L2.atI L2.ixN
  rw [if_neg (by omega), if_pos h2]; rfl
theorem atI_0 (a : D) (r : List D) : L2.atI (a :: r) 0 = some a := (atI_nn (by decide)).trans rfl
theorem atI_1 (a b : D) (r : List D) : L2.atI (a :: b :: r) 1 = some b := (atI_nn (by decide)).trans rfl
theorem atI_2 (a b c : D) (r : List D) : L2.atI (a :: b :: c :: r) 2 = some c := (atI_nn (by decide)).trans rfl
theorem atI_3 (a b c d : D) (r : List D) : L2.atI (a :: b :: c :: d :: r) 3 = some d := (atI_nn (by decide)).trans rfl
theorem atI_4 (a b c d e : D) (r : List D) : L2.atI (a :: b :: c :: d :: e :: r) 4 = some e := (atI_nn (by decide)).trans rfl
theorem atI_5 (a b c d e f : D) (r : List D) : L2.atI (a :: b :: c :: d :: e :: f :: r) 5 = some f := (atI_nn (by decide)).trans rfl
theorem atI_6 (a b c d e f g : D) (r : List D) : L2.atI (a :: b :: c :: d :: e :: f :: g :: r) 6 = some g := (atI_nn (by decide)).trans rfl
theorem atI_7 (a b c d e f g h : D) (r : List D) : L2.atI (a :: b :: c :: d :: e :: f :: g :: h :: r) 7 = some h := (atI_nn (by decide)).trans rfl
theorem atI_m1_1 (a : D) : L2.atI [a] (-1) = some a := (atI_neg (by decide) (by simp only [List.length_cons, List.length_nil]; decide)).trans rfl
theorem atI_m1_2 (a b : D) : L2.atI [a, b] (-1) = some b := (atI_neg (by decide) (by simp only [List.length_cons, List.length_nil]; decide)).trans rfl
theorem atI_m2_2 (a b : D) : L2.atI [a, b] (-2) = some a := (atI_neg (by decide) (by simp only [List.length_cons, List.length_nil]; decide)).trans rfl
theorem atI_m1_3 (a b c : D) : L2.atI [a, b, c] (-1) = some c := (atI_neg (by decide) (by simp only [List.length_cons, List.length_nil]; decide)).trans rfl
theorem atI_m2_3 (a b c : D) : L2.atI [a, b, c] (-2) = some b := (atI_neg (by decide) (by simp only [List.length_cons, List.length_nil]; decide)).trans rfl
theorem atI_m3_3 (a b c : D) : L2.atI [a, b, c] (-3) = some a := (atI_neg (by decide) (by simp only [List.length_cons, List.length_nil]; decide)).trans rfl
theorem atI_m1_4 (a b c d : D) : L2.atI [a, b, c, d] (-1) = some d := (atI_neg (by decide) (by simp only [List.length_cons, List.length_nil]; decide)).trans rfl
theorem atI_m2_4 (a b c d : D) : L2.atI [a, b, c, d] (-2) = some c := (atI_neg (by decide) (by simp only [List.length_cons, List.length_nil]; decide)).trans rfl
theorem atI_m3_4 (a b c d : D) : L2.atI [a, b, c, d] (-3) = some b := (atI_neg (by decide) (by simp only [List.length_cons, List.length_nil]; decide)).trans rfl
theorem atI_m1_5 (a b c d e : D) : L2.atI [a, b, c, d, e] (-1) = some e := (atI_neg (by decide) (by simp only [List.length_cons, List.length_nil]; decide)).trans rfl
theorem atI_m2_5 (a b c d e : D) : L2.atI [a, b, c, d, e] (-2) = some d := (atI_neg (by decide) (by simp only [List.length_cons, List.length_nil]; decide)).trans rfl
theorem atI_m3_5 (a b c d e : D) : L2.atI [a, b, c, d, e] (-3) = some c := (atI_neg (by decide) (by simp only [List.length_cons, List.length_nil]; decide)).trans rfl
theorem atI_m1_6 (a b c d e f : D) : L2.atI [a, b, c, d, e, f] (-1) = some f := (atI_neg (by decide) (by simp only [List.length_cons, List.length_nil]; decide)).trans rfl
theorem atI_m2_6 (a b c d e f : D) : L2.atI [a, b, c, d, e, f] (-2) = some e := (atI_neg (by decide) (by simp only [List.length_cons, List.length_nil]; decide)).trans rfl
theorem atI_m3_6 (a b c d e f : D) : L2.atI [a, b, c, d, e, f] (-3) = some d := (atI_neg (by decide) (by simp only [List.length_cons, List.length_nil]; decide)).trans rfl
theorem tg_nm (i : Nat) (d : D) : evTg (.nm i) d ρ = some (ρ.set i (some d)) := rfl
theorem tg_tp (ts : List Tg) (ds : List D) : evTg (.tp ts) (.tup ds) ρ = evTgs ts ds ρ := rfl
theorem tgs_nil : evTgs [] [] ρ = some ρ := rfl
def tgJ (ts : List Tg) (ds : List D) (o : Option Env) : Option Env := match o with
  | some ρ' => evTgs ts ds ρ'
  | none => none
theorem tgJ_some (ts : List Tg) (ds : List D) : tgJ ts ds (some ρ) = evTgs ts ds ρ := rfl
theorem tgs_cons (t : Tg) (ts : List Tg) (d : D) (ds : List D) : evTgs (t :: ts) (d :: ds) ρ = tgJ ts ds (evTg t d ρ) := by
  show (match evTg t d ρ with
      | some ρ' => evTgs ts ds ρ'
      | none => none) = _
  unfold tgJ
  cases evTg t d ρ <;> rfl
/-! #### turns over what is known -/
def turnK (g : Store → Rs D) (k : Bool) (S : Store) : Rs (Option D) := match k with
  | true => (g S).bnd fun y S4 => .ok (some y) S4
  | false => .ok none S
def yesK (y : D) (S : Store) : Rs (Option D) := .ok (some y) S
theorem yesK_eq (y : D) : yesK y S = .ok (some y) S := rfl
theorem turnK_t (g : Store → Rs D) : turnK g true S = (g S).bnd yesK := rfl
theorem turnK_f (g : Store → Rs D) : turnK g false S = .ok none S := rfl
def turnJ (fc : Env → Store → Rs Bool) (fe : Env → Store → Rs D) (o : Option Env) (S : Store) : Rs (Option D) := match o with
  | none => .bad
  | some ρ' => (fc ρ' S).bnd (turnK (fe ρ'))
theorem turnJ_some (fc : Env → Store → Rs Bool) (fe : Env → Store → Rs D) : turnJ fc fe (some ρ) S = (fc ρ S).bnd (turnK (fe ρ)) := rfl
theorem turnC_eq (own : List Nat) (tg : Tg) (fc : Env → Store → Rs Bool) (fe : Env → Store → Rs D) (d : D) : turnC own tg fc fe ρ d S = turnJ fc fe (evTg tg d (wipeD ρ own)) S := by
  unfold turnC turnJ
  cases evTg tg d (wipeD ρ own) with
  | none => rfl
  | some ρ' =>
    dsimp only
    cases fc ρ' S with
    | ok k S3 => cases k <;> rfl
    | exc _ _ => rfl
    | bad => rfl
theorem wipe_nil : wipeD ρ [] = ρ := rfl
theorem wipe_cons (v : Nat) (vs : List Nat) : wipeD ρ (v :: vs) = (wipeD ρ vs).set v none := rfl
def loopL (turn : D → Store → Rs (Option D)) : List D → List D → Store → Rs (List D)
  | [], acc, S => .ok acc S
  | d :: ds, acc, S => match turn d S with
    | .ok (some y) S' => if acc.length < sizeLine then loopL turn ds (acc ++ [y]) S' else .bad
    | .ok none S' => loopL turn ds acc S'
    | .exc _ _ => .bad
    | .bad => .bad
def loopK (turn : D → Store → Rs (Option D)) (ds acc : List D) (r : Rs (Option D)) : Rs (List D) := match r with
  | .ok (some y) S' => if acc.length < sizeLine then loopL turn ds (acc ++ [y]) S' else .bad
  | .ok none S' => loopL turn ds acc S'
  | .exc _ _ => .bad
  | .bad => .bad
theorem loopL_nil (turn : D → Store → Rs (Option D)) (acc : List D) : loopL turn [] acc S = .ok acc S := rfl
theorem loopL_cons (turn : D → Store → Rs (Option D)) (d : D) (ds acc : List D) : loopL turn (d :: ds) acc S = loopK turn ds acc (turn d S) := by
  unfold loopK
  rw [loopL]
theorem loopK_some (turn : D → Store → Rs (Option D)) (ds : List D) {acc : List D} (y : D) (h : acc.length ≤ 1000) : loopK turn ds acc (.ok (some y) S) = loopL turn ds (acc ++ [y]) S := if_pos (Nat.lt_of_le_of_lt h (by decide))
theorem loopK_none (turn : D → Store → Rs (Option D)) (ds acc : List D) : loopK turn ds acc (.ok none S) = loopL turn ds acc S := rfl
/-- what is walked does not change -/
def Fixed (src : Src) (xs : List D) : Prop := ∀ S i, src.there S = true ∧ src.at S i = xs[i]?
theorem loopC_fixed {src : Src} {xs : List D} (h : Fixed src xs) (turn : D → Store → Rs (Option D)) : ∀ (m i : Nat) (acc : List D) (S : Store), i + m = xs.length → loopC src turn m i acc S = loopL turn (xs.drop i) acc S
  | 0, i, acc, S, e => by
    obtain ⟨h1, h2⟩ := h S i
    have e1 : xs[i]? = none := List.getElem?_eq_none (by omega)
    rw [List.drop_eq_nil_of_le (by omega)]
    simp only [loopC, if_pos h1, h2, e1, loopL]
  | m + 1, i, acc, S, e => by
    obtain ⟨h1, h2⟩ := h S i
    have hi : i < xs.length := by omega
    have e1 : xs[i]? = some xs[i] := List.getElem?_eq_getElem hi
    rw [List.drop_eq_getElem_cons hi]
    simp only [loopC, if_pos h1, h2, e1, loopL]
    cases turn xs[i] S with
    | ok o S' =>
      cases o with
      | none => exact loopC_fixed h turn m (i + 1) acc S' (by omega)
      | some y =>
        dsimp only
        split
        · exact loopC_fixed h turn m (i + 1) _ S' (by omega)
        · rfl
    | exc _ _ => rfl
    | bad => rfl
theorem fixed_fix (xs : List D) : Fixed (.fix xs) xs := fun _ _ => ⟨rfl, rfl⟩
def zipD : List D → List D → List D
  | x :: xs, y :: ys => .tup [x, y] :: zipD xs ys
  | _, _ => []
theorem zipD_get : ∀ (xs ys : List D) (i : Nat), (zipD xs ys)[i]? = (match xs[i]?, ys[i]? with
      | some x, some y => some (.tup [x, y])
      | _, _ => none)
  | [], ys, i => by simp [zipD]
  | x :: xs, [], i => by simp [zipD]
  | x :: xs, y :: ys, 0 => by simp [zipD]
  | x :: xs, y :: ys, i + 1 => by simp [zipD, zipD_get xs ys i]
theorem fixed_zip (xs ys : List D) : Fixed (.zip (.tup xs) (.tup ys)) (zipD xs ys) := fun S i => ⟨rfl, by
  rw [zipD_get]
  show (match some xs, some ys with
    | some xs, some ys => match xs[i]?, ys[i]? with
      | some x, some y => some (D.tup [x, y])
      | _, _ => none
    | _, _ => none) = _
  rfl⟩
theorem zipD_len : ∀ (xs ys : List D), (zipD xs ys).length = min xs.length ys.length
  | [], ys => by simp [zipD]
  | x :: xs, [] => by simp [zipD]
  | x :: xs, y :: ys => by simp [zipD, zipD_len xs ys]
theorem zipD_nil (ys : List D) : zipD [] ys = [] := by simp [zipD]
theorem zipD_nil2 (xs : List D) : zipD xs [] = [] := by cases xs <;> simp [zipD]
theorem zipD_cons (x y : D) (xs ys : List D) : zipD (x :: xs) (y :: ys) = .tup [x, y] :: zipD xs ys := rfl
/-- lo, lo + 1, .. -/
def rngD : Int → Nat → List D
  | _, 0 => []
  | lo, n + 1 => .int lo :: rngD (lo + 1) n
theorem rngD_len : ∀ (lo : Int) (n : Nat), (rngD lo n).length = n
  | _, 0 => rfl
  | lo, n + 1 => by simp [rngD, rngD_len (lo + 1) n]
theorem rngD_get : ∀ (lo : Int) (n i : Nat), (rngD lo n)[i]? = if i < n then some (.int (lo + (i : Nat))) else none
  | lo, 0, i => by simp [rngD]
  | lo, n + 1, 0 => by simp [rngD]
  | lo, n + 1, i + 1 => by
    simp only [rngD, List.getElem?_cons_succ, rngD_get (lo + 1) n i, Nat.add_lt_add_iff_right]
    split
    · congr 2; omega
    · rfl
theorem fixed_rng (lo : Int) (n : Nat) : Fixed (.rng lo n) (rngD lo n) := fun S i => ⟨rfl, (rngD_get lo n i).symm⟩
theorem rngD_0 (lo : Int) : rngD lo 0 = [] := rfl
theorem rngD_s (lo : Int) (n : Nat) : rngD lo (n + 1) = .int lo :: rngD (lo + 1) n := rfl
theorem comp_fix (own : List Nat) (tg : Tg) (fc : Env → Store → Rs Bool) (fe : Env → Store → Rs D) (xs : List D) : compK own tg fc fe ρ (.fix xs) S = (loopL (turnC own tg fc fe ρ) xs [] S).bnd compE := by
  rw [compK_eq]
  rw [show Src.len S (.fix xs) = xs.length from rfl, loopC_fixed (fixed_fix xs) _ _ _ _ _ (by omega)]; rfl
theorem comp_zip (own : List Nat) (tg : Tg) (fc : Env → Store → Rs Bool) (fe : Env → Store → Rs D) (xs ys : List D) : compK own tg fc fe ρ (.zip (.tup xs) (.tup ys)) S = (loopL (turnC own tg fc fe ρ) (zipD xs ys) [] S).bnd compE := by
  rw [compK_eq]
  rw [show Src.len S (.zip (.tup xs) (.tup ys)) = (zipD xs ys).length from (zipD_len xs ys).symm, loopC_fixed (fixed_zip xs ys) _ _ _ _ _ (by omega)]; rfl
theorem comp_rng (own : List Nat) (tg : Tg) (fc : Env → Store → Rs Bool) (fe : Env → Store → Rs D) (lo : Int) (n : Nat) : compK own tg fc fe ρ (.rng lo n) S = (loopL (turnC own tg fc fe ρ) (rngD lo n) [] S).bnd compE := by
  rw [compK_eq]
  rw [show Src.len S (.rng lo n) = (rngD lo n).length from (rngD_len lo n).symm, loopC_fixed (fixed_rng lo n) _ _ _ _ _ (by omega)]; rfl
def forL (body : D → Env → Store → Rt) : List D → Env → Store → Rt
  | [], ρ, S => some (.nx ρ, S)
  | d :: ds, ρ, S => match body d ρ S with
    | some (.nx ρ', S') => forL body ds ρ' S'
    | some (.ct ρ', S') => forL body ds ρ' S'
    | some (.bk ρ', S') => some (.nx ρ', S')
    | some (.rt d, S') => some (.rt d, S')
    | some (.ex x ρ', S') => some (.ex x ρ', S')
    | none => none
def forK (body : D → Env → Store → Rt) (ds : List D) (r : Rt) : Rt := match r with
  | some (.nx ρ', S') => forL body ds ρ' S'
  | some (.ct ρ', S') => forL body ds ρ' S'
  | some (.bk ρ', S') => some (.nx ρ', S')
  | some (.rt d, S') => some (.rt d, S')
  | some (.ex x ρ', S') => some (.ex x ρ', S')
  | none => none
theorem forL_nil (body : D → Env → Store → Rt) : forL body [] ρ S = some (.nx ρ, S) := rfl
theorem forL_cons (body : D → Env → Store → Rt) (d : D) (ds : List D) : forL body (d :: ds) ρ S = forK body ds (body d ρ S) := by
  unfold forK
  rw [forL]
theorem forK_nx (body : D → Env → Store → Rt) (ds : List D) : forK body ds (some (.nx ρ, S)) = forL body ds ρ S := rfl
theorem forK_ct (body : D → Env → Store → Rt) (ds : List D) : forK body ds (some (.ct ρ, S)) = forL body ds ρ S := rfl
theorem forK_bk (body : D → Env → Store → Rt) (ds : List D) : forK body ds (some (.bk ρ, S)) = some (.nx ρ, S) := rfl
theorem forK_rt (body : D → Env → Store → Rt) (ds : List D) (d : D) : forK body ds (some (.rt d, S)) = some (.rt d, S) := rfl
theorem loopF_fixed {src : Src} {xs : List D} (h : Fixed src xs) (body : D → Env → Store → Rt) : ∀ (m i : Nat) (ρ : Env) (S : Store), i + m = xs.length → loopF src body m i ρ S = forL body (xs.drop i) ρ S
  | 0, i, ρ, S, e => by
    obtain ⟨h1, h2⟩ := h S i
    have e1 : xs[i]? = none := List.getElem?_eq_none (by omega)
    rw [List.drop_eq_nil_of_le (by omega)]
    simp only [loopF, if_pos h1, h2, e1, forL]
  | m + 1, i, ρ, S, e => by
    obtain ⟨h1, h2⟩ := h S i
    have hi : i < xs.length := by omega
    have e1 : xs[i]? = some xs[i] := List.getElem?_eq_getElem hi
    rw [List.drop_eq_getElem_cons hi]
    simp only [loopF, if_pos h1, h2, e1, forL]
    cases body xs[i] ρ S with
    | none => rfl
    | some p =>
      obtain ⟨f, S'⟩ := p
      cases f with
      | nx ρ' => exact loopF_fixed h body m (i + 1) ρ' S' (by omega)
      | ct ρ' => exact loopF_fixed h body m (i + 1) ρ' S' (by omega)
      | _ => rfl
theorem fr_fix (tg : Tg) (b : Ts) (xs : List D) : frK fu cl tg b ρ (.fix xs) S = forL (frB fu cl tg b) xs ρ S := by
  rw [frK_eq, show Src.len S (.fix xs) = xs.length from rfl, loopF_fixed (fixed_fix xs) _ _ _ _ _ (by omega)]; rfl
theorem fr_zip (tg : Tg) (b : Ts) (xs ys : List D) : frK fu cl tg b ρ (.zip (.tup xs) (.tup ys)) S = forL (frB fu cl tg b) (zipD xs ys) ρ S := by
  rw [frK_eq, show Src.len S (.zip (.tup xs) (.tup ys)) = (zipD xs ys).length from (zipD_len xs ys).symm, loopF_fixed (fixed_zip xs ys) _ _ _ _ _ (by omega)]; rfl
theorem fr_rng (tg : Tg) (b : Ts) (lo : Int) (n : Nat) : frK fu cl tg b ρ (.rng lo n) S = forL (frB fu cl tg b) (rngD lo n) ρ S := by
  rw [frK_eq, show Src.len S (.rng lo n) = (rngD lo n).length from (rngD_len lo n).symm, loopF_fixed (fixed_rng lo n) _ _ _ _ _ (by omega)]; rfl
theorem rng1_eq {j : Int} (h1 : -(2 ^ 62) ≤ j) (h2 : j < 2 ^ 62) : evRng1 (.int j) S = .ok (.rng 0 j.toNat) S := if_pos (by rw [decide_eq_true h1, decide_eq_true h2]; rfl)
theorem all_new (xs : List D) : evB1 .all (.ref S.length) (S ++ [.lst xs]) = (match blsOf xs with
    | some bs => .ok (.bl (bs.all id)) (S ++ [.lst xs])
    | none => .bad) := by
  simp only [evB1, isSeqL, sq, List.getElem?_concat_length, if_true, Option.bind_some]
  all_goals (cases blsOf xs <;> rfl)
theorem all_newT {xs : List D} {bs : List Bool} (h : blsOf xs = some bs) : evB1 .all (.ref S.length) (S ++ [.lst xs]) = .ok (.bl (bs.all id)) (S ++ [.lst xs]) := by
  rw [all_new, h]
theorem tup_new (xs : List D) : evB1 .tuple (.ref S.length) (S ++ [.lst xs]) = .ok (.tup xs) (S ++ [.lst xs]) := by
  simp only [evB1, sq, List.getElem?_concat_length]
def allK (o : Option (List Bool)) (S : Store) : Rs D := match o with
  | some bs => .ok (.bl (bs.all id)) S
  | none => .bad
theorem allK_some (bs : List Bool) : allK (some bs) S = .ok (.bl (bs.all id)) S := rfl
theorem all_newK (xs : List D) : evB1 .all (.ref S.length) (S ++ [.lst xs]) = allK (blsOf xs) (S ++ [.lst xs]) := by
  rw [all_new]
  unfold allK
  cases blsOf xs <;> rfl
theorem bls_nil : blsOf [] = some [] := rfl
theorem bls_cons (b : Bool) (r : List D) : blsOf (.bl b :: r) = (blsOf r).map (b :: ·) := rfl
/-! #### lists of the store -/
def idxS (o : Option SO) (i : Int) (S : Store) : Rs D := match o with
  | some (.lst xs) => idxK (L2.atI xs i) S
  | _ => .bad
theorem idxS_some (xs : List D) (i : Int) : idxS (some (.lst xs)) i S = idxK (L2.atI xs i) S := rfl
theorem idx_R (n : Nat) (i : Int) : evIdx (.ref n) (.int i) S = idxS S[n]? i S := by
  cases h : S[n]? with
  | none => simp [evIdx, sq, h, idxS]
  | some o =>
    cases o with
    | lst xs => rw [idx_ref h]; rfl
    | ins c fs => simp [evIdx, sq, h, idxS]
def setX (ρ : Env) (n : Nat) (xs : List D) (d : D) (o : Option Nat) (S : Store) : Rt := match o with
  | some j => some (.nx ρ, S.set n (.lst (xs.set j d)))
  | none => none
theorem setX_some (n : Nat) (xs : List D) (d : D) (j : Nat) : setX ρ n xs d (some j) S = some (.nx ρ, S.set n (.lst (xs.set j d))) := rfl
def setS (ρ : Env) (n : Nat) (d : D) (o : Option SO) (k : Int) (S : Store) : Rt := match o with
  | some (.lst xs) => setX ρ n xs d (ixN xs.length k) S
  | _ => none
theorem setS_some (n : Nat) (xs : List D) (d : D) (k : Int) : setS ρ n d (some (.lst xs)) k S = setX ρ n xs d (ixN xs.length k) S := rfl
theorem setH_R (n : Nat) (d : D) (k : Int) : setH ρ d (.ref n) (.int k) S = setS ρ n d S[n]? k S := by
  cases h : S[n]? with
  | none => simp only [setH, h, setS]
  | some o =>
    cases o with
    | lst xs =>
      cases h2 : ixN xs.length k with
      | none => simp only [setH, h, setS, setX, h2]
      | some j => simp only [setH, h, setS, setX, h2]
    | ins c fs => simp only [setH, h, setS]
def lenS (o : Option SO) (S : Store) : Rs D := match o with
  | some (.lst xs) => .ok (.int xs.length) S
  | _ => .bad
theorem lenS_some (xs : List D) : lenS (some (.lst xs)) S = .ok (.int xs.length) S := rfl
theorem len_R (n : Nat) : evB1 .len (.ref n) S = lenS S[n]? S := by
  cases h : S[n]? with
  | none => simp [evB1, sq, h, lenS]
  | some o => cases o with
    | lst xs => simp [evB1, sq, h, lenS]
    | ins c fs => simp [evB1, sq, h, lenS]
theorem len_rol (xs : List D) : evB1 .len (.rol xs) S = .ok (.int xs.length) S := rfl
def tupS (o : Option SO) (S : Store) : Rs D := match o with
  | some (.lst xs) => .ok (.tup xs) S
  | _ => .bad
theorem tupS_some (xs : List D) : tupS (some (.lst xs)) S = .ok (.tup xs) S := rfl
theorem tup_R (n : Nat) : evB1 .tuple (.ref n) S = tupS S[n]? S := by
  cases h : S[n]? with
  | none => simp [evB1, sq, h, tupS]
  | some o => cases o with
    | lst xs => simp [evB1, sq, h, tupS]
    | ins c fs => simp [evB1, sq, h, tupS]
def allS (o : Option SO) (S : Store) : Rs D := match o with
  | some (.lst xs) => allK (blsOf xs) S
  | _ => .bad
theorem allS_some (xs : List D) : allS (some (.lst xs)) S = allK (blsOf xs) S := rfl
theorem all_R (n : Nat) : evB1 .all (.ref n) S = allS S[n]? S := by
  cases h : S[n]? with
  | none => simp [evB1, sq, h, allS, isSeqL]
  | some o =>
    cases o with
    | lst xs =>
      simp only [evB1, sq, h, allS, isSeqL, if_true, Option.bind_some]
      unfold allK
      cases blsOf xs <;> rfl
    | ins c fs => simp [evB1, sq, h, allS, isSeqL]
def srcS (n : Nat) (o : Option SO) (S : Store) : Rs Src := match o with
  | some (.lst _) => .ok (.live n) S
  | _ => .bad
theorem srcS_some (n : Nat) (xs : List D) : srcS n (some (.lst xs)) S = .ok (.live n) S := rfl
theorem src_R (n : Nat) : srcK (.ref n) S = srcS n S[n]? S := by
  cases h : S[n]? with
  | none => simp [srcK, toSrc, h, srcS, isL]
  | some o => cases o <;> simp [srcK, toSrc, h, srcS, isL]
def appX (n : Nat) (d : D) (o : Option SO) (S : Store) : Rs D := match o with
  | some (.lst xs) => if xs.length < sizeLine then .ok .non (S.set n (.lst (xs ++ [d]))) else .bad
  | _ => .bad
theorem appX_some (n : Nat) (d : D) {xs : List D} (h : xs.length ≤ 1000) : appX n d (some (.lst xs)) S = .ok .non (S.set n (.lst (xs ++ [d]))) := if_pos (Nat.lt_of_le_of_lt h (by decide))
theorem app_R (n : Nat) (d : D) : evM1 .append (.ref n) d S = appX n d S[n]? S := by
  cases h : S[n]? with
  | none => simp [evM1, h, appX]
  | some o => cases o with
    | lst xs => simp [evM1, h, appX]
    | ins c fs => simp [evM1, h, appX]
def m1S (g : Store → Rs D) (n : Nat) (o : Option SO) (S : Store) : Rs D := match o with
  | some (.lst _) => (g S).bnd (evM1 .append (.ref n))
  | _ => .bad
theorem m1S_some (g : Store → Rs D) (n : Nat) (xs : List D) : m1S g n (some (.lst xs)) S = (g S).bnd (evM1 .append (.ref n)) := rfl
theorem m1J_R (g : Store → Rs D) (n : Nat) : m1J .append g (.ref n) S = m1S g n S[n]? S := by
  cases h : S[n]? with
  | none => simp [m1J, okM1, isLst, h, m1S]
  | some o => cases o with
    | lst xs => simp [m1J, okM1, isLst, h, m1S]
    | ins c fs => simp [m1J, okM1, isLst, h, m1S]
theorem at_new (o : SO) : (S ++ [o])[S.length]? = some o := List.getElem?_concat_length
/-! #### keywords -/
def callP (cl : CallT) (f : Nat) (o : Option (List D)) (S : Store) : Rs D := match o with
  | some ds => cl f ds S
  | none => .bad
theorem callP_some (f : Nat) (ds : List D) : callP cl f (some ds) S = cl f ds S := rfl
def permL : List Nat → List D → Option (List D)
  | [], _ => some []
  | i :: p, ds => (ds[i]?).bind fun d => (permL p ds).map (d :: ·)
theorem permL_eq : ∀ (p : List Nat) (ds : List D), (p.mapM fun i => ds[i]?) = permL p ds
  | [], ds => by simp [permL]
  | i :: p, ds => by
    rw [List.mapM_cons, permL_eq p ds, permL]
    cases ds[i]? with
    | none => rfl
    | some d => cases permL p ds <;> rfl
def permC (o : Option D) (r : Option (List D)) : Option (List D) := match o, r with
  | some d, some r => some (d :: r)
  | _, _ => none
theorem permC_some (d : D) (r : List D) : permC (some d) (some r) = some (d :: r) := rfl
theorem permL_nil (ds : List D) : permL [] ds = some [] := rfl
theorem permL_cons (i : Nat) (p : List Nat) (ds : List D) : permL (i :: p) ds = permC ds[i]? (permL p ds) := by
  rw [permL]
  unfold permC
  cases ds[i]? with
  | none => rfl
  | some d => cases permL p ds <;> rfl
theorem callJ_perm (f : Nat) (p : List Nat) (ds ws : List D) : callJ cl f (some p) ds ws S = callP cl f (permL p (ds ++ ws)) S := by
  show evCall cl f (some p) (ds ++ ws) S = _
  unfold evCall permute callP
  dsimp only
  rw [permL_eq]
  all_goals (cases permL p (ds ++ ws) <;> rfl)
end
/-! #### turns over a list of the store -/
section
variable {cl : CallT} {ρ : Env} {S : Store} {fu : Nat}
def lenL (o : Option SO) : Nat := match o with
  | some (.lst xs) => xs.length
  | _ => 0
theorem lenL_some (xs : List D) : lenL (some (.lst xs)) = xs.length := rfl
theorem len_live (n : Nat) : Src.len S (.live n) = lenL S[n]? := by
  cases h : S[n]? with
  | none => simp only [Src.len, h, lenL]
  | some o => cases o with
    | lst xs => simp only [Src.len, h, lenL]
    | ins c fs => simp only [Src.len, h, lenL]
def liveH (turn : D → Store → Rs (Option D)) (n m i : Nat) (acc : List D) (r : Rs (Option D)) : Rs (List D) := match r with
  | .ok (some y) S' => if acc.length < sizeLine then loopC (.live n) turn m i (acc ++ [y]) S' else .bad
  | .ok none S' => loopC (.live n) turn m i acc S'
  | .exc _ _ => .bad
  | .bad => .bad
def liveJ (turn : D → Store → Rs (Option D)) (n m i : Nat) (acc : List D) (o : Option D) (S : Store) : Rs (List D) := match o with
  | none => .ok acc S
  | some d => match m with
    | 0 => .bad
    | m + 1 => liveH turn n m (i + 1) acc (turn d S)
def liveK (turn : D → Store → Rs (Option D)) (n m i : Nat) (acc : List D) (o : Option SO) (S : Store) : Rs (List D) := match o with
  | some (.lst xs) => liveJ turn n m i acc xs[i]? S
  | _ => .bad
theorem live_eq (turn : D → Store → Rs (Option D)) (n m i : Nat) (acc : List D) : loopC (.live n) turn m i acc S = liveK turn n m i acc S[n]? S := by
  cases m with
  | zero =>
    cases h : S[n]? with
    | none => simp [loopC, Src.there, h, liveK, isL]
    | some o =>
      cases o with
      | lst xs =>
        cases h2 : xs[i]? with
        | none => simp [loopC, Src.there, Src.at, h, liveK, liveJ, h2, isL]
        | some d => simp [loopC, Src.there, Src.at, h, liveK, liveJ, h2, isL]
      | ins c fs => simp [loopC, Src.there, h, liveK, isL]
  | succ m =>
    cases h : S[n]? with
    | none => simp [loopC, Src.there, h, liveK, isL]
    | some o =>
      cases o with
      | lst xs =>
        cases h2 : xs[i]? with
        | none => simp [loopC, Src.there, Src.at, h, liveK, liveJ, h2, isL]
        | some d =>
          simp only [loopC, Src.there, Src.at, h, liveK, liveJ, h2, liveH, isL, if_true]
          all_goals (
            cases turn d S with
            | ok o S' => cases o <;> rfl
            | exc _ _ => rfl
            | bad => rfl)
      | ins c fs => simp [loopC, Src.there, h, liveK, isL]
theorem liveK_some (turn : D → Store → Rs (Option D)) (n m i : Nat) (acc xs : List D) : liveK turn n m i acc (some (.lst xs)) S = liveJ turn n m i acc xs[i]? S := rfl
theorem liveJ_none (turn : D → Store → Rs (Option D)) (n m i : Nat) (acc : List D) : liveJ turn n m i acc none S = .ok acc S := rfl
theorem liveJ_some (turn : D → Store → Rs (Option D)) (n m i : Nat) (acc : List D) (d : D) : liveJ turn n (m + 1) i acc (some d) S = liveH turn n m (i + 1) acc (turn d S) := rfl
theorem liveH_some (turn : D → Store → Rs (Option D)) (n m i : Nat) {acc : List D} (y : D) (h : acc.length ≤ 1000) : liveH turn n m i acc (.ok (some y) S) = loopC (.live n) turn m i (acc ++ [y]) S := if_pos (Nat.lt_of_le_of_lt h (by decide))
theorem liveH_none (turn : D → Store → Rs (Option D)) (n m i : Nat) (acc : List D) : liveH turn n m i acc (.ok none S) = loopC (.live n) turn m i acc S := rfl
theorem comp_live (own : List Nat) (tg : Tg) (fc : Env → Store → Rs Bool) (fe : Env → Store → Rs D) (n : Nat) : compK own tg fc fe ρ (.live n) S = (loopC (.live n) (turnC own tg fc fe ρ) (lenL S[n]?) 0 [] S).bnd compE := by
  rw [compK_eq, len_live]
def liveFH (body : D → Env → Store → Rt) (n m i : Nat) (r : Rt) : Rt := match r with
  | some (.nx ρ', S') => loopF (.live n) body m i ρ' S'
  | some (.ct ρ', S') => loopF (.live n) body m i ρ' S'
  | some (.bk ρ', S') => some (.nx ρ', S')
  | some (.rt d, S') => some (.rt d, S')
  | some (.ex x ρ', S') => some (.ex x ρ', S')
  | none => none
def liveFJ (body : D → Env → Store → Rt) (n m i : Nat) (ρ : Env) (o : Option D) (S : Store) : Rt := match o with
  | none => some (.nx ρ, S)
  | some d => match m with
    | 0 => none
    | m + 1 => liveFH body n m (i + 1) (body d ρ S)
def liveFK (body : D → Env → Store → Rt) (n m i : Nat) (ρ : Env) (o : Option SO) (S : Store) : Rt := match o with
  | some (.lst xs) => liveFJ body n m i ρ xs[i]? S
  | _ => none
theorem liveF_eq (body : D → Env → Store → Rt) (n m i : Nat) : loopF (.live n) body m i ρ S = liveFK body n m i ρ S[n]? S := by
  cases m with
  | zero =>
    cases h : S[n]? with
    | none => simp [loopF, Src.there, h, liveFK, isL]
    | some o =>
      cases o with
      | lst xs =>
        cases h2 : xs[i]? with
        | none => simp [loopF, Src.there, Src.at, h, liveFK, liveFJ, h2, isL]
        | some d => simp [loopF, Src.there, Src.at, h, liveFK, liveFJ, h2, isL]
      | ins c fs => simp [loopF, Src.there, h, liveFK, isL]
  | succ m =>
    cases h : S[n]? with
    | none => simp [loopF, Src.there, h, liveFK, isL]
    | some o =>
      cases o with
      | lst xs =>
        cases h2 : xs[i]? with
        | none => simp [loopF, Src.there, Src.at, h, liveFK, liveFJ, h2, isL]
        | some d =>
          simp only [loopF, Src.there, Src.at, h, liveFK, liveFJ, h2, liveFH, isL, if_true]
          all_goals (
            cases body d ρ S with
            | none => rfl
            | some p =>
              obtain ⟨f, S'⟩ := p
              cases f <;> rfl)
      | ins c fs => simp [loopF, Src.there, h, liveFK, isL]
theorem liveFK_some (body : D → Env → Store → Rt) (n m i : Nat) (xs : List D) : liveFK body n m i ρ (some (.lst xs)) S = liveFJ body n m i ρ xs[i]? S := rfl
theorem liveFJ_none (body : D → Env → Store → Rt) (n m i : Nat) : liveFJ body n m i ρ none S = some (.nx ρ, S) := rfl
theorem liveFJ_some (body : D → Env → Store → Rt) (n m i : Nat) (d : D) : liveFJ body n (m + 1) i ρ (some d) S = liveFH body n m (i + 1) (body d ρ S) := rfl
theorem liveFH_nx (body : D → Env → Store → Rt) (n m i : Nat) : liveFH body n m i (some (.nx ρ, S)) = loopF (.live n) body m i ρ S := rfl
theorem liveFH_ct (body : D → Env → Store → Rt) (n m i : Nat) : liveFH body n m i (some (.ct ρ, S)) = loopF (.live n) body m i ρ S := rfl
theorem liveFH_bk (body : D → Env → Store → Rt) (n m i : Nat) : liveFH body n m i (some (.bk ρ, S)) = some (.nx ρ, S) := rfl
theorem liveFH_rt (body : D → Env → Store → Rt) (n m i : Nat) (d : D) : liveFH body n m i (some (.rt d, S)) = some (.rt d, S) := rfl
theorem fr_live (tg : Tg) (b : Ts) (n : Nat) : frK fu cl tg b ρ (.live n) S = loopF (.live n) (frB fu cl tg b) (lenL S[n]?) 0 ρ S := by
  rw [frK_eq, len_live]
theorem nil_get (i : Nat) : ([] : List D)[i]? = none := rfl
end
/-! #### stores that grow -/
/-- all that was there stands -/
structure Gr (S S' : Store) : Prop where
  len : S.length ≤ S'.length
  at_ : ∀ i, i < S.length → S'[i]? = S[i]?
theorem Gr.refl (S : Store) : Gr S S := ⟨Nat.le_refl _, fun _ _ => rfl⟩
theorem Gr.trans {S S1 S2 : Store} (a : Gr S S1) (b : Gr S1 S2) : Gr S S2 := ⟨Nat.le_trans a.len b.len, fun i h => (b.at_ i (Nat.lt_of_lt_of_le h a.len)).trans (a.at_ i h)⟩
theorem Gr.app (S J : Store) : Gr S (S ++ J) := ⟨by simp, fun i h => List.getElem?_append_left h⟩
theorem Gr.get {S S' : Store} {i : Nat} {o : SO} (g : Gr S S') (h : S[i]? = some o) : S'[i]? = some o := by
  rw [g.at_ i (List.getElem?_eq_some_iff.mp h).1]; exact h
/-- a change behind what was there -/
theorem Gr.set {S S' : Store} (g : Gr S S') {j : Nat} (h : S.length ≤ j) (o : SO) : Gr S (S'.set j o) := ⟨by rw [List.length_set]; exact g.len, fun i hi => by rw [List.getElem?_set_ne (by omega)]; exact g.at_ i hi⟩
theorem Gr.of {r : Rs D} {d : D} {S : Store} (h : ∃ J, r = .ok d (S ++ J)) : ∃ S', r = .ok d S' ∧ Gr S S' := by
  obtain ⟨J, e⟩ := h
  exact ⟨_, e, Gr.app S J⟩
def Ap (S S' : Store) : Prop := ∃ J, S' = S ++ J
theorem Ap.refl (S : Store) : Ap S S := ⟨[], by simp⟩
theorem Ap.app {S S1 : Store} (h : Ap S S1) (J : Store) : Ap S (S1 ++ J) := by
  obtain ⟨K, rfl⟩ := h
  exact ⟨K ++ J, by rw [List.append_assoc]⟩
theorem Ap.trans {S S1 S2 : Store} (h : Ap S S1) (k : Ap S1 S2) : Ap S S2 := by
  obtain ⟨J, rfl⟩ := k
  exact h.app J
theorem Ap.of {r : Store → Rs D} {d : D} (h : ∀ S, ∃ S', r S = .ok d S' ∧ Ap S S') (S : Store) : ∃ J, r S = .ok d (S ++ J) := by
  obtain ⟨S', e, J, rfl⟩ := h S
  exact ⟨J, e⟩
theorem Ap.gr {S S' : Store} (h : Ap S S') : Gr S S' := by
  obtain ⟨J, rfl⟩ := h
  exact Gr.app S J
/-- as a rule of rewriting -/
theorem skl {r : Store → Rs D} {d : D} (h : ∀ S, ∃ J, r S = .ok d (S ++ J)) : ∃ J : Store → Store, ∀ S, r S = .ok d (S ++ J S) :=
  ⟨fun S => Classical.choose (h S), fun S => Classical.choose_spec (h S)⟩
end Cw
namespace Cw
open PySem PySem.Spec PyProof.Rows L2

/-- _law_cells(script, most): 0=script 1=most -/
def tr_1 : Ts := (.cons (.ret (.b1 .lrange (.b2 .max (.cst (.int 1)) (.b2 .min (.var 1) (.b1 .len (.var 0)))))) .nil)
def fd_1 : Fd := ⟨2, tr_1⟩
/-- own_square(one, other): 0=one 1=other 2=along 3=across -/
def tr_4 : Ts := (.cons (.exp (.call 16 (.cons (.var 0) .nil) .nil none)) (.cons (.exp (.call 16 (.cons (.var 1) .nil) .nil none)) (.cons (.iff (.not (.call 15 (.cons (.var 0) (.cons (.var 1) .nil)) .nil none)) (.cons .nev .nil) .nil) (.cons (.asgT (.tp [(.nm 2), (.nm 3)]) (.call 14 (.cons (.var 0) (.cons (.var 1) .nil)) .nil none)) (.cons (.ret (.call 13 (.cons (.var 2) (.cons (.var 3) .nil)) .nil none)) .nil)))))
def fd_4 : Fd := ⟨4, tr_4⟩
/-- _law_frac_times(one, other): 0=one 1=other -/
def tr_5 : Ts := (.cons (.ret (.call 17 (.cons (.bin .mul (.idx (.var 0) (.cst (.int 0))) (.idx (.var 1) (.cst (.int 0)))) (.cons (.bin .mul (.idx (.var 0) (.cst (.int 1))) (.idx (.var 1) (.cst (.int 1)))) .nil)) .nil none)) .nil)
def fd_5 : Fd := ⟨2, tr_5⟩
/-- _law_are_sums_right(event, pace, other_pace, by): 0=event 1=pace 2=other_pace 3=by 4=back 5=contrary 6=top 7=bottom -/
def tr_6 : Ts := (.cons (.iff (.cmp .ne (.b1 .repr (.call 18 .nil (.cons (.var 0) (.cons (.var 1) .nil)) (some [0, 1]))) (.b1 .repr (.call 22 (.cons (.var 0) (.cons (.var 1) .nil)) .nil none))) (.cons (.ret (.cst (.bl false))) .nil) .nil) (.cons (.iff (.cmp .ne (.b1 .repr (.call 18 (.cons (.call 18 (.cons (.var 0) (.cons (.var 1) .nil)) .nil none) (.cons (.var 2) .nil)) .nil none)) (.b1 .repr (.call 22 (.cons (.var 0) (.cons (.call 5 (.cons (.var 1) (.cons (.var 2) .nil)) .nil none) .nil)) .nil none))) (.cons (.ret (.cst (.bl false))) .nil) .nil) (.cons (.iff (.cmp .ne (.b1 .repr (.call 20 .nil (.cons (.var 3) (.cons (.var 0) .nil)) (some [1, 0]))) (.b1 .repr (.call 21 (.cons (.var 0) (.cons (.var 3) .nil)) .nil none))) (.cons (.ret (.cst (.bl false))) .nil) .nil) (.cons (.iff (.or (.cmp .ne (.b1 .repr (.call 19 (.cons (.var 0) .nil) .nil none)) (.b1 .repr (.tup (.cons (.idx (.var 0) (.cst (.int 1))) (.cons (.idx (.var 0) (.cst (.int 0))) .nil))))) (.cmp .ne (.b1 .repr (.call 19 .nil (.cons (.call 19 (.cons (.var 0) .nil) .nil none) .nil) (some [0]))) (.b1 .repr (.var 0)))) (.cons (.ret (.cst (.bl false))) .nil) .nil) (.cons (.asg 4 (.b1 .tuple (.comp [6, 7] (.tp [(.nm 6), (.nm 7)]) (.var 3) .none (.call 17 (.cons (.neg (.var 6)) (.cons (.var 7) .nil)) .nil none)))) (.cons (.iff (.cmp .ne (.b1 .repr (.call 20 (.cons (.call 20 (.cons (.var 0) (.cons (.var 3) .nil)) .nil none) (.cons (.var 4) .nil)) .nil none)) (.b1 .repr (.var 0))) (.cons (.ret (.cst (.bl false))) .nil) .nil) (.cons (.asg 5 (.tup (.cons (.idx (.var 1) (.cst (.int 1))) (.cons (.idx (.var 1) (.cst (.int 0))) .nil)))) (.cons (.iff (.cmp .ne (.b1 .repr (.call 19 (.cons (.call 18 (.cons (.var 0) (.cons (.var 1) .nil)) .nil none) .nil) .nil none)) (.b1 .repr (.call 18 (.cons (.call 19 (.cons (.var 0) .nil) .nil none) (.cons (.var 5) .nil)) .nil none))) (.cons (.ret (.cst (.bl false))) .nil) .nil) (.cons (.ret (.cmp .eq (.b1 .repr (.call 18 (.cons (.var 0) (.cons (.tup (.cons (.cst (.int 1)) (.cons (.cst (.int 1)) .nil))) .nil)) .nil none)) (.b1 .repr (.var 0)))) .nil)))))))))
def fd_6 : Fd := ⟨8, tr_6⟩
/-- _law_pace_wide(pot): 0=pot 1=most -/
def tr_7 : Ts := (.cons (.asg 1 (.call 24 (.cons (.var 0) (.cons (.lst (.cons (.cst (.int 100)) (.cons (.bin .pow (.cst (.int 10)) (.cst (.int 11))) .nil))) .nil)) .nil none)) (.cons (.ret (.call 17 (.cons (.bin .add (.cst (.int 1)) (.call 23 (.cons (.var 0) (.cons (.var 1) .nil)) .nil none)) (.cons (.bin .add (.cst (.int 1)) (.call 23 (.cons (.var 0) (.cons (.call 24 (.cons (.var 0) (.cons (.lst (.cons (.cst (.int 100)) (.cons (.bin .pow (.cst (.int 10)) (.cst (.int 11))) .nil))) .nil)) .nil none) .nil)) .nil none)) .nil)) .nil none)) .nil))
def fd_7 : Fd := ⟨2, tr_7⟩
/-- _law_event_more(one, other): 0=one 1=other 2=here 3=later -/
def tr_8 : Ts := (.cons (.ret (.b1 .tuple (.comp [2, 3] (.tp [(.nm 2), (.nm 3)]) (.zipV (.var 0) (.var 1)) .none (.call 25 (.cons (.var 3) (.cons (.var 2) .nil)) .nil none)))) .nil)
def fd_8 : Fd := ⟨4, tr_8⟩
/-- _law_event_wide(pot): 0=pot 1=found 2=lap 3=top -/
def tr_9 : Ts := (.cons (.asg 1 (.lst .nil)) (.cons (.fr (.nm 2) (.rngV (.cst (.int 2))) (.cons (.asg 3 (.bin .sub (.call 23 (.cons (.var 0) (.cons (.bin .mul (.cst (.int 2)) (.bin .pow (.cst (.int 10)) (.cst (.int 11)))) .nil)) .nil none) (.bin .pow (.cst (.int 10)) (.cst (.int 11))))) (.cons (.exp (.m1 .append (.var 1) (.call 17 (.cons (.var 3) (.cons (.call 24 (.cons (.var 0) (.cons (.lst (.cons (.cst (.int 1)) (.cons (.cst (.int 7)) (.cons (.cst (.int 99)) (.cons (.cst (.int 999983)) (.cons (.bin .add (.bin .pow (.cst (.int 10)) (.cst (.int 11))) (.cst (.int 3))) (.cons (.bin .add (.cst (.int 1)) (.call 23 (.cons (.var 0) (.cons (.bin .pow (.cst (.int 10)) (.cst (.int 6))) .nil)) .nil none)) .nil))))))) .nil)) .nil none) .nil)) .nil none))) .nil))) (.cons (.ret (.b1 .tuple (.var 1))) .nil)))
def fd_9 : Fd := ⟨4, tr_9⟩
/-- _law_are_squares_right(pot, event, pace, by): 0=pot 1=event 2=pace 3=by 4=lap 5=more 6=due 7=pairs 8=edge 9=steps 10=last 11=one 12=other -/
def tr_10 : Ts := (.cons (.par 9 10 (.lst .nil) (.var 1)) (.cons (.fr (.nm 4) (.rngV (.bin .add (.cst (.int 1)) (.call 23 (.cons (.var 0) (.cons (.cst (.int 3)) .nil)) .nil none))) (.cons (.exp (.m1 .append (.var 9) (.tup (.cons (.call 11 (.cons (.var 0) .nil) .nil none) (.cons (.call 28 (.cons (.var 0) .nil) .nil none) .nil))))) (.cons (.asg 10 (.call 27 (.cons (.var 10) (.cons (.idx (.idx (.var 9) (.neg (.cst (.int 1)))) (.cst (.int 0))) (.cons (.idx (.idx (.var 9) (.neg (.cst (.int 1)))) (.cst (.int 1))) .nil))) .nil none)) .nil))) (.cons (.asg 5 (.call 8 (.cons (.var 1) (.cons (.var 10) .nil)) .nil none)) (.cons (.asg 6 (.call 5 (.cons (.idx (.var 5) (.cst (.int 0))) (.cons (.idx (.var 5) (.cst (.int 1))) .nil)) .nil none)) (.cons (.iff (.cmp .ne (.b1 .repr (.call 4 .nil (.cons (.var 1) (.cons (.var 10) .nil)) (some [0, 1]))) (.b1 .repr (.var 6))) (.cons (.ret (.cst (.bl false))) .nil) .nil) (.cons (.asg 7 (.lst (.cons (.tup (.cons (.call 22 (.cons (.var 1) (.cons (.var 2) .nil)) .nil none) (.cons (.call 22 (.cons (.var 10) (.cons (.var 2) .nil)) .nil none) .nil))) (.cons (.tup (.cons (.rev (.var 1)) (.cons (.rev (.var 10)) .nil))) .nil)))) (.cons (.exp (.m1 .append (.var 7) (.tup (.cons (.call 21 (.cons (.var 1) (.cons (.var 3) .nil)) .nil none) (.cons (.call 21 (.cons (.var 10) (.cons (.var 3) .nil)) .nil none) .nil))))) (.cons (.iff (.not (.b1 .all (.comp [11, 12] (.tp [(.nm 11), (.nm 12)]) (.var 7) .none (.cmp .eq (.b1 .repr (.call 4 (.cons (.var 11) (.cons (.var 12) .nil)) .nil none)) (.b1 .repr (.var 6)))))) (.cons (.ret (.cst (.bl false))) .nil) .nil) (.cons (.iff (.cmp .eq (.b1 .len (.var 9)) (.cst (.int 1))) (.cons (.ret (.cmp .eq (.b1 .repr (.var 6)) (.b1 .repr (.call 5 (.cons (.idx (.idx (.var 9) (.cst (.int 0))) (.cst (.int 1))) (.cons (.idx (.idx (.var 9) (.cst (.int 0))) (.cst (.int 1))) .nil)) .nil none)))) .nil) .nil) (.cons (.asg 8 (.tup (.cons (.call 26 (.cons (.idx (.var 1) (.cst (.int 0))) (.cons (.idx (.idx (.var 9) (.cst (.int 0))) (.cst (.int 1))) .nil)) .nil none) (.cons (.idx (.var 1) (.cst (.int 1))) .nil)))) (.cons (.ret (.cmp .eq (.b1 .repr (.call 4 (.cons (.var 1) (.cons (.var 8) .nil)) .nil none)) (.b1 .repr (.tup (.cons (.cst (.int 0)) (.cons (.cst (.int 1)) .nil)))))) .nil)))))))))))
def fd_10 : Fd := ⟨13, tr_10⟩
/-- _law_frac_pace(pot): 0=pot -/
def tr_11 : Ts := (.cons (.ret (.call 24 (.cons (.var 0) (.cons (.lst (.cons (.tup (.cons (.cst (.int 1)) (.cons (.cst (.int 1)) .nil))) (.cons (.tup (.cons (.cst (.int 2)) (.cons (.cst (.int 1)) .nil))) (.cons (.tup (.cons (.cst (.int 1)) (.cons (.cst (.int 2)) .nil))) (.cons (.tup (.cons (.cst (.int 3)) (.cons (.cst (.int 2)) .nil))) (.cons (.tup (.cons (.cst (.int 2)) (.cons (.cst (.int 3)) .nil))) (.cons (.tup (.cons (.cst (.int 3)) (.cons (.cst (.int 1)) .nil))) (.cons (.tup (.cons (.cst (.int 1)) (.cons (.cst (.int 3)) .nil))) (.cons (.tup (.cons (.cst (.int 5)) (.cons (.cst (.int 3)) .nil))) (.cons (.tup (.cons (.cst (.int 4)) (.cons (.cst (.int 5)) .nil))) .nil)))))))))) .nil)) .nil none)) .nil)
def fd_11 : Fd := ⟨1, tr_11⟩
/-- _law_event_drawn(pot): 0=pot -/
def tr_12 : Ts := (.cons (.ret (.tup (.cons (.call 29 (.cons (.var 0) (.cons (.neg (.cst (.int 6))) (.cons (.cst (.int 6)) .nil))) .nil none) (.cons (.call 29 (.cons (.var 0) (.cons (.neg (.cst (.int 6))) (.cons (.cst (.int 6)) .nil))) .nil none) .nil)))) .nil)
def fd_12 : Fd := ⟨1, tr_12⟩
/-- times(one, other): 0=one 1=other -/
def tr_13 : Ts := (.cons (.ret (.call 30 (.cons (.bin .mul (.idx (.var 0) (.cst (.int 0))) (.idx (.var 1) (.cst (.int 0)))) (.cons (.bin .mul (.idx (.var 0) (.cst (.int 1))) (.idx (.var 1) (.cst (.int 1)))) .nil)) .nil none)) .nil)
def fd_13 : Fd := ⟨2, tr_13⟩
/-- more_in(one, other): 0=one 1=other 2=here 3=far -/
def tr_14 : Ts := (.cons (.ret (.b1 .tuple (.comp [2, 3] (.tp [(.nm 2), (.nm 3)]) (.zipV (.var 0) (.var 1)) .none (.call 31 (.cons (.var 3) (.cons (.var 2) .nil)) .nil none)))) .nil)
def fd_14 : Fd := ⟨4, tr_14⟩
/-- is_ahead_of(one, other): 0=one 1=other 2=along 3=across -/
def tr_15 : Ts := (.cons (.asgT (.tp [(.nm 2), (.nm 3)]) (.call 14 (.cons (.var 0) (.cons (.var 1) .nil)) .nil none)) (.cons (.ret (.and (.cmp .ne (.var 0) (.var 1)) (.and (.cmp .ge (.idx (.var 2) (.cst (.int 0))) (.cst (.int 0))) (.cmp .ge (.idx (.var 3) (.cst (.int 0))) (.cst (.int 0)))))) .nil))
def fd_15 : Fd := ⟨4, tr_15⟩
/-- check_event(value): 0=value -/
def tr_16 : Ts := (.cons (.iff (.not (.call 32 (.cons (.var 0) .nil) .nil none)) (.cons .nev .nil) .nil) .nil)
def fd_16 : Fd := ⟨1, tr_16⟩
/-- _law_frac(top, bottom): 0=top 1=bottom 2=by -/
def tr_17 : Ts := (.cons (.asg 2 (.call 33 (.cons (.var 0) (.cons (.var 1) .nil)) .nil none)) (.cons (.asg 2 (.ite (.cmp .gt (.var 1) (.cst (.int 0))) (.var 2) (.neg (.var 2)))) (.cons (.ret (.tup (.cons (.bin .fdiv (.var 0) (.var 2)) (.cons (.bin .fdiv (.var 1) (.var 2)) .nil)))) .nil)))
def fd_17 : Fd := ⟨3, tr_17⟩
/-- seen(event, pace): 0=event 1=pace -/
def tr_18 : Ts := (.cons (.exp (.call 16 (.cons (.var 0) .nil) .nil none)) (.cons (.exp (.call 35 (.cons (.var 1) .nil) .nil none)) (.cons (.ret (.call 34 (.cons (.var 0) (.cons (.var 1) .nil)) .nil none)) .nil)))
def fd_18 : Fd := ⟨2, tr_18⟩
/-- mirrored(event): 0=event -/
def tr_19 : Ts := (.cons (.exp (.call 16 (.cons (.var 0) .nil) .nil none)) (.cons (.ret (.tup (.cons (.idx (.var 0) (.cst (.int 1))) (.cons (.idx (.var 0) (.cst (.int 0))) .nil)))) .nil))
def fd_19 : Fd := ⟨1, tr_19⟩
/-- shifted(event, by): 0=event 1=by 2=here 3=more -/
def tr_20 : Ts := (.cons (.exp (.call 16 (.cons (.var 0) .nil) .nil none)) (.cons (.exp (.call 16 (.cons (.var 1) .nil) .nil none)) (.cons (.ret (.b1 .tuple (.comp [2, 3] (.tp [(.nm 2), (.nm 3)]) (.zipV (.var 0) (.var 1)) .none (.call 36 (.cons (.var 2) (.cons (.var 3) .nil)) .nil none)))) .nil)))
def fd_20 : Fd := ⟨4, tr_20⟩
/-- _law_event_shifted(event, by): 0=event 1=by 2=one 3=more -/
def tr_21 : Ts := (.cons (.ret (.b1 .tuple (.comp [2, 3] (.tp [(.nm 2), (.nm 3)]) (.zipV (.var 0) (.var 1)) .none (.call 26 (.cons (.var 2) (.cons (.var 3) .nil)) .nil none)))) .nil)
def fd_21 : Fd := ⟨4, tr_21⟩
/-- _law_event_seen(event, pace): 0=event 1=pace -/
def tr_22 : Ts := (.cons (.ret (.tup (.cons (.call 37 (.cons (.idx (.var 0) (.cst (.int 0))) (.cons (.var 1) .nil)) .nil none) (.cons (.call 5 (.cons (.idx (.var 0) (.cst (.int 1))) (.cons (.var 1) .nil)) .nil none) .nil)))) .nil)
def fd_22 : Fd := ⟨2, tr_22⟩
/-- _law_of(pot, some): 0=pot 1=some -/
def tr_24 : Ts := (.cons (.ret (.idx (.var 1) (.call 23 (.cons (.var 0) (.cons (.b1 .len (.var 1)) .nil)) .nil none))) .nil)
def fd_24 : Fd := ⟨2, tr_24⟩
/-- _law_frac_less(one, other): 0=one 1=other -/
def tr_25 : Ts := (.cons (.ret (.call 17 (.cons (.bin .sub (.bin .mul (.idx (.var 0) (.cst (.int 0))) (.idx (.var 1) (.cst (.int 1)))) (.bin .mul (.idx (.var 1) (.cst (.int 0))) (.idx (.var 0) (.cst (.int 1))))) (.cons (.bin .mul (.idx (.var 0) (.cst (.int 1))) (.idx (.var 1) (.cst (.int 1)))) .nil)) .nil none)) .nil)
def fd_25 : Fd := ⟨2, tr_25⟩
/-- _law_frac_plus(one, other): 0=one 1=other -/
def tr_26 : Ts := (.cons (.ret (.call 17 (.cons (.bin .add (.bin .mul (.idx (.var 0) (.cst (.int 0))) (.idx (.var 1) (.cst (.int 1)))) (.bin .mul (.idx (.var 1) (.cst (.int 0))) (.idx (.var 0) (.cst (.int 1))))) (.cons (.bin .mul (.idx (.var 0) (.cst (.int 1))) (.idx (.var 1) (.cst (.int 1)))) .nil)) .nil none)) .nil)
def fd_26 : Fd := ⟨2, tr_26⟩
/-- _law_event_gone(event, pace, time): 0=event 1=pace 2=time 3=more -/
def tr_27 : Ts := (.cons (.asg 3 (.tup (.cons (.call 5 (.cons (.var 1) (.cons (.var 2) .nil)) .nil none) (.cons (.call 37 (.cons (.var 2) (.cons (.var 1) .nil)) .nil none) .nil)))) (.cons (.ret (.tup (.cons (.call 26 (.cons (.idx (.var 0) (.cst (.int 0))) (.cons (.idx (.var 3) (.cst (.int 0))) .nil)) .nil none) (.cons (.call 26 (.cons (.idx (.var 0) (.cst (.int 1))) (.cons (.idx (.var 3) (.cst (.int 1))) .nil)) .nil none) .nil)))) .nil))
def fd_27 : Fd := ⟨4, tr_27⟩
/-- _law_frac_time(pot): 0=pot -/
def tr_28 : Ts := (.cons (.ret (.call 24 (.cons (.var 0) (.cons (.lst (.cons (.tup (.cons (.cst (.int 1)) (.cons (.cst (.int 1)) .nil))) (.cons (.tup (.cons (.cst (.int 2)) (.cons (.cst (.int 1)) .nil))) (.cons (.tup (.cons (.cst (.int 3)) (.cons (.cst (.int 1)) .nil))) (.cons (.tup (.cons (.cst (.int 1)) (.cons (.cst (.int 2)) .nil))) (.cons (.tup (.cons (.cst (.int 3)) (.cons (.cst (.int 2)) .nil))) (.cons (.tup (.cons (.cst (.int 5)) (.cons (.cst (.int 1)) .nil))) (.cons (.tup (.cons (.cst (.int 1)) (.cons (.cst (.int 3)) .nil))) (.cons (.tup (.cons (.cst (.int 7)) (.cons (.cst (.int 3)) .nil))) (.cons (.tup (.cons (.cst (.int 12)) (.cons (.cst (.int 1)) .nil))) .nil)))))))))) .nil)) .nil none)) .nil)
def fd_28 : Fd := ⟨1, tr_28⟩
/-- _law_frac_drawn(pot, low, high): 0=pot 1=low 2=high 3=bottom -/
def tr_29 : Ts := (.cons (.asg 3 (.call 24 (.cons (.var 0) (.cons (.lst (.cons (.cst (.int 1)) (.cons (.cst (.int 1)) (.cons (.cst (.int 1)) (.cons (.cst (.int 2)) (.cons (.cst (.int 3)) (.cons (.cst (.int 5)) .nil))))))) .nil)) .nil none)) (.cons (.ret (.call 17 (.cons (.bin .add (.bin .mul (.var 1) (.var 3)) (.call 23 (.cons (.var 0) (.cons (.bin .add (.bin .mul (.bin .sub (.var 2) (.var 1)) (.var 3)) (.cst (.int 1))) .nil)) .nil none)) (.cons (.var 3) .nil)) .nil none)) .nil))
def fd_29 : Fd := ⟨4, tr_29⟩
/-- ratio(top, bottom): 0=top 1=bottom 2=by -/
def tr_30 : Ts := (.cons (.asg 2 (.call 38 (.cons (.var 0) (.cons (.var 1) .nil)) .nil none)) (.cons (.asg 2 (.ite (.cmp .gt (.var 1) (.cst (.int 0))) (.var 2) (.bin .sub (.cst (.int 0)) (.var 2)))) (.cons (.ret (.tup (.cons (.bin .fdiv (.var 0) (.var 2)) (.cons (.bin .fdiv (.var 1) (.var 2)) .nil)))) .nil)))
def fd_30 : Fd := ⟨3, tr_30⟩
/-- less(one, other): 0=one 1=other -/
def tr_31 : Ts := (.cons (.ret (.call 30 (.cons (.bin .sub (.bin .mul (.idx (.var 0) (.cst (.int 0))) (.idx (.var 1) (.cst (.int 1)))) (.bin .mul (.idx (.var 1) (.cst (.int 0))) (.idx (.var 0) (.cst (.int 1))))) (.cons (.bin .mul (.idx (.var 0) (.cst (.int 1))) (.idx (.var 1) (.cst (.int 1)))) .nil)) .nil none)) .nil)
def fd_31 : Fd := ⟨2, tr_31⟩
/-- is_event(value): 0=value -/
def tr_32 : Ts := (.cons (.ret (.and (.call 40 (.cons (.var 0) (.cons (.cst (.int 2)) (.cons (.cst (.int 2)) .nil))) .nil none) (.and (.call 39 (.cons (.idx (.var 0) (.cst (.int 0))) .nil) .nil none) (.call 39 (.cons (.idx (.var 0) (.cst (.int 1))) .nil) .nil none)))) .nil)
def fd_32 : Fd := ⟨1, tr_32⟩
/-- _law_frac_common(one, other): 0=one 1=other -/
def tr_33 : Ts := (.cons (.par 0 1 (.b1 .abs (.var 0)) (.b1 .abs (.var 1))) (.cons (.whl (.cmp .gt (.var 1) (.cst (.int 0))) (.cons (.par 0 1 (.var 1) (.bin .mod (.b1 .int (.var 0)) (.var 1))) .nil)) (.cons (.ret (.var 0)) .nil)))
def fd_33 : Fd := ⟨2, tr_33⟩
/-- seen_event(event, pace): 0=event 1=pace -/
def tr_34 : Ts := (.cons (.ret (.tup (.cons (.call 41 (.cons (.idx (.var 0) (.cst (.int 0))) (.cons (.var 1) .nil)) .nil none) (.cons (.call 13 (.cons (.idx (.var 0) (.cst (.int 1))) (.cons (.var 1) .nil)) .nil none) .nil)))) .nil)
def fd_34 : Fd := ⟨2, tr_34⟩
/-- check_pace(value): 0=value -/
def tr_35 : Ts := (.cons (.iff (.not (.call 42 (.cons (.var 0) .nil) .nil none)) (.cons .nev .nil) .nil) .nil)
def fd_35 : Fd := ⟨1, tr_35⟩
/-- plus(one, other): 0=one 1=other -/
def tr_36 : Ts := (.cons (.ret (.call 30 (.cons (.bin .add (.bin .mul (.idx (.var 0) (.cst (.int 0))) (.idx (.var 1) (.cst (.int 1)))) (.bin .mul (.idx (.var 1) (.cst (.int 0))) (.idx (.var 0) (.cst (.int 1))))) (.cons (.bin .mul (.idx (.var 0) (.cst (.int 1))) (.idx (.var 1) (.cst (.int 1)))) .nil)) .nil none)) .nil)
def fd_36 : Fd := ⟨2, tr_36⟩
/-- _law_frac_over(one, other): 0=one 1=other -/
def tr_37 : Ts := (.cons (.ret (.call 17 (.cons (.bin .mul (.idx (.var 0) (.cst (.int 0))) (.idx (.var 1) (.cst (.int 1)))) (.cons (.bin .mul (.idx (.var 0) (.cst (.int 1))) (.idx (.var 1) (.cst (.int 0)))) .nil)) .nil none)) .nil)
def fd_37 : Fd := ⟨2, tr_37⟩
/-- common(one, other): 0=one 1=other -/
def tr_38 : Ts := (.cons (.par 0 1 (.b1 .abs (.var 0)) (.b1 .abs (.var 1))) (.cons (.whl (.cmp .gt (.var 1) (.cst (.int 0))) (.cons (.par 0 1 (.var 1) (.bin .mod (.var 0) (.var 1))) .nil)) (.cons (.ret (.var 0)) .nil)))
def fd_38 : Fd := ⟨2, tr_38⟩
/-- is_ratio(value): 0=value 1=one -/
def tr_39 : Ts := (.cons (.iff (.or (.not (.isi (.var 0) .tuple)) (.or (.cmp .ne (.b1 .len (.var 0)) (.cst (.int 2))) (.not (.b1 .all (.comp [1] (.nm 1) (.var 0) .none (.call 43 (.cons (.var 1) .nil) .nil none)))))) (.cons (.ret (.cst (.bl false))) .nil) .nil) (.cons (.ret (.and (.cmp .ge (.idx (.var 0) (.cst (.int 1))) (.cst (.int 1))) (.cmp .eq (.call 38 (.cons (.idx (.var 0) (.cst (.int 0))) (.cons (.idx (.var 0) (.cst (.int 1))) .nil)) .nil none) (.cst (.int 1))))) .nil))
def fd_39 : Fd := ⟨2, tr_39⟩
/-- is_tuple(value, low, high): 0=value 1=low 2=high -/
def tr_40 : Ts := (.cons (.ret (.and (.isi (.var 0) .tuple) (.chain .le .le (.var 1) (.b1 .len (.var 0)) (.var 2)))) .nil)
def fd_40 : Fd := ⟨3, tr_40⟩
/-- over(one, other): 0=one 1=other -/
def tr_41 : Ts := (.cons (.ret (.call 30 (.cons (.bin .mul (.idx (.var 0) (.cst (.int 0))) (.idx (.var 1) (.cst (.int 1)))) (.cons (.bin .mul (.idx (.var 0) (.cst (.int 1))) (.idx (.var 1) (.cst (.int 0)))) .nil)) .nil none)) .nil)
def fd_41 : Fd := ⟨2, tr_41⟩
/-- is_factor(value): 0=value -/
def tr_42 : Ts := (.cons (.ret (.and (.call 39 (.cons (.var 0) .nil) .nil none) (.cmp .gt (.idx (.var 0) (.cst (.int 0))) (.cst (.int 0))))) .nil)
def fd_42 : Fd := ⟨1, tr_42⟩
/-- is_whole(value): 0=value -/
def tr_43 : Ts := (.cons (.ret (.and (.isi (.var 0) .int) (.not (.isi (.var 0) .bool)))) .nil)
def fd_43 : Fd := ⟨1, tr_43⟩
/-- _law_is_drawn_right(pot): 0=pot 1=one 2=other -/
def tr_47 : Ts := (.cons (.asgT (.tp [(.nm 1), (.nm 2)]) (.call 50 (.cons (.var 0) .nil) .nil none)) (.cons (.ret (.call 48 (.cons (.var 0) (.cons (.var 1) (.cons (.var 2) .nil))) .nil none)) .nil))
def fd_47 : Fd := ⟨3, tr_47⟩
/-- _law_is_pair_right(pot, one, other): 0=pot 1=one 2=other 3=lap 4=told 5=back 6=pace 7=here 8=there -/
def tr_48 : Ts := (.cons (.par 4 5 (.call 53 .nil (.cons (.var 1) (.cons (.var 2) .nil)) (some [0, 1])) (.call 53 (.cons (.var 2) (.cons (.var 1) .nil)) .nil none)) (.cons (.iff (.or (.not (.call 55 (.cons (.var 1) (.cons (.var 2) (.cons (.var 4) .nil))) .nil none)) (.not (.call 55 (.cons (.var 2) (.cons (.var 1) (.cons (.var 5) .nil))) .nil none))) (.cons (.ret (.cst (.bl false))) .nil) .nil) (.cons (.iff (.or (.cmp .notN (.call 54 .nil (.cons (.var 4) (.cons (.var 2) (.cons (.var 1) .nil))) (some [2, 1, 0])) (.cst (.bl true))) (.cmp .notN (.call 54 (.cons (.var 2) (.cons (.var 1) (.cons (.var 5) .nil))) .nil none) (.cst (.bl true)))) (.cons (.ret (.cst (.bl false))) .nil) .nil) (.cons (.iff (.and (.cmp .eq (.idx (.var 4) (.cst (.int 0))) (.cst (.str "either"))) (.cmp .notN (.call 54 (.cons (.var 2) (.cons (.var 1) (.cons (.tup (.cons (.idx (.var 4) (.cst (.int 0))) (.cons (.idx (.var 4) (.cst (.int 2))) (.cons (.idx (.var 4) (.cst (.int 1))) .nil)))) .nil))) .nil none) (.cst (.bl true)))) (.cons (.ret (.cst (.bl false))) .nil) .nil) (.cons (.fr (.nm 3) (.rngV (.cst (.int 4))) (.cons (.asg 6 (.call 5 (.cons (.call 11 (.cons (.var 0) .nil) .nil none) (.cons (.call 24 (.cons (.var 0) (.cons (.lst (.cons (.tup (.cons (.cst (.int 1)) (.cons (.cst (.int 1)) .nil))) (.cons (.tup (.cons (.cst (.int 1)) (.cons (.cst (.int 9)) .nil))) (.cons (.tup (.cons (.cst (.int 9)) (.cons (.cst (.int 1)) .nil))) (.cons (.tup (.cons (.cst (.int 1)) (.cons (.cst (.int 100)) .nil))) (.cons (.tup (.cons (.cst (.int 100)) (.cons (.cst (.int 1)) .nil))) .nil)))))) .nil)) .nil none) .nil)) .nil none)) (.cons (.par 7 8 (.call 18 (.cons (.var 1) (.cons (.var 6) .nil)) .nil none) (.call 18 (.cons (.var 2) (.cons (.var 6) .nil)) .nil none)) (.cons (.iff (.cmp .ne (.idx (.call 53 (.cons (.var 7) (.cons (.var 8) .nil)) .nil none) (.cst (.int 0))) (.idx (.var 4) (.cst (.int 0)))) (.cons (.ret (.cst (.bl false))) .nil) .nil) (.cons (.iff (.and (.cmp .eq (.idx (.var 4) (.cst (.int 0))) (.cst (.str "ahead"))) (.not (.call 51 (.cons (.call 52 (.cons (.var 7) .nil) .nil none) (.cons (.call 52 (.cons (.var 8) .nil) .nil none) .nil)) .nil none))) (.cons (.ret (.cst (.bl false))) .nil) .nil) (.cons (.iff (.and (.cmp .eq (.idx (.var 4) (.cst (.int 0))) (.cst (.str "behind"))) (.not (.call 51 (.cons (.call 52 (.cons (.var 8) .nil) .nil none) (.cons (.call 52 (.cons (.var 7) .nil) .nil none) .nil)) .nil none))) (.cons (.ret (.cst (.bl false))) .nil) .nil) .nil)))))) (.cons (.ret (.cst (.bl true))) .nil))))))
def fd_48 : Fd := ⟨9, tr_48⟩
/-- _law_wide_pair(pot): 0=pot 1=found 2=lap 3=bottom 4=top 5=more -/
def tr_49 : Ts := (.cons (.asg 1 (.lst .nil)) (.cons (.fr (.nm 2) (.rngV (.cst (.int 2))) (.cons (.asg 3 (.call 24 (.cons (.var 0) (.cons (.lst (.cons (.cst (.int 1)) (.cons (.cst (.int 7)) (.cons (.cst (.int 99)) (.cons (.cst (.int 999983)) (.cons (.bin .add (.bin .pow (.cst (.int 10)) (.cst (.int 11))) (.cst (.int 3))) (.cons (.bin .add (.cst (.int 1)) (.call 23 (.cons (.var 0) (.cons (.bin .pow (.cst (.int 10)) (.cst (.int 6))) .nil)) .nil none)) .nil))))))) .nil)) .nil none)) (.cons (.par 4 5 (.bin .sub (.call 23 (.cons (.var 0) (.cons (.bin .mul (.cst (.int 2)) (.bin .pow (.cst (.int 10)) (.cst (.int 11)))) .nil)) .nil none) (.bin .pow (.cst (.int 10)) (.cst (.int 11)))) (.call 24 (.cons (.var 0) (.cons (.lst (.cons (.cst (.int 0)) (.cons (.cst (.int 1)) (.cons (.neg (.cst (.int 1))) (.cons (.call 23 (.cons (.var 0) (.cons (.bin .pow (.cst (.int 10)) (.cst (.int 11))) .nil)) .nil none) .nil))))) .nil)) .nil none)) (.cons (.exp (.m1 .append (.var 1) (.tup (.cons (.call 17 (.cons (.var 4) (.cons (.var 3) .nil)) .nil none) (.cons (.call 17 (.cons (.bin .add (.var 4) (.var 5)) (.cons (.var 3) .nil)) .nil none) .nil))))) .nil)))) (.cons (.ret (.tup (.cons (.tup (.cons (.idx (.idx (.var 1) (.cst (.int 0))) (.cst (.int 0))) (.cons (.idx (.idx (.var 1) (.cst (.int 1))) (.cst (.int 0))) .nil))) (.cons (.tup (.cons (.idx (.idx (.var 1) (.cst (.int 0))) (.cst (.int 1))) (.cons (.idx (.idx (.var 1) (.cst (.int 1))) (.cst (.int 1))) .nil))) .nil)))) .nil)))
def fd_49 : Fd := ⟨6, tr_49⟩
/-- _law_pair(pot): 0=pot 1=by 2=one 3=way -/
def tr_50 : Ts := (.cons (.par 2 3 (.call 12 (.cons (.var 0) .nil) .nil none) (.call 23 (.cons (.var 0) (.cons (.cst (.int 7)) .nil)) .nil none)) (.cons (.iff (.cmp .eq (.var 3) (.cst (.int 0))) (.cons (.ret (.tup (.cons (.var 2) (.cons (.var 2) .nil)))) .nil) .nil) (.cons (.asg 1 (.call 12 (.cons (.var 0) .nil) .nil none)) (.cons (.iff (.cmp .lt (.var 3) (.cst (.int 3))) (.cons (.asg 1 (.ite (.cmp .eq (.var 3) (.cst (.int 1))) (.tup (.cons (.idx (.var 1) (.cst (.int 0))) (.cons (.tup (.cons (.cst (.int 0)) (.cons (.cst (.int 1)) .nil))) .nil))) (.tup (.cons (.tup (.cons (.cst (.int 0)) (.cons (.cst (.int 1)) .nil))) (.cons (.idx (.var 1) (.cst (.int 1))) .nil))))) .nil) (.cons (.iff (.cmp .eq (.var 3) (.cst (.int 3))) (.cons (.asg 1 (.tup (.cons (.call 17 (.cons (.idx (.idx (.var 1) (.cst (.int 0))) (.cst (.int 0))) (.cons (.bin .mul (.idx (.idx (.var 1) (.cst (.int 0))) (.cst (.int 1))) (.cst (.int 1000))) .nil)) .nil none) (.cons (.call 17 (.cons (.neg (.idx (.idx (.var 1) (.cst (.int 0))) (.cst (.int 0)))) (.cons (.bin .mul (.idx (.idx (.var 1) (.cst (.int 0))) (.cst (.int 1))) (.cst (.int 7))) .nil)) .nil none) .nil)))) .nil) .nil) .nil)) (.cons (.ret (.tup (.cons (.var 2) (.cons (.call 21 (.cons (.var 2) (.cons (.var 1) .nil)) .nil none) .nil)))) .nil)))))
def fd_50 : Fd := ⟨4, tr_50⟩
/-- _law_frac_is_less(one, other): 0=one 1=other -/
def tr_51 : Ts := (.cons (.ret (.cmp .lt (.bin .mul (.idx (.var 0) (.cst (.int 0))) (.idx (.var 1) (.cst (.int 1)))) (.bin .mul (.idx (.var 1) (.cst (.int 0))) (.idx (.var 0) (.cst (.int 1)))))) .nil)
def fd_51 : Fd := ⟨2, tr_51⟩
/-- _law_event_sum(event): 0=event -/
def tr_52 : Ts := (.cons (.ret (.call 26 (.cons (.idx (.var 0) (.cst (.int 0))) (.cons (.idx (.var 0) (.cst (.int 1))) .nil)) .nil none)) .nil)
def fd_52 : Fd := ⟨1, tr_52⟩
/-- sequence(one, other): 0=one 1=other -/
def tr_53 : Ts := (.cons (.exp (.call 16 (.cons (.var 0) .nil) .nil none)) (.cons (.exp (.call 16 (.cons (.var 1) .nil) .nil none)) (.cons (.iff (.cmp .eq (.var 0) (.var 1)) (.cons (.ret (.tup (.cons (.cst (.str "same")) .nil))) .nil) .nil) (.cons (.iff (.call 15 (.cons (.var 0) (.cons (.var 1) .nil)) .nil none) (.cons (.ret (.tup (.cons (.cst (.str "ahead")) .nil))) .nil) .nil) (.cons (.iff (.call 15 (.cons (.var 1) (.cons (.var 0) .nil)) .nil none) (.cons (.ret (.tup (.cons (.cst (.str "behind")) .nil))) .nil) .nil) (.cons (.ret (.tup (.cons (.cst (.str "either")) (.cons (.call 56 (.cons (.var 0) (.cons (.var 1) .nil)) .nil none) (.cons (.call 56 (.cons (.var 1) (.cons (.var 0) .nil)) .nil none) .nil))))) .nil))))))
def fd_53 : Fd := ⟨2, tr_53⟩
/-- shows_sequence(one, other, value): 0=one 1=other 2=value 3=word 4=first 5=second -/
def tr_54 : Ts := (.cons (.asg 3 (.idx (.call 53 (.cons (.var 0) (.cons (.var 1) .nil)) .nil none) (.cst (.int 0)))) (.cons (.iff (.cmp .ne (.var 3) (.cst (.str "either"))) (.cons (.ret (.and (.call 40 (.cons (.var 2) (.cons (.cst (.int 1)) (.cons (.cst (.int 1)) .nil))) .nil none) (.call 58 (.cons (.idx (.var 2) (.cst (.int 0))) (.cons (.tup (.cons (.var 3) .nil)) .nil)) .nil none))) .nil) .nil) (.cons (.iff (.or (.not (.call 40 (.cons (.var 2) (.cons (.cst (.int 3)) (.cons (.cst (.int 3)) .nil))) .nil none)) (.not (.call 58 (.cons (.idx (.var 2) (.cst (.int 0))) (.cons (.tup (.cons (.cst (.str "either")) .nil)) .nil)) .nil none))) (.cons (.ret (.cst (.bl false))) .nil) .nil) (.cons (.asgT (.tp [(.nm 4), (.nm 5)]) (.slc (.var 2) (.some (.cst (.int 1))) .none)) (.cons (.iff (.or (.not (.call 42 (.cons (.var 4) .nil) .nil none)) (.not (.call 42 (.cons (.var 5) .nil) .nil none))) (.cons (.ret (.cst (.bl false))) .nil) .nil) (.cons (.ret (.and (.cmp .gt (.idx (.call 57 (.cons (.var 0) (.cons (.var 1) (.cons (.var 4) .nil))) .nil none) (.cst (.int 0))) (.cst (.int 0))) (.cmp .lt (.idx (.call 57 (.cons (.var 0) (.cons (.var 1) (.cons (.var 5) .nil))) .nil none) (.cst (.int 0))) (.cst (.int 0))))) .nil))))))
def fd_54 : Fd := ⟨6, tr_54⟩
/-- _law_is_due(one, other, value): 0=one 1=other 2=value 3=first 4=pace -/
def tr_55 : Ts := (.cons (.iff (.or (.not (.isi (.var 2) .tuple)) (.or (.cmp .eq (.var 2) (.tup .nil)) (.not (.isi (.idx (.var 2) (.cst (.int 0))) .str)))) (.cons (.ret (.cst (.bl false))) .nil) .nil) (.cons (.iff (.cmp .eq (.var 0) (.var 1)) (.cons (.ret (.cmp .eq (.var 2) (.tup (.cons (.cst (.str "same")) .nil)))) .nil) .nil) (.cons (.iff (.call 61 (.cons (.var 0) (.cons (.var 1) .nil)) .nil none) (.cons (.ret (.cmp .eq (.var 2) (.tup (.cons (.cst (.str "ahead")) .nil)))) .nil) .nil) (.cons (.iff (.call 61 (.cons (.var 1) (.cons (.var 0) .nil)) .nil none) (.cons (.ret (.cmp .eq (.var 2) (.tup (.cons (.cst (.str "behind")) .nil)))) .nil) .nil) (.cons (.iff (.or (.cmp .ne (.b1 .len (.var 2)) (.cst (.int 3))) (.or (.cmp .ne (.idx (.var 2) (.cst (.int 0))) (.cst (.str "either"))) (.not (.b1 .all (.comp [4] (.nm 4) (.slc (.var 2) (.some (.cst (.int 1))) .none) .none (.call 60 (.cons (.var 4) .nil) .nil none)))))) (.cons (.ret (.cst (.bl false))) .nil) .nil) (.cons (.asg 3 (.call 51 (.cons (.call 59 (.cons (.var 0) (.cons (.idx (.var 2) (.cst (.int 1))) .nil)) .nil none) (.cons (.call 59 (.cons (.var 1) (.cons (.idx (.var 2) (.cst (.int 1))) .nil)) .nil none) .nil)) .nil none)) (.cons (.ret (.and (.var 3) (.call 51 (.cons (.call 59 (.cons (.var 1) (.cons (.idx (.var 2) (.cst (.int 2))) .nil)) .nil none) (.cons (.call 59 (.cons (.var 0) (.cons (.idx (.var 2) (.cst (.int 2))) .nil)) .nil none) .nil)) .nil none))) .nil)))))))
def fd_55 : Fd := ⟨5, tr_55⟩
/-- pace_for(one, other): 0=one 1=other 2=loss 3=small 4=along 5=across 6=gain -/
def tr_56 : Ts := (.cons (.asgT (.tp [(.nm 4), (.nm 5)]) (.call 14 (.cons (.var 0) (.cons (.var 1) .nil)) .nil none)) (.cons (.asgT (.tp [(.nm 6), (.nm 2)]) (.ite (.cmp .gt (.idx (.var 4) (.cst (.int 0))) (.cst (.int 0))) (.tup (.cons (.var 4) (.cons (.var 5) .nil))) (.tup (.cons (.var 5) (.cons (.var 4) .nil))))) (.cons (.asg 2 (.tup (.cons (.bin .sub (.cst (.int 0)) (.idx (.var 2) (.cst (.int 0)))) (.cons (.idx (.var 2) (.cst (.int 1))) .nil)))) (.cons (.asg 3 (.cst (.tup [(.int 1), (.int 1)]))) (.cons (.whl (.not (.call 62 (.cons (.var 3) (.cons (.var 6) (.cons (.var 2) .nil))) .nil none)) (.cons (.asg 3 (.call 13 (.cons (.var 3) (.cons (.tup (.cons (.cst (.int 1)) (.cons (.cst (.int 2)) .nil))) .nil)) .nil none)) .nil)) (.cons (.ret (.ite (.cmp .gt (.idx (.var 4) (.cst (.int 0))) (.cst (.int 0))) (.var 3) (.tup (.cons (.idx (.var 3) (.cst (.int 1))) (.cons (.idx (.var 3) (.cst (.int 0))) .nil))))) .nil))))))
def fd_56 : Fd := ⟨7, tr_56⟩
/-- later_by(one, other, pace): 0=one 1=other 2=pace 3=along 4=across -/
def tr_57 : Ts := (.cons (.asgT (.tp [(.nm 3), (.nm 4)]) (.call 14 (.cons (.var 0) (.cons (.var 1) .nil)) .nil none)) (.cons (.ret (.call 36 (.cons (.call 41 (.cons (.var 3) (.cons (.var 2) .nil)) .nil none) (.cons (.call 13 (.cons (.var 4) (.cons (.var 2) .nil)) .nil none) .nil)) .nil none)) .nil))
def fd_57 : Fd := ⟨5, tr_57⟩
/-- is_string(value, some): 0=value 1=some -/
def tr_58 : Ts := (.cons (.ret (.and (.isi (.var 0) .str) (.cmp .isin (.var 0) (.var 1)))) .nil)
def fd_58 : Fd := ⟨2, tr_58⟩
/-- _law_sum_seen(event, pace): 0=event 1=pace -/
def tr_59 : Ts := (.cons (.ret (.call 52 (.cons (.call 22 (.cons (.var 0) (.cons (.var 1) .nil)) .nil none) .nil) .nil none)) .nil)
def fd_59 : Fd := ⟨2, tr_59⟩
/-- _law_frac_is_pace(value): 0=value -/
def tr_60 : Ts := (.cons (.ret (.and (.call 63 (.cons (.var 0) .nil) .nil none) (.cmp .gt (.idx (.var 0) (.cst (.int 0))) (.cst (.int 0))))) .nil)
def fd_60 : Fd := ⟨1, tr_60⟩
/-- _law_event_is_ahead(one, other): 0=one 1=other 2=top 3=bottom -/
def tr_61 : Ts := (.cons (.ret (.and (.cmp .ne (.var 0) (.var 1)) (.b1 .all (.comp [2, 3] (.tp [(.nm 2), (.nm 3)]) (.call 8 (.cons (.var 0) (.cons (.var 1) .nil)) .nil none) .none (.cmp .ge (.var 2) (.cst (.int 0))))))) .nil)
def fd_61 : Fd := ⟨4, tr_61⟩
/-- is_less_square(pace, gain, loss): 0=pace 1=gain 2=loss 3=whole -/
def tr_62 : Ts := (.cons (.asg 3 (.call 13 (.cons (.call 13 (.cons (.var 0) (.cons (.var 0) .nil)) .nil none) (.cons (.var 2) .nil)) .nil none)) (.cons (.ret (.cmp .gt (.idx (.call 31 (.cons (.var 1) (.cons (.var 3) .nil)) .nil none) (.cst (.int 0))) (.cst (.int 0)))) .nil))
def fd_62 : Fd := ⟨4, tr_62⟩
/-- _law_frac_is(value): 0=value 1=one -/
def tr_63 : Ts := (.cons (.iff (.or (.not (.isi (.var 0) .tuple)) (.cmp .ne (.b1 .len (.var 0)) (.cst (.int 2)))) (.cons (.ret (.cst (.bl false))) .nil) .nil) (.cons (.iff (.or (.not (.b1 .all (.comp [1] (.nm 1) (.var 0) .none (.and (.isi (.var 1) .int) (.not (.isi (.var 1) .bool)))))) (.cmp .lt (.idx (.var 0) (.cst (.int 1))) (.cst (.int 1)))) (.cons (.ret (.cst (.bl false))) .nil) .nil) (.cons (.ret (.cmp .eq (.call 33 (.cons (.idx (.var 0) (.cst (.int 0))) (.cons (.idx (.var 0) (.cst (.int 1))) .nil)) .nil none) (.cst (.int 1)))) .nil)))
def fd_63 : Fd := ⟨2, tr_63⟩
/-- _law_is_any_right(pot, one, other): 0=pot 1=one 2=other 3=lap 4=pace 5=due -/
def tr_66 : Ts := (.cons (.fr (.nm 3) (.rngV (.cst (.int 3))) (.cons (.asg 4 (.call 11 (.cons (.var 0) .nil) .nil none)) (.cons (.asg 5 (.cmp .eq (.call 52 (.cons (.call 22 (.cons (.var 1) (.cons (.var 4) .nil)) .nil none) .nil) .nil none) (.call 52 (.cons (.call 22 (.cons (.var 2) (.cons (.var 4) .nil)) .nil none) .nil) .nil none))) (.cons (.iff (.cmp .ne (.b1 .repr (.call 69 (.cons (.var 4) (.cons (.var 1) (.cons (.var 2) .nil))) .nil none)) (.b1 .repr (.var 5))) (.cons (.ret (.cst (.bl false))) .nil) .nil) .nil)))) (.cons (.ret (.cst (.bl true))) .nil))
def fd_66 : Fd := ⟨6, tr_66⟩
/-- _law_is_row_right(pot, one): 0=pot 1=one 2=row 3=lap 4=more 5=at 6=later 7=before -/
def tr_67 : Ts := (.cons (.asg 2 (.lst (.cons (.var 1) .nil))) (.cons (.fr (.nm 3) (.rngV (.cst (.int 3))) (.cons (.asg 4 (.tup (.cons (.call 17 (.cons (.call 23 (.cons (.var 0) (.cons (.cst (.int 3)) .nil)) .nil none) (.cons (.bin .add (.cst (.int 1)) (.call 23 (.cons (.var 0) (.cons (.cst (.int 4)) .nil)) .nil none)) .nil)) .nil none) (.cons (.call 17 (.cons (.call 23 (.cons (.var 0) (.cons (.cst (.int 3)) .nil)) .nil none) (.cons (.bin .add (.cst (.int 1)) (.call 23 (.cons (.var 0) (.cons (.cst (.int 4)) .nil)) .nil none)) .nil)) .nil none) .nil)))) (.cons (.iff (.cmp .ne (.var 4) (.tup (.cons (.tup (.cons (.cst (.int 0)) (.cons (.cst (.int 1)) .nil))) (.cons (.tup (.cons (.cst (.int 0)) (.cons (.cst (.int 1)) .nil))) .nil)))) (.cons (.exp (.m1 .append (.var 2) (.call 21 (.cons (.idx (.var 2) (.neg (.cst (.int 1)))) (.cons (.var 4) .nil)) .nil none))) .nil) .nil) .nil))) (.cons (.fr (.tp [(.nm 5), (.nm 6)]) (.enumV (.var 2)) (.cons (.fr (.nm 7) (.slc (.var 2) .none (.some (.var 5))) (.cons (.iff (.or (.cmp .ne (.call 53 (.cons (.var 7) (.cons (.var 6) .nil)) .nil none) (.tup (.cons (.cst (.str "ahead")) .nil))) (.cmp .ne (.call 53 (.cons (.var 6) (.cons (.var 7) .nil)) .nil none) (.tup (.cons (.cst (.str "behind")) .nil)))) (.cons (.ret (.cst (.bl false))) .nil) .nil) (.cons (.iff (.cmp .notN (.call 69 (.cons (.call 11 (.cons (.var 0) .nil) .nil none) (.cons (.var 7) (.cons (.var 6) .nil))) .nil none) (.cst (.bl false))) (.cons (.ret (.cst (.bl false))) .nil) .nil) .nil))) .nil)) (.cons (.ret (.cst (.bl true))) .nil))))
def fd_67 : Fd := ⟨8, tr_67⟩
/-- _law_is_level_right(pot, one, pace, width): 0=pot 1=one 2=pace 3=width 4=by 5=other 6=third 7=far 8=its -/
def tr_68 : Ts := (.cons (.asg 4 (.tup (.cons (.var 3) (.cons (.call 37 (.cons (.call 17 (.cons (.neg (.idx (.var 3) (.cst (.int 0)))) (.cons (.idx (.var 3) (.cst (.int 1))) .nil)) .nil none) (.cons (.call 5 (.cons (.var 2) (.cons (.var 2) .nil)) .nil none) .nil)) .nil none) .nil)))) (.cons (.asg 5 (.call 21 (.cons (.var 1) (.cons (.var 4) .nil)) .nil none)) (.cons (.iff (.or (.cmp .notN (.call 69 (.cons (.var 2) (.cons (.var 1) (.cons (.var 5) .nil))) .nil none) (.cst (.bl true))) (.cmp .notN (.call 69 .nil (.cons (.var 2) (.cons (.var 1) (.cons (.var 5) .nil))) (some [0, 2, 1])) (.cst (.bl true)))) (.cons (.ret (.cst (.bl false))) .nil) .nil) (.cons (.par 7 8 (.call 5 (.cons (.var 2) (.cons (.call 24 (.cons (.var 0) (.cons (.lst (.cons (.tup (.cons (.cst (.int 2)) (.cons (.cst (.int 1)) .nil))) (.cons (.tup (.cons (.cst (.int 9)) (.cons (.cst (.int 10)) .nil))) (.cons (.tup (.cons (.cst (.int 1)) (.cons (.cst (.int 3)) .nil))) (.cons (.tup (.cons (.cst (.int 101)) (.cons (.cst (.int 100)) .nil))) .nil))))) .nil)) .nil none) .nil)) .nil none) (.call 11 (.cons (.var 0) .nil) .nil none)) (.cons (.iff (.or (.cmp .notN (.call 69 (.cons (.var 7) (.cons (.var 1) (.cons (.var 5) .nil))) .nil none) (.cst (.bl false))) (.cmp .ne (.idx (.call 53 (.cons (.var 1) (.cons (.var 5) .nil)) .nil none) (.cst (.int 0))) (.cst (.str "either")))) (.cons (.ret (.cst (.bl false))) .nil) .nil) (.cons (.iff (.cmp .notN (.call 69 (.cons (.call 37 (.cons (.var 2) (.cons (.var 8) .nil)) .nil none) (.cons (.call 18 (.cons (.var 1) (.cons (.var 8) .nil)) .nil none) (.cons (.call 18 (.cons (.var 5) (.cons (.var 8) .nil)) .nil none) .nil))) .nil none) (.cst (.bl true))) (.cons (.ret (.cst (.bl false))) .nil) .nil) (.cons (.iff (.cmp .notN (.call 69 (.cons (.tup (.cons (.idx (.var 2) (.cst (.int 1))) (.cons (.idx (.var 2) (.cst (.int 0))) .nil))) (.cons (.call 19 (.cons (.var 1) .nil) .nil none) (.cons (.call 19 (.cons (.var 5) .nil) .nil none) .nil))) .nil none) (.cst (.bl true))) (.cons (.ret (.cst (.bl false))) .nil) .nil) (.cons (.asg 6 (.call 21 (.cons (.var 5) (.cons (.var 4) .nil)) .nil none)) (.cons (.ret (.and (.cmp .isN (.call 69 (.cons (.var 2) (.cons (.var 1) (.cons (.var 6) .nil))) .nil none) (.cst (.bl true))) (.and (.cmp .isN (.call 69 (.cons (.var 7) (.cons (.var 6) (.cons (.var 1) .nil))) .nil none) (.cst (.bl false))) (.cmp .isN (.call 69 (.cons (.var 7) (.cons (.var 1) (.cons (.var 1) .nil))) .nil none) (.cst (.bl true)))))) .nil)))))))))
def fd_68 : Fd := ⟨9, tr_68⟩
/-- together(pace, one, other): 0=pace 1=one 2=other -/
def tr_69 : Ts := (.cons (.exp (.call 35 (.cons (.var 0) .nil) .nil none)) (.cons (.exp (.call 16 (.cons (.var 1) .nil) .nil none)) (.cons (.exp (.call 16 (.cons (.var 2) .nil) .nil none)) (.cons (.ret (.cmp .eq (.call 57 (.cons (.var 1) (.cons (.var 2) (.cons (.var 0) .nil))) .nil none) (.cst (.tup [(.int 0), (.int 1)])))) .nil))))
def fd_69 : Fd := ⟨3, tr_69⟩
/-- _law_is_told_so(one, other, most): 0=one 1=other 2=most 3=told 4=due 5=is_plan -/
def tr_74 : Ts := (.cons (.par 3 4 (.call 78 (.cons (.var 0) (.cons (.var 1) (.cons (.var 2) .nil))) .nil none) (.call 79 (.cons (.var 0) (.cons (.var 1) (.cons (.var 2) .nil))) .nil none)) (.cons (.iff (.cmp .eq (.var 4) (.tup (.cons (.cst (.str "plan")) .nil))) (.cons (.asg 5 (.and (.isi (.var 3) .tuple) (.and (.cmp .eq (.b1 .len (.var 3)) (.cst (.int 2))) (.and (.call 77 (.cons (.idx (.var 3) (.cst (.int 0))) (.cons (.cst (.str "plan")) .nil)) .nil none) (.isi (.idx (.var 3) (.cst (.int 1))) .tuple))))) (.cons (.ret (.ite (.var 5) (.cst (.str "plan")) (.cst .non))) .nil)) .nil) (.cons (.ret (.ite (.call 77 (.cons (.var 3) (.cons (.var 4) .nil)) .nil none) (.var 4) (.cst .non))) .nil)))
def fd_74 : Fd := ⟨6, tr_74⟩
/-- _law_third(pot, other, most): 0=pot 1=other 2=most 3=event 4=lap -/
def tr_75 : Ts := (.cons (.asg 3 (.var 1)) (.cons (.fr (.nm 4) (.rngV (.call 23 (.cons (.var 0) (.cons (.cst (.int 3)) .nil)) .nil none)) (.cons (.asg 3 (.call 27 (.cons (.var 3) (.cons (.call 80 (.cons (.var 0) (.cons (.var 2) .nil)) .nil none) (.cons (.call 28 (.cons (.var 0) .nil) .nil none) .nil))) .nil none)) .nil)) (.cons (.ret (.ite (.cmp .gt (.call 23 (.cons (.var 0) (.cons (.cst (.int 4)) .nil)) .nil none) (.cst (.int 0))) (.var 3) (.call 12 (.cons (.var 0) .nil) .nil none))) .nil)))
def fd_75 : Fd := ⟨5, tr_75⟩
/-- _law_within_ends(pot): 0=pot 1=way 2=other 3=lap 4=one 5=most -/
def tr_76 : Ts := (.cons (.par 4 5 (.call 12 (.cons (.var 0) .nil) .nil none) (.call 24 (.cons (.var 0) (.cons (.lst (.cons (.tup (.cons (.cst (.int 2)) (.cons (.cst (.int 1)) .nil))) (.cons (.tup (.cons (.cst (.int 3)) (.cons (.cst (.int 1)) .nil))) (.cons (.tup (.cons (.cst (.int 3)) (.cons (.cst (.int 2)) .nil))) (.cons (.tup (.cons (.cst (.int 1)) (.cons (.cst (.int 1)) .nil))) (.cons (.tup (.cons (.cst (.int 5)) (.cons (.cst (.int 2)) .nil))) .nil)))))) .nil)) .nil none)) (.cons (.asg 1 (.call 23 (.cons (.var 0) (.cons (.cst (.int 6)) .nil)) .nil none)) (.cons (.iff (.cmp .eq (.var 1) (.cst (.int 0))) (.cons (.ret (.tup (.cons (.var 4) (.cons (.call 12 (.cons (.var 0) .nil) .nil none) (.cons (.var 5) .nil))))) .nil) .nil) (.cons (.asg 2 (.var 4)) (.cons (.fr (.nm 3) (.rngV (.bin .add (.cst (.int 1)) (.call 23 (.cons (.var 0) (.cons (.cst (.int 3)) .nil)) .nil none))) (.cons (.asg 2 (.call 27 (.cons (.var 2) (.cons (.call 80 (.cons (.var 0) (.cons (.var 5) .nil)) .nil none) (.cons (.call 28 (.cons (.var 0) .nil) .nil none) .nil))) .nil none)) .nil)) (.cons (.iff (.cmp .eq (.var 1) (.cst (.int 1))) (.cons (.asg 2 (.tup (.cons (.call 26 (.cons (.idx (.var 2) (.cst (.int 0))) (.cons (.call 28 (.cons (.var 0) .nil) .nil none) .nil)) .nil none) (.cons (.idx (.var 2) (.cst (.int 1))) .nil)))) .nil) .nil) (.cons (.ret (.tup (.cons (.var 4) (.cons (.ite (.and (.cmp .eq (.var 1) (.cst (.int 2))) (.cmp .eq (.call 23 (.cons (.var 0) (.cons (.cst (.int 3)) .nil)) .nil none) (.cst (.int 0)))) (.var 4) (.var 2)) (.cons (.var 5) .nil))))) .nil)))))))
def fd_76 : Fd := ⟨6, tr_76⟩
/-- _law_is(told, due): 0=told 1=due 2=is_fit 3=one 4=other -/
def tr_77 : Ts := (.cons (.iff (.isi (.var 1) .tuple) (.cons (.asg 2 (.and (.isi (.var 0) .tuple) (.cmp .eq (.b1 .len (.var 0)) (.b1 .len (.var 1))))) (.cons (.ret (.and (.var 2) (.b1 .all (.comp [3, 4] (.tp [(.nm 3), (.nm 4)]) (.zipV (.var 0) (.var 1)) .none (.call 77 (.cons (.var 3) (.cons (.var 4) .nil)) .nil none))))) .nil)) .nil) (.cons (.iff (.isi (.var 1) .bool) (.cons (.ret (.and (.isi (.var 0) .bool) (.cmp .eq (.var 0) (.var 1)))) .nil) .nil) (.cons (.iff (.isi (.var 1) .int) (.cons (.ret (.and (.isi (.var 0) .int) (.and (.not (.isi (.var 0) .bool)) (.cmp .eq (.var 0) (.var 1))))) .nil) .nil) (.cons (.ret (.ite (.cmp .isN (.var 1) (.cst .non)) (.cmp .isN (.var 0) (.cst .non)) (.and (.isi (.var 0) .str) (.cmp .eq (.var 0) (.var 1))))) .nil))))
def fd_77 : Fd := ⟨5, tr_77⟩
/-- reach(one, other, most): 0=one 1=other 2=most -/
def tr_78 : Ts := (.cons (.exp (.call 82 (.cons (.var 0) (.cons (.var 1) (.cons (.var 2) .nil))) .nil none)) (.cons (.ret (.call 81 (.cons (.var 0) (.cons (.var 1) (.cons (.var 2) .nil))) .nil none)) .nil))
def fd_78 : Fd := ⟨3, tr_78⟩
/-- _law_within_word(one, other, most): 0=one 1=other 2=most 3=square 4=u 5=v -/
def tr_79 : Ts := (.cons (.asgT (.tp [(.nm 4), (.nm 5)]) (.call 8 (.cons (.var 0) (.cons (.var 1) .nil)) .nil none)) (.cons (.iff (.or (.cmp .lt (.idx (.var 4) (.cst (.int 0))) (.cst (.int 0))) (.cmp .lt (.idx (.var 5) (.cst (.int 0))) (.cst (.int 0)))) (.cons (.ret (.tup (.cons (.cst (.str "behind")) .nil))) .nil) .nil) (.cons (.asg 3 (.call 5 (.cons (.var 2) (.cons (.var 2) .nil)) .nil none)) (.cons (.iff (.call 51 (.cons (.call 5 (.cons (.var 3) (.cons (.var 5) .nil)) .nil none) (.cons (.var 4) .nil)) .nil none) (.cons (.ret (.tup (.cons (.cst (.str "beyond")) (.cons (.cst (.str "u")) .nil)))) .nil) .nil) (.cons (.ret (.ite (.call 51 (.cons (.call 5 (.cons (.var 3) (.cons (.var 4) .nil)) .nil none) (.cons (.var 5) .nil)) .nil none) (.tup (.cons (.cst (.str "beyond")) (.cons (.cst (.str "v")) .nil))) (.tup (.cons (.cst (.str "plan")) .nil)))) .nil)))))
def fd_79 : Fd := ⟨6, tr_79⟩
/-- _law_within_pace(pot, most): 0=pot 1=most 2=back 3=some 4=bound -/
def tr_80 : Ts := (.cons (.asg 2 (.call 37 (.cons (.tup (.cons (.cst (.int 1)) (.cons (.cst (.int 1)) .nil))) (.cons (.var 1) .nil)) .nil none)) (.cons (.asg 3 (.comp [4] (.nm 4) (.tup (.cons (.var 1) (.cons (.var 2) .nil))) .none (.call 37 (.cons (.call 26 (.cons (.var 4) (.cons (.tup (.cons (.cst (.int 1)) (.cons (.cst (.int 1)) .nil))) .nil)) .nil none) (.cons (.tup (.cons (.cst (.int 2)) (.cons (.cst (.int 1)) .nil))) .nil)) .nil none))) (.cons (.ret (.call 24 (.cons (.var 0) (.cons (.bin .add (.var 3) (.lst (.cons (.var 1) (.cons (.var 2) (.cons (.tup (.cons (.cst (.int 1)) (.cons (.cst (.int 1)) .nil))) .nil))))) .nil)) .nil none)) .nil)))
def fd_80 : Fd := ⟨5, tr_80⟩
/-- told_reach(one, other, most): 0=one 1=other 2=most 3=square 4=along 5=across -/
def tr_81 : Ts := (.cons (.asgT (.tp [(.nm 4), (.nm 5)]) (.call 14 (.cons (.var 0) (.cons (.var 1) .nil)) .nil none)) (.cons (.iff (.or (.cmp .lt (.idx (.var 4) (.cst (.int 0))) (.cst (.int 0))) (.cmp .lt (.idx (.var 5) (.cst (.int 0))) (.cst (.int 0)))) (.cons (.ret (.tup (.cons (.cst (.str "behind")) .nil))) .nil) .nil) (.cons (.asg 3 (.call 13 (.cons (.var 2) (.cons (.var 2) .nil)) .nil none)) (.cons (.iff (.call 84 (.cons (.call 13 (.cons (.var 3) (.cons (.var 5) .nil)) .nil none) (.cons (.var 4) .nil)) .nil none) (.cons (.ret (.tup (.cons (.cst (.str "beyond")) (.cons (.cst (.str "u")) .nil)))) .nil) .nil) (.cons (.iff (.call 84 (.cons (.call 13 (.cons (.var 3) (.cons (.var 4) .nil)) .nil none) (.cons (.var 5) .nil)) .nil none) (.cons (.ret (.tup (.cons (.cst (.str "beyond")) (.cons (.cst (.str "v")) .nil)))) .nil) .nil) (.cons (.ret (.tup (.cons (.cst (.str "plan")) (.cons (.call 83 (.cons (.var 4) (.cons (.var 5) (.cons (.var 2) .nil))) .nil none) .nil)))) .nil))))))
def fd_81 : Fd := ⟨6, tr_81⟩
/-- check_ends(one, other, most): 0=one 1=other 2=most -/
def tr_82 : Ts := (.cons (.exp (.call 16 (.cons (.var 0) .nil) .nil none)) (.cons (.exp (.call 16 (.cons (.var 1) .nil) .nil none)) (.cons (.exp (.call 85 (.cons (.var 2) .nil) .nil none)) .nil)))
def fd_82 : Fd := ⟨3, tr_82⟩
/-- quickest(along, across, most): 0=along 1=across 2=most 3=square 4=bottom 5=first 6=second -/
def tr_83 : Ts := (.cons (.iff (.cmp .eq (.var 2) (.cst (.tup [(.int 1), (.int 1)]))) (.cons (.ret (.call 86 (.cons (.lst (.cons (.tup (.cons (.cst (.tup [(.int 1), (.int 1)])) (.cons (.var 0) .nil))) .nil)) .nil) .nil none)) .nil) .nil) (.cons (.asg 3 (.call 13 (.cons (.var 2) (.cons (.var 2) .nil)) .nil none)) (.cons (.asg 4 (.call 31 (.cons (.call 13 (.cons (.var 3) (.cons (.var 3) .nil)) .nil none) (.cons (.cst (.tup [(.int 1), (.int 1)])) .nil)) .nil none)) (.cons (.asg 5 (.call 41 (.cons (.call 13 (.cons (.var 2) (.cons (.call 31 (.cons (.call 13 (.cons (.var 3) (.cons (.var 0) .nil)) .nil none) (.cons (.var 1) .nil)) .nil none) .nil)) .nil none) (.cons (.var 4) .nil)) .nil none)) (.cons (.asg 6 (.call 41 (.cons (.call 13 (.cons (.var 2) (.cons (.call 31 (.cons (.call 13 (.cons (.var 3) (.cons (.var 1) .nil)) .nil none) (.cons (.var 0) .nil)) .nil none) .nil)) .nil none) (.cons (.var 4) .nil)) .nil none)) (.cons (.ret (.call 86 (.cons (.lst (.cons (.tup (.cons (.var 2) (.cons (.var 5) .nil))) (.cons (.tup (.cons (.call 87 (.cons (.var 2) .nil) .nil none) (.cons (.var 6) .nil))) .nil))) .nil) .nil none)) .nil))))))
def fd_83 : Fd := ⟨7, tr_83⟩
/-- is_below(one, other): 0=one 1=other -/
def tr_84 : Ts := (.cons (.ret (.cmp .lt (.bin .mul (.idx (.var 0) (.cst (.int 0))) (.idx (.var 1) (.cst (.int 1)))) (.bin .mul (.idx (.var 1) (.cst (.int 0))) (.idx (.var 0) (.cst (.int 1)))))) .nil)
def fd_84 : Fd := ⟨2, tr_84⟩
/-- check_most(value): 0=value -/
def tr_85 : Ts := (.cons (.iff (.or (.not (.call 39 (.cons (.var 0) .nil) .nil none)) (.cmp .lt (.idx (.var 0) (.cst (.int 0))) (.idx (.var 0) (.cst (.int 1))))) (.cons .nev .nil) .nil) .nil)
def fd_85 : Fd := ⟨1, tr_85⟩
/-- without_nought(pieces): 0=pieces 1=piece -/
def tr_86 : Ts := (.cons (.ret (.b1 .tuple (.comp [1] (.nm 1) (.var 0) (.some (.cmp .ne (.idx (.var 1) (.cst (.int 1))) (.cst (.tup [(.int 0), (.int 1)])))) (.var 1)))) .nil)
def fd_86 : Fd := ⟨2, tr_86⟩
/-- contrary(one): 0=one -/
def tr_87 : Ts := (.cons (.ret (.call 41 (.cons (.tup (.cons (.cst (.int 1)) (.cons (.cst (.int 1)) .nil))) (.cons (.var 0) .nil)) .nil none)) .nil)
def fd_87 : Fd := ⟨1, tr_87⟩
/-- _law_is_wish_right(one, other, most, own, least, square): 0=one 1=other 2=most 3=own 4=least 5=square 6=told 7=piece -/
def tr_90 : Ts := (.cons (.asg 6 (.call 96 (.cons (.var 0) (.cons (.var 1) (.cons (.var 2) (.cons (.var 3) .nil)))) .nil none)) (.cons (.iff (.or (.not (.isi (.var 6) .tuple)) (.cmp .notN (.call 95 (.cons (.var 0) (.cons (.var 1) (.cons (.var 2) (.cons (.var 3) (.cons (.var 6) .nil))))) .nil none) (.cst (.bl true)))) (.cons (.ret (.cst (.bl false))) .nil) .nil) (.cons (.iff (.call 51 (.cons (.var 3) (.cons (.var 4) .nil)) .nil none) (.cons (.ret (.call 77 (.cons (.var 6) (.cons (.tup (.cons (.cst (.str "less")) (.cons (.var 4) .nil))) .nil)) .nil none)) .nil) .nil) (.cons (.iff (.call 51 (.cons (.var 5) (.cons (.call 5 (.cons (.var 3) (.cons (.var 3) .nil)) .nil none) .nil)) .nil none) (.cons (.ret (.call 77 (.cons (.var 6) (.cons (.tup (.cons (.cst (.str "more")) (.cons (.var 5) .nil))) .nil)) .nil none)) .nil) .nil) (.cons (.iff (.or (.cmp .ne (.b1 .len (.var 6)) (.cst (.int 2))) (.or (.not (.call 77 (.cons (.idx (.var 6) (.cst (.int 0))) (.cons (.cst (.str "plan")) .nil)) .nil none)) (.not (.call 94 (.cons (.var 0) (.cons (.var 1) (.cons (.var 2) (.cons (.idx (.var 6) (.cst (.int 1))) .nil)))) .nil none)))) (.cons (.ret (.cst (.bl false))) .nil) .nil) (.cons (.ret (.and (.cmp .lt (.b1 .len (.idx (.var 6) (.cst (.int 1)))) (.cst (.int 3))) (.cmp .eq (.call 93 (.cons (.comp [7] (.nm 7) (.idx (.var 6) (.cst (.int 1))) .none (.idx (.var 7) (.cst (.int 1)))) .nil) .nil none) (.var 3)))) .nil))))))
def fd_90 : Fd := ⟨8, tr_90⟩
/-- _law_wished(pot, least, square): 0=pot 1=least 2=square 3=some -/
def tr_91 : Ts := (.cons (.asg 3 (.lst (.cons (.var 1) (.cons (.call 26 (.cons (.var 1) (.cons (.tup (.cons (.cst (.int 1)) (.cons (.cst (.int 7)) .nil))) .nil)) .nil none) (.cons (.call 5 (.cons (.var 1) (.cons (.tup (.cons (.cst (.int 9)) (.cons (.cst (.int 10)) .nil))) .nil)) .nil none) .nil))))) (.cons (.exp (.m1 .append (.var 3) (.call 17 (.cons (.call 97 (.cons (.bin .fdiv (.bin .mul (.idx (.var 2) (.cst (.int 0))) (.bin .pow (.cst (.int 10)) (.cst (.int 6)))) (.idx (.var 2) (.cst (.int 1)))) .nil) .nil none) (.cons (.cst (.int 1000)) .nil)) .nil none))) (.cons (.exp (.m1 .append (.var 3) (.call 37 (.cons (.call 26 (.cons (.var 1) (.cons (.idx (.var 3) (.neg (.cst (.int 1)))) .nil)) .nil none) (.cons (.tup (.cons (.cst (.int 2)) (.cons (.cst (.int 1)) .nil))) .nil)) .nil none))) (.cons (.exp (.m1 .append (.var 3) (.call 26 (.cons (.call 5 (.cons (.var 1) (.cons (.tup (.cons (.cst (.int 2)) (.cons (.cst (.int 1)) .nil))) .nil)) .nil none) (.cons (.tup (.cons (.cst (.int 40)) (.cons (.cst (.int 1)) .nil))) .nil)) .nil none))) (.cons (.ret (.call 24 (.cons (.var 0) (.cons (.bin .add (.var 3) (.slc (.var 3) (.some (.cst (.int 3))) (.some (.cst (.int 5))))) .nil)) .nil none)) .nil)))))
def fd_91 : Fd := ⟨4, tr_91⟩
/-- _law_within_least(one, other, most): 0=one 1=other 2=most 3=u 4=v -/
def tr_92 : Ts := (.cons (.asgT (.tp [(.nm 3), (.nm 4)]) (.call 8 (.cons (.var 0) (.cons (.var 1) .nil)) .nil none)) (.cons (.ret (.call 37 (.cons (.call 26 (.cons (.var 3) (.cons (.var 4) .nil)) .nil none) (.cons (.call 26 (.cons (.var 2) (.cons (.call 37 (.cons (.tup (.cons (.cst (.int 1)) (.cons (.cst (.int 1)) .nil))) (.cons (.var 2) .nil)) .nil none) .nil)) .nil none) .nil)) .nil none)) .nil))
def fd_92 : Fd := ⟨5, tr_92⟩
/-- _law_frac_sum(some): 0=some 1=found 2=one -/
def tr_93 : Ts := (.cons (.asg 1 (.tup (.cons (.cst (.int 0)) (.cons (.cst (.int 1)) .nil)))) (.cons (.fr (.nm 2) (.var 0) (.cons (.asg 1 (.call 26 (.cons (.var 1) (.cons (.var 2) .nil)) .nil none)) .nil)) (.cons (.ret (.var 1)) .nil)))
def fd_93 : Fd := ⟨3, tr_93⟩
/-- _law_within_leads(one, other, most, pieces): 0=one 1=other 2=most 3=pieces 4=piece 5=back 6=event 7=part -/
def tr_94 : Ts := (.cons (.iff (.not (.isi (.var 3) .tuple)) (.cons (.ret (.cst (.bl false))) .nil) .nil) (.cons (.par 5 6 (.call 37 (.cons (.tup (.cons (.cst (.int 1)) (.cons (.cst (.int 1)) .nil))) (.cons (.var 2) .nil)) .nil none) (.var 0)) (.cons (.fr (.nm 4) (.var 3) (.cons (.iff (.or (.not (.isi (.var 4) .tuple)) (.or (.cmp .ne (.b1 .len (.var 4)) (.cst (.int 2))) (.not (.b1 .all (.comp [7] (.nm 7) (.var 4) .none (.call 60 (.cons (.var 7) .nil) .nil none)))))) (.cons (.ret (.cst (.bl false))) .nil) .nil) (.cons (.iff (.or (.call 51 (.cons (.idx (.var 4) (.cst (.int 0))) (.cons (.var 5) .nil)) .nil none) (.call 51 (.cons (.var 2) (.cons (.idx (.var 4) (.cst (.int 0))) .nil)) .nil none)) (.cons (.ret (.cst (.bl false))) .nil) .nil) (.cons (.asg 6 (.call 27 (.cons (.var 6) (.cons (.idx (.var 4) (.cst (.int 0))) (.cons (.idx (.var 4) (.cst (.int 1))) .nil))) .nil none)) .nil)))) (.cons (.ret (.cmp .eq (.var 6) (.var 1))) .nil))))
def fd_94 : Fd := ⟨8, tr_94⟩
/-- shows_own_flight(one, other, most, own, value): 0=one 1=other 2=most 3=own 4=value 5=told 6=total 7=pace 8=time -/
def tr_95 : Ts := (.cons (.asg 5 (.call 96 (.cons (.var 0) (.cons (.var 1) (.cons (.var 2) (.cons (.var 3) .nil)))) .nil none)) (.cons (.iff (.cmp .ne (.idx (.var 5) (.cst (.int 0))) (.cst (.str "plan"))) (.cons (.ret (.call 99 (.cons (.var 4) (.cons (.var 5) .nil)) .nil none)) .nil) .nil) (.cons (.iff (.not (.call 98 (.cons (.var 0) (.cons (.var 1) (.cons (.var 2) (.cons (.var 4) .nil)))) .nil none)) (.cons (.ret (.cst (.bl false))) .nil) .nil) (.cons (.asg 6 (.cst (.tup [(.int 0), (.int 1)]))) (.cons (.fr (.tp [(.nm 7), (.nm 8)]) (.idx (.var 4) (.cst (.int 1))) (.cons (.asg 6 (.call 36 (.cons (.var 6) (.cons (.var 8) .nil)) .nil none)) .nil)) (.cons (.ret (.cmp .eq (.var 6) (.var 3))) .nil))))))
def fd_95 : Fd := ⟨9, tr_95⟩
/-- own_flight(one, other, most, own): 0=one 1=other 2=most 3=own 4=low 5=square 6=along 7=across -/
def tr_96 : Ts := (.cons (.exp (.call 82 (.cons (.var 0) (.cons (.var 1) (.cons (.var 2) .nil))) .nil none)) (.cons (.exp (.call 102 (.cons (.var 3) .nil) .nil none)) (.cons (.asg 4 (.call 101 (.cons (.var 0) (.cons (.var 1) (.cons (.var 2) .nil))) .nil none)) (.cons (.asgT (.tp [(.nm 6), (.nm 7)]) (.call 14 (.cons (.var 0) (.cons (.var 1) .nil)) .nil none)) (.cons (.asg 5 (.call 13 (.cons (.var 6) (.cons (.var 7) .nil)) .nil none)) (.cons (.iff (.call 84 (.cons (.var 3) (.cons (.var 4) .nil)) .nil none) (.cons (.ret (.tup (.cons (.cst (.str "less")) (.cons (.var 4) .nil)))) .nil) .nil) (.cons (.iff (.call 84 (.cons (.var 5) (.cons (.call 13 (.cons (.var 3) (.cons (.var 3) .nil)) .nil none) .nil)) .nil none) (.cons (.ret (.tup (.cons (.cst (.str "more")) (.cons (.var 5) .nil)))) .nil) .nil) (.cons (.ret (.tup (.cons (.cst (.str "plan")) (.cons (.call 100 (.cons (.var 6) (.cons (.var 7) (.cons (.var 2) (.cons (.var 3) .nil)))) .nil none) .nil)))) .nil))))))))
def fd_96 : Fd := ⟨8, tr_96⟩
/-- _law_root(number): 0=number 1=low 2=high 3=middle -/
def tr_97 : Ts := (.cons (.asgT (.tp [(.nm 1), (.nm 2)]) (.tup (.cons (.cst (.int 0)) (.cons (.cst (.int 1)) .nil)))) (.cons (.whl (.cmp .le (.bin .mul (.var 2) (.var 2)) (.var 0)) (.cons (.asg 2 (.bin .mul (.cst (.int 2)) (.var 2))) .nil)) (.cons (.whl (.cmp .gt (.bin .sub (.var 2) (.var 1)) (.cst (.int 1))) (.cons (.asg 3 (.bin .fdiv (.bin .add (.var 1) (.var 2)) (.cst (.int 2)))) (.cons (.asgT (.tp [(.nm 1), (.nm 2)]) (.ite (.cmp .le (.bin .mul (.var 3) (.var 3)) (.var 0)) (.tup (.cons (.var 3) (.cons (.var 2) .nil))) (.tup (.cons (.var 1) (.cons (.var 3) .nil))))) .nil))) (.cons (.ret (.var 1)) .nil))))
def fd_97 : Fd := ⟨4, tr_97⟩
/-- is_plan(one, other, most, value): 0=one 1=other 2=most 3=value -/
def tr_98 : Ts := (.cons (.iff (.or (.not (.call 40 (.cons (.var 3) (.cons (.cst (.int 2)) (.cons (.cst (.int 2)) .nil))) .nil none)) (.or (.not (.call 58 (.cons (.idx (.var 3) (.cst (.int 0))) (.cons (.tup (.cons (.cst (.str "plan")) .nil)) .nil)) .nil none)) (.not (.call 104 (.cons (.idx (.var 3) (.cst (.int 1))) (.cons (.var 2) .nil)) .nil none)))) (.cons (.ret (.cst (.bl false))) .nil) .nil) (.cons (.ret (.cmp .eq (.call 103 (.cons (.var 0) (.cons (.idx (.var 3) (.cst (.int 1))) .nil)) .nil none) (.var 1))) .nil))
def fd_98 : Fd := ⟨4, tr_98⟩
/-- is_just(value, told): 0=value 1=told 2=part 3=due 4=is_fit -/
def tr_99 : Ts := (.cons (.iff (.not (.call 40 (.cons (.var 0) (.cons (.b1 .len (.var 1)) (.cons (.b1 .len (.var 1)) .nil))) .nil none)) (.cons (.ret (.cst (.bl false))) .nil) .nil) (.cons (.fr (.tp [(.nm 2), (.nm 3)]) (.zipV (.var 0) (.var 1)) (.cons (.asg 4 (.ite (.isi (.var 3) .str) (.call 58 (.cons (.var 2) (.cons (.tup (.cons (.var 3) .nil)) .nil)) .nil none) (.and (.call 39 (.cons (.var 2) .nil) .nil none) (.cmp .eq (.var 2) (.var 3))))) (.cons (.iff (.not (.var 4)) (.cons (.ret (.cst (.bl false))) .nil) .nil) .nil))) (.cons (.ret (.cst (.bl true))) .nil)))
def fd_99 : Fd := ⟨5, tr_99⟩
/-- lasting(along, across, most, own): 0=along 1=across 2=most 3=own 4=excess 5=by 6=bottom 7=first 8=rest 9=pace -/
def tr_100 : Ts := (.cons (.asg 4 (.call 31 (.cons (.call 13 (.cons (.var 0) (.cons (.var 1) .nil)) .nil none) (.cons (.call 13 (.cons (.var 3) (.cons (.var 3) .nil)) .nil none) .nil)) .nil none)) (.cons (.asg 5 (.call 36 (.cons (.call 41 (.cons (.var 0) (.cons (.var 2) .nil)) .nil none) (.cons (.call 13 (.cons (.var 1) (.cons (.var 2) .nil)) .nil none) .nil)) .nil none)) (.cons (.asg 6 (.call 31 (.cons (.var 5) (.cons (.call 36 (.cons (.var 3) (.cons (.var 3) .nil)) .nil none) .nil)) .nil none)) (.cons (.asg 7 (.ite (.cmp .eq (.var 6) (.cst (.tup [(.int 0), (.int 1)]))) (.var 3) (.call 41 (.cons (.var 4) (.cons (.var 6) .nil)) .nil none))) (.cons (.asg 8 (.call 31 (.cons (.var 3) (.cons (.var 7) .nil)) .nil none)) (.cons (.iff (.cmp .eq (.var 8) (.cst (.tup [(.int 0), (.int 1)]))) (.cons (.ret (.call 86 (.cons (.lst (.cons (.tup (.cons (.var 2) (.cons (.var 7) .nil))) .nil)) .nil) .nil none)) .nil) .nil) (.cons (.asg 9 (.call 41 (.cons (.call 31 (.cons (.var 0) (.cons (.call 13 (.cons (.var 2) (.cons (.var 7) .nil)) .nil none) .nil)) .nil none) (.cons (.var 8) .nil)) .nil none)) (.cons (.ret (.call 86 (.cons (.lst (.cons (.tup (.cons (.var 2) (.cons (.var 7) .nil))) (.cons (.tup (.cons (.var 9) (.cons (.var 8) .nil))) .nil))) .nil) .nil none)) .nil))))))))
def fd_100 : Fd := ⟨10, tr_100⟩
/-- least_own(one, other, most): 0=one 1=other 2=most 3=told 4=along 5=across -/
def tr_101 : Ts := (.cons (.exp (.call 82 (.cons (.var 0) (.cons (.var 1) (.cons (.var 2) .nil))) .nil none)) (.cons (.asg 3 (.call 81 (.cons (.var 0) (.cons (.var 1) (.cons (.var 2) .nil))) .nil none)) (.cons (.iff (.cmp .ne (.idx (.var 3) (.cst (.int 0))) (.cst (.str "plan"))) (.cons .nev .nil) .nil) (.cons (.asgT (.tp [(.nm 4), (.nm 5)]) (.call 14 (.cons (.var 0) (.cons (.var 1) .nil)) .nil none)) (.cons (.ret (.call 41 (.cons (.call 36 (.cons (.var 4) (.cons (.var 5) .nil)) .nil none) (.cons (.call 36 (.cons (.var 2) (.cons (.call 87 (.cons (.var 2) .nil) .nil none) .nil)) .nil none) .nil)) .nil none)) .nil)))))
def fd_101 : Fd := ⟨6, tr_101⟩
/-- check_own_time(value): 0=value -/
def tr_102 : Ts := (.cons (.iff (.not (.call 105 (.cons (.var 0) .nil) .nil none)) (.cons .nev .nil) .nil) .nil)
def fd_102 : Fd := ⟨1, tr_102⟩
/-- gone(event, pieces): 0=event 1=pieces 2=u 3=v 4=pace 5=time -/
def tr_103 : Ts := (.cons (.asgT (.tp [(.nm 2), (.nm 3)]) (.var 0)) (.cons (.fr (.tp [(.nm 4), (.nm 5)]) (.var 1) (.cons (.par 2 3 (.call 36 (.cons (.var 2) (.cons (.call 13 (.cons (.var 4) (.cons (.var 5) .nil)) .nil none) .nil)) .nil none) (.call 36 (.cons (.var 3) (.cons (.call 41 (.cons (.var 5) (.cons (.var 4) .nil)) .nil none) .nil)) .nil none)) .nil)) (.cons (.ret (.tup (.cons (.var 2) (.cons (.var 3) .nil)))) .nil)))
def fd_103 : Fd := ⟨6, tr_103⟩
/-- are_pieces(value, most): 0=value 1=most 2=piece 3=pace 4=time -/
def tr_104 : Ts := (.cons (.iff (.not (.call 40 (.cons (.var 0) (.cons (.cst (.int 0)) (.cons (.cst (.int 2)) .nil))) .nil none)) (.cons (.ret (.cst (.bl false))) .nil) .nil) (.cons (.fr (.nm 2) (.var 0) (.cons (.iff (.or (.not (.call 40 (.cons (.var 2) (.cons (.cst (.int 2)) (.cons (.cst (.int 2)) .nil))) .nil none)) (.or (.not (.call 42 (.cons (.idx (.var 2) (.cst (.int 0))) .nil) .nil none)) (.not (.call 42 (.cons (.idx (.var 2) (.cst (.int 1))) .nil) .nil none)))) (.cons (.ret (.cst (.bl false))) .nil) .nil) .nil)) (.cons (.ret (.b1 .all (.comp [3, 4] (.tp [(.nm 3), (.nm 4)]) (.var 0) .none (.call 106 (.cons (.var 3) (.cons (.var 1) .nil)) .nil none)))) .nil)))
def fd_104 : Fd := ⟨5, tr_104⟩
/-- is_time(value): 0=value -/
def tr_105 : Ts := (.cons (.ret (.and (.call 39 (.cons (.var 0) .nil) .nil none) (.cmp .ge (.idx (.var 0) (.cst (.int 0))) (.cst (.int 0))))) .nil)
def fd_105 : Fd := ⟨1, tr_105⟩
/-- is_pace_within(pace, most): 0=pace 1=most -/
def tr_106 : Ts := (.cons (.ret (.and (.not (.call 84 (.cons (.var 1) (.cons (.var 0) .nil)) .nil none)) (.not (.call 84 (.cons (.var 0) (.cons (.call 87 (.cons (.var 1) .nil) .nil none) .nil)) .nil none)))) .nil)
def fd_106 : Fd := ⟨2, tr_106⟩
def tabG : Nat → Option Fd
  | 1 => some fd_1
  | 4 => some fd_4
  | 5 => some fd_5
  | 6 => some fd_6
  | 7 => some fd_7
  | 8 => some fd_8
  | 9 => some fd_9
  | 10 => some fd_10
  | 11 => some fd_11
  | 12 => some fd_12
  | 13 => some fd_13
  | 14 => some fd_14
  | 15 => some fd_15
  | 16 => some fd_16
  | 17 => some fd_17
  | 18 => some fd_18
  | 19 => some fd_19
  | 20 => some fd_20
  | 21 => some fd_21
  | 22 => some fd_22
  | 24 => some fd_24
  | 25 => some fd_25
  | 26 => some fd_26
  | 27 => some fd_27
  | 28 => some fd_28
  | 29 => some fd_29
  | 30 => some fd_30
  | 31 => some fd_31
  | 32 => some fd_32
  | 33 => some fd_33
  | 34 => some fd_34
  | 35 => some fd_35
  | 36 => some fd_36
  | 37 => some fd_37
  | 38 => some fd_38
  | 39 => some fd_39
  | 40 => some fd_40
  | 41 => some fd_41
  | 42 => some fd_42
  | 43 => some fd_43
  | 47 => some fd_47
  | 48 => some fd_48
  | 49 => some fd_49
  | 50 => some fd_50
  | 51 => some fd_51
  | 52 => some fd_52
  | 53 => some fd_53
  | 54 => some fd_54
  | 55 => some fd_55
  | 56 => some fd_56
  | 57 => some fd_57
  | 58 => some fd_58
  | 59 => some fd_59
  | 60 => some fd_60
  | 61 => some fd_61
  | 62 => some fd_62
  | 63 => some fd_63
  | 66 => some fd_66
  | 67 => some fd_67
  | 68 => some fd_68
  | 69 => some fd_69
  | 74 => some fd_74
  | 75 => some fd_75
  | 76 => some fd_76
  | 77 => some fd_77
  | 78 => some fd_78
  | 79 => some fd_79
  | 80 => some fd_80
  | 81 => some fd_81
  | 82 => some fd_82
  | 83 => some fd_83
  | 84 => some fd_84
  | 85 => some fd_85
  | 86 => some fd_86
  | 87 => some fd_87
  | 90 => some fd_90
  | 91 => some fd_91
  | 92 => some fd_92
  | 93 => some fd_93
  | 94 => some fd_94
  | 95 => some fd_95
  | 96 => some fd_96
  | 97 => some fd_97
  | 98 => some fd_98
  | 99 => some fd_99
  | 100 => some fd_100
  | 101 => some fd_101
  | 102 => some fd_102
  | 103 => some fd_103
  | 104 => some fd_104
  | 105 => some fd_105
  | 106 => some fd_106
  | _ => none
end Cw
namespace Cw
open PySem PySem.Spec PyProof.Rows L2
local macro_rules | `(tactic| walk_at "cw") => `(tactic| simp only [bnd_ok, bnd_exc, varR_some, kk2_eq, v_var, v_cst, v_tup, v_lst, v_bin, v_neg, v_not, andK_t, andK_f, orK_t, orK_f, v_and, v_or, v_cmp, chK_t, chK_f, chJ_eq, v_chain, iteK_t, iteK_f, v_ite, v_idx, slcK_eq, slcL_eq, slcJ_eq, v_slc, optK_int, o_none, o_some, v_rev, rev_tup, callK_eq, callJ_none, callJ_perm, callP_some, permL_nil, permL_cons, permC_some, v_call, v_b1, v_b2, isiK_eq, v_isi, v_m0, v_m1, compE_eq, comp_live, lenL_some, live_eq, liveK_some, liveJ_none, liveJ_some, liveH_some, liveH_none, fr_live, liveF_eq, liveFK_some, liveFJ_none, liveFJ_some, liveFH_nx, liveFH_ct, liveFH_bk, liveFH_rt, nil_get, comp_fix, comp_zip, comp_rng, turnC_eq, turnJ_some, turnK_t, turnK_f, yesK_eq, wipe_nil, wipe_cons, loopL_nil, loopL_cons, loopK_some, loopK_none, zipD_nil, zipD_nil2, zipD_cons, v_comp, es_nil, consJ_eq, consK_eq, es_cons, notJ_eq, andJ_t, andJ_f, orJ_t, orJ_f, b_not, b_and, b_or, b_cmp, b_chain, b_ite, b_var, b_cst, b_call, b_b1, b_isi, b_idx, b_bin, b_comp, ofBl_bl, tru_bl, tru_int, tru_tup, tru_non, c_none', c_some', srcK_tup, srcK_rol, w_var, w_cst, w_tup, w_lst, w_bin, w_idx, w_slc, w_call, w_comp, w_rng, rng2K_eq, w_rng2, zipK_tup, w_zip, w_enum, seqR_nx, seqR_rt, seqR_bk, seqR_ct, seqR_ex, ts_nil, ts_cons, rtE_ok, asgK_eq, t_asg, tgK_some, asgTK_eq, t_asgT, parJ_eq, parK_eq, t_par, par3H_eq, par3J_eq, par3K_eq, t_par3, setJ_eq, setK_eq, t_set, expK_eq, t_exp, retK_eq, t_ret, t_retN, ifK_t, ifK_f, t_if, t_whl, frB_eq, frJ_eq, fr_fix, fr_zip, fr_rng, forL_nil, forL_cons, forK_nx, forK_ct, forK_bk, forK_rt, t_fr, t_pas, t_brk, t_cnt, body_rt, body_nx, body_ex, op_addI, op_subI, op_mulI, op_fdivI, op_modI, op_powI, mkTup_small, alloc_small, idx_R, idxS_some, setH_R, setS_some, setX_some, len_R, lenS_some, len_rol, tup_R, tupS_some, all_R, allS_some, allK_some, src_R, srcS_some, m1J_R, m1S_some, app_R, appX_some, at_new, bls_nil, bls_cons, List.all_cons, List.all_nil, id_eq, Bool.and_true, Bool.and_self,  neg_I, not_B, cop_lt, cop_le, cop_gt, cop_ge, cop_eq, cop_ne, cop_isN, cop_notN, cop_isB, cop_notB, ofOpt_some, eqD_int, eqD_str, b1_lenT, b1_abs, b1_intI, b1_intB, b2_min, b2_max, isi_tup, isi_int, isi_bl, isi_str, idxK_some, idx_tup, idx_rol, atI_0, atI_1, atI_2, atI_3, atI_4, atI_5, atI_6, atI_7, atI_m1_1, atI_m1_2, atI_m2_2, atI_m1_3, atI_m2_3, atI_m3_3, atI_m1_4, atI_m2_4, atI_m3_4, atI_m1_5, atI_m2_5, atI_m3_5, atI_m1_6, atI_m2_6, atI_m3_6, tg_nm, tg_tp, tgs_nil, tgJ_some, tgs_cons, List.getElem?_cons_zero, List.getElem?_cons_succ, List.set_cons_zero, List.set_cons_succ, List.cons_append, List.nil_append, List.map_cons, List.map_nil, startD, List.length_cons, List.length_nil, List.replicate_succ, List.replicate_zero, Nat.reduceAdd, Nat.reduceSub, Int.reduceLE, Int.reduceLT, Int.reduceEq, Int.reduceNe, Nat.reduceLT, Nat.reduceEqDiff, Nat.reduceLeDiff, Int.reduceToNat, Int.reduceNeg, Int.reduceAdd, Int.reduceSub, Int.reduceMul, Int.reducePow, rng1_eq, rngD_0, rngD_s, op_powI, reduceCtorEq, decide_true, decide_false, eq_self, Int.cast_ofNat_Int, Nat.zero_add, Option.map_some, ne_eq, not_false_eq_true, Bool.not_true, Bool.not_false, isNonD, *])
local macro_rules | `(tactic| walk_at "cw0") => `(tactic| simp only [bnd_ok, bnd_exc, varR_some, kk2_eq, v_var, v_cst, v_tup, v_lst, v_bin, v_neg, v_not, andK_t, andK_f, orK_t, orK_f, v_and, v_or, v_cmp, chK_t, chK_f, chJ_eq, v_chain, iteK_t, iteK_f, v_ite, v_idx, slcK_eq, slcL_eq, slcJ_eq, v_slc, optK_int, o_none, o_some, v_rev, rev_tup, callK_eq, callJ_none, callJ_perm, callP_some, permL_nil, permL_cons, permC_some, v_call, v_b1, v_b2, isiK_eq, v_isi, v_m0, v_m1, compE_eq, comp_live, lenL_some, live_eq, liveK_some, liveJ_none, liveJ_some, liveH_some, liveH_none, fr_live, liveF_eq, liveFK_some, liveFJ_none, liveFJ_some, liveFH_nx, liveFH_ct, liveFH_bk, liveFH_rt, nil_get, comp_fix, comp_zip, comp_rng, turnC_eq, turnJ_some, turnK_t, turnK_f, yesK_eq, wipe_nil, wipe_cons, loopL_nil, loopL_cons, loopK_some, loopK_none, zipD_nil, zipD_nil2, zipD_cons, v_comp, es_nil, consJ_eq, consK_eq, es_cons, notJ_eq, andJ_t, andJ_f, orJ_t, orJ_f, b_not, b_and, b_or, b_cmp, b_chain, b_ite, b_var, b_cst, b_call, b_b1, b_isi, b_idx, b_bin, b_comp, ofBl_bl, tru_bl, tru_int, tru_tup, tru_non, c_none', c_some', srcK_tup, srcK_rol, w_var, w_cst, w_tup, w_lst, w_bin, w_idx, w_slc, w_call, w_comp, w_rng, rng2K_eq, w_rng2, zipK_tup, w_zip, w_enum, seqR_nx, seqR_rt, seqR_bk, seqR_ct, seqR_ex, ts_nil, ts_cons, rtE_ok, asgK_eq, t_asg, tgK_some, asgTK_eq, t_asgT, parJ_eq, parK_eq, t_par, par3H_eq, par3J_eq, par3K_eq, t_par3, setJ_eq, setK_eq, t_set, expK_eq, t_exp, retK_eq, t_ret, t_retN, ifK_t, ifK_f, t_if, t_whl, frB_eq, frJ_eq, fr_fix, fr_zip, fr_rng, forL_nil, forL_cons, forK_nx, forK_ct, forK_bk, forK_rt, t_fr, t_pas, t_brk, t_cnt, body_rt, body_nx, body_ex, op_addI, op_subI, op_mulI, op_fdivI, op_modI, op_powI, mkTup_small, alloc_small, idx_R, idxS_some, setH_R, setS_some, setX_some, len_R, lenS_some, len_rol, tup_R, tupS_some, all_R, allS_some, allK_some, src_R, srcS_some, m1J_R, m1S_some, app_R, appX_some, at_new, bls_nil, bls_cons, List.all_cons, List.all_nil, id_eq, Bool.and_true, Bool.and_self,  neg_I, not_B, cop_lt, cop_le, cop_gt, cop_ge, cop_eq, cop_ne, cop_isN, cop_notN, cop_isB, cop_notB, ofOpt_some, eqD_int, eqD_str, b1_lenT, b1_abs, b1_intI, b1_intB, b2_min, b2_max, isi_tup, isi_int, isi_bl, isi_str, idxK_some, idx_tup, idx_rol, atI_0, atI_1, atI_2, atI_3, atI_4, atI_5, atI_6, atI_7, atI_m1_1, atI_m1_2, atI_m2_2, atI_m1_3, atI_m2_3, atI_m3_3, atI_m1_4, atI_m2_4, atI_m3_4, atI_m1_5, atI_m2_5, atI_m3_5, atI_m1_6, atI_m2_6, atI_m3_6, tg_nm, tg_tp, tgs_nil, tgJ_some, tgs_cons, List.getElem?_cons_zero, List.getElem?_cons_succ, List.set_cons_zero, List.set_cons_succ, List.cons_append, List.nil_append, List.map_cons, List.map_nil, startD, List.length_cons, List.length_nil, List.replicate_succ, List.replicate_zero, Nat.reduceAdd, Nat.reduceSub, Int.reduceLE, Int.reduceLT, Int.reduceEq, Int.reduceNe, Nat.reduceLT, Nat.reduceEqDiff, Nat.reduceLeDiff, Int.reduceToNat, Int.reduceNeg, Int.reduceAdd, Int.reduceSub, Int.reduceMul, Int.reducePow, rng1_eq, rngD_0, rngD_s, op_powI, reduceCtorEq, decide_true, decide_false, eq_self, Int.cast_ofNat_Int, Nat.zero_add, Option.map_some, ne_eq, not_false_eq_true, Bool.not_true, Bool.not_false, isNonD])
/-! ### fractions -/
def Sub (tab : Nat → Option Fd) : Prop := ∀ n fd, tabG n = some fd → tab n = some fd
def frD (q : Rat) : D := .tup [.int q.num, .int q.den]
structure Sz (q : Rat) (n : Nat) : Prop where
  num : q.num.natAbs < 2 ^ n
  den : q.den < 2 ^ n
theorem Sz.mono {q : Rat} {n m : Nat} (h : Sz q n) (k : n ≤ m) : Sz q m :=
  ⟨Nat.lt_of_lt_of_le h.num (Nat.pow_le_pow_right (by decide) k), Nat.lt_of_lt_of_le h.den (Nat.pow_le_pow_right (by decide) k)⟩
theorem log_lt {a n : Nat} (h : a < 2 ^ n) : a.log2 ≤ n := by
  by_cases h0 : a = 0
  · subst h0; simp
  · exact Nat.le_of_lt ((Nat.log2_lt h0).mpr h)
theorem okMul_of {a b : Int} {n m : Nat} (ha : a.natAbs < 2 ^ n) (hb : b.natAbs < 2 ^ m) (h : n + m < 1000000) : okMul a b = true := by
  unfold okMul
  have h1 := log_lt ha
  have h2 := log_lt hb
  exact decide_eq_true (by omega)
theorem okDiv_of {a : Int} {n : Nat} (h0 : a ≠ 0) (ha : a.natAbs < 2 ^ n) (h : n < 9000) : okDiv a = true := by
  unfold okDiv
  have h1 := log_lt ha
  rw [Bool.and_eq_true]
  exact ⟨decide_eq_true h0, decide_eq_true (by omega)⟩
theorem mul_lt {a b : Int} {n m : Nat} (ha : a.natAbs < 2 ^ n) (hb : b.natAbs < 2 ^ m) : (a * b).natAbs < 2 ^ (n + m) := by
  rw [Int.natAbs_mul, Nat.pow_add]
  exact Nat.mul_lt_mul'' ha hb
theorem mulN_lt {a b : Nat} {n m : Nat} (ha : a < 2 ^ n) (hb : b < 2 ^ m) : a * b < 2 ^ (n + m) := by
  rw [Nat.pow_add]
  exact Nat.mul_lt_mul'' ha hb
theorem add_lt {a b : Int} {n : Nat} (ha : a.natAbs < 2 ^ n) (hb : b.natAbs < 2 ^ n) : (a + b).natAbs < 2 ^ (n + 1) := by
  rw [Nat.pow_succ]; omega
theorem sub_lt {a b : Int} {n : Nat} (ha : a.natAbs < 2 ^ n) (hb : b.natAbs < 2 ^ n) : (a - b).natAbs < 2 ^ (n + 1) := by
  rw [Nat.pow_succ]; omega
/-- a quotient's parts are no longer than what is divided -/
theorem divInt_sz {t b : Int} {n : Nat} (hb : b ≠ 0) (h1 : t.natAbs < 2 ^ n) (h2 : b.natAbs < 2 ^ n) : Sz (Rat.divInt t b) n := by
  constructor
  · rw [Rat.num_divInt]
    refine Nat.lt_of_le_of_lt (Int.natAbs_ediv_le_natAbs _ _) ?_
    rw [Int.natAbs_mul, Int.natAbs_sign_of_ne_zero hb, Nat.one_mul]
    exact h1
  · rw [Rat.den_divInt, if_neg hb]
    exact Nat.lt_of_le_of_lt (Nat.div_le_self _ _) h2
theorem Sz.mul {p q : Rat} {n m : Nat} (hp : Sz p n) (hq : Sz q m) : Sz (p * q) (n + m) := by
  have e : p * q = Rat.divInt (p.num * q.num) ((p.den : Int) * q.den) := by
    rw [← Rat.divInt_mul_divInt, Rat.num_divInt_den, Rat.num_divInt_den]
  rw [e]
  have d1 := p.den_pos
  have d2 := q.den_pos
  exact divInt_sz (Int.mul_ne_zero (by omega) (by omega)) (mul_lt hp.num hq.num) (mul_lt (show (p.den : Int).natAbs < 2 ^ n by simpa using hp.den) (show (q.den : Int).natAbs < 2 ^ m by simpa using hq.den))
theorem mul_eq (p q : Rat) : Rat.divInt (p.num * q.num) ((p.den : Int) * q.den) = p * q := by
  rw [← Rat.divInt_mul_divInt, Rat.num_divInt_den, Rat.num_divInt_den]
theorem num_ne {q : Rat} (h : q ≠ 0) : q.num ≠ 0 := fun z => h (Rat.num_eq_zero.mp z)
theorem inv_eq (q : Rat) : q⁻¹ = Rat.divInt (q.den : Int) q.num := Rat.inv_def q
theorem div_eq (p q : Rat) : Rat.divInt (p.num * q.den) ((p.den : Int) * q.num) = p / q := by
  rw [Rat.div_def, inv_eq, ← Rat.divInt_mul_divInt, Rat.num_divInt_den]
theorem den_ne (q : Rat) : (q.den : Int) ≠ 0 := by have := q.den_pos; omega
theorem add_eq (p q : Rat) : Rat.divInt (p.num * q.den + q.num * p.den) ((p.den : Int) * q.den) = p + q := by
  rw [← Rat.divInt_add_divInt _ _ (den_ne p) (den_ne q), Rat.num_divInt_den, Rat.num_divInt_den]
theorem sub_eq (p q : Rat) : Rat.divInt (p.num * q.den - q.num * p.den) ((p.den : Int) * q.den) = p - q := by
  have h := add_eq p (-q)
  rw [Rat.neg_num, Rat.neg_den, Int.neg_mul] at h
  rw [Rat.sub_eq_add_neg, ← h, Int.sub_eq_add_neg]
theorem Sz.div {p q : Rat} {n m : Nat} (hp : Sz p n) (hq : Sz q m) (h0 : q ≠ 0) : Sz (p / q) (n + m) := by
  rw [← div_eq]
  exact divInt_sz (Int.mul_ne_zero (den_ne p) (num_ne h0)) (mul_lt hp.num (show (q.den : Int).natAbs < 2 ^ m by simpa using hq.den)) (mul_lt (show (p.den : Int).natAbs < 2 ^ n by simpa using hp.den) hq.num)
theorem Sz.add {p q : Rat} {n m : Nat} (hp : Sz p n) (hq : Sz q m) : Sz (p + q) (n + m + 1) := by
  rw [← add_eq]
  refine divInt_sz (Int.mul_ne_zero (den_ne p) (den_ne q)) (add_lt (mul_lt hp.num (show (q.den : Int).natAbs < 2 ^ m by simpa using hq.den)) ?_) ?_
  · have := mul_lt hq.num (show (p.den : Int).natAbs < 2 ^ n by simpa using hp.den)
    rw [Nat.add_comm]; exact this
  · exact Nat.lt_of_lt_of_le (mul_lt (show (p.den : Int).natAbs < 2 ^ n by simpa using hp.den) (show (q.den : Int).natAbs < 2 ^ m by simpa using hq.den)) (Nat.pow_le_pow_right (by decide) (by omega))
theorem Sz.sub {p q : Rat} {n m : Nat} (hp : Sz p n) (hq : Sz q m) : Sz (p - q) (n + m + 1) := by
  rw [Rat.sub_eq_add_neg]
  exact hp.add ⟨by rw [Rat.neg_num, Int.natAbs_neg]; exact hq.num, hq.den⟩

/-! ### the common divisor, the lowest terms -/
theorem abs_eq (i : Int) : (if i < 0 then -i else i) = (i.natAbs : Int) := by split <;> omega
theorem gcd_loop {cl : CallT} {fu : Nat} {S : Store} {tm : E} (ht : ∀ (x y : Nat), (y : Int) ≠ 0 → (ev3 cl tm).v [some (.int x), some (.int y)] S = .ok (.int ((x % y : Nat) : Int)) S) : ∀ (m x y : Nat), y < m →
    loopW ((ev3 cl (.cmp .gt (.var 1) (.cst (.int 0)))).b) (evTs fu cl (.cons (.par 0 1 (.var 1) tm) .nil)) m [some (.int x), some (.int y)] S = some (.nx [some (.int (Nat.gcd x y : Nat)), some (.int 0)], S)
  | 0, x, y, h => absurd h (by omega)
  | m + 1, x, y, h => by
    unfold loopW
    walk_at "cw0"
    by_cases hy : y = 0
    · subst hy
      simp
    · have h1 : (0 : Int) < y := by omega
      have h2 : (y : Int) ≠ 0 := by omega
      rw [decide_eq_true h1]
      have e := ht x y h2
      have hl := gcd_loop (fu := fu) ht m y (x % y) (by have := Nat.mod_lt x (Nat.pos_of_ne_zero hy); omega)
      clear ht
      walk_at "cw"
      rw [Nat.gcd_comm x y, Nat.gcd_rec y x, Nat.gcd_comm]
theorem fmod_nat (x y : Nat) : Int.fmod (x : Int) (y : Int) = ((x % y : Nat) : Int) := by
  rw [Int.fmod_eq_emod_of_nonneg _ (by omega)]; rfl
section
variable {tab : Nat → Option Fd} {fu : Nat} {S : Store}
theorem common_ok (G : Sub tab) (k : Nat) (a b : Int) (hf : b.natAbs < fu) : evC fu tab (k + 1) 38 [.int a, .int b] S = .ok (.int (Nat.gcd a.natAbs b.natAbs : Nat)) S := by
  rw [evC_eq (G 38 _ rfl)]
  unfold tr_38
  have ea := abs_eq
  have hl := gcd_loop (cl := evC fu tab k) (fu := fu) (S := S) (tm := .bin .mod (.var 0) (.var 1)) (fun x y h => by
    have e := fmod_nat x y
    walk_at "cw") fu a.natAbs b.natAbs hf
  walk_at "cw"
theorem l_common_ok (G : Sub tab) (k : Nat) (a b : Int) (hf : b.natAbs < fu) : evC fu tab (k + 1) 33 [.int a, .int b] S = .ok (.int (Nat.gcd a.natAbs b.natAbs : Nat)) S := by
  rw [evC_eq (G 33 _ rfl)]
  unfold tr_33
  have ea := abs_eq
  have hl := gcd_loop (cl := evC fu tab k) (fu := fu) (S := S) (tm := .bin .mod (.b1 .int (.var 0)) (.var 1)) (fun x y h => by
    have e := fmod_nat x y
    walk_at "cw") fu a.natAbs b.natAbs hf
  walk_at "cw"
theorem low_pos {t b : Int} (h : 0 < b) : frD (Rat.divInt t b) = .tup [.int (t.fdiv (Nat.gcd t.natAbs b.natAbs : Nat)), .int (b.fdiv (Nat.gcd t.natAbs b.natAbs : Nat))] := by
  have g0 : 0 < Nat.gcd t.natAbs b.natAbs := Nat.gcd_pos_of_pos_right _ (by omega)
  have e1 : (Rat.divInt t b).num = t.fdiv (Nat.gcd t.natAbs b.natAbs : Nat) := by
    rw [Rat.num_divInt, Int.sign_eq_one_of_pos h, Int.one_mul, Int.fdiv_eq_ediv_of_nonneg _ (by omega)]
    rw [show b.gcd t = Nat.gcd t.natAbs b.natAbs from Nat.gcd_comm _ _]
  have e2 : ((Rat.divInt t b).den : Int) = b.fdiv (Nat.gcd t.natAbs b.natAbs : Nat) := by
    rw [Rat.den_divInt, if_neg (by omega), Int.fdiv_eq_ediv_of_nonneg _ (by omega)]
    rw [show b.gcd t = Nat.gcd t.natAbs b.natAbs from Nat.gcd_comm _ _]
    rw [Int.natCast_ediv]
    congr 1
    omega
  unfold frD
  rw [e1, e2]
theorem low_neg {t b : Int} (h : b < 0) : frD (Rat.divInt t b) = .tup [.int (t.fdiv (-(Nat.gcd t.natAbs b.natAbs : Nat))), .int (b.fdiv (-(Nat.gcd t.natAbs b.natAbs : Nat)))] := by
  have hb := low_pos (t := -t) (b := -b) (by omega)
  rw [Rat.neg_divInt_neg] at hb
  rw [hb, Int.natAbs_neg, Int.natAbs_neg]
  have f : ∀ x y : Int, (-x).fdiv y = x.fdiv (-y) := fun x y => by
    rw [← Int.neg_fdiv_neg, Int.neg_neg]
  rw [f, f]
theorem ratio_ok (G : Sub tab) (k : Nat) {t b : Int} {n : Nat} (hb : b ≠ 0) (h2 : b.natAbs < 2 ^ n) (hn : n < 9000) (hF : 2 ^ 9000 ≤ fu) : evC fu tab (k + 2) 30 [.int t, .int b] S = .ok (frD (Rat.divInt t b)) S := by
  rw [evC_eq (G 30 _ rfl)]
  unfold tr_30
  have hf : 2 ^ n ≤ fu := Nat.le_trans (Nat.pow_le_pow_right (by decide) (Nat.le_of_lt hn)) hF
  clear hF
  have hc := common_ok (S := S) (fu := fu) G k t b (by omega)
  have g0 : Nat.gcd t.natAbs b.natAbs ≠ 0 := by
    have := Nat.gcd_pos_of_pos_right t.natAbs (n := b.natAbs) (by omega)
    omega
  have gl : Nat.gcd t.natAbs b.natAbs ≤ b.natAbs := Nat.le_of_dvd (by omega) (Nat.gcd_dvd_right _ _)
  by_cases h : 0 < b
  · rw [low_pos h]
    have o1 : okDiv ((Nat.gcd t.natAbs b.natAbs : Nat) : Int) = true := okDiv_of (n := n) (by omega) (by simp; omega) hn
    have hd := decide_eq_true h
    generalize Nat.gcd t.natAbs b.natAbs = g at *
    clear h2 hb gl g0 hf G h
    walk_at "cw"
  · rw [low_neg (by omega)]
    have o1 : okDiv (0 - ((Nat.gcd t.natAbs b.natAbs : Nat) : Int)) = true := okDiv_of (n := n) (by omega) (by omega) hn
    have hd := decide_eq_false h
    generalize Nat.gcd t.natAbs b.natAbs = g at *
    clear h2 hb gl g0 hf G h
    walk_at "cw"
    rw [Int.zero_sub]
theorem l_frac_ok (G : Sub tab) (k : Nat) {t b : Int} {n : Nat} (hb : b ≠ 0) (h2 : b.natAbs < 2 ^ n) (hn : n < 9000) (hF : 2 ^ 9000 ≤ fu) : evC fu tab (k + 2) 17 [.int t, .int b] S = .ok (frD (Rat.divInt t b)) S := by
  rw [evC_eq (G 17 _ rfl)]
  unfold tr_17
  have hf : 2 ^ n ≤ fu := Nat.le_trans (Nat.pow_le_pow_right (by decide) (Nat.le_of_lt hn)) hF
  clear hF
  have hc := l_common_ok (S := S) (fu := fu) G k t b (by omega)
  have g0 : Nat.gcd t.natAbs b.natAbs ≠ 0 := by
    have := Nat.gcd_pos_of_pos_right t.natAbs (n := b.natAbs) (by omega)
    omega
  have gl : Nat.gcd t.natAbs b.natAbs ≤ b.natAbs := Nat.le_of_dvd (by omega) (Nat.gcd_dvd_right _ _)
  by_cases h : 0 < b
  · rw [low_pos h]
    have o1 : okDiv ((Nat.gcd t.natAbs b.natAbs : Nat) : Int) = true := okDiv_of (n := n) (by omega) (by simp; omega) hn
    have hd := decide_eq_true h
    generalize Nat.gcd t.natAbs b.natAbs = g at *
    clear h2 hb gl g0 hf G h
    walk_at "cw"
  · rw [low_neg (by omega)]
    have o1 : okDiv (-((Nat.gcd t.natAbs b.natAbs : Nat) : Int)) = true := okDiv_of (n := n) (by omega) (by omega) hn
    have hd := decide_eq_false h
    generalize Nat.gcd t.natAbs b.natAbs = g at *
    clear h2 hb gl g0 hf G h
    walk_at "cw"
theorem times_ok (G : Sub tab) (k : Nat) {p q : Rat} {n m : Nat} (hp : Sz p n) (hq : Sz q m) (hn : n + m < 9000) (hF : 2 ^ 9000 ≤ fu) : evC fu tab (k + 3) 13 [frD p, frD q] S = .ok (frD (p * q)) S := by
  rw [evC_eq (G 13 _ rfl)]
  unfold tr_13
  have hr := ratio_ok (S := S) G k (t := p.num * q.num) (b := (p.den : Int) * (q.den : Int)) (n := n + m) (Int.mul_ne_zero (den_ne p) (den_ne q)) (mul_lt (show (p.den : Int).natAbs < 2 ^ n by simpa using hp.den) (show (q.den : Int).natAbs < 2 ^ m by simpa using hq.den)) hn hF
  rw [mul_eq] at hr
  have o1 : okMul p.num q.num = true := okMul_of hp.num hq.num (by omega)
  have o2 : okMul (p.den : Int) (q.den : Int) = true := okMul_of (show (p.den : Int).natAbs < 2 ^ n by simpa using hp.den) (show (q.den : Int).natAbs < 2 ^ m by simpa using hq.den) (by omega)
  unfold frD at *
  clear hp hq hn hF G
  walk_at "cw"
theorem over_ok (G : Sub tab) (k : Nat) {p q : Rat} {n m : Nat} (hp : Sz p n) (hq : Sz q m) (h0 : q ≠ 0) (hn : n + m < 9000) (hF : 2 ^ 9000 ≤ fu) : evC fu tab (k + 3) 41 [frD p, frD q] S = .ok (frD (p / q)) S := by
  rw [evC_eq (G 41 _ rfl)]
  unfold tr_41
  have hr := ratio_ok (S := S) G k (t := p.num * (q.den : Int)) (b := (p.den : Int) * q.num) (n := n + m) (Int.mul_ne_zero (den_ne p) (num_ne h0)) (mul_lt (show (p.den : Int).natAbs < 2 ^ n by simpa using hp.den) hq.num) hn hF
  rw [div_eq] at hr
  have o1 : okMul p.num (q.den : Int) = true := okMul_of hp.num (show (q.den : Int).natAbs < 2 ^ m by simpa using hq.den) (by omega)
  have o2 : okMul (p.den : Int) q.num = true := okMul_of (show (p.den : Int).natAbs < 2 ^ n by simpa using hp.den) hq.num (by omega)
  unfold frD at *
  clear hp hq hn hF G
  walk_at "cw"
theorem plus_ok (G : Sub tab) (k : Nat) {p q : Rat} {n m : Nat} (hp : Sz p n) (hq : Sz q m) (hn : n + m < 9000) (hF : 2 ^ 9000 ≤ fu) : evC fu tab (k + 3) 36 [frD p, frD q] S = .ok (frD (p + q)) S := by
  rw [evC_eq (G 36 _ rfl)]
  unfold tr_36
  have dp : (p.den : Int).natAbs < 2 ^ n := by simpa using hp.den
  have dq : (q.den : Int).natAbs < 2 ^ m := by simpa using hq.den
  have hr := ratio_ok (S := S) G k (t := p.num * q.den + q.num * p.den) (b := (p.den : Int) * q.den) (n := n + m) (Int.mul_ne_zero (den_ne p) (den_ne q)) (mul_lt dp dq) hn hF
  rw [add_eq] at hr
  have o1 : okMul p.num (q.den : Int) = true := okMul_of hp.num dq (by omega)
  have o2 : okMul q.num (p.den : Int) = true := okMul_of hq.num dp (by omega)
  have o3 : okMul (p.den : Int) (q.den : Int) = true := okMul_of dp dq (by omega)
  unfold frD at *
  clear hp hq hn hF G dp dq
  walk_at "cw"
theorem less_ok (G : Sub tab) (k : Nat) {p q : Rat} {n m : Nat} (hp : Sz p n) (hq : Sz q m) (hn : n + m < 9000) (hF : 2 ^ 9000 ≤ fu) : evC fu tab (k + 3) 31 [frD p, frD q] S = .ok (frD (p - q)) S := by
  rw [evC_eq (G 31 _ rfl)]
  unfold tr_31
  have dp : (p.den : Int).natAbs < 2 ^ n := by simpa using hp.den
  have dq : (q.den : Int).natAbs < 2 ^ m := by simpa using hq.den
  have hr := ratio_ok (S := S) G k (t := p.num * q.den - q.num * p.den) (b := (p.den : Int) * q.den) (n := n + m) (Int.mul_ne_zero (den_ne p) (den_ne q)) (mul_lt dp dq) hn hF
  rw [sub_eq] at hr
  have o1 : okMul p.num (q.den : Int) = true := okMul_of hp.num dq (by omega)
  have o2 : okMul q.num (p.den : Int) = true := okMul_of hq.num dp (by omega)
  have o3 : okMul (p.den : Int) (q.den : Int) = true := okMul_of dp dq (by omega)
  unfold frD at *
  clear hp hq hn hF G dp dq
  walk_at "cw"
theorem l_times_ok (G : Sub tab) (k : Nat) {p q : Rat} {n m : Nat} (hp : Sz p n) (hq : Sz q m) (hn : n + m < 9000) (hF : 2 ^ 9000 ≤ fu) : evC fu tab (k + 3) 5 [frD p, frD q] S = .ok (frD (p * q)) S := by
  rw [evC_eq (G 5 _ rfl)]
  unfold tr_5
  have hr := l_frac_ok (S := S) G k (t := p.num * q.num) (b := (p.den : Int) * (q.den : Int)) (n := n + m) (Int.mul_ne_zero (den_ne p) (den_ne q)) (mul_lt (show (p.den : Int).natAbs < 2 ^ n by simpa using hp.den) (show (q.den : Int).natAbs < 2 ^ m by simpa using hq.den)) hn hF
  rw [mul_eq] at hr
  have o1 : okMul p.num q.num = true := okMul_of hp.num hq.num (by omega)
  have o2 : okMul (p.den : Int) (q.den : Int) = true := okMul_of (show (p.den : Int).natAbs < 2 ^ n by simpa using hp.den) (show (q.den : Int).natAbs < 2 ^ m by simpa using hq.den) (by omega)
  unfold frD at *
  clear hp hq hn hF G
  walk_at "cw"
theorem l_over_ok (G : Sub tab) (k : Nat) {p q : Rat} {n m : Nat} (hp : Sz p n) (hq : Sz q m) (h0 : q ≠ 0) (hn : n + m < 9000) (hF : 2 ^ 9000 ≤ fu) : evC fu tab (k + 3) 37 [frD p, frD q] S = .ok (frD (p / q)) S := by
  rw [evC_eq (G 37 _ rfl)]
  unfold tr_37
  have hr := l_frac_ok (S := S) G k (t := p.num * (q.den : Int)) (b := (p.den : Int) * q.num) (n := n + m) (Int.mul_ne_zero (den_ne p) (num_ne h0)) (mul_lt (show (p.den : Int).natAbs < 2 ^ n by simpa using hp.den) hq.num) hn hF
  rw [div_eq] at hr
  have o1 : okMul p.num (q.den : Int) = true := okMul_of hp.num (show (q.den : Int).natAbs < 2 ^ m by simpa using hq.den) (by omega)
  have o2 : okMul (p.den : Int) q.num = true := okMul_of (show (p.den : Int).natAbs < 2 ^ n by simpa using hp.den) hq.num (by omega)
  unfold frD at *
  clear hp hq hn hF G
  walk_at "cw"
theorem l_plus_ok (G : Sub tab) (k : Nat) {p q : Rat} {n m : Nat} (hp : Sz p n) (hq : Sz q m) (hn : n + m < 9000) (hF : 2 ^ 9000 ≤ fu) : evC fu tab (k + 3) 26 [frD p, frD q] S = .ok (frD (p + q)) S := by
  rw [evC_eq (G 26 _ rfl)]
  unfold tr_26
  have dp : (p.den : Int).natAbs < 2 ^ n := by simpa using hp.den
  have dq : (q.den : Int).natAbs < 2 ^ m := by simpa using hq.den
  have hr := l_frac_ok (S := S) G k (t := p.num * q.den + q.num * p.den) (b := (p.den : Int) * q.den) (n := n + m) (Int.mul_ne_zero (den_ne p) (den_ne q)) (mul_lt dp dq) hn hF
  rw [add_eq] at hr
  have o1 : okMul p.num (q.den : Int) = true := okMul_of hp.num dq (by omega)
  have o2 : okMul q.num (p.den : Int) = true := okMul_of hq.num dp (by omega)
  have o3 : okMul (p.den : Int) (q.den : Int) = true := okMul_of dp dq (by omega)
  unfold frD at *
  clear hp hq hn hF G dp dq
  walk_at "cw"
theorem l_less_ok (G : Sub tab) (k : Nat) {p q : Rat} {n m : Nat} (hp : Sz p n) (hq : Sz q m) (hn : n + m < 9000) (hF : 2 ^ 9000 ≤ fu) : evC fu tab (k + 3) 25 [frD p, frD q] S = .ok (frD (p - q)) S := by
  rw [evC_eq (G 25 _ rfl)]
  unfold tr_25
  have dp : (p.den : Int).natAbs < 2 ^ n := by simpa using hp.den
  have dq : (q.den : Int).natAbs < 2 ^ m := by simpa using hq.den
  have hr := l_frac_ok (S := S) G k (t := p.num * q.den - q.num * p.den) (b := (p.den : Int) * q.den) (n := n + m) (Int.mul_ne_zero (den_ne p) (den_ne q)) (mul_lt dp dq) hn hF
  rw [sub_eq] at hr
  have o1 : okMul p.num (q.den : Int) = true := okMul_of hp.num dq (by omega)
  have o2 : okMul q.num (p.den : Int) = true := okMul_of hq.num dp (by omega)
  have o3 : okMul (p.den : Int) (q.den : Int) = true := okMul_of dp dq (by omega)
  unfold frD at *
  clear hp hq hn hF G dp dq
  walk_at "cw"
end
end Cw
namespace Cw
open PySem PySem.Spec PyProof.Rows L2
local macro_rules | `(tactic| walk_at "cw") => `(tactic| simp only [bnd_ok, bnd_exc, varR_some, kk2_eq, v_var, v_cst, v_tup, v_lst, v_bin, v_neg, v_not, andK_t, andK_f, orK_t, orK_f, v_and, v_or, v_cmp, chK_t, chK_f, chJ_eq, v_chain, iteK_t, iteK_f, v_ite, v_idx, slcK_eq, slcL_eq, slcJ_eq, v_slc, optK_int, o_none, o_some, v_rev, rev_tup, callK_eq, callJ_none, callJ_perm, callP_some, permL_nil, permL_cons, permC_some, v_call, v_b1, v_b2, isiK_eq, v_isi, v_m0, v_m1, compE_eq, comp_live, lenL_some, live_eq, liveK_some, liveJ_none, liveJ_some, liveH_some, liveH_none, fr_live, liveF_eq, liveFK_some, liveFJ_none, liveFJ_some, liveFH_nx, liveFH_ct, liveFH_bk, liveFH_rt, nil_get, comp_fix, comp_zip, comp_rng, turnC_eq, turnJ_some, turnK_t, turnK_f, yesK_eq, wipe_nil, wipe_cons, loopL_nil, loopL_cons, loopK_some, loopK_none, zipD_nil, zipD_nil2, zipD_cons, v_comp, es_nil, consJ_eq, consK_eq, es_cons, notJ_eq, andJ_t, andJ_f, orJ_t, orJ_f, b_not, b_and, b_or, b_cmp, b_chain, b_ite, b_var, b_cst, b_call, b_b1, b_isi, b_idx, b_bin, b_comp, ofBl_bl, tru_bl, tru_int, tru_tup, tru_non, c_none', c_some', srcK_tup, srcK_rol, w_var, w_cst, w_tup, w_lst, w_bin, w_idx, w_slc, w_call, w_comp, w_rng, rng2K_eq, w_rng2, zipK_tup, w_zip, w_enum, seqR_nx, seqR_rt, seqR_bk, seqR_ct, seqR_ex, ts_nil, ts_cons, rtE_ok, asgK_eq, t_asg, tgK_some, asgTK_eq, t_asgT, parJ_eq, parK_eq, t_par, par3H_eq, par3J_eq, par3K_eq, t_par3, setJ_eq, setK_eq, t_set, expK_eq, t_exp, retK_eq, t_ret, t_retN, ifK_t, ifK_f, t_if, t_whl, frB_eq, frJ_eq, fr_fix, fr_zip, fr_rng, forL_nil, forL_cons, forK_nx, forK_ct, forK_bk, forK_rt, t_fr, t_pas, t_brk, t_cnt, body_rt, body_nx, body_ex, op_addI, op_subI, op_mulI, op_fdivI, op_modI, op_powI, mkTup_small, alloc_small, idx_R, idxS_some, setH_R, setS_some, setX_some, len_R, lenS_some, len_rol, tup_R, tupS_some, all_R, allS_some, allK_some, src_R, srcS_some, m1J_R, m1S_some, app_R, appX_some, at_new, bls_nil, bls_cons, List.all_cons, List.all_nil, id_eq, Bool.and_true, Bool.and_self,  neg_I, not_B, cop_lt, cop_le, cop_gt, cop_ge, cop_eq, cop_ne, cop_isN, cop_notN, cop_isB, cop_notB, ofOpt_some, eqD_int, eqD_str, b1_lenT, b1_abs, b1_intI, b1_intB, b2_min, b2_max, isi_tup, isi_int, isi_bl, isi_str, idxK_some, idx_tup, idx_rol, atI_0, atI_1, atI_2, atI_3, atI_4, atI_5, atI_6, atI_7, atI_m1_1, atI_m1_2, atI_m2_2, atI_m1_3, atI_m2_3, atI_m3_3, atI_m1_4, atI_m2_4, atI_m3_4, atI_m1_5, atI_m2_5, atI_m3_5, atI_m1_6, atI_m2_6, atI_m3_6, tg_nm, tg_tp, tgs_nil, tgJ_some, tgs_cons, List.getElem?_cons_zero, List.getElem?_cons_succ, List.set_cons_zero, List.set_cons_succ, List.cons_append, List.nil_append, List.map_cons, List.map_nil, startD, List.length_cons, List.length_nil, List.replicate_succ, List.replicate_zero, Nat.reduceAdd, Nat.reduceSub, Int.reduceLE, Int.reduceLT, Int.reduceEq, Int.reduceNe, Nat.reduceLT, Nat.reduceEqDiff, Nat.reduceLeDiff, Int.reduceToNat, Int.reduceNeg, Int.reduceAdd, Int.reduceSub, Int.reduceMul, Int.reducePow, rng1_eq, rngD_0, rngD_s, op_powI, reduceCtorEq, decide_true, decide_false, eq_self, Int.cast_ofNat_Int, Nat.zero_add, Option.map_some, ne_eq, not_false_eq_true, Bool.not_true, Bool.not_false, isNonD, *])
local macro_rules | `(tactic| walk_at "cw0") => `(tactic| simp only [bnd_ok, bnd_exc, varR_some, kk2_eq, v_var, v_cst, v_tup, v_lst, v_bin, v_neg, v_not, andK_t, andK_f, orK_t, orK_f, v_and, v_or, v_cmp, chK_t, chK_f, chJ_eq, v_chain, iteK_t, iteK_f, v_ite, v_idx, slcK_eq, slcL_eq, slcJ_eq, v_slc, optK_int, o_none, o_some, v_rev, rev_tup, callK_eq, callJ_none, callJ_perm, callP_some, permL_nil, permL_cons, permC_some, v_call, v_b1, v_b2, isiK_eq, v_isi, v_m0, v_m1, compE_eq, comp_live, lenL_some, live_eq, liveK_some, liveJ_none, liveJ_some, liveH_some, liveH_none, fr_live, liveF_eq, liveFK_some, liveFJ_none, liveFJ_some, liveFH_nx, liveFH_ct, liveFH_bk, liveFH_rt, nil_get, comp_fix, comp_zip, comp_rng, turnC_eq, turnJ_some, turnK_t, turnK_f, yesK_eq, wipe_nil, wipe_cons, loopL_nil, loopL_cons, loopK_some, loopK_none, zipD_nil, zipD_nil2, zipD_cons, v_comp, es_nil, consJ_eq, consK_eq, es_cons, notJ_eq, andJ_t, andJ_f, orJ_t, orJ_f, b_not, b_and, b_or, b_cmp, b_chain, b_ite, b_var, b_cst, b_call, b_b1, b_isi, b_idx, b_bin, b_comp, ofBl_bl, tru_bl, tru_int, tru_tup, tru_non, c_none', c_some', srcK_tup, srcK_rol, w_var, w_cst, w_tup, w_lst, w_bin, w_idx, w_slc, w_call, w_comp, w_rng, rng2K_eq, w_rng2, zipK_tup, w_zip, w_enum, seqR_nx, seqR_rt, seqR_bk, seqR_ct, seqR_ex, ts_nil, ts_cons, rtE_ok, asgK_eq, t_asg, tgK_some, asgTK_eq, t_asgT, parJ_eq, parK_eq, t_par, par3H_eq, par3J_eq, par3K_eq, t_par3, setJ_eq, setK_eq, t_set, expK_eq, t_exp, retK_eq, t_ret, t_retN, ifK_t, ifK_f, t_if, t_whl, frB_eq, frJ_eq, fr_fix, fr_zip, fr_rng, forL_nil, forL_cons, forK_nx, forK_ct, forK_bk, forK_rt, t_fr, t_pas, t_brk, t_cnt, body_rt, body_nx, body_ex, op_addI, op_subI, op_mulI, op_fdivI, op_modI, op_powI, mkTup_small, alloc_small, idx_R, idxS_some, setH_R, setS_some, setX_some, len_R, lenS_some, len_rol, tup_R, tupS_some, all_R, allS_some, allK_some, src_R, srcS_some, m1J_R, m1S_some, app_R, appX_some, at_new, bls_nil, bls_cons, List.all_cons, List.all_nil, id_eq, Bool.and_true, Bool.and_self,  neg_I, not_B, cop_lt, cop_le, cop_gt, cop_ge, cop_eq, cop_ne, cop_isN, cop_notN, cop_isB, cop_notB, ofOpt_some, eqD_int, eqD_str, b1_lenT, b1_abs, b1_intI, b1_intB, b2_min, b2_max, isi_tup, isi_int, isi_bl, isi_str, idxK_some, idx_tup, idx_rol, atI_0, atI_1, atI_2, atI_3, atI_4, atI_5, atI_6, atI_7, atI_m1_1, atI_m1_2, atI_m2_2, atI_m1_3, atI_m2_3, atI_m3_3, atI_m1_4, atI_m2_4, atI_m3_4, atI_m1_5, atI_m2_5, atI_m3_5, atI_m1_6, atI_m2_6, atI_m3_6, tg_nm, tg_tp, tgs_nil, tgJ_some, tgs_cons, List.getElem?_cons_zero, List.getElem?_cons_succ, List.set_cons_zero, List.set_cons_succ, List.cons_append, List.nil_append, List.map_cons, List.map_nil, startD, List.length_cons, List.length_nil, List.replicate_succ, List.replicate_zero, Nat.reduceAdd, Nat.reduceSub, Int.reduceLE, Int.reduceLT, Int.reduceEq, Int.reduceNe, Nat.reduceLT, Nat.reduceEqDiff, Nat.reduceLeDiff, Int.reduceToNat, Int.reduceNeg, Int.reduceAdd, Int.reduceSub, Int.reduceMul, Int.reducePow, rng1_eq, rngD_0, rngD_s, op_powI, reduceCtorEq, decide_true, decide_false, eq_self, Int.cast_ofNat_Int, Nat.zero_add, Option.map_some, ne_eq, not_false_eq_true, Bool.not_true, Bool.not_false, isNonD])
/-! ### events -/
def evD (a b : Rat) : D := .tup [frD a, frD b]
section
variable {tab : Nat → Option Fd} {fu : Nat} {S : Store}
theorem num_pos {q : Rat} (h : 0 < q) : 0 < q.num := by
  have := (Rat.lt_iff 0 q).mp h
  simpa using this
theorem is_whole_ok (G : Sub tab) (k : Nat) (i : Int) : evC fu tab (k + 1) 43 [.int i] S = .ok (.bl true) S := by
  rw [evC_eq (G 43 _ rfl)]
  unfold tr_43
  clear G
  walk_at "cw"
theorem den_lt {q : Rat} {n : Nat} (hq : Sz q n) (hn : n < 9000) (hF : 2 ^ 9000 ≤ fu) : (q.den : Int).natAbs < fu := by
  have h := hq.den
  have h2 : 2 ^ n ≤ fu := Nat.le_trans (Nat.pow_le_pow_right (by decide) (Nat.le_of_lt hn)) hF
  rw [Int.natAbs_natCast]
  exact Nat.lt_of_lt_of_le h h2
theorem is_ratio_ok (G : Sub tab) (k : Nat) {q : Rat} {n : Nat} (hq : Sz q n) (hn : n < 9000) (hF : 2 ^ 9000 ≤ fu) : evC fu tab (k + 2) 39 [frD q] S = .ok (.bl true) (S ++ [.lst [.bl true, .bl true]]) := by
  rw [evC_eq (G 39 _ rfl)]
  unfold tr_39 frD
  have hw := fun (i : Int) (S : Store) => is_whole_ok (fu := fu) (S := S) G k i
  have hc := fun (S : Store) => common_ok (S := S) G k q.num q.den (den_lt hq hn hF)
  have hr : Nat.gcd q.num.natAbs (q.den : Int).natAbs = 1 := by rw [Int.natAbs_natCast]; exact q.reduced
  have h1 : (1 : Int) ≤ q.den := by have := q.den_pos; omega
  have hd := decide_eq_true h1
  rw [hr] at hc
  clear G hq hF hn hr h1
  walk_at "cw"
theorem is_tuple_ok (G : Sub tab) (k : Nat) (a b : D) : evC fu tab (k + 1) 40 [.tup [a, b], .int 2, .int 2] S = .ok (.bl true) S := by
  rw [evC_eq (G 40 _ rfl)]
  unfold tr_40
  clear G
  walk_at "cw"
theorem is_event_ok (G : Sub tab) (k : Nat) {a b : Rat} {n : Nat} (ha : Sz a n) (hb : Sz b n) (hn : n < 9000) (hF : 2 ^ 9000 ≤ fu) : evC fu tab (k + 3) 32 [evD a b] S = .ok (.bl true) (S ++ [.lst [.bl true, .bl true]] ++ [.lst [.bl true, .bl true]]) := by
  rw [evC_eq (G 32 _ rfl)]
  unfold tr_32 evD
  have ht := is_tuple_ok (fu := fu) (S := S) G (k + 1) (frD a) (frD b)
  have h1 := fun (S : Store) => is_ratio_ok (S := S) G k ha hn hF
  have h2 := fun (S : Store) => is_ratio_ok (S := S) G k hb hn hF
  clear G ha hb hn hF
  walk_at "cw"
theorem check_event_ok (G : Sub tab) (k : Nat) {a b : Rat} {n : Nat} (ha : Sz a n) (hb : Sz b n) (hn : n < 9000) (hF : 2 ^ 9000 ≤ fu) (S : Store) : ∃ J, evC fu tab (k + 4) 16 [evD a b] S = .ok .non (S ++ J) := by
  rw [evC_eq (G 16 _ rfl)]
  unfold tr_16
  have h1 := is_event_ok (S := S) G k ha hb hn hF
  clear G ha hb hn hF
  refine ⟨[.lst [.bl true, .bl true]] ++ [.lst [.bl true, .bl true]], ?_⟩
  walk_at "cw"
  simp
theorem is_factor_ok (G : Sub tab) (k : Nat) {q : Rat} {n : Nat} (hq : Sz q n) (h0 : 0 < q) (hn : n < 9000) (hF : 2 ^ 9000 ≤ fu) : evC fu tab (k + 3) 42 [frD q] S = .ok (.bl true) (S ++ [.lst [.bl true, .bl true]]) := by
  rw [evC_eq (G 42 _ rfl)]
  unfold tr_42
  have h1 := is_ratio_ok (S := S) G k hq hn hF
  have hd := decide_eq_true (num_pos h0)
  clear G hq hn hF
  unfold frD at *
  walk_at "cw"
theorem check_pace_ok (G : Sub tab) (k : Nat) {q : Rat} {n : Nat} (hq : Sz q n) (h0 : 0 < q) (hn : n < 9000) (hF : 2 ^ 9000 ≤ fu) (S : Store) : ∃ J, evC fu tab (k + 4) 35 [frD q] S = .ok .non (S ++ J) := by
  rw [evC_eq (G 35 _ rfl)]
  unfold tr_35
  have h1 := is_factor_ok (S := S) G k hq h0 hn hF
  clear G hq hn hF
  refine ⟨[.lst [.bl true, .bl true]], ?_⟩
  walk_at "cw"
theorem seen_event_ok (G : Sub tab) (k : Nat) {a b p : Rat} {n : Nat} (ha : Sz a n) (hb : Sz b n) (hp : Sz p n) (h0 : 0 < p) (hn : n + n < 9000) (hF : 2 ^ 9000 ≤ fu) : evC fu tab (k + 4) 34 [evD a b, frD p] S = .ok (evD (a / p) (b * p)) S := by
  rw [evC_eq (G 34 _ rfl)]
  unfold tr_34 evD
  have h1 := over_ok (S := S) G k ha hp (by intro z; subst z; exact absurd h0 (by decide)) hn hF
  have h2 := times_ok (S := S) G k hb hp hn hF
  clear G ha hb hp hn hF
  walk_at "cw"
theorem seen_ok (G : Sub tab) (k : Nat) {a b p : Rat} {n : Nat} (ha : Sz a n) (hb : Sz b n) (hp : Sz p n) (h0 : 0 < p) (hn : n + n < 9000) (hF : 2 ^ 9000 ≤ fu) (S : Store) : ∃ J, evC fu tab (k + 5) 18 [evD a b, frD p] S = .ok (evD (a / p) (b * p)) (S ++ J) := by
  rw [evC_eq (G 18 _ rfl)]
  unfold tr_18
  obtain ⟨J1, e1⟩ := check_event_ok G k ha hb (by omega) hF S
  obtain ⟨J2, e2⟩ := check_pace_ok G k hp h0 (by omega) hF (S ++ J1)
  have e3 := seen_event_ok (S := S ++ J1 ++ J2) G k ha hb hp h0 hn hF
  clear G ha hb hp hn hF
  refine ⟨J1 ++ J2, ?_⟩
  walk_at "cw"
  simp
theorem l_seen_ok (G : Sub tab) (k : Nat) {a b p : Rat} {n : Nat} (ha : Sz a n) (hb : Sz b n) (hp : Sz p n) (h0 : 0 < p) (hn : n + n < 9000) (hF : 2 ^ 9000 ≤ fu) : evC fu tab (k + 4) 22 [evD a b, frD p] S = .ok (evD (a / p) (b * p)) S := by
  rw [evC_eq (G 22 _ rfl)]
  unfold tr_22 evD
  have h1 := l_over_ok (S := S) G k ha hp (by intro z; subst z; exact absurd h0 (by decide)) hn hF
  have h2 := l_times_ok (S := S) G k hb hp hn hF
  clear G ha hb hp hn hF
  walk_at "cw"
theorem shifted_ok (G : Sub tab) (k : Nat) {a b c d : Rat} {n m : Nat} (ha : Sz a n) (hb : Sz b n) (hc : Sz c m) (hd : Sz d m) (hn : n + m < 9000) (hF : 2 ^ 9000 ≤ fu) (S : Store) : ∃ J, evC fu tab (k + 5) 20 [evD a b, evD c d] S = .ok (evD (a + c) (b + d)) (S ++ J) := by
  rw [evC_eq (G 20 _ rfl)]
  unfold tr_20
  obtain ⟨J1, e1⟩ := check_event_ok G k ha hb (by omega) hF S
  obtain ⟨J2, e2⟩ := check_event_ok G k hc hd (by omega) hF (S ++ J1)
  have h1 := fun S => plus_ok (S := S) G (k + 1) ha hc hn hF
  have h2 := fun S => plus_ok (S := S) G (k + 1) hb hd hn hF
  clear G ha hb hc hd hn hF
  unfold evD at *
  refine ⟨J1 ++ J2 ++ [.lst [frD (a + c), frD (b + d)]], ?_⟩
  walk_at "cw"
  simp
theorem l_shifted_ok (G : Sub tab) (k : Nat) {a b c d : Rat} {n m : Nat} (ha : Sz a n) (hb : Sz b n) (hc : Sz c m) (hd : Sz d m) (hn : n + m < 9000) (hF : 2 ^ 9000 ≤ fu) (S : Store) : ∃ J, evC fu tab (k + 4) 21 [evD a b, evD c d] S = .ok (evD (a + c) (b + d)) (S ++ J) := by
  rw [evC_eq (G 21 _ rfl)]
  unfold tr_21
  have h1 := fun S => l_plus_ok (S := S) G k ha hc hn hF
  have h2 := fun S => l_plus_ok (S := S) G k hb hd hn hF
  clear G ha hb hc hd hn hF
  unfold evD at *
  refine ⟨[.lst [frD (a + c), frD (b + d)]], ?_⟩
  walk_at "cw"
theorem more_in_ok (G : Sub tab) (k : Nat) {a b c d : Rat} {n m : Nat} (ha : Sz a n) (hb : Sz b n) (hc : Sz c m) (hd : Sz d m) (hn : m + n < 9000) (hF : 2 ^ 9000 ≤ fu) (S : Store) : ∃ J, evC fu tab (k + 4) 14 [evD a b, evD c d] S = .ok (evD (c - a) (d - b)) (S ++ J) := by
  rw [evC_eq (G 14 _ rfl)]
  unfold tr_14
  have h1 := fun S => less_ok (S := S) G k hc ha hn hF
  have h2 := fun S => less_ok (S := S) G k hd hb hn hF
  clear G ha hb hc hd hn hF
  unfold evD at *
  refine ⟨[.lst [frD (c - a), frD (d - b)]], ?_⟩
  walk_at "cw"
theorem l_more_ok (G : Sub tab) (k : Nat) {a b c d : Rat} {n m : Nat} (ha : Sz a n) (hb : Sz b n) (hc : Sz c m) (hd : Sz d m) (hn : m + n < 9000) (hF : 2 ^ 9000 ≤ fu) (S : Store) : ∃ J, evC fu tab (k + 4) 8 [evD a b, evD c d] S = .ok (evD (c - a) (d - b)) (S ++ J) := by
  rw [evC_eq (G 8 _ rfl)]
  unfold tr_8
  have h1 := fun S => l_less_ok (S := S) G k hc ha hn hF
  have h2 := fun S => l_less_ok (S := S) G k hd hb hn hF
  clear G ha hb hc hd hn hF
  unfold evD at *
  refine ⟨[.lst [frD (c - a), frD (d - b)]], ?_⟩
  walk_at "cw"
theorem mirrored_ok (G : Sub tab) (k : Nat) {a b : Rat} {n : Nat} (ha : Sz a n) (hb : Sz b n) (hn : n < 9000) (hF : 2 ^ 9000 ≤ fu) (S : Store) : ∃ J, evC fu tab (k + 5) 19 [evD a b] S = .ok (evD b a) (S ++ J) := by
  rw [evC_eq (G 19 _ rfl)]
  unfold tr_19
  obtain ⟨J1, e1⟩ := check_event_ok G k ha hb hn hF S
  clear G ha hb hn hF
  unfold evD at *
  exact ⟨J1, by walk_at "cw"⟩
end
end Cw
namespace Cw
open PySem PySem.Spec PyProof.Rows L2
local macro_rules | `(tactic| walk_at "cw") => `(tactic| simp only [bnd_ok, bnd_exc, varR_some, kk2_eq, v_var, v_cst, v_tup, v_lst, v_bin, v_neg, v_not, andK_t, andK_f, orK_t, orK_f, v_and, v_or, v_cmp, chK_t, chK_f, chJ_eq, v_chain, iteK_t, iteK_f, v_ite, v_idx, slcK_eq, slcL_eq, slcJ_eq, v_slc, optK_int, o_none, o_some, v_rev, rev_tup, callK_eq, callJ_none, callJ_perm, callP_some, permL_nil, permL_cons, permC_some, v_call, v_b1, v_b2, isiK_eq, v_isi, v_m0, v_m1, compE_eq, comp_live, lenL_some, live_eq, liveK_some, liveJ_none, liveJ_some, liveH_some, liveH_none, fr_live, liveF_eq, liveFK_some, liveFJ_none, liveFJ_some, liveFH_nx, liveFH_ct, liveFH_bk, liveFH_rt, nil_get, comp_fix, comp_zip, comp_rng, turnC_eq, turnJ_some, turnK_t, turnK_f, yesK_eq, wipe_nil, wipe_cons, loopL_nil, loopL_cons, loopK_some, loopK_none, zipD_nil, zipD_nil2, zipD_cons, v_comp, es_nil, consJ_eq, consK_eq, es_cons, notJ_eq, andJ_t, andJ_f, orJ_t, orJ_f, b_not, b_and, b_or, b_cmp, b_chain, b_ite, b_var, b_cst, b_call, b_b1, b_isi, b_idx, b_bin, b_comp, ofBl_bl, tru_bl, tru_int, tru_tup, tru_non, c_none', c_some', srcK_tup, srcK_rol, w_var, w_cst, w_tup, w_lst, w_bin, w_idx, w_slc, w_call, w_comp, w_rng, rng2K_eq, w_rng2, zipK_tup, w_zip, w_enum, seqR_nx, seqR_rt, seqR_bk, seqR_ct, seqR_ex, ts_nil, ts_cons, rtE_ok, asgK_eq, t_asg, tgK_some, asgTK_eq, t_asgT, parJ_eq, parK_eq, t_par, par3H_eq, par3J_eq, par3K_eq, t_par3, setJ_eq, setK_eq, t_set, expK_eq, t_exp, retK_eq, t_ret, t_retN, ifK_t, ifK_f, t_if, t_whl, frB_eq, frJ_eq, fr_fix, fr_zip, fr_rng, forL_nil, forL_cons, forK_nx, forK_ct, forK_bk, forK_rt, t_fr, t_pas, t_brk, t_cnt, body_rt, body_nx, body_ex, op_addI, op_subI, op_mulI, op_fdivI, op_modI, op_powI, mkTup_small, alloc_small, idx_R, idxS_some, setH_R, setS_some, setX_some, len_R, lenS_some, len_rol, tup_R, tupS_some, all_R, allS_some, allK_some, src_R, srcS_some, m1J_R, m1S_some, app_R, appX_some, at_new, bls_nil, bls_cons, List.all_cons, List.all_nil, id_eq, Bool.and_true, Bool.and_self,  neg_I, not_B, cop_lt, cop_le, cop_gt, cop_ge, cop_eq, cop_ne, cop_isN, cop_notN, cop_isB, cop_notB, ofOpt_some, eqD_int, eqD_str, b1_lenT, b1_abs, b1_intI, b1_intB, b2_min, b2_max, isi_tup, isi_int, isi_bl, isi_str, idxK_some, idx_tup, idx_rol, atI_0, atI_1, atI_2, atI_3, atI_4, atI_5, atI_6, atI_7, atI_m1_1, atI_m1_2, atI_m2_2, atI_m1_3, atI_m2_3, atI_m3_3, atI_m1_4, atI_m2_4, atI_m3_4, atI_m1_5, atI_m2_5, atI_m3_5, atI_m1_6, atI_m2_6, atI_m3_6, tg_nm, tg_tp, tgs_nil, tgJ_some, tgs_cons, List.getElem?_cons_zero, List.getElem?_cons_succ, List.set_cons_zero, List.set_cons_succ, List.cons_append, List.nil_append, List.map_cons, List.map_nil, startD, List.length_cons, List.length_nil, List.replicate_succ, List.replicate_zero, Nat.reduceAdd, Nat.reduceSub, Int.reduceLE, Int.reduceLT, Int.reduceEq, Int.reduceNe, Nat.reduceLT, Nat.reduceEqDiff, Nat.reduceLeDiff, Int.reduceToNat, Int.reduceNeg, Int.reduceAdd, Int.reduceSub, Int.reduceMul, Int.reducePow, rng1_eq, rngD_0, rngD_s, op_powI, reduceCtorEq, decide_true, decide_false, eq_self, Int.cast_ofNat_Int, Nat.zero_add, Option.map_some, ne_eq, not_false_eq_true, Bool.not_true, Bool.not_false, isNonD, *])
local macro_rules | `(tactic| walk_at "cw0") => `(tactic| simp only [bnd_ok, bnd_exc, varR_some, kk2_eq, v_var, v_cst, v_tup, v_lst, v_bin, v_neg, v_not, andK_t, andK_f, orK_t, orK_f, v_and, v_or, v_cmp, chK_t, chK_f, chJ_eq, v_chain, iteK_t, iteK_f, v_ite, v_idx, slcK_eq, slcL_eq, slcJ_eq, v_slc, optK_int, o_none, o_some, v_rev, rev_tup, callK_eq, callJ_none, callJ_perm, callP_some, permL_nil, permL_cons, permC_some, v_call, v_b1, v_b2, isiK_eq, v_isi, v_m0, v_m1, compE_eq, comp_live, lenL_some, live_eq, liveK_some, liveJ_none, liveJ_some, liveH_some, liveH_none, fr_live, liveF_eq, liveFK_some, liveFJ_none, liveFJ_some, liveFH_nx, liveFH_ct, liveFH_bk, liveFH_rt, nil_get, comp_fix, comp_zip, comp_rng, turnC_eq, turnJ_some, turnK_t, turnK_f, yesK_eq, wipe_nil, wipe_cons, loopL_nil, loopL_cons, loopK_some, loopK_none, zipD_nil, zipD_nil2, zipD_cons, v_comp, es_nil, consJ_eq, consK_eq, es_cons, notJ_eq, andJ_t, andJ_f, orJ_t, orJ_f, b_not, b_and, b_or, b_cmp, b_chain, b_ite, b_var, b_cst, b_call, b_b1, b_isi, b_idx, b_bin, b_comp, ofBl_bl, tru_bl, tru_int, tru_tup, tru_non, c_none', c_some', srcK_tup, srcK_rol, w_var, w_cst, w_tup, w_lst, w_bin, w_idx, w_slc, w_call, w_comp, w_rng, rng2K_eq, w_rng2, zipK_tup, w_zip, w_enum, seqR_nx, seqR_rt, seqR_bk, seqR_ct, seqR_ex, ts_nil, ts_cons, rtE_ok, asgK_eq, t_asg, tgK_some, asgTK_eq, t_asgT, parJ_eq, parK_eq, t_par, par3H_eq, par3J_eq, par3K_eq, t_par3, setJ_eq, setK_eq, t_set, expK_eq, t_exp, retK_eq, t_ret, t_retN, ifK_t, ifK_f, t_if, t_whl, frB_eq, frJ_eq, fr_fix, fr_zip, fr_rng, forL_nil, forL_cons, forK_nx, forK_ct, forK_bk, forK_rt, t_fr, t_pas, t_brk, t_cnt, body_rt, body_nx, body_ex, op_addI, op_subI, op_mulI, op_fdivI, op_modI, op_powI, mkTup_small, alloc_small, idx_R, idxS_some, setH_R, setS_some, setX_some, len_R, lenS_some, len_rol, tup_R, tupS_some, all_R, allS_some, allK_some, src_R, srcS_some, m1J_R, m1S_some, app_R, appX_some, at_new, bls_nil, bls_cons, List.all_cons, List.all_nil, id_eq, Bool.and_true, Bool.and_self,  neg_I, not_B, cop_lt, cop_le, cop_gt, cop_ge, cop_eq, cop_ne, cop_isN, cop_notN, cop_isB, cop_notB, ofOpt_some, eqD_int, eqD_str, b1_lenT, b1_abs, b1_intI, b1_intB, b2_min, b2_max, isi_tup, isi_int, isi_bl, isi_str, idxK_some, idx_tup, idx_rol, atI_0, atI_1, atI_2, atI_3, atI_4, atI_5, atI_6, atI_7, atI_m1_1, atI_m1_2, atI_m2_2, atI_m1_3, atI_m2_3, atI_m3_3, atI_m1_4, atI_m2_4, atI_m3_4, atI_m1_5, atI_m2_5, atI_m3_5, atI_m1_6, atI_m2_6, atI_m3_6, tg_nm, tg_tp, tgs_nil, tgJ_some, tgs_cons, List.getElem?_cons_zero, List.getElem?_cons_succ, List.set_cons_zero, List.set_cons_succ, List.cons_append, List.nil_append, List.map_cons, List.map_nil, startD, List.length_cons, List.length_nil, List.replicate_succ, List.replicate_zero, Nat.reduceAdd, Nat.reduceSub, Int.reduceLE, Int.reduceLT, Int.reduceEq, Int.reduceNe, Nat.reduceLT, Nat.reduceEqDiff, Nat.reduceLeDiff, Int.reduceToNat, Int.reduceNeg, Int.reduceAdd, Int.reduceSub, Int.reduceMul, Int.reducePow, rng1_eq, rngD_0, rngD_s, op_powI, reduceCtorEq, decide_true, decide_false, eq_self, Int.cast_ofNat_Int, Nat.zero_add, Option.map_some, ne_eq, not_false_eq_true, Bool.not_true, Bool.not_false, isNonD])
/-! ### what is shown; alike -/
def pyF (q : Rat) : PyData := .tuple [.int q.num, .int q.den]
def pyE (a b : Rat) : PyData := .tuple [pyF a, pyF b]
theorem shownAll_map : ∀ ds : List PyData, PyData.shownAll ds = ds.map PyData.shown
  | [] => rfl
  | d :: ds => by simp [PyData.shownAll, shownAll_map ds]
theorem shown_int {i : Int} (h : i.natAbs.log2 < 1920) : (PyData.int i).shown.length ≤ 1921 := PyProof.Rows.int_text_len_1921 h
theorem shown_tup {ds : List PyData} {B : Nat} (h : ∀ d ∈ ds, d.shown.length ≤ B) : (PyData.tuple ds).shown.length ≤ ds.length * (B + 2) + 3 := by
  have e : (PyData.tuple ds).shown = tupleText (PyData.shownAll ds) := by simp [PyData.shown]
  rw [e, shownAll_map]
  refine Nat.le_trans (tupleText_len_le _) ?_
  rw [List.length_map, List.map_map]
  have hs : ∀ l : List PyData, (∀ d ∈ l, d.shown.length ≤ B) → (l.map ((·.length) ∘ PyData.shown)).sum ≤ l.length * B := fun l => by
    induction l with
    | nil => intro _; simp
    | cons a r ih =>
      intro h
      have h1 := h a (by simp)
      have h2 := ih fun d hd => h d (by simp [hd])
      simp only [List.map_cons, List.sum_cons, List.length_cons, Function.comp, Nat.succ_mul] at *
      omega
  have := hs ds h
  rw [Nat.mul_add]
  omega
theorem repr_of {S : Store} {d : D} {p : PyData} (h : toPy S 40 d = some p) (s : p.showable = true) (hd : p.hasDict = false) (dp : p.depth ≤ 60) (l : p.shown.length ≤ 16777216) : evB1 .repr d S = .ok (.str p.shown) S := by
  simp only [evB1, h]
  rw [if_pos]
  rw [s, hd, decide_eq_true dp, decide_eq_true (show p.shown.length ≤ sizeLine from l)]
  rfl
theorem toPy_fr (S : Store) (q : Rat) : toPy S 40 (frD q) = some (pyF q) := rfl
theorem toPy_ev (S : Store) (a b : Rat) : toPy S 40 (evD a b) = some (pyE a b) := rfl
theorem log_num {q : Rat} {n : Nat} (hq : Sz q n) (hn : n < 1920) : q.num.natAbs.log2 < 1920 := Nat.lt_of_le_of_lt (log_lt hq.num) hn
theorem log_den {q : Rat} {n : Nat} (hq : Sz q n) (hn : n < 1920) : (q.den : Int).natAbs.log2 < 1920 := by
  rw [Int.natAbs_natCast]; exact Nat.lt_of_le_of_lt (log_lt hq.den) hn
theorem pyF_len {q : Rat} {n : Nat} (hq : Sz q n) (hn : n < 1920) : (pyF q).shown.length ≤ 3849 := by
  refine Nat.le_trans (shown_tup (B := 1921) fun d hd => ?_) (by simp)
  rcases List.mem_cons.mp hd with rfl | hd
  · exact shown_int (log_num hq hn)
  · rw [List.mem_singleton] at hd
    subst hd
    exact shown_int (log_den hq hn)
theorem pyE_len {a b : Rat} {n : Nat} (ha : Sz a n) (hb : Sz b n) (hn : n < 1920) : (pyE a b).shown.length ≤ 7705 := by
  refine Nat.le_trans (shown_tup (B := 3849) fun d hd => ?_) (by simp)
  rcases List.mem_cons.mp hd with rfl | hd
  · exact pyF_len ha hn
  · rw [List.mem_singleton] at hd
    subst hd
    exact pyF_len hb hn
theorem pyF_show {q : Rat} {n : Nat} (hq : Sz q n) (hn : n < 1920) : (pyF q).showable = true := by
  simp [pyF, PyData.showable, PyData.showableAll, log_num hq hn]
  simpa using log_den hq hn
theorem pyE_show {a b : Rat} {n : Nat} (ha : Sz a n) (hb : Sz b n) (hn : n < 1920) : (pyE a b).showable = true := by
  simp [pyE, PyData.showable, PyData.showableAll, pyF_show ha hn, pyF_show hb hn]
theorem pyF_dict (q : Rat) : (pyF q).hasDict = false := by simp [pyF, PyData.hasDict, PyData.hasDictAll]
theorem pyE_dict (a b : Rat) : (pyE a b).hasDict = false := by simp [pyE, PyData.hasDict, PyData.hasDictAll, pyF_dict]
theorem pyF_depth (q : Rat) : (pyF q).depth ≤ 60 := by simp [pyF, PyData.depth, PyData.depthAll]
theorem pyE_depth (a b : Rat) : (pyE a b).depth ≤ 60 := by simp [pyE, pyF, PyData.depth, PyData.depthAll]
theorem repr_fr {S : Store} {q : Rat} {n : Nat} (hq : Sz q n) (hn : n < 1920) : evB1 .repr (frD q) S = .ok (.str (pyF q).shown) S :=
  repr_of (toPy_fr S q) (pyF_show hq hn) (pyF_dict q) (pyF_depth q) (Nat.le_trans (pyF_len hq hn) (by decide))
theorem repr_ev {S : Store} {a b : Rat} {n : Nat} (ha : Sz a n) (hb : Sz b n) (hn : n < 1920) : evB1 .repr (evD a b) S = .ok (.str (pyE a b).shown) S :=
  repr_of (toPy_ev S a b) (pyE_show ha hb hn) (pyE_dict a b) (pyE_depth a b) (Nat.le_trans (pyE_len ha hb hn) (by decide))
theorem eqv_F (p q : Rat) : PyData.eqv (pyF p) (pyF q) = decide (p = q) := by
  rw [Bool.eq_iff_iff]
  simp [pyF, PyData.eqv, PyData.eqvAll]
  constructor
  · rintro ⟨h1, h2⟩
    exact Rat.ext h1 (by omega)
  · rintro rfl
    exact ⟨rfl, rfl⟩
theorem lay_F (p : Rat) : (pyF p).canLay0 = true := by simp [pyF, PyData.canLay0, PyData.canLayAll0]
theorem eqD_fr {S : Store} (p q : Rat) : eqD S (frD p) (frD q) = some (decide (p = q)) := by
  have e : eqD S (frD p) (frD q) = eqD0 S (frD p) (frD q) := eqD_old (by rintro ⟨a, b, h, _⟩; cases h)
  rw [e]
  unfold eqD0
  rw [toPy_fr, toPy_fr]
  dsimp only
  rw [if_pos, eqv_F]
  have h1 := pyF_depth p
  have h2 := pyF_depth q
  simp [SeqAt.shaped, lay_F]
  omega
theorem shaped_E (a b : Rat) : SeqAt.shaped (pyE a b) = true := by
  unfold SeqAt.shaped
  rw [Bool.and_eq_true]
  exact ⟨by simp [pyE, PyData.canLay0, PyData.canLayAll0, lay_F], decide_eq_true (Nat.le_trans (pyE_depth a b) (by decide))⟩
theorem eqD_ev {S : Store} (a b c d : Rat) : eqD S (evD a b) (evD c d) = some (decide (a = c ∧ b = d)) := by
  have e : eqD S (evD a b) (evD c d) = eqD0 S (evD a b) (evD c d) := eqD_old (by rintro ⟨a, b, h, _⟩; cases h)
  rw [e]
  unfold eqD0
  rw [toPy_ev, toPy_ev]
  dsimp only
  rw [if_pos]
  · congr 1
    rw [Bool.eq_iff_iff]
    simp [pyE, PyData.eqv, PyData.eqvAll, eqv_F]
  · rw [shaped_E, shaped_E]; rfl
/-! ### ahead, the own square -/
section
variable {tab : Nat → Option Fd} {fu : Nat} {S : Store}
theorem num_nn {q : Rat} (h : 0 ≤ q) : 0 ≤ q.num := Rat.num_nonneg.mpr h
theorem is_ahead_ok (G : Sub tab) (k : Nat) {a b c d : Rat} {n m : Nat} (ha : Sz a n) (hb : Sz b n) (hc : Sz c m) (hd : Sz d m) (hn : m + n < 9000) (hF : 2 ^ 9000 ≤ fu) (h0 : ¬ (a = c ∧ b = d)) (h1 : 0 ≤ c - a) (h2 : 0 ≤ d - b) (S : Store) :
    ∃ J, evC fu tab (k + 5) 15 [evD a b, evD c d] S = .ok (.bl true) (S ++ J) := by
  rw [evC_eq (G 15 _ rfl)]
  unfold tr_15
  obtain ⟨J, e1⟩ := more_in_ok G k ha hb hc hd hn hF S
  have e2 : eqD (S ++ J) (evD a b) (evD c d) = some false := by rw [eqD_ev, decide_eq_false h0]
  have d1 := decide_eq_true (num_nn h1)
  have d2 := decide_eq_true (num_nn h2)
  clear G ha hb hc hd hn hF h0 h1 h2
  refine ⟨J, ?_⟩
  rw [show evD (c - a) (d - b) = .tup [frD (c - a), frD (d - b)] from rfl] at e1
  have f1 : ∀ q, frD q = .tup [.int q.num, .int q.den] := fun _ => rfl
  generalize evD a b = x at *
  generalize evD c d = y at *
  walk_at "cw"
theorem own_square_ok (G : Sub tab) (k : Nat) {a b c d : Rat} {n m : Nat} (ha : Sz a n) (hb : Sz b n) (hc : Sz c m) (hd : Sz d m) (hn : (m + n + 1) + (m + n + 1) < 9000) (hF : 2 ^ 9000 ≤ fu) (h0 : ¬ (a = c ∧ b = d)) (h1 : 0 ≤ c - a) (h2 : 0 ≤ d - b) (S : Store) :
    ∃ J, evC fu tab (k + 6) 4 [evD a b, evD c d] S = .ok (frD ((c - a) * (d - b))) (S ++ J) := by
  rw [evC_eq (G 4 _ rfl)]
  unfold tr_4
  obtain ⟨J1, e1⟩ := check_event_ok G (k + 1) ha hb (by omega) hF S
  obtain ⟨J2, e2⟩ := check_event_ok G (k + 1) hc hd (by omega) hF (S ++ J1)
  obtain ⟨J3, e3⟩ := is_ahead_ok G k ha hb hc hd (by omega) hF h0 h1 h2 (S ++ J1 ++ J2)
  obtain ⟨J4, e4⟩ := more_in_ok G (k + 1) ha hb hc hd (by omega) hF (S ++ J1 ++ J2 ++ J3)
  have e5 := times_ok (S := S ++ J1 ++ J2 ++ J3 ++ J4) G (k + 2) (hc.sub ha) (hd.sub hb) hn hF
  clear G ha hb hc hd hn hF h0 h1 h2
  refine ⟨J1 ++ J2 ++ J3 ++ J4, ?_⟩
  rw [show evD (c - a) (d - b) = .tup [frD (c - a), frD (d - b)] from rfl] at e4
  generalize evD a b = x at *
  generalize evD c d = y at *
  walk_at "cw"
  simp
end
end Cw
namespace Cw
open PySem PySem.Spec PyProof.Rows L2
local macro_rules | `(tactic| walk_at "cw") => `(tactic| simp only [bnd_ok, bnd_exc, varR_some, kk2_eq, v_var, v_cst, v_tup, v_lst, v_bin, v_neg, v_not, andK_t, andK_f, orK_t, orK_f, v_and, v_or, v_cmp, chK_t, chK_f, chJ_eq, v_chain, iteK_t, iteK_f, v_ite, v_idx, slcK_eq, slcL_eq, slcJ_eq, v_slc, optK_int, o_none, o_some, v_rev, rev_tup, callK_eq, callJ_none, callJ_perm, callP_some, permL_nil, permL_cons, permC_some, v_call, v_b1, v_b2, isiK_eq, v_isi, v_m0, v_m1, compE_eq, comp_live, lenL_some, live_eq, liveK_some, liveJ_none, liveJ_some, liveH_some, liveH_none, fr_live, liveF_eq, liveFK_some, liveFJ_none, liveFJ_some, liveFH_nx, liveFH_ct, liveFH_bk, liveFH_rt, nil_get, comp_fix, comp_zip, comp_rng, turnC_eq, turnJ_some, turnK_t, turnK_f, yesK_eq, wipe_nil, wipe_cons, loopL_nil, loopL_cons, loopK_some, loopK_none, zipD_nil, zipD_nil2, zipD_cons, v_comp, es_nil, consJ_eq, consK_eq, es_cons, notJ_eq, andJ_t, andJ_f, orJ_t, orJ_f, b_not, b_and, b_or, b_cmp, b_chain, b_ite, b_var, b_cst, b_call, b_b1, b_isi, b_idx, b_bin, b_comp, ofBl_bl, tru_bl, tru_int, tru_tup, tru_non, c_none', c_some', srcK_tup, srcK_rol, w_var, w_cst, w_tup, w_lst, w_bin, w_idx, w_slc, w_call, w_comp, w_rng, rng2K_eq, w_rng2, zipK_tup, w_zip, w_enum, seqR_nx, seqR_rt, seqR_bk, seqR_ct, seqR_ex, ts_nil, ts_cons, rtE_ok, asgK_eq, t_asg, tgK_some, asgTK_eq, t_asgT, parJ_eq, parK_eq, t_par, par3H_eq, par3J_eq, par3K_eq, t_par3, setJ_eq, setK_eq, t_set, expK_eq, t_exp, retK_eq, t_ret, t_retN, ifK_t, ifK_f, t_if, t_whl, frB_eq, frJ_eq, fr_fix, fr_zip, fr_rng, forL_nil, forL_cons, forK_nx, forK_ct, forK_bk, forK_rt, t_fr, t_pas, t_brk, t_cnt, body_rt, body_nx, body_ex, op_addI, op_subI, op_mulI, op_fdivI, op_modI, op_powI, mkTup_small, alloc_small, idx_R, idxS_some, setH_R, setS_some, setX_some, len_R, lenS_some, len_rol, tup_R, tupS_some, all_R, allS_some, allK_some, src_R, srcS_some, m1J_R, m1S_some, app_R, appX_some, at_new, bls_nil, bls_cons, List.all_cons, List.all_nil, id_eq, Bool.and_true, Bool.and_self,  neg_I, not_B, cop_lt, cop_le, cop_gt, cop_ge, cop_eq, cop_ne, cop_isN, cop_notN, cop_isB, cop_notB, ofOpt_some, eqD_int, eqD_str, b1_lenT, b1_abs, b1_intI, b1_intB, b2_min, b2_max, isi_tup, isi_int, isi_bl, isi_str, idxK_some, idx_tup, idx_rol, atI_0, atI_1, atI_2, atI_3, atI_4, atI_5, atI_6, atI_7, atI_m1_1, atI_m1_2, atI_m2_2, atI_m1_3, atI_m2_3, atI_m3_3, atI_m1_4, atI_m2_4, atI_m3_4, atI_m1_5, atI_m2_5, atI_m3_5, atI_m1_6, atI_m2_6, atI_m3_6, tg_nm, tg_tp, tgs_nil, tgJ_some, tgs_cons, List.getElem?_cons_zero, List.getElem?_cons_succ, List.set_cons_zero, List.set_cons_succ, List.cons_append, List.nil_append, List.map_cons, List.map_nil, startD, List.length_cons, List.length_nil, List.replicate_succ, List.replicate_zero, Nat.reduceAdd, Nat.reduceSub, Int.reduceLE, Int.reduceLT, Int.reduceEq, Int.reduceNe, Nat.reduceLT, Nat.reduceEqDiff, Nat.reduceLeDiff, Int.reduceToNat, Int.reduceNeg, Int.reduceAdd, Int.reduceSub, Int.reduceMul, Int.reducePow, rng1_eq, rngD_0, rngD_s, op_powI, reduceCtorEq, decide_true, decide_false, eq_self, Int.cast_ofNat_Int, Nat.zero_add, Option.map_some, ne_eq, not_false_eq_true, Bool.not_true, Bool.not_false, isNonD, *])
local macro_rules | `(tactic| walk_at "cw0") => `(tactic| simp only [bnd_ok, bnd_exc, varR_some, kk2_eq, v_var, v_cst, v_tup, v_lst, v_bin, v_neg, v_not, andK_t, andK_f, orK_t, orK_f, v_and, v_or, v_cmp, chK_t, chK_f, chJ_eq, v_chain, iteK_t, iteK_f, v_ite, v_idx, slcK_eq, slcL_eq, slcJ_eq, v_slc, optK_int, o_none, o_some, v_rev, rev_tup, callK_eq, callJ_none, callJ_perm, callP_some, permL_nil, permL_cons, permC_some, v_call, v_b1, v_b2, isiK_eq, v_isi, v_m0, v_m1, compE_eq, comp_live, lenL_some, live_eq, liveK_some, liveJ_none, liveJ_some, liveH_some, liveH_none, fr_live, liveF_eq, liveFK_some, liveFJ_none, liveFJ_some, liveFH_nx, liveFH_ct, liveFH_bk, liveFH_rt, nil_get, comp_fix, comp_zip, comp_rng, turnC_eq, turnJ_some, turnK_t, turnK_f, yesK_eq, wipe_nil, wipe_cons, loopL_nil, loopL_cons, loopK_some, loopK_none, zipD_nil, zipD_nil2, zipD_cons, v_comp, es_nil, consJ_eq, consK_eq, es_cons, notJ_eq, andJ_t, andJ_f, orJ_t, orJ_f, b_not, b_and, b_or, b_cmp, b_chain, b_ite, b_var, b_cst, b_call, b_b1, b_isi, b_idx, b_bin, b_comp, ofBl_bl, tru_bl, tru_int, tru_tup, tru_non, c_none', c_some', srcK_tup, srcK_rol, w_var, w_cst, w_tup, w_lst, w_bin, w_idx, w_slc, w_call, w_comp, w_rng, rng2K_eq, w_rng2, zipK_tup, w_zip, w_enum, seqR_nx, seqR_rt, seqR_bk, seqR_ct, seqR_ex, ts_nil, ts_cons, rtE_ok, asgK_eq, t_asg, tgK_some, asgTK_eq, t_asgT, parJ_eq, parK_eq, t_par, par3H_eq, par3J_eq, par3K_eq, t_par3, setJ_eq, setK_eq, t_set, expK_eq, t_exp, retK_eq, t_ret, t_retN, ifK_t, ifK_f, t_if, t_whl, frB_eq, frJ_eq, fr_fix, fr_zip, fr_rng, forL_nil, forL_cons, forK_nx, forK_ct, forK_bk, forK_rt, t_fr, t_pas, t_brk, t_cnt, body_rt, body_nx, body_ex, op_addI, op_subI, op_mulI, op_fdivI, op_modI, op_powI, mkTup_small, alloc_small, idx_R, idxS_some, setH_R, setS_some, setX_some, len_R, lenS_some, len_rol, tup_R, tupS_some, all_R, allS_some, allK_some, src_R, srcS_some, m1J_R, m1S_some, app_R, appX_some, at_new, bls_nil, bls_cons, List.all_cons, List.all_nil, id_eq, Bool.and_true, Bool.and_self,  neg_I, not_B, cop_lt, cop_le, cop_gt, cop_ge, cop_eq, cop_ne, cop_isN, cop_notN, cop_isB, cop_notB, ofOpt_some, eqD_int, eqD_str, b1_lenT, b1_abs, b1_intI, b1_intB, b2_min, b2_max, isi_tup, isi_int, isi_bl, isi_str, idxK_some, idx_tup, idx_rol, atI_0, atI_1, atI_2, atI_3, atI_4, atI_5, atI_6, atI_7, atI_m1_1, atI_m1_2, atI_m2_2, atI_m1_3, atI_m2_3, atI_m3_3, atI_m1_4, atI_m2_4, atI_m3_4, atI_m1_5, atI_m2_5, atI_m3_5, atI_m1_6, atI_m2_6, atI_m3_6, tg_nm, tg_tp, tgs_nil, tgJ_some, tgs_cons, List.getElem?_cons_zero, List.getElem?_cons_succ, List.set_cons_zero, List.set_cons_succ, List.cons_append, List.nil_append, List.map_cons, List.map_nil, startD, List.length_cons, List.length_nil, List.replicate_succ, List.replicate_zero, Nat.reduceAdd, Nat.reduceSub, Int.reduceLE, Int.reduceLT, Int.reduceEq, Int.reduceNe, Nat.reduceLT, Nat.reduceEqDiff, Nat.reduceLeDiff, Int.reduceToNat, Int.reduceNeg, Int.reduceAdd, Int.reduceSub, Int.reduceMul, Int.reducePow, rng1_eq, rngD_0, rngD_s, op_powI, reduceCtorEq, decide_true, decide_false, eq_self, Int.cast_ofNat_Int, Nat.zero_add, Option.map_some, ne_eq, not_false_eq_true, Bool.not_true, Bool.not_false, isNonD])
/-! ### draws -/
structure Pot (n : Nat) (S : Store) (m : Nat) : Prop where
  ex : ∃ a b c : Int, S[n]? = some (.lst [.int a, .int b, .int c]) ∧ 0 ≤ a ∧ 0 ≤ b ∧ b < 2 ^ 62 ∧ 0 ≤ c ∧ c ≤ m
/-- all but that place stands -/
structure Fm (n : Nat) (S S' : Store) : Prop where
  len : S.length ≤ S'.length
  at_ : ∀ i, i ≠ n → i < S.length → S'[i]? = S[i]?
theorem Fm.refl (n : Nat) (S : Store) : Fm n S S := ⟨Nat.le_refl _, fun _ _ _ => rfl⟩
theorem Fm.trans {n : Nat} {S S1 S2 : Store} (a : Fm n S S1) (b : Fm n S1 S2) : Fm n S S2 :=
  ⟨Nat.le_trans a.len b.len, fun i h1 h2 => (b.at_ i h1 (Nat.lt_of_lt_of_le h2 a.len)).trans (a.at_ i h1 h2)⟩
theorem Fm.app (n : Nat) (S J : Store) : Fm n S (S ++ J) := ⟨by simp, fun i _ h => List.getElem?_append_left h⟩
theorem Fm.set (n : Nat) (S : Store) (o : SO) : Fm n S (S.set n o) := ⟨by simp, fun i h _ => List.getElem?_set_ne (Ne.symm h)⟩
theorem Fm.get {n i : Nat} {S S' : Store} {o : SO} (f : Fm n S S') (h : S[i]? = some o) (hi : i ≠ n) : S'[i]? = some o := by
  rw [f.at_ i hi (List.getElem?_eq_some_iff.mp h).1]; exact h
theorem Pot.lt {n : Nat} {S : Store} {m : Nat} (p : Pot n S m) : n < S.length := by
  obtain ⟨a, b, c, h, _⟩ := p.ex
  exact (List.getElem?_eq_some_iff.mp h).1
theorem Pot.app {n : Nat} {S : Store} {m : Nat} (p : Pot n S m) (J : Store) : Pot n (S ++ J) m := by
  obtain ⟨a, b, c, h, r⟩ := p.ex
  exact ⟨a, b, c, by rw [List.getElem?_append_left (List.getElem?_eq_some_iff.mp h).1]; exact h, r⟩
theorem Pot.mono {n : Nat} {S : Store} {m m' : Nat} (p : Pot n S m) (h : m ≤ m') : Pot n S m' := by
  obtain ⟨a, b, c, h1, h2, h3, h4, h5, h6⟩ := p.ex
  exact ⟨a, b, c, h1, h2, h3, h4, h5, by omega⟩
/-- a changed list elsewhere -/
theorem Pot.other {n j : Nat} {S : Store} {m : Nat} (p : Pot n S m) (h : j ≠ n) (o : SO) : Pot n (S.set j o) m := by
  obtain ⟨a, b, c, h1, r⟩ := p.ex
  exact ⟨a, b, c, by rw [List.getElem?_set_ne h]; exact h1, r⟩
theorem natAbs_lt {a : Int} {n : Nat} (h1 : -(2 ^ n : Nat) < a) (h2 : a < (2 ^ n : Nat)) : a.natAbs < 2 ^ n := by omega
theorem okMul_nn {a b : Int} {x y : Nat} (ha : 0 ≤ a) (ha2 : a < (2 ^ x : Nat)) (hb : 0 ≤ b) (hb2 : b < (2 ^ y : Nat)) (h : x + y < 1000000) : okMul a b = true :=
  okMul_of (n := x) (m := y) (by omega) (by omega) h
theorem ix0 (a b c : D) : ixN [a, b, c].length 0 = some 0 := rfl
theorem ix2 (a b c : D) : ixN [a, b, c].length 2 = some 2 := rfl
theorem ix0' : ixN 3 0 = some 0 := rfl
theorem ix2' : ixN 3 2 = some 2 := rfl
section
variable {tab : Nat → Option Fd} {fu : Nat}
/-- the law's own draw of a number below u -/
def TakeOk (tab : Nat → Option Fd) : Prop := ∀ (fu k n m : Nat) (S : Store), Pot n S m → m < 2 ^ 60 → ∀ u : Int, 1 ≤ u → u < 2 ^ 1000 →
    ∃ d S', evC fu tab (k + 1) 23 [.ref n, .int u] S = .ok (.int d) S' ∧ 0 ≤ d ∧ d < u ∧ Pot n S' (m + 1) ∧ Fm n S S'
theorem take_ok (T : TakeOk tab) (k : Nat) {n m : Nat} {S : Store} (p : Pot n S m) (hm : m < 2 ^ 60) {u : Int} (hu : 1 ≤ u) (hu2 : u < 2 ^ 1000) :
    ∃ d S', evC fu tab (k + 1) 23 [.ref n, .int u] S = .ok (.int d) S' ∧ 0 ≤ d ∧ d < u ∧ Pot n S' (m + 1) ∧ Fm n S S' := T fu k n m S p hm u hu hu2
theorem of_ok (G : Sub tab) (T : TakeOk tab) (k : Nat) {n m j : Nat} {S : Store} {xs : List D} (p : Pot n S m) (hm : m < 2 ^ 60) (hj : S[j]? = some (.lst xs)) (hjn : j ≠ n) (h1 : 1 ≤ xs.length) (h2 : xs.length ≤ 1000) :
    ∃ x S', x ∈ xs ∧ evC fu tab (k + 2) 24 [.ref n, .ref j] S = .ok x S' ∧ Pot n S' (m + 1) ∧ Fm n S S' := by
  obtain ⟨d, S1, e1, d0, d1, p1, f1⟩ := take_ok (fu := fu) T k p hm (u := (xs.length : Int)) (by omega) (Int.lt_of_le_of_lt (show (xs.length : Int) ≤ 1000 by omega) (by decide))
  have hx : d.toNat < xs.length := by omega
  refine ⟨xs[d.toNat], S1, List.getElem_mem hx, ?_, p1, f1⟩
  rw [evC_eq (G 24 _ rfl)]
  unfold tr_24
  have hj2 := f1.get hj hjn
  have ha : L2.atI xs d = some xs[d.toNat] := by rw [atI_nn d0, List.getElem?_eq_getElem hx]
  generalize xs[d.toNat] = x at *
  clear G T p p1 f1 hm hjn h1 h2 d0 d1 hx
  walk_at "cw"
theorem pos_of {q : Rat} (h : 0 < q.num) : 0 < q := by
  rw [Rat.lt_iff]
  simpa using h
/-- a small positive quotient -/
structure Pc (x : D) (b : Nat) : Prop where
  ex : ∃ q : Rat, x = frD q ∧ 0 < q ∧ Sz q b
theorem pc_lit {a : Int} {b : Nat} (h0 : b ≠ 0) (hc : a.natAbs.Coprime b) (hp : 0 < a) (h1 : a.natAbs < 2 ^ 4) (h2 : b < 2 ^ 4) : Pc (.tup [.int a, .int b]) 4 :=
  ⟨⟨⟨a, b, h0, hc⟩, rfl, pos_of hp, h1, h2⟩⟩
theorem frac_pace_ok (G : Sub tab) (T : TakeOk tab) (k : Nat) {n m : Nat} {S : Store} (p : Pot n S m) (hm : m < 2 ^ 60) : ∃ q S', evC fu tab (k + 3) 11 [.ref n] S = .ok (frD q) S' ∧ 0 < q ∧ Sz q 4 ∧ Pot n S' (m + 1) ∧ Fm n S S' := by
  have hl := p.lt
  obtain ⟨x, S1, hx, e1, p1, f1⟩ := of_ok (fu := fu) G T k (p.app [.lst [.tup [.int 1, .int 1], .tup [.int 2, .int 1], .tup [.int 1, .int 2], .tup [.int 3, .int 2], .tup [.int 2, .int 3], .tup [.int 3, .int 1], .tup [.int 1, .int 3], .tup [.int 5, .int 3], .tup [.int 4, .int 5]]]) hm (j := S.length) (at_new _) (by omega) (by decide) (by decide)
  have hp : Pc x 4 := by
    simp only [List.mem_cons, List.not_mem_nil, or_false] at hx
    rcases hx with rfl | rfl | rfl | rfl | rfl | rfl | rfl | rfl | rfl <;> exact pc_lit (by decide) (by decide) (by decide) (by decide) (by decide)
  obtain ⟨q, rfl, q0, qs⟩ := hp.ex
  refine ⟨q, S1, ?_, q0, qs, p1, (Fm.app _ _ _).trans f1⟩
  rw [evC_eq (G 11 _ rfl)]
  unfold tr_11
  clear G T p p1 f1 hm hl hx
  walk_at "cw"
theorem frac_time_ok (G : Sub tab) (T : TakeOk tab) (k : Nat) {n m : Nat} {S : Store} (p : Pot n S m) (hm : m < 2 ^ 60) : ∃ q S', evC fu tab (k + 3) 28 [.ref n] S = .ok (frD q) S' ∧ 0 < q ∧ Sz q 4 ∧ Pot n S' (m + 1) ∧ Fm n S S' := by
  have hl := p.lt
  obtain ⟨x, S1, hx, e1, p1, f1⟩ := of_ok (fu := fu) G T k (p.app [.lst [.tup [.int 1, .int 1], .tup [.int 2, .int 1], .tup [.int 3, .int 1], .tup [.int 1, .int 2], .tup [.int 3, .int 2], .tup [.int 5, .int 1], .tup [.int 1, .int 3], .tup [.int 7, .int 3], .tup [.int 12, .int 1]]]) hm (j := S.length) (at_new _) (by omega) (by decide) (by decide)
  have hp : Pc x 4 := by
    simp only [List.mem_cons, List.not_mem_nil, or_false] at hx
    rcases hx with rfl | rfl | rfl | rfl | rfl | rfl | rfl | rfl | rfl <;> exact pc_lit (by decide) (by decide) (by decide) (by decide) (by decide)
  obtain ⟨q, rfl, q0, qs⟩ := hp.ex
  refine ⟨q, S1, ?_, q0, qs, p1, (Fm.app _ _ _).trans f1⟩
  rw [evC_eq (G 28 _ rfl)]
  unfold tr_28
  clear G T p p1 f1 hm hl hx
  walk_at "cw"
theorem frac_drawn_ok (G : Sub tab) (T : TakeOk tab) (k : Nat) {n m : Nat} {S : Store} (p : Pot n S m) (hm : m + 1 < 2 ^ 60) {lo hi : Int} (h1 : -1000 ≤ lo) (h2 : lo ≤ hi) (h3 : hi ≤ 1000) (hF : 2 ^ 9000 ≤ fu) :
    ∃ q S', evC fu tab (k + 3) 29 [.ref n, .int lo, .int hi] S = .ok (frD q) S' ∧ Sz q 14 ∧ Pot n S' (m + 2) ∧ Fm n S S' := by
  have hl := p.lt
  obtain ⟨x, S1, hx, e1, p1, f1⟩ := of_ok (fu := fu) G T k (p.app [.lst [.int 1, .int 1, .int 1, .int 2, .int 3, .int 5]]) (by omega) (j := S.length) (at_new _) (by omega) (by decide) (by decide)
  obtain ⟨b, rfl, b1, b2⟩ : ∃ b : Int, x = .int b ∧ 1 ≤ b ∧ b ≤ 5 := by
    simp only [List.mem_cons, List.not_mem_nil, or_false] at hx
    rcases hx with rfl | rfl | rfl | rfl | rfl | rfl <;> exact ⟨_, rfl, by decide, by decide⟩
  have w1 : 0 ≤ (hi - lo) * b := Int.mul_nonneg (by omega) (by omega)
  have w2 : (hi - lo) * b ≤ 2000 * 5 := Int.mul_le_mul (by omega) b2 (by omega) (by decide)
  have w3 : -5000 ≤ lo * b := by
    have h := Int.mul_le_mul_of_nonneg_right h1 (show 0 ≤ b by omega)
    omega
  have w4 : lo * b ≤ 5000 := by
    have h := Int.mul_le_mul_of_nonneg_right (show lo ≤ 1000 by omega) (show 0 ≤ b by omega)
    omega
  obtain ⟨d, S2, e2, d0, d1, p2, f2⟩ := take_ok (fu := fu) T (k + 1) p1 hm (u := (hi - lo) * b + 1) (by omega) (Int.lt_of_le_of_lt (show (hi - lo) * b + 1 ≤ 20000 by omega) (by decide))
  have e3 := l_frac_ok (S := S2) (fu := fu) G k (t := lo * b + d) (b := b) (n := 14) (by omega) (by omega) (by decide) hF
  refine ⟨Rat.divInt (lo * b + d) b, S2, ?_, divInt_sz (by omega) (by omega) (by omega), p2, ((Fm.app _ _ _).trans f1).trans f2⟩
  have o1 : okMul lo b = true := okMul_of (n := 14) (m := 14) (by omega) (by omega) (by decide)
  have o2 : okMul (hi - lo) b = true := okMul_of (n := 14) (m := 14) (by omega) (by omega) (by decide)
  rw [evC_eq (G 29 _ rfl)]
  unfold tr_29
  clear G T p p1 p2 f1 f2 hm hl hx h1 h2 h3 w1 w2 w3 w4 d0 d1 b1 b2 hF
  walk_at "cw"
theorem event_drawn_ok (G : Sub tab) (T : TakeOk tab) (k : Nat) {n m : Nat} {S : Store} (p : Pot n S m) (hm : m + 3 < 2 ^ 60) (hF : 2 ^ 9000 ≤ fu) :
    ∃ a b S', evC fu tab (k + 4) 12 [.ref n] S = .ok (evD a b) S' ∧ Sz a 14 ∧ Sz b 14 ∧ Pot n S' (m + 4) ∧ Fm n S S' := by
  obtain ⟨a, S1, e1, s1, p1, f1⟩ := frac_drawn_ok (fu := fu) G T k p (by omega) (lo := -6) (hi := 6) (by decide) (by decide) (by decide) hF
  obtain ⟨b, S2, e2, s2, p2, f2⟩ := frac_drawn_ok (fu := fu) G T k p1 (by omega) (lo := -6) (hi := 6) (by decide) (by decide) (by decide) hF
  refine ⟨a, b, S2, ?_, s1, s2, p2, f1.trans f2⟩
  rw [evC_eq (G 12 _ rfl)]
  unfold tr_12 evD
  clear G T p p1 p2 f1 f2 hm hF s1 s2
  walk_at "cw"
theorem gone_ok (G : Sub tab) (k : Nat) {a b p t : Rat} {n : Nat} {S : Store} (ha : Sz a n) (hb : Sz b n) (hp : Sz p 4) (ht : Sz t 4) (h0 : 0 < p) (hn : n + 8 < 9000) (hF : 2 ^ 9000 ≤ fu) :
    evC fu tab (k + 4) 27 [evD a b, frD p, frD t] S = .ok (evD (a + p * t) (b + t / p)) S := by
  have hp0 : p ≠ 0 := by intro z; subst z; exact absurd h0 (by decide)
  have e1 := l_times_ok (S := S) (fu := fu) G k hp ht (by decide) hF
  have e2 := l_over_ok (S := S) (fu := fu) G k ht hp hp0 (by decide) hF
  have e3 := l_plus_ok (S := S) (fu := fu) G k ha (hp.mul ht) (by omega) hF
  have e4 := l_plus_ok (S := S) (fu := fu) G k hb (ht.div hp hp0) (by omega) hF
  rw [evC_eq (G 27 _ rfl)]
  unfold tr_27 evD
  clear G ha hb hp ht h0 hn hF hp0
  walk_at "cw"
end
end Cw
namespace Cw
open PySem PySem.Spec PyProof.Rows L2
/-! ### events as they stand -/
section
variable {S : Store} {ρ : Env}
theorem i_ev0 (a b : Rat) : evIdx (evD a b) (.int 0) S = .ok (frD a) S := rfl
theorem i_ev1 (a b : Rat) : evIdx (evD a b) (.int 1) S = .ok (frD b) S := rfl
theorem i_fr0 (a : Rat) : evIdx (frD a) (.int 0) S = .ok (.int a.num) S := rfl
theorem i_fr1 (a : Rat) : evIdx (frD a) (.int 1) S = .ok (.int a.den) S := rfl
theorem s_ev (a b : Rat) : srcK (evD a b) S = .ok (.fix [frD a, frD b]) S := rfl
theorem g_fr (t u : Tg) (a : Rat) : evTg (.tp [t, u]) (frD a) ρ = evTgs [t, u] [.int a.num, .int a.den] ρ := rfl
theorem g_ev (t u : Tg) (a b : Rat) : evTg (.tp [t, u]) (evD a b) ρ = evTgs [t, u] [frD a, frD b] ρ := rfl
theorem r_ev (a b : Rat) : evRev (evD a b) S = .ok (evD b a) S := rfl
theorem k_ev (a b : Rat) : D.tup [frD a, frD b] = evD a b := rfl
theorem k_one : D.tup [.int 1, .int 1] = frD 1 := rfl
theorem k_zero : D.tup [.int 0, .int 1] = frD 0 := rfl
end
local macro_rules | `(tactic| walk_at "cw") => `(tactic| simp only [bnd_ok, bnd_exc, varR_some, kk2_eq, v_var, v_cst, v_tup, v_lst, v_bin, v_neg, v_not, andK_t, andK_f, orK_t, orK_f, v_and, v_or, v_cmp, chK_t, chK_f, chJ_eq, v_chain, iteK_t, iteK_f, v_ite, v_idx, slcK_eq, slcL_eq, slcJ_eq, v_slc, optK_int, o_none, o_some, v_rev, rev_tup, callK_eq, callJ_none, callJ_perm, callP_some, permL_nil, permL_cons, permC_some, v_call, v_b1, v_b2, isiK_eq, v_isi, v_m0, v_m1, compE_eq, comp_live, lenL_some, live_eq, liveK_some, liveJ_none, liveJ_some, liveH_some, liveH_none, fr_live, liveF_eq, liveFK_some, liveFJ_none, liveFJ_some, liveFH_nx, liveFH_ct, liveFH_bk, liveFH_rt, nil_get, comp_fix, comp_zip, comp_rng, turnC_eq, turnJ_some, turnK_t, turnK_f, yesK_eq, wipe_nil, wipe_cons, loopL_nil, loopL_cons, loopK_some, loopK_none, zipD_nil, zipD_nil2, zipD_cons, v_comp, es_nil, consJ_eq, consK_eq, es_cons, notJ_eq, andJ_t, andJ_f, orJ_t, orJ_f, b_not, b_and, b_or, b_cmp, b_chain, b_ite, b_var, b_cst, b_call, b_b1, b_isi, b_idx, b_bin, b_comp, ofBl_bl, tru_bl, tru_int, tru_tup, tru_non, c_none', c_some', srcK_tup, srcK_rol, w_var, w_cst, w_tup, w_lst, w_bin, w_idx, w_slc, w_call, w_comp, w_rng, rng2K_eq, w_rng2, zipK_tup, w_zip, w_enum, seqR_nx, seqR_rt, seqR_bk, seqR_ct, seqR_ex, ts_nil, ts_cons, rtE_ok, asgK_eq, t_asg, tgK_some, asgTK_eq, t_asgT, parJ_eq, parK_eq, t_par, par3H_eq, par3J_eq, par3K_eq, t_par3, setJ_eq, setK_eq, t_set, expK_eq, t_exp, retK_eq, t_ret, t_retN, ifK_t, ifK_f, t_if, t_whl, frB_eq, frJ_eq, fr_fix, fr_zip, fr_rng, forL_nil, forL_cons, forK_nx, forK_ct, forK_bk, forK_rt, t_fr, t_pas, t_brk, t_cnt, body_rt, body_nx, body_ex, op_addI, op_subI, op_mulI, op_fdivI, op_modI, op_powI, mkTup_small, alloc_small, idx_R, idxS_some, setH_R, setS_some, setX_some, len_R, lenS_some, len_rol, tup_R, tupS_some, all_R, allS_some, allK_some, src_R, srcS_some, m1J_R, m1S_some, app_R, appX_some, at_new, bls_nil, bls_cons, List.all_cons, List.all_nil, id_eq, Bool.and_true, Bool.and_self,  neg_I, not_B, cop_lt, cop_le, cop_gt, cop_ge, cop_eq, cop_ne, cop_isN, cop_notN, cop_isB, cop_notB, ofOpt_some, eqD_int, eqD_str, b1_lenT, b1_abs, b1_intI, b1_intB, b2_min, b2_max, isi_tup, isi_int, isi_bl, isi_str, idxK_some, idx_tup, idx_rol, atI_0, atI_1, atI_2, atI_3, atI_4, atI_5, atI_6, atI_7, atI_m1_1, atI_m1_2, atI_m2_2, atI_m1_3, atI_m2_3, atI_m3_3, atI_m1_4, atI_m2_4, atI_m3_4, atI_m1_5, atI_m2_5, atI_m3_5, atI_m1_6, atI_m2_6, atI_m3_6, tg_nm, tg_tp, tgs_nil, tgJ_some, tgs_cons, List.getElem?_cons_zero, List.getElem?_cons_succ, List.set_cons_zero, List.set_cons_succ, List.cons_append, List.nil_append, List.map_cons, List.map_nil, startD, List.length_cons, List.length_nil, List.replicate_succ, List.replicate_zero, Nat.reduceAdd, Nat.reduceSub, Int.reduceLE, Int.reduceLT, Int.reduceEq, Int.reduceNe, Nat.reduceLT, Nat.reduceEqDiff, Nat.reduceLeDiff, Int.reduceToNat, Int.reduceNeg, Int.reduceAdd, Int.reduceSub, Int.reduceMul, Int.reducePow, rng1_eq, rngD_0, rngD_s, op_powI, reduceCtorEq, decide_true, decide_false, eq_self, Int.cast_ofNat_Int, Nat.zero_add, Option.map_some, ne_eq, not_false_eq_true, Bool.not_true, Bool.not_false, isNonD, i_ev0, i_ev1, i_fr0, i_fr1, s_ev, g_fr, g_ev, r_ev, k_ev, k_one, k_zero, *])
local macro_rules | `(tactic| walk_at "cw0") => `(tactic| simp only [bnd_ok, bnd_exc, varR_some, kk2_eq, v_var, v_cst, v_tup, v_lst, v_bin, v_neg, v_not, andK_t, andK_f, orK_t, orK_f, v_and, v_or, v_cmp, chK_t, chK_f, chJ_eq, v_chain, iteK_t, iteK_f, v_ite, v_idx, slcK_eq, slcL_eq, slcJ_eq, v_slc, optK_int, o_none, o_some, v_rev, rev_tup, callK_eq, callJ_none, callJ_perm, callP_some, permL_nil, permL_cons, permC_some, v_call, v_b1, v_b2, isiK_eq, v_isi, v_m0, v_m1, compE_eq, comp_live, lenL_some, live_eq, liveK_some, liveJ_none, liveJ_some, liveH_some, liveH_none, fr_live, liveF_eq, liveFK_some, liveFJ_none, liveFJ_some, liveFH_nx, liveFH_ct, liveFH_bk, liveFH_rt, nil_get, comp_fix, comp_zip, comp_rng, turnC_eq, turnJ_some, turnK_t, turnK_f, yesK_eq, wipe_nil, wipe_cons, loopL_nil, loopL_cons, loopK_some, loopK_none, zipD_nil, zipD_nil2, zipD_cons, v_comp, es_nil, consJ_eq, consK_eq, es_cons, notJ_eq, andJ_t, andJ_f, orJ_t, orJ_f, b_not, b_and, b_or, b_cmp, b_chain, b_ite, b_var, b_cst, b_call, b_b1, b_isi, b_idx, b_bin, b_comp, ofBl_bl, tru_bl, tru_int, tru_tup, tru_non, c_none', c_some', srcK_tup, srcK_rol, w_var, w_cst, w_tup, w_lst, w_bin, w_idx, w_slc, w_call, w_comp, w_rng, rng2K_eq, w_rng2, zipK_tup, w_zip, w_enum, seqR_nx, seqR_rt, seqR_bk, seqR_ct, seqR_ex, ts_nil, ts_cons, rtE_ok, asgK_eq, t_asg, tgK_some, asgTK_eq, t_asgT, parJ_eq, parK_eq, t_par, par3H_eq, par3J_eq, par3K_eq, t_par3, setJ_eq, setK_eq, t_set, expK_eq, t_exp, retK_eq, t_ret, t_retN, ifK_t, ifK_f, t_if, t_whl, frB_eq, frJ_eq, fr_fix, fr_zip, fr_rng, forL_nil, forL_cons, forK_nx, forK_ct, forK_bk, forK_rt, t_fr, t_pas, t_brk, t_cnt, body_rt, body_nx, body_ex, op_addI, op_subI, op_mulI, op_fdivI, op_modI, op_powI, mkTup_small, alloc_small, idx_R, idxS_some, setH_R, setS_some, setX_some, len_R, lenS_some, len_rol, tup_R, tupS_some, all_R, allS_some, allK_some, src_R, srcS_some, m1J_R, m1S_some, app_R, appX_some, at_new, bls_nil, bls_cons, List.all_cons, List.all_nil, id_eq, Bool.and_true, Bool.and_self,  neg_I, not_B, cop_lt, cop_le, cop_gt, cop_ge, cop_eq, cop_ne, cop_isN, cop_notN, cop_isB, cop_notB, ofOpt_some, eqD_int, eqD_str, b1_lenT, b1_abs, b1_intI, b1_intB, b2_min, b2_max, isi_tup, isi_int, isi_bl, isi_str, idxK_some, idx_tup, idx_rol, atI_0, atI_1, atI_2, atI_3, atI_4, atI_5, atI_6, atI_7, atI_m1_1, atI_m1_2, atI_m2_2, atI_m1_3, atI_m2_3, atI_m3_3, atI_m1_4, atI_m2_4, atI_m3_4, atI_m1_5, atI_m2_5, atI_m3_5, atI_m1_6, atI_m2_6, atI_m3_6, tg_nm, tg_tp, tgs_nil, tgJ_some, tgs_cons, List.getElem?_cons_zero, List.getElem?_cons_succ, List.set_cons_zero, List.set_cons_succ, List.cons_append, List.nil_append, List.map_cons, List.map_nil, startD, List.length_cons, List.length_nil, List.replicate_succ, List.replicate_zero, Nat.reduceAdd, Nat.reduceSub, Int.reduceLE, Int.reduceLT, Int.reduceEq, Int.reduceNe, Nat.reduceLT, Nat.reduceEqDiff, Nat.reduceLeDiff, Int.reduceToNat, Int.reduceNeg, Int.reduceAdd, Int.reduceSub, Int.reduceMul, Int.reducePow, rng1_eq, rngD_0, rngD_s, op_powI, reduceCtorEq, decide_true, decide_false, eq_self, Int.cast_ofNat_Int, Nat.zero_add, Option.map_some, ne_eq, not_false_eq_true, Bool.not_true, Bool.not_false, isNonD, i_ev0, i_ev1, i_fr0, i_fr1, s_ev, g_fr, g_ev, r_ev, k_ev, k_one, k_zero])
theorem frD_inv {p : Rat} (h : 0 < p) : D.tup [.int p.den, .int p.num] = frD p⁻¹ := by
  have h1 := num_pos h
  have e : p⁻¹ = Rat.divInt p.den p.num := Rat.inv_def p
  have hn : (p⁻¹).num = p.den ∧ ((p⁻¹).den : Int) = p.num := by
    rw [e, Rat.num_divInt, Rat.den_divInt, if_neg (by omega), Int.sign_eq_one_of_pos h1, Int.one_mul]
    have hc : p.num.gcd p.den = 1 := by
      have := p.reduced
      unfold Int.gcd
      rw [Int.natAbs_natCast]
      exact this
    rw [hc]
    constructor
    · simp
    · simp; omega
  unfold frD
  rw [hn.1, hn.2]
theorem Sz.inv {p : Rat} {n : Nat} (h : Sz p n) (h0 : 0 < p) : Sz p⁻¹ n := by
  rw [Rat.inv_def]
  have h1 := num_pos h0
  exact divInt_sz (by omega) (by simpa using h.den) h.num
theorem Sz.neg {p : Rat} {n : Nat} (h : Sz p n) : Sz (-p) n := ⟨by rw [Rat.neg_num, Int.natAbs_neg]; exact h.num, h.den⟩
theorem Sz.one {n : Nat} (h : 1 ≤ n) : Sz 1 n := Sz.mono (n := 1) ⟨by decide, by decide⟩ h
theorem inv_pos {p : Rat} (h : 0 < p) : 0 < p⁻¹ := Rat.inv_pos.mpr h
section
variable {tab : Nat → Option Fd} {fu : Nat}
theorem l_neg_ok (G : Sub tab) (k : Nat) {c : Rat} {n : Nat} (hc : Sz c n) (hn : n < 9000) (hF : 2 ^ 9000 ≤ fu) (S : Store) : evC fu tab (k + 2) 17 [.int (-c.num), .int c.den] S = .ok (frD (-c)) S := by
  have h := l_frac_ok (S := S) (fu := fu) G k (t := -c.num) (b := c.den) (n := n) (den_ne c) (by simpa using hc.den) hn hF
  rw [h, ← Rat.neg_divInt, Rat.num_divInt_den]
theorem sums_ok (G : Sub tab) (k : Nat) {a b c d p o : Rat} (ha : Sz a 40) (hb : Sz b 40) (hc : Sz c 40) (hd : Sz d 40) (hp : Sz p 40) (ho : Sz o 40) (p0 : 0 < p) (o0 : 0 < o) (hF : 2 ^ 9000 ≤ fu) (S : Store) :
    ∃ S', evC fu tab (k + 6) 6 [evD a b, frD p, frD o, evD c d] S = .ok (.bl true) S' ∧ Ap S S' := by
  have pn : p ≠ 0 := by intro z; subst z; exact absurd p0 (by decide)
  have on : o ≠ 0 := by intro z; subst z; exact absurd o0 (by decide)
  obtain ⟨J1, e1⟩ := skl (fun S => seen_ok (fu := fu) G k ha hb hp p0 (by decide) hF S)
  have e2 := fun S => l_seen_ok (S := S) (fu := fu) G (k + 1) ha hb hp p0 (by decide) hF
  have s1 := ha.div hp pn
  have s2 := hb.mul hp
  have r1 := fun S => repr_ev (S := S) s1 s2 (by decide)
  obtain ⟨J2, e3⟩ := skl (fun S => seen_ok (fu := fu) G k s1 s2 (ho.mono (by decide)) o0 (by decide) hF S)
  have e4 := fun S => l_times_ok (S := S) (fu := fu) G (k + 2) hp ho (by decide) hF
  have e5 := fun S => l_seen_ok (S := S) (fu := fu) G (k + 1) (ha.mono (by decide)) (hb.mono (by decide)) (hp.mul ho) (Rat.mul_pos p0 o0) (by decide) hF
  have q1 : a / (p * o) = a / p / o := by grind
  have q2 : b * (p * o) = b * p * o := by grind
  rw [q1, q2] at e5
  have r2 := fun S => repr_ev (S := S) (s1.div (ho.mono (show 40 ≤ 80 by decide)) on) (s2.mul (ho.mono (show 40 ≤ 80 by decide))) (by decide)
  obtain ⟨J3, e6⟩ := skl (fun S => shifted_ok (fu := fu) G k ha hb hc hd (by decide) hF S)
  obtain ⟨J4, e7⟩ := skl (fun S => l_shifted_ok (fu := fu) G (k + 1) ha hb hc hd (by decide) hF S)
  have s3 := ha.add hc
  have s4 := hb.add hd
  have r3 := fun S => repr_ev (S := S) s3 s4 (by decide)
  obtain ⟨J5, e8⟩ := skl (fun S => mirrored_ok (fu := fu) G k ha hb (by decide) hF S)
  obtain ⟨J6, e9⟩ := skl (fun S => mirrored_ok (fu := fu) G k hb ha (by decide) hF S)
  have r4 := fun S => repr_ev (S := S) hb ha (by decide)
  have r5 := fun S => repr_ev (S := S) ha hb (by decide)
  have n1 := fun S => l_neg_ok (fu := fu) G (k + 3) hc (by decide) hF S
  have n2 := fun S => l_neg_ok (fu := fu) G (k + 3) hd (by decide) hF S
  obtain ⟨J7, e10⟩ := skl (fun S => shifted_ok (fu := fu) G k s3 s4 (hc.neg.mono (show 40 ≤ 81 by decide)) (hd.neg.mono (show 40 ≤ 81 by decide)) (by decide) hF S)
  have q3 : a + c + -c = a := by grind
  have q4 : b + d + -d = b := by grind
  rw [q3, q4] at e10
  obtain ⟨J8, e11⟩ := skl (fun S => mirrored_ok (fu := fu) G k s1 s2 (by decide) hF S)
  have fi := frD_inv p0
  obtain ⟨J9, e12⟩ := skl (fun S => seen_ok (fu := fu) G k hb ha (hp.inv p0) (inv_pos p0) (by decide) hF S)
  have q5 : b / p⁻¹ = b * p := by grind
  have q6 : a * p⁻¹ = a / p := by grind
  rw [q5, q6] at e12
  have r6 := fun S => repr_ev (S := S) s2 s1 (by decide)
  obtain ⟨J10, e13⟩ := skl (fun S => seen_ok (fu := fu) G k ha hb (Sz.one (by decide)) (by decide) (by decide) hF S)
  have q7 : a / 1 = a := by grind
  have q8 : b * 1 = b := by grind
  rw [q7, q8] at e13
  rw [evC_eq (G 6 _ rfl)]
  unfold tr_6
  clear G ha hb hc hd hp ho p0 o0 hF s1 s2 s3 s4 q1 q2 q3 q4 q5 q6 q7 q8 pn on
  refine ⟨_, by walk_at "cw"; rfl, ?_⟩
  repeat first | exact Ap.refl _ | apply Ap.app
end
end Cw
namespace Cw
open PySem PySem.Spec PyProof.Rows L2
local macro_rules | `(tactic| walk_at "cw") => `(tactic| simp only [bnd_ok, bnd_exc, varR_some, kk2_eq, v_var, v_cst, v_tup, v_lst, v_bin, v_neg, v_not, andK_t, andK_f, orK_t, orK_f, v_and, v_or, v_cmp, chK_t, chK_f, chJ_eq, v_chain, iteK_t, iteK_f, v_ite, v_idx, slcK_eq, slcL_eq, slcJ_eq, v_slc, optK_int, o_none, o_some, v_rev, rev_tup, callK_eq, callJ_none, callJ_perm, callP_some, permL_nil, permL_cons, permC_some, v_call, v_b1, v_b2, isiK_eq, v_isi, v_m0, v_m1, compE_eq, comp_live, lenL_some, live_eq, liveK_some, liveJ_none, liveJ_some, liveH_some, liveH_none, fr_live, liveF_eq, liveFK_some, liveFJ_none, liveFJ_some, liveFH_nx, liveFH_ct, liveFH_bk, liveFH_rt, nil_get, comp_fix, comp_zip, comp_rng, turnC_eq, turnJ_some, turnK_t, turnK_f, yesK_eq, wipe_nil, wipe_cons, loopL_nil, loopL_cons, loopK_some, loopK_none, zipD_nil, zipD_nil2, zipD_cons, v_comp, es_nil, consJ_eq, consK_eq, es_cons, notJ_eq, andJ_t, andJ_f, orJ_t, orJ_f, b_not, b_and, b_or, b_cmp, b_chain, b_ite, b_var, b_cst, b_call, b_b1, b_isi, b_idx, b_bin, b_comp, ofBl_bl, tru_bl, tru_int, tru_tup, tru_non, c_none', c_some', srcK_tup, srcK_rol, w_var, w_cst, w_tup, w_lst, w_bin, w_idx, w_slc, w_call, w_comp, w_rng, rng2K_eq, w_rng2, zipK_tup, w_zip, w_enum, seqR_nx, seqR_rt, seqR_bk, seqR_ct, seqR_ex, ts_nil, ts_cons, rtE_ok, asgK_eq, t_asg, tgK_some, asgTK_eq, t_asgT, parJ_eq, parK_eq, t_par, par3H_eq, par3J_eq, par3K_eq, t_par3, setJ_eq, setK_eq, t_set, expK_eq, t_exp, retK_eq, t_ret, t_retN, ifK_t, ifK_f, t_if, t_whl, frB_eq, frJ_eq, fr_fix, fr_zip, fr_rng, forL_nil, forL_cons, forK_nx, forK_ct, forK_bk, forK_rt, t_fr, t_pas, t_brk, t_cnt, body_rt, body_nx, body_ex, op_addI, op_subI, op_mulI, op_fdivI, op_modI, op_powI, mkTup_small, alloc_small, idx_R, idxS_some, setH_R, setS_some, setX_some, len_R, lenS_some, len_rol, tup_R, tupS_some, all_R, allS_some, allK_some, src_R, srcS_some, m1J_R, m1S_some, app_R, appX_some, at_new, bls_nil, bls_cons, List.all_cons, List.all_nil, id_eq, Bool.and_true, Bool.and_self,  neg_I, not_B, cop_lt, cop_le, cop_gt, cop_ge, cop_eq, cop_ne, cop_isN, cop_notN, cop_isB, cop_notB, ofOpt_some, eqD_int, eqD_str, b1_lenT, b1_abs, b1_intI, b1_intB, b2_min, b2_max, isi_tup, isi_int, isi_bl, isi_str, idxK_some, idx_tup, idx_rol, atI_0, atI_1, atI_2, atI_3, atI_4, atI_5, atI_6, atI_7, atI_m1_1, atI_m1_2, atI_m2_2, atI_m1_3, atI_m2_3, atI_m3_3, atI_m1_4, atI_m2_4, atI_m3_4, atI_m1_5, atI_m2_5, atI_m3_5, atI_m1_6, atI_m2_6, atI_m3_6, tg_nm, tg_tp, tgs_nil, tgJ_some, tgs_cons, List.getElem?_cons_zero, List.getElem?_cons_succ, List.set_cons_zero, List.set_cons_succ, List.cons_append, List.nil_append, List.map_cons, List.map_nil, startD, List.length_cons, List.length_nil, List.replicate_succ, List.replicate_zero, Nat.reduceAdd, Nat.reduceSub, Int.reduceLE, Int.reduceLT, Int.reduceEq, Int.reduceNe, Nat.reduceLT, Nat.reduceEqDiff, Nat.reduceLeDiff, Int.reduceToNat, Int.reduceNeg, Int.reduceAdd, Int.reduceSub, Int.reduceMul, Int.reducePow, rng1_eq, rngD_0, rngD_s, op_powI, reduceCtorEq, decide_true, decide_false, eq_self, Int.cast_ofNat_Int, Nat.zero_add, Option.map_some, ne_eq, not_false_eq_true, Bool.not_true, Bool.not_false, isNonD, i_ev0, i_ev1, i_fr0, i_fr1, s_ev, g_fr, g_ev, r_ev, k_ev, k_one, k_zero, *])
local macro_rules | `(tactic| walk_at "cw0") => `(tactic| simp only [bnd_ok, bnd_exc, varR_some, kk2_eq, v_var, v_cst, v_tup, v_lst, v_bin, v_neg, v_not, andK_t, andK_f, orK_t, orK_f, v_and, v_or, v_cmp, chK_t, chK_f, chJ_eq, v_chain, iteK_t, iteK_f, v_ite, v_idx, slcK_eq, slcL_eq, slcJ_eq, v_slc, optK_int, o_none, o_some, v_rev, rev_tup, callK_eq, callJ_none, callJ_perm, callP_some, permL_nil, permL_cons, permC_some, v_call, v_b1, v_b2, isiK_eq, v_isi, v_m0, v_m1, compE_eq, comp_live, lenL_some, live_eq, liveK_some, liveJ_none, liveJ_some, liveH_some, liveH_none, fr_live, liveF_eq, liveFK_some, liveFJ_none, liveFJ_some, liveFH_nx, liveFH_ct, liveFH_bk, liveFH_rt, nil_get, comp_fix, comp_zip, comp_rng, turnC_eq, turnJ_some, turnK_t, turnK_f, yesK_eq, wipe_nil, wipe_cons, loopL_nil, loopL_cons, loopK_some, loopK_none, zipD_nil, zipD_nil2, zipD_cons, v_comp, es_nil, consJ_eq, consK_eq, es_cons, notJ_eq, andJ_t, andJ_f, orJ_t, orJ_f, b_not, b_and, b_or, b_cmp, b_chain, b_ite, b_var, b_cst, b_call, b_b1, b_isi, b_idx, b_bin, b_comp, ofBl_bl, tru_bl, tru_int, tru_tup, tru_non, c_none', c_some', srcK_tup, srcK_rol, w_var, w_cst, w_tup, w_lst, w_bin, w_idx, w_slc, w_call, w_comp, w_rng, rng2K_eq, w_rng2, zipK_tup, w_zip, w_enum, seqR_nx, seqR_rt, seqR_bk, seqR_ct, seqR_ex, ts_nil, ts_cons, rtE_ok, asgK_eq, t_asg, tgK_some, asgTK_eq, t_asgT, parJ_eq, parK_eq, t_par, par3H_eq, par3J_eq, par3K_eq, t_par3, setJ_eq, setK_eq, t_set, expK_eq, t_exp, retK_eq, t_ret, t_retN, ifK_t, ifK_f, t_if, t_whl, frB_eq, frJ_eq, fr_fix, fr_zip, fr_rng, forL_nil, forL_cons, forK_nx, forK_ct, forK_bk, forK_rt, t_fr, t_pas, t_brk, t_cnt, body_rt, body_nx, body_ex, op_addI, op_subI, op_mulI, op_fdivI, op_modI, op_powI, mkTup_small, alloc_small, idx_R, idxS_some, setH_R, setS_some, setX_some, len_R, lenS_some, len_rol, tup_R, tupS_some, all_R, allS_some, allK_some, src_R, srcS_some, m1J_R, m1S_some, app_R, appX_some, at_new, bls_nil, bls_cons, List.all_cons, List.all_nil, id_eq, Bool.and_true, Bool.and_self,  neg_I, not_B, cop_lt, cop_le, cop_gt, cop_ge, cop_eq, cop_ne, cop_isN, cop_notN, cop_isB, cop_notB, ofOpt_some, eqD_int, eqD_str, b1_lenT, b1_abs, b1_intI, b1_intB, b2_min, b2_max, isi_tup, isi_int, isi_bl, isi_str, idxK_some, idx_tup, idx_rol, atI_0, atI_1, atI_2, atI_3, atI_4, atI_5, atI_6, atI_7, atI_m1_1, atI_m1_2, atI_m2_2, atI_m1_3, atI_m2_3, atI_m3_3, atI_m1_4, atI_m2_4, atI_m3_4, atI_m1_5, atI_m2_5, atI_m3_5, atI_m1_6, atI_m2_6, atI_m3_6, tg_nm, tg_tp, tgs_nil, tgJ_some, tgs_cons, List.getElem?_cons_zero, List.getElem?_cons_succ, List.set_cons_zero, List.set_cons_succ, List.cons_append, List.nil_append, List.map_cons, List.map_nil, startD, List.length_cons, List.length_nil, List.replicate_succ, List.replicate_zero, Nat.reduceAdd, Nat.reduceSub, Int.reduceLE, Int.reduceLT, Int.reduceEq, Int.reduceNe, Nat.reduceLT, Nat.reduceEqDiff, Nat.reduceLeDiff, Int.reduceToNat, Int.reduceNeg, Int.reduceAdd, Int.reduceSub, Int.reduceMul, Int.reducePow, rng1_eq, rngD_0, rngD_s, op_powI, reduceCtorEq, decide_true, decide_false, eq_self, Int.cast_ofNat_Int, Nat.zero_add, Option.map_some, ne_eq, not_false_eq_true, Bool.not_true, Bool.not_false, isNonD, i_ev0, i_ev1, i_fr0, i_fr1, s_ev, g_fr, g_ev, r_ev, k_ev, k_one, k_zero])
/-! ### wide draws -/
section
variable {tab : Nat → Option Fd} {fu : Nat}
theorem pow10_11 : okPow 10 11 = true := by decide
theorem pow10_6 : okPow 10 6 = true := by decide
/-- one of several numbers -/
theorem ofI_ok (G : Sub tab) (T : TakeOk tab) (k : Nat) {n m j : Nat} {S : Store} {xs : List D} {B : Int} (p : Pot n S m) (hm : m < 2 ^ 60) (hj : S[j]? = some (.lst xs)) (hjn : j ≠ n) (h1 : 1 ≤ xs.length) (h2 : xs.length ≤ 1000) (hx : ∀ x ∈ xs, ∃ i : Int, x = .int i ∧ 1 ≤ i ∧ i < B) :
    ∃ i S', evC fu tab (k + 2) 24 [.ref n, .ref j] S = .ok (.int i) S' ∧ 1 ≤ i ∧ i < B ∧ Pot n S' (m + 1) ∧ Fm n S S' := by
  obtain ⟨x, S1, hm', e1, p1, f1⟩ := of_ok (fu := fu) G T k p hm hj hjn h1 h2
  obtain ⟨i, rfl, i1, i2⟩ := hx x hm'
  exact ⟨i, S1, e1, i1, i2, p1, f1⟩
theorem pace_wide_ok (G : Sub tab) (T : TakeOk tab) (k : Nat) {n m : Nat} {S : Store} (p : Pot n S m) (hm : m + 3 < 2 ^ 60) (hF : 2 ^ 9000 ≤ fu) :
    ∃ q S', evC fu tab (k + 3) 7 [.ref n] S = .ok (frD q) S' ∧ 0 < q ∧ Sz q 40 ∧ Pot n S' (m + 4) ∧ Fm n S S' := by
  have hl := p.lt
  have mem : ∀ x ∈ [D.int 100, D.int 100000000000], ∃ i : Int, x = .int i ∧ 1 ≤ i ∧ i < 2 ^ 39 := by
    intro x hx
    simp only [List.mem_cons, List.not_mem_nil, or_false] at hx
    rcases hx with rfl | rfl <;> exact ⟨_, rfl, by decide, by decide⟩
  obtain ⟨u, S1, e1, u1, u2, p1, f1⟩ := ofI_ok (fu := fu) G T k (p.app [.lst [.int 100, .int 100000000000]]) (by omega) (j := S.length) (at_new _) (by omega) (by decide) (by decide) mem
  obtain ⟨d, S2, e2, d0, d1, p2, f2⟩ := take_ok (fu := fu) T (k + 1) p1 (by omega) (u := u) u1 (Int.lt_trans u2 (by decide))
  obtain ⟨v, S3, e3, v1, v2, p3, f3⟩ := ofI_ok (fu := fu) G T k (p2.app [.lst [.int 100, .int 100000000000]]) (by omega) (j := S2.length) (at_new _) (by have := p2.lt; omega) (by decide) (by decide) mem
  obtain ⟨c, S4, e4, c0, c1, p4, f4⟩ := take_ok (fu := fu) T (k + 1) p3 (by omega) (u := v) v1 (Int.lt_trans v2 (by decide))
  have e5 := l_frac_ok (S := S4) (fu := fu) G k (t := 1 + d) (b := 1 + c) (n := 40) (by omega) (by omega) (by decide) hF
  refine ⟨Rat.divInt (1 + d) (1 + c), S4, ?_, ?_, divInt_sz (by omega) (by omega) (by omega), p4, ((((Fm.app _ _ _).trans f1).trans f2).trans (Fm.app _ _ _)).trans (f3.trans f4)⟩
  · have o1 := pow10_11
    have o2 : (10 : Int) ^ (11 : Int).toNat = 100000000000 := by decide
    have o3 : (10 : Int) ^ 11 = 100000000000 := by decide
    rw [evC_eq (G 7 _ rfl)]
    unfold tr_7
    clear G T p p1 p2 p3 p4 f1 f2 f3 f4 hm hl mem u1 u2 v1 v2 d0 d1 c0 c1 hF
    walk_at "cw"
  · rw [Rat.divInt_eq_div]
    rw [Rat.div_def]
    exact Rat.mul_pos (Rat.intCast_pos.mpr (by omega)) (Rat.inv_pos.mpr (Rat.intCast_pos.mpr (by omega)))
/-- one turn of a wide event's draw -/
theorem wturn (G : Sub tab) (T : TakeOk tab) (k : Nat) {n m j : Nat} {S : Store} {xs : List D} (p : Pot n S m) (hm : m + 2 < 2 ^ 60) (hj : S[j]? = some (.lst xs)) (hjn : j ≠ n) (hF : 2 ^ 9000 ≤ fu) :
    ∃ (q : Rat) (d1 d2 i : Int) (S1 S2 S3 : Store), evC fu tab (k + 2) 23 [.ref n, .int 200000000000] S = .ok (.int d1) S1 ∧ S1[j]? = some (.lst xs) ∧ evC fu tab (k + 2) 23 [.ref n, .int 1000000] S1 = .ok (.int d2) S2 ∧
      evC fu tab (k + 2) 24 [.ref n, .ref S2.length] (S2 ++ [.lst [.int 1, .int 7, .int 99, .int 999983, .int 100000000003, .int (1 + d2)]]) = .ok (.int i) S3 ∧ evC fu tab (k + 2) 17 [.int (d1 - 100000000000), .int i] S3 = .ok (frD q) S3 ∧
      S3[j]? = some (.lst xs) ∧ Sz q 40 ∧ Pot n S3 (m + 3) ∧ Fm n S S3 := by
  obtain ⟨d1, S1, e1, a0, a1, p1, f1⟩ := take_ok (fu := fu) T (k + 1) p (by omega) (u := 200000000000) (by decide) (by decide)
  obtain ⟨d2, S2, e2, b0, b1, p2, f2⟩ := take_ok (fu := fu) T (k + 1) p1 (by omega) (u := 1000000) (by decide) (by decide)
  have mem : ∀ x ∈ [D.int 1, .int 7, .int 99, .int 999983, .int 100000000003, .int (1 + d2)], ∃ i : Int, x = .int i ∧ 1 ≤ i ∧ i < 2 ^ 39 := by
    intro x hx
    simp only [List.mem_cons, List.not_mem_nil, or_false] at hx
    rcases hx with rfl | rfl | rfl | rfl | rfl | rfl
    · exact ⟨_, rfl, by decide, by decide⟩
    · exact ⟨_, rfl, by decide, by decide⟩
    · exact ⟨_, rfl, by decide, by decide⟩
    · exact ⟨_, rfl, by decide, by decide⟩
    · exact ⟨_, rfl, by decide, by decide⟩
    · exact ⟨_, rfl, by omega, by omega⟩
  obtain ⟨i, S3, e3, i1, i2, p3, f3⟩ := ofI_ok (fu := fu) G T k (p2.app [.lst [.int 1, .int 7, .int 99, .int 999983, .int 100000000003, .int (1 + d2)]]) (by omega) (j := S2.length) (at_new _) (by have := p2.lt; omega) (by simp) (by simp) mem
  have e4 := l_frac_ok (S := S3) (fu := fu) G k (t := d1 - 100000000000) (b := i) (n := 40) (by omega) (by omega) (by decide) hF
  have F := ((f1.trans f2).trans (Fm.app n S2 [.lst [.int 1, .int 7, .int 99, .int 999983, .int 100000000003, .int (1 + d2)]])).trans f3
  exact ⟨_, d1, d2, i, S1, S2, S3, e1, f1.get hj hjn, e2, e3, e4, F.get hj hjn, divInt_sz (by omega) (by omega) (by omega), p3, F⟩
theorem event_wide_ok (G : Sub tab) (T : TakeOk tab) (k : Nat) {n m : Nat} {S : Store} (p : Pot n S m) (hm : m + 5 < 2 ^ 60) (hF : 2 ^ 9000 ≤ fu) :
    ∃ a b S', evC fu tab (k + 3) 9 [.ref n] S = .ok (evD a b) S' ∧ Sz a 40 ∧ Sz b 40 ∧ Pot n S' (m + 6) ∧ Fm n S S' := by
  have hl := p.lt
  have hjn : S.length ≠ n := by omega
  obtain ⟨q, d1, d2, i, S1, S2, S3, e1, l1, e2, e3, e4, l3, sq, p3, f3⟩ := wturn (fu := fu) G T k (p.app [.lst []]) (by omega) (j := S.length) (at_new _) hjn hF
  have hlt : S.length < S3.length := (List.getElem?_eq_some_iff.mp l3).1
  have l4 : (S3.set S.length (.lst [frD q]))[S.length]? = some (.lst [frD q]) := List.getElem?_set_self hlt
  obtain ⟨q', d1', d2', i', S1', S2', S3', e1', l1', e2', e3', e4', l3', sq', p3', f3'⟩ := wturn (fu := fu) G T k (p3.other hjn (.lst [frD q])) (by omega) (j := S.length) l4 hjn hF
  have hlt' : S.length < S3'.length := (List.getElem?_eq_some_iff.mp l3').1
  have l5 : (S3'.set S.length (.lst [frD q, frD q']))[S.length]? = some (.lst [frD q, frD q']) := List.getElem?_set_self hlt'
  refine ⟨q, q', S3'.set S.length (.lst [frD q, frD q']), ?_, sq, sq', p3'.other hjn _, ?_⟩
  · have o1 := pow10_11
    have o2 : (10 : Int) ^ 11 = 100000000000 := by decide
    have o3 := pow10_6
    have o4 : (10 : Int) ^ 6 = 1000000 := by decide
    have o5 : okMul 2 100000000000 = true := by decide
    rw [evC_eq (G 9 _ rfl)]
    unfold tr_9
    clear G T p p3 p3' f3 f3' hm hl hjn hF sq sq' hlt hlt'
    walk_at "cw"
  · refine ⟨?_, fun x hx hlx => ?_⟩
    · have a1 := f3.len
      have a2 := f3'.len
      simp only [List.length_append, List.length_set] at *
      omega
    · have hxl : x ≠ S.length := by omega
      rw [List.getElem?_set_ne (Ne.symm hxl), f3'.at_ x hx (by simp only [List.length_set]; exact Nat.lt_trans hlx hlt), List.getElem?_set_ne (Ne.symm hxl), f3.at_ x hx (by simp; omega), List.getElem?_append_left hlx]
end
end Cw
namespace Cw
open PySem PySem.Spec PyProof.Rows L2
local macro_rules | `(tactic| walk_at "cw") => `(tactic| simp only [bnd_ok, bnd_exc, varR_some, kk2_eq, v_var, v_cst, v_tup, v_lst, v_bin, v_neg, v_not, andK_t, andK_f, orK_t, orK_f, v_and, v_or, v_cmp, chK_t, chK_f, chJ_eq, v_chain, iteK_t, iteK_f, v_ite, v_idx, slcK_eq, slcL_eq, slcJ_eq, v_slc, optK_int, o_none, o_some, v_rev, rev_tup, callK_eq, callJ_none, callJ_perm, callP_some, permL_nil, permL_cons, permC_some, v_call, v_b1, v_b2, isiK_eq, v_isi, v_m0, v_m1, compE_eq, comp_live, lenL_some, live_eq, liveK_some, liveJ_none, liveJ_some, liveH_some, liveH_none, fr_live, liveF_eq, liveFK_some, liveFJ_none, liveFJ_some, liveFH_nx, liveFH_ct, liveFH_bk, liveFH_rt, nil_get, comp_fix, comp_zip, comp_rng, turnC_eq, turnJ_some, turnK_t, turnK_f, yesK_eq, wipe_nil, wipe_cons, loopL_nil, loopL_cons, loopK_some, loopK_none, zipD_nil, zipD_nil2, zipD_cons, v_comp, es_nil, consJ_eq, consK_eq, es_cons, notJ_eq, andJ_t, andJ_f, orJ_t, orJ_f, b_not, b_and, b_or, b_cmp, b_chain, b_ite, b_var, b_cst, b_call, b_b1, b_isi, b_idx, b_bin, b_comp, ofBl_bl, tru_bl, tru_int, tru_tup, tru_non, c_none', c_some', srcK_tup, srcK_rol, w_var, w_cst, w_tup, w_lst, w_bin, w_idx, w_slc, w_call, w_comp, w_rng, rng2K_eq, w_rng2, zipK_tup, w_zip, w_enum, seqR_nx, seqR_rt, seqR_bk, seqR_ct, seqR_ex, ts_nil, ts_cons, rtE_ok, asgK_eq, t_asg, tgK_some, asgTK_eq, t_asgT, parJ_eq, parK_eq, t_par, par3H_eq, par3J_eq, par3K_eq, t_par3, setJ_eq, setK_eq, t_set, expK_eq, t_exp, retK_eq, t_ret, t_retN, ifK_t, ifK_f, t_if, t_whl, frB_eq, frJ_eq, fr_fix, fr_zip, fr_rng, forL_nil, forL_cons, forK_nx, forK_ct, forK_bk, forK_rt, t_fr, t_pas, t_brk, t_cnt, body_rt, body_nx, body_ex, op_addI, op_subI, op_mulI, op_fdivI, op_modI, op_powI, mkTup_small, alloc_small, idx_R, idxS_some, setH_R, setS_some, setX_some, len_R, lenS_some, len_rol, tup_R, tupS_some, all_R, allS_some, allK_some, src_R, srcS_some, m1J_R, m1S_some, app_R, appX_some, at_new, bls_nil, bls_cons, List.all_cons, List.all_nil, id_eq, Bool.and_true, Bool.and_self,  neg_I, not_B, cop_lt, cop_le, cop_gt, cop_ge, cop_eq, cop_ne, cop_isN, cop_notN, cop_isB, cop_notB, ofOpt_some, eqD_int, eqD_str, b1_lenT, b1_abs, b1_intI, b1_intB, b2_min, b2_max, isi_tup, isi_int, isi_bl, isi_str, idxK_some, idx_tup, idx_rol, atI_0, atI_1, atI_2, atI_3, atI_4, atI_5, atI_6, atI_7, atI_m1_1, atI_m1_2, atI_m2_2, atI_m1_3, atI_m2_3, atI_m3_3, atI_m1_4, atI_m2_4, atI_m3_4, atI_m1_5, atI_m2_5, atI_m3_5, atI_m1_6, atI_m2_6, atI_m3_6, tg_nm, tg_tp, tgs_nil, tgJ_some, tgs_cons, List.getElem?_cons_zero, List.getElem?_cons_succ, List.set_cons_zero, List.set_cons_succ, List.cons_append, List.nil_append, List.map_cons, List.map_nil, startD, List.length_cons, List.length_nil, List.replicate_succ, List.replicate_zero, Nat.reduceAdd, Nat.reduceSub, Int.reduceLE, Int.reduceLT, Int.reduceEq, Int.reduceNe, Nat.reduceLT, Nat.reduceEqDiff, Nat.reduceLeDiff, Int.reduceToNat, Int.reduceNeg, Int.reduceAdd, Int.reduceSub, Int.reduceMul, Int.reducePow, rng1_eq, rngD_0, rngD_s, op_powI, reduceCtorEq, decide_true, decide_false, eq_self, Int.cast_ofNat_Int, Nat.zero_add, Option.map_some, ne_eq, not_false_eq_true, Bool.not_true, Bool.not_false, isNonD, i_ev0, i_ev1, i_fr0, i_fr1, s_ev, g_fr, g_ev, r_ev, k_ev, k_one, k_zero, *])
local macro_rules | `(tactic| walk_at "cw0") => `(tactic| simp only [bnd_ok, bnd_exc, varR_some, kk2_eq, v_var, v_cst, v_tup, v_lst, v_bin, v_neg, v_not, andK_t, andK_f, orK_t, orK_f, v_and, v_or, v_cmp, chK_t, chK_f, chJ_eq, v_chain, iteK_t, iteK_f, v_ite, v_idx, slcK_eq, slcL_eq, slcJ_eq, v_slc, optK_int, o_none, o_some, v_rev, rev_tup, callK_eq, callJ_none, callJ_perm, callP_some, permL_nil, permL_cons, permC_some, v_call, v_b1, v_b2, isiK_eq, v_isi, v_m0, v_m1, compE_eq, comp_live, lenL_some, live_eq, liveK_some, liveJ_none, liveJ_some, liveH_some, liveH_none, fr_live, liveF_eq, liveFK_some, liveFJ_none, liveFJ_some, liveFH_nx, liveFH_ct, liveFH_bk, liveFH_rt, nil_get, comp_fix, comp_zip, comp_rng, turnC_eq, turnJ_some, turnK_t, turnK_f, yesK_eq, wipe_nil, wipe_cons, loopL_nil, loopL_cons, loopK_some, loopK_none, zipD_nil, zipD_nil2, zipD_cons, v_comp, es_nil, consJ_eq, consK_eq, es_cons, notJ_eq, andJ_t, andJ_f, orJ_t, orJ_f, b_not, b_and, b_or, b_cmp, b_chain, b_ite, b_var, b_cst, b_call, b_b1, b_isi, b_idx, b_bin, b_comp, ofBl_bl, tru_bl, tru_int, tru_tup, tru_non, c_none', c_some', srcK_tup, srcK_rol, w_var, w_cst, w_tup, w_lst, w_bin, w_idx, w_slc, w_call, w_comp, w_rng, rng2K_eq, w_rng2, zipK_tup, w_zip, w_enum, seqR_nx, seqR_rt, seqR_bk, seqR_ct, seqR_ex, ts_nil, ts_cons, rtE_ok, asgK_eq, t_asg, tgK_some, asgTK_eq, t_asgT, parJ_eq, parK_eq, t_par, par3H_eq, par3J_eq, par3K_eq, t_par3, setJ_eq, setK_eq, t_set, expK_eq, t_exp, retK_eq, t_ret, t_retN, ifK_t, ifK_f, t_if, t_whl, frB_eq, frJ_eq, fr_fix, fr_zip, fr_rng, forL_nil, forL_cons, forK_nx, forK_ct, forK_bk, forK_rt, t_fr, t_pas, t_brk, t_cnt, body_rt, body_nx, body_ex, op_addI, op_subI, op_mulI, op_fdivI, op_modI, op_powI, mkTup_small, alloc_small, idx_R, idxS_some, setH_R, setS_some, setX_some, len_R, lenS_some, len_rol, tup_R, tupS_some, all_R, allS_some, allK_some, src_R, srcS_some, m1J_R, m1S_some, app_R, appX_some, at_new, bls_nil, bls_cons, List.all_cons, List.all_nil, id_eq, Bool.and_true, Bool.and_self,  neg_I, not_B, cop_lt, cop_le, cop_gt, cop_ge, cop_eq, cop_ne, cop_isN, cop_notN, cop_isB, cop_notB, ofOpt_some, eqD_int, eqD_str, b1_lenT, b1_abs, b1_intI, b1_intB, b2_min, b2_max, isi_tup, isi_int, isi_bl, isi_str, idxK_some, idx_tup, idx_rol, atI_0, atI_1, atI_2, atI_3, atI_4, atI_5, atI_6, atI_7, atI_m1_1, atI_m1_2, atI_m2_2, atI_m1_3, atI_m2_3, atI_m3_3, atI_m1_4, atI_m2_4, atI_m3_4, atI_m1_5, atI_m2_5, atI_m3_5, atI_m1_6, atI_m2_6, atI_m3_6, tg_nm, tg_tp, tgs_nil, tgJ_some, tgs_cons, List.getElem?_cons_zero, List.getElem?_cons_succ, List.set_cons_zero, List.set_cons_succ, List.cons_append, List.nil_append, List.map_cons, List.map_nil, startD, List.length_cons, List.length_nil, List.replicate_succ, List.replicate_zero, Nat.reduceAdd, Nat.reduceSub, Int.reduceLE, Int.reduceLT, Int.reduceEq, Int.reduceNe, Nat.reduceLT, Nat.reduceEqDiff, Nat.reduceLeDiff, Int.reduceToNat, Int.reduceNeg, Int.reduceAdd, Int.reduceSub, Int.reduceMul, Int.reducePow, rng1_eq, rngD_0, rngD_s, op_powI, reduceCtorEq, decide_true, decide_false, eq_self, Int.cast_ofNat_Int, Nat.zero_add, Option.map_some, ne_eq, not_false_eq_true, Bool.not_true, Bool.not_false, isNonD, i_ev0, i_ev1, i_fr0, i_fr1, s_ev, g_fr, g_ev, r_ev, k_ev, k_one, k_zero])
theorem Pot.gr {n m : Nat} {S S' : Store} (p : Pot n S m) (g : Gr S S') : Pot n S' m := by
  obtain ⟨a, b, c, h, r⟩ := p.ex
  exact ⟨a, b, c, g.get h, r⟩
theorem Gr.fm {S S' : Store} (g : Gr S S') (n : Nat) : Fm n S S' := ⟨g.len, fun i _ h => g.at_ i h⟩
/-- all but one place, behind which it grew -/
theorem Fm.gr {n : Nat} {S S1 S2 : Store} (f : Fm n S S1) (g : Gr S1 S2) : Fm n S S2 := f.trans (g.fm n)
theorem rat_add_pos {a b : Rat} (ha : 0 < a) (hb : 0 < b) : 0 < a + b := by grind
theorem le_of_lt' {q : Rat} (h : 0 < q) : 0 ≤ q := Rat.le_of_lt h
section
variable {tab : Nat → Option Fd} {fu : Nat}
theorem osq (G : Sub tab) (k : Nat) {a b c d r : Rat} {n m : Nat} (ha : Sz a n) (hb : Sz b n) (hc : Sz c m) (hd : Sz d m) (hn : (m + n + 1) + (m + n + 1) < 9000) (hF : 2 ^ 9000 ≤ fu) (h1 : 0 < c - a) (h2 : 0 ≤ d - b) (hr : (c - a) * (d - b) = r) (S : Store) :
    ∃ S', evC fu tab (k + 6) 4 [evD a b, evD c d] S = .ok (frD r) S' ∧ Gr S S' := by
  have h0 : ¬ (a = c ∧ b = d) := by
    rintro ⟨rfl, _⟩
    rw [Rat.sub_self] at h1
    exact absurd h1 (by decide)
  obtain ⟨S', e, g⟩ := Gr.of (own_square_ok (fu := fu) G k ha hb hc hd hn hF h0 (le_of_lt' h1) h2 S)
  rw [hr] at e
  exact ⟨S', e, g⟩
/-- the loop, the rest of the second law -/
def loop10 : T := match tr_10 with
  | .cons _ (.cons t _) => t
  | _ => .pas
def tail10 : Ts := match tr_10 with
  | .cons _ (.cons _ r) => r
  | _ => .nil
theorem tail_ok (G : Sub tab) (k : Nat) {n j : Nat} {a b c d p x y p0 t0 : Rat} {rest : List D} {o4 : Option D} (ha : Sz a 40) (hb : Sz b 40) (hc : Sz c 40) (hd : Sz d 40) (hp : Sz p 40) (hx : Sz x 80) (hy : Sz y 80) (p0' : 0 < p) (h1 : 0 < x - a) (h2 : 0 < y - b)
    (ht : Sz t0 4) (tp : 0 < t0) (hl : rest.length ≤ 5) (h3 : rest = [] → (x - a) * (y - b) = t0 * t0) (hF : 2 ^ 9000 ≤ fu) (S : Store) (hj : S[j]? = some (.lst (evD p0 t0 :: rest))) :
    ∃ S', evTs fu (evC fu tab (k + 6)) tail10 [some (.ref n), some (evD a b), some (frD p), some (evD c d), o4, none, none, none, none, some (.ref j), some (evD x y), none, none] S = some (.rt (.bl true), S') ∧ Gr S S' := by
  have pn : p ≠ 0 := by intro z; subst z; exact absurd p0' (by decide)
  obtain ⟨S1, e1, g1⟩ := Gr.of (l_more_ok (fu := fu) G (k + 2) ha hb hx hy (by decide) hF S)
  have e2 := l_times_ok (S := S1) (fu := fu) G (k + 3) (hx.sub ha) (hy.sub hb) (by decide) hF
  have sd := (hx.sub ha).mul (hy.sub hb)
  have r1 := fun S => repr_fr (S := S) sd (by decide)
  obtain ⟨S2, e3, g2⟩ := osq (fu := fu) G k ha hb hx hy (by decide) hF h1 (le_of_lt' h2) rfl S1
  have e4 := l_seen_ok (S := S2) (fu := fu) G (k + 2) ha hb hp p0' (by decide) hF
  have e5 := l_seen_ok (S := S2) (fu := fu) G (k + 2) hx hy (hp.mono (show 40 ≤ 80 by decide)) p0' (by decide) hF
  -- the pairs
  have l3 : (S2 ++ [.lst [.tup [evD (a / p) (b * p), evD (x / p) (y * p)], .tup [evD b a, evD y x]]])[S2.length]? = some (.lst [.tup [evD (a / p) (b * p), evD (x / p) (y * p)], .tup [evD b a, evD y x]]) := at_new _
  generalize h3' : S2 ++ [.lst [.tup [evD (a / p) (b * p), evD (x / p) (y * p)], .tup [evD b a, evD y x]]] = S3 at *
  have g3 : Gr S2 S3 := by rw [← h3']; exact Gr.app _ _
  obtain ⟨S4, e6, g4⟩ := Gr.of (l_shifted_ok (fu := fu) G (k + 2) ha hb hc hd (by decide) hF S3)
  obtain ⟨S5, e7, g5⟩ := Gr.of (l_shifted_ok (fu := fu) G (k + 2) hx hy hc hd (by decide) hF S4)
  have l5 := (g4.trans g5).get l3
  have hlt : S2.length < S5.length := (List.getElem?_eq_some_iff.mp l5).1
  have l6 : (S5.set S2.length (.lst [.tup [evD (a / p) (b * p), evD (x / p) (y * p)], .tup [evD b a, evD y x], .tup [evD (a + c) (b + d), evD (x + c) (y + d)]]))[S2.length]? = some (.lst [.tup [evD (a / p) (b * p), evD (x / p) (y * p)], .tup [evD b a, evD y x], .tup [evD (a + c) (b + d), evD (x + c) (y + d)]]) := List.getElem?_set_self hlt
  have G6 : Gr S2 (S5.set S2.length (.lst [.tup [evD (a / p) (b * p), evD (x / p) (y * p)], .tup [evD b a, evD y x], .tup [evD (a + c) (b + d), evD (x + c) (y + d)]])) := ((g3.trans g4).trans g5).set (Nat.le_refl _) _
  generalize h6' : S5.set S2.length (.lst [.tup [evD (a / p) (b * p), evD (x / p) (y * p)], .tup [evD b a, evD y x], .tup [evD (a + c) (b + d), evD (x + c) (y + d)]]) = S6 at *
  have q1 : x / p - a / p = (x - a) * p⁻¹ := by grind
  have c1 : 0 < x / p - a / p := by rw [q1]; exact Rat.mul_pos h1 (inv_pos p0')
  have q2 : y * p - b * p = (y - b) * p := by grind
  have c2 : 0 < y * p - b * p := by rw [q2]; exact Rat.mul_pos h2 p0'
  obtain ⟨S7, e8, g7⟩ := osq (fu := fu) G k (ha.div hp pn) (hb.mul hp) (hx.div (hp.mono (show 40 ≤ 80 by decide)) pn) (hy.mul (hp.mono (show 40 ≤ 80 by decide))) (by decide) hF c1 (le_of_lt' c2) (show _ = (x - a) * (y - b) by grind) S6
  obtain ⟨S8, e9, g8⟩ := osq (fu := fu) G k hb ha hy hx (by decide) hF h2 (le_of_lt' h1) (show _ = (x - a) * (y - b) by grind) S7
  have q3 : x + c - (a + c) = x - a := by grind
  have q4 : y + d - (b + d) = y - b := by grind
  obtain ⟨S9, e10, g9⟩ := osq (fu := fu) G k (ha.add hc) (hb.add hd) (hx.add (hc.mono (show 40 ≤ 80 by decide))) (hy.add (hd.mono (show 40 ≤ 80 by decide))) (by decide) hF (by rw [q3]; exact h1) (by rw [q4]; exact le_of_lt' h2) (show _ = (x - a) * (y - b) by rw [q3, q4]) S8
  have l7 := g7.get l6
  have l8 := g8.get l7
  have l9 := g9.get l8
  have GA : Gr S S9 := ((((g1.trans g2).trans G6).trans g7).trans g8).trans g9
  have lj := (GA.trans (Gr.app S9 [.lst [.bl true, .bl true, .bl true]])).get hj
  have GB : Gr S (S9 ++ [.lst [.bl true, .bl true, .bl true]]) := GA.trans (Gr.app _ _)
  by_cases hr : rest = []
  · subst hr
    have e11 := l_times_ok (S := S9 ++ [.lst [.bl true, .bl true, .bl true]]) (fu := fu) G (k + 3) ht ht (by decide) hF
    rw [← h3 rfl] at e11
    refine ⟨S9 ++ [.lst [.bl true, .bl true, .bl true]], ?_, GB⟩
    unfold tail10 tr_10
    clear G ha hb hc hd hp hx hy p0' h1 h2 ht tp hl h3 hF pn g1 g2 g3 g4 g5 g7 g8 g9 G6 GA GB c1 c2 q1 q2 q3 q4 sd hlt
    dsimp only
    walk_at "cw"
  · have hne : ((rest.length + 1 : Nat) : Int) ≠ 1 := by
      have := List.length_pos_iff.mpr hr
      omega
    have hd' : decide (((rest.length + 1 : Nat) : Int) = 1) = false := decide_eq_false hne
    have e11 := l_plus_ok (S := S9 ++ [.lst [.bl true, .bl true, .bl true]]) (fu := fu) G (k + 3) ha ht (by decide) hF
    have q5 : a + t0 - a = t0 := by grind
    obtain ⟨S11, e12, g11⟩ := osq (fu := fu) G k ha hb (ha.add ht) (hb.mono (show 40 ≤ 40 + 4 + 1 by decide)) (by decide) hF (by rw [q5]; exact tp) (by rw [Rat.sub_self]; decide) (show _ = (0 : Rat) by rw [Rat.sub_self, Rat.mul_zero]) (S9 ++ [.lst [.bl true, .bl true, .bl true]])
    have r2 := fun S => repr_fr (S := S) (q := 0) (n := 1) ⟨by decide, by decide⟩ (by decide)
    refine ⟨S11, ?_, GB.trans g11⟩
    unfold tail10 tr_10
    clear G ha hb hc hd hp hx hy p0' h1 h2 ht tp hl h3 hF pn g1 g2 g3 g4 g5 g7 g8 g9 G6 GA GB c1 c2 q1 q2 q3 q4 q5 sd hlt hne g11
    dsimp only
    walk_at "cw"
theorem pturn (G : Sub tab) (T : TakeOk tab) (k : Nat) {n m j : Nat} {S : Store} {xs : List D} (p : Pot n S m) (hm : m + 1 < 2 ^ 60) (hj : S[j]? = some (.lst xs)) (hjn : j ≠ n) :
    ∃ (q t : Rat) (S1 S2 : Store), evC fu tab (k + 3) 11 [.ref n] S = .ok (frD q) S1 ∧ evC fu tab (k + 3) 28 [.ref n] S1 = .ok (frD t) S2 ∧ S2[j]? = some (.lst xs) ∧ 0 < q ∧ Sz q 4 ∧ 0 < t ∧ Sz t 4 ∧ Pot n S2 (m + 2) ∧ Fm n S S2 := by
  obtain ⟨q, S1, e1, q0, qs, p1, f1⟩ := frac_pace_ok (fu := fu) G T k p (by omega)
  obtain ⟨t, S2, e2, t0, ts, p2, f2⟩ := frac_time_ok (fu := fu) G T k p1 (by omega)
  exact ⟨q, t, S1, S2, e1, e2, (f1.trans f2).get hj hjn, q0, qs, t0, ts, p2, f1.trans f2⟩
theorem Fm.setJ {n j : Nat} {S0 S S' : Store} (g : Fm n S0 S') (h : S0.length ≤ j) (o : SO) : Fm n S0 (S'.set j o) :=
  ⟨by rw [List.length_set]; exact g.len, fun i h1 h2 => by rw [List.getElem?_set_ne (by omega)]; exact g.at_ i h1 h2⟩
theorem tr10_eq : tr_10 = .cons (.par 9 10 (.lst .nil) (.var 1)) (.cons loop10 tail10) := rfl
theorem sum_eq {a p t : Rat} : a + p * t - a = p * t := by grind
theorem squares_ok (G : Sub tab) (T : TakeOk tab) (k : Nat) {n m : Nat} {a b c d p : Rat} {S : Store} (P : Pot n S m) (hm : m + 10 < 2 ^ 60) (ha : Sz a 40) (hb : Sz b 40) (hc : Sz c 40) (hd : Sz d 40) (hp : Sz p 40) (p0 : 0 < p) (hF : 2 ^ 9000 ≤ fu) :
    ∃ S', evC fu tab (k + 7) 10 [.ref n, evD a b, frD p, evD c d] S = .ok (.bl true) S' ∧ Pot n S' (m + 7) ∧ Fm n S S' := by
  have hl := P.lt
  have hjn : S.length ≠ n := by omega
  obtain ⟨u, S1, e1, u0, u1, P1, F1⟩ := take_ok (fu := fu) T (k + 5) (P.app [.lst []]) (by omega) (u := 3) (by decide) (by decide)
  have F01 := (Fm.app n S [.lst []]).trans F1
  have l1 := F1.get (at_new (S := S) (.lst [])) hjn
  -- the first turn
  obtain ⟨q1, t1, A1, A2, a1, a2, m1, q1p, q1s, t1p, t1s, P2, F2⟩ := pturn (fu := fu) G T (k + 3) P1 (by omega) l1 hjn
  have hlt1 : S.length < A2.length := (List.getElem?_eq_some_iff.mp m1).1
  have l2 : (A2.set S.length (.lst [evD q1 t1]))[S.length]? = some (.lst [evD q1 t1]) := List.getElem?_set_self hlt1
  have g1 := gone_ok (fu := fu) (S := A2.set S.length (.lst [evD q1 t1])) G (k + 2) ha hb q1s t1s q1p (by decide) hF
  have F02 := ((F01.trans F2).setJ (S := S) (Nat.le_refl _) (.lst [evD q1 t1]))
  have P2' := P2.other hjn (.lst [evD q1 t1])
  have q1n : q1 ≠ 0 := by intro z; subst z; exact absurd q1p (by decide)
  have x1 : Sz (a + q1 * t1) 49 := ha.add (q1s.mul t1s)
  have y1 : Sz (b + t1 / q1) 49 := hb.add (t1s.div q1s q1n)
  have w1 : 0 < a + q1 * t1 - a := by rw [sum_eq]; exact Rat.mul_pos q1p t1p
  have v1 : b + t1 / q1 - b = t1 * q1⁻¹ := by grind
  have w1' : 0 < b + t1 / q1 - b := by rw [v1]; exact Rat.mul_pos t1p (inv_pos q1p)
  have z1 : (a + q1 * t1 - a) * (b + t1 / q1 - b) = t1 * t1 := by grind
  rw [evC_eq (G 10 _ rfl), tr10_eq]
  have cases3 : u = 0 ∨ u = 1 ∨ u = 2 := by omega
  rcases cases3 with rfl | rfl | rfl
  · obtain ⟨S', e2, g2⟩ := tail_ok (fu := fu) (n := n) (o4 := some (.int 0)) G k ha hb hc hd hp (x1.mono (by decide)) (y1.mono (by decide)) p0 w1 w1' t1s t1p (by decide) (fun _ => z1) hF _ l2
    refine ⟨S', ?_, (P2'.gr g2).mono (by omega), F02.gr g2⟩
    unfold loop10 tr_10
    clear G T P hm ha hb hc hd hp p0 hF hl hjn u0 u1 P1 F1 F01 q1p q1s t1p t1s P2 F2 hlt1 F02 P2' q1n x1 y1 w1 v1 w1' z1 g2
    dsimp only
    walk_at "cw"
  all_goals
    -- the second turn
    obtain ⟨q2, t2, B1, B2, b1, b2, m2, q2p, q2s, t2p, t2s, P3, F3⟩ := pturn (fu := fu) G T (k + 3) P2' (by omega) l2 hjn
    have hlt2 : S.length < B2.length := (List.getElem?_eq_some_iff.mp m2).1
    have l3 : (B2.set S.length (.lst [evD q1 t1, evD q2 t2]))[S.length]? = some (.lst [evD q1 t1, evD q2 t2]) := List.getElem?_set_self hlt2
    have g2 := gone_ok (fu := fu) (S := B2.set S.length (.lst [evD q1 t1, evD q2 t2])) G (k + 2) x1 y1 q2s t2s q2p (by decide) hF
    have F03 := ((F02.trans F3).setJ (S := S) (Nat.le_refl _) (.lst [evD q1 t1, evD q2 t2]))
    have P3' := P3.other hjn (.lst [evD q1 t1, evD q2 t2])
    have q2n : q2 ≠ 0 := by intro z; subst z; exact absurd q2p (by decide)
    have x2 : Sz (a + q1 * t1 + q2 * t2) 58 := x1.add (q2s.mul t2s)
    have y2 : Sz (b + t1 / q1 + t2 / q2) 58 := y1.add (t2s.div q2s q2n)
    have v2 : a + q1 * t1 + q2 * t2 - a = (a + q1 * t1 - a) + q2 * t2 := by grind
    have v2' : b + t1 / q1 + t2 / q2 - b = (b + t1 / q1 - b) + t2 * q2⁻¹ := by grind
    have w2 : 0 < a + q1 * t1 + q2 * t2 - a := by rw [v2]; exact rat_add_pos w1 (Rat.mul_pos q2p t2p)
    have w2' : 0 < b + t1 / q1 + t2 / q2 - b := by rw [v2']; exact rat_add_pos w1' (Rat.mul_pos t2p (inv_pos q2p))
  · obtain ⟨S', e2, g3⟩ := tail_ok (fu := fu) (n := n) (o4 := some (.int 1)) (rest := [evD q2 t2]) G k ha hb hc hd hp (x2.mono (by decide)) (y2.mono (by decide)) p0 w2 w2' t1s t1p (by simp) (fun h => nomatch h) hF _ l3
    refine ⟨S', ?_, (P3'.gr g3).mono (by omega), F03.gr g3⟩
    unfold loop10 tr_10
    clear G T P hm ha hb hc hd hp p0 hF hl hjn u0 u1 P1 F1 F01 q1p q1s t1p t1s P2 F2 hlt1 F02 P2' q1n x1 y1 w1 v1 w1' z1 g3 q2p q2s t2p t2s P3 F3 hlt2 F03 P3' q2n x2 y2 v2 v2' w2 w2'
    dsimp only
    walk_at "cw"
  · -- the third turn
    obtain ⟨q3, t3, C1, C2, c1, c2, m3, q3p, q3s, t3p, t3s, P4, F4⟩ := pturn (fu := fu) G T (k + 3) P3' (by omega) l3 hjn
    have hlt3 : S.length < C2.length := (List.getElem?_eq_some_iff.mp m3).1
    have l4 : (C2.set S.length (.lst [evD q1 t1, evD q2 t2, evD q3 t3]))[S.length]? = some (.lst [evD q1 t1, evD q2 t2, evD q3 t3]) := List.getElem?_set_self hlt3
    have g3 := gone_ok (fu := fu) (S := C2.set S.length (.lst [evD q1 t1, evD q2 t2, evD q3 t3])) G (k + 2) x2 y2 q3s t3s q3p (by decide) hF
    have F04 := ((F03.trans F4).setJ (S := S) (Nat.le_refl _) (.lst [evD q1 t1, evD q2 t2, evD q3 t3]))
    have P4' := P4.other hjn (.lst [evD q1 t1, evD q2 t2, evD q3 t3])
    have q3n : q3 ≠ 0 := by intro z; subst z; exact absurd q3p (by decide)
    have x3 : Sz (a + q1 * t1 + q2 * t2 + q3 * t3) 67 := x2.add (q3s.mul t3s)
    have y3 : Sz (b + t1 / q1 + t2 / q2 + t3 / q3) 67 := y2.add (t3s.div q3s q3n)
    have v3 : a + q1 * t1 + q2 * t2 + q3 * t3 - a = (a + q1 * t1 + q2 * t2 - a) + q3 * t3 := by grind
    have v3' : b + t1 / q1 + t2 / q2 + t3 / q3 - b = (b + t1 / q1 + t2 / q2 - b) + t3 * q3⁻¹ := by grind
    have w3 : 0 < a + q1 * t1 + q2 * t2 + q3 * t3 - a := by rw [v3]; exact rat_add_pos w2 (Rat.mul_pos q3p t3p)
    have w3' : 0 < b + t1 / q1 + t2 / q2 + t3 / q3 - b := by rw [v3']; exact rat_add_pos w2' (Rat.mul_pos t3p (inv_pos q3p))
    obtain ⟨S', e2, g4⟩ := tail_ok (fu := fu) (n := n) (o4 := some (.int 2)) (rest := [evD q2 t2, evD q3 t3]) G k ha hb hc hd hp (x3.mono (by decide)) (y3.mono (by decide)) p0 w3 w3' t1s t1p (by simp) (fun h => nomatch h) hF _ l4
    refine ⟨S', ?_, (P4'.gr g4).mono (by omega), F04.gr g4⟩
    unfold loop10 tr_10
    clear G T P hm ha hb hc hd hp p0 hF hl hjn u0 u1 P1 F1 F01 q1p q1s t1p t1s P2 F2 hlt1 F02 P2' q1n x1 y1 w1 v1 w1' z1 g4 q2p q2s t2p t2s P3 F3 hlt2 F03 P3' q2n x2 y2 v2 v2' w2 w2' q3p q3s t3p t3s P4 F4 hlt3 F04 P4' q3n x3 y3 v3 v3' w3 w3'
    dsimp only
    walk_at "cw"
end
end Cw
namespace Cw
open PySem PySem.Spec PyProof.Rows L2
local macro_rules | `(tactic| walk_at "cw") => `(tactic| simp only [bnd_ok, bnd_exc, varR_some, kk2_eq, v_var, v_cst, v_tup, v_lst, v_bin, v_neg, v_not, andK_t, andK_f, orK_t, orK_f, v_and, v_or, v_cmp, chK_t, chK_f, chJ_eq, v_chain, iteK_t, iteK_f, v_ite, v_idx, slcK_eq, slcL_eq, slcJ_eq, v_slc, optK_int, o_none, o_some, v_rev, rev_tup, callK_eq, callJ_none, callJ_perm, callP_some, permL_nil, permL_cons, permC_some, v_call, v_b1, v_b2, isiK_eq, v_isi, v_m0, v_m1, compE_eq, comp_live, lenL_some, live_eq, liveK_some, liveJ_none, liveJ_some, liveH_some, liveH_none, fr_live, liveF_eq, liveFK_some, liveFJ_none, liveFJ_some, liveFH_nx, liveFH_ct, liveFH_bk, liveFH_rt, nil_get, comp_fix, comp_zip, comp_rng, turnC_eq, turnJ_some, turnK_t, turnK_f, yesK_eq, wipe_nil, wipe_cons, loopL_nil, loopL_cons, loopK_some, loopK_none, zipD_nil, zipD_nil2, zipD_cons, v_comp, es_nil, consJ_eq, consK_eq, es_cons, notJ_eq, andJ_t, andJ_f, orJ_t, orJ_f, b_not, b_and, b_or, b_cmp, b_chain, b_ite, b_var, b_cst, b_call, b_b1, b_isi, b_idx, b_bin, b_comp, ofBl_bl, tru_bl, tru_int, tru_tup, tru_non, c_none', c_some', srcK_tup, srcK_rol, w_var, w_cst, w_tup, w_lst, w_bin, w_idx, w_slc, w_call, w_comp, w_rng, rng2K_eq, w_rng2, zipK_tup, w_zip, w_enum, seqR_nx, seqR_rt, seqR_bk, seqR_ct, seqR_ex, ts_nil, ts_cons, rtE_ok, asgK_eq, t_asg, tgK_some, asgTK_eq, t_asgT, parJ_eq, parK_eq, t_par, par3H_eq, par3J_eq, par3K_eq, t_par3, setJ_eq, setK_eq, t_set, expK_eq, t_exp, retK_eq, t_ret, t_retN, ifK_t, ifK_f, t_if, t_whl, frB_eq, frJ_eq, fr_fix, fr_zip, fr_rng, forL_nil, forL_cons, forK_nx, forK_ct, forK_bk, forK_rt, t_fr, t_pas, t_brk, t_cnt, body_rt, body_nx, body_ex, op_addI, op_subI, op_mulI, op_fdivI, op_modI, op_powI, mkTup_small, alloc_small, idx_R, idxS_some, setH_R, setS_some, setX_some, len_R, lenS_some, len_rol, tup_R, tupS_some, all_R, allS_some, allK_some, src_R, srcS_some, m1J_R, m1S_some, app_R, appX_some, at_new, bls_nil, bls_cons, List.all_cons, List.all_nil, id_eq, Bool.and_true, Bool.and_self,  neg_I, not_B, cop_lt, cop_le, cop_gt, cop_ge, cop_eq, cop_ne, cop_isN, cop_notN, cop_isB, cop_notB, ofOpt_some, eqD_int, eqD_str, b1_lenT, b1_abs, b1_intI, b1_intB, b2_min, b2_max, isi_tup, isi_int, isi_bl, isi_str, idxK_some, idx_tup, idx_rol, atI_0, atI_1, atI_2, atI_3, atI_4, atI_5, atI_6, atI_7, atI_m1_1, atI_m1_2, atI_m2_2, atI_m1_3, atI_m2_3, atI_m3_3, atI_m1_4, atI_m2_4, atI_m3_4, atI_m1_5, atI_m2_5, atI_m3_5, atI_m1_6, atI_m2_6, atI_m3_6, tg_nm, tg_tp, tgs_nil, tgJ_some, tgs_cons, List.getElem?_cons_zero, List.getElem?_cons_succ, List.set_cons_zero, List.set_cons_succ, List.cons_append, List.nil_append, List.map_cons, List.map_nil, startD, List.length_cons, List.length_nil, List.replicate_succ, List.replicate_zero, Nat.reduceAdd, Nat.reduceSub, Int.reduceLE, Int.reduceLT, Int.reduceEq, Int.reduceNe, Nat.reduceLT, Nat.reduceEqDiff, Nat.reduceLeDiff, Int.reduceToNat, Int.reduceNeg, Int.reduceAdd, Int.reduceSub, Int.reduceMul, Int.reducePow, rng1_eq, rngD_0, rngD_s, op_powI, reduceCtorEq, decide_true, decide_false, eq_self, Int.cast_ofNat_Int, Nat.zero_add, Option.map_some, ne_eq, not_false_eq_true, Bool.not_true, Bool.not_false, isNonD, i_ev0, i_ev1, i_fr0, i_fr1, s_ev, g_fr, g_ev, r_ev, k_ev, k_one, k_zero, *])
local macro_rules | `(tactic| walk_at "cw0") => `(tactic| simp only [bnd_ok, bnd_exc, varR_some, kk2_eq, v_var, v_cst, v_tup, v_lst, v_bin, v_neg, v_not, andK_t, andK_f, orK_t, orK_f, v_and, v_or, v_cmp, chK_t, chK_f, chJ_eq, v_chain, iteK_t, iteK_f, v_ite, v_idx, slcK_eq, slcL_eq, slcJ_eq, v_slc, optK_int, o_none, o_some, v_rev, rev_tup, callK_eq, callJ_none, callJ_perm, callP_some, permL_nil, permL_cons, permC_some, v_call, v_b1, v_b2, isiK_eq, v_isi, v_m0, v_m1, compE_eq, comp_live, lenL_some, live_eq, liveK_some, liveJ_none, liveJ_some, liveH_some, liveH_none, fr_live, liveF_eq, liveFK_some, liveFJ_none, liveFJ_some, liveFH_nx, liveFH_ct, liveFH_bk, liveFH_rt, nil_get, comp_fix, comp_zip, comp_rng, turnC_eq, turnJ_some, turnK_t, turnK_f, yesK_eq, wipe_nil, wipe_cons, loopL_nil, loopL_cons, loopK_some, loopK_none, zipD_nil, zipD_nil2, zipD_cons, v_comp, es_nil, consJ_eq, consK_eq, es_cons, notJ_eq, andJ_t, andJ_f, orJ_t, orJ_f, b_not, b_and, b_or, b_cmp, b_chain, b_ite, b_var, b_cst, b_call, b_b1, b_isi, b_idx, b_bin, b_comp, ofBl_bl, tru_bl, tru_int, tru_tup, tru_non, c_none', c_some', srcK_tup, srcK_rol, w_var, w_cst, w_tup, w_lst, w_bin, w_idx, w_slc, w_call, w_comp, w_rng, rng2K_eq, w_rng2, zipK_tup, w_zip, w_enum, seqR_nx, seqR_rt, seqR_bk, seqR_ct, seqR_ex, ts_nil, ts_cons, rtE_ok, asgK_eq, t_asg, tgK_some, asgTK_eq, t_asgT, parJ_eq, parK_eq, t_par, par3H_eq, par3J_eq, par3K_eq, t_par3, setJ_eq, setK_eq, t_set, expK_eq, t_exp, retK_eq, t_ret, t_retN, ifK_t, ifK_f, t_if, t_whl, frB_eq, frJ_eq, fr_fix, fr_zip, fr_rng, forL_nil, forL_cons, forK_nx, forK_ct, forK_bk, forK_rt, t_fr, t_pas, t_brk, t_cnt, body_rt, body_nx, body_ex, op_addI, op_subI, op_mulI, op_fdivI, op_modI, op_powI, mkTup_small, alloc_small, idx_R, idxS_some, setH_R, setS_some, setX_some, len_R, lenS_some, len_rol, tup_R, tupS_some, all_R, allS_some, allK_some, src_R, srcS_some, m1J_R, m1S_some, app_R, appX_some, at_new, bls_nil, bls_cons, List.all_cons, List.all_nil, id_eq, Bool.and_true, Bool.and_self,  neg_I, not_B, cop_lt, cop_le, cop_gt, cop_ge, cop_eq, cop_ne, cop_isN, cop_notN, cop_isB, cop_notB, ofOpt_some, eqD_int, eqD_str, b1_lenT, b1_abs, b1_intI, b1_intB, b2_min, b2_max, isi_tup, isi_int, isi_bl, isi_str, idxK_some, idx_tup, idx_rol, atI_0, atI_1, atI_2, atI_3, atI_4, atI_5, atI_6, atI_7, atI_m1_1, atI_m1_2, atI_m2_2, atI_m1_3, atI_m2_3, atI_m3_3, atI_m1_4, atI_m2_4, atI_m3_4, atI_m1_5, atI_m2_5, atI_m3_5, atI_m1_6, atI_m2_6, atI_m3_6, tg_nm, tg_tp, tgs_nil, tgJ_some, tgs_cons, List.getElem?_cons_zero, List.getElem?_cons_succ, List.set_cons_zero, List.set_cons_succ, List.cons_append, List.nil_append, List.map_cons, List.map_nil, startD, List.length_cons, List.length_nil, List.replicate_succ, List.replicate_zero, Nat.reduceAdd, Nat.reduceSub, Int.reduceLE, Int.reduceLT, Int.reduceEq, Int.reduceNe, Nat.reduceLT, Nat.reduceEqDiff, Nat.reduceLeDiff, Int.reduceToNat, Int.reduceNeg, Int.reduceAdd, Int.reduceSub, Int.reduceMul, Int.reducePow, rng1_eq, rngD_0, rngD_s, op_powI, reduceCtorEq, decide_true, decide_false, eq_self, Int.cast_ofNat_Int, Nat.zero_add, Option.map_some, ne_eq, not_false_eq_true, Bool.not_true, Bool.not_false, isNonD, i_ev0, i_ev1, i_fr0, i_fr1, s_ev, g_fr, g_ev, r_ev, k_ev, k_one, k_zero])
/-! ### the law's own looks -/
theorem fr_half : D.tup [.int 1, .int 2] = frD (Rat.divInt 1 2) := rfl
section
variable {tab : Nat → Option Fd} {fu : Nat}
theorem is_less_ok (G : Sub tab) (k : Nat) {p q : Rat} {n m : Nat} (hp : Sz p n) (hq : Sz q m) (hn : n + m < 9000) (S : Store) : evC fu tab (k + 1) 51 [frD p, frD q] S = .ok (.bl (decide (p < q))) S := by
  have dp : (p.den : Int).natAbs < 2 ^ n := by simpa using hp.den
  have dq : (q.den : Int).natAbs < 2 ^ m := by simpa using hq.den
  have o1 : okMul p.num (q.den : Int) = true := okMul_of hp.num dq (by omega)
  have o2 : okMul q.num (p.den : Int) = true := okMul_of hq.num dp (by omega)
  have e : decide (p.num * (q.den : Int) < q.num * (p.den : Int)) = decide (p < q) := by
    rw [Bool.eq_iff_iff, decide_eq_true_iff, decide_eq_true_iff]
    exact (Rat.lt_iff p q).symm
  rw [evC_eq (G 51 _ rfl)]
  unfold tr_51
  clear G hp hq hn dp dq
  walk_at "cw"
theorem sum_ok (G : Sub tab) (k : Nat) {a b : Rat} {n m : Nat} (ha : Sz a n) (hb : Sz b m) (hn : n + m < 9000) (hF : 2 ^ 9000 ≤ fu) (S : Store) : evC fu tab (k + 4) 52 [evD a b] S = .ok (frD (a + b)) S := by
  have e := l_plus_ok (S := S) (fu := fu) G k ha hb hn hF
  rw [evC_eq (G 52 _ rfl)]
  unfold tr_52
  clear G ha hb hn hF
  walk_at "cw"
theorem sum_seen_ok (G : Sub tab) (k : Nat) {a b p : Rat} {n m : Nat} (ha : Sz a n) (hb : Sz b n) (hp : Sz p m) (p0 : 0 < p) (h2 : m ≤ n) (hn : (n + n) + (n + n) < 9000) (hF : 2 ^ 9000 ≤ fu) (S : Store) : evC fu tab (k + 5) 59 [evD a b, frD p] S = .ok (frD (a / p + b * p)) S := by
  have pn : p ≠ 0 := by intro z; subst z; exact absurd p0 (by decide)
  have e1 := l_seen_ok (S := S) (fu := fu) G k ha hb (hp.mono h2) p0 (by omega) hF
  have e2 := sum_ok (fu := fu) G k (ha.div (hp.mono h2) pn) (hb.mul (hp.mono h2)) hn hF S
  rw [evC_eq (G 59 _ rfl)]
  unfold tr_59
  clear G ha hb hp p0 h2 hn hF pn
  walk_at "cw"
theorem frac_is_ok (G : Sub tab) (k : Nat) {q : Rat} {n : Nat} (hq : Sz q n) (hn : n < 9000) (hF : 2 ^ 9000 ≤ fu) : ∀ S, ∃ J, evC fu tab (k + 2) 63 [frD q] S = .ok (.bl true) (S ++ J) := fun S => by
  have hc := fun (S : Store) => l_common_ok (S := S) G k q.num q.den (den_lt hq hn hF)
  have hr : Nat.gcd q.num.natAbs (q.den : Int).natAbs = 1 := by rw [Int.natAbs_natCast]; exact q.reduced
  have h1 : ¬ ((q.den : Int) < 1) := by have := q.den_pos; omega
  have hd := decide_eq_false h1
  rw [hr] at hc
  rw [evC_eq (G 63 _ rfl)]
  unfold tr_63 frD
  clear G hq hF hn hr h1
  refine ⟨[.lst [.bl true, .bl true]], ?_⟩
  walk_at "cw"
theorem frac_is_pace_ok (G : Sub tab) (k : Nat) {q : Rat} {n : Nat} (hq : Sz q n) (q0 : 0 < q) (hn : n < 9000) (hF : 2 ^ 9000 ≤ fu) (S : Store) : ∃ J, evC fu tab (k + 3) 60 [frD q] S = .ok (.bl true) (S ++ J) := by
  obtain ⟨J, e⟩ := frac_is_ok (fu := fu) G k hq hn hF S
  have hd := decide_eq_true (num_pos q0)
  rw [evC_eq (G 60 _ rfl)]
  unfold tr_60
  clear G hq q0 hF hn
  refine ⟨J, ?_⟩
  walk_at "cw"
/-- ahead -/
def ah (a b c d : Rat) : Bool := !decide (a = c ∧ b = d) && (decide (0 ≤ (c - a).num) && decide (0 ≤ (d - b).num))
theorem is_aheadB (G : Sub tab) (k : Nat) {a b c d : Rat} {n m : Nat} (ha : Sz a n) (hb : Sz b n) (hc : Sz c m) (hd : Sz d m) (hn : m + n < 9000) (hF : 2 ^ 9000 ≤ fu) (S : Store) :
    ∃ J, evC fu tab (k + 5) 15 [evD a b, evD c d] S = .ok (.bl (ah a b c d)) (S ++ J) := by
  obtain ⟨J, e1⟩ := more_in_ok (fu := fu) G k ha hb hc hd hn hF S
  have e2 := eqD_ev (S := S ++ J) a b c d
  rw [evC_eq (G 15 _ rfl)]
  unfold tr_15
  clear G ha hb hc hd hn hF
  refine ⟨J, ?_⟩
  have hah : ah a b c d = (!decide (a = c ∧ b = d) && (decide (0 ≤ (c - a).num) && decide (0 ≤ (d - b).num))) := rfl
  cases h0 : decide (a = c ∧ b = d) <;> cases h1 : decide (0 ≤ (c - a).num) <;> cases h2 : decide (0 ≤ (d - b).num) <;> rw [h0, h1, h2] at hah <;> rw [hah] <;> clear hah <;> rw [h0] at e2 <;> walk_at "cw" <;> rfl
theorem l_aheadB (G : Sub tab) (k : Nat) {a b c d : Rat} {n m : Nat} (ha : Sz a n) (hb : Sz b n) (hc : Sz c m) (hd : Sz d m) (hn : m + n < 9000) (hF : 2 ^ 9000 ≤ fu) (S : Store) :
    ∃ J, evC fu tab (k + 5) 61 [evD a b, evD c d] S = .ok (.bl (ah a b c d)) (S ++ J) := by
  obtain ⟨J, e1⟩ := l_more_ok (fu := fu) G k ha hb hc hd hn hF S
  have e2 := eqD_ev (S := S) a b c d
  rw [evC_eq (G 61 _ rfl)]
  unfold tr_61
  clear G ha hb hc hd hn hF
  have hah : ah a b c d = (!decide (a = c ∧ b = d) && (decide (0 ≤ (c - a).num) && decide (0 ≤ (d - b).num))) := rfl
  cases h0 : decide (a = c ∧ b = d)
  · refine ⟨J ++ [.lst [.bl (decide (0 ≤ (c - a).num)), .bl (decide (0 ≤ (d - b).num))]], ?_⟩
    rw [h0] at hah e2
    rw [hah]
    clear hah
    walk_at "cw"
    simp
  · refine ⟨[], ?_⟩
    rw [h0] at hah e2
    rw [hah]
    clear hah
    walk_at "cw"
    simp
theorem later_ok (G : Sub tab) (k : Nat) {a b c d p : Rat} {n m : Nat} (ha : Sz a n) (hb : Sz b n) (hc : Sz c n) (hd : Sz d n) (hp : Sz p m) (p0 : 0 < p) (hn : (n + n + 1 + m) + (n + n + 1 + m) < 9000) (hF : 2 ^ 9000 ≤ fu) (S : Store) :
    ∃ J, evC fu tab (k + 5) 57 [evD a b, evD c d, frD p] S = .ok (frD ((c - a) / p + (d - b) * p)) (S ++ J) := by
  have pn : p ≠ 0 := by intro z; subst z; exact absurd p0 (by decide)
  obtain ⟨J, e1⟩ := more_in_ok (fu := fu) G k ha hb hc hd (by omega) hF S
  have e2 := fun S => over_ok (S := S) (fu := fu) G (k + 1) (hc.sub ha) hp pn (by omega) hF
  have e3 := fun S => times_ok (S := S) (fu := fu) G (k + 1) (hd.sub hb) hp (by omega) hF
  have e4 := fun S => plus_ok (S := S) (fu := fu) G (k + 1) ((hc.sub ha).div hp pn) ((hd.sub hb).mul hp) hn hF
  rw [evC_eq (G 57 _ rfl)]
  unfold tr_57
  clear G ha hb hc hd hp p0 hn hF pn
  exact ⟨J, by walk_at "cw"⟩
end
end Cw
namespace Cw
open PySem PySem.Spec PyProof.Rows L2
local macro_rules | `(tactic| walk_at "cw") => `(tactic| simp only [bnd_ok, bnd_exc, varR_some, kk2_eq, v_var, v_cst, v_tup, v_lst, v_bin, v_neg, v_not, andK_t, andK_f, orK_t, orK_f, v_and, v_or, v_cmp, chK_t, chK_f, chJ_eq, v_chain, iteK_t, iteK_f, v_ite, v_idx, slcK_eq, slcL_eq, slcJ_eq, v_slc, optK_int, o_none, o_some, v_rev, rev_tup, callK_eq, callJ_none, callJ_perm, callP_some, permL_nil, permL_cons, permC_some, v_call, v_b1, v_b2, isiK_eq, v_isi, v_m0, v_m1, compE_eq, comp_live, lenL_some, live_eq, liveK_some, liveJ_none, liveJ_some, liveH_some, liveH_none, fr_live, liveF_eq, liveFK_some, liveFJ_none, liveFJ_some, liveFH_nx, liveFH_ct, liveFH_bk, liveFH_rt, nil_get, comp_fix, comp_zip, comp_rng, turnC_eq, turnJ_some, turnK_t, turnK_f, yesK_eq, wipe_nil, wipe_cons, loopL_nil, loopL_cons, loopK_some, loopK_none, zipD_nil, zipD_nil2, zipD_cons, v_comp, es_nil, consJ_eq, consK_eq, es_cons, notJ_eq, andJ_t, andJ_f, orJ_t, orJ_f, b_not, b_and, b_or, b_cmp, b_chain, b_ite, b_var, b_cst, b_call, b_b1, b_isi, b_idx, b_bin, b_comp, ofBl_bl, tru_bl, tru_int, tru_tup, tru_non, c_none', c_some', srcK_tup, srcK_rol, w_var, w_cst, w_tup, w_lst, w_bin, w_idx, w_slc, w_call, w_comp, w_rng, rng2K_eq, w_rng2, zipK_tup, w_zip, w_enum, seqR_nx, seqR_rt, seqR_bk, seqR_ct, seqR_ex, ts_nil, ts_cons, rtE_ok, asgK_eq, t_asg, tgK_some, asgTK_eq, t_asgT, parJ_eq, parK_eq, t_par, par3H_eq, par3J_eq, par3K_eq, t_par3, setJ_eq, setK_eq, t_set, expK_eq, t_exp, retK_eq, t_ret, t_retN, ifK_t, ifK_f, t_if, t_whl, frB_eq, frJ_eq, fr_fix, fr_zip, fr_rng, forL_nil, forL_cons, forK_nx, forK_ct, forK_bk, forK_rt, t_fr, t_pas, t_brk, t_cnt, body_rt, body_nx, body_ex, op_addI, op_subI, op_mulI, op_fdivI, op_modI, op_powI, mkTup_small, alloc_small, idx_R, idxS_some, setH_R, setS_some, setX_some, len_R, lenS_some, len_rol, tup_R, tupS_some, all_R, allS_some, allK_some, src_R, srcS_some, m1J_R, m1S_some, app_R, appX_some, at_new, bls_nil, bls_cons, List.all_cons, List.all_nil, id_eq, Bool.and_true, Bool.and_self,  neg_I, not_B, cop_lt, cop_le, cop_gt, cop_ge, cop_eq, cop_ne, cop_isN, cop_notN, cop_isB, cop_notB, ofOpt_some, eqD_int, eqD_str, b1_lenT, b1_abs, b1_intI, b1_intB, b2_min, b2_max, isi_tup, isi_int, isi_bl, isi_str, idxK_some, idx_tup, idx_rol, atI_0, atI_1, atI_2, atI_3, atI_4, atI_5, atI_6, atI_7, atI_m1_1, atI_m1_2, atI_m2_2, atI_m1_3, atI_m2_3, atI_m3_3, atI_m1_4, atI_m2_4, atI_m3_4, atI_m1_5, atI_m2_5, atI_m3_5, atI_m1_6, atI_m2_6, atI_m3_6, tg_nm, tg_tp, tgs_nil, tgJ_some, tgs_cons, List.getElem?_cons_zero, List.getElem?_cons_succ, List.set_cons_zero, List.set_cons_succ, List.cons_append, List.nil_append, List.map_cons, List.map_nil, startD, List.length_cons, List.length_nil, List.replicate_succ, List.replicate_zero, Nat.reduceAdd, Nat.reduceSub, Int.reduceLE, Int.reduceLT, Int.reduceEq, Int.reduceNe, Nat.reduceLT, Nat.reduceEqDiff, Nat.reduceLeDiff, Int.reduceToNat, Int.reduceNeg, Int.reduceAdd, Int.reduceSub, Int.reduceMul, Int.reducePow, rng1_eq, rngD_0, rngD_s, op_powI, reduceCtorEq, decide_true, decide_false, eq_self, Int.cast_ofNat_Int, Nat.zero_add, Option.map_some, ne_eq, not_false_eq_true, Bool.not_true, Bool.not_false, isNonD, i_ev0, i_ev1, i_fr0, i_fr1, s_ev, g_fr, g_ev, r_ev, k_ev, k_one, k_zero, fr_half, *])
local macro_rules | `(tactic| walk_at "cw0") => `(tactic| simp only [bnd_ok, bnd_exc, varR_some, kk2_eq, v_var, v_cst, v_tup, v_lst, v_bin, v_neg, v_not, andK_t, andK_f, orK_t, orK_f, v_and, v_or, v_cmp, chK_t, chK_f, chJ_eq, v_chain, iteK_t, iteK_f, v_ite, v_idx, slcK_eq, slcL_eq, slcJ_eq, v_slc, optK_int, o_none, o_some, v_rev, rev_tup, callK_eq, callJ_none, callJ_perm, callP_some, permL_nil, permL_cons, permC_some, v_call, v_b1, v_b2, isiK_eq, v_isi, v_m0, v_m1, compE_eq, comp_live, lenL_some, live_eq, liveK_some, liveJ_none, liveJ_some, liveH_some, liveH_none, fr_live, liveF_eq, liveFK_some, liveFJ_none, liveFJ_some, liveFH_nx, liveFH_ct, liveFH_bk, liveFH_rt, nil_get, comp_fix, comp_zip, comp_rng, turnC_eq, turnJ_some, turnK_t, turnK_f, yesK_eq, wipe_nil, wipe_cons, loopL_nil, loopL_cons, loopK_some, loopK_none, zipD_nil, zipD_nil2, zipD_cons, v_comp, es_nil, consJ_eq, consK_eq, es_cons, notJ_eq, andJ_t, andJ_f, orJ_t, orJ_f, b_not, b_and, b_or, b_cmp, b_chain, b_ite, b_var, b_cst, b_call, b_b1, b_isi, b_idx, b_bin, b_comp, ofBl_bl, tru_bl, tru_int, tru_tup, tru_non, c_none', c_some', srcK_tup, srcK_rol, w_var, w_cst, w_tup, w_lst, w_bin, w_idx, w_slc, w_call, w_comp, w_rng, rng2K_eq, w_rng2, zipK_tup, w_zip, w_enum, seqR_nx, seqR_rt, seqR_bk, seqR_ct, seqR_ex, ts_nil, ts_cons, rtE_ok, asgK_eq, t_asg, tgK_some, asgTK_eq, t_asgT, parJ_eq, parK_eq, t_par, par3H_eq, par3J_eq, par3K_eq, t_par3, setJ_eq, setK_eq, t_set, expK_eq, t_exp, retK_eq, t_ret, t_retN, ifK_t, ifK_f, t_if, t_whl, frB_eq, frJ_eq, fr_fix, fr_zip, fr_rng, forL_nil, forL_cons, forK_nx, forK_ct, forK_bk, forK_rt, t_fr, t_pas, t_brk, t_cnt, body_rt, body_nx, body_ex, op_addI, op_subI, op_mulI, op_fdivI, op_modI, op_powI, mkTup_small, alloc_small, idx_R, idxS_some, setH_R, setS_some, setX_some, len_R, lenS_some, len_rol, tup_R, tupS_some, all_R, allS_some, allK_some, src_R, srcS_some, m1J_R, m1S_some, app_R, appX_some, at_new, bls_nil, bls_cons, List.all_cons, List.all_nil, id_eq, Bool.and_true, Bool.and_self,  neg_I, not_B, cop_lt, cop_le, cop_gt, cop_ge, cop_eq, cop_ne, cop_isN, cop_notN, cop_isB, cop_notB, ofOpt_some, eqD_int, eqD_str, b1_lenT, b1_abs, b1_intI, b1_intB, b2_min, b2_max, isi_tup, isi_int, isi_bl, isi_str, idxK_some, idx_tup, idx_rol, atI_0, atI_1, atI_2, atI_3, atI_4, atI_5, atI_6, atI_7, atI_m1_1, atI_m1_2, atI_m2_2, atI_m1_3, atI_m2_3, atI_m3_3, atI_m1_4, atI_m2_4, atI_m3_4, atI_m1_5, atI_m2_5, atI_m3_5, atI_m1_6, atI_m2_6, atI_m3_6, tg_nm, tg_tp, tgs_nil, tgJ_some, tgs_cons, List.getElem?_cons_zero, List.getElem?_cons_succ, List.set_cons_zero, List.set_cons_succ, List.cons_append, List.nil_append, List.map_cons, List.map_nil, startD, List.length_cons, List.length_nil, List.replicate_succ, List.replicate_zero, Nat.reduceAdd, Nat.reduceSub, Int.reduceLE, Int.reduceLT, Int.reduceEq, Int.reduceNe, Nat.reduceLT, Nat.reduceEqDiff, Nat.reduceLeDiff, Int.reduceToNat, Int.reduceNeg, Int.reduceAdd, Int.reduceSub, Int.reduceMul, Int.reducePow, rng1_eq, rngD_0, rngD_s, op_powI, reduceCtorEq, decide_true, decide_false, eq_self, Int.cast_ofNat_Int, Nat.zero_add, Option.map_some, ne_eq, not_false_eq_true, Bool.not_true, Bool.not_false, isNonD, i_ev0, i_ev1, i_fr0, i_fr1, s_ev, g_fr, g_ev, r_ev, k_ev, k_one, k_zero, fr_half])
/-! ### halves -/
def hf (i : Nat) : Rat := ⟨1, 2 ^ i, by exact Nat.ne_of_gt (Nat.pow_pos (by decide)), by simp⟩
theorem hf_div (i : Nat) : hf i = Rat.divInt 1 ((2 ^ i : Nat) : Int) := Rat.mk_eq_divInt
theorem hf_succ (i : Nat) : hf i * Rat.divInt 1 2 = hf (i + 1) := by
  rw [hf_div, hf_div, Rat.divInt_mul_divInt, Nat.pow_succ]
  congr 1
theorem hf_pos (i : Nat) : 0 < hf i := pos_of (show (0 : Int) < 1 by decide)
theorem hf_sz (i : Nat) : Sz (hf i) (i + 1) := ⟨by show 1 < 2 ^ (i + 1); exact Nat.one_lt_two_pow (by omega), by show 2 ^ i < 2 ^ (i + 1); exact Nat.pow_lt_pow_right (by decide) (by omega)⟩
theorem hf_big (n : Nat) : hf n * ((2 ^ n : Nat) : Rat) = 1 := by
  have e : ((2 ^ n : Nat) : Rat) = Rat.divInt ((2 ^ n : Nat) : Int) 1 := by
    rw [Rat.divInt_eq_div]
    have h1 : (((1 : Int)) : Rat) = 1 := rfl
    rw [h1, Rat.intCast_natCast]
    grind
  have h0 : ((2 ^ n : Nat) : Int) ≠ 0 := by
    have := Nat.pow_pos (n := n) (show 0 < 2 by decide)
    omega
  rw [e, hf_div, Rat.divInt_mul_divInt, Int.one_mul, Int.mul_one, Rat.divInt_self' h0]
theorem lt_big {l : Rat} {n : Nat} (h : Sz l n) : l < ((2 ^ n : Nat) : Rat) := by
  rw [Rat.lt_iff]
  show l.num * ((1 : Nat) : Int) < ((2 ^ n : Nat) : Int) * l.den
  have h1 := h.num
  have h2 := l.den_pos
  have h3 : ((2 ^ n : Nat) : Int) * 1 ≤ ((2 ^ n : Nat) : Int) * l.den := Int.mul_le_mul_of_nonneg_left (by omega) (by omega)
  omega
theorem hf_lt {g : Rat} {n : Nat} (h : Sz g n) (g0 : 0 < g) : hf n < g := by
  rw [Rat.lt_iff]
  show (1 : Int) * g.den < g.num * ((2 ^ n : Nat) : Int)
  have h1 := h.den
  have h2 := num_pos g0
  have h3 : 1 * ((2 ^ n : Nat) : Int) ≤ g.num * ((2 ^ n : Nat) : Int) := Int.mul_le_mul_of_nonneg_right (by omega) (by omega)
  omega
/-- halved often enough -/
theorem hf_end {l g : Rat} {n : Nat} (hl : Sz l n) (hg : Sz g n) (g0 : 0 < g) : 0 < g - hf n * hf n * l := by
  have h1 := lt_big hl
  have h2 := hf_lt hg g0
  have h3 := hf_big n
  have h4 := hf_pos n
  generalize ((2 ^ n : Nat) : Rat) = A at *
  generalize hf n = P at *
  have h5 : 0 < P * P := Rat.mul_pos h4 h4
  have h6 : P * P * l < P * P * A := Rat.mul_lt_mul_of_pos_left h1 h5
  have h7 : P * P * A = P := by grind
  grind
section
variable {tab : Nat → Option Fd} {fu : Nat}
theorem less_square_ok (G : Sub tab) (k : Nat) {s g l : Rat} {n m : Nat} (hs : Sz s m) (hg : Sz g n) (hl : Sz l n) (hn : n + (m + m + n) < 9000) (hF : 2 ^ 9000 ≤ fu) (S : Store) : evC fu tab (k + 4) 62 [frD s, frD g, frD l] S = .ok (.bl (decide (0 < (g - s * s * l).num))) S := by
  have e1 := times_ok (S := S) (fu := fu) G k hs hs (by omega) hF
  have e2 := times_ok (S := S) (fu := fu) G k (hs.mul hs) hl (by omega) hF
  have e3 := less_ok (S := S) (fu := fu) G k hg ((hs.mul hs).mul hl) (by omega) hF
  rw [evC_eq (G 62 _ rfl)]
  unfold tr_62
  clear G hs hg hl hn hF
  walk_at "cw"
theorem num_pos_iff {q : Rat} : 0 < q.num ↔ 0 < q := ⟨pos_of, num_pos⟩
theorem pace_loop (G : Sub tab) (k : Nat) {g l : Rat} {N : Nat} (hg : Sz g N) (hl : Sz l N) (hN : N ≤ 1000) (hF : 2 ^ 9000 ≤ fu) (he : 0 < g - hf N * hf N * l) (o0 o1 o4 o5 : Option D) (S : Store) : ∀ (r i m : Nat), i + r = N → r < m → ∃ j, j ≤ N ∧ 0 < g - hf j * hf j * l ∧
    loopW ((ev3 (evC fu tab (k + 4)) (.not (.call 62 (.cons (.var 3) (.cons (.var 6) (.cons (.var 2) .nil))) .nil none))).b) (evTs fu (evC fu tab (k + 4)) (.cons (.asg 3 (.call 13 (.cons (.var 3) (.cons (.tup (.cons (.cst (.int 1)) (.cons (.cst (.int 2)) .nil))) .nil)) .nil none)) .nil)) m
      [o0, o1, some (frD l), some (frD (hf i)), o4, o5, some (frD g)] S = some (.nx [o0, o1, some (frD l), some (frD (hf j)), o4, o5, some (frD g)], S)
  | r, i, 0, _, h => absurd h (by omega)
  | r, i, m + 1, hi, hm => by
    have hs : Sz (hf i) 1001 := (hf_sz i).mono (by omega)
    have e1 := less_square_ok (fu := fu) G k hs (hg.mono hN) (hl.mono hN) (by decide) hF S
    have e2 := times_ok (S := S) (fu := fu) G (k + 1) hs (q := Rat.divInt 1 2) (m := 2) ⟨by decide, by decide⟩ (by decide) hF
    rw [hf_succ] at e2
    unfold loopW
    by_cases h : 0 < g - hf i * hf i * l
    · refine ⟨i, by omega, h, ?_⟩
      have hd := decide_eq_true (num_pos_iff.mpr h)
      rw [hd] at e1
      clear G hg hl hN hF he hs h hd
      walk_at "cw"
    · have hr : r ≠ 0 := by
        intro z
        have : i = N := by omega
        rw [this] at h
        exact h he
      have hd := decide_eq_false (show ¬ (0 < (g - hf i * hf i * l).num) from fun z => h (num_pos_iff.mp z))
      rw [hd] at e1
      obtain ⟨j, hj, hp, e3⟩ := pace_loop G k hg hl hN hF he o0 o1 o4 o5 S (r - 1) (i + 1) m (by omega) (by omega)
      refine ⟨j, hj, hp, ?_⟩
      clear G hg hl hN hF he hs h hd hr hi hm hj hp
      walk_at "cw"
end
end Cw
namespace Cw
open PySem PySem.Spec PyProof.Rows L2
local macro_rules | `(tactic| walk_at "cw") => `(tactic| simp only [bnd_ok, bnd_exc, varR_some, kk2_eq, v_var, v_cst, v_tup, v_lst, v_bin, v_neg, v_not, andK_t, andK_f, orK_t, orK_f, v_and, v_or, v_cmp, chK_t, chK_f, chJ_eq, v_chain, iteK_t, iteK_f, v_ite, v_idx, slcK_eq, slcL_eq, slcJ_eq, v_slc, optK_int, o_none, o_some, v_rev, rev_tup, callK_eq, callJ_none, callJ_perm, callP_some, permL_nil, permL_cons, permC_some, v_call, v_b1, v_b2, isiK_eq, v_isi, v_m0, v_m1, compE_eq, comp_live, lenL_some, live_eq, liveK_some, liveJ_none, liveJ_some, liveH_some, liveH_none, fr_live, liveF_eq, liveFK_some, liveFJ_none, liveFJ_some, liveFH_nx, liveFH_ct, liveFH_bk, liveFH_rt, nil_get, comp_fix, comp_zip, comp_rng, turnC_eq, turnJ_some, turnK_t, turnK_f, yesK_eq, wipe_nil, wipe_cons, loopL_nil, loopL_cons, loopK_some, loopK_none, zipD_nil, zipD_nil2, zipD_cons, v_comp, es_nil, consJ_eq, consK_eq, es_cons, notJ_eq, andJ_t, andJ_f, orJ_t, orJ_f, b_not, b_and, b_or, b_cmp, b_chain, b_ite, b_var, b_cst, b_call, b_b1, b_isi, b_idx, b_bin, b_comp, ofBl_bl, tru_bl, tru_int, tru_tup, tru_non, c_none', c_some', srcK_tup, srcK_rol, w_var, w_cst, w_tup, w_lst, w_bin, w_idx, w_slc, w_call, w_comp, w_rng, rng2K_eq, w_rng2, zipK_tup, w_zip, w_enum, seqR_nx, seqR_rt, seqR_bk, seqR_ct, seqR_ex, ts_nil, ts_cons, rtE_ok, asgK_eq, t_asg, tgK_some, asgTK_eq, t_asgT, parJ_eq, parK_eq, t_par, par3H_eq, par3J_eq, par3K_eq, t_par3, setJ_eq, setK_eq, t_set, expK_eq, t_exp, retK_eq, t_ret, t_retN, ifK_t, ifK_f, t_if, t_whl, frB_eq, frJ_eq, fr_fix, fr_zip, fr_rng, forL_nil, forL_cons, forK_nx, forK_ct, forK_bk, forK_rt, t_fr, t_pas, t_brk, t_cnt, body_rt, body_nx, body_ex, op_addI, op_subI, op_mulI, op_fdivI, op_modI, op_powI, mkTup_small, alloc_small, idx_R, idxS_some, setH_R, setS_some, setX_some, len_R, lenS_some, len_rol, tup_R, tupS_some, all_R, allS_some, allK_some, src_R, srcS_some, m1J_R, m1S_some, app_R, appX_some, at_new, bls_nil, bls_cons, List.all_cons, List.all_nil, id_eq, Bool.and_true, Bool.and_self,  neg_I, not_B, cop_lt, cop_le, cop_gt, cop_ge, cop_eq, cop_ne, cop_isN, cop_notN, cop_isB, cop_notB, ofOpt_some, eqD_int, eqD_str, b1_lenT, b1_abs, b1_intI, b1_intB, b2_min, b2_max, isi_tup, isi_int, isi_bl, isi_str, idxK_some, idx_tup, idx_rol, atI_0, atI_1, atI_2, atI_3, atI_4, atI_5, atI_6, atI_7, atI_m1_1, atI_m1_2, atI_m2_2, atI_m1_3, atI_m2_3, atI_m3_3, atI_m1_4, atI_m2_4, atI_m3_4, atI_m1_5, atI_m2_5, atI_m3_5, atI_m1_6, atI_m2_6, atI_m3_6, tg_nm, tg_tp, tgs_nil, tgJ_some, tgs_cons, List.getElem?_cons_zero, List.getElem?_cons_succ, List.set_cons_zero, List.set_cons_succ, List.cons_append, List.nil_append, List.map_cons, List.map_nil, startD, List.length_cons, List.length_nil, List.replicate_succ, List.replicate_zero, Nat.reduceAdd, Nat.reduceSub, Int.reduceLE, Int.reduceLT, Int.reduceEq, Int.reduceNe, Nat.reduceLT, Nat.reduceEqDiff, Nat.reduceLeDiff, Int.reduceToNat, Int.reduceNeg, Int.reduceAdd, Int.reduceSub, Int.reduceMul, Int.reducePow, rng1_eq, rngD_0, rngD_s, op_powI, reduceCtorEq, decide_true, decide_false, eq_self, Int.cast_ofNat_Int, Nat.zero_add, Option.map_some, ne_eq, not_false_eq_true, Bool.not_true, Bool.not_false, isNonD, i_ev0, i_ev1, i_fr0, i_fr1, s_ev, g_fr, g_ev, r_ev, k_ev, k_one, k_zero, fr_half, *])
local macro_rules | `(tactic| walk_at "cw0") => `(tactic| simp only [bnd_ok, bnd_exc, varR_some, kk2_eq, v_var, v_cst, v_tup, v_lst, v_bin, v_neg, v_not, andK_t, andK_f, orK_t, orK_f, v_and, v_or, v_cmp, chK_t, chK_f, chJ_eq, v_chain, iteK_t, iteK_f, v_ite, v_idx, slcK_eq, slcL_eq, slcJ_eq, v_slc, optK_int, o_none, o_some, v_rev, rev_tup, callK_eq, callJ_none, callJ_perm, callP_some, permL_nil, permL_cons, permC_some, v_call, v_b1, v_b2, isiK_eq, v_isi, v_m0, v_m1, compE_eq, comp_live, lenL_some, live_eq, liveK_some, liveJ_none, liveJ_some, liveH_some, liveH_none, fr_live, liveF_eq, liveFK_some, liveFJ_none, liveFJ_some, liveFH_nx, liveFH_ct, liveFH_bk, liveFH_rt, nil_get, comp_fix, comp_zip, comp_rng, turnC_eq, turnJ_some, turnK_t, turnK_f, yesK_eq, wipe_nil, wipe_cons, loopL_nil, loopL_cons, loopK_some, loopK_none, zipD_nil, zipD_nil2, zipD_cons, v_comp, es_nil, consJ_eq, consK_eq, es_cons, notJ_eq, andJ_t, andJ_f, orJ_t, orJ_f, b_not, b_and, b_or, b_cmp, b_chain, b_ite, b_var, b_cst, b_call, b_b1, b_isi, b_idx, b_bin, b_comp, ofBl_bl, tru_bl, tru_int, tru_tup, tru_non, c_none', c_some', srcK_tup, srcK_rol, w_var, w_cst, w_tup, w_lst, w_bin, w_idx, w_slc, w_call, w_comp, w_rng, rng2K_eq, w_rng2, zipK_tup, w_zip, w_enum, seqR_nx, seqR_rt, seqR_bk, seqR_ct, seqR_ex, ts_nil, ts_cons, rtE_ok, asgK_eq, t_asg, tgK_some, asgTK_eq, t_asgT, parJ_eq, parK_eq, t_par, par3H_eq, par3J_eq, par3K_eq, t_par3, setJ_eq, setK_eq, t_set, expK_eq, t_exp, retK_eq, t_ret, t_retN, ifK_t, ifK_f, t_if, t_whl, frB_eq, frJ_eq, fr_fix, fr_zip, fr_rng, forL_nil, forL_cons, forK_nx, forK_ct, forK_bk, forK_rt, t_fr, t_pas, t_brk, t_cnt, body_rt, body_nx, body_ex, op_addI, op_subI, op_mulI, op_fdivI, op_modI, op_powI, mkTup_small, alloc_small, idx_R, idxS_some, setH_R, setS_some, setX_some, len_R, lenS_some, len_rol, tup_R, tupS_some, all_R, allS_some, allK_some, src_R, srcS_some, m1J_R, m1S_some, app_R, appX_some, at_new, bls_nil, bls_cons, List.all_cons, List.all_nil, id_eq, Bool.and_true, Bool.and_self,  neg_I, not_B, cop_lt, cop_le, cop_gt, cop_ge, cop_eq, cop_ne, cop_isN, cop_notN, cop_isB, cop_notB, ofOpt_some, eqD_int, eqD_str, b1_lenT, b1_abs, b1_intI, b1_intB, b2_min, b2_max, isi_tup, isi_int, isi_bl, isi_str, idxK_some, idx_tup, idx_rol, atI_0, atI_1, atI_2, atI_3, atI_4, atI_5, atI_6, atI_7, atI_m1_1, atI_m1_2, atI_m2_2, atI_m1_3, atI_m2_3, atI_m3_3, atI_m1_4, atI_m2_4, atI_m3_4, atI_m1_5, atI_m2_5, atI_m3_5, atI_m1_6, atI_m2_6, atI_m3_6, tg_nm, tg_tp, tgs_nil, tgJ_some, tgs_cons, List.getElem?_cons_zero, List.getElem?_cons_succ, List.set_cons_zero, List.set_cons_succ, List.cons_append, List.nil_append, List.map_cons, List.map_nil, startD, List.length_cons, List.length_nil, List.replicate_succ, List.replicate_zero, Nat.reduceAdd, Nat.reduceSub, Int.reduceLE, Int.reduceLT, Int.reduceEq, Int.reduceNe, Nat.reduceLT, Nat.reduceEqDiff, Nat.reduceLeDiff, Int.reduceToNat, Int.reduceNeg, Int.reduceAdd, Int.reduceSub, Int.reduceMul, Int.reducePow, rng1_eq, rngD_0, rngD_s, op_powI, reduceCtorEq, decide_true, decide_false, eq_self, Int.cast_ofNat_Int, Nat.zero_add, Option.map_some, ne_eq, not_false_eq_true, Bool.not_true, Bool.not_false, isNonD, i_ev0, i_ev1, i_fr0, i_fr1, s_ev, g_fr, g_ev, r_ev, k_ev, k_one, k_zero, fr_half])
/-! ### sequence -/
theorem fneg (v : Rat) : D.tup [.int (0 - v.num), .int v.den] = frD (-v) := by
  unfold frD
  rw [Rat.neg_num, Rat.neg_den, Int.zero_sub]
theorem one_hf : frD 1 = frD (hf 0) := rfl
section
variable {tab : Nat → Option Fd} {fu : Nat}
theorem pace_for_ok (G : Sub tab) (k : Nat) {a b c d : Rat} {n : Nat} (ha : Sz a n) (hb : Sz b n) (hc : Sz c n) (hd : Sz d n) (hn : n + n + 1 ≤ 1000) (hF : 2 ^ 9000 ≤ fu) (hu : (0 < c - a ∧ d - b < 0) ∨ (c - a < 0 ∧ 0 < d - b)) (S : Store) :
    ∃ f J, evC fu tab (k + 5) 56 [evD a b, evD c d] S = .ok (frD f) (S ++ J) ∧ 0 < f ∧ Sz f 1001 ∧ 0 < (c - a) / f + (d - b) * f := by
  have su := hc.sub ha
  have sv := hd.sub hb
  obtain ⟨J, e1⟩ := more_in_ok (fu := fu) G k ha hb hc hd (by omega) hF S
  have hfu : 1000 < fu := Nat.lt_of_lt_of_le (by decide) hF
  generalize c - a = u at *
  generalize d - b = v at *
  have h1 := one_hf
  rcases hu with ⟨u0, v0⟩ | ⟨u0, v0⟩
  · have he := hf_end sv.neg su u0
    obtain ⟨j, hj, hp, e2⟩ := pace_loop (fu := fu) G k su sv.neg hn hF he (some (evD a b)) (some (evD c d)) (some (frD u)) (some (frD v)) (S ++ J) (n + n + 1) 0 fu (by omega) (by omega)
    refine ⟨hf j, J, ?_, hf_pos j, (hf_sz j).mono (by omega), ?_⟩
    · have hd' := decide_eq_true (num_pos u0)
      have fn := fneg v
      rw [evC_eq (G 56 _ rfl)]
      unfold tr_56
      clear G ha hb hc hd hn hF su sv hfu u0 v0 he hj hp
      walk_at "cw"
    · have h0 := hf_pos j
      generalize hf j = s at *
      have e : u / s + v * s = (u - s * s * -v) * s⁻¹ := by grind
      rw [e]
      exact Rat.mul_pos hp (inv_pos h0)
  · have he := hf_end su.neg sv v0
    obtain ⟨j, hj, hp, e2⟩ := pace_loop (fu := fu) G k sv su.neg hn hF he (some (evD a b)) (some (evD c d)) (some (frD u)) (some (frD v)) (S ++ J) (n + n + 1) 0 fu (by omega) (by omega)
    have fi := frD_inv (hf_pos j)
    refine ⟨(hf j)⁻¹, J, ?_, inv_pos (hf_pos j), ((hf_sz j).mono (show j + 1 ≤ 1001 by omega)).inv (hf_pos j), ?_⟩
    · have hd' := decide_eq_false (show ¬ (0 < u.num) from fun z => by
        have := num_pos_iff.mp z
        grind)
      have fn := fneg u
      rw [evC_eq (G 56 _ rfl)]
      unfold tr_56
      clear G ha hb hc hd hn hF su sv hfu u0 v0 he hj hp
      walk_at "cw"
    · have h0 := hf_pos j
      generalize hf j = s at *
      have e : u / s⁻¹ + v * s⁻¹ = (v - s * s * -u) * s⁻¹ := by grind
      rw [e]
      exact Rat.mul_pos hp (inv_pos h0)
/-- what sequence tells -/
inductive SeqR (a b c d : Rat) : D → Prop
  | same (h : a = c ∧ b = d) : SeqR a b c d (.tup [.str "same"])
  | ahead (h0 : ¬ (a = c ∧ b = d)) (h : ah a b c d = true) : SeqR a b c d (.tup [.str "ahead"])
  | behind (h0 : ¬ (a = c ∧ b = d)) (h1 : ah a b c d = false) (h : ah c d a b = true) : SeqR a b c d (.tup [.str "behind"])
  | either (f g : Rat) (h0 : ¬ (a = c ∧ b = d)) (h1 : ah a b c d = false) (h2 : ah c d a b = false) (f0 : 0 < f) (g0 : 0 < g) (fs : Sz f 1001) (gs : Sz g 1001) (hf : 0 < (c - a) / f + (d - b) * f) (hg : (c - a) / g + (d - b) * g < 0) : SeqR a b c d (.tup [.str "either", frD f, frD g])
theorem ah_false {a b c d : Rat} (h0 : ¬ (a = c ∧ b = d)) (h : ah a b c d = false) : c - a < 0 ∨ d - b < 0 := by
  unfold ah at h
  rw [decide_eq_false h0] at h
  simp only [Bool.not_false, Bool.true_and, Bool.and_eq_false_iff, decide_eq_false_iff_not] at h
  rcases h with h | h
  · have := mt num_nn h
    exact .inl (by grind)
  · have := mt num_nn h
    exact .inr (by grind)
theorem sequence_ok (G : Sub tab) (k : Nat) {a b c d : Rat} {n : Nat} (ha : Sz a n) (hb : Sz b n) (hc : Sz c n) (hd : Sz d n) (hn : n + n + 1 ≤ 1000) (hF : 2 ^ 9000 ≤ fu) (S : Store) :
    ∃ x J, evC fu tab (k + 6) 53 [evD a b, evD c d] S = .ok x (S ++ J) ∧ SeqR a b c d x := by
  obtain ⟨J1, e1⟩ := check_event_ok (fu := fu) G (k + 1) ha hb (by omega) hF S
  obtain ⟨J2, e2⟩ := check_event_ok (fu := fu) G (k + 1) hc hd (by omega) hF (S ++ J1)
  have e3 := eqD_ev (S := S ++ J1 ++ J2) a b c d
  rw [evC_eq (G 53 _ rfl)]
  unfold tr_53
  by_cases h0 : a = c ∧ b = d
  · refine ⟨_, J1 ++ J2, ?_, .same h0⟩
    rw [decide_eq_true h0] at e3
    clear G ha hb hc hd hn hF h0
    walk_at "cw"
    simp
  · rw [decide_eq_false h0] at e3
    obtain ⟨J3, e4⟩ := is_aheadB (fu := fu) G k ha hb hc hd (by omega) hF (S ++ J1 ++ J2)
    cases h1 : ah a b c d
    · rw [h1] at e4
      obtain ⟨J4, e5⟩ := is_aheadB (fu := fu) G k hc hd ha hb (by omega) hF (S ++ J1 ++ J2 ++ J3)
      cases h2 : ah c d a b
      · rw [h2] at e5
        have h0' : ¬ (c = a ∧ d = b) := fun z => h0 ⟨z.1.symm, z.2.symm⟩
        have x1 := ah_false h0 h1
        have x2 := ah_false h0' h2
        have hu : (0 < c - a ∧ d - b < 0) ∨ (c - a < 0 ∧ 0 < d - b) := by grind
        have hu' : (0 < a - c ∧ b - d < 0) ∨ (a - c < 0 ∧ 0 < b - d) := by grind
        obtain ⟨f, J5, e6, f0, fs, hf'⟩ := pace_for_ok (fu := fu) G k ha hb hc hd hn hF hu (S ++ J1 ++ J2 ++ J3 ++ J4)
        obtain ⟨g, J6, e7, g0, gs, hg⟩ := pace_for_ok (fu := fu) G k hc hd ha hb hn hF hu' (S ++ J1 ++ J2 ++ J3 ++ J4 ++ J5)
        have hg' : (c - a) / g + (d - b) * g < 0 := by
          have e : (c - a) / g + (d - b) * g = -((a - c) / g + (b - d) * g) := by grind
          rw [e]
          grind
        refine ⟨_, J1 ++ J2 ++ J3 ++ J4 ++ J5 ++ J6, ?_, .either f g h0 h1 h2 f0 g0 fs gs hf' hg'⟩
        clear G ha hb hc hd hn hF h0 h0' h1 h2 x1 x2 hu hu' f0 fs g0 gs hf' hg hg'
        walk_at "cw"
        simp
      · rw [h2] at e5
        refine ⟨_, J1 ++ J2 ++ J3 ++ J4, ?_, .behind h0 h1 h2⟩
        clear G ha hb hc hd hn hF h0 h1 h2
        walk_at "cw"
        simp
    · rw [h1] at e4
      refine ⟨_, J1 ++ J2 ++ J3, ?_, .ahead h0 h1⟩
      clear G ha hb hc hd hn hF h0 h1
      walk_at "cw"
      simp
end
end Cw
namespace Cw
open PySem PySem.Spec PyProof.Rows L2
local macro_rules | `(tactic| walk_at "cw") => `(tactic| simp only [bnd_ok, bnd_exc, varR_some, kk2_eq, v_var, v_cst, v_tup, v_lst, v_bin, v_neg, v_not, andK_t, andK_f, orK_t, orK_f, v_and, v_or, v_cmp, chK_t, chK_f, chJ_eq, v_chain, iteK_t, iteK_f, v_ite, v_idx, slcK_eq, slcL_eq, slcJ_eq, v_slc, optK_int, o_none, o_some, v_rev, rev_tup, callK_eq, callJ_none, callJ_perm, callP_some, permL_nil, permL_cons, permC_some, v_call, v_b1, v_b2, isiK_eq, v_isi, v_m0, v_m1, compE_eq, comp_live, lenL_some, live_eq, liveK_some, liveJ_none, liveJ_some, liveH_some, liveH_none, fr_live, liveF_eq, liveFK_some, liveFJ_none, liveFJ_some, liveFH_nx, liveFH_ct, liveFH_bk, liveFH_rt, nil_get, comp_fix, comp_zip, comp_rng, turnC_eq, turnJ_some, turnK_t, turnK_f, yesK_eq, wipe_nil, wipe_cons, loopL_nil, loopL_cons, loopK_some, loopK_none, zipD_nil, zipD_nil2, zipD_cons, v_comp, es_nil, consJ_eq, consK_eq, es_cons, notJ_eq, andJ_t, andJ_f, orJ_t, orJ_f, b_not, b_and, b_or, b_cmp, b_chain, b_ite, b_var, b_cst, b_call, b_b1, b_isi, b_idx, b_bin, b_comp, ofBl_bl, tru_bl, tru_int, tru_tup, tru_non, c_none', c_some', srcK_tup, srcK_rol, w_var, w_cst, w_tup, w_lst, w_bin, w_idx, w_slc, w_call, w_comp, w_rng, rng2K_eq, w_rng2, zipK_tup, w_zip, w_enum, seqR_nx, seqR_rt, seqR_bk, seqR_ct, seqR_ex, ts_nil, ts_cons, rtE_ok, asgK_eq, t_asg, tgK_some, asgTK_eq, t_asgT, parJ_eq, parK_eq, t_par, par3H_eq, par3J_eq, par3K_eq, t_par3, setJ_eq, setK_eq, t_set, expK_eq, t_exp, retK_eq, t_ret, t_retN, ifK_t, ifK_f, t_if, t_whl, frB_eq, frJ_eq, fr_fix, fr_zip, fr_rng, forL_nil, forL_cons, forK_nx, forK_ct, forK_bk, forK_rt, t_fr, t_pas, t_brk, t_cnt, body_rt, body_nx, body_ex, op_addI, op_subI, op_mulI, op_fdivI, op_modI, op_powI, mkTup_small, alloc_small, idx_R, idxS_some, setH_R, setS_some, setX_some, len_R, lenS_some, len_rol, tup_R, tupS_some, all_R, allS_some, allK_some, src_R, srcS_some, m1J_R, m1S_some, app_R, appX_some, at_new, bls_nil, bls_cons, List.all_cons, List.all_nil, id_eq, Bool.and_true, Bool.and_self,  neg_I, not_B, cop_lt, cop_le, cop_gt, cop_ge, cop_eq, cop_ne, cop_isN, cop_notN, cop_isB, cop_notB, ofOpt_some, eqD_int, eqD_str, b1_lenT, b1_abs, b1_intI, b1_intB, b2_min, b2_max, isi_tup, isi_int, isi_bl, isi_str, idxK_some, idx_tup, idx_rol, atI_0, atI_1, atI_2, atI_3, atI_4, atI_5, atI_6, atI_7, atI_m1_1, atI_m1_2, atI_m2_2, atI_m1_3, atI_m2_3, atI_m3_3, atI_m1_4, atI_m2_4, atI_m3_4, atI_m1_5, atI_m2_5, atI_m3_5, atI_m1_6, atI_m2_6, atI_m3_6, tg_nm, tg_tp, tgs_nil, tgJ_some, tgs_cons, List.getElem?_cons_zero, List.getElem?_cons_succ, List.set_cons_zero, List.set_cons_succ, List.cons_append, List.nil_append, List.map_cons, List.map_nil, startD, List.length_cons, List.length_nil, List.replicate_succ, List.replicate_zero, Nat.reduceAdd, Nat.reduceSub, Int.reduceLE, Int.reduceLT, Int.reduceEq, Int.reduceNe, Nat.reduceLT, Nat.reduceEqDiff, Nat.reduceLeDiff, Int.reduceToNat, Int.reduceNeg, Int.reduceAdd, Int.reduceSub, Int.reduceMul, Int.reducePow, rng1_eq, rngD_0, rngD_s, op_powI, reduceCtorEq, decide_true, decide_false, eq_self, Int.cast_ofNat_Int, Nat.zero_add, Option.map_some, ne_eq, not_false_eq_true, Bool.not_true, Bool.not_false, isNonD, i_ev0, i_ev1, i_fr0, i_fr1, s_ev, g_fr, g_ev, r_ev, k_ev, k_one, k_zero, fr_half, *])
local macro_rules | `(tactic| walk_at "cw0") => `(tactic| simp only [bnd_ok, bnd_exc, varR_some, kk2_eq, v_var, v_cst, v_tup, v_lst, v_bin, v_neg, v_not, andK_t, andK_f, orK_t, orK_f, v_and, v_or, v_cmp, chK_t, chK_f, chJ_eq, v_chain, iteK_t, iteK_f, v_ite, v_idx, slcK_eq, slcL_eq, slcJ_eq, v_slc, optK_int, o_none, o_some, v_rev, rev_tup, callK_eq, callJ_none, callJ_perm, callP_some, permL_nil, permL_cons, permC_some, v_call, v_b1, v_b2, isiK_eq, v_isi, v_m0, v_m1, compE_eq, comp_live, lenL_some, live_eq, liveK_some, liveJ_none, liveJ_some, liveH_some, liveH_none, fr_live, liveF_eq, liveFK_some, liveFJ_none, liveFJ_some, liveFH_nx, liveFH_ct, liveFH_bk, liveFH_rt, nil_get, comp_fix, comp_zip, comp_rng, turnC_eq, turnJ_some, turnK_t, turnK_f, yesK_eq, wipe_nil, wipe_cons, loopL_nil, loopL_cons, loopK_some, loopK_none, zipD_nil, zipD_nil2, zipD_cons, v_comp, es_nil, consJ_eq, consK_eq, es_cons, notJ_eq, andJ_t, andJ_f, orJ_t, orJ_f, b_not, b_and, b_or, b_cmp, b_chain, b_ite, b_var, b_cst, b_call, b_b1, b_isi, b_idx, b_bin, b_comp, ofBl_bl, tru_bl, tru_int, tru_tup, tru_non, c_none', c_some', srcK_tup, srcK_rol, w_var, w_cst, w_tup, w_lst, w_bin, w_idx, w_slc, w_call, w_comp, w_rng, rng2K_eq, w_rng2, zipK_tup, w_zip, w_enum, seqR_nx, seqR_rt, seqR_bk, seqR_ct, seqR_ex, ts_nil, ts_cons, rtE_ok, asgK_eq, t_asg, tgK_some, asgTK_eq, t_asgT, parJ_eq, parK_eq, t_par, par3H_eq, par3J_eq, par3K_eq, t_par3, setJ_eq, setK_eq, t_set, expK_eq, t_exp, retK_eq, t_ret, t_retN, ifK_t, ifK_f, t_if, t_whl, frB_eq, frJ_eq, fr_fix, fr_zip, fr_rng, forL_nil, forL_cons, forK_nx, forK_ct, forK_bk, forK_rt, t_fr, t_pas, t_brk, t_cnt, body_rt, body_nx, body_ex, op_addI, op_subI, op_mulI, op_fdivI, op_modI, op_powI, mkTup_small, alloc_small, idx_R, idxS_some, setH_R, setS_some, setX_some, len_R, lenS_some, len_rol, tup_R, tupS_some, all_R, allS_some, allK_some, src_R, srcS_some, m1J_R, m1S_some, app_R, appX_some, at_new, bls_nil, bls_cons, List.all_cons, List.all_nil, id_eq, Bool.and_true, Bool.and_self,  neg_I, not_B, cop_lt, cop_le, cop_gt, cop_ge, cop_eq, cop_ne, cop_isN, cop_notN, cop_isB, cop_notB, ofOpt_some, eqD_int, eqD_str, b1_lenT, b1_abs, b1_intI, b1_intB, b2_min, b2_max, isi_tup, isi_int, isi_bl, isi_str, idxK_some, idx_tup, idx_rol, atI_0, atI_1, atI_2, atI_3, atI_4, atI_5, atI_6, atI_7, atI_m1_1, atI_m1_2, atI_m2_2, atI_m1_3, atI_m2_3, atI_m3_3, atI_m1_4, atI_m2_4, atI_m3_4, atI_m1_5, atI_m2_5, atI_m3_5, atI_m1_6, atI_m2_6, atI_m3_6, tg_nm, tg_tp, tgs_nil, tgJ_some, tgs_cons, List.getElem?_cons_zero, List.getElem?_cons_succ, List.set_cons_zero, List.set_cons_succ, List.cons_append, List.nil_append, List.map_cons, List.map_nil, startD, List.length_cons, List.length_nil, List.replicate_succ, List.replicate_zero, Nat.reduceAdd, Nat.reduceSub, Int.reduceLE, Int.reduceLT, Int.reduceEq, Int.reduceNe, Nat.reduceLT, Nat.reduceEqDiff, Nat.reduceLeDiff, Int.reduceToNat, Int.reduceNeg, Int.reduceAdd, Int.reduceSub, Int.reduceMul, Int.reducePow, rng1_eq, rngD_0, rngD_s, op_powI, reduceCtorEq, decide_true, decide_false, eq_self, Int.cast_ofNat_Int, Nat.zero_add, Option.map_some, ne_eq, not_false_eq_true, Bool.not_true, Bool.not_false, isNonD, i_ev0, i_ev1, i_fr0, i_fr1, s_ev, g_fr, g_ev, r_ev, k_ev, k_one, k_zero, fr_half])
/-! ### what shows a sequence; what is due -/
theorem w1 : (("same" : Str) = ("either" : Str)) = False := by simp; decide
theorem w2 : (("ahead" : Str) = ("either" : Str)) = False := by simp; decide
theorem w3 : (("behind" : Str) = ("either" : Str)) = False := by simp; decide
theorem in_one {S : Store} (w : Str) : inD S (.str w) (.tup [.str w]) = some true := by
  simp [inD, sq, flatD, vOf, inV, eqV]
theorem eq_of {S : Store} {xs ys : List D} {p q : PyData} {b : Bool} (h1 : toPy S 40 (.tup xs) = some p) (h2 : toPy S 40 (.tup ys) = some q) (s1 : SeqAt.shaped p = true) (s2 : SeqAt.shaped q = true) (e : PyData.eqv p q = b) : eqD S (.tup xs) (.tup ys) = some b := by
  have e0 : eqD S (.tup xs) (.tup ys) = eqD0 S (.tup xs) (.tup ys) := eqD_old (by rintro ⟨a, b, h, _⟩; cases h)
  rw [e0]
  unfold eqD0
  rw [h1, h2]
  dsimp only
  rw [s1, s2, e]
  rfl
theorem eq_same {S : Store} : eqD S (.tup [.str "same"]) (.tup [.str "same"]) = some true := eq_of (p := .tuple [.str "same"]) (q := .tuple [.str "same"]) rfl rfl (by decide +kernel) (by decide +kernel) (by decide +kernel)
theorem eq_ahead {S : Store} : eqD S (.tup [.str "ahead"]) (.tup [.str "ahead"]) = some true := eq_of (p := .tuple [.str "ahead"]) (q := .tuple [.str "ahead"]) rfl rfl (by decide +kernel) (by decide +kernel) (by decide +kernel)
theorem eq_behind {S : Store} : eqD S (.tup [.str "behind"]) (.tup [.str "behind"]) = some true := eq_of (p := .tuple [.str "behind"]) (q := .tuple [.str "behind"]) rfl rfl (by decide +kernel) (by decide +kernel) (by decide +kernel)
theorem ne_same {S : Store} : eqD S (.tup [.str "same"]) (.tup []) = some false := eq_of (p := .tuple [.str "same"]) (q := .tuple []) rfl rfl (by decide +kernel) (by decide +kernel) (by decide +kernel)
theorem ne_ahead {S : Store} : eqD S (.tup [.str "ahead"]) (.tup []) = some false := eq_of (p := .tuple [.str "ahead"]) (q := .tuple []) rfl rfl (by decide +kernel) (by decide +kernel) (by decide +kernel)
theorem ne_behind {S : Store} : eqD S (.tup [.str "behind"]) (.tup []) = some false := eq_of (p := .tuple [.str "behind"]) (q := .tuple []) rfl rfl (by decide +kernel) (by decide +kernel) (by decide +kernel)
theorem strOk_either : (PyData.str "either").canLay0 = true := by decide +kernel
theorem ne_either {S : Store} (f g : Rat) : eqD S (.tup [.str "either", frD f, frD g]) (.tup []) = some false := by
  refine eq_of (p := .tuple [.str "either", pyF f, pyF g]) (q := .tuple []) rfl rfl ?_ (by decide +kernel) (by simp [PyData.eqv, PyData.eqvAll])
  unfold SeqAt.shaped
  rw [Bool.and_eq_true]
  exact ⟨by simp [PyData.canLay0, PyData.canLayAll0, lay_F]; exact strOk_either, by simp [pyF, PyData.depth, PyData.depthAll]⟩
theorem slc_either {S : Store} (w : Str) (f g : Rat) : evSlc (.tup [.str w, frD f, frD g]) (some 1) none S = .ok (evD f g) S := rfl
section
variable {tab : Nat → Option Fd} {fu : Nat} {S : Store}
theorem is_tuple1 (G : Sub tab) (k : Nat) (a : D) : evC fu tab (k + 1) 40 [.tup [a], .int 1, .int 1] S = .ok (.bl true) S := by
  rw [evC_eq (G 40 _ rfl)]
  unfold tr_40
  clear G
  walk_at "cw"
theorem is_tuple3 (G : Sub tab) (k : Nat) (a b c : D) : evC fu tab (k + 1) 40 [.tup [a, b, c], .int 3, .int 3] S = .ok (.bl true) S := by
  rw [evC_eq (G 40 _ rfl)]
  unfold tr_40
  clear G
  walk_at "cw"
theorem is_string1 (G : Sub tab) (k : Nat) (w : Str) : evC fu tab (k + 1) 58 [.str w, .tup [.str w]] S = .ok (.bl true) S := by
  have e : evCop .isin (.str w) (.tup [.str w]) S = .ok (.bl true) S := by
    show ofOpt S (inD S (.str w) (.tup [.str w])) = _
    rw [in_one]; rfl
  rw [evC_eq (G 58 _ rfl)]
  unfold tr_58
  clear G
  walk_at "cw"
/-- word for word the same -/
theorem SeqR.word {a b c d : Rat} {x y : D} (h : SeqR a b c d x) (k : SeqR a b c d y) : ∃ w xs ys, x = .tup (.str w :: xs) ∧ y = .tup (.str w :: ys) := by
  cases h with
  | same h =>
    cases k with
    | same => exact ⟨_, _, _, rfl, rfl⟩
    | ahead h0 => exact absurd h h0
    | behind h0 => exact absurd h h0
    | either _ _ h0 => exact absurd h h0
  | ahead h0 h =>
    cases k with
    | same h' => exact absurd h' h0
    | ahead => exact ⟨_, _, _, rfl, rfl⟩
    | behind _ h1 => rw [h] at h1; cases h1
    | either _ _ _ h1 => rw [h] at h1; cases h1
  | behind h0 h1 h =>
    cases k with
    | same h' => exact absurd h' h0
    | ahead _ h' => rw [h1] at h'; cases h'
    | behind => exact ⟨_, _, _, rfl, rfl⟩
    | either _ _ _ _ h' => rw [h] at h'; cases h'
  | either f g h0 h1 h2 =>
    cases k with
    | same h' => exact absurd h' h0
    | ahead _ h' => rw [h1] at h'; cases h'
    | behind _ _ h' => rw [h2] at h'; cases h'
    | either => exact ⟨_, _, _, rfl, rfl⟩
theorem shows_ok (G : Sub tab) (k : Nat) {a b c d : Rat} {x : D} {n : Nat} (ha : Sz a n) (hb : Sz b n) (hc : Sz c n) (hd : Sz d n) (hn : n + n + 1 ≤ 1000) (hF : 2 ^ 9000 ≤ fu) (hx : SeqR a b c d x) (S : Store) :
    ∃ J, evC fu tab (k + 7) 54 [evD a b, evD c d, x] S = .ok (.bl true) (S ++ J) := by
  obtain ⟨y, J1, e1, hy⟩ := sequence_ok (fu := fu) G k ha hb hc hd hn hF S
  obtain ⟨w, xs, ys, ex, ey⟩ := hx.word hy
  have e2 : evIdx y (.int 0) (S ++ J1) = .ok (.str w) (S ++ J1) := by rw [ey, idx_tup, atI_0]; rfl
  clear hy
  rw [evC_eq (G 54 _ rfl)]
  unfold tr_54
  have t1 := fun S a => is_tuple1 (fu := fu) (S := S) G (k + 5) a
  have t3 := fun S a b c => is_tuple3 (fu := fu) (S := S) G (k + 5) a b c
  have s1 := fun S w => is_string1 (fu := fu) (S := S) G (k + 5) w
  cases hx with
  | same h =>
    cases ex
    have q := w1
    refine ⟨J1, ?_⟩
    clear G ha hb hc hd hn hF h ey
    walk_at "cw"
  | ahead h0 h =>
    cases ex
    have q := w2
    refine ⟨J1, ?_⟩
    clear G ha hb hc hd hn hF h0 h ey
    walk_at "cw"
  | behind h0 h1 h =>
    cases ex
    have q := w3
    refine ⟨J1, ?_⟩
    clear G ha hb hc hd hn hF h0 h1 h ey
    walk_at "cw"
  | either f g h0 h1 h2 f0 g0 fs gs hf hg =>
    cases ex
    have f1 := fun S => is_factor_ok (S := S) (fu := fu) G (k + 3) fs f0 (by decide) hF
    have f2 := fun S => is_factor_ok (S := S) (fu := fu) G (k + 3) gs g0 (by decide) hF
    obtain ⟨J2, l1⟩ := skl (fun S => later_ok (fu := fu) G (k + 1) ha hb hc hd fs f0 (by omega) hF S)
    obtain ⟨J3, l2⟩ := skl (fun S => later_ok (fu := fu) G (k + 1) ha hb hc hd gs g0 (by omega) hF S)
    have d1 := decide_eq_true (num_pos hf)
    have d2 := decide_eq_true (show ((c - a) / g + (d - b) * g).num < 0 from by
      have h := num_pos (q := -((c - a) / g + (d - b) * g)) (by grind)
      rw [Rat.neg_num] at h
      omega)
    have sl := fun S => slc_either (S := S) "either" f g
    refine ⟨J1 ++ [.lst [.bl true, .bl true]] ++ [.lst [.bl true, .bl true]] ++ J2 (S ++ J1 ++ [.lst [.bl true, .bl true]] ++ [.lst [.bl true, .bl true]]) ++ J3 (S ++ J1 ++ [.lst [.bl true, .bl true]] ++ [.lst [.bl true, .bl true]] ++ J2 (S ++ J1 ++ [.lst [.bl true, .bl true]] ++ [.lst [.bl true, .bl true]])), ?_⟩
    clear G ha hb hc hd hn hF h0 h1 h2 f0 g0 fs gs hf hg ey
    walk_at "cw"
    simp
end
end Cw
namespace Cw
open PySem PySem.Spec PyProof.Rows L2
local macro_rules | `(tactic| walk_at "cw") => `(tactic| simp only [bnd_ok, bnd_exc, varR_some, kk2_eq, v_var, v_cst, v_tup, v_lst, v_bin, v_neg, v_not, andK_t, andK_f, orK_t, orK_f, v_and, v_or, v_cmp, chK_t, chK_f, chJ_eq, v_chain, iteK_t, iteK_f, v_ite, v_idx, slcK_eq, slcL_eq, slcJ_eq, v_slc, optK_int, o_none, o_some, v_rev, rev_tup, callK_eq, callJ_none, callJ_perm, callP_some, permL_nil, permL_cons, permC_some, v_call, v_b1, v_b2, isiK_eq, v_isi, v_m0, v_m1, compE_eq, comp_live, lenL_some, live_eq, liveK_some, liveJ_none, liveJ_some, liveH_some, liveH_none, fr_live, liveF_eq, liveFK_some, liveFJ_none, liveFJ_some, liveFH_nx, liveFH_ct, liveFH_bk, liveFH_rt, nil_get, comp_fix, comp_zip, comp_rng, turnC_eq, turnJ_some, turnK_t, turnK_f, yesK_eq, wipe_nil, wipe_cons, loopL_nil, loopL_cons, loopK_some, loopK_none, zipD_nil, zipD_nil2, zipD_cons, v_comp, es_nil, consJ_eq, consK_eq, es_cons, notJ_eq, andJ_t, andJ_f, orJ_t, orJ_f, b_not, b_and, b_or, b_cmp, b_chain, b_ite, b_var, b_cst, b_call, b_b1, b_isi, b_idx, b_bin, b_comp, ofBl_bl, tru_bl, tru_int, tru_tup, tru_non, c_none', c_some', srcK_tup, srcK_rol, w_var, w_cst, w_tup, w_lst, w_bin, w_idx, w_slc, w_call, w_comp, w_rng, rng2K_eq, w_rng2, zipK_tup, w_zip, w_enum, seqR_nx, seqR_rt, seqR_bk, seqR_ct, seqR_ex, ts_nil, ts_cons, rtE_ok, asgK_eq, t_asg, tgK_some, asgTK_eq, t_asgT, parJ_eq, parK_eq, t_par, par3H_eq, par3J_eq, par3K_eq, t_par3, setJ_eq, setK_eq, t_set, expK_eq, t_exp, retK_eq, t_ret, t_retN, ifK_t, ifK_f, t_if, t_whl, frB_eq, frJ_eq, fr_fix, fr_zip, fr_rng, forL_nil, forL_cons, forK_nx, forK_ct, forK_bk, forK_rt, t_fr, t_pas, t_brk, t_cnt, body_rt, body_nx, body_ex, op_addI, op_subI, op_mulI, op_fdivI, op_modI, op_powI, mkTup_small, alloc_small, idx_R, idxS_some, setH_R, setS_some, setX_some, len_R, lenS_some, len_rol, tup_R, tupS_some, all_R, allS_some, allK_some, src_R, srcS_some, m1J_R, m1S_some, app_R, appX_some, at_new, bls_nil, bls_cons, List.all_cons, List.all_nil, id_eq, Bool.and_true, Bool.and_self,  neg_I, not_B, cop_lt, cop_le, cop_gt, cop_ge, cop_eq, cop_ne, cop_isN, cop_notN, cop_isB, cop_notB, ofOpt_some, eqD_int, eqD_str, b1_lenT, b1_abs, b1_intI, b1_intB, b2_min, b2_max, isi_tup, isi_int, isi_bl, isi_str, idxK_some, idx_tup, idx_rol, atI_0, atI_1, atI_2, atI_3, atI_4, atI_5, atI_6, atI_7, atI_m1_1, atI_m1_2, atI_m2_2, atI_m1_3, atI_m2_3, atI_m3_3, atI_m1_4, atI_m2_4, atI_m3_4, atI_m1_5, atI_m2_5, atI_m3_5, atI_m1_6, atI_m2_6, atI_m3_6, tg_nm, tg_tp, tgs_nil, tgJ_some, tgs_cons, List.getElem?_cons_zero, List.getElem?_cons_succ, List.set_cons_zero, List.set_cons_succ, List.cons_append, List.nil_append, List.map_cons, List.map_nil, startD, List.length_cons, List.length_nil, List.replicate_succ, List.replicate_zero, Nat.reduceAdd, Nat.reduceSub, Int.reduceLE, Int.reduceLT, Int.reduceEq, Int.reduceNe, Nat.reduceLT, Nat.reduceEqDiff, Nat.reduceLeDiff, Int.reduceToNat, Int.reduceNeg, Int.reduceAdd, Int.reduceSub, Int.reduceMul, Int.reducePow, rng1_eq, rngD_0, rngD_s, op_powI, reduceCtorEq, decide_true, decide_false, eq_self, Int.cast_ofNat_Int, Nat.zero_add, Option.map_some, ne_eq, not_false_eq_true, Bool.not_true, Bool.not_false, isNonD, i_ev0, i_ev1, i_fr0, i_fr1, s_ev, g_fr, g_ev, r_ev, k_ev, k_one, k_zero, fr_half, *])
local macro_rules | `(tactic| walk_at "cw0") => `(tactic| simp only [bnd_ok, bnd_exc, varR_some, kk2_eq, v_var, v_cst, v_tup, v_lst, v_bin, v_neg, v_not, andK_t, andK_f, orK_t, orK_f, v_and, v_or, v_cmp, chK_t, chK_f, chJ_eq, v_chain, iteK_t, iteK_f, v_ite, v_idx, slcK_eq, slcL_eq, slcJ_eq, v_slc, optK_int, o_none, o_some, v_rev, rev_tup, callK_eq, callJ_none, callJ_perm, callP_some, permL_nil, permL_cons, permC_some, v_call, v_b1, v_b2, isiK_eq, v_isi, v_m0, v_m1, compE_eq, comp_live, lenL_some, live_eq, liveK_some, liveJ_none, liveJ_some, liveH_some, liveH_none, fr_live, liveF_eq, liveFK_some, liveFJ_none, liveFJ_some, liveFH_nx, liveFH_ct, liveFH_bk, liveFH_rt, nil_get, comp_fix, comp_zip, comp_rng, turnC_eq, turnJ_some, turnK_t, turnK_f, yesK_eq, wipe_nil, wipe_cons, loopL_nil, loopL_cons, loopK_some, loopK_none, zipD_nil, zipD_nil2, zipD_cons, v_comp, es_nil, consJ_eq, consK_eq, es_cons, notJ_eq, andJ_t, andJ_f, orJ_t, orJ_f, b_not, b_and, b_or, b_cmp, b_chain, b_ite, b_var, b_cst, b_call, b_b1, b_isi, b_idx, b_bin, b_comp, ofBl_bl, tru_bl, tru_int, tru_tup, tru_non, c_none', c_some', srcK_tup, srcK_rol, w_var, w_cst, w_tup, w_lst, w_bin, w_idx, w_slc, w_call, w_comp, w_rng, rng2K_eq, w_rng2, zipK_tup, w_zip, w_enum, seqR_nx, seqR_rt, seqR_bk, seqR_ct, seqR_ex, ts_nil, ts_cons, rtE_ok, asgK_eq, t_asg, tgK_some, asgTK_eq, t_asgT, parJ_eq, parK_eq, t_par, par3H_eq, par3J_eq, par3K_eq, t_par3, setJ_eq, setK_eq, t_set, expK_eq, t_exp, retK_eq, t_ret, t_retN, ifK_t, ifK_f, t_if, t_whl, frB_eq, frJ_eq, fr_fix, fr_zip, fr_rng, forL_nil, forL_cons, forK_nx, forK_ct, forK_bk, forK_rt, t_fr, t_pas, t_brk, t_cnt, body_rt, body_nx, body_ex, op_addI, op_subI, op_mulI, op_fdivI, op_modI, op_powI, mkTup_small, alloc_small, idx_R, idxS_some, setH_R, setS_some, setX_some, len_R, lenS_some, len_rol, tup_R, tupS_some, all_R, allS_some, allK_some, src_R, srcS_some, m1J_R, m1S_some, app_R, appX_some, at_new, bls_nil, bls_cons, List.all_cons, List.all_nil, id_eq, Bool.and_true, Bool.and_self,  neg_I, not_B, cop_lt, cop_le, cop_gt, cop_ge, cop_eq, cop_ne, cop_isN, cop_notN, cop_isB, cop_notB, ofOpt_some, eqD_int, eqD_str, b1_lenT, b1_abs, b1_intI, b1_intB, b2_min, b2_max, isi_tup, isi_int, isi_bl, isi_str, idxK_some, idx_tup, idx_rol, atI_0, atI_1, atI_2, atI_3, atI_4, atI_5, atI_6, atI_7, atI_m1_1, atI_m1_2, atI_m2_2, atI_m1_3, atI_m2_3, atI_m3_3, atI_m1_4, atI_m2_4, atI_m3_4, atI_m1_5, atI_m2_5, atI_m3_5, atI_m1_6, atI_m2_6, atI_m3_6, tg_nm, tg_tp, tgs_nil, tgJ_some, tgs_cons, List.getElem?_cons_zero, List.getElem?_cons_succ, List.set_cons_zero, List.set_cons_succ, List.cons_append, List.nil_append, List.map_cons, List.map_nil, startD, List.length_cons, List.length_nil, List.replicate_succ, List.replicate_zero, Nat.reduceAdd, Nat.reduceSub, Int.reduceLE, Int.reduceLT, Int.reduceEq, Int.reduceNe, Nat.reduceLT, Nat.reduceEqDiff, Nat.reduceLeDiff, Int.reduceToNat, Int.reduceNeg, Int.reduceAdd, Int.reduceSub, Int.reduceMul, Int.reducePow, rng1_eq, rngD_0, rngD_s, op_powI, reduceCtorEq, decide_true, decide_false, eq_self, Int.cast_ofNat_Int, Nat.zero_add, Option.map_some, ne_eq, not_false_eq_true, Bool.not_true, Bool.not_false, isNonD, i_ev0, i_ev1, i_fr0, i_fr1, s_ev, g_fr, g_ev, r_ev, k_ev, k_one, k_zero, fr_half])
section
variable {tab : Nat → Option Fd} {fu : Nat}
theorem due_ok (G : Sub tab) (k : Nat) {a b c d : Rat} {x : D} {n : Nat} (ha : Sz a n) (hb : Sz b n) (hc : Sz c n) (hd : Sz d n) (hn : n + n + 1 ≤ 1000) (hF : 2 ^ 9000 ≤ fu) (hx : SeqR a b c d x) (S : Store) :
    ∃ J, evC fu tab (k + 7) 55 [evD a b, evD c d, x] S = .ok (.bl true) (S ++ J) := by
  have q0 := fun S => eqD_ev (S := S) a b c d
  obtain ⟨J1, a1⟩ := skl (fun S => l_aheadB (fu := fu) G (k + 1) ha hb hc hd (by omega) hF S)
  obtain ⟨J2, a2⟩ := skl (fun S => l_aheadB (fu := fu) G (k + 1) hc hd ha hb (by omega) hF S)
  rw [evC_eq (G 55 _ rfl)]
  unfold tr_55
  cases hx with
  | same h =>
    have h' := decide_eq_true h
    rw [h'] at q0
    have z1 := fun S => ne_same (S := S)
    have z2 := fun S => eq_same (S := S)
    refine ⟨[], ?_⟩
    clear G ha hb hc hd hn hF h h'
    walk_at "cw"
    simp
  | ahead h0 h =>
    have h' := decide_eq_false h0
    rw [h'] at q0
    rw [h] at a1
    have z1 := fun S => ne_ahead (S := S)
    have z2 := fun S => eq_ahead (S := S)
    refine ⟨J1 S, ?_⟩
    clear G ha hb hc hd hn hF h0 h h'
    walk_at "cw"
  | behind h0 h1 h =>
    have h' := decide_eq_false h0
    rw [h'] at q0
    rw [h1] at a1
    rw [h] at a2
    have z1 := fun S => ne_behind (S := S)
    have z2 := fun S => eq_behind (S := S)
    refine ⟨J1 S ++ J2 (S ++ J1 S), ?_⟩
    clear G ha hb hc hd hn hF h0 h h1 h'
    walk_at "cw"
    simp
  | either f g h0 h1 h2 f0 g0 fs gs hf hg =>
    have h' := decide_eq_false h0
    rw [h'] at q0
    rw [h1] at a1
    rw [h2] at a2
    have z1 := fun S => ne_either (S := S) f g
    have sl := fun S => slc_either (S := S) "either" f g
    obtain ⟨J3, p1⟩ := skl (fun S => frac_is_pace_ok (fu := fu) G (k + 3) fs f0 (by decide) hF S)
    obtain ⟨J4, p2⟩ := skl (fun S => frac_is_pace_ok (fu := fu) G (k + 3) gs g0 (by decide) hF S)
    have m : n ≤ 1001 := by omega
    have u1 := fun S => sum_seen_ok (fu := fu) G (k + 1) (ha.mono m) (hb.mono m) fs f0 (Nat.le_refl _) (by decide) hF S
    have u2 := fun S => sum_seen_ok (fu := fu) G (k + 1) (hc.mono m) (hd.mono m) fs f0 (Nat.le_refl _) (by decide) hF S
    have u3 := fun S => sum_seen_ok (fu := fu) G (k + 1) (ha.mono m) (hb.mono m) gs g0 (Nat.le_refl _) (by decide) hF S
    have u4 := fun S => sum_seen_ok (fu := fu) G (k + 1) (hc.mono m) (hd.mono m) gs g0 (Nat.le_refl _) (by decide) hF S
    have fn : f ≠ 0 := by intro z; subst z; exact absurd f0 (by decide)
    have gn : g ≠ 0 := by intro z; subst z; exact absurd g0 (by decide)
    have sz : ∀ {p q r : Rat}, Sz p 1001 → Sz q 1001 → Sz r 1001 → r ≠ 0 → Sz (p / r + q * r) 4005 := fun hp hq hr r0 => ((hp.div hr r0).add (hq.mul hr))
    have i1 := fun S => is_less_ok (fu := fu) G (k + 5) (sz (ha.mono m) (hb.mono m) fs fn) (sz (hc.mono m) (hd.mono m) fs fn) (by decide) S
    have i2 := fun S => is_less_ok (fu := fu) G (k + 5) (sz (hc.mono m) (hd.mono m) gs gn) (sz (ha.mono m) (hb.mono m) gs gn) (by decide) S
    have l1 : a / f + b * f < c / f + d * f := by
      have e : (c - a) / f + (d - b) * f = (c / f + d * f) - (a / f + b * f) := by grind
      rw [e] at hf
      grind
    have l2 : c / g + d * g < a / g + b * g := by
      have e : (c - a) / g + (d - b) * g = (c / g + d * g) - (a / g + b * g) := by grind
      rw [e] at hg
      grind
    rw [decide_eq_true l1] at i1
    rw [decide_eq_true l2] at i2
    refine ⟨J1 S ++ J2 (S ++ J1 S) ++ J3 (S ++ J1 S ++ J2 (S ++ J1 S)) ++ J4 (S ++ J1 S ++ J2 (S ++ J1 S) ++ J3 (S ++ J1 S ++ J2 (S ++ J1 S))) ++ [.lst [.bl true, .bl true]], ?_⟩
    clear G ha hb hc hd hn hF h0 h1 h2 f0 g0 fs gs hf hg h' m fn gn sz l1 l2
    walk_at "cw"
    simp
end
/-! ### the same word for all onlookers -/
theorem div_sub {a c p : Rat} : c / p - a / p = (c - a) * p⁻¹ := by grind
theorem mul_sub' {b d p : Rat} : d * p - b * p = (d - b) * p := by grind
theorem nn_mul {q s : Rat} (h : 0 < s) : (0 ≤ (q * s).num) ↔ (0 ≤ q.num) := by
  rw [Rat.num_nonneg, Rat.num_nonneg]
  constructor
  · intro z
    by_cases h0 : 0 ≤ q
    · exact h0
    · have h1 : 0 < -q := by grind
      have h2 := Rat.mul_pos h1 h
      have h3 : -q * s = -(q * s) := by grind
      rw [h3] at h2
      grind
  · intro z
    exact Rat.mul_nonneg z (Rat.le_of_lt h)
theorem ah_seen {a b c d p : Rat} (h : 0 < p) : ah (a / p) (b * p) (c / p) (d * p) = ah a b c d := by
  unfold ah
  have hp : p ≠ 0 := by intro z; subst z; exact absurd h (by decide)
  have e1 : (a / p = c / p ∧ b * p = d * p) ↔ (a = c ∧ b = d) := by
    constructor
    · rintro ⟨h1, h2⟩
      exact ⟨by grind, by grind⟩
    · rintro ⟨rfl, rfl⟩
      exact ⟨rfl, rfl⟩
  rw [div_sub, mul_sub']
  rw [decide_eq_decide.mpr e1, decide_eq_decide.mpr (nn_mul (inv_pos h)), decide_eq_decide.mpr (nn_mul h)]
theorem eq_seen {a b c d p : Rat} (h : 0 < p) : (a / p = c / p ∧ b * p = d * p) ↔ (a = c ∧ b = d) := by
  have hp : p ≠ 0 := by intro z; subst z; exact absurd h (by decide)
  constructor
  · rintro ⟨h1, h2⟩
    exact ⟨by grind, by grind⟩
  · rintro ⟨rfl, rfl⟩
    exact ⟨rfl, rfl⟩
/-- the word -/
def wd : D → D
  | .tup (w :: _) => w
  | _ => .non
theorem wd_seen {a b c d p : Rat} {x y : D} (h : 0 < p) (hx : SeqR a b c d x) (hy : SeqR (a / p) (b * p) (c / p) (d * p) y) : ∃ w xs ys, x = .tup (.str w :: xs) ∧ y = .tup (.str w :: ys) := by
  have e := eq_seen (a := a) (b := b) (c := c) (d := d) h
  have h1 := ah_seen (a := a) (b := b) (c := c) (d := d) h
  have h2 := ah_seen (a := c) (b := d) (c := a) (d := b) h
  cases hx with
  | same hs =>
    cases hy with
    | same => exact ⟨_, _, _, rfl, rfl⟩
    | ahead n0 => exact absurd (e.mpr hs) n0
    | behind n0 => exact absurd (e.mpr hs) n0
    | either _ _ n0 => exact absurd (e.mpr hs) n0
  | ahead n0 ht =>
    cases hy with
    | same hs => exact absurd (e.mp hs) n0
    | ahead => exact ⟨_, _, _, rfl, rfl⟩
    | behind _ hf => rw [h1, ht] at hf; cases hf
    | either _ _ _ hf => rw [h1, ht] at hf; cases hf
  | behind n0 hf ht =>
    cases hy with
    | same hs => exact absurd (e.mp hs) n0
    | ahead _ ht' => rw [h1, hf] at ht'; cases ht'
    | behind => exact ⟨_, _, _, rfl, rfl⟩
    | either _ _ _ _ hf' => rw [h2, ht] at hf'; cases hf'
  | either f g n0 hf hf2 =>
    cases hy with
    | same hs => exact absurd (e.mp hs) n0
    | ahead _ ht' => rw [h1, hf] at ht'; cases ht'
    | behind _ _ ht' => rw [h2, hf2] at ht'; cases ht'
    | either => exact ⟨_, _, _, rfl, rfl⟩
theorem ah_true {a b c d : Rat} (h : ah a b c d = true) : ¬ (a = c ∧ b = d) ∧ 0 ≤ c - a ∧ 0 ≤ d - b := by
  unfold ah at h
  simp only [Bool.and_eq_true, Bool.not_eq_true', decide_eq_true_eq, decide_eq_false_iff_not] at h
  exact ⟨h.1, Rat.num_nonneg.mp h.2.1, Rat.num_nonneg.mp h.2.2⟩
theorem ah_sum {a b c d : Rat} (h : ah a b c d = true) : a + b < c + d := by
  obtain ⟨h0, h1, h2⟩ := ah_true h
  by_cases h3 : a = c
  · have h4 : b ≠ d := fun z => h0 ⟨h3, z⟩
    grind
  · grind
end Cw
namespace Cw
open PySem PySem.Spec PyProof.Rows L2
local macro_rules | `(tactic| walk_at "cw") => `(tactic| simp only [bnd_ok, bnd_exc, varR_some, kk2_eq, v_var, v_cst, v_tup, v_lst, v_bin, v_neg, v_not, andK_t, andK_f, orK_t, orK_f, v_and, v_or, v_cmp, chK_t, chK_f, chJ_eq, v_chain, iteK_t, iteK_f, v_ite, v_idx, slcK_eq, slcL_eq, slcJ_eq, v_slc, optK_int, o_none, o_some, v_rev, rev_tup, callK_eq, callJ_none, callJ_perm, callP_some, permL_nil, permL_cons, permC_some, v_call, v_b1, v_b2, isiK_eq, v_isi, v_m0, v_m1, compE_eq, comp_live, lenL_some, live_eq, liveK_some, liveJ_none, liveJ_some, liveH_some, liveH_none, fr_live, liveF_eq, liveFK_some, liveFJ_none, liveFJ_some, liveFH_nx, liveFH_ct, liveFH_bk, liveFH_rt, nil_get, comp_fix, comp_zip, comp_rng, turnC_eq, turnJ_some, turnK_t, turnK_f, yesK_eq, wipe_nil, wipe_cons, loopL_nil, loopL_cons, loopK_some, loopK_none, zipD_nil, zipD_nil2, zipD_cons, v_comp, es_nil, consJ_eq, consK_eq, es_cons, notJ_eq, andJ_t, andJ_f, orJ_t, orJ_f, b_not, b_and, b_or, b_cmp, b_chain, b_ite, b_var, b_cst, b_call, b_b1, b_isi, b_idx, b_bin, b_comp, ofBl_bl, tru_bl, tru_int, tru_tup, tru_non, c_none', c_some', srcK_tup, srcK_rol, w_var, w_cst, w_tup, w_lst, w_bin, w_idx, w_slc, w_call, w_comp, w_rng, rng2K_eq, w_rng2, zipK_tup, w_zip, w_enum, seqR_nx, seqR_rt, seqR_bk, seqR_ct, seqR_ex, ts_nil, ts_cons, rtE_ok, asgK_eq, t_asg, tgK_some, asgTK_eq, t_asgT, parJ_eq, parK_eq, t_par, par3H_eq, par3J_eq, par3K_eq, t_par3, setJ_eq, setK_eq, t_set, expK_eq, t_exp, retK_eq, t_ret, t_retN, ifK_t, ifK_f, t_if, t_whl, frB_eq, frJ_eq, fr_fix, fr_zip, fr_rng, forL_nil, forL_cons, forK_nx, forK_ct, forK_bk, forK_rt, t_fr, t_pas, t_brk, t_cnt, body_rt, body_nx, body_ex, op_addI, op_subI, op_mulI, op_fdivI, op_modI, op_powI, mkTup_small, alloc_small, idx_R, idxS_some, setH_R, setS_some, setX_some, len_R, lenS_some, len_rol, tup_R, tupS_some, all_R, allS_some, allK_some, src_R, srcS_some, m1J_R, m1S_some, app_R, appX_some, at_new, bls_nil, bls_cons, List.all_cons, List.all_nil, id_eq, Bool.and_true, Bool.and_self,  neg_I, not_B, cop_lt, cop_le, cop_gt, cop_ge, cop_eq, cop_ne, cop_isN, cop_notN, cop_isB, cop_notB, ofOpt_some, eqD_int, eqD_str, b1_lenT, b1_abs, b1_intI, b1_intB, b2_min, b2_max, isi_tup, isi_int, isi_bl, isi_str, idxK_some, idx_tup, idx_rol, atI_0, atI_1, atI_2, atI_3, atI_4, atI_5, atI_6, atI_7, atI_m1_1, atI_m1_2, atI_m2_2, atI_m1_3, atI_m2_3, atI_m3_3, atI_m1_4, atI_m2_4, atI_m3_4, atI_m1_5, atI_m2_5, atI_m3_5, atI_m1_6, atI_m2_6, atI_m3_6, tg_nm, tg_tp, tgs_nil, tgJ_some, tgs_cons, List.getElem?_cons_zero, List.getElem?_cons_succ, List.set_cons_zero, List.set_cons_succ, List.cons_append, List.nil_append, List.map_cons, List.map_nil, startD, List.length_cons, List.length_nil, List.replicate_succ, List.replicate_zero, Nat.reduceAdd, Nat.reduceSub, Int.reduceLE, Int.reduceLT, Int.reduceEq, Int.reduceNe, Nat.reduceLT, Nat.reduceEqDiff, Nat.reduceLeDiff, Int.reduceToNat, Int.reduceNeg, Int.reduceAdd, Int.reduceSub, Int.reduceMul, Int.reducePow, rng1_eq, rngD_0, rngD_s, op_powI, reduceCtorEq, decide_true, decide_false, eq_self, Int.cast_ofNat_Int, Nat.zero_add, Option.map_some, ne_eq, not_false_eq_true, Bool.not_true, Bool.not_false, isNonD, i_ev0, i_ev1, i_fr0, i_fr1, s_ev, g_fr, g_ev, r_ev, k_ev, fr_half, atI_0, *])
local macro_rules | `(tactic| walk_at "cw0") => `(tactic| simp only [bnd_ok, bnd_exc, varR_some, kk2_eq, v_var, v_cst, v_tup, v_lst, v_bin, v_neg, v_not, andK_t, andK_f, orK_t, orK_f, v_and, v_or, v_cmp, chK_t, chK_f, chJ_eq, v_chain, iteK_t, iteK_f, v_ite, v_idx, slcK_eq, slcL_eq, slcJ_eq, v_slc, optK_int, o_none, o_some, v_rev, rev_tup, callK_eq, callJ_none, callJ_perm, callP_some, permL_nil, permL_cons, permC_some, v_call, v_b1, v_b2, isiK_eq, v_isi, v_m0, v_m1, compE_eq, comp_live, lenL_some, live_eq, liveK_some, liveJ_none, liveJ_some, liveH_some, liveH_none, fr_live, liveF_eq, liveFK_some, liveFJ_none, liveFJ_some, liveFH_nx, liveFH_ct, liveFH_bk, liveFH_rt, nil_get, comp_fix, comp_zip, comp_rng, turnC_eq, turnJ_some, turnK_t, turnK_f, yesK_eq, wipe_nil, wipe_cons, loopL_nil, loopL_cons, loopK_some, loopK_none, zipD_nil, zipD_nil2, zipD_cons, v_comp, es_nil, consJ_eq, consK_eq, es_cons, notJ_eq, andJ_t, andJ_f, orJ_t, orJ_f, b_not, b_and, b_or, b_cmp, b_chain, b_ite, b_var, b_cst, b_call, b_b1, b_isi, b_idx, b_bin, b_comp, ofBl_bl, tru_bl, tru_int, tru_tup, tru_non, c_none', c_some', srcK_tup, srcK_rol, w_var, w_cst, w_tup, w_lst, w_bin, w_idx, w_slc, w_call, w_comp, w_rng, rng2K_eq, w_rng2, zipK_tup, w_zip, w_enum, seqR_nx, seqR_rt, seqR_bk, seqR_ct, seqR_ex, ts_nil, ts_cons, rtE_ok, asgK_eq, t_asg, tgK_some, asgTK_eq, t_asgT, parJ_eq, parK_eq, t_par, par3H_eq, par3J_eq, par3K_eq, t_par3, setJ_eq, setK_eq, t_set, expK_eq, t_exp, retK_eq, t_ret, t_retN, ifK_t, ifK_f, t_if, t_whl, frB_eq, frJ_eq, fr_fix, fr_zip, fr_rng, forL_nil, forL_cons, forK_nx, forK_ct, forK_bk, forK_rt, t_fr, t_pas, t_brk, t_cnt, body_rt, body_nx, body_ex, op_addI, op_subI, op_mulI, op_fdivI, op_modI, op_powI, mkTup_small, alloc_small, idx_R, idxS_some, setH_R, setS_some, setX_some, len_R, lenS_some, len_rol, tup_R, tupS_some, all_R, allS_some, allK_some, src_R, srcS_some, m1J_R, m1S_some, app_R, appX_some, at_new, bls_nil, bls_cons, List.all_cons, List.all_nil, id_eq, Bool.and_true, Bool.and_self,  neg_I, not_B, cop_lt, cop_le, cop_gt, cop_ge, cop_eq, cop_ne, cop_isN, cop_notN, cop_isB, cop_notB, ofOpt_some, eqD_int, eqD_str, b1_lenT, b1_abs, b1_intI, b1_intB, b2_min, b2_max, isi_tup, isi_int, isi_bl, isi_str, idxK_some, idx_tup, idx_rol, atI_0, atI_1, atI_2, atI_3, atI_4, atI_5, atI_6, atI_7, atI_m1_1, atI_m1_2, atI_m2_2, atI_m1_3, atI_m2_3, atI_m3_3, atI_m1_4, atI_m2_4, atI_m3_4, atI_m1_5, atI_m2_5, atI_m3_5, atI_m1_6, atI_m2_6, atI_m3_6, tg_nm, tg_tp, tgs_nil, tgJ_some, tgs_cons, List.getElem?_cons_zero, List.getElem?_cons_succ, List.set_cons_zero, List.set_cons_succ, List.cons_append, List.nil_append, List.map_cons, List.map_nil, startD, List.length_cons, List.length_nil, List.replicate_succ, List.replicate_zero, Nat.reduceAdd, Nat.reduceSub, Int.reduceLE, Int.reduceLT, Int.reduceEq, Int.reduceNe, Nat.reduceLT, Nat.reduceEqDiff, Nat.reduceLeDiff, Int.reduceToNat, Int.reduceNeg, Int.reduceAdd, Int.reduceSub, Int.reduceMul, Int.reducePow, rng1_eq, rngD_0, rngD_s, op_powI, reduceCtorEq, decide_true, decide_false, eq_self, Int.cast_ofNat_Int, Nat.zero_add, Option.map_some, ne_eq, not_false_eq_true, Bool.not_true, Bool.not_false, isNonD, i_ev0, i_ev1, i_fr0, i_fr1, s_ev, g_fr, g_ev, r_ev, k_ev, fr_half, atI_0])
/-! ### the law of pairs -/
theorem pc_lit8 {a : Int} {b : Nat} (h0 : b ≠ 0) (hc : a.natAbs.Coprime b) (hp : 0 < a) (h1 : a.natAbs < 2 ^ 8) (h2 : b < 2 ^ 8) : Pc (.tup [.int a, .int b]) 8 :=
  ⟨⟨⟨a, b, h0, hc⟩, rfl, pos_of hp, h1, h2⟩⟩
def body48 : Ts := match tr_48 with
  | .cons _ (.cons _ (.cons _ (.cons _ (.cons (.fr _ _ b) _)))) => b
  | _ => .nil
theorem v1 : (("same" : Str) = ("ahead" : Str)) = False := by simp; decide
theorem v2 : (("same" : Str) = ("behind" : Str)) = False := by simp; decide
theorem v3 : (("ahead" : Str) = ("behind" : Str)) = False := by simp; decide
theorem v4 : (("behind" : Str) = ("ahead" : Str)) = False := by simp; decide
theorem v5 : (("either" : Str) = ("ahead" : Str)) = False := by simp; decide
theorem v6 : (("either" : Str) = ("behind" : Str)) = False := by simp; decide
section
variable {tab : Nat → Option Fd} {fu : Nat}
theorem turnP (G : Sub tab) (T : TakeOk tab) (k : Nat) {n m : Nat} {a b c d : Rat} {x y : D} {S : Store} (P : Pot n S m) (hm : m + 2 < 2 ^ 60) (ha : Sz a 50) (hb : Sz b 50) (hc : Sz c 50) (hd : Sz d 50) (hF : 2 ^ 9000 ≤ fu) (hx : SeqR a b c d x) (o3 o6 o7 o8 : Option D) :
    ∃ (x6 x7 x8 : D) (S' : Store), evTs fu (evC fu tab (k + 7)) body48 [some (.ref n), some (evD a b), some (evD c d), o3, some x, some y, o6, o7, o8] S = some (.nx [some (.ref n), some (evD a b), some (evD c d), o3, some x, some y, some x6, some x7, some x8], S') ∧ Pot n S' (m + 2) ∧ Fm n S S' := by
  obtain ⟨p, S1, e1, p0, ps, P1, F1⟩ := frac_pace_ok (fu := fu) G T (k + 4) P (by omega)
  obtain ⟨z, S2, hz, e2, P2, F2⟩ := of_ok (fu := fu) G T (k + 5) (P1.app [.lst [.tup [.int 1, .int 1], .tup [.int 1, .int 9], .tup [.int 9, .int 1], .tup [.int 1, .int 100], .tup [.int 100, .int 1]]]) (by omega) (j := S1.length) (at_new _) (by have := P1.lt; omega) (by decide) (by decide)
  have hp : Pc z 8 := by
    simp only [List.mem_cons, List.not_mem_nil, or_false] at hz
    rcases hz with rfl | rfl | rfl | rfl | rfl <;> exact pc_lit8 (by decide) (by decide) (by decide) (by decide) (by decide)
  obtain ⟨q, rfl, q0, qs⟩ := hp.ex
  have F := (F1.trans (Fm.app n S1 [.lst [.tup [.int 1, .int 1], .tup [.int 1, .int 9], .tup [.int 9, .int 1], .tup [.int 1, .int 100], .tup [.int 100, .int 1]]])).trans F2
  have e3 := l_times_ok (S := S2) (fu := fu) G (k + 4) ps qs (by decide) hF
  have rs : Sz (p * q) 50 := (ps.mul qs).mono (by decide)
  have r0 : 0 < p * q := Rat.mul_pos p0 q0
  have rn : p * q ≠ 0 := by intro z; rw [z] at r0; exact absurd r0 (by decide)
  obtain ⟨J3, e4⟩ := seen_ok (fu := fu) G (k + 2) ha hb rs r0 (by decide) hF S2
  obtain ⟨J4, e5⟩ := seen_ok (fu := fu) G (k + 2) hc hd rs r0 (by decide) hF (S2 ++ J3)
  have sa := ha.div rs rn
  have sb := hb.mul rs
  have sc := hc.div rs rn
  have sd := hd.mul rs
  obtain ⟨w, J5, e6, hw⟩ := sequence_ok (fu := fu) G (k + 1) sa sb sc sd (by decide) hF (S2 ++ J3 ++ J4)
  obtain ⟨wo, xs, ys, ex, ey⟩ := wd_seen r0 hx hw
  have e7 : evIdx w (.int 0) (S2 ++ J3 ++ J4 ++ J5) = .ok (.str wo) (S2 ++ J3 ++ J4 ++ J5) := by rw [ey, idx_tup, atI_0]; rfl
  have g : Gr S2 (S2 ++ J3 ++ J4 ++ J5) := ((Gr.app _ _).trans (Gr.app _ _)).trans (Gr.app _ _)
  have s1 := fun S => sum_ok (fu := fu) G (k + 3) sa sb (by decide) hF S
  have s2 := fun S => sum_ok (fu := fu) G (k + 3) sc sd (by decide) hF S
  have i1 := fun S => is_less_ok (fu := fu) G (k + 6) (sa.add sb) (sc.add sd) (by decide) S
  have i2 := fun S => is_less_ok (fu := fu) G (k + 6) (sc.add sd) (sa.add sb) (by decide) S
  refine ⟨frD (p * q), evD (a / (p * q)) (b * (p * q)), evD (c / (p * q)) (d * (p * q)), S2 ++ J3 ++ J4 ++ J5, ?_, P2.gr g, F.gr g⟩
  unfold body48 tr_48
  generalize p * q = r at *
  cases hx with
  | same h =>
    cases ex
    have t1 := v1
    have t2 := v2
    clear G T P P1 P2 hm ha hb hc hd hF F F1 F2 p0 ps q0 qs hz hp rs r0 rn sa sb sc sd hw ey g h
    dsimp only
    walk_at "cw"
  | ahead h0 h =>
    cases ex
    have t1 := v3
    rw [← ah_seen r0] at h
    rw [decide_eq_true (ah_sum h)] at i1
    clear G T P P1 P2 hm ha hb hc hd hF F F1 F2 p0 ps q0 qs hz hp rs r0 rn sa sb sc sd hw ey g h h0 i2
    dsimp only
    walk_at "cw"
  | behind h0 h1 h =>
    cases ex
    have t1 := v4
    rw [← ah_seen r0] at h
    rw [decide_eq_true (ah_sum h)] at i2
    clear G T P P1 P2 hm ha hb hc hd hF F F1 F2 p0 ps q0 qs hz hp rs r0 rn sa sb sc sd hw ey g h h0 h1 i1
    dsimp only
    walk_at "cw"
  | either f g' h0 h1 h2 f0 g0 fs gs hf hg =>
    cases ex
    have t1 := v5
    have t2 := v6
    clear G T P P1 P2 hm ha hb hc hd hF F F1 F2 p0 ps q0 qs hz hp rs r0 rn sa sb sc sd hw ey g h0 h1 h2 f0 g0 fs gs hf hg
    dsimp only
    walk_at "cw"
end
end Cw
namespace Cw
open PySem PySem.Spec PyProof.Rows L2
local macro_rules | `(tactic| walk_at "cw") => `(tactic| simp only [bnd_ok, bnd_exc, varR_some, kk2_eq, v_var, v_cst, v_tup, v_lst, v_bin, v_neg, v_not, andK_t, andK_f, orK_t, orK_f, v_and, v_or, v_cmp, chK_t, chK_f, chJ_eq, v_chain, iteK_t, iteK_f, v_ite, v_idx, slcK_eq, slcL_eq, slcJ_eq, v_slc, optK_int, o_none, o_some, v_rev, rev_tup, callK_eq, callJ_none, callJ_perm, callP_some, permL_nil, permL_cons, permC_some, v_call, v_b1, v_b2, isiK_eq, v_isi, v_m0, v_m1, compE_eq, comp_live, lenL_some, live_eq, liveK_some, liveJ_none, liveJ_some, liveH_some, liveH_none, fr_live, liveF_eq, liveFK_some, liveFJ_none, liveFJ_some, liveFH_nx, liveFH_ct, liveFH_bk, liveFH_rt, nil_get, comp_fix, comp_zip, comp_rng, turnC_eq, turnJ_some, turnK_t, turnK_f, yesK_eq, wipe_nil, wipe_cons, loopL_nil, loopL_cons, loopK_some, loopK_none, zipD_nil, zipD_nil2, zipD_cons, v_comp, es_nil, consJ_eq, consK_eq, es_cons, notJ_eq, andJ_t, andJ_f, orJ_t, orJ_f, b_not, b_and, b_or, b_cmp, b_chain, b_ite, b_var, b_cst, b_call, b_b1, b_isi, b_idx, b_bin, b_comp, ofBl_bl, tru_bl, tru_int, tru_tup, tru_non, c_none', c_some', srcK_tup, srcK_rol, w_var, w_cst, w_tup, w_lst, w_bin, w_idx, w_slc, w_call, w_comp, w_rng, rng2K_eq, w_rng2, zipK_tup, w_zip, w_enum, seqR_nx, seqR_rt, seqR_bk, seqR_ct, seqR_ex, ts_nil, ts_cons, rtE_ok, asgK_eq, t_asg, tgK_some, asgTK_eq, t_asgT, parJ_eq, parK_eq, t_par, par3H_eq, par3J_eq, par3K_eq, t_par3, setJ_eq, setK_eq, t_set, expK_eq, t_exp, retK_eq, t_ret, t_retN, ifK_t, ifK_f, t_if, t_whl, frB_eq, frJ_eq, fr_fix, fr_zip, fr_rng, forL_nil, forL_cons, forK_nx, forK_ct, forK_bk, forK_rt, t_fr, t_pas, t_brk, t_cnt, body_rt, body_nx, body_ex, op_addI, op_subI, op_mulI, op_fdivI, op_modI, op_powI, mkTup_small, alloc_small, idx_R, idxS_some, setH_R, setS_some, setX_some, len_R, lenS_some, len_rol, tup_R, tupS_some, all_R, allS_some, allK_some, src_R, srcS_some, m1J_R, m1S_some, app_R, appX_some, at_new, bls_nil, bls_cons, List.all_cons, List.all_nil, id_eq, Bool.and_true, Bool.and_self,  neg_I, not_B, cop_lt, cop_le, cop_gt, cop_ge, cop_eq, cop_ne, cop_isN, cop_notN, cop_isB, cop_notB, ofOpt_some, eqD_int, eqD_str, b1_lenT, b1_abs, b1_intI, b1_intB, b2_min, b2_max, isi_tup, isi_int, isi_bl, isi_str, idxK_some, idx_tup, idx_rol, atI_0, atI_1, atI_2, atI_3, atI_4, atI_5, atI_6, atI_7, atI_m1_1, atI_m1_2, atI_m2_2, atI_m1_3, atI_m2_3, atI_m3_3, atI_m1_4, atI_m2_4, atI_m3_4, atI_m1_5, atI_m2_5, atI_m3_5, atI_m1_6, atI_m2_6, atI_m3_6, tg_nm, tg_tp, tgs_nil, tgJ_some, tgs_cons, List.getElem?_cons_zero, List.getElem?_cons_succ, List.set_cons_zero, List.set_cons_succ, List.cons_append, List.nil_append, List.map_cons, List.map_nil, startD, List.length_cons, List.length_nil, List.replicate_succ, List.replicate_zero, Nat.reduceAdd, Nat.reduceSub, Int.reduceLE, Int.reduceLT, Int.reduceEq, Int.reduceNe, Nat.reduceLT, Nat.reduceEqDiff, Nat.reduceLeDiff, Int.reduceToNat, Int.reduceNeg, Int.reduceAdd, Int.reduceSub, Int.reduceMul, Int.reducePow, rng1_eq, rngD_0, rngD_s, op_powI, reduceCtorEq, decide_true, decide_false, eq_self, Int.cast_ofNat_Int, Nat.zero_add, Option.map_some, ne_eq, not_false_eq_true, Bool.not_true, Bool.not_false, isNonD, i_ev0, i_ev1, i_fr0, i_fr1, s_ev, g_fr, g_ev, r_ev, k_ev, fr_half, atI_0, *])
local macro_rules | `(tactic| walk_at "cw0") => `(tactic| simp only [bnd_ok, bnd_exc, varR_some, kk2_eq, v_var, v_cst, v_tup, v_lst, v_bin, v_neg, v_not, andK_t, andK_f, orK_t, orK_f, v_and, v_or, v_cmp, chK_t, chK_f, chJ_eq, v_chain, iteK_t, iteK_f, v_ite, v_idx, slcK_eq, slcL_eq, slcJ_eq, v_slc, optK_int, o_none, o_some, v_rev, rev_tup, callK_eq, callJ_none, callJ_perm, callP_some, permL_nil, permL_cons, permC_some, v_call, v_b1, v_b2, isiK_eq, v_isi, v_m0, v_m1, compE_eq, comp_live, lenL_some, live_eq, liveK_some, liveJ_none, liveJ_some, liveH_some, liveH_none, fr_live, liveF_eq, liveFK_some, liveFJ_none, liveFJ_some, liveFH_nx, liveFH_ct, liveFH_bk, liveFH_rt, nil_get, comp_fix, comp_zip, comp_rng, turnC_eq, turnJ_some, turnK_t, turnK_f, yesK_eq, wipe_nil, wipe_cons, loopL_nil, loopL_cons, loopK_some, loopK_none, zipD_nil, zipD_nil2, zipD_cons, v_comp, es_nil, consJ_eq, consK_eq, es_cons, notJ_eq, andJ_t, andJ_f, orJ_t, orJ_f, b_not, b_and, b_or, b_cmp, b_chain, b_ite, b_var, b_cst, b_call, b_b1, b_isi, b_idx, b_bin, b_comp, ofBl_bl, tru_bl, tru_int, tru_tup, tru_non, c_none', c_some', srcK_tup, srcK_rol, w_var, w_cst, w_tup, w_lst, w_bin, w_idx, w_slc, w_call, w_comp, w_rng, rng2K_eq, w_rng2, zipK_tup, w_zip, w_enum, seqR_nx, seqR_rt, seqR_bk, seqR_ct, seqR_ex, ts_nil, ts_cons, rtE_ok, asgK_eq, t_asg, tgK_some, asgTK_eq, t_asgT, parJ_eq, parK_eq, t_par, par3H_eq, par3J_eq, par3K_eq, t_par3, setJ_eq, setK_eq, t_set, expK_eq, t_exp, retK_eq, t_ret, t_retN, ifK_t, ifK_f, t_if, t_whl, frB_eq, frJ_eq, fr_fix, fr_zip, fr_rng, forL_nil, forL_cons, forK_nx, forK_ct, forK_bk, forK_rt, t_fr, t_pas, t_brk, t_cnt, body_rt, body_nx, body_ex, op_addI, op_subI, op_mulI, op_fdivI, op_modI, op_powI, mkTup_small, alloc_small, idx_R, idxS_some, setH_R, setS_some, setX_some, len_R, lenS_some, len_rol, tup_R, tupS_some, all_R, allS_some, allK_some, src_R, srcS_some, m1J_R, m1S_some, app_R, appX_some, at_new, bls_nil, bls_cons, List.all_cons, List.all_nil, id_eq, Bool.and_true, Bool.and_self,  neg_I, not_B, cop_lt, cop_le, cop_gt, cop_ge, cop_eq, cop_ne, cop_isN, cop_notN, cop_isB, cop_notB, ofOpt_some, eqD_int, eqD_str, b1_lenT, b1_abs, b1_intI, b1_intB, b2_min, b2_max, isi_tup, isi_int, isi_bl, isi_str, idxK_some, idx_tup, idx_rol, atI_0, atI_1, atI_2, atI_3, atI_4, atI_5, atI_6, atI_7, atI_m1_1, atI_m1_2, atI_m2_2, atI_m1_3, atI_m2_3, atI_m3_3, atI_m1_4, atI_m2_4, atI_m3_4, atI_m1_5, atI_m2_5, atI_m3_5, atI_m1_6, atI_m2_6, atI_m3_6, tg_nm, tg_tp, tgs_nil, tgJ_some, tgs_cons, List.getElem?_cons_zero, List.getElem?_cons_succ, List.set_cons_zero, List.set_cons_succ, List.cons_append, List.nil_append, List.map_cons, List.map_nil, startD, List.length_cons, List.length_nil, List.replicate_succ, List.replicate_zero, Nat.reduceAdd, Nat.reduceSub, Int.reduceLE, Int.reduceLT, Int.reduceEq, Int.reduceNe, Nat.reduceLT, Nat.reduceEqDiff, Nat.reduceLeDiff, Int.reduceToNat, Int.reduceNeg, Int.reduceAdd, Int.reduceSub, Int.reduceMul, Int.reducePow, rng1_eq, rngD_0, rngD_s, op_powI, reduceCtorEq, decide_true, decide_false, eq_self, Int.cast_ofNat_Int, Nat.zero_add, Option.map_some, ne_eq, not_false_eq_true, Bool.not_true, Bool.not_false, isNonD, i_ev0, i_ev1, i_fr0, i_fr1, s_ev, g_fr, g_ev, r_ev, k_ev, fr_half, atI_0])
/-! ### the law of pairs, whole -/
def hd48a : T := match tr_48 with
  | .cons a _ => a
  | _ => .pas
def hd48b : T := match tr_48 with
  | .cons _ (.cons a _) => a
  | _ => .pas
def hd48c : T := match tr_48 with
  | .cons _ (.cons _ (.cons a _)) => a
  | _ => .pas
def hd48d : T := match tr_48 with
  | .cons _ (.cons _ (.cons _ (.cons a _))) => a
  | _ => .pas
theorem tr48_eq : tr_48 = .cons hd48a (.cons hd48b (.cons hd48c (.cons hd48d (.cons (.fr (.nm 3) (.rngV (.cst (.int 4))) body48) (.cons (.ret (.cst (.bl true))) .nil))))) := rfl
section
variable {tab : Nat → Option Fd} {fu : Nat}
theorem swap_ok (G : Sub tab) (k : Nat) {a b c d : Rat} {x : D} {n : Nat} (ha : Sz a n) (hb : Sz b n) (hc : Sz c n) (hd : Sz d n) (hn : n + n + 1 ≤ 1000) (hF : 2 ^ 9000 ≤ fu) (hx : SeqR a b c d x) :
    (∃ w xs, x = .tup (.str w :: xs) ∧ (w = ("either" : Str)) = False) ∨ (∃ f g, x = .tup [.str "either", f, g] ∧ ∀ S, ∃ J, evC fu tab (k + 7) 54 [evD c d, evD a b, .tup [.str "either", g, f]] S = .ok (.bl true) (S ++ J)) := by
  cases hx with
  | same h => exact .inl ⟨_, _, rfl, w1⟩
  | ahead h0 h => exact .inl ⟨_, _, rfl, w2⟩
  | behind h0 h1 h => exact .inl ⟨_, _, rfl, w3⟩
  | either f g h0 h1 h2 f0 g0 fs gs hf hg =>
    have hs : SeqR c d a b (.tup [.str "either", frD g, frD f]) := .either g f (fun h => h0 ⟨h.1.symm, h.2.symm⟩) h2 h1 g0 f0 gs fs
      (by
        have e : (a - c) / g + (b - d) * g = -((c - a) / g + (d - b) * g) := by grind
        rw [e]
        grind)
      (by
        have e : (a - c) / f + (b - d) * f = -((c - a) / f + (d - b) * f) := by grind
        rw [e]
        grind)
    exact .inr ⟨_, _, rfl, fun S => shows_ok (fu := fu) G k hc hd ha hb hn hF hs S⟩
theorem i_0 {w : D} {xs : List D} {S : Store} : evIdx (.tup (w :: xs)) (.int 0) S = .ok w S := by rw [idx_tup, atI_0]; rfl
theorem head48 (G : Sub tab) (k : Nat) {n : Nat} {a b c d : Rat} {S : Store} (ha : Sz a 50) (hb : Sz b 50) (hc : Sz c 50) (hd : Sz d 50) (hF : 2 ^ 9000 ≤ fu) :
    ∃ (x y : D) (S' : Store), SeqR a b c d x ∧ Gr S S' ∧ ∀ r, evTs fu (evC fu tab (k + 7)) (.cons hd48a (.cons hd48b (.cons hd48c (.cons hd48d r)))) [some (.ref n), some (evD a b), some (evD c d), none, none, none, none, none, none] S =
      evTs fu (evC fu tab (k + 7)) r [some (.ref n), some (evD a b), some (evD c d), none, some x, some y, none, none, none] S' := by
  obtain ⟨x, J1, e1, hx⟩ := sequence_ok (fu := fu) G (k + 1) ha hb hc hd (by decide) hF S
  obtain ⟨y, J2, e2, hy⟩ := sequence_ok (fu := fu) G (k + 1) hc hd ha hb (by decide) hF (S ++ J1)
  obtain ⟨J3, e3⟩ := due_ok (fu := fu) G k ha hb hc hd (by decide) hF hx (S ++ J1 ++ J2)
  obtain ⟨J4, e4⟩ := due_ok (fu := fu) G k hc hd ha hb (by decide) hF hy (S ++ J1 ++ J2 ++ J3)
  obtain ⟨J5, e5⟩ := shows_ok (fu := fu) G k ha hb hc hd (by decide) hF hx (S ++ J1 ++ J2 ++ J3 ++ J4)
  obtain ⟨J6, e6⟩ := shows_ok (fu := fu) G k hc hd ha hb (by decide) hF hy (S ++ J1 ++ J2 ++ J3 ++ J4 ++ J5)
  have g : Gr S (S ++ J1 ++ J2 ++ J3 ++ J4 ++ J5 ++ J6) := (((((Gr.app S J1).trans (Gr.app _ _)).trans (Gr.app _ _)).trans (Gr.app _ _)).trans (Gr.app _ _)).trans (Gr.app _ _)
  rcases swap_ok (fu := fu) G k ha hb hc hd (by decide) hF hx with ⟨w, xs, rfl, hw⟩ | ⟨f, g', rfl, hs⟩
  · refine ⟨_, y, _, hx, g, fun r => ?_⟩
    have q0 := fun S => i_0 (S := S) (w := .str w) (xs := xs)
    unfold hd48a hd48b hd48c hd48d tr_48
    clear G ha hb hc hd hF hx hy g
    dsimp only
    walk_at "cw"
  · obtain ⟨J7, e7⟩ := hs (S ++ J1 ++ J2 ++ J3 ++ J4 ++ J5 ++ J6)
    refine ⟨_, y, _, hx, g.trans (Gr.app _ J7), fun r => ?_⟩
    have q0 := fun S => i_0 (S := S) (w := .str "either") (xs := [f, g'])
    have q1 : ∀ S, evIdx (.tup [.str "either", f, g']) (.int 1) S = .ok f S := fun S => by rw [idx_tup]; rfl
    have q2 : ∀ S, evIdx (.tup [.str "either", f, g']) (.int 2) S = .ok g' S := fun S => by rw [idx_tup]; rfl
    unfold hd48a hd48b hd48c hd48d tr_48
    clear G ha hb hc hd hF hx hy g hs
    dsimp only
    walk_at "cw"
theorem pair_right_ok (G : Sub tab) (T : TakeOk tab) (k : Nat) {n m : Nat} {a b c d : Rat} {S : Store} (P : Pot n S m) (hm : m + 8 < 2 ^ 60) (ha : Sz a 50) (hb : Sz b 50) (hc : Sz c 50) (hd : Sz d 50) (hF : 2 ^ 9000 ≤ fu) :
    ∃ S', evC fu tab (k + 8) 48 [.ref n, evD a b, evD c d] S = .ok (.bl true) S' ∧ Pot n S' (m + 8) ∧ Fm n S S' := by
  obtain ⟨x, y, S0, hx, g0, e0⟩ := head48 (fu := fu) (n := n) (S := S) G k ha hb hc hd hF
  have P0 := P.gr g0
  obtain ⟨a1, b1, c1, S1, t1, P1, F1⟩ := turnP (fu := fu) (y := y) G T k P0 (by omega) ha hb hc hd hF hx (some (.int 0)) none none none
  obtain ⟨a2, b2, c2, S2, t2, P2, F2⟩ := turnP (fu := fu) (y := y) G T k P1 (by omega) ha hb hc hd hF hx (some (.int 1)) (some a1) (some b1) (some c1)
  obtain ⟨a3, b3, c3, S3, t3, P3, F3⟩ := turnP (fu := fu) (y := y) G T k P2 (by omega) ha hb hc hd hF hx (some (.int 2)) (some a2) (some b2) (some c2)
  obtain ⟨a4, b4, c4, S4, t4, P4, F4⟩ := turnP (fu := fu) (y := y) G T k P3 (by omega) ha hb hc hd hF hx (some (.int 3)) (some a3) (some b3) (some c3)
  refine ⟨S4, ?_, P4, ((((g0.fm n).trans F1).trans F2).trans F3).trans F4⟩
  rw [evC_eq (G 48 _ rfl), tr48_eq]
  have e0' := e0 (.cons (.fr (.nm 3) (.rngV (.cst (.int 4))) body48) (.cons (.ret (.cst (.bl true))) .nil))
  show bodyRs (evTs fu (evC fu tab (k + 7)) _ [some (.ref n), some (evD a b), some (evD c d), none, none, none, none, none, none] S) = _
  rw [e0']
  clear e0 e0' G T P P0 P1 P2 P3 P4 F1 F2 F3 F4 g0 hx ha hb hc hd hF hm
  walk_at "cw"
end
end Cw
namespace Cw
open PySem PySem.Spec PyProof.Rows L2
local macro_rules | `(tactic| walk_at "cw") => `(tactic| simp only [bnd_ok, bnd_exc, varR_some, kk2_eq, v_var, v_cst, v_tup, v_lst, v_bin, v_neg, v_not, andK_t, andK_f, orK_t, orK_f, v_and, v_or, v_cmp, chK_t, chK_f, chJ_eq, v_chain, iteK_t, iteK_f, v_ite, v_idx, slcK_eq, slcL_eq, slcJ_eq, v_slc, optK_int, o_none, o_some, v_rev, rev_tup, callK_eq, callJ_none, callJ_perm, callP_some, permL_nil, permL_cons, permC_some, v_call, v_b1, v_b2, isiK_eq, v_isi, v_m0, v_m1, compE_eq, comp_live, lenL_some, live_eq, liveK_some, liveJ_none, liveJ_some, liveH_some, liveH_none, fr_live, liveF_eq, liveFK_some, liveFJ_none, liveFJ_some, liveFH_nx, liveFH_ct, liveFH_bk, liveFH_rt, nil_get, comp_fix, comp_zip, comp_rng, turnC_eq, turnJ_some, turnK_t, turnK_f, yesK_eq, wipe_nil, wipe_cons, loopL_nil, loopL_cons, loopK_some, loopK_none, zipD_nil, zipD_nil2, zipD_cons, v_comp, es_nil, consJ_eq, consK_eq, es_cons, notJ_eq, andJ_t, andJ_f, orJ_t, orJ_f, b_not, b_and, b_or, b_cmp, b_chain, b_ite, b_var, b_cst, b_call, b_b1, b_isi, b_idx, b_bin, b_comp, ofBl_bl, tru_bl, tru_int, tru_tup, tru_non, c_none', c_some', srcK_tup, srcK_rol, w_var, w_cst, w_tup, w_lst, w_bin, w_idx, w_slc, w_call, w_comp, w_rng, rng2K_eq, w_rng2, zipK_tup, w_zip, w_enum, seqR_nx, seqR_rt, seqR_bk, seqR_ct, seqR_ex, ts_nil, ts_cons, rtE_ok, asgK_eq, t_asg, tgK_some, asgTK_eq, t_asgT, parJ_eq, parK_eq, t_par, par3H_eq, par3J_eq, par3K_eq, t_par3, setJ_eq, setK_eq, t_set, expK_eq, t_exp, retK_eq, t_ret, t_retN, ifK_t, ifK_f, t_if, t_whl, frB_eq, frJ_eq, fr_fix, fr_zip, fr_rng, forL_nil, forL_cons, forK_nx, forK_ct, forK_bk, forK_rt, t_fr, t_pas, t_brk, t_cnt, body_rt, body_nx, body_ex, op_addI, op_subI, op_mulI, op_fdivI, op_modI, op_powI, mkTup_small, alloc_small, idx_R, idxS_some, setH_R, setS_some, setX_some, len_R, lenS_some, len_rol, tup_R, tupS_some, all_R, allS_some, allK_some, src_R, srcS_some, m1J_R, m1S_some, app_R, appX_some, at_new, bls_nil, bls_cons, List.all_cons, List.all_nil, id_eq, Bool.and_true, Bool.and_self,  neg_I, not_B, cop_lt, cop_le, cop_gt, cop_ge, cop_eq, cop_ne, cop_isN, cop_notN, cop_isB, cop_notB, ofOpt_some, eqD_int, eqD_str, b1_lenT, b1_abs, b1_intI, b1_intB, b2_min, b2_max, isi_tup, isi_int, isi_bl, isi_str, idxK_some, idx_tup, idx_rol, atI_0, atI_1, atI_2, atI_3, atI_4, atI_5, atI_6, atI_7, atI_m1_1, atI_m1_2, atI_m2_2, atI_m1_3, atI_m2_3, atI_m3_3, atI_m1_4, atI_m2_4, atI_m3_4, atI_m1_5, atI_m2_5, atI_m3_5, atI_m1_6, atI_m2_6, atI_m3_6, tg_nm, tg_tp, tgs_nil, tgJ_some, tgs_cons, List.getElem?_cons_zero, List.getElem?_cons_succ, List.set_cons_zero, List.set_cons_succ, List.cons_append, List.nil_append, List.map_cons, List.map_nil, startD, List.length_cons, List.length_nil, List.replicate_succ, List.replicate_zero, Nat.reduceAdd, Nat.reduceSub, Int.reduceLE, Int.reduceLT, Int.reduceEq, Int.reduceNe, Nat.reduceLT, Nat.reduceEqDiff, Nat.reduceLeDiff, Int.reduceToNat, Int.reduceNeg, Int.reduceAdd, Int.reduceSub, Int.reduceMul, Int.reducePow, rng1_eq, rngD_0, rngD_s, op_powI, reduceCtorEq, decide_true, decide_false, eq_self, Int.cast_ofNat_Int, Nat.zero_add, Option.map_some, ne_eq, not_false_eq_true, Bool.not_true, Bool.not_false, isNonD, i_ev0, i_ev1, i_fr0, i_fr1, s_ev, g_fr, g_ev, r_ev, k_ev, k_one, k_zero, *])
local macro_rules | `(tactic| walk_at "cw0") => `(tactic| simp only [bnd_ok, bnd_exc, varR_some, kk2_eq, v_var, v_cst, v_tup, v_lst, v_bin, v_neg, v_not, andK_t, andK_f, orK_t, orK_f, v_and, v_or, v_cmp, chK_t, chK_f, chJ_eq, v_chain, iteK_t, iteK_f, v_ite, v_idx, slcK_eq, slcL_eq, slcJ_eq, v_slc, optK_int, o_none, o_some, v_rev, rev_tup, callK_eq, callJ_none, callJ_perm, callP_some, permL_nil, permL_cons, permC_some, v_call, v_b1, v_b2, isiK_eq, v_isi, v_m0, v_m1, compE_eq, comp_live, lenL_some, live_eq, liveK_some, liveJ_none, liveJ_some, liveH_some, liveH_none, fr_live, liveF_eq, liveFK_some, liveFJ_none, liveFJ_some, liveFH_nx, liveFH_ct, liveFH_bk, liveFH_rt, nil_get, comp_fix, comp_zip, comp_rng, turnC_eq, turnJ_some, turnK_t, turnK_f, yesK_eq, wipe_nil, wipe_cons, loopL_nil, loopL_cons, loopK_some, loopK_none, zipD_nil, zipD_nil2, zipD_cons, v_comp, es_nil, consJ_eq, consK_eq, es_cons, notJ_eq, andJ_t, andJ_f, orJ_t, orJ_f, b_not, b_and, b_or, b_cmp, b_chain, b_ite, b_var, b_cst, b_call, b_b1, b_isi, b_idx, b_bin, b_comp, ofBl_bl, tru_bl, tru_int, tru_tup, tru_non, c_none', c_some', srcK_tup, srcK_rol, w_var, w_cst, w_tup, w_lst, w_bin, w_idx, w_slc, w_call, w_comp, w_rng, rng2K_eq, w_rng2, zipK_tup, w_zip, w_enum, seqR_nx, seqR_rt, seqR_bk, seqR_ct, seqR_ex, ts_nil, ts_cons, rtE_ok, asgK_eq, t_asg, tgK_some, asgTK_eq, t_asgT, parJ_eq, parK_eq, t_par, par3H_eq, par3J_eq, par3K_eq, t_par3, setJ_eq, setK_eq, t_set, expK_eq, t_exp, retK_eq, t_ret, t_retN, ifK_t, ifK_f, t_if, t_whl, frB_eq, frJ_eq, fr_fix, fr_zip, fr_rng, forL_nil, forL_cons, forK_nx, forK_ct, forK_bk, forK_rt, t_fr, t_pas, t_brk, t_cnt, body_rt, body_nx, body_ex, op_addI, op_subI, op_mulI, op_fdivI, op_modI, op_powI, mkTup_small, alloc_small, idx_R, idxS_some, setH_R, setS_some, setX_some, len_R, lenS_some, len_rol, tup_R, tupS_some, all_R, allS_some, allK_some, src_R, srcS_some, m1J_R, m1S_some, app_R, appX_some, at_new, bls_nil, bls_cons, List.all_cons, List.all_nil, id_eq, Bool.and_true, Bool.and_self,  neg_I, not_B, cop_lt, cop_le, cop_gt, cop_ge, cop_eq, cop_ne, cop_isN, cop_notN, cop_isB, cop_notB, ofOpt_some, eqD_int, eqD_str, b1_lenT, b1_abs, b1_intI, b1_intB, b2_min, b2_max, isi_tup, isi_int, isi_bl, isi_str, idxK_some, idx_tup, idx_rol, atI_0, atI_1, atI_2, atI_3, atI_4, atI_5, atI_6, atI_7, atI_m1_1, atI_m1_2, atI_m2_2, atI_m1_3, atI_m2_3, atI_m3_3, atI_m1_4, atI_m2_4, atI_m3_4, atI_m1_5, atI_m2_5, atI_m3_5, atI_m1_6, atI_m2_6, atI_m3_6, tg_nm, tg_tp, tgs_nil, tgJ_some, tgs_cons, List.getElem?_cons_zero, List.getElem?_cons_succ, List.set_cons_zero, List.set_cons_succ, List.cons_append, List.nil_append, List.map_cons, List.map_nil, startD, List.length_cons, List.length_nil, List.replicate_succ, List.replicate_zero, Nat.reduceAdd, Nat.reduceSub, Int.reduceLE, Int.reduceLT, Int.reduceEq, Int.reduceNe, Nat.reduceLT, Nat.reduceEqDiff, Nat.reduceLeDiff, Int.reduceToNat, Int.reduceNeg, Int.reduceAdd, Int.reduceSub, Int.reduceMul, Int.reducePow, rng1_eq, rngD_0, rngD_s, op_powI, reduceCtorEq, decide_true, decide_false, eq_self, Int.cast_ofNat_Int, Nat.zero_add, Option.map_some, ne_eq, not_false_eq_true, Bool.not_true, Bool.not_false, isNonD, i_ev0, i_ev1, i_fr0, i_fr1, s_ev, g_fr, g_ev, r_ev, k_ev, k_one, k_zero])
/-! ### draws of pairs -/
section
variable {tab : Nat → Option Fd} {fu : Nat}
/-- one turn of a wide pair's draw -/
theorem wpturn (G : Sub tab) (T : TakeOk tab) (k : Nat) {n m j : Nat} {S : Store} {xs : List D} (p : Pot n S m) (hm : m + 5 < 2 ^ 60) (hj : S[j]? = some (.lst xs)) (hjn : j ≠ n) (hF : 2 ^ 9000 ≤ fu) :
    ∃ (q r : Rat) (d1 d2 d3 i e : Int) (S1 S2 S3 S4 S5 : Store), evC fu tab (k + 2) 23 [.ref n, .int 1000000] S = .ok (.int d2) S1 ∧
      evC fu tab (k + 2) 24 [.ref n, .ref S1.length] (S1 ++ [.lst [.int 1, .int 7, .int 99, .int 999983, .int 100000000003, .int (1 + d2)]]) = .ok (.int i) S2 ∧
      evC fu tab (k + 2) 23 [.ref n, .int 200000000000] S2 = .ok (.int d1) S3 ∧ evC fu tab (k + 2) 23 [.ref n, .int 100000000000] S3 = .ok (.int d3) S4 ∧
      evC fu tab (k + 2) 24 [.ref n, .ref S4.length] (S4 ++ [.lst [.int 0, .int 1, .int (-1), .int d3]]) = .ok (.int e) S5 ∧
      evC fu tab (k + 2) 17 [.int (d1 - 100000000000), .int i] S5 = .ok (frD q) S5 ∧ evC fu tab (k + 2) 17 [.int (d1 - 100000000000 + e), .int i] S5 = .ok (frD r) S5 ∧
      S5[j]? = some (.lst xs) ∧ Sz q 40 ∧ Sz r 40 ∧ Pot n S5 (m + 5) ∧ Fm n S S5 := by
  obtain ⟨d2, S1, e1, a0, a1, p1, f1⟩ := take_ok (fu := fu) T (k + 1) p (by omega) (u := 1000000) (by decide) (by decide)
  have mem : ∀ x ∈ [D.int 1, .int 7, .int 99, .int 999983, .int 100000000003, .int (1 + d2)], ∃ i : Int, x = .int i ∧ 1 ≤ i ∧ i < 2 ^ 39 := by
    intro x hx
    simp only [List.mem_cons, List.not_mem_nil, or_false] at hx
    rcases hx with rfl | rfl | rfl | rfl | rfl | rfl
    · exact ⟨_, rfl, by decide, by decide⟩
    · exact ⟨_, rfl, by decide, by decide⟩
    · exact ⟨_, rfl, by decide, by decide⟩
    · exact ⟨_, rfl, by decide, by decide⟩
    · exact ⟨_, rfl, by decide, by decide⟩
    · exact ⟨_, rfl, by omega, by omega⟩
  obtain ⟨i, S2, e2, i1, i2, p2, f2⟩ := ofI_ok (fu := fu) G T k (p1.app [.lst [.int 1, .int 7, .int 99, .int 999983, .int 100000000003, .int (1 + d2)]]) (by omega) (j := S1.length) (at_new _) (by have := p1.lt; omega) (by simp) (by simp) mem
  obtain ⟨d1, S3, e3, b0, b1, p3, f3⟩ := take_ok (fu := fu) T (k + 1) p2 (by omega) (u := 200000000000) (by decide) (by decide)
  obtain ⟨d3, S4, e4, c0, c1, p4, f4⟩ := take_ok (fu := fu) T (k + 1) p3 (by omega) (u := 100000000000) (by decide) (by decide)
  obtain ⟨x, S5, hx, e5, p5, f5⟩ := of_ok (fu := fu) G T k (p4.app [.lst [.int 0, .int 1, .int (-1), .int d3]]) (by omega) (j := S4.length) (at_new _) (by have := p4.lt; omega) (by simp) (by simp)
  have hx' : ∃ e : Int, x = .int e ∧ -1 ≤ e ∧ e < 2 ^ 39 := by
    simp only [List.mem_cons, List.not_mem_nil, or_false] at hx
    rcases hx with rfl | rfl | rfl | rfl
    · exact ⟨_, rfl, by decide, by decide⟩
    · exact ⟨_, rfl, by decide, by decide⟩
    · exact ⟨_, rfl, by decide, by decide⟩
    · exact ⟨_, rfl, by omega, by omega⟩
  obtain ⟨e, rfl, e0, e1'⟩ := hx'
  have e6 := l_frac_ok (S := S5) (fu := fu) G k (t := d1 - 100000000000) (b := i) (n := 40) (by omega) (by omega) (by decide) hF
  have e7 := l_frac_ok (S := S5) (fu := fu) G k (t := d1 - 100000000000 + e) (b := i) (n := 40) (by omega) (by omega) (by decide) hF
  have F := (((((f1.trans (Fm.app n S1 [.lst [.int 1, .int 7, .int 99, .int 999983, .int 100000000003, .int (1 + d2)]])).trans f2).trans f3).trans f4).trans (Fm.app n S4 [.lst [.int 0, .int 1, .int (-1), .int d3]])).trans f5
  exact ⟨_, _, d1, d2, d3, i, e, S1, S2, S3, S4, S5, e1, e2, e3, e4, e5, e6, e7, F.get hj hjn, divInt_sz (by omega) (by omega) (by omega), divInt_sz (by omega) (by omega) (by omega), p5, F⟩
theorem wide_pair_ok (G : Sub tab) (T : TakeOk tab) (k : Nat) {n m : Nat} {S : Store} (p : Pot n S m) (hm : m + 10 < 2 ^ 60) (hF : 2 ^ 9000 ≤ fu) :
    ∃ a b c d S', evC fu tab (k + 3) 49 [.ref n] S = .ok (.tup [evD a b, evD c d]) S' ∧ Sz a 40 ∧ Sz b 40 ∧ Sz c 40 ∧ Sz d 40 ∧ Pot n S' (m + 10) ∧ Fm n S S' := by
  have hl := p.lt
  have hjn : S.length ≠ n := by omega
  obtain ⟨a, c, d1, d2, d3, i, e, S1, S2, S3, S4, S5, e1, e2, e3, e4, e5, e6, e7, l5, sa, sc, p5, f5⟩ := wpturn (fu := fu) G T k (p.app [.lst []]) (by omega) (j := S.length) (at_new _) hjn hF
  have hlt : S.length < S5.length := (List.getElem?_eq_some_iff.mp l5).1
  have l6 : (S5.set S.length (.lst [evD a c]))[S.length]? = some (.lst [evD a c]) := List.getElem?_set_self hlt
  obtain ⟨b, d, d1', d2', d3', i', e', S1', S2', S3', S4', S5', e1', e2', e3', e4', e5', e6', e7', l5', sb, sd, p5', f5'⟩ := wpturn (fu := fu) G T k (p5.other hjn (.lst [evD a c])) (by omega) (j := S.length) l6 hjn hF
  have hlt' : S.length < S5'.length := (List.getElem?_eq_some_iff.mp l5').1
  have l7 : (S5'.set S.length (.lst [evD a c, evD b d]))[S.length]? = some (.lst [evD a c, evD b d]) := List.getElem?_set_self hlt'
  refine ⟨a, b, c, d, S5'.set S.length (.lst [evD a c, evD b d]), ?_, sa, sb, sc, sd, p5'.other hjn _, ?_⟩
  · have o1 := pow10_11
    have o2 : (10 : Int) ^ 11 = 100000000000 := by decide
    have o3 := pow10_6
    have o4 : (10 : Int) ^ 6 = 1000000 := by decide
    have o5 : okMul 2 100000000000 = true := by decide
    rw [evC_eq (G 49 _ rfl)]
    unfold tr_49
    clear G T p p5 p5' f5 f5' hm hl hjn hF sa sb sc sd hlt hlt'
    walk_at "cw"
  · have F := ((Fm.app n S [.lst []]).trans f5).setJ (S := S) (Nat.le_refl _) (.lst [evD a c])
    exact (F.trans f5').setJ (S := S) (Nat.le_refl _) _
theorem pair_ok (G : Sub tab) (T : TakeOk tab) (k : Nat) {n m : Nat} {S : Store} (p : Pot n S m) (hm : m + 9 < 2 ^ 60) (hF : 2 ^ 9000 ≤ fu) :
    ∃ a b c d S', evC fu tab (k + 5) 50 [.ref n] S = .ok (.tup [evD a b, evD c d]) S' ∧ Sz a 50 ∧ Sz b 50 ∧ Sz c 50 ∧ Sz d 50 ∧ Pot n S' (m + 9) ∧ Fm n S S' := by
  obtain ⟨a, b, S1, e1, sa, sb, p1, f1⟩ := event_drawn_ok (fu := fu) G T k p (by omega) hF
  obtain ⟨w, S2, e2, w0, w1, p2, f2⟩ := take_ok (fu := fu) T (k + 3) p1 (by omega) (u := 7) (by decide) (by decide)
  have F2 := f1.trans f2
  have sa' : Sz a 50 := sa.mono (by decide)
  have sb' : Sz b 50 := sb.mono (by decide)
  by_cases h0 : w = 0
  · subst h0
    refine ⟨a, b, a, b, S2, ?_, sa', sb', sa', sb', p2.mono (by omega), F2⟩
    rw [evC_eq (G 50 _ rfl)]
    unfold tr_50
    clear G T p hm hF sa sb p1 f1 p2 f2 F2 sa' sb' w0 w1
    walk_at "cw"
  obtain ⟨c, d, S3, e3, sc, sd, p3, f3⟩ := event_drawn_ok (fu := fu) G T k p2 (by omega) hF
  have F3 := F2.trans f3
  have n0 := decide_eq_false h0
  have s0 : Sz (0 : Rat) 14 := Sz.mono (n := 1) ⟨by decide, by decide⟩ (by decide)
  by_cases h1 : w = 1
  · subst h1
    obtain ⟨J, e4⟩ := l_shifted_ok (fu := fu) G k sa sb sc s0 (by decide) hF S3
    refine ⟨a, b, a + c, b + 0, S3 ++ J, ?_, sa', sb', (sa.add sc).mono (by decide), (sb.add s0).mono (by decide), (p3.gr (Gr.app _ _)).mono (by omega), F3.gr (Gr.app _ _)⟩
    rw [evC_eq (G 50 _ rfl)]
    unfold tr_50
    clear G T p hm hF sa sb p1 f1 p2 f2 F2 sa' sb' w0 w1 h0 p3 f3 F3 sc sd s0
    walk_at "cw"
  by_cases h2 : w = 2
  · subst h2
    obtain ⟨J, e4⟩ := l_shifted_ok (fu := fu) G k sa sb s0 sd (by decide) hF S3
    refine ⟨a, b, a + 0, b + d, S3 ++ J, ?_, sa', sb', (sa.add s0).mono (by decide), (sb.add sd).mono (by decide), (p3.gr (Gr.app _ _)).mono (by omega), F3.gr (Gr.app _ _)⟩
    rw [evC_eq (G 50 _ rfl)]
    unfold tr_50
    clear G T p hm hF sa sb p1 f1 p2 f2 F2 sa' sb' w0 w1 h0 h1 p3 f3 F3 sc sd s0
    walk_at "cw"
  have n3 := decide_eq_false (show ¬ w < 3 by omega)
  by_cases h3 : w = 3
  · subst h3
    have hc := sc.num
    have hden := sc.den
    have hpos := c.den_pos
    have e4 := l_frac_ok (S := S3) (fu := fu) G (k + 2) (t := c.num) (b := (c.den : Int) * 1000) (n := 24) (by omega) (by omega) (by decide) hF
    have e5 := l_frac_ok (S := S3) (fu := fu) G (k + 2) (t := -c.num) (b := (c.den : Int) * 7) (n := 24) (by omega) (by omega) (by decide) hF
    have sx : Sz (Rat.divInt c.num ((c.den : Int) * 1000)) 24 := divInt_sz (by omega) (by omega) (by omega)
    have sy : Sz (Rat.divInt (-c.num) ((c.den : Int) * 7)) 24 := divInt_sz (by omega) (by omega) (by omega)
    have m1 : okMul (c.den : Int) 1000 = true := okMul_of (n := 14) (m := 10) (by omega) (by decide) (by decide)
    have m2 : okMul (c.den : Int) 7 = true := okMul_of (n := 14) (m := 10) (by omega) (by decide) (by decide)
    generalize Rat.divInt c.num ((c.den : Int) * 1000) = x at *
    generalize Rat.divInt (-c.num) ((c.den : Int) * 7) = y at *
    obtain ⟨J, e6⟩ := l_shifted_ok (fu := fu) G k (sa.mono (show 14 ≤ 24 by decide)) (sb.mono (show 14 ≤ 24 by decide)) sx sy (by decide) hF S3
    refine ⟨a, b, a + x, b + y, S3 ++ J, ?_, sa', sb', (sa.add sx).mono (by decide), (sb.add sy).mono (by decide), (p3.gr (Gr.app _ _)).mono (by omega), F3.gr (Gr.app _ _)⟩
    rw [evC_eq (G 50 _ rfl)]
    unfold tr_50
    clear G T p hm hF sa sb p1 f1 p2 f2 F2 sa' sb' w0 w1 h0 h1 h2 p3 f3 F3 sc sd s0 hc hden hpos sx sy
    walk_at "cw"
  · have n4 := decide_eq_false h3
    obtain ⟨J, e4⟩ := l_shifted_ok (fu := fu) G k sa sb sc sd (by decide) hF S3
    refine ⟨a, b, a + c, b + d, S3 ++ J, ?_, sa', sb', (sa.add sc).mono (by decide), (sb.add sd).mono (by decide), (p3.gr (Gr.app _ _)).mono (by omega), F3.gr (Gr.app _ _)⟩
    rw [evC_eq (G 50 _ rfl)]
    unfold tr_50
    clear G T p hm hF sa sb p1 f1 p2 f2 F2 sa' sb' w0 w1 h0 h1 h2 h3 p3 f3 F3 sc sd s0
    walk_at "cw"
theorem drawn_right_ok (G : Sub tab) (T : TakeOk tab) (k : Nat) {n m : Nat} {S : Store} (p : Pot n S m) (hm : m + 17 < 2 ^ 60) (hF : 2 ^ 9000 ≤ fu) :
    ∃ S', evC fu tab (k + 9) 47 [.ref n] S = .ok (.bl true) S' ∧ Pot n S' (m + 17) ∧ Fm n S S' := by
  obtain ⟨a, b, c, d, S1, e1, sa, sb, sc, sd, p1, f1⟩ := pair_ok (fu := fu) G T (k + 3) p (by omega) hF
  obtain ⟨S2, e2, p2, f2⟩ := pair_right_ok (fu := fu) G T k p1 (by omega) sa sb sc sd hF
  refine ⟨S2, ?_, p2.mono (by omega), f1.trans f2⟩
  rw [evC_eq (G 47 _ rfl)]
  unfold tr_47
  clear G T p hm hF sa sb sc sd p1 p2 f1 f2
  walk_at "cw"
end
end Cw
namespace Cw
open PySem PySem.Spec PyProof.Rows L2
local macro_rules | `(tactic| walk_at "cw") => `(tactic| simp only [bnd_ok, bnd_exc, varR_some, kk2_eq, v_var, v_cst, v_tup, v_lst, v_bin, v_neg, v_not, andK_t, andK_f, orK_t, orK_f, v_and, v_or, v_cmp, chK_t, chK_f, chJ_eq, v_chain, iteK_t, iteK_f, v_ite, v_idx, slcK_eq, slcL_eq, slcJ_eq, v_slc, optK_int, o_none, o_some, v_rev, rev_tup, callK_eq, callJ_none, callJ_perm, callP_some, permL_nil, permL_cons, permC_some, v_call, v_b1, v_b2, isiK_eq, v_isi, v_m0, v_m1, compE_eq, comp_live, lenL_some, live_eq, liveK_some, liveJ_none, liveJ_some, liveH_some, liveH_none, fr_live, liveF_eq, liveFK_some, liveFJ_none, liveFJ_some, liveFH_nx, liveFH_ct, liveFH_bk, liveFH_rt, nil_get, comp_fix, comp_zip, comp_rng, turnC_eq, turnJ_some, turnK_t, turnK_f, yesK_eq, wipe_nil, wipe_cons, loopL_nil, loopL_cons, loopK_some, loopK_none, zipD_nil, zipD_nil2, zipD_cons, v_comp, es_nil, consJ_eq, consK_eq, es_cons, notJ_eq, andJ_t, andJ_f, orJ_t, orJ_f, b_not, b_and, b_or, b_cmp, b_chain, b_ite, b_var, b_cst, b_call, b_b1, b_isi, b_idx, b_bin, b_comp, ofBl_bl, tru_bl, tru_int, tru_tup, tru_non, c_none', c_some', srcK_tup, srcK_rol, w_var, w_cst, w_tup, w_lst, w_bin, w_idx, w_slc, w_call, w_comp, w_rng, rng2K_eq, w_rng2, zipK_tup, w_zip, w_enum, seqR_nx, seqR_rt, seqR_bk, seqR_ct, seqR_ex, ts_nil, ts_cons, rtE_ok, asgK_eq, t_asg, tgK_some, asgTK_eq, t_asgT, parJ_eq, parK_eq, t_par, par3H_eq, par3J_eq, par3K_eq, t_par3, setJ_eq, setK_eq, t_set, expK_eq, t_exp, retK_eq, t_ret, t_retN, ifK_t, ifK_f, t_if, t_whl, frB_eq, frJ_eq, fr_fix, fr_zip, fr_rng, forL_nil, forL_cons, forK_nx, forK_ct, forK_bk, forK_rt, t_fr, t_pas, t_brk, t_cnt, body_rt, body_nx, body_ex, op_addI, op_subI, op_mulI, op_fdivI, op_modI, op_powI, mkTup_small, alloc_small, idx_R, idxS_some, setH_R, setS_some, setX_some, len_R, lenS_some, len_rol, tup_R, tupS_some, all_R, allS_some, allK_some, src_R, srcS_some, m1J_R, m1S_some, app_R, appX_some, at_new, bls_nil, bls_cons, List.all_cons, List.all_nil, id_eq, Bool.and_true, Bool.and_self,  neg_I, not_B, cop_lt, cop_le, cop_gt, cop_ge, cop_eq, cop_ne, cop_isN, cop_notN, cop_isB, cop_notB, ofOpt_some, eqD_int, eqD_str, b1_lenT, b1_abs, b1_intI, b1_intB, b2_min, b2_max, isi_tup, isi_int, isi_bl, isi_str, idxK_some, idx_tup, idx_rol, atI_0, atI_1, atI_2, atI_3, atI_4, atI_5, atI_6, atI_7, atI_m1_1, atI_m1_2, atI_m2_2, atI_m1_3, atI_m2_3, atI_m3_3, atI_m1_4, atI_m2_4, atI_m3_4, atI_m1_5, atI_m2_5, atI_m3_5, atI_m1_6, atI_m2_6, atI_m3_6, tg_nm, tg_tp, tgs_nil, tgJ_some, tgs_cons, List.getElem?_cons_zero, List.getElem?_cons_succ, List.set_cons_zero, List.set_cons_succ, List.cons_append, List.nil_append, List.map_cons, List.map_nil, startD, List.length_cons, List.length_nil, List.replicate_succ, List.replicate_zero, Nat.reduceAdd, Nat.reduceSub, Int.reduceLE, Int.reduceLT, Int.reduceEq, Int.reduceNe, Nat.reduceLT, Nat.reduceEqDiff, Nat.reduceLeDiff, Int.reduceToNat, Int.reduceNeg, Int.reduceAdd, Int.reduceSub, Int.reduceMul, Int.reducePow, rng1_eq, rngD_0, rngD_s, op_powI, reduceCtorEq, decide_true, decide_false, eq_self, Int.cast_ofNat_Int, Nat.zero_add, Option.map_some, ne_eq, not_false_eq_true, Bool.not_true, Bool.not_false, isNonD, i_ev0, i_ev1, i_fr0, i_fr1, s_ev, g_fr, g_ev, r_ev, k_ev, k_one, k_zero, *])
local macro_rules | `(tactic| walk_at "cw0") => `(tactic| simp only [bnd_ok, bnd_exc, varR_some, kk2_eq, v_var, v_cst, v_tup, v_lst, v_bin, v_neg, v_not, andK_t, andK_f, orK_t, orK_f, v_and, v_or, v_cmp, chK_t, chK_f, chJ_eq, v_chain, iteK_t, iteK_f, v_ite, v_idx, slcK_eq, slcL_eq, slcJ_eq, v_slc, optK_int, o_none, o_some, v_rev, rev_tup, callK_eq, callJ_none, callJ_perm, callP_some, permL_nil, permL_cons, permC_some, v_call, v_b1, v_b2, isiK_eq, v_isi, v_m0, v_m1, compE_eq, comp_live, lenL_some, live_eq, liveK_some, liveJ_none, liveJ_some, liveH_some, liveH_none, fr_live, liveF_eq, liveFK_some, liveFJ_none, liveFJ_some, liveFH_nx, liveFH_ct, liveFH_bk, liveFH_rt, nil_get, comp_fix, comp_zip, comp_rng, turnC_eq, turnJ_some, turnK_t, turnK_f, yesK_eq, wipe_nil, wipe_cons, loopL_nil, loopL_cons, loopK_some, loopK_none, zipD_nil, zipD_nil2, zipD_cons, v_comp, es_nil, consJ_eq, consK_eq, es_cons, notJ_eq, andJ_t, andJ_f, orJ_t, orJ_f, b_not, b_and, b_or, b_cmp, b_chain, b_ite, b_var, b_cst, b_call, b_b1, b_isi, b_idx, b_bin, b_comp, ofBl_bl, tru_bl, tru_int, tru_tup, tru_non, c_none', c_some', srcK_tup, srcK_rol, w_var, w_cst, w_tup, w_lst, w_bin, w_idx, w_slc, w_call, w_comp, w_rng, rng2K_eq, w_rng2, zipK_tup, w_zip, w_enum, seqR_nx, seqR_rt, seqR_bk, seqR_ct, seqR_ex, ts_nil, ts_cons, rtE_ok, asgK_eq, t_asg, tgK_some, asgTK_eq, t_asgT, parJ_eq, parK_eq, t_par, par3H_eq, par3J_eq, par3K_eq, t_par3, setJ_eq, setK_eq, t_set, expK_eq, t_exp, retK_eq, t_ret, t_retN, ifK_t, ifK_f, t_if, t_whl, frB_eq, frJ_eq, fr_fix, fr_zip, fr_rng, forL_nil, forL_cons, forK_nx, forK_ct, forK_bk, forK_rt, t_fr, t_pas, t_brk, t_cnt, body_rt, body_nx, body_ex, op_addI, op_subI, op_mulI, op_fdivI, op_modI, op_powI, mkTup_small, alloc_small, idx_R, idxS_some, setH_R, setS_some, setX_some, len_R, lenS_some, len_rol, tup_R, tupS_some, all_R, allS_some, allK_some, src_R, srcS_some, m1J_R, m1S_some, app_R, appX_some, at_new, bls_nil, bls_cons, List.all_cons, List.all_nil, id_eq, Bool.and_true, Bool.and_self,  neg_I, not_B, cop_lt, cop_le, cop_gt, cop_ge, cop_eq, cop_ne, cop_isN, cop_notN, cop_isB, cop_notB, ofOpt_some, eqD_int, eqD_str, b1_lenT, b1_abs, b1_intI, b1_intB, b2_min, b2_max, isi_tup, isi_int, isi_bl, isi_str, idxK_some, idx_tup, idx_rol, atI_0, atI_1, atI_2, atI_3, atI_4, atI_5, atI_6, atI_7, atI_m1_1, atI_m1_2, atI_m2_2, atI_m1_3, atI_m2_3, atI_m3_3, atI_m1_4, atI_m2_4, atI_m3_4, atI_m1_5, atI_m2_5, atI_m3_5, atI_m1_6, atI_m2_6, atI_m3_6, tg_nm, tg_tp, tgs_nil, tgJ_some, tgs_cons, List.getElem?_cons_zero, List.getElem?_cons_succ, List.set_cons_zero, List.set_cons_succ, List.cons_append, List.nil_append, List.map_cons, List.map_nil, startD, List.length_cons, List.length_nil, List.replicate_succ, List.replicate_zero, Nat.reduceAdd, Nat.reduceSub, Int.reduceLE, Int.reduceLT, Int.reduceEq, Int.reduceNe, Nat.reduceLT, Nat.reduceEqDiff, Nat.reduceLeDiff, Int.reduceToNat, Int.reduceNeg, Int.reduceAdd, Int.reduceSub, Int.reduceMul, Int.reducePow, rng1_eq, rngD_0, rngD_s, op_powI, reduceCtorEq, decide_true, decide_false, eq_self, Int.cast_ofNat_Int, Nat.zero_add, Option.map_some, ne_eq, not_false_eq_true, Bool.not_true, Bool.not_false, isNonD, i_ev0, i_ev1, i_fr0, i_fr1, s_ev, g_fr, g_ev, r_ev, k_ev, k_one, k_zero])
/-! ### at one time -/
theorem repr_bl {S : Store} (b : Bool) : evB1 .repr (.bl b) S = .ok (.str (PyData.bool b).shown) S :=
  repr_of rfl (by cases b <;> decide +kernel) (by cases b <;> decide +kernel) (by cases b <;> decide +kernel) (by cases b <;> decide +kernel)
section
variable {tab : Nat → Option Fd} {fu : Nat}
theorem together_ok (G : Sub tab) (k : Nat) {a b c d p : Rat} {n m : Nat} (ha : Sz a n) (hb : Sz b n) (hc : Sz c n) (hd : Sz d n) (hp : Sz p m) (p0 : 0 < p) (hn : (n + n + 1 + m) + (n + n + 1 + m) < 9000) (hF : 2 ^ 9000 ≤ fu) (S : Store) :
    ∃ J, evC fu tab (k + 6) 69 [frD p, evD a b, evD c d] S = .ok (.bl (decide ((c - a) / p + (d - b) * p = 0))) (S ++ J) := by
  obtain ⟨J1, e1⟩ := check_pace_ok (fu := fu) G (k + 1) hp p0 (by omega) hF S
  obtain ⟨J2, e2⟩ := check_event_ok (fu := fu) G (k + 1) ha hb (by omega) hF (S ++ J1)
  obtain ⟨J3, e3⟩ := check_event_ok (fu := fu) G (k + 1) hc hd (by omega) hF (S ++ J1 ++ J2)
  obtain ⟨J4, e4⟩ := later_ok (fu := fu) G k ha hb hc hd hp p0 hn hF (S ++ J1 ++ J2 ++ J3)
  have q := fun S => eqD_fr (S := S) ((c - a) / p + (d - b) * p) 0
  refine ⟨J1 ++ J2 ++ J3 ++ J4, ?_⟩
  rw [evC_eq (G 69 _ rfl)]
  unfold tr_69
  clear G ha hb hc hd hp p0 hn hF
  walk_at "cw"
  simp
/-- together, where the answer is known -/
theorem together_eq (G : Sub tab) (k : Nat) {a b c d p : Rat} {n m : Nat} {r : Bool} (ha : Sz a n) (hb : Sz b n) (hc : Sz c n) (hd : Sz d n) (hp : Sz p m) (p0 : 0 < p) (hn : (n + n + 1 + m) + (n + n + 1 + m) < 9000) (hF : 2 ^ 9000 ≤ fu) (h : decide ((c - a) / p + (d - b) * p = 0) = r) (S : Store) :
    ∃ J, evC fu tab (k + 6) 69 [frD p, evD a b, evD c d] S = .ok (.bl r) (S ++ J) := by
  rw [← h]
  exact together_ok (fu := fu) G k ha hb hc hd hp p0 hn hF S
def body66 : Ts := match tr_66 with
  | .cons (.fr _ _ b) _ => b
  | _ => .nil
theorem tr66_eq : tr_66 = .cons (.fr (.nm 3) (.rngV (.cst (.int 3))) body66) (.cons (.ret (.cst (.bl true))) .nil) := rfl
theorem anyturn (G : Sub tab) (T : TakeOk tab) (k : Nat) {n m : Nat} {a b c d : Rat} {S : Store} (P : Pot n S m) (hm : m + 2 < 2 ^ 60) (ha : Sz a 14) (hb : Sz b 14) (hc : Sz c 14) (hd : Sz d 14) (hF : 2 ^ 9000 ≤ fu) (o3 o4 o5 : Option D) :
    ∃ (x4 x5 : D) (S' : Store), evTs fu (evC fu tab (k + 6)) body66 [some (.ref n), some (evD a b), some (evD c d), o3, o4, o5] S = some (.nx [some (.ref n), some (evD a b), some (evD c d), o3, some x4, some x5], S') ∧ Pot n S' (m + 1) ∧ Fm n S S' := by
  obtain ⟨p, S1, e1, p0, ps, P1, F1⟩ := frac_pace_ok (fu := fu) G T (k + 3) P (by omega)
  have pn : p ≠ 0 := by intro z; subst z; exact absurd p0 (by decide)
  have e2 := fun S => l_seen_ok (S := S) (fu := fu) G (k + 2) ha hb (ps.mono (show 4 ≤ 14 by decide)) p0 (by decide) hF
  have e3 := fun S => l_seen_ok (S := S) (fu := fu) G (k + 2) hc hd (ps.mono (show 4 ≤ 14 by decide)) p0 (by decide) hF
  have e4 := fun S => sum_ok (fu := fu) G (k + 2) (ha.div ps pn) (hb.mul ps) (by decide) hF S
  have e5 := fun S => sum_ok (fu := fu) G (k + 2) (hc.div ps pn) (hd.mul ps) (by decide) hF S
  have q := fun S => eqD_fr (S := S) (a / p + b * p) (c / p + d * p)
  have hq : decide ((c - a) / p + (d - b) * p = 0) = decide (a / p + b * p = c / p + d * p) := by
    rw [decide_eq_decide]
    constructor
    · intro h; grind
    · intro h; grind
  obtain ⟨J, e6⟩ := together_eq (fu := fu) G k ha hb hc hd ps p0 (by decide) hF hq S1
  have r := fun S b => repr_bl (S := S) b
  generalize decide (a / p + b * p = c / p + d * p) = t at *
  refine ⟨frD p, .bl t, S1 ++ J, ?_, P1.app J, F1.trans (Fm.app _ _ _)⟩
  unfold body66 tr_66
  clear G T P hm ha hb hc hd hF p0 ps pn P1 F1 hq
  dsimp only
  walk_at "cw"
theorem any_right_ok (G : Sub tab) (T : TakeOk tab) (k : Nat) {n m : Nat} {a b c d : Rat} {S : Store} (P : Pot n S m) (hm : m + 6 < 2 ^ 60) (ha : Sz a 14) (hb : Sz b 14) (hc : Sz c 14) (hd : Sz d 14) (hF : 2 ^ 9000 ≤ fu) :
    ∃ S', evC fu tab (k + 7) 66 [.ref n, evD a b, evD c d] S = .ok (.bl true) S' ∧ Pot n S' (m + 3) ∧ Fm n S S' := by
  obtain ⟨a1, b1, S1, t1, P1, F1⟩ := anyturn (fu := fu) G T k P (by omega) ha hb hc hd hF (some (.int 0)) none none
  obtain ⟨a2, b2, S2, t2, P2, F2⟩ := anyturn (fu := fu) G T k P1 (by omega) ha hb hc hd hF (some (.int 1)) (some a1) (some b1)
  obtain ⟨a3, b3, S3, t3, P3, F3⟩ := anyturn (fu := fu) G T k P2 (by omega) ha hb hc hd hF (some (.int 2)) (some a2) (some b2)
  refine ⟨S3, ?_, P3, (F1.trans F2).trans F3⟩
  rw [evC_eq (G 66 _ rfl), tr66_eq]
  clear G T P P1 P2 P3 F1 F2 F3 ha hb hc hd hF hm
  walk_at "cw"
end
end Cw
namespace Cw
open PySem PySem.Spec PyProof.Rows L2
local macro_rules | `(tactic| walk_at "cw") => `(tactic| simp only [bnd_ok, bnd_exc, varR_some, kk2_eq, v_var, v_cst, v_tup, v_lst, v_bin, v_neg, v_not, andK_t, andK_f, orK_t, orK_f, v_and, v_or, v_cmp, chK_t, chK_f, chJ_eq, v_chain, iteK_t, iteK_f, v_ite, v_idx, slcK_eq, slcL_eq, slcJ_eq, v_slc, optK_int, o_none, o_some, v_rev, rev_tup, callK_eq, callJ_none, callJ_perm, callP_some, permL_nil, permL_cons, permC_some, v_call, v_b1, v_b2, isiK_eq, v_isi, v_m0, v_m1, compE_eq, comp_live, lenL_some, live_eq, liveK_some, liveJ_none, liveJ_some, liveH_some, liveH_none, fr_live, liveF_eq, liveFK_some, liveFJ_none, liveFJ_some, liveFH_nx, liveFH_ct, liveFH_bk, liveFH_rt, nil_get, comp_fix, comp_zip, comp_rng, turnC_eq, turnJ_some, turnK_t, turnK_f, yesK_eq, wipe_nil, wipe_cons, loopL_nil, loopL_cons, loopK_some, loopK_none, zipD_nil, zipD_nil2, zipD_cons, v_comp, es_nil, consJ_eq, consK_eq, es_cons, notJ_eq, andJ_t, andJ_f, orJ_t, orJ_f, b_not, b_and, b_or, b_cmp, b_chain, b_ite, b_var, b_cst, b_call, b_b1, b_isi, b_idx, b_bin, b_comp, ofBl_bl, tru_bl, tru_int, tru_tup, tru_non, c_none', c_some', srcK_tup, srcK_rol, w_var, w_cst, w_tup, w_lst, w_bin, w_idx, w_slc, w_call, w_comp, w_rng, rng2K_eq, w_rng2, zipK_tup, w_zip, w_enum, seqR_nx, seqR_rt, seqR_bk, seqR_ct, seqR_ex, ts_nil, ts_cons, rtE_ok, asgK_eq, t_asg, tgK_some, asgTK_eq, t_asgT, parJ_eq, parK_eq, t_par, par3H_eq, par3J_eq, par3K_eq, t_par3, setJ_eq, setK_eq, t_set, expK_eq, t_exp, retK_eq, t_ret, t_retN, ifK_t, ifK_f, t_if, t_whl, frB_eq, frJ_eq, fr_fix, fr_zip, fr_rng, forL_nil, forL_cons, forK_nx, forK_ct, forK_bk, forK_rt, t_fr, t_pas, t_brk, t_cnt, body_rt, body_nx, body_ex, op_addI, op_subI, op_mulI, op_fdivI, op_modI, op_powI, mkTup_small, alloc_small, idx_R, idxS_some, setH_R, setS_some, setX_some, len_R, lenS_some, len_rol, tup_R, tupS_some, all_R, allS_some, allK_some, src_R, srcS_some, m1J_R, m1S_some, app_R, appX_some, at_new, bls_nil, bls_cons, List.all_cons, List.all_nil, id_eq, Bool.and_true, Bool.and_self,  neg_I, not_B, cop_lt, cop_le, cop_gt, cop_ge, cop_eq, cop_ne, cop_isN, cop_notN, cop_isB, cop_notB, ofOpt_some, eqD_int, eqD_str, b1_lenT, b1_abs, b1_intI, b1_intB, b2_min, b2_max, isi_tup, isi_int, isi_bl, isi_str, idxK_some, idx_tup, idx_rol, atI_0, atI_1, atI_2, atI_3, atI_4, atI_5, atI_6, atI_7, atI_m1_1, atI_m1_2, atI_m2_2, atI_m1_3, atI_m2_3, atI_m3_3, atI_m1_4, atI_m2_4, atI_m3_4, atI_m1_5, atI_m2_5, atI_m3_5, atI_m1_6, atI_m2_6, atI_m3_6, tg_nm, tg_tp, tgs_nil, tgJ_some, tgs_cons, List.getElem?_cons_zero, List.getElem?_cons_succ, List.set_cons_zero, List.set_cons_succ, List.cons_append, List.nil_append, List.map_cons, List.map_nil, startD, List.length_cons, List.length_nil, List.replicate_succ, List.replicate_zero, Nat.reduceAdd, Nat.reduceSub, Int.reduceLE, Int.reduceLT, Int.reduceEq, Int.reduceNe, Nat.reduceLT, Nat.reduceEqDiff, Nat.reduceLeDiff, Int.reduceToNat, Int.reduceNeg, Int.reduceAdd, Int.reduceSub, Int.reduceMul, Int.reducePow, rng1_eq, rngD_0, rngD_s, op_powI, reduceCtorEq, decide_true, decide_false, eq_self, Int.cast_ofNat_Int, Nat.zero_add, Option.map_some, ne_eq, not_false_eq_true, Bool.not_true, Bool.not_false, isNonD, i_ev0, i_ev1, i_fr0, i_fr1, s_ev, g_fr, g_ev, r_ev, k_ev, atI_0, *])
local macro_rules | `(tactic| walk_at "cw0") => `(tactic| simp only [bnd_ok, bnd_exc, varR_some, kk2_eq, v_var, v_cst, v_tup, v_lst, v_bin, v_neg, v_not, andK_t, andK_f, orK_t, orK_f, v_and, v_or, v_cmp, chK_t, chK_f, chJ_eq, v_chain, iteK_t, iteK_f, v_ite, v_idx, slcK_eq, slcL_eq, slcJ_eq, v_slc, optK_int, o_none, o_some, v_rev, rev_tup, callK_eq, callJ_none, callJ_perm, callP_some, permL_nil, permL_cons, permC_some, v_call, v_b1, v_b2, isiK_eq, v_isi, v_m0, v_m1, compE_eq, comp_live, lenL_some, live_eq, liveK_some, liveJ_none, liveJ_some, liveH_some, liveH_none, fr_live, liveF_eq, liveFK_some, liveFJ_none, liveFJ_some, liveFH_nx, liveFH_ct, liveFH_bk, liveFH_rt, nil_get, comp_fix, comp_zip, comp_rng, turnC_eq, turnJ_some, turnK_t, turnK_f, yesK_eq, wipe_nil, wipe_cons, loopL_nil, loopL_cons, loopK_some, loopK_none, zipD_nil, zipD_nil2, zipD_cons, v_comp, es_nil, consJ_eq, consK_eq, es_cons, notJ_eq, andJ_t, andJ_f, orJ_t, orJ_f, b_not, b_and, b_or, b_cmp, b_chain, b_ite, b_var, b_cst, b_call, b_b1, b_isi, b_idx, b_bin, b_comp, ofBl_bl, tru_bl, tru_int, tru_tup, tru_non, c_none', c_some', srcK_tup, srcK_rol, w_var, w_cst, w_tup, w_lst, w_bin, w_idx, w_slc, w_call, w_comp, w_rng, rng2K_eq, w_rng2, zipK_tup, w_zip, w_enum, seqR_nx, seqR_rt, seqR_bk, seqR_ct, seqR_ex, ts_nil, ts_cons, rtE_ok, asgK_eq, t_asg, tgK_some, asgTK_eq, t_asgT, parJ_eq, parK_eq, t_par, par3H_eq, par3J_eq, par3K_eq, t_par3, setJ_eq, setK_eq, t_set, expK_eq, t_exp, retK_eq, t_ret, t_retN, ifK_t, ifK_f, t_if, t_whl, frB_eq, frJ_eq, fr_fix, fr_zip, fr_rng, forL_nil, forL_cons, forK_nx, forK_ct, forK_bk, forK_rt, t_fr, t_pas, t_brk, t_cnt, body_rt, body_nx, body_ex, op_addI, op_subI, op_mulI, op_fdivI, op_modI, op_powI, mkTup_small, alloc_small, idx_R, idxS_some, setH_R, setS_some, setX_some, len_R, lenS_some, len_rol, tup_R, tupS_some, all_R, allS_some, allK_some, src_R, srcS_some, m1J_R, m1S_some, app_R, appX_some, at_new, bls_nil, bls_cons, List.all_cons, List.all_nil, id_eq, Bool.and_true, Bool.and_self,  neg_I, not_B, cop_lt, cop_le, cop_gt, cop_ge, cop_eq, cop_ne, cop_isN, cop_notN, cop_isB, cop_notB, ofOpt_some, eqD_int, eqD_str, b1_lenT, b1_abs, b1_intI, b1_intB, b2_min, b2_max, isi_tup, isi_int, isi_bl, isi_str, idxK_some, idx_tup, idx_rol, atI_0, atI_1, atI_2, atI_3, atI_4, atI_5, atI_6, atI_7, atI_m1_1, atI_m1_2, atI_m2_2, atI_m1_3, atI_m2_3, atI_m3_3, atI_m1_4, atI_m2_4, atI_m3_4, atI_m1_5, atI_m2_5, atI_m3_5, atI_m1_6, atI_m2_6, atI_m3_6, tg_nm, tg_tp, tgs_nil, tgJ_some, tgs_cons, List.getElem?_cons_zero, List.getElem?_cons_succ, List.set_cons_zero, List.set_cons_succ, List.cons_append, List.nil_append, List.map_cons, List.map_nil, startD, List.length_cons, List.length_nil, List.replicate_succ, List.replicate_zero, Nat.reduceAdd, Nat.reduceSub, Int.reduceLE, Int.reduceLT, Int.reduceEq, Int.reduceNe, Nat.reduceLT, Nat.reduceEqDiff, Nat.reduceLeDiff, Int.reduceToNat, Int.reduceNeg, Int.reduceAdd, Int.reduceSub, Int.reduceMul, Int.reducePow, rng1_eq, rngD_0, rngD_s, op_powI, reduceCtorEq, decide_true, decide_false, eq_self, Int.cast_ofNat_Int, Nat.zero_add, Option.map_some, ne_eq, not_false_eq_true, Bool.not_true, Bool.not_false, isNonD, i_ev0, i_ev1, i_fr0, i_fr1, s_ev, g_fr, g_ev, r_ev, k_ev, atI_0])
/-! ### level pairs -/
/-- a drawn fraction other than one -/
structure Off (x : D) (n : Nat) : Prop where
  ex : ∃ f : Rat, x = frD f ∧ 0 < f ∧ Sz f n ∧ f * f ≠ 1
theorem off_lit {a : Int} {b : Nat} (h0 : b ≠ 0) (hc : a.natAbs.Coprime b) (hp : 0 < a) (h1 : a.natAbs < 2 ^ 8) (h2 : b < 2 ^ 8) (h3 : (⟨a, b, h0, hc⟩ : Rat) * ⟨a, b, h0, hc⟩ ≠ 1) : Off (.tup [.int a, .int b]) 8 :=
  ⟨⟨⟨a, b, h0, hc⟩, rfl, pos_of hp, ⟨h1, h2⟩, h3⟩⟩
theorem lv_y {w p y : Rat} (hp : p ≠ 0) (h : y = -w / (p * p)) : y * p * p = -w := by subst h; grind
theorem lv1 {a b w p y : Rat} (hp : p ≠ 0) (h : y * p * p = -w) : (a + w - a) / p + (b + y - b) * p = 0 := by grind
theorem lv2 {a b w p y : Rat} (hp : p ≠ 0) (h : y * p * p = -w) : (a - (a + w)) / p + (b - (b + y)) * p = 0 := by grind
theorem lv3 {w p y f : Rat} (hp : p ≠ 0) (hf : f ≠ 0) (h : y * p * p = -w) (hw : w ≠ 0) (hff : f * f ≠ 1) : ¬ (w / (p * f) + y * (p * f) = 0) := by
  intro z
  have h1 : w + y * p * p * (f * f) = 0 := by grind
  rw [h] at h1
  have h2 : w * (1 - f * f) = 0 := by grind
  rcases Rat.mul_eq_zero.mp h2 with h3 | h3
  · exact hw h3
  · exact hff (by grind)
theorem lv4 {a b w p y i : Rat} (hp : p ≠ 0) (hi : i ≠ 0) (h : y * p * p = -w) : ((a + w) / i - a / i) / (p / i) + ((b + y) * i - b * i) * (p / i) = 0 := by grind
theorem lv5 {a b w p y : Rat} (hp : p ≠ 0) (h : y * p * p = -w) : ((b + y) - b) / p⁻¹ + ((a + w) - a) * p⁻¹ = 0 := by grind
theorem lv6 {a b w p y : Rat} (hp : p ≠ 0) (h : y * p * p = -w) : (a + w + w - a) / p + (b + y + y - b) * p = 0 := by grind
theorem pp_pos {p : Rat} (h : 0 < p) : 0 < p * p := Rat.mul_pos h h
theorem lv_nonneg {w p y : Rat} (hp : 0 < p) (h : y * p * p = -w) (h1 : 0 ≤ w) (h2 : 0 ≤ y) : w = 0 := by
  have h3 : 0 ≤ y * (p * p) := Rat.mul_nonneg h2 (Rat.le_of_lt (pp_pos hp))
  have h4 : y * (p * p) = y * p * p := by grind
  grind
section
variable {tab : Nat → Option Fd} {fu : Nat}
theorem lv_either {a b w p y : Rat} {x : D} (hp : 0 < p) (h : y * p * p = -w) (hw : w ≠ 0) (hx : SeqR a b (a + w) (b + y) x) : ∃ xs, x = .tup (.str "either" :: xs) := by
  cases hx with
  | same hs => exact absurd (show w = 0 by have := hs.1; grind) hw
  | ahead _ ht =>
    obtain ⟨_, h1, h2⟩ := ah_true ht
    exact absurd (lv_nonneg hp h (by grind) (by grind)) hw
  | behind _ _ ht =>
    obtain ⟨_, h1, h2⟩ := ah_true ht
    have := lv_nonneg (w := -w) (y := -y) hp (by grind) (by grind) (by grind)
    exact absurd (show w = 0 by grind) hw
  | either => exact ⟨_, rfl⟩
theorem level_ok (G : Sub tab) (T : TakeOk tab) (k : Nat) {n m : Nat} {a b p w : Rat} {S : Store} (P : Pot n S m) (hm : m + 6 < 2 ^ 60) (ha : Sz a 14) (hb : Sz b 14) (hp : Sz p 4) (hw : Sz w 14) (p0 : 0 < p) (w0 : w ≠ 0) (hF : 2 ^ 9000 ≤ fu) :
    ∃ S', evC fu tab (k + 7) 68 [.ref n, evD a b, frD p, frD w] S = .ok (.bl true) S' ∧ Pot n S' (m + 2) ∧ Fm n S S' := by
  have pn : p ≠ 0 := by intro z; subst z; exact absurd p0 (by decide)
  have e1 := fun S => l_neg_ok (fu := fu) G (k + 4) hw (by decide) hF S
  have e2 := fun S => l_times_ok (S := S) (fu := fu) G (k + 3) hp hp (by decide) hF
  have ppn : p * p ≠ 0 := by intro z; have := pp_pos p0; rw [z] at this; exact absurd this (by decide)
  have e3 := fun S => l_over_ok (S := S) (fu := fu) G (k + 3) hw.neg (hp.mul hp) ppn (by decide) hF
  have hy := lv_y (w := w) pn rfl
  have sy : Sz (-w / (p * p)) 22 := hw.neg.div (hp.mul hp) ppn
  generalize -w / (p * p) = y at *
  have sw : Sz w 22 := hw.mono (by decide)
  obtain ⟨S1, e4, g1⟩ := Gr.of (l_shifted_ok (fu := fu) G (k + 2) ha hb sw sy (by decide) hF S)
  have sC : Sz (a + w) 60 := (ha.add sw).mono (by decide)
  have sD : Sz (b + y) 60 := (hb.add sy).mono (by decide)
  have sa : Sz a 60 := ha.mono (by decide)
  have sb : Sz b 60 := hb.mono (by decide)
  have sp : Sz p 12 := hp.mono (by decide)
  obtain ⟨S2, e5, g2⟩ := Gr.of (together_eq (fu := fu) G k sa sb sC sD sp p0 (by decide) hF (decide_eq_true (lv1 pn hy)) S1)
  obtain ⟨S3, e6, g3⟩ := Gr.of (together_eq (fu := fu) G k sC sD sa sb sp p0 (by decide) hF (decide_eq_true (lv2 pn hy)) S2)
  have P3 := ((P.gr g1).gr g2).gr g3
  obtain ⟨z, S4, hz, e7, P4, F4⟩ := of_ok (fu := fu) G T (k + 4) (P3.app [.lst [.tup [.int 2, .int 1], .tup [.int 9, .int 10], .tup [.int 1, .int 3], .tup [.int 101, .int 100]]]) (by omega) (j := S3.length) (at_new _) (by have := P3.lt; omega) (by decide) (by decide)
  have hz' : Off z 8 := by
    simp only [List.mem_cons, List.not_mem_nil, or_false] at hz
    rcases hz with rfl | rfl | rfl | rfl <;> exact off_lit (by decide) (by decide) (by decide) (by decide) (by decide) (by decide +kernel)
  obtain ⟨f, rfl, f0, sf, ff⟩ := hz'
  have fn : f ≠ 0 := by intro z; subst z; exact absurd f0 (by decide)
  have e8 := fun S => l_times_ok (S := S) (fu := fu) G (k + 3) hp sf (by decide) hF
  obtain ⟨i, S5, e9, i0, si, P5, F5⟩ := frac_pace_ok (fu := fu) G T (k + 3) P4 (by omega)
  have inn : i ≠ 0 := by intro z; subst z; exact absurd i0 (by decide)
  have spf : Sz (p * f) 12 := hp.mul sf
  have pf0 : 0 < p * f := Rat.mul_pos p0 f0
  have l3 := lv3 pn fn hy w0 ff
  have q1 : a + w - a = w := by grind
  have q2 : b + y - b = y := by grind
  obtain ⟨S6, e10, g6⟩ := Gr.of (together_eq (fu := fu) G k sa sb sC sD spf pf0 (by decide) hF (r := false) (by rw [q1, q2]; exact decide_eq_false l3) S5)
  obtain ⟨x, J7, e11, hx⟩ := sequence_ok (fu := fu) G k sa sb sC sD (by decide) hF S6
  obtain ⟨xs, ex⟩ := lv_either p0 hy w0 hx
  have i11 : ∀ S, evIdx x (.int 0) S = .ok (.str "either") S := fun S => by rw [ex, idx_tup, atI_0]; rfl
  have e12 := fun S => l_over_ok (S := S) (fu := fu) G (k + 3) hp si inn (by decide) hF
  have si60 : Sz i 60 := si.mono (by decide)
  obtain ⟨S8, e13, g8⟩ := Gr.of (seen_ok (fu := fu) G (k + 1) sa sb si60 i0 (by decide) hF (S6 ++ J7))
  obtain ⟨S9, e14, g9⟩ := Gr.of (seen_ok (fu := fu) G (k + 1) sC sD si60 i0 (by decide) hF S8)
  have spi : Sz (p / i) 12 := (hp.div si inn).mono (by decide)
  have pi0 : 0 < p / i := by rw [Rat.div_def]; exact Rat.mul_pos p0 (inv_pos i0)
  have m64 : ∀ {q : Rat}, Sz q 60 → Sz (q / i) 64 ∧ Sz (q * i) 64 := fun h => ⟨h.div si inn, h.mul si⟩
  obtain ⟨S10, e15, g10⟩ := Gr.of (together_eq (fu := fu) G k (m64 sa).1 (m64 sb).2 (m64 sC).1 (m64 sD).2 spi pi0 (by decide) hF (decide_eq_true (lv4 pn inn hy)) S9)
  have r1 := frD_inv p0
  obtain ⟨S11, e16, g11⟩ := Gr.of (mirrored_ok (fu := fu) G (k + 1) sa sb (by decide) hF S10)
  obtain ⟨S12, e17, g12⟩ := Gr.of (mirrored_ok (fu := fu) G (k + 1) sC sD (by decide) hF S11)
  obtain ⟨S13, e18, g13⟩ := Gr.of (together_eq (fu := fu) G k sb sa sD sC (sp.inv p0) (inv_pos p0) (by decide) hF (decide_eq_true (lv5 pn hy)) S12)
  obtain ⟨S14, e19, g14⟩ := Gr.of (l_shifted_ok (fu := fu) G (k + 2) sC sD sw sy (by decide) hF S13)
  have sE : Sz (a + w + w) 90 := (sC.add sw).mono (by decide)
  have sG : Sz (b + y + y) 90 := (sD.add sy).mono (by decide)
  have sa9 : Sz a 90 := sa.mono (by decide)
  have sb9 : Sz b 90 := sb.mono (by decide)
  obtain ⟨S15, e20, g15⟩ := Gr.of (together_eq (fu := fu) G k sa9 sb9 sE sG sp p0 (by decide) hF (decide_eq_true (lv6 pn hy)) S14)
  have l7 : ¬ ((a - (a + w + w)) / (p * f) + (b - (b + y + y)) * (p * f) = 0) := by
    intro z
    have e : (a - (a + w + w)) / (p * f) + (b - (b + y + y)) * (p * f) = -2 * (w / (p * f) + y * (p * f)) := by grind
    rw [e] at z
    rcases Rat.mul_eq_zero.mp z with h | h
    · exact absurd h (by decide)
    · exact l3 h
  obtain ⟨S16, e21, g16⟩ := Gr.of (together_eq (fu := fu) G k sE sG sa9 sb9 spf pf0 (by decide) hF (decide_eq_false l7) S15)
  obtain ⟨S17, e22, g17⟩ := Gr.of (together_eq (fu := fu) G k sa9 sb9 sa9 sb9 spf pf0 (by decide) hF (r := true) (decide_eq_true (by rw [Rat.sub_self, Rat.sub_self, Rat.zero_mul, Rat.div_def, Rat.zero_mul]; decide +kernel)) S16)
  have gA := (((((((((g6.trans (Gr.app _ J7)).trans g8).trans g9).trans g10).trans g11).trans g12).trans g13).trans g14).trans g15).trans (g16.trans g17)
  have F := ((((((g1.trans g2).trans g3).fm n).trans (Fm.app n S3 [.lst [.tup [.int 2, .int 1], .tup [.int 9, .int 10], .tup [.int 1, .int 3], .tup [.int 101, .int 100]]])).trans F4).trans F5).gr gA
  refine ⟨S17, ?_, (P5.gr gA).mono (by omega), F⟩
  rw [evC_eq (G 68 _ rfl)]
  unfold tr_68
  generalize p * f = r at *
  generalize p / i = r' at *
  clear G T P hm ha hb hp hw p0 w0 hF pn ppn hy sy sw g1 sC sD sa sb sp g2 g3 P3 P4 F4 hz f0 sf ff fn i0 si P5 F5 inn spf pf0 l3 q1 q2 g6 hx ex si60 g8 g9 spi pi0 m64 g10 g11 g12 g13 g14 sE sG sa9 sb9 g15 l7 g16 g17 gA F
  walk_at "cw"
end
end Cw
namespace Cw
open PySem PySem.Spec PyProof.Rows L2
local macro_rules | `(tactic| walk_at "cw") => `(tactic| simp only [bnd_ok, bnd_exc, varR_some, kk2_eq, v_var, v_cst, v_tup, v_lst, v_bin, v_neg, v_not, andK_t, andK_f, orK_t, orK_f, v_and, v_or, v_cmp, chK_t, chK_f, chJ_eq, v_chain, iteK_t, iteK_f, v_ite, v_idx, slcK_eq, slcL_eq, slcJ_eq, v_slc, optK_int, o_none, o_some, v_rev, rev_tup, callK_eq, callJ_none, callJ_perm, callP_some, permL_nil, permL_cons, permC_some, v_call, v_b1, v_b2, isiK_eq, v_isi, v_m0, v_m1, compE_eq, comp_live, lenL_some, live_eq, liveK_some, liveJ_none, liveJ_some, liveH_some, liveH_none, fr_live, liveF_eq, liveFK_some, liveFJ_none, liveFJ_some, liveFH_nx, liveFH_ct, liveFH_bk, liveFH_rt, nil_get, comp_fix, comp_zip, comp_rng, turnC_eq, turnJ_some, turnK_t, turnK_f, yesK_eq, wipe_nil, wipe_cons, loopL_nil, loopL_cons, loopK_some, loopK_none, zipD_nil, zipD_nil2, zipD_cons, v_comp, es_nil, consJ_eq, consK_eq, es_cons, notJ_eq, andJ_t, andJ_f, orJ_t, orJ_f, b_not, b_and, b_or, b_cmp, b_chain, b_ite, b_var, b_cst, b_call, b_b1, b_isi, b_idx, b_bin, b_comp, ofBl_bl, tru_bl, tru_int, tru_tup, tru_non, c_none', c_some', srcK_tup, srcK_rol, w_var, w_cst, w_tup, w_lst, w_bin, w_idx, w_slc, w_call, w_comp, w_rng, rng2K_eq, w_rng2, zipK_tup, w_zip, w_enum, seqR_nx, seqR_rt, seqR_bk, seqR_ct, seqR_ex, ts_nil, ts_cons, rtE_ok, asgK_eq, t_asg, tgK_some, asgTK_eq, t_asgT, parJ_eq, parK_eq, t_par, par3H_eq, par3J_eq, par3K_eq, t_par3, setJ_eq, setK_eq, t_set, expK_eq, t_exp, retK_eq, t_ret, t_retN, ifK_t, ifK_f, t_if, t_whl, frB_eq, frJ_eq, fr_fix, fr_zip, fr_rng, forL_nil, forL_cons, forK_nx, forK_ct, forK_bk, forK_rt, t_fr, t_pas, t_brk, t_cnt, body_rt, body_nx, body_ex, op_addI, op_subI, op_mulI, op_fdivI, op_modI, op_powI, mkTup_small, alloc_small, idx_R, idxS_some, setH_R, setS_some, setX_some, len_R, lenS_some, len_rol, tup_R, tupS_some, all_R, allS_some, allK_some, src_R, srcS_some, m1J_R, m1S_some, app_R, appX_some, at_new, bls_nil, bls_cons, List.all_cons, List.all_nil, id_eq, Bool.and_true, Bool.and_self,  neg_I, not_B, cop_lt, cop_le, cop_gt, cop_ge, cop_eq, cop_ne, cop_isN, cop_notN, cop_isB, cop_notB, ofOpt_some, eqD_int, eqD_str, b1_lenT, b1_abs, b1_intI, b1_intB, b2_min, b2_max, isi_tup, isi_int, isi_bl, isi_str, idxK_some, idx_tup, idx_rol, atI_0, atI_1, atI_2, atI_3, atI_4, atI_5, atI_6, atI_7, atI_m1_1, atI_m1_2, atI_m2_2, atI_m1_3, atI_m2_3, atI_m3_3, atI_m1_4, atI_m2_4, atI_m3_4, atI_m1_5, atI_m2_5, atI_m3_5, atI_m1_6, atI_m2_6, atI_m3_6, tg_nm, tg_tp, tgs_nil, tgJ_some, tgs_cons, List.getElem?_cons_zero, List.getElem?_cons_succ, List.set_cons_zero, List.set_cons_succ, List.cons_append, List.nil_append, List.map_cons, List.map_nil, startD, List.length_cons, List.length_nil, List.replicate_succ, List.replicate_zero, Nat.reduceAdd, Nat.reduceSub, Int.reduceLE, Int.reduceLT, Int.reduceEq, Int.reduceNe, Nat.reduceLT, Nat.reduceEqDiff, Nat.reduceLeDiff, Int.reduceToNat, Int.reduceNeg, Int.reduceAdd, Int.reduceSub, Int.reduceMul, Int.reducePow, rng1_eq, rngD_0, rngD_s, op_powI, reduceCtorEq, decide_true, decide_false, eq_self, Int.cast_ofNat_Int, Nat.zero_add, Option.map_some, ne_eq, not_false_eq_true, Bool.not_true, Bool.not_false, isNonD, i_ev0, i_ev1, i_fr0, i_fr1, s_ev, g_fr, g_ev, r_ev, k_ev, k_one, k_zero, atI_0, *])
local macro_rules | `(tactic| walk_at "cw0") => `(tactic| simp only [bnd_ok, bnd_exc, varR_some, kk2_eq, v_var, v_cst, v_tup, v_lst, v_bin, v_neg, v_not, andK_t, andK_f, orK_t, orK_f, v_and, v_or, v_cmp, chK_t, chK_f, chJ_eq, v_chain, iteK_t, iteK_f, v_ite, v_idx, slcK_eq, slcL_eq, slcJ_eq, v_slc, optK_int, o_none, o_some, v_rev, rev_tup, callK_eq, callJ_none, callJ_perm, callP_some, permL_nil, permL_cons, permC_some, v_call, v_b1, v_b2, isiK_eq, v_isi, v_m0, v_m1, compE_eq, comp_live, lenL_some, live_eq, liveK_some, liveJ_none, liveJ_some, liveH_some, liveH_none, fr_live, liveF_eq, liveFK_some, liveFJ_none, liveFJ_some, liveFH_nx, liveFH_ct, liveFH_bk, liveFH_rt, nil_get, comp_fix, comp_zip, comp_rng, turnC_eq, turnJ_some, turnK_t, turnK_f, yesK_eq, wipe_nil, wipe_cons, loopL_nil, loopL_cons, loopK_some, loopK_none, zipD_nil, zipD_nil2, zipD_cons, v_comp, es_nil, consJ_eq, consK_eq, es_cons, notJ_eq, andJ_t, andJ_f, orJ_t, orJ_f, b_not, b_and, b_or, b_cmp, b_chain, b_ite, b_var, b_cst, b_call, b_b1, b_isi, b_idx, b_bin, b_comp, ofBl_bl, tru_bl, tru_int, tru_tup, tru_non, c_none', c_some', srcK_tup, srcK_rol, w_var, w_cst, w_tup, w_lst, w_bin, w_idx, w_slc, w_call, w_comp, w_rng, rng2K_eq, w_rng2, zipK_tup, w_zip, w_enum, seqR_nx, seqR_rt, seqR_bk, seqR_ct, seqR_ex, ts_nil, ts_cons, rtE_ok, asgK_eq, t_asg, tgK_some, asgTK_eq, t_asgT, parJ_eq, parK_eq, t_par, par3H_eq, par3J_eq, par3K_eq, t_par3, setJ_eq, setK_eq, t_set, expK_eq, t_exp, retK_eq, t_ret, t_retN, ifK_t, ifK_f, t_if, t_whl, frB_eq, frJ_eq, fr_fix, fr_zip, fr_rng, forL_nil, forL_cons, forK_nx, forK_ct, forK_bk, forK_rt, t_fr, t_pas, t_brk, t_cnt, body_rt, body_nx, body_ex, op_addI, op_subI, op_mulI, op_fdivI, op_modI, op_powI, mkTup_small, alloc_small, idx_R, idxS_some, setH_R, setS_some, setX_some, len_R, lenS_some, len_rol, tup_R, tupS_some, all_R, allS_some, allK_some, src_R, srcS_some, m1J_R, m1S_some, app_R, appX_some, at_new, bls_nil, bls_cons, List.all_cons, List.all_nil, id_eq, Bool.and_true, Bool.and_self,  neg_I, not_B, cop_lt, cop_le, cop_gt, cop_ge, cop_eq, cop_ne, cop_isN, cop_notN, cop_isB, cop_notB, ofOpt_some, eqD_int, eqD_str, b1_lenT, b1_abs, b1_intI, b1_intB, b2_min, b2_max, isi_tup, isi_int, isi_bl, isi_str, idxK_some, idx_tup, idx_rol, atI_0, atI_1, atI_2, atI_3, atI_4, atI_5, atI_6, atI_7, atI_m1_1, atI_m1_2, atI_m2_2, atI_m1_3, atI_m2_3, atI_m3_3, atI_m1_4, atI_m2_4, atI_m3_4, atI_m1_5, atI_m2_5, atI_m3_5, atI_m1_6, atI_m2_6, atI_m3_6, tg_nm, tg_tp, tgs_nil, tgJ_some, tgs_cons, List.getElem?_cons_zero, List.getElem?_cons_succ, List.set_cons_zero, List.set_cons_succ, List.cons_append, List.nil_append, List.map_cons, List.map_nil, startD, List.length_cons, List.length_nil, List.replicate_succ, List.replicate_zero, Nat.reduceAdd, Nat.reduceSub, Int.reduceLE, Int.reduceLT, Int.reduceEq, Int.reduceNe, Nat.reduceLT, Nat.reduceEqDiff, Nat.reduceLeDiff, Int.reduceToNat, Int.reduceNeg, Int.reduceAdd, Int.reduceSub, Int.reduceMul, Int.reducePow, rng1_eq, rngD_0, rngD_s, op_powI, reduceCtorEq, decide_true, decide_false, eq_self, Int.cast_ofNat_Int, Nat.zero_add, Option.map_some, ne_eq, not_false_eq_true, Bool.not_true, Bool.not_false, isNonD, i_ev0, i_ev1, i_fr0, i_fr1, s_ev, g_fr, g_ev, r_ev, k_ev, k_one, k_zero, atI_0])
/-! ### a loop by its invariant -/
theorem loopF_inv {src : Src} {body : D → Env → Store → Rt} {I : Nat → Env → Store → Prop} {N : Nat}
    (hI : ∀ i ρ S, i < N → I i ρ S → src.there S = true ∧ ∃ d, src.at S i = some d ∧ ∃ ρ' S', body d ρ S = some (.nx ρ', S') ∧ I (i + 1) ρ' S')
    (hE : ∀ ρ S, I N ρ S → src.there S = true ∧ src.at S N = none) : ∀ (m i : Nat) (ρ : Env) (S : Store), i + m = N → I i ρ S → ∃ ρ' S', loopF src body m i ρ S = some (.nx ρ', S') ∧ I N ρ' S'
  | 0, i, ρ, S, e, h => by
    obtain rfl : i = N := by omega
    obtain ⟨h1, h2⟩ := hE ρ S h
    exact ⟨ρ, S, by simp only [loopF, h1, h2, if_true], h⟩
  | m + 1, i, ρ, S, e, h => by
    obtain ⟨h1, d, h2, ρ', S', h3, h4⟩ := hI i ρ S (by omega) h
    obtain ⟨ρ'', S'', h5, h6⟩ := loopF_inv hI hE m (i + 1) ρ' S' (by omega) h4
    exact ⟨ρ'', S'', by simp only [loopF, h1, h2, h3, h5, if_true], h6⟩
theorem fr_inv {fu : Nat} {cl : CallT} {tg : Tg} {it : E} {b : Ts} {ρ : Env} {S S1 : Store} {src : Src} {I : Nat → Env → Store → Prop} {N : Nat} (hw : (ev3 cl it).w ρ S = .ok src S1) (hN : src.len S1 = N)
    (hI : ∀ i ρ S, i < N → I i ρ S → src.there S = true ∧ ∃ d, src.at S i = some d ∧ ∃ ρ' S', frB fu cl tg b d ρ S = some (.nx ρ', S') ∧ I (i + 1) ρ' S')
    (hE : ∀ ρ S, I N ρ S → src.there S = true ∧ src.at S N = none) (h0 : I 0 ρ S1) : ∃ ρ' S', evT fu cl (.fr tg it b) ρ S = some (.nx ρ', S') ∧ I N ρ' S' := by
  obtain ⟨ρ', S', h1, h2⟩ := loopF_inv hI hE N 0 ρ S1 (by omega) h0
  refine ⟨ρ', S', ?_, h2⟩
  rw [t_fr, hw]
  show loopF src (frB fu cl tg b) (src.len S1) 0 ρ S1 = _
  rw [hN, h1]
/-! ### rows -/
/-- ahead of -/
def Lt2 (p q : Rat × Rat) : Prop := ah p.1 p.2 q.1 q.2 = true
theorem lt2_of {a b c d : Rat} (h1 : a ≤ c) (h2 : b ≤ d) (h : ¬ (a = c ∧ b = d)) : ah a b c d = true := by
  unfold ah
  rw [decide_eq_false h, decide_eq_true (Rat.num_nonneg.mpr (show 0 ≤ c - a by grind)), decide_eq_true (Rat.num_nonneg.mpr (show 0 ≤ d - b by grind))]
  rfl
theorem ah_back {a b c d : Rat} (h : ah a b c d = true) : ah c d a b = false := by
  obtain ⟨h0, h1, h2⟩ := ah_true h
  cases h' : ah c d a b with
  | false => rfl
  | true =>
    obtain ⟨_, h3, h4⟩ := ah_true h'
    exact absurd ⟨by grind, by grind⟩ h0
theorem ah_late {a b c d p : Rat} (p0 : 0 < p) (h : ah a b c d = true) : ¬ ((c - a) / p + (d - b) * p = 0) := by
  obtain ⟨h0, h1, h2⟩ := ah_true h
  intro z
  have pn : p ≠ 0 := by intro z; subst z; exact absurd p0 (by decide)
  have i0 := inv_pos p0
  have z' : (c - a) * p⁻¹ + (d - b) * p = 0 := by rw [← z, Rat.div_def]
  have q1 := Rat.mul_nonneg h1 (Rat.le_of_lt i0)
  have q2 := Rat.mul_nonneg h2 (Rat.le_of_lt p0)
  have q3 : (c - a) * p⁻¹ = 0 := by grind
  have q4 : (d - b) * p = 0 := by grind
  rcases Rat.mul_eq_zero.mp q3 with h3 | h3
  · rcases Rat.mul_eq_zero.mp q4 with h4 | h4
    · exact h0 ⟨by grind, by grind⟩
    · exact pn h4
  · rw [h3] at i0; exact absurd i0 (by decide)
def outer67 : T := match tr_67 with
  | .cons _ (.cons _ (.cons t _)) => t
  | _ => .pas
def lap67 : Ts := match tr_67 with
  | .cons _ (.cons (.fr _ _ b) _) => b
  | _ => .nil
def body67 : Ts := match outer67 with
  | .fr _ _ b => b
  | _ => .nil
def inner67 : Ts := match body67 with
  | .cons (.fr _ _ b) _ => b
  | _ => .nil
theorem outer67_eq : outer67 = .fr (.tp [.nm 5, .nm 6]) (.enumV (.var 2)) body67 := rfl
theorem body67_eq : body67 = .cons (.fr (.nm 7) (.slc (.var 2) .none (.some (.var 5))) inner67) .nil := rfl
theorem tr67_eq : tr_67 = .cons (.asg 2 (.lst (.cons (.var 1) .nil))) (.cons (.fr (.nm 3) (.rngV (.cst (.int 3))) lap67) (.cons outer67 (.cons (.ret (.cst (.bl true))) .nil))) := rfl
section
variable {tab : Nat → Option Fd} {fu : Nat}
theorem rowpair (G : Sub tab) (T : TakeOk tab) (k : Nat) {n m j : Nat} {a b c d : Rat} {S : Store} (P : Pot n S m) (hm : m + 2 < 2 ^ 60) (ha : Sz a 50) (hb : Sz b 50) (hc : Sz c 50) (hd : Sz d 50) (hF : 2 ^ 9000 ≤ fu) (h : ah a b c d = true) (o1 o3 o4 o5 : Option D) :
    ∃ (S' : Store), evTs fu (evC fu tab (k + 6)) inner67 [some (.ref n), o1, some (.ref j), o3, o4, o5, some (evD c d), some (evD a b)] S = some (.nx [some (.ref n), o1, some (.ref j), o3, o4, o5, some (evD c d), some (evD a b)], S') ∧ Pot n S' (m + 1) ∧ Fm n S S' := by
  obtain ⟨x, J1, e1, hx⟩ := sequence_ok (fu := fu) G k ha hb hc hd (by decide) hF S
  obtain ⟨y, J2, e2, hy⟩ := sequence_ok (fu := fu) G k hc hd ha hb (by decide) hF (S ++ J1)
  have hb' := ah_back h
  obtain ⟨h0, _, _⟩ := ah_true h
  have ex : x = .tup [.str "ahead"] := by
    cases hx with
    | same h' => exact absurd h' h0
    | ahead => rfl
    | behind _ h' => rw [h] at h'; cases h'
    | either _ _ _ h' => rw [h] at h'; cases h'
  have ey : y = .tup [.str "behind"] := by
    cases hy with
    | same h' => exact absurd ⟨h'.1.symm, h'.2.symm⟩ h0
    | ahead _ h' => rw [hb'] at h'; cases h'
    | behind => rfl
    | either _ _ _ _ h' => rw [h] at h'; cases h'
  rw [ex] at e1
  rw [ey] at e2
  have q1 := fun S => eq_ahead (S := S)
  have q2 := fun S => eq_behind (S := S)
  have g : Gr S (S ++ J1 ++ J2) := (Gr.app _ _).trans (Gr.app _ _)
  obtain ⟨p, S3, e3, p0, ps, P3, F3⟩ := frac_pace_ok (fu := fu) G T (k + 3) (P.gr g) (by omega)
  obtain ⟨S4, e4, g4⟩ := Gr.of (together_eq (fu := fu) G k ha hb hc hd ps p0 (by decide) hF (decide_eq_false (ah_late p0 h)) S3)
  refine ⟨S4, ?_, P3.gr g4, ((g.fm n).trans F3).gr g4⟩
  unfold inner67 body67 outer67 tr_67
  clear G T P hm ha hb hc hd hF h hx hy hb' h0 ex ey g p0 ps P3 F3 g4
  dsimp only
  walk_at "cw"
def evs (L : List (Rat × Rat)) : List D := L.map fun p => evD p.1 p.2
/-- the events of a row, drawn -/
structure Row (L : List (Rat × Rat)) (z : Nat) : Prop where
  asc : L.Pairwise Lt2
  sz : ∀ p ∈ L, Sz p.1 z ∧ Sz p.2 z
theorem cut_evs (L : List (Rat × Rat)) {i : Nat} (h : i ≤ L.length) : cutL (evs L) none (some (i : Int)) = evs (L.take i) := by
  unfold cutL
  rw [HT.sIx_none, HT.sIx_nat, List.drop_zero, Nat.sub_zero]
  unfold evs
  rw [List.length_map, Nat.min_eq_left h, List.map_take]
theorem inner_ok (G : Sub tab) (T : TakeOk tab) (k : Nat) {n m j i : Nat} {c d : Rat} {L : List (Rat × Rat)} {S : Store} (P : Pot n S m) (hm : m + L.length + 2 < 2 ^ 60) (hj : S[j]? = some (.lst (evs L))) (hi : L[i]? = some (c, d)) (R : Row L 50) (hF : 2 ^ 9000 ≤ fu) (o1 o3 o4 o7 : Option D) :
    ∃ (o7' : Option D) (S' : Store), evTs fu (evC fu tab (k + 6)) body67 [some (.ref n), o1, some (.ref j), o3, o4, some (.int i), some (evD c d), o7] S = some (.nx [some (.ref n), o1, some (.ref j), o3, o4, some (.int i), some (evD c d), o7'], S') ∧ Pot n S' (m + L.length) ∧ Fm n S S' := by
  have hlt := (List.getElem?_eq_some_iff.mp hi).1
  have hne : S.length ≠ n := by have := P.lt; omega
  have hs : evSlc (.ref j) none (some (i : Int)) S = .ok (.ref S.length) (S ++ [.lst (evs (L.take i))]) := by
    rw [← cut_evs L (by omega)]
    simp only [evSlc, hj]
  have hw : (ev3 (evC fu tab (k + 6)) (.slc (.var 2) .none (.some (.var 5)))).w [some (.ref n), o1, some (.ref j), o3, o4, some (.int i), some (evD c d), o7] S = .ok (.live S.length) (S ++ [.lst (evs (L.take i))]) := by
    have hl : (S ++ [.lst (evs (L.take i))])[S.length]? = some (.lst (evs (L.take i))) := at_new _
    clear G T P hm hj hi R hF hlt hne
    walk_at "cw"
  obtain ⟨ρ', S', h1, h2⟩ := fr_inv (fu := fu) (tg := .nm 7) (b := inner67) (N := i)
    (I := fun t ρ S' => (∃ o7', ρ = [some (.ref n), o1, some (.ref j), o3, o4, some (.int i), some (evD c d), o7']) ∧ Pot n S' (m + t) ∧ Fm n (S ++ [.lst (evs (L.take i))]) S') hw
    (by simp only [Src.len, at_new, evs, List.length_map, List.length_take]; omega)
    (by
      rintro t ρ S' ht ⟨⟨o7', rfl⟩, P', F'⟩
      have hl := F'.get (at_new (.lst (evs (L.take i)))) hne
      obtain ⟨⟨a, b⟩, hab⟩ : ∃ p, L[t]? = some p := ⟨_, List.getElem?_eq_getElem (by omega)⟩
      refine ⟨by simp only [Src.there, hl]; rfl, evD a b, ?_, ?_⟩
      · simp only [Src.at, hl, evs, List.getElem?_map, List.getElem?_take, ht, if_true, hab]
        rfl
      · have sab := R.sz _ (List.mem_of_getElem? hab)
        have scd := R.sz _ (List.mem_of_getElem? hi)
        have hah : ah a b c d = true := by
          have := List.pairwise_iff_getElem.mp R.asc t i (by omega) hlt ht
          rw [(List.getElem?_eq_some_iff.mp hab).2, (List.getElem?_eq_some_iff.mp hi).2] at this
          exact this
        obtain ⟨S'', e, P'', F''⟩ := rowpair (fu := fu) (j := j) G T k P' (by omega) sab.1 sab.2 scd.1 scd.2 hF hah o1 o3 o4 (some (.int i))
        exact ⟨_, S'', e, ⟨_, rfl⟩, P'', F'.trans F''⟩)
    (by
      rintro ρ S' ⟨⟨o7', rfl⟩, P', F'⟩
      have hl := F'.get (at_new (.lst (evs (L.take i)))) hne
      refine ⟨by simp only [Src.there, hl]; rfl, ?_⟩
      simp only [Src.at, hl, evs, List.getElem?_map, List.getElem?_take, Nat.lt_irrefl, if_false]
      rfl)
    ⟨⟨o7, rfl⟩, P.app _, Fm.refl _ _⟩
  obtain ⟨⟨o7', rfl⟩, P', F'⟩ := h2
  refine ⟨o7', S', ?_, P'.mono (by omega), (Fm.app _ _ _).trans F'⟩
  rw [body67_eq]
  simp only [evTs, h1]
theorem outer_ok (G : Sub tab) (T : TakeOk tab) (k : Nat) {n m j : Nat} {L : List (Rat × Rat)} {S : Store} (P : Pot n S m) (hL : L.length ≤ 4) (hm : m + 30 < 2 ^ 60) (hj : S[j]? = some (.lst (evs L))) (hjn : j ≠ n) (R : Row L 50) (hF : 2 ^ 9000 ≤ fu) (o1 o3 o4 o5 o6 o7 : Option D) :
    ∃ (o5' o6' o7' : Option D) (S' : Store), evT fu (evC fu tab (k + 6)) outer67 [some (.ref n), o1, some (.ref j), o3, o4, o5, o6, o7] S = some (.nx [some (.ref n), o1, some (.ref j), o3, o4, o5', o6', o7'], S') ∧ Pot n S' (m + 16) ∧ Fm n S S' := by
  have hsq : ∀ {S' : Store}, S'[j]? = some (.lst (evs L)) → sq S' (.ref j) = some (evs L) := fun h => by simp only [sq, h]
  have hw : (ev3 (evC fu tab (k + 6)) (.enumV (.var 2))).w [some (.ref n), o1, some (.ref j), o3, o4, o5, o6, o7] S = .ok (.enum (.ref j)) S := by
    have e : evEnum (.ref j) S = .ok (.enum (.ref j)) S := by simp only [evEnum, hsq hj, isSeqL]; rfl
    clear G T P hm R hF hj hsq
    walk_at "cw"
  rw [outer67_eq]
  obtain ⟨ρ', S', h1, h2⟩ := fr_inv (fu := fu) (tg := .tp [.nm 5, .nm 6]) (b := body67) (N := L.length)
    (I := fun t ρ S' => (∃ o5' o6' o7', ρ = [some (.ref n), o1, some (.ref j), o3, o4, o5', o6', o7']) ∧ Pot n S' (m + t * L.length) ∧ Fm n S S') hw
    (by simp only [Src.len, hsq hj, evs, List.length_map])
    (by
      rintro t ρ S' ht ⟨⟨o5', o6', o7', rfl⟩, P', F'⟩
      have hj' := F'.get hj hjn
      obtain ⟨⟨c, d⟩, hcd⟩ : ∃ p, L[t]? = some p := ⟨_, List.getElem?_eq_getElem ht⟩
      refine ⟨by simp only [Src.there, hsq hj']; rfl, .tup [.int t, evD c d], ?_, ?_⟩
      · simp only [Src.at, hsq hj', evs, List.getElem?_map, hcd]
        rfl
      · have ht2 : t * L.length ≤ 4 * 4 := Nat.mul_le_mul (by omega) hL
        obtain ⟨o7'', S'', e, P'', F''⟩ := inner_ok (fu := fu) (j := j) G T k P' (by omega) hj' hcd R hF o1 o3 o4 o7'
        exact ⟨_, S'', e, ⟨_, _, _, rfl⟩, P''.mono (by rw [Nat.succ_mul]; omega), F'.trans F''⟩)
    (by
      rintro ρ S' ⟨⟨o5', o6', o7', rfl⟩, P', F'⟩
      have hj' := F'.get hj hjn
      refine ⟨by simp only [Src.there, hsq hj']; rfl, ?_⟩
      simp only [Src.at, hsq hj', evs, List.getElem?_map, List.getElem?_eq_none (Nat.le_refl _)]
      rfl)
    ⟨⟨o5, o6, o7, rfl⟩, P.mono (by omega), Fm.refl _ _⟩
  obtain ⟨⟨o5', o6', o7', rfl⟩, P', F'⟩ := h2
  have h16 : L.length * L.length ≤ 4 * 4 := Nat.mul_le_mul hL hL
  exact ⟨o5', o6', o7', S', h1, P'.mono (by omega), F'⟩
theorem evs_app (L : List (Rat × Rat)) (a b : Rat) : evs (L ++ [(a, b)]) = evs L ++ [evD a b] := by simp [evs]
theorem atI_last (xs : List D) (y : D) : L2.atI (xs ++ [y]) (-1) = some y := by
  have e : L2.ixN (xs.length + 1) (-1) = some xs.length := by
    unfold L2.ixN
    rw [if_neg (by omega), if_pos (by omega)]
    exact congrArg some (by omega)
  unfold L2.atI
  rw [List.length_append, List.length_singleton, e]
  simp
theorem nn_divInt {t b : Int} (h : 0 ≤ t) (hb : 0 < b) : 0 ≤ Rat.divInt t b := by
  rw [Rat.divInt_eq_div, Rat.div_def]
  exact Rat.mul_nonneg (Rat.intCast_nonneg.mpr h) (Rat.le_of_lt (Rat.inv_pos.mpr (Rat.intCast_pos.mpr hb)))
theorem lapturn (G : Sub tab) (T : TakeOk tab) (k : Nat) {n m j z : Nat} {L : List (Rat × Rat)} {a b : Rat} {S : Store} (P : Pot n S m) (hm : m + 4 < 2 ^ 60) (hj : S[j]? = some (.lst (evs (L ++ [(a, b)])))) (hjn : j ≠ n) (R : Row (L ++ [(a, b)]) z) (h3 : 3 ≤ z) (hz : z ≤ 40) (hl : L.length ≤ 900) (hF : 2 ^ 9000 ≤ fu) (o1 o3 o4 o5 o6 o7 : Option D) :
    ∃ (L' : List (Rat × Rat)) (a' b' : Rat) (o4' : Option D) (S' : Store), evTs fu (evC fu tab (k + 6)) lap67 [some (.ref n), o1, some (.ref j), o3, o4, o5, o6, o7] S = some (.nx [some (.ref n), o1, some (.ref j), o3, o4', o5, o6, o7], S') ∧
      S'[j]? = some (.lst (evs (L' ++ [(a', b')]))) ∧ Row (L' ++ [(a', b')]) (z + 4) ∧ L'.length ≤ L.length + 1 ∧ Pot n S' (m + 4) ∧ (∀ i x, i ≠ j → S[i]? = some x → i ≠ n → S'[i]? = some x) := by
  obtain ⟨d1, S1, e1, a0, a1, P1, F1⟩ := take_ok (fu := fu) T (k + 5) P (by omega) (u := 3) (by decide) (by decide)
  obtain ⟨d2, S2, e2, b0, b1, P2, F2⟩ := take_ok (fu := fu) T (k + 5) P1 (by omega) (u := 4) (by decide) (by decide)
  have e3 := l_frac_ok (S := S2) (fu := fu) G (k + 4) (t := d1) (b := 1 + d2) (n := 3) (by omega) (by omega) (by decide) hF
  obtain ⟨d3, S3, e4, c0, c1, P3, F3⟩ := take_ok (fu := fu) T (k + 5) P2 (by omega) (u := 3) (by decide) (by decide)
  obtain ⟨d4, S4, e5, g0, g1, P4, F4⟩ := take_ok (fu := fu) T (k + 5) P3 (by omega) (u := 4) (by decide) (by decide)
  have e6 := l_frac_ok (S := S4) (fu := fu) G (k + 4) (t := d3) (b := 1 + d4) (n := 3) (by omega) (by omega) (by decide) hF
  have sx : Sz (Rat.divInt d1 (1 + d2)) 3 := divInt_sz (by omega) (by omega) (by omega)
  have sy : Sz (Rat.divInt d3 (1 + d4)) 3 := divInt_sz (by omega) (by omega) (by omega)
  have nx : 0 ≤ Rat.divInt d1 (1 + d2) := nn_divInt a0 (by omega)
  have ny : 0 ≤ Rat.divInt d3 (1 + d4) := nn_divInt c0 (by omega)
  generalize Rat.divInt d1 (1 + d2) = x at *
  generalize Rat.divInt d3 (1 + d4) = y at *
  have F := ((F1.trans F2).trans F3).trans F4
  have hj4 := F.get hj hjn
  have q := eqD_ev (S := S4) x y 0 0
  have sab := R.sz (a, b) (by simp)
  have up : ∀ p ∈ L ++ [(a, b)], Sz p.1 (z + 4) ∧ Sz p.2 (z + 4) := fun p hp => ⟨(R.sz p hp).1.mono (by omega), (R.sz p hp).2.mono (by omega)⟩
  by_cases h0 : x = 0 ∧ y = 0
  · rw [decide_eq_true h0] at q
    refine ⟨L, a, b, some (evD x y), S4, ?_, hj4, ⟨R.asc, up⟩, by omega, P4, fun i v _ hv hn => F.get hv hn⟩
    unfold lap67 tr_67
    clear G T P hm hj hjn R h3 hz hl hF P1 P2 P3 P4 F1 F2 F3 F4 a0 a1 b0 b1 c0 c1 g0 g1 sx sy nx ny F hj4 sab up h0
    dsimp only
    walk_at "cw"
  · rw [decide_eq_false h0] at q
    obtain ⟨S5, e7, g5⟩ := Gr.of (l_shifted_ok (fu := fu) G (k + 2) sab.1 sab.2 (sx.mono h3) (sy.mono h3) (by omega) hF S4)
    have i1 : evIdx (.ref j) (.int (-1)) S4 = .ok (evD a b) S4 := by
      rw [evs_app] at hj4
      simp only [evIdx, sq, hj4, Option.bind_some, atI_last]
    have hj5 := g5.get hj4
    have hlt : j < S5.length := (List.getElem?_eq_some_iff.mp hj5).1
    refine ⟨L ++ [(a, b)], a + x, b + y, some (evD x y), S5.set j (.lst (evs (L ++ [(a, b)]) ++ [evD (a + x) (b + y)])), ?_, ?_, ⟨?_, ?_⟩, by simp, (P4.gr g5).other hjn _, fun i v hi hv hn => ?_⟩
    · have hle : (evs (L ++ [(a, b)])).length ≤ 1000 := by
        simp only [evs, List.length_map, List.length_append, List.length_singleton]
        omega
      generalize evs (L ++ [(a, b)]) = xs at *
      unfold lap67 tr_67
      clear G T P hm hj hjn R h3 hz hl hF P1 P2 P3 P4 F1 F2 F3 F4 a0 a1 b0 b1 c0 c1 g0 g1 sx sy nx ny F sab up h0 g5 hlt
      dsimp only
      walk_at "cw"
    · rw [List.getElem?_set_self hlt, evs_app (L ++ [(a, b)])]
    · rw [List.pairwise_append]
      refine ⟨R.asc, List.pairwise_singleton _ _, fun p hp q hq => ?_⟩
      obtain rfl : q = (a + x, b + y) := by simpa using hq
      have hle : p.1 ≤ a ∧ p.2 ≤ b := by
        rcases List.mem_append.mp hp with h | h
        · have := (List.pairwise_append.mp R.asc).2.2 p h (a, b) (by simp)
          obtain ⟨_, h1, h2⟩ := ah_true this
          exact ⟨by grind, by grind⟩
        · obtain rfl : p = (a, b) := by simpa using h
          exact ⟨Rat.le_refl, Rat.le_refl⟩
      exact lt2_of (by have := hle.1; grind) (by have := hle.2; grind) (fun h => h0 ⟨by have := hle.1; have := h.1; grind, by have := hle.2; have := h.2; grind⟩)
    · intro p hp
      rcases List.mem_append.mp hp with h | h
      · exact up p h
      · obtain rfl : p = (a + x, b + y) := by simpa using h
        exact ⟨sab.1.add sx, sab.2.add sy⟩
    · rw [List.getElem?_set_ne (Ne.symm hi)]
      exact g5.get (F.get hv hn)
theorem row_ok (G : Sub tab) (T : TakeOk tab) (k : Nat) {n m : Nat} {a b : Rat} {S : Store} (P : Pot n S m) (hm : m + 60 < 2 ^ 60) (ha : Sz a 14) (hb : Sz b 14) (hF : 2 ^ 9000 ≤ fu) :
    ∃ S', evC fu tab (k + 7) 67 [.ref n, evD a b] S = .ok (.bl true) S' ∧ Pot n S' (m + 28) ∧ Fm n S S' := by
  have hl := P.lt
  have hjn : S.length ≠ n := by omega
  have R0 : Row ([] ++ [(a, b)]) 14 := ⟨List.pairwise_singleton _ _, fun p hp => by
    obtain rfl : p = (a, b) := by simpa using hp
    exact ⟨ha, hb⟩⟩
  have j0 : (S ++ [.lst [evD a b]])[S.length]? = some (.lst (evs ([] ++ [(a, b)]))) := at_new _
  obtain ⟨L1, a1, b1, x1, S1, t1, j1, R1, l1, P1, F1⟩ := lapturn (fu := fu) G T k (P.app [.lst [evD a b]]) (by omega) j0 hjn R0 (by decide) (by decide) (by decide) hF (some (evD a b)) (some (.int 0)) none none none none
  have l1 : L1.length ≤ 1 := l1
  obtain ⟨L2, a2, b2, x2, S2, t2, j2, R2, l2, P2, F2⟩ := lapturn (fu := fu) G T k P1 (by omega) j1 hjn R1 (by decide) (by decide) (by omega) hF (some (evD a b)) (some (.int 1)) x1 none none none
  obtain ⟨L3, a3, b3, x3, S3, t3, j3, R3, l3, P3, F3⟩ := lapturn (fu := fu) G T k P2 (by omega) j2 hjn R2 (by decide) (by decide) (by omega) hF (some (evD a b)) (some (.int 2)) x2 none none none
  obtain ⟨y5, y6, y7, S4, t4, P4, F4⟩ := outer_ok (fu := fu) G T k P3 (by rw [List.length_append, List.length_singleton]; omega) (by omega) j3 hjn ⟨R3.asc, fun p hp => ⟨(R3.sz p hp).1.mono (by decide), (R3.sz p hp).2.mono (by decide)⟩⟩ hF (some (evD a b)) (some (.int 2)) x3 none none none
  refine ⟨S4, ?_, P4.mono (by omega), ?_⟩
  · rw [evC_eq (G 67 _ rfl), tr67_eq]
    clear G T P hm ha hb hF hl hjn R0 j0 j1 R1 l1 P1 F1 j2 R2 l2 P2 F2 j3 R3 l3 P3 F3 P4 F4
    walk_at "cw"
  · have get : ∀ i v, i < S.length → S[i]? = some v → i ≠ n → S4[i]? = some v := fun i v hi hv hn =>
      F4.get (F3 i v (by omega) (F2 i v (by omega) (F1 i v (by omega) (by rw [List.getElem?_append_left hi]; exact hv) hn) hn) hn) hn
    refine ⟨?_, fun i hi hn => ?_⟩
    · have := (List.getElem?_eq_some_iff.mp (F4.get j3 hjn)).1
      omega
    · have e : S[i]? = some S[i] := List.getElem?_eq_getElem hn
      rw [e]
      exact get i _ hn e hi
end
end Cw
namespace Cw
open PySem PySem.Spec PyProof.Rows L2
local macro_rules | `(tactic| walk_at "cw") => `(tactic| simp only [bnd_ok, bnd_exc, varR_some, kk2_eq, v_var, v_cst, v_tup, v_lst, v_bin, v_neg, v_not, andK_t, andK_f, orK_t, orK_f, v_and, v_or, v_cmp, chK_t, chK_f, chJ_eq, v_chain, iteK_t, iteK_f, v_ite, v_idx, slcK_eq, slcL_eq, slcJ_eq, v_slc, optK_int, o_none, o_some, v_rev, rev_tup, callK_eq, callJ_none, callJ_perm, callP_some, permL_nil, permL_cons, permC_some, v_call, v_b1, v_b2, isiK_eq, v_isi, v_m0, v_m1, compE_eq, comp_live, lenL_some, live_eq, liveK_some, liveJ_none, liveJ_some, liveH_some, liveH_none, fr_live, liveF_eq, liveFK_some, liveFJ_none, liveFJ_some, liveFH_nx, liveFH_ct, liveFH_bk, liveFH_rt, nil_get, comp_fix, comp_zip, comp_rng, turnC_eq, turnJ_some, turnK_t, turnK_f, yesK_eq, wipe_nil, wipe_cons, loopL_nil, loopL_cons, loopK_some, loopK_none, zipD_nil, zipD_nil2, zipD_cons, v_comp, es_nil, consJ_eq, consK_eq, es_cons, notJ_eq, andJ_t, andJ_f, orJ_t, orJ_f, b_not, b_and, b_or, b_cmp, b_chain, b_ite, b_var, b_cst, b_call, b_b1, b_isi, b_idx, b_bin, b_comp, ofBl_bl, tru_bl, tru_int, tru_tup, tru_non, c_none', c_some', srcK_tup, srcK_rol, w_var, w_cst, w_tup, w_lst, w_bin, w_idx, w_slc, w_call, w_comp, w_rng, rng2K_eq, w_rng2, zipK_tup, w_zip, w_enum, seqR_nx, seqR_rt, seqR_bk, seqR_ct, seqR_ex, ts_nil, ts_cons, rtE_ok, asgK_eq, t_asg, tgK_some, asgTK_eq, t_asgT, parJ_eq, parK_eq, t_par, par3H_eq, par3J_eq, par3K_eq, t_par3, setJ_eq, setK_eq, t_set, expK_eq, t_exp, retK_eq, t_ret, t_retN, ifK_t, ifK_f, t_if, t_whl, frB_eq, frJ_eq, fr_fix, fr_zip, fr_rng, forL_nil, forL_cons, forK_nx, forK_ct, forK_bk, forK_rt, t_fr, t_pas, t_brk, t_cnt, body_rt, body_nx, body_ex, op_addI, op_subI, op_mulI, op_fdivI, op_modI, op_powI, mkTup_small, alloc_small, idx_R, idxS_some, setH_R, setS_some, setX_some, len_R, lenS_some, len_rol, tup_R, tupS_some, all_R, allS_some, allK_some, src_R, srcS_some, m1J_R, m1S_some, app_R, appX_some, at_new, bls_nil, bls_cons, List.all_cons, List.all_nil, id_eq, Bool.and_true, Bool.and_self,  neg_I, not_B, cop_lt, cop_le, cop_gt, cop_ge, cop_eq, cop_ne, cop_isN, cop_notN, cop_isB, cop_notB, ofOpt_some, eqD_int, eqD_str, b1_lenT, b1_abs, b1_intI, b1_intB, b2_min, b2_max, isi_tup, isi_int, isi_bl, isi_str, idxK_some, idx_tup, idx_rol, atI_0, atI_1, atI_2, atI_3, atI_4, atI_5, atI_6, atI_7, atI_m1_1, atI_m1_2, atI_m2_2, atI_m1_3, atI_m2_3, atI_m3_3, atI_m1_4, atI_m2_4, atI_m3_4, atI_m1_5, atI_m2_5, atI_m3_5, atI_m1_6, atI_m2_6, atI_m3_6, tg_nm, tg_tp, tgs_nil, tgJ_some, tgs_cons, List.getElem?_cons_zero, List.getElem?_cons_succ, List.set_cons_zero, List.set_cons_succ, List.cons_append, List.nil_append, List.map_cons, List.map_nil, startD, List.length_cons, List.length_nil, List.replicate_succ, List.replicate_zero, Nat.reduceAdd, Nat.reduceSub, Int.reduceLE, Int.reduceLT, Int.reduceEq, Int.reduceNe, Nat.reduceLT, Nat.reduceEqDiff, Nat.reduceLeDiff, Int.reduceToNat, Int.reduceNeg, Int.reduceAdd, Int.reduceSub, Int.reduceMul, Int.reducePow, rng1_eq, rngD_0, rngD_s, op_powI, reduceCtorEq, decide_true, decide_false, eq_self, Int.cast_ofNat_Int, Nat.zero_add, Option.map_some, ne_eq, not_false_eq_true, Bool.not_true, Bool.not_false, isNonD, i_ev0, i_ev1, i_fr0, i_fr1, s_ev, g_fr, g_ev, r_ev, k_ev, k_one, k_zero, atI_0, *])
local macro_rules | `(tactic| walk_at "cw0") => `(tactic| simp only [bnd_ok, bnd_exc, varR_some, kk2_eq, v_var, v_cst, v_tup, v_lst, v_bin, v_neg, v_not, andK_t, andK_f, orK_t, orK_f, v_and, v_or, v_cmp, chK_t, chK_f, chJ_eq, v_chain, iteK_t, iteK_f, v_ite, v_idx, slcK_eq, slcL_eq, slcJ_eq, v_slc, optK_int, o_none, o_some, v_rev, rev_tup, callK_eq, callJ_none, callJ_perm, callP_some, permL_nil, permL_cons, permC_some, v_call, v_b1, v_b2, isiK_eq, v_isi, v_m0, v_m1, compE_eq, comp_live, lenL_some, live_eq, liveK_some, liveJ_none, liveJ_some, liveH_some, liveH_none, fr_live, liveF_eq, liveFK_some, liveFJ_none, liveFJ_some, liveFH_nx, liveFH_ct, liveFH_bk, liveFH_rt, nil_get, comp_fix, comp_zip, comp_rng, turnC_eq, turnJ_some, turnK_t, turnK_f, yesK_eq, wipe_nil, wipe_cons, loopL_nil, loopL_cons, loopK_some, loopK_none, zipD_nil, zipD_nil2, zipD_cons, v_comp, es_nil, consJ_eq, consK_eq, es_cons, notJ_eq, andJ_t, andJ_f, orJ_t, orJ_f, b_not, b_and, b_or, b_cmp, b_chain, b_ite, b_var, b_cst, b_call, b_b1, b_isi, b_idx, b_bin, b_comp, ofBl_bl, tru_bl, tru_int, tru_tup, tru_non, c_none', c_some', srcK_tup, srcK_rol, w_var, w_cst, w_tup, w_lst, w_bin, w_idx, w_slc, w_call, w_comp, w_rng, rng2K_eq, w_rng2, zipK_tup, w_zip, w_enum, seqR_nx, seqR_rt, seqR_bk, seqR_ct, seqR_ex, ts_nil, ts_cons, rtE_ok, asgK_eq, t_asg, tgK_some, asgTK_eq, t_asgT, parJ_eq, parK_eq, t_par, par3H_eq, par3J_eq, par3K_eq, t_par3, setJ_eq, setK_eq, t_set, expK_eq, t_exp, retK_eq, t_ret, t_retN, ifK_t, ifK_f, t_if, t_whl, frB_eq, frJ_eq, fr_fix, fr_zip, fr_rng, forL_nil, forL_cons, forK_nx, forK_ct, forK_bk, forK_rt, t_fr, t_pas, t_brk, t_cnt, body_rt, body_nx, body_ex, op_addI, op_subI, op_mulI, op_fdivI, op_modI, op_powI, mkTup_small, alloc_small, idx_R, idxS_some, setH_R, setS_some, setX_some, len_R, lenS_some, len_rol, tup_R, tupS_some, all_R, allS_some, allK_some, src_R, srcS_some, m1J_R, m1S_some, app_R, appX_some, at_new, bls_nil, bls_cons, List.all_cons, List.all_nil, id_eq, Bool.and_true, Bool.and_self,  neg_I, not_B, cop_lt, cop_le, cop_gt, cop_ge, cop_eq, cop_ne, cop_isN, cop_notN, cop_isB, cop_notB, ofOpt_some, eqD_int, eqD_str, b1_lenT, b1_abs, b1_intI, b1_intB, b2_min, b2_max, isi_tup, isi_int, isi_bl, isi_str, idxK_some, idx_tup, idx_rol, atI_0, atI_1, atI_2, atI_3, atI_4, atI_5, atI_6, atI_7, atI_m1_1, atI_m1_2, atI_m2_2, atI_m1_3, atI_m2_3, atI_m3_3, atI_m1_4, atI_m2_4, atI_m3_4, atI_m1_5, atI_m2_5, atI_m3_5, atI_m1_6, atI_m2_6, atI_m3_6, tg_nm, tg_tp, tgs_nil, tgJ_some, tgs_cons, List.getElem?_cons_zero, List.getElem?_cons_succ, List.set_cons_zero, List.set_cons_succ, List.cons_append, List.nil_append, List.map_cons, List.map_nil, startD, List.length_cons, List.length_nil, List.replicate_succ, List.replicate_zero, Nat.reduceAdd, Nat.reduceSub, Int.reduceLE, Int.reduceLT, Int.reduceEq, Int.reduceNe, Nat.reduceLT, Nat.reduceEqDiff, Nat.reduceLeDiff, Int.reduceToNat, Int.reduceNeg, Int.reduceAdd, Int.reduceSub, Int.reduceMul, Int.reducePow, rng1_eq, rngD_0, rngD_s, op_powI, reduceCtorEq, decide_true, decide_false, eq_self, Int.cast_ofNat_Int, Nat.zero_add, Option.map_some, ne_eq, not_false_eq_true, Bool.not_true, Bool.not_false, isNonD, i_ev0, i_ev1, i_fr0, i_fr1, s_ev, g_fr, g_ev, r_ev, k_ev, k_one, k_zero, atI_0])
/-! ### within a pace: the program's side -/
section
variable {tab : Nat → Option Fd} {fu : Nat}
theorem is_below_ok (G : Sub tab) (k : Nat) {p q : Rat} {n m : Nat} (hp : Sz p n) (hq : Sz q m) (hn : n + m < 9000) (S : Store) : evC fu tab (k + 1) 84 [frD p, frD q] S = .ok (.bl (decide (p < q))) S := by
  have dp : (p.den : Int).natAbs < 2 ^ n := by simpa using hp.den
  have dq : (q.den : Int).natAbs < 2 ^ m := by simpa using hq.den
  have o1 : okMul p.num (q.den : Int) = true := okMul_of hp.num dq (by omega)
  have o2 : okMul q.num (p.den : Int) = true := okMul_of hq.num dp (by omega)
  have e : decide (p.num * (q.den : Int) < q.num * (p.den : Int)) = decide (p < q) := by
    rw [Bool.eq_iff_iff, decide_eq_true_iff, decide_eq_true_iff]
    exact (Rat.lt_iff p q).symm
  rw [evC_eq (G 84 _ rfl)]
  unfold tr_84
  clear G hp hq hn dp dq
  walk_at "cw"
theorem num_ge_den {q : Rat} (h : 1 ≤ q) : ¬ q.num < (q.den : Int) := by
  have := (Rat.le_iff 1 q).mp h
  have e1 : (1 : Rat).num = 1 := rfl
  have e2 : (1 : Rat).den = 1 := rfl
  rw [e1, e2] at this
  omega
theorem check_most_ok (G : Sub tab) (k : Nat) {q : Rat} {n : Nat} (hq : Sz q n) (h1 : 1 ≤ q) (hn : n < 9000) (hF : 2 ^ 9000 ≤ fu) (S : Store) : evC fu tab (k + 3) 85 [frD q] S = .ok .non (S ++ [.lst [.bl true, .bl true]]) := by
  have e1 := is_ratio_ok (S := S) (fu := fu) G k hq hn hF
  have d1 := decide_eq_false (num_ge_den h1)
  rw [evC_eq (G 85 _ rfl)]
  unfold tr_85
  clear G hq h1 hn hF
  walk_at "cw"
theorem check_ends_ok (G : Sub tab) (k : Nat) {a b c d m : Rat} {n : Nat} (ha : Sz a n) (hb : Sz b n) (hc : Sz c n) (hd : Sz d n) (hm : Sz m n) (h1 : 1 ≤ m) (hn : n < 9000) (hF : 2 ^ 9000 ≤ fu) (S : Store) : ∃ J, evC fu tab (k + 5) 82 [evD a b, evD c d, frD m] S = .ok .non (S ++ J) := by
  obtain ⟨J1, e1⟩ := check_event_ok (fu := fu) G k ha hb hn hF S
  obtain ⟨J2, e2⟩ := check_event_ok (fu := fu) G k hc hd hn hF (S ++ J1)
  have e3 := fun S => check_most_ok (fu := fu) G (k + 1) hm h1 hn hF S
  refine ⟨J1 ++ J2 ++ [.lst [.bl true, .bl true]], ?_⟩
  rw [evC_eq (G 82 _ rfl)]
  unfold tr_82
  clear G ha hb hc hd hm h1 hn hF
  walk_at "cw"
  simp
end
end Cw
namespace Cw
open PySem PySem.Spec PyProof.Rows L2
local macro_rules | `(tactic| walk_at "cw") => `(tactic| simp only [bnd_ok, bnd_exc, varR_some, kk2_eq, v_var, v_cst, v_tup, v_lst, v_bin, v_neg, v_not, andK_t, andK_f, orK_t, orK_f, v_and, v_or, v_cmp, chK_t, chK_f, chJ_eq, v_chain, iteK_t, iteK_f, v_ite, v_idx, slcK_eq, slcL_eq, slcJ_eq, v_slc, optK_int, o_none, o_some, v_rev, rev_tup, callK_eq, callJ_none, callJ_perm, callP_some, permL_nil, permL_cons, permC_some, v_call, v_b1, v_b2, isiK_eq, v_isi, v_m0, v_m1, compE_eq, comp_live, lenL_some, live_eq, liveK_some, liveJ_none, liveJ_some, liveH_some, liveH_none, fr_live, liveF_eq, liveFK_some, liveFJ_none, liveFJ_some, liveFH_nx, liveFH_ct, liveFH_bk, liveFH_rt, nil_get, comp_fix, comp_zip, comp_rng, turnC_eq, turnJ_some, turnK_t, turnK_f, yesK_eq, wipe_nil, wipe_cons, loopL_nil, loopL_cons, loopK_some, loopK_none, zipD_nil, zipD_nil2, zipD_cons, v_comp, es_nil, consJ_eq, consK_eq, es_cons, notJ_eq, andJ_t, andJ_f, orJ_t, orJ_f, b_not, b_and, b_or, b_cmp, b_chain, b_ite, b_var, b_cst, b_call, b_b1, b_isi, b_idx, b_bin, b_comp, ofBl_bl, tru_bl, tru_int, tru_tup, tru_non, c_none', c_some', srcK_tup, srcK_rol, w_var, w_cst, w_tup, w_lst, w_bin, w_idx, w_slc, w_call, w_comp, w_rng, rng2K_eq, w_rng2, zipK_tup, w_zip, w_enum, seqR_nx, seqR_rt, seqR_bk, seqR_ct, seqR_ex, ts_nil, ts_cons, rtE_ok, asgK_eq, t_asg, tgK_some, asgTK_eq, t_asgT, parJ_eq, parK_eq, t_par, par3H_eq, par3J_eq, par3K_eq, t_par3, setJ_eq, setK_eq, t_set, expK_eq, t_exp, retK_eq, t_ret, t_retN, ifK_t, ifK_f, t_if, t_whl, frB_eq, frJ_eq, fr_fix, fr_zip, fr_rng, forL_nil, forL_cons, forK_nx, forK_ct, forK_bk, forK_rt, t_fr, t_pas, t_brk, t_cnt, body_rt, body_nx, body_ex, op_addI, op_subI, op_mulI, op_fdivI, op_modI, op_powI, mkTup_small, alloc_small, idx_R, idxS_some, setH_R, setS_some, setX_some, len_R, lenS_some, len_rol, tup_R, tupS_some, all_R, allS_some, allK_some, src_R, srcS_some, m1J_R, m1S_some, app_R, appX_some, at_new, bls_nil, bls_cons, List.all_cons, List.all_nil, id_eq, Bool.and_true, Bool.and_self,  neg_I, not_B, cop_lt, cop_le, cop_gt, cop_ge, cop_eq, cop_ne, cop_isN, cop_notN, cop_isB, cop_notB, ofOpt_some, eqD_int, eqD_str, b1_lenT, b1_abs, b1_intI, b1_intB, b2_min, b2_max, isi_tup, isi_int, isi_bl, isi_str, idxK_some, idx_tup, idx_rol, atI_0, atI_1, atI_2, atI_3, atI_4, atI_5, atI_6, atI_7, atI_m1_1, atI_m1_2, atI_m2_2, atI_m1_3, atI_m2_3, atI_m3_3, atI_m1_4, atI_m2_4, atI_m3_4, atI_m1_5, atI_m2_5, atI_m3_5, atI_m1_6, atI_m2_6, atI_m3_6, tg_nm, tg_tp, tgs_nil, tgJ_some, tgs_cons, List.getElem?_cons_zero, List.getElem?_cons_succ, List.set_cons_zero, List.set_cons_succ, List.cons_append, List.nil_append, List.map_cons, List.map_nil, startD, List.length_cons, List.length_nil, List.replicate_succ, List.replicate_zero, Nat.reduceAdd, Nat.reduceSub, Int.reduceLE, Int.reduceLT, Int.reduceEq, Int.reduceNe, Nat.reduceLT, Nat.reduceEqDiff, Nat.reduceLeDiff, Int.reduceToNat, Int.reduceNeg, Int.reduceAdd, Int.reduceSub, Int.reduceMul, Int.reducePow, rng1_eq, rngD_0, rngD_s, op_powI, reduceCtorEq, decide_true, decide_false, eq_self, Int.cast_ofNat_Int, Nat.zero_add, Option.map_some, ne_eq, not_false_eq_true, Bool.not_true, Bool.not_false, isNonD, i_ev0, i_ev1, i_fr0, i_fr1, s_ev, g_fr, g_ev, r_ev, k_ev, k_one, k_zero, atI_0, *])
local macro_rules | `(tactic| walk_at "cw0") => `(tactic| simp only [bnd_ok, bnd_exc, varR_some, kk2_eq, v_var, v_cst, v_tup, v_lst, v_bin, v_neg, v_not, andK_t, andK_f, orK_t, orK_f, v_and, v_or, v_cmp, chK_t, chK_f, chJ_eq, v_chain, iteK_t, iteK_f, v_ite, v_idx, slcK_eq, slcL_eq, slcJ_eq, v_slc, optK_int, o_none, o_some, v_rev, rev_tup, callK_eq, callJ_none, callJ_perm, callP_some, permL_nil, permL_cons, permC_some, v_call, v_b1, v_b2, isiK_eq, v_isi, v_m0, v_m1, compE_eq, comp_live, lenL_some, live_eq, liveK_some, liveJ_none, liveJ_some, liveH_some, liveH_none, fr_live, liveF_eq, liveFK_some, liveFJ_none, liveFJ_some, liveFH_nx, liveFH_ct, liveFH_bk, liveFH_rt, nil_get, comp_fix, comp_zip, comp_rng, turnC_eq, turnJ_some, turnK_t, turnK_f, yesK_eq, wipe_nil, wipe_cons, loopL_nil, loopL_cons, loopK_some, loopK_none, zipD_nil, zipD_nil2, zipD_cons, v_comp, es_nil, consJ_eq, consK_eq, es_cons, notJ_eq, andJ_t, andJ_f, orJ_t, orJ_f, b_not, b_and, b_or, b_cmp, b_chain, b_ite, b_var, b_cst, b_call, b_b1, b_isi, b_idx, b_bin, b_comp, ofBl_bl, tru_bl, tru_int, tru_tup, tru_non, c_none', c_some', srcK_tup, srcK_rol, w_var, w_cst, w_tup, w_lst, w_bin, w_idx, w_slc, w_call, w_comp, w_rng, rng2K_eq, w_rng2, zipK_tup, w_zip, w_enum, seqR_nx, seqR_rt, seqR_bk, seqR_ct, seqR_ex, ts_nil, ts_cons, rtE_ok, asgK_eq, t_asg, tgK_some, asgTK_eq, t_asgT, parJ_eq, parK_eq, t_par, par3H_eq, par3J_eq, par3K_eq, t_par3, setJ_eq, setK_eq, t_set, expK_eq, t_exp, retK_eq, t_ret, t_retN, ifK_t, ifK_f, t_if, t_whl, frB_eq, frJ_eq, fr_fix, fr_zip, fr_rng, forL_nil, forL_cons, forK_nx, forK_ct, forK_bk, forK_rt, t_fr, t_pas, t_brk, t_cnt, body_rt, body_nx, body_ex, op_addI, op_subI, op_mulI, op_fdivI, op_modI, op_powI, mkTup_small, alloc_small, idx_R, idxS_some, setH_R, setS_some, setX_some, len_R, lenS_some, len_rol, tup_R, tupS_some, all_R, allS_some, allK_some, src_R, srcS_some, m1J_R, m1S_some, app_R, appX_some, at_new, bls_nil, bls_cons, List.all_cons, List.all_nil, id_eq, Bool.and_true, Bool.and_self,  neg_I, not_B, cop_lt, cop_le, cop_gt, cop_ge, cop_eq, cop_ne, cop_isN, cop_notN, cop_isB, cop_notB, ofOpt_some, eqD_int, eqD_str, b1_lenT, b1_abs, b1_intI, b1_intB, b2_min, b2_max, isi_tup, isi_int, isi_bl, isi_str, idxK_some, idx_tup, idx_rol, atI_0, atI_1, atI_2, atI_3, atI_4, atI_5, atI_6, atI_7, atI_m1_1, atI_m1_2, atI_m2_2, atI_m1_3, atI_m2_3, atI_m3_3, atI_m1_4, atI_m2_4, atI_m3_4, atI_m1_5, atI_m2_5, atI_m3_5, atI_m1_6, atI_m2_6, atI_m3_6, tg_nm, tg_tp, tgs_nil, tgJ_some, tgs_cons, List.getElem?_cons_zero, List.getElem?_cons_succ, List.set_cons_zero, List.set_cons_succ, List.cons_append, List.nil_append, List.map_cons, List.map_nil, startD, List.length_cons, List.length_nil, List.replicate_succ, List.replicate_zero, Nat.reduceAdd, Nat.reduceSub, Int.reduceLE, Int.reduceLT, Int.reduceEq, Int.reduceNe, Nat.reduceLT, Nat.reduceEqDiff, Nat.reduceLeDiff, Int.reduceToNat, Int.reduceNeg, Int.reduceAdd, Int.reduceSub, Int.reduceMul, Int.reducePow, rng1_eq, rngD_0, rngD_s, op_powI, reduceCtorEq, decide_true, decide_false, eq_self, Int.cast_ofNat_Int, Nat.zero_add, Option.map_some, ne_eq, not_false_eq_true, Bool.not_true, Bool.not_false, isNonD, i_ev0, i_ev1, i_fr0, i_fr1, s_ev, g_fr, g_ev, r_ev, k_ev, k_one, k_zero, atI_0])
/-! ### the quickest pieces -/
/-- pieces that last -/
def lastP (L : List (Rat × Rat)) : List (Rat × Rat) := L.filter fun p => !decide (p.2 = 0)
/-- the quickest way's pieces -/
def quick (u v m : Rat) : List (Rat × Rat) := lastP (if m = 1 then [(1, u)] else [(m, m * (m * m * u - v) / (m * m * (m * m) - 1)), (m⁻¹, m * (m * m * v - u) / (m * m * (m * m) - 1))])
section
variable {tab : Nat → Option Fd} {fu : Nat}
theorem without1_ok (G : Sub tab) (k : Nat) {p t : Rat} {j : Nat} {S : Store} (hj : S[j]? = some (.lst [evD p t])) : ∃ J, evC fu tab (k + 1) 86 [.ref j] S = .ok (.tup (evs (lastP [(p, t)]))) (S ++ J) := by
  have q := fun S => eqD_fr (S := S) t 0
  by_cases h : t = 0
  · rw [decide_eq_true h] at q
    have e : evs (lastP [(p, t)]) = [] := by simp [lastP, evs, h]
    rw [e]
    rw [evC_eq (G 86 _ rfl)]
    unfold tr_86
    clear G h e
    exact ⟨_, by walk_at "cw"; rfl⟩
  · rw [decide_eq_false h] at q
    have e : evs (lastP [(p, t)]) = [evD p t] := by simp [lastP, evs, h]
    rw [e]
    rw [evC_eq (G 86 _ rfl)]
    unfold tr_86
    clear G h e
    exact ⟨_, by walk_at "cw"; rfl⟩
theorem without2_ok (G : Sub tab) (k : Nat) {p t p' t' : Rat} {j : Nat} {S : Store} (hj : S[j]? = some (.lst [evD p t, evD p' t'])) : ∃ J, evC fu tab (k + 1) 86 [.ref j] S = .ok (.tup (evs (lastP [(p, t), (p', t')]))) (S ++ J) := by
  have q := fun S => eqD_fr (S := S) t 0
  have q' := fun S => eqD_fr (S := S) t' 0
  by_cases h : t = 0
  · rw [decide_eq_true h] at q
    by_cases h' : t' = 0
    · rw [decide_eq_true h'] at q'
      have e : evs (lastP [(p, t), (p', t')]) = [] := by simp [lastP, evs, h, h']
      rw [e]
      rw [evC_eq (G 86 _ rfl)]
      unfold tr_86
      clear G h h' e
      exact ⟨_, by walk_at "cw"; rfl⟩
    · rw [decide_eq_false h'] at q'
      have e : evs (lastP [(p, t), (p', t')]) = [evD p' t'] := by simp [lastP, evs, h, h']
      rw [e]
      rw [evC_eq (G 86 _ rfl)]
      unfold tr_86
      clear G h h' e
      exact ⟨_, by walk_at "cw"; rfl⟩
  · rw [decide_eq_false h] at q
    by_cases h' : t' = 0
    · rw [decide_eq_true h'] at q'
      have e : evs (lastP [(p, t), (p', t')]) = [evD p t] := by simp [lastP, evs, h, h']
      rw [e]
      rw [evC_eq (G 86 _ rfl)]
      unfold tr_86
      clear G h h' e
      exact ⟨_, by walk_at "cw"; rfl⟩
    · rw [decide_eq_false h'] at q'
      have e : evs (lastP [(p, t), (p', t')]) = [evD p t, evD p' t'] := by simp [lastP, evs, h, h']
      rw [e]
      rw [evC_eq (G 86 _ rfl)]
      unfold tr_86
      clear G h h' e
      exact ⟨_, by walk_at "cw"; rfl⟩
theorem contrary_ok (G : Sub tab) (k : Nat) {m : Rat} {n : Nat} (hm : Sz m n) (m0 : m ≠ 0) (hn : 1 + n < 9000) (hF : 2 ^ 9000 ≤ fu) (S : Store) : evC fu tab (k + 4) 87 [frD m] S = .ok (frD m⁻¹) S := by
  have e1 := over_ok (S := S) (fu := fu) G k (p := 1) (n := 1) ⟨by decide, by decide⟩ hm m0 hn hF
  rw [show (1 : Rat) / m = m⁻¹ by rw [Rat.div_def, Rat.one_mul]] at e1
  rw [evC_eq (G 87 _ rfl)]
  unfold tr_87
  clear G hm m0 hn hF
  walk_at "cw"
end
end Cw
namespace Cw
open PySem PySem.Spec PyProof.Rows L2
local macro_rules | `(tactic| walk_at "cw") => `(tactic| simp only [bnd_ok, bnd_exc, varR_some, kk2_eq, v_var, v_cst, v_tup, v_lst, v_bin, v_neg, v_not, andK_t, andK_f, orK_t, orK_f, v_and, v_or, v_cmp, chK_t, chK_f, chJ_eq, v_chain, iteK_t, iteK_f, v_ite, v_idx, slcK_eq, slcL_eq, slcJ_eq, v_slc, optK_int, o_none, o_some, v_rev, rev_tup, callK_eq, callJ_none, callJ_perm, callP_some, permL_nil, permL_cons, permC_some, v_call, v_b1, v_b2, isiK_eq, v_isi, v_m0, v_m1, compE_eq, comp_live, lenL_some, live_eq, liveK_some, liveJ_none, liveJ_some, liveH_some, liveH_none, fr_live, liveF_eq, liveFK_some, liveFJ_none, liveFJ_some, liveFH_nx, liveFH_ct, liveFH_bk, liveFH_rt, nil_get, comp_fix, comp_zip, comp_rng, turnC_eq, turnJ_some, turnK_t, turnK_f, yesK_eq, wipe_nil, wipe_cons, loopL_nil, loopL_cons, loopK_some, loopK_none, zipD_nil, zipD_nil2, zipD_cons, v_comp, es_nil, consJ_eq, consK_eq, es_cons, notJ_eq, andJ_t, andJ_f, orJ_t, orJ_f, b_not, b_and, b_or, b_cmp, b_chain, b_ite, b_var, b_cst, b_call, b_b1, b_isi, b_idx, b_bin, b_comp, ofBl_bl, tru_bl, tru_int, tru_tup, tru_non, c_none', c_some', srcK_tup, srcK_rol, w_var, w_cst, w_tup, w_lst, w_bin, w_idx, w_slc, w_call, w_comp, w_rng, rng2K_eq, w_rng2, zipK_tup, w_zip, w_enum, seqR_nx, seqR_rt, seqR_bk, seqR_ct, seqR_ex, ts_nil, ts_cons, rtE_ok, asgK_eq, t_asg, tgK_some, asgTK_eq, t_asgT, parJ_eq, parK_eq, t_par, par3H_eq, par3J_eq, par3K_eq, t_par3, setJ_eq, setK_eq, t_set, expK_eq, t_exp, retK_eq, t_ret, t_retN, ifK_t, ifK_f, t_if, t_whl, frB_eq, frJ_eq, fr_fix, fr_zip, fr_rng, forL_nil, forL_cons, forK_nx, forK_ct, forK_bk, forK_rt, t_fr, t_pas, t_brk, t_cnt, body_rt, body_nx, body_ex, op_addI, op_subI, op_mulI, op_fdivI, op_modI, op_powI, mkTup_small, alloc_small, idx_R, idxS_some, setH_R, setS_some, setX_some, len_R, lenS_some, len_rol, tup_R, tupS_some, all_R, allS_some, allK_some, src_R, srcS_some, m1J_R, m1S_some, app_R, appX_some, at_new, bls_nil, bls_cons, List.all_cons, List.all_nil, id_eq, Bool.and_true, Bool.and_self,  neg_I, not_B, cop_lt, cop_le, cop_gt, cop_ge, cop_eq, cop_ne, cop_isN, cop_notN, cop_isB, cop_notB, ofOpt_some, eqD_int, eqD_str, b1_lenT, b1_abs, b1_intI, b1_intB, b2_min, b2_max, isi_tup, isi_int, isi_bl, isi_str, idxK_some, idx_tup, idx_rol, atI_0, atI_1, atI_2, atI_3, atI_4, atI_5, atI_6, atI_7, atI_m1_1, atI_m1_2, atI_m2_2, atI_m1_3, atI_m2_3, atI_m3_3, atI_m1_4, atI_m2_4, atI_m3_4, atI_m1_5, atI_m2_5, atI_m3_5, atI_m1_6, atI_m2_6, atI_m3_6, tg_nm, tg_tp, tgs_nil, tgJ_some, tgs_cons, List.getElem?_cons_zero, List.getElem?_cons_succ, List.set_cons_zero, List.set_cons_succ, List.cons_append, List.nil_append, List.map_cons, List.map_nil, startD, List.length_cons, List.length_nil, List.replicate_succ, List.replicate_zero, Nat.reduceAdd, Nat.reduceSub, Int.reduceLE, Int.reduceLT, Int.reduceEq, Int.reduceNe, Nat.reduceLT, Nat.reduceEqDiff, Nat.reduceLeDiff, Int.reduceToNat, Int.reduceNeg, Int.reduceAdd, Int.reduceSub, Int.reduceMul, Int.reducePow, rng1_eq, rngD_0, rngD_s, op_powI, reduceCtorEq, decide_true, decide_false, eq_self, Int.cast_ofNat_Int, Nat.zero_add, Option.map_some, ne_eq, not_false_eq_true, Bool.not_true, Bool.not_false, isNonD, i_ev0, i_ev1, i_fr0, i_fr1, s_ev, g_fr, g_ev, r_ev, k_ev, k_one, k_zero, atI_0, *])
local macro_rules | `(tactic| walk_at "cw0") => `(tactic| simp only [bnd_ok, bnd_exc, varR_some, kk2_eq, v_var, v_cst, v_tup, v_lst, v_bin, v_neg, v_not, andK_t, andK_f, orK_t, orK_f, v_and, v_or, v_cmp, chK_t, chK_f, chJ_eq, v_chain, iteK_t, iteK_f, v_ite, v_idx, slcK_eq, slcL_eq, slcJ_eq, v_slc, optK_int, o_none, o_some, v_rev, rev_tup, callK_eq, callJ_none, callJ_perm, callP_some, permL_nil, permL_cons, permC_some, v_call, v_b1, v_b2, isiK_eq, v_isi, v_m0, v_m1, compE_eq, comp_live, lenL_some, live_eq, liveK_some, liveJ_none, liveJ_some, liveH_some, liveH_none, fr_live, liveF_eq, liveFK_some, liveFJ_none, liveFJ_some, liveFH_nx, liveFH_ct, liveFH_bk, liveFH_rt, nil_get, comp_fix, comp_zip, comp_rng, turnC_eq, turnJ_some, turnK_t, turnK_f, yesK_eq, wipe_nil, wipe_cons, loopL_nil, loopL_cons, loopK_some, loopK_none, zipD_nil, zipD_nil2, zipD_cons, v_comp, es_nil, consJ_eq, consK_eq, es_cons, notJ_eq, andJ_t, andJ_f, orJ_t, orJ_f, b_not, b_and, b_or, b_cmp, b_chain, b_ite, b_var, b_cst, b_call, b_b1, b_isi, b_idx, b_bin, b_comp, ofBl_bl, tru_bl, tru_int, tru_tup, tru_non, c_none', c_some', srcK_tup, srcK_rol, w_var, w_cst, w_tup, w_lst, w_bin, w_idx, w_slc, w_call, w_comp, w_rng, rng2K_eq, w_rng2, zipK_tup, w_zip, w_enum, seqR_nx, seqR_rt, seqR_bk, seqR_ct, seqR_ex, ts_nil, ts_cons, rtE_ok, asgK_eq, t_asg, tgK_some, asgTK_eq, t_asgT, parJ_eq, parK_eq, t_par, par3H_eq, par3J_eq, par3K_eq, t_par3, setJ_eq, setK_eq, t_set, expK_eq, t_exp, retK_eq, t_ret, t_retN, ifK_t, ifK_f, t_if, t_whl, frB_eq, frJ_eq, fr_fix, fr_zip, fr_rng, forL_nil, forL_cons, forK_nx, forK_ct, forK_bk, forK_rt, t_fr, t_pas, t_brk, t_cnt, body_rt, body_nx, body_ex, op_addI, op_subI, op_mulI, op_fdivI, op_modI, op_powI, mkTup_small, alloc_small, idx_R, idxS_some, setH_R, setS_some, setX_some, len_R, lenS_some, len_rol, tup_R, tupS_some, all_R, allS_some, allK_some, src_R, srcS_some, m1J_R, m1S_some, app_R, appX_some, at_new, bls_nil, bls_cons, List.all_cons, List.all_nil, id_eq, Bool.and_true, Bool.and_self,  neg_I, not_B, cop_lt, cop_le, cop_gt, cop_ge, cop_eq, cop_ne, cop_isN, cop_notN, cop_isB, cop_notB, ofOpt_some, eqD_int, eqD_str, b1_lenT, b1_abs, b1_intI, b1_intB, b2_min, b2_max, isi_tup, isi_int, isi_bl, isi_str, idxK_some, idx_tup, idx_rol, atI_0, atI_1, atI_2, atI_3, atI_4, atI_5, atI_6, atI_7, atI_m1_1, atI_m1_2, atI_m2_2, atI_m1_3, atI_m2_3, atI_m3_3, atI_m1_4, atI_m2_4, atI_m3_4, atI_m1_5, atI_m2_5, atI_m3_5, atI_m1_6, atI_m2_6, atI_m3_6, tg_nm, tg_tp, tgs_nil, tgJ_some, tgs_cons, List.getElem?_cons_zero, List.getElem?_cons_succ, List.set_cons_zero, List.set_cons_succ, List.cons_append, List.nil_append, List.map_cons, List.map_nil, startD, List.length_cons, List.length_nil, List.replicate_succ, List.replicate_zero, Nat.reduceAdd, Nat.reduceSub, Int.reduceLE, Int.reduceLT, Int.reduceEq, Int.reduceNe, Nat.reduceLT, Nat.reduceEqDiff, Nat.reduceLeDiff, Int.reduceToNat, Int.reduceNeg, Int.reduceAdd, Int.reduceSub, Int.reduceMul, Int.reducePow, rng1_eq, rngD_0, rngD_s, op_powI, reduceCtorEq, decide_true, decide_false, eq_self, Int.cast_ofNat_Int, Nat.zero_add, Option.map_some, ne_eq, not_false_eq_true, Bool.not_true, Bool.not_false, isNonD, i_ev0, i_ev1, i_fr0, i_fr1, s_ev, g_fr, g_ev, r_ev, k_ev, k_one, k_zero, atI_0])
theorem m4_ne {m : Rat} (h : 1 ≤ m) (h1 : m ≠ 1) : m * m * (m * m) - 1 ≠ 0 := by
  have h2 : 1 < m := by grind
  have h3 : 0 ≤ (m - 1) * (m + 1) := Rat.mul_nonneg (by grind) (by grind)
  intro z
  have e : m * m * (m * m) - 1 = (m * m - 1) * (m * m + 1) := by grind
  rw [e] at z
  rcases Rat.mul_eq_zero.mp z with h4 | h4
  · have e2 : (m - 1) * (m + 1) = 0 := by grind
    rcases Rat.mul_eq_zero.mp e2 with h5 | h5 <;> grind
  · grind
section
variable {tab : Nat → Option Fd} {fu : Nat}
theorem quickest_ok (G : Sub tab) (k : Nat) {u v m : Rat} {n : Nat} (hu : Sz u 300) (hv : Sz v 300) (hm : Sz m 20) (h1 : 1 ≤ m) (hF : 2 ^ 9000 ≤ fu) (S : Store) : ∃ J, evC fu tab (k + 5) 83 [frD u, frD v, frD m] S = .ok (.tup (evs (quick u v m))) (S ++ J) := by
  have m0 : m ≠ 0 := by intro z; subst z; exact absurd h1 (by decide)
  have q := fun S => eqD_fr (S := S) m 1
  by_cases h : m = 1
  · rw [decide_eq_true h] at q
    have e : quick u v m = lastP [(1, u)] := by unfold quick; rw [if_pos h]
    rw [e]
    obtain ⟨J, e1⟩ := without1_ok (fu := fu) G (k + 3) (p := 1) (t := u) (S := S ++ [.lst [evD 1 u]]) (at_new _)
    refine ⟨[.lst [evD 1 u]] ++ J, ?_⟩
    rw [evC_eq (G 83 _ rfl)]
    unfold tr_83
    clear G hu hv hm h1 hF m0 e h
    walk_at "cw"
    simp
  · rw [decide_eq_false h] at q
    have sm := hm.mul hm
    have nz := m4_ne h1 h
    have a1 := fun S => times_ok (S := S) (fu := fu) G (k + 1) hm hm (by decide) hF
    have a2 := fun S => times_ok (S := S) (fu := fu) G (k + 1) sm sm (by decide) hF
    have a3 := fun S => less_ok (S := S) (fu := fu) G (k + 1) (sm.mul sm) (q := 1) (m := 1) ⟨by decide, by decide⟩ (by decide) hF
    have sb : Sz (m * m * (m * m) - 1) 90 := ((sm.mul sm).sub (q := 1) (m := 1) ⟨by decide, by decide⟩).mono (by decide)
    have b1 := fun S => times_ok (S := S) (fu := fu) G (k + 1) sm hu (by decide) hF
    have b2 := fun S => less_ok (S := S) (fu := fu) G (k + 1) (sm.mul hu) hv (by decide) hF
    have b3 := fun S => times_ok (S := S) (fu := fu) G (k + 1) hm ((sm.mul hu).sub hv) (by decide) hF
    have b4 := fun S => over_ok (S := S) (fu := fu) G (k + 1) (hm.mul ((sm.mul hu).sub hv)) sb nz (by decide) hF
    have c1 := fun S => times_ok (S := S) (fu := fu) G (k + 1) sm hv (by decide) hF
    have c2 := fun S => less_ok (S := S) (fu := fu) G (k + 1) (sm.mul hv) hu (by decide) hF
    have c3 := fun S => times_ok (S := S) (fu := fu) G (k + 1) hm ((sm.mul hv).sub hu) (by decide) hF
    have c4 := fun S => over_ok (S := S) (fu := fu) G (k + 1) (hm.mul ((sm.mul hv).sub hu)) sb nz (by decide) hF
    have d1 := fun S => contrary_ok (fu := fu) G k hm m0 (by decide) hF S
    have e : quick u v m = lastP [(m, m * (m * m * u - v) / (m * m * (m * m) - 1)), (m⁻¹, m * (m * m * v - u) / (m * m * (m * m) - 1))] := by unfold quick; rw [if_neg h]
    rw [e]
    generalize m * (m * m * u - v) / (m * m * (m * m) - 1) = x at *
    generalize m * (m * m * v - u) / (m * m * (m * m) - 1) = y at *
    obtain ⟨J, e1⟩ := without2_ok (fu := fu) G (k + 3) (p := m) (t := x) (p' := m⁻¹) (t' := y) (S := S ++ [.lst [evD m x, evD m⁻¹ y]]) (at_new _)
    refine ⟨[.lst [evD m x, evD m⁻¹ y]] ++ J, ?_⟩
    rw [evC_eq (G 83 _ rfl)]
    unfold tr_83
    clear G hu hv hm h1 hF m0 e h sm nz sb
    walk_at "cw"
    simp
/-- what reach tells -/
def told (u v m : Rat) : D :=
  if u < 0 ∨ v < 0 then .tup [.str "behind"] else if m * m * v < u then .tup [.str "beyond", .str "u"] else if m * m * u < v then .tup [.str "beyond", .str "v"] else .tup [.str "plan", .tup (evs (quick u v m))]
theorem num_lt {q : Rat} : q.num < 0 ↔ q < 0 := by
  have h := Rat.num_nonneg (q := q)
  constructor
  · intro z; exact Rat.not_le.mp (fun hh => by have := h.mpr hh; omega)
  · intro z; exact Int.not_le.mp (fun hh => absurd (h.mp hh) (Rat.not_le.mpr z))
theorem told_reach_ok (G : Sub tab) (k : Nat) {a b c d m : Rat} (ha : Sz a 140) (hb : Sz b 140) (hc : Sz c 140) (hd : Sz d 140) (hm : Sz m 20) (h1 : 1 ≤ m) (hF : 2 ^ 9000 ≤ fu) (S : Store) : ∃ J, evC fu tab (k + 6) 81 [evD a b, evD c d, frD m] S = .ok (told (c - a) (d - b) m) (S ++ J) := by
  obtain ⟨J1, e1⟩ := more_in_ok (fu := fu) G (k + 1) ha hb hc hd (by decide) hF S
  have hu : Sz (c - a) 300 := (hc.sub ha).mono (by decide)
  have hv : Sz (d - b) 300 := (hd.sub hb).mono (by decide)
  generalize c - a = u at *
  generalize d - b = v at *
  have sm := hm.mul hm
  have a1 := fun S => times_ok (S := S) (fu := fu) G (k + 2) hm hm (by decide) hF
  have a2 := fun S => times_ok (S := S) (fu := fu) G (k + 2) sm hv (by decide) hF
  have a3 := fun S => times_ok (S := S) (fu := fu) G (k + 2) sm hu (by decide) hF
  have b2 := fun S => is_below_ok (fu := fu) G (k + 4) (sm.mul hv) hu (by decide) S
  have b3 := fun S => is_below_ok (fu := fu) G (k + 4) (sm.mul hu) hv (by decide) S
  obtain ⟨J2, e2⟩ := quickest_ok (fu := fu) (n := 0) G k hu hv hm h1 hF (S ++ J1)
  unfold told
  rw [evC_eq (G 81 _ rfl)]
  unfold tr_81
  by_cases n1 : u < 0
  · have d1 := decide_eq_true (num_lt.mpr n1)
    rw [if_pos (.inl n1)]
    clear G ha hb hc hd hm h1 hF hu hv sm n1
    exact ⟨J1, by walk_at "cw"⟩
  · have d1 := decide_eq_false (mt num_lt.mp n1)
    by_cases n2 : v < 0
    · have d2 := decide_eq_true (num_lt.mpr n2)
      rw [if_pos (.inr n2)]
      clear G ha hb hc hd hm h1 hF hu hv sm n1 n2
      exact ⟨J1, by walk_at "cw"⟩
    · have d2 := decide_eq_false (mt num_lt.mp n2)
      rw [if_neg (by rintro (h | h); exact n1 h; exact n2 h)]
      by_cases n3 : m * m * v < u
      · rw [if_pos n3]
        rw [decide_eq_true n3] at b2
        clear G ha hb hc hd hm h1 hF hu hv sm n1 n2 n3
        exact ⟨J1, by walk_at "cw"⟩
      · rw [if_neg n3]
        rw [decide_eq_false n3] at b2
        by_cases n4 : m * m * u < v
        · rw [if_pos n4]
          rw [decide_eq_true n4] at b3
          clear G ha hb hc hd hm h1 hF hu hv sm n1 n2 n3 n4
          exact ⟨J1, by walk_at "cw"⟩
        · rw [if_neg n4]
          rw [decide_eq_false n4] at b3
          clear G ha hb hc hd hm h1 hF hu hv sm n1 n2 n3 n4
          refine ⟨J1 ++ J2, ?_⟩
          walk_at "cw"
          simp
theorem reach_ok (G : Sub tab) (k : Nat) {a b c d m : Rat} (ha : Sz a 140) (hb : Sz b 140) (hc : Sz c 140) (hd : Sz d 140) (hm : Sz m 20) (h1 : 1 ≤ m) (hF : 2 ^ 9000 ≤ fu) (S : Store) : ∃ J, evC fu tab (k + 7) 78 [evD a b, evD c d, frD m] S = .ok (told (c - a) (d - b) m) (S ++ J) := by
  obtain ⟨J1, e1⟩ := check_ends_ok (fu := fu) G (k + 1) ha hb hc hd (hm.mono (show 20 ≤ 140 by decide)) h1 (by decide) hF S
  obtain ⟨J2, e2⟩ := told_reach_ok (fu := fu) G k ha hb hc hd hm h1 hF (S ++ J1)
  generalize told (c - a) (d - b) m = t at *
  refine ⟨J1 ++ J2, ?_⟩
  rw [evC_eq (G 78 _ rfl)]
  unfold tr_78
  clear G ha hb hc hd hm h1 hF
  walk_at "cw"
  simp
end
end Cw
namespace Cw
open PySem PySem.Spec PyProof.Rows L2
local macro_rules | `(tactic| walk_at "cw") => `(tactic| simp only [bnd_ok, bnd_exc, varR_some, kk2_eq, v_var, v_cst, v_tup, v_lst, v_bin, v_neg, v_not, andK_t, andK_f, orK_t, orK_f, v_and, v_or, v_cmp, chK_t, chK_f, chJ_eq, v_chain, iteK_t, iteK_f, v_ite, v_idx, slcK_eq, slcL_eq, slcJ_eq, v_slc, optK_int, o_none, o_some, v_rev, rev_tup, callK_eq, callJ_none, callJ_perm, callP_some, permL_nil, permL_cons, permC_some, v_call, v_b1, v_b2, isiK_eq, v_isi, v_m0, v_m1, compE_eq, comp_live, lenL_some, live_eq, liveK_some, liveJ_none, liveJ_some, liveH_some, liveH_none, fr_live, liveF_eq, liveFK_some, liveFJ_none, liveFJ_some, liveFH_nx, liveFH_ct, liveFH_bk, liveFH_rt, nil_get, comp_fix, comp_zip, comp_rng, turnC_eq, turnJ_some, turnK_t, turnK_f, yesK_eq, wipe_nil, wipe_cons, loopL_nil, loopL_cons, loopK_some, loopK_none, zipD_nil, zipD_nil2, zipD_cons, v_comp, es_nil, consJ_eq, consK_eq, es_cons, notJ_eq, andJ_t, andJ_f, orJ_t, orJ_f, b_not, b_and, b_or, b_cmp, b_chain, b_ite, b_var, b_cst, b_call, b_b1, b_isi, b_idx, b_bin, b_comp, ofBl_bl, tru_bl, tru_int, tru_tup, tru_non, c_none', c_some', srcK_tup, srcK_rol, w_var, w_cst, w_tup, w_lst, w_bin, w_idx, w_slc, w_call, w_comp, w_rng, rng2K_eq, w_rng2, zipK_tup, w_zip, w_enum, seqR_nx, seqR_rt, seqR_bk, seqR_ct, seqR_ex, ts_nil, ts_cons, rtE_ok, asgK_eq, t_asg, tgK_some, asgTK_eq, t_asgT, parJ_eq, parK_eq, t_par, par3H_eq, par3J_eq, par3K_eq, t_par3, setJ_eq, setK_eq, t_set, expK_eq, t_exp, retK_eq, t_ret, t_retN, ifK_t, ifK_f, t_if, t_whl, frB_eq, frJ_eq, fr_fix, fr_zip, fr_rng, forL_nil, forL_cons, forK_nx, forK_ct, forK_bk, forK_rt, t_fr, t_pas, t_brk, t_cnt, body_rt, body_nx, body_ex, op_addI, op_subI, op_mulI, op_fdivI, op_modI, op_powI, mkTup_small, alloc_small, idx_R, idxS_some, setH_R, setS_some, setX_some, len_R, lenS_some, len_rol, tup_R, tupS_some, all_R, allS_some, allK_some, src_R, srcS_some, m1J_R, m1S_some, app_R, appX_some, at_new, bls_nil, bls_cons, List.all_cons, List.all_nil, id_eq, Bool.and_true, Bool.and_self,  neg_I, not_B, cop_lt, cop_le, cop_gt, cop_ge, cop_eq, cop_ne, cop_isN, cop_notN, cop_isB, cop_notB, ofOpt_some, eqD_int, eqD_str, b1_lenT, b1_abs, b1_intI, b1_intB, b2_min, b2_max, isi_tup, isi_int, isi_bl, isi_str, idxK_some, idx_tup, idx_rol, atI_0, atI_1, atI_2, atI_3, atI_4, atI_5, atI_6, atI_7, atI_m1_1, atI_m1_2, atI_m2_2, atI_m1_3, atI_m2_3, atI_m3_3, atI_m1_4, atI_m2_4, atI_m3_4, atI_m1_5, atI_m2_5, atI_m3_5, atI_m1_6, atI_m2_6, atI_m3_6, tg_nm, tg_tp, tgs_nil, tgJ_some, tgs_cons, List.getElem?_cons_zero, List.getElem?_cons_succ, List.set_cons_zero, List.set_cons_succ, List.cons_append, List.nil_append, List.map_cons, List.map_nil, startD, List.length_cons, List.length_nil, List.replicate_succ, List.replicate_zero, Nat.reduceAdd, Nat.reduceSub, Int.reduceLE, Int.reduceLT, Int.reduceEq, Int.reduceNe, Nat.reduceLT, Nat.reduceEqDiff, Nat.reduceLeDiff, Int.reduceToNat, Int.reduceNeg, Int.reduceAdd, Int.reduceSub, Int.reduceMul, Int.reducePow, rng1_eq, rngD_0, rngD_s, op_powI, reduceCtorEq, decide_true, decide_false, eq_self, Int.cast_ofNat_Int, Nat.zero_add, Option.map_some, ne_eq, not_false_eq_true, Bool.not_true, Bool.not_false, isNonD, i_ev0, i_ev1, i_fr0, i_fr1, s_ev, g_fr, g_ev, r_ev, k_ev, k_one, k_zero, atI_0, *])
local macro_rules | `(tactic| walk_at "cw0") => `(tactic| simp only [bnd_ok, bnd_exc, varR_some, kk2_eq, v_var, v_cst, v_tup, v_lst, v_bin, v_neg, v_not, andK_t, andK_f, orK_t, orK_f, v_and, v_or, v_cmp, chK_t, chK_f, chJ_eq, v_chain, iteK_t, iteK_f, v_ite, v_idx, slcK_eq, slcL_eq, slcJ_eq, v_slc, optK_int, o_none, o_some, v_rev, rev_tup, callK_eq, callJ_none, callJ_perm, callP_some, permL_nil, permL_cons, permC_some, v_call, v_b1, v_b2, isiK_eq, v_isi, v_m0, v_m1, compE_eq, comp_live, lenL_some, live_eq, liveK_some, liveJ_none, liveJ_some, liveH_some, liveH_none, fr_live, liveF_eq, liveFK_some, liveFJ_none, liveFJ_some, liveFH_nx, liveFH_ct, liveFH_bk, liveFH_rt, nil_get, comp_fix, comp_zip, comp_rng, turnC_eq, turnJ_some, turnK_t, turnK_f, yesK_eq, wipe_nil, wipe_cons, loopL_nil, loopL_cons, loopK_some, loopK_none, zipD_nil, zipD_nil2, zipD_cons, v_comp, es_nil, consJ_eq, consK_eq, es_cons, notJ_eq, andJ_t, andJ_f, orJ_t, orJ_f, b_not, b_and, b_or, b_cmp, b_chain, b_ite, b_var, b_cst, b_call, b_b1, b_isi, b_idx, b_bin, b_comp, ofBl_bl, tru_bl, tru_int, tru_tup, tru_non, c_none', c_some', srcK_tup, srcK_rol, w_var, w_cst, w_tup, w_lst, w_bin, w_idx, w_slc, w_call, w_comp, w_rng, rng2K_eq, w_rng2, zipK_tup, w_zip, w_enum, seqR_nx, seqR_rt, seqR_bk, seqR_ct, seqR_ex, ts_nil, ts_cons, rtE_ok, asgK_eq, t_asg, tgK_some, asgTK_eq, t_asgT, parJ_eq, parK_eq, t_par, par3H_eq, par3J_eq, par3K_eq, t_par3, setJ_eq, setK_eq, t_set, expK_eq, t_exp, retK_eq, t_ret, t_retN, ifK_t, ifK_f, t_if, t_whl, frB_eq, frJ_eq, fr_fix, fr_zip, fr_rng, forL_nil, forL_cons, forK_nx, forK_ct, forK_bk, forK_rt, t_fr, t_pas, t_brk, t_cnt, body_rt, body_nx, body_ex, op_addI, op_subI, op_mulI, op_fdivI, op_modI, op_powI, mkTup_small, alloc_small, idx_R, idxS_some, setH_R, setS_some, setX_some, len_R, lenS_some, len_rol, tup_R, tupS_some, all_R, allS_some, allK_some, src_R, srcS_some, m1J_R, m1S_some, app_R, appX_some, at_new, bls_nil, bls_cons, List.all_cons, List.all_nil, id_eq, Bool.and_true, Bool.and_self,  neg_I, not_B, cop_lt, cop_le, cop_gt, cop_ge, cop_eq, cop_ne, cop_isN, cop_notN, cop_isB, cop_notB, ofOpt_some, eqD_int, eqD_str, b1_lenT, b1_abs, b1_intI, b1_intB, b2_min, b2_max, isi_tup, isi_int, isi_bl, isi_str, idxK_some, idx_tup, idx_rol, atI_0, atI_1, atI_2, atI_3, atI_4, atI_5, atI_6, atI_7, atI_m1_1, atI_m1_2, atI_m2_2, atI_m1_3, atI_m2_3, atI_m3_3, atI_m1_4, atI_m2_4, atI_m3_4, atI_m1_5, atI_m2_5, atI_m3_5, atI_m1_6, atI_m2_6, atI_m3_6, tg_nm, tg_tp, tgs_nil, tgJ_some, tgs_cons, List.getElem?_cons_zero, List.getElem?_cons_succ, List.set_cons_zero, List.set_cons_succ, List.cons_append, List.nil_append, List.map_cons, List.map_nil, startD, List.length_cons, List.length_nil, List.replicate_succ, List.replicate_zero, Nat.reduceAdd, Nat.reduceSub, Int.reduceLE, Int.reduceLT, Int.reduceEq, Int.reduceNe, Nat.reduceLT, Nat.reduceEqDiff, Nat.reduceLeDiff, Int.reduceToNat, Int.reduceNeg, Int.reduceAdd, Int.reduceSub, Int.reduceMul, Int.reducePow, rng1_eq, rngD_0, rngD_s, op_powI, reduceCtorEq, decide_true, decide_false, eq_self, Int.cast_ofNat_Int, Nat.zero_add, Option.map_some, ne_eq, not_false_eq_true, Bool.not_true, Bool.not_false, isNonD, i_ev0, i_ev1, i_fr0, i_fr1, s_ev, g_fr, g_ev, r_ev, k_ev, k_one, k_zero, atI_0])
/-! ### words -/
inductive Wd where
  | plan | behind | bu | bv
  deriving DecidableEq
def wdo (u v m : Rat) : Wd := if u < 0 ∨ v < 0 then .behind else if m * m * v < u then .bu else if m * m * u < v then .bv else .plan
/-- what is due -/
def Wd.due : Wd → D
  | .plan => .tup [.str "plan"]
  | .behind => .tup [.str "behind"]
  | .bu => .tup [.str "beyond", .str "u"]
  | .bv => .tup [.str "beyond", .str "v"]
/-- what is said of it -/
def Wd.say : Wd → D
  | .plan => .str "plan"
  | .behind => .tup [.str "behind"]
  | .bu => .tup [.str "beyond", .str "u"]
  | .bv => .tup [.str "beyond", .str "v"]
theorem told_wdo (u v m : Rat) : told u v m = (match wdo u v m with
    | .plan => .tup [.str "plan", .tup (evs (quick u v m))]
    | w => w.due) := by
  unfold told wdo
  split
  · rfl
  · split
    · rfl
    · split <;> rfl
def Wd.py : Wd → PyData
  | .plan => .str "plan"
  | .behind => .tuple [.str "behind"]
  | .bu => .tuple [.str "beyond", .str "u"]
  | .bv => .tuple [.str "beyond", .str "v"]
theorem say_py {S : Store} (n : Nat) (w : Wd) : toPy S (n + 2) w.say = some w.py := by cases w <;> rfl
theorem py_shaped (w : Wd) : SeqAt.shaped w.py = true := by cases w <;> decide +kernel
theorem py_lay (w : Wd) : w.py.canLay0 = true := by cases w <;> decide +kernel
theorem eq_ofG {S : Store} {x y : D} {p q : PyData} {b : Bool} (hn : ¬ ∃ a b, x = .str a ∧ y = .str b) (h1 : toPy S 40 x = some p) (h2 : toPy S 40 y = some q) (s1 : SeqAt.shaped p = true) (s2 : SeqAt.shaped q = true) (e : PyData.eqv p q = b) : eqD S x y = some b := by
  rw [eqD_old hn]
  unfold eqD0
  rw [h1, h2]
  dsimp only
  rw [s1, s2, e]
  rfl
theorem due_plan {S : Store} (w : Wd) : eqD S w.due (.tup [.str "plan"]) = some (decide (w = .plan)) := by
  cases w
  · exact eq_of (p := .tuple [.str "plan"]) (q := .tuple [.str "plan"]) rfl rfl (by decide +kernel) (by decide +kernel) (by decide +kernel)
  · exact eq_of (p := .tuple [.str "behind"]) (q := .tuple [.str "plan"]) rfl rfl (by decide +kernel) (by decide +kernel) (by decide +kernel)
  · exact eq_of (p := .tuple [.str "beyond", .str "u"]) (q := .tuple [.str "plan"]) rfl rfl (by decide +kernel) (by decide +kernel) (by decide +kernel)
  · exact eq_of (p := .tuple [.str "beyond", .str "v"]) (q := .tuple [.str "plan"]) rfl rfl (by decide +kernel) (by decide +kernel) (by decide +kernel)
theorem py_plan (w : Wd) : PyData.eqv w.py (.str "plan") = decide (w = .plan) := by cases w <;> decide +kernel
theorem py_self (w : Wd) : PyData.eqv w.py w.py = true := by cases w <;> decide +kernel
theorem say_plan {S : Store} (w : Wd) : eqD S w.say (.str "plan") = some (decide (w = .plan)) := by
  cases w
  · rfl
  · exact eq_ofG (p := .tuple [.str "behind"]) (q := .str "plan") (by rintro ⟨a, b, h, _⟩; cases h) rfl rfl (by decide +kernel) (by decide +kernel) (by decide +kernel)
  · exact eq_ofG (p := .tuple [.str "beyond", .str "u"]) (q := .str "plan") (by rintro ⟨a, b, h, _⟩; cases h) rfl rfl (by decide +kernel) (by decide +kernel) (by decide +kernel)
  · exact eq_ofG (p := .tuple [.str "beyond", .str "v"]) (q := .str "plan") (by rintro ⟨a, b, h, _⟩; cases h) rfl rfl (by decide +kernel) (by decide +kernel) (by decide +kernel)
theorem say_self {S : Store} (w : Wd) : eqD S w.say w.say = some true := by
  cases w
  · rfl
  · exact eq_of (p := .tuple [.str "behind"]) (q := .tuple [.str "behind"]) rfl rfl (by decide +kernel) (by decide +kernel) (by decide +kernel)
  · exact eq_of (p := .tuple [.str "beyond", .str "u"]) (q := .tuple [.str "beyond", .str "u"]) rfl rfl (by decide +kernel) (by decide +kernel) (by decide +kernel)
  · exact eq_of (p := .tuple [.str "beyond", .str "v"]) (q := .tuple [.str "beyond", .str "v"]) rfl rfl (by decide +kernel) (by decide +kernel) (by decide +kernel)
theorem py_non (w : Wd) : PyData.eqv w.py .none = false := by cases w <;> decide +kernel
theorem toPy_ref {S : Store} {j k : Nat} {xs : List D} (h : S[j]? = some (.lst xs)) : toPy S (k + 1) (.ref j) = (mapO (toPy S k) xs).map .list := by
  show (match S[j]? with
    | some (.lst xs) => (mapO (toPy S k) xs).map PyData.list
    | _ => none) = _
  rw [h]
theorem map2 {f : D → Option PyData} {a b : D} {p q : PyData} (h1 : f a = some p) (h2 : f b = some q) : mapO f [a, b] = some [p, q] := by
  simp only [mapO, h1, h2]
theorem map3 {f : D → Option PyData} {a b c : D} {p q r : PyData} (h1 : f a = some p) (h2 : f b = some q) (h3 : f c = some r) : mapO f [a, b, c] = some [p, q, r] := by
  simp only [mapO, h1, h2, h3]
theorem flat_say (w : Wd) (h : flatD w.say = true) : w = .plan := by cases w <;> first | rfl | cases h
theorem py_depth (w : Wd) : w.py.depth ≤ 5 := by cases w <;> decide +kernel
theorem lay3 (w0 w1 w2 : Wd) : SeqAt.shaped (.list [w0.py, w1.py, w2.py]) = true := by
  unfold SeqAt.shaped
  rw [Bool.and_eq_true]
  have h0 := py_depth w0
  have h1 := py_depth w1
  have h2 := py_depth w2
  refine ⟨by simp [PyData.canLay0, PyData.canLayAll0, py_lay], decide_eq_true ?_⟩
  simp only [PyData.depth, PyData.depthAll]
  omega
theorem lay2 (w0 w1 : Wd) : SeqAt.shaped (.list [w0.py, w1.py]) = true := by
  unfold SeqAt.shaped
  rw [Bool.and_eq_true]
  have h0 := py_depth w0
  have h1 := py_depth w1
  refine ⟨by simp [PyData.canLay0, PyData.canLayAll0, py_lay], decide_eq_true ?_⟩
  simp only [PyData.depth, PyData.depthAll]
  omega
theorem in_words {S : Store} {j : Nat} (w0 w1 w2 : Wd) (h : S[j]? = some (.lst [w0.say, w1.say, w2.say])) : inD S .non (.ref j) = some false := by
  have e : inD S .non (.ref j) = (match sq S (.ref j) with
    | some xs => if flatD .non && xs.all flatD then some (inV (vOf .non) (xs.map vOf)) else inD0 S .non (.ref j)
    | none => none) := rfl
  rw [e]
  simp only [sq, h]
  split
  · rename_i hh
    simp only [List.all_cons, List.all_nil, Bool.and_true, Bool.and_eq_true] at hh
    obtain ⟨_, a0, a1, a2⟩ := hh
    rw [flat_say w0 a0, flat_say w1 a1, flat_say w2 a2]
    rfl
  · unfold inD0
    have e1 : toPy S 40 .non = some .none := rfl
    have e2 : toPy S 40 (.ref j) = some (.list [w0.py, w1.py, w2.py]) := by
      rw [toPy_ref (k := 39) h, map3 (say_py 37 w0) (say_py 37 w1) (say_py 37 w2)]; rfl
    rw [e1, e2]
    dsimp only
    unfold inP
    dsimp only
    rw [if_pos (by rw [Bool.and_eq_true]; exact ⟨by decide +kernel, lay3 w0 w1 w2⟩)]
    simp only [List.any_cons, List.any_nil, py_non, Bool.or_self]
theorem in_plan {S : Store} (w : Wd) : inD S w.say (.tup [.str "plan", .tup [.str "behind"]]) = some (decide (w = .plan) || decide (w = .behind)) := by
  cases w
  · have e : inD S (.str "plan") (.tup [.str "plan", .tup [.str "behind"]]) = inP (.str "plan") (.tuple [.str "plan", .tuple [.str "behind"]]) := rfl
    exact e.trans (by decide +kernel)
  · have e : inD S (.tup [.str "behind"]) (.tup [.str "plan", .tup [.str "behind"]]) = inP (.tuple [.str "behind"]) (.tuple [.str "plan", .tuple [.str "behind"]]) := rfl
    exact e.trans (by decide +kernel)
  · have e : inD S (.tup [.str "beyond", .str "u"]) (.tup [.str "plan", .tup [.str "behind"]]) = inP (.tuple [.str "beyond", .str "u"]) (.tuple [.str "plan", .tuple [.str "behind"]]) := rfl
    exact e.trans (by decide +kernel)
  · have e : inD S (.tup [.str "beyond", .str "v"]) (.tup [.str "plan", .tup [.str "behind"]]) = inP (.tuple [.str "beyond", .str "v"]) (.tuple [.str "plan", .tuple [.str "behind"]]) := rfl
    exact e.trans (by decide +kernel)
theorem two_plans {S : Store} {i j : Nat} (w0 w1 : Wd) (hi : S[i]? = some (.lst [w0.say, w1.say])) (hj : S[j]? = some (.lst [.str "plan", .str "plan"])) : eqD S (.ref i) (.ref j) = some (decide (w0 = .plan) && decide (w1 = .plan)) := by
  refine (eq_ofG (p := .list [w0.py, w1.py]) (q := .list [.str "plan", .str "plan"]) (by rintro ⟨a, b, h, _⟩; cases h) (by rw [toPy_ref (k := 39) hi, map2 (say_py 37 w0) (say_py 37 w1)]; rfl) (by rw [toPy_ref (k := 39) hj, map2 (p := .str "plan") (q := .str "plan") rfl rfl]; rfl) (lay2 w0 w1) (by decide +kernel) ?_)
  simp only [PyData.eqv, PyData.eqvAll, py_plan, Bool.and_true]
end Cw
namespace Cw
open PySem PySem.Spec PyProof.Rows L2
local macro_rules | `(tactic| walk_at "cw") => `(tactic| simp only [bnd_ok, bnd_exc, varR_some, kk2_eq, v_var, v_cst, v_tup, v_lst, v_bin, v_neg, v_not, andK_t, andK_f, orK_t, orK_f, v_and, v_or, v_cmp, chK_t, chK_f, chJ_eq, v_chain, iteK_t, iteK_f, v_ite, v_idx, slcK_eq, slcL_eq, slcJ_eq, v_slc, optK_int, o_none, o_some, v_rev, rev_tup, callK_eq, callJ_none, callJ_perm, callP_some, permL_nil, permL_cons, permC_some, v_call, v_b1, v_b2, isiK_eq, v_isi, v_m0, v_m1, compE_eq, comp_live, lenL_some, live_eq, liveK_some, liveJ_none, liveJ_some, liveH_some, liveH_none, fr_live, liveF_eq, liveFK_some, liveFJ_none, liveFJ_some, liveFH_nx, liveFH_ct, liveFH_bk, liveFH_rt, nil_get, comp_fix, comp_zip, comp_rng, turnC_eq, turnJ_some, turnK_t, turnK_f, yesK_eq, wipe_nil, wipe_cons, loopL_nil, loopL_cons, loopK_some, loopK_none, zipD_nil, zipD_nil2, zipD_cons, v_comp, es_nil, consJ_eq, consK_eq, es_cons, notJ_eq, andJ_t, andJ_f, orJ_t, orJ_f, b_not, b_and, b_or, b_cmp, b_chain, b_ite, b_var, b_cst, b_call, b_b1, b_isi, b_idx, b_bin, b_comp, ofBl_bl, tru_bl, tru_int, tru_tup, tru_non, c_none', c_some', srcK_tup, srcK_rol, w_var, w_cst, w_tup, w_lst, w_bin, w_idx, w_slc, w_call, w_comp, w_rng, rng2K_eq, w_rng2, zipK_tup, w_zip, w_enum, seqR_nx, seqR_rt, seqR_bk, seqR_ct, seqR_ex, ts_nil, ts_cons, rtE_ok, asgK_eq, t_asg, tgK_some, asgTK_eq, t_asgT, parJ_eq, parK_eq, t_par, par3H_eq, par3J_eq, par3K_eq, t_par3, setJ_eq, setK_eq, t_set, expK_eq, t_exp, retK_eq, t_ret, t_retN, ifK_t, ifK_f, t_if, t_whl, frB_eq, frJ_eq, fr_fix, fr_zip, fr_rng, forL_nil, forL_cons, forK_nx, forK_ct, forK_bk, forK_rt, t_fr, t_pas, t_brk, t_cnt, body_rt, body_nx, body_ex, op_addI, op_subI, op_mulI, op_fdivI, op_modI, op_powI, mkTup_small, alloc_small, idx_R, idxS_some, setH_R, setS_some, setX_some, len_R, lenS_some, len_rol, tup_R, tupS_some, all_R, allS_some, allK_some, src_R, srcS_some, m1J_R, m1S_some, app_R, appX_some, at_new, bls_nil, bls_cons, List.all_cons, List.all_nil, id_eq, Bool.and_true, Bool.and_self,  neg_I, not_B, cop_lt, cop_le, cop_gt, cop_ge, cop_eq, cop_ne, cop_isN, cop_notN, cop_isB, cop_notB, ofOpt_some, eqD_int, eqD_str, b1_lenT, b1_abs, b1_intI, b1_intB, b2_min, b2_max, isi_tup, isi_int, isi_bl, isi_str, idxK_some, idx_tup, idx_rol, atI_0, atI_1, atI_2, atI_3, atI_4, atI_5, atI_6, atI_7, atI_m1_1, atI_m1_2, atI_m2_2, atI_m1_3, atI_m2_3, atI_m3_3, atI_m1_4, atI_m2_4, atI_m3_4, atI_m1_5, atI_m2_5, atI_m3_5, atI_m1_6, atI_m2_6, atI_m3_6, tg_nm, tg_tp, tgs_nil, tgJ_some, tgs_cons, List.getElem?_cons_zero, List.getElem?_cons_succ, List.set_cons_zero, List.set_cons_succ, List.cons_append, List.nil_append, List.map_cons, List.map_nil, startD, List.length_cons, List.length_nil, List.replicate_succ, List.replicate_zero, Nat.reduceAdd, Nat.reduceSub, Int.reduceLE, Int.reduceLT, Int.reduceEq, Int.reduceNe, Nat.reduceLT, Nat.reduceEqDiff, Nat.reduceLeDiff, Int.reduceToNat, Int.reduceNeg, Int.reduceAdd, Int.reduceSub, Int.reduceMul, Int.reducePow, rng1_eq, rngD_0, rngD_s, op_powI, reduceCtorEq, decide_true, decide_false, eq_self, Int.cast_ofNat_Int, Nat.zero_add, Option.map_some, ne_eq, not_false_eq_true, Bool.not_true, Bool.not_false, isNonD, i_ev0, i_ev1, i_fr0, i_fr1, s_ev, g_fr, g_ev, r_ev, k_ev, k_one, k_zero, atI_0, *])
local macro_rules | `(tactic| walk_at "cw0") => `(tactic| simp only [bnd_ok, bnd_exc, varR_some, kk2_eq, v_var, v_cst, v_tup, v_lst, v_bin, v_neg, v_not, andK_t, andK_f, orK_t, orK_f, v_and, v_or, v_cmp, chK_t, chK_f, chJ_eq, v_chain, iteK_t, iteK_f, v_ite, v_idx, slcK_eq, slcL_eq, slcJ_eq, v_slc, optK_int, o_none, o_some, v_rev, rev_tup, callK_eq, callJ_none, callJ_perm, callP_some, permL_nil, permL_cons, permC_some, v_call, v_b1, v_b2, isiK_eq, v_isi, v_m0, v_m1, compE_eq, comp_live, lenL_some, live_eq, liveK_some, liveJ_none, liveJ_some, liveH_some, liveH_none, fr_live, liveF_eq, liveFK_some, liveFJ_none, liveFJ_some, liveFH_nx, liveFH_ct, liveFH_bk, liveFH_rt, nil_get, comp_fix, comp_zip, comp_rng, turnC_eq, turnJ_some, turnK_t, turnK_f, yesK_eq, wipe_nil, wipe_cons, loopL_nil, loopL_cons, loopK_some, loopK_none, zipD_nil, zipD_nil2, zipD_cons, v_comp, es_nil, consJ_eq, consK_eq, es_cons, notJ_eq, andJ_t, andJ_f, orJ_t, orJ_f, b_not, b_and, b_or, b_cmp, b_chain, b_ite, b_var, b_cst, b_call, b_b1, b_isi, b_idx, b_bin, b_comp, ofBl_bl, tru_bl, tru_int, tru_tup, tru_non, c_none', c_some', srcK_tup, srcK_rol, w_var, w_cst, w_tup, w_lst, w_bin, w_idx, w_slc, w_call, w_comp, w_rng, rng2K_eq, w_rng2, zipK_tup, w_zip, w_enum, seqR_nx, seqR_rt, seqR_bk, seqR_ct, seqR_ex, ts_nil, ts_cons, rtE_ok, asgK_eq, t_asg, tgK_some, asgTK_eq, t_asgT, parJ_eq, parK_eq, t_par, par3H_eq, par3J_eq, par3K_eq, t_par3, setJ_eq, setK_eq, t_set, expK_eq, t_exp, retK_eq, t_ret, t_retN, ifK_t, ifK_f, t_if, t_whl, frB_eq, frJ_eq, fr_fix, fr_zip, fr_rng, forL_nil, forL_cons, forK_nx, forK_ct, forK_bk, forK_rt, t_fr, t_pas, t_brk, t_cnt, body_rt, body_nx, body_ex, op_addI, op_subI, op_mulI, op_fdivI, op_modI, op_powI, mkTup_small, alloc_small, idx_R, idxS_some, setH_R, setS_some, setX_some, len_R, lenS_some, len_rol, tup_R, tupS_some, all_R, allS_some, allK_some, src_R, srcS_some, m1J_R, m1S_some, app_R, appX_some, at_new, bls_nil, bls_cons, List.all_cons, List.all_nil, id_eq, Bool.and_true, Bool.and_self,  neg_I, not_B, cop_lt, cop_le, cop_gt, cop_ge, cop_eq, cop_ne, cop_isN, cop_notN, cop_isB, cop_notB, ofOpt_some, eqD_int, eqD_str, b1_lenT, b1_abs, b1_intI, b1_intB, b2_min, b2_max, isi_tup, isi_int, isi_bl, isi_str, idxK_some, idx_tup, idx_rol, atI_0, atI_1, atI_2, atI_3, atI_4, atI_5, atI_6, atI_7, atI_m1_1, atI_m1_2, atI_m2_2, atI_m1_3, atI_m2_3, atI_m3_3, atI_m1_4, atI_m2_4, atI_m3_4, atI_m1_5, atI_m2_5, atI_m3_5, atI_m1_6, atI_m2_6, atI_m3_6, tg_nm, tg_tp, tgs_nil, tgJ_some, tgs_cons, List.getElem?_cons_zero, List.getElem?_cons_succ, List.set_cons_zero, List.set_cons_succ, List.cons_append, List.nil_append, List.map_cons, List.map_nil, startD, List.length_cons, List.length_nil, List.replicate_succ, List.replicate_zero, Nat.reduceAdd, Nat.reduceSub, Int.reduceLE, Int.reduceLT, Int.reduceEq, Int.reduceNe, Nat.reduceLT, Nat.reduceEqDiff, Nat.reduceLeDiff, Int.reduceToNat, Int.reduceNeg, Int.reduceAdd, Int.reduceSub, Int.reduceMul, Int.reducePow, rng1_eq, rngD_0, rngD_s, op_powI, reduceCtorEq, decide_true, decide_false, eq_self, Int.cast_ofNat_Int, Nat.zero_add, Option.map_some, ne_eq, not_false_eq_true, Bool.not_true, Bool.not_false, isNonD, i_ev0, i_ev1, i_fr0, i_fr1, s_ev, g_fr, g_ev, r_ev, k_ev, k_one, k_zero, atI_0])
section
variable {tab : Nat → Option Fd} {fu : Nat}
/-! ### the word that is due -/
theorem word_ok (G : Sub tab) (k : Nat) {a b c d m : Rat} (ha : Sz a 140) (hb : Sz b 140) (hc : Sz c 140) (hd : Sz d 140) (hm : Sz m 20) (hF : 2 ^ 9000 ≤ fu) (S : Store) : ∃ J, evC fu tab (k + 5) 79 [evD a b, evD c d, frD m] S = .ok (wdo (c - a) (d - b) m).due (S ++ J) := by
  obtain ⟨J1, e1⟩ := l_more_ok (fu := fu) G k ha hb hc hd (by decide) hF S
  have hu : Sz (c - a) 300 := (hc.sub ha).mono (by decide)
  have hv : Sz (d - b) 300 := (hd.sub hb).mono (by decide)
  generalize c - a = u at *
  generalize d - b = v at *
  have sm := hm.mul hm
  have a1 := fun S => l_times_ok (S := S) (fu := fu) G (k + 1) hm hm (by decide) hF
  have a2 := fun S => l_times_ok (S := S) (fu := fu) G (k + 1) sm hv (by decide) hF
  have a3 := fun S => l_times_ok (S := S) (fu := fu) G (k + 1) sm hu (by decide) hF
  have b2 := fun S => is_less_ok (fu := fu) G (k + 3) (sm.mul hv) hu (by decide) S
  have b3 := fun S => is_less_ok (fu := fu) G (k + 3) (sm.mul hu) hv (by decide) S
  refine ⟨J1, ?_⟩
  unfold wdo
  rw [evC_eq (G 79 _ rfl)]
  unfold tr_79
  by_cases n1 : u < 0
  · have d1 := decide_eq_true (num_lt.mpr n1)
    rw [if_pos (.inl n1)]
    unfold Wd.due
    clear G ha hb hc hd hm hF hu hv sm n1
    walk_at "cw"
  · have d1 := decide_eq_false (mt num_lt.mp n1)
    by_cases n2 : v < 0
    · have d2 := decide_eq_true (num_lt.mpr n2)
      rw [if_pos (.inr n2)]
      unfold Wd.due
      clear G ha hb hc hd hm hF hu hv sm n1 n2
      walk_at "cw"
    · have d2 := decide_eq_false (mt num_lt.mp n2)
      rw [if_neg (by rintro (h | h); exact n1 h; exact n2 h)]
      by_cases n3 : m * m * v < u
      · rw [if_pos n3]
        rw [decide_eq_true n3] at b2
        unfold Wd.due
        clear G ha hb hc hd hm hF hu hv sm n1 n2 n3
        walk_at "cw"
      · rw [if_neg n3]
        rw [decide_eq_false n3] at b2
        by_cases n4 : m * m * u < v
        · rw [if_pos n4]
          rw [decide_eq_true n4] at b3
          unfold Wd.due
          clear G ha hb hc hd hm hF hu hv sm n1 n2 n3 n4
          walk_at "cw"
        · rw [if_neg n4]
          rw [decide_eq_false n4] at b3
          unfold Wd.due
          clear G ha hb hc hd hm hF hu hv sm n1 n2 n3 n4
          walk_at "cw"
/-! ### a value is just what is due -/
theorem is_str_ok (G : Sub tab) (k : Nat) (x : Str) (S : Store) : evC fu tab (k + 1) 77 [.str x, .str x] S = .ok (.bl true) S := by
  rw [evC_eq (G 77 _ rfl)]
  unfold tr_77
  clear G
  walk_at "cw"
theorem is_tup1_ok (G : Sub tab) (k : Nat) (x : Str) (S : Store) : ∃ J, evC fu tab (k + 2) 77 [.tup [.str x], .tup [.str x]] S = .ok (.bl true) (S ++ J) := by
  have e := fun S => is_str_ok (fu := fu) G k x S
  rw [evC_eq (G 77 _ rfl)]
  unfold tr_77
  clear G
  exact ⟨_, by walk_at "cw"; rfl⟩
theorem is_tup2_ok (G : Sub tab) (k : Nat) (x y : Str) (S : Store) : ∃ J, evC fu tab (k + 2) 77 [.tup [.str x, .str y], .tup [.str x, .str y]] S = .ok (.bl true) (S ++ J) := by
  have e := fun x S => is_str_ok (fu := fu) G k x S
  rw [evC_eq (G 77 _ rfl)]
  unfold tr_77
  clear G
  exact ⟨_, by walk_at "cw"; rfl⟩
theorem is_due_ok (G : Sub tab) (k : Nat) (w : Wd) (S : Store) : ∃ J, evC fu tab (k + 2) 77 [w.due, w.due] S = .ok (.bl true) (S ++ J) := by
  cases w
  · exact is_tup1_ok G k "plan" S
  · exact is_tup1_ok G k "behind" S
  · exact is_tup2_ok G k "beyond" "u" S
  · exact is_tup2_ok G k "beyond" "v" S
theorem told_so_ok (G : Sub tab) (k : Nat) {a b c d m : Rat} (ha : Sz a 140) (hb : Sz b 140) (hc : Sz c 140) (hd : Sz d 140) (hm : Sz m 20) (h1 : 1 ≤ m) (hF : 2 ^ 9000 ≤ fu) (S : Store) : ∃ J, evC fu tab (k + 8) 74 [evD a b, evD c d, frD m] S = .ok (wdo (c - a) (d - b) m).say (S ++ J) := by
  obtain ⟨J1, e1⟩ := reach_ok (fu := fu) G k ha hb hc hd hm h1 hF S
  obtain ⟨J2, e2⟩ := word_ok (fu := fu) G (k + 2) ha hb hc hd hm hF (S ++ J1)
  rw [told_wdo] at e1
  have q := fun S w => due_plan (S := S) w
  rw [evC_eq (G 74 _ rfl)]
  unfold tr_74
  by_cases h : wdo (c - a) (d - b) m = .plan
  · rw [h] at e1 e2 ⊢
    dsimp only at e1
    generalize evs (quick (c - a) (d - b) m) = L at *
    have e3 := fun S => is_str_ok (fu := fu) G (k + 6) "plan" S
    have q := fun S => q S .plan
    rw [decide_eq_true rfl] at q
    unfold Wd.due at e2 q
    unfold Wd.say
    clear G ha hb hc hd hm h1 hF h
    exact ⟨J1 ++ J2, by walk_at "cw"; simp⟩
  · generalize wdo (c - a) (d - b) m = w at *
    obtain ⟨J3, e3⟩ := is_due_ok (fu := fu) G (k + 5) w (S ++ J1 ++ J2)
    have q := fun S => q S w
    rw [decide_eq_false h] at q
    have e1' : evC fu tab (k + 7) 78 [evD a b, evD c d, frD m] S = .ok w.due (S ++ J1) := by
      rw [e1]
      cases w <;> first | rfl | exact absurd rfl h
    have e4 : w.say = w.due := by cases w <;> first | rfl | exact absurd rfl h
    rw [e4]
    generalize w.due = x at *
    clear G ha hb hc hd hm h1 hF h e1 e4
    exact ⟨J1 ++ J2 ++ J3, by walk_at "cw"; simp⟩
end
/-! ### plain law of the words -/
theorem wdo_plan {u v m : Rat} : wdo u v m = .plan ↔ 0 ≤ u ∧ 0 ≤ v ∧ u ≤ m * m * v ∧ v ≤ m * m * u := by
  unfold wdo
  constructor
  · intro h
    split at h
    · cases h
    · rename_i h1
      split at h
      · cases h
      · rename_i h2
        split at h
        · cases h
        · rename_i h3
          exact ⟨Rat.not_lt.mp fun z => h1 (.inl z), Rat.not_lt.mp fun z => h1 (.inr z), Rat.not_lt.mp h2, Rat.not_lt.mp h3⟩
  · rintro ⟨h1, h2, h3, h4⟩
    rw [if_neg (by rintro (z | z); exact absurd z (Rat.not_lt.mpr h1); exact absurd z (Rat.not_lt.mpr h2)), if_neg (Rat.not_lt.mpr h3), if_neg (Rat.not_lt.mpr h4)]
theorem wdo_zero (m : Rat) : wdo 0 0 m = .plan := wdo_plan.mpr ⟨by decide, by decide, by grind, by grind⟩
theorem wdo_add {u v u' v' m : Rat} (h1 : wdo u v m = .plan) (h2 : wdo u' v' m = .plan) : wdo (u + u') (v + v') m = .plan := by
  obtain ⟨a1, a2, a3, a4⟩ := wdo_plan.mp h1
  obtain ⟨b1, b2, b3, b4⟩ := wdo_plan.mp h2
  exact wdo_plan.mpr ⟨by grind, by grind, by grind, by grind⟩
theorem wdo_more {u v m m' : Rat} (m1 : 0 ≤ m) (hm : m ≤ m') (h1 : wdo u v m = .plan) : wdo u v m' = .plan := by
  obtain ⟨a1, a2, a3, a4⟩ := wdo_plan.mp h1
  have q : m * m ≤ m' * m' := by
    have q1 := Rat.mul_le_mul_of_nonneg_left hm m1
    have q2 := Rat.mul_le_mul_of_nonneg_right hm (show 0 ≤ m' by grind)
    grind
  have q1 := Rat.mul_le_mul_of_nonneg_right q a2
  have q2 := Rat.mul_le_mul_of_nonneg_right q a1
  exact wdo_plan.mpr ⟨a1, a2, by grind, by grind⟩
def Wd.swap : Wd → Wd
  | .plan => .plan
  | .behind => .behind
  | .bu => .bv
  | .bv => .bu
theorem wdo_swap {u v m : Rat} (m1 : 1 ≤ m) : wdo v u m = (wdo u v m).swap := by
  unfold wdo
  by_cases h : u < 0 ∨ v < 0
  · rw [if_pos h, if_pos (Or.comm.mp h)]; rfl
  · rw [if_neg h, if_neg (fun z => h (Or.comm.mp z))]
    have u0 : 0 ≤ u := Rat.not_lt.mp fun z => h (.inl z)
    have v0 : 0 ≤ v := Rat.not_lt.mp fun z => h (.inr z)
    have q : 1 ≤ m * m := by
      have q1 := Rat.mul_le_mul_of_nonneg_left m1 (show 0 ≤ m by grind)
      grind
    by_cases h1 : m * m * v < u
    · have h2 : ¬ m * m * u < v := by
        intro h2
        have q1 := Rat.mul_le_mul_of_nonneg_right q v0
        have q2 := Rat.mul_le_mul_of_nonneg_right q u0
        grind
      simp only [h1, h2, if_true, if_false]; rfl
    · by_cases h2 : m * m * u < v
      · simp only [h1, h2, if_true, if_false]; rfl
      · simp only [h1, h2, if_true, if_false]; rfl
end Cw
namespace Cw
open PySem PySem.Spec PyProof.Rows L2
local macro_rules | `(tactic| walk_at "cw") => `(tactic| simp only [bnd_ok, bnd_exc, varR_some, kk2_eq, v_var, v_cst, v_tup, v_lst, v_bin, v_neg, v_not, andK_t, andK_f, orK_t, orK_f, v_and, v_or, v_cmp, chK_t, chK_f, chJ_eq, v_chain, iteK_t, iteK_f, v_ite, v_idx, slcK_eq, slcL_eq, slcJ_eq, v_slc, optK_int, o_none, o_some, v_rev, rev_tup, callK_eq, callJ_none, callJ_perm, callP_some, permL_nil, permL_cons, permC_some, v_call, v_b1, v_b2, isiK_eq, v_isi, v_m0, v_m1, compE_eq, comp_live, lenL_some, live_eq, liveK_some, liveJ_none, liveJ_some, liveH_some, liveH_none, fr_live, liveF_eq, liveFK_some, liveFJ_none, liveFJ_some, liveFH_nx, liveFH_ct, liveFH_bk, liveFH_rt, nil_get, comp_fix, comp_zip, comp_rng, turnC_eq, turnJ_some, turnK_t, turnK_f, yesK_eq, wipe_nil, wipe_cons, loopL_nil, loopL_cons, loopK_some, loopK_none, zipD_nil, zipD_nil2, zipD_cons, v_comp, es_nil, consJ_eq, consK_eq, es_cons, notJ_eq, andJ_t, andJ_f, orJ_t, orJ_f, b_not, b_and, b_or, b_cmp, b_chain, b_ite, b_var, b_cst, b_call, b_b1, b_isi, b_idx, b_bin, b_comp, ofBl_bl, tru_bl, tru_int, tru_tup, tru_non, c_none', c_some', srcK_tup, srcK_rol, w_var, w_cst, w_tup, w_lst, w_bin, w_idx, w_slc, w_call, w_comp, w_rng, rng2K_eq, w_rng2, zipK_tup, w_zip, w_enum, seqR_nx, seqR_rt, seqR_bk, seqR_ct, seqR_ex, ts_nil, ts_cons, rtE_ok, asgK_eq, t_asg, tgK_some, asgTK_eq, t_asgT, parJ_eq, parK_eq, t_par, par3H_eq, par3J_eq, par3K_eq, t_par3, setJ_eq, setK_eq, t_set, expK_eq, t_exp, retK_eq, t_ret, t_retN, ifK_t, ifK_f, t_if, t_whl, frB_eq, frJ_eq, fr_fix, fr_zip, fr_rng, forL_nil, forL_cons, forK_nx, forK_ct, forK_bk, forK_rt, t_fr, t_pas, t_brk, t_cnt, body_rt, body_nx, body_ex, op_addI, op_subI, op_mulI, op_fdivI, op_modI, op_powI, mkTup_small, alloc_small, idx_R, idxS_some, setH_R, setS_some, setX_some, len_R, lenS_some, len_rol, tup_R, tupS_some, all_R, allS_some, allK_some, src_R, srcS_some, m1J_R, m1S_some, app_R, appX_some, at_new, bls_nil, bls_cons, List.all_cons, List.all_nil, id_eq, Bool.and_true, Bool.and_self,  neg_I, not_B, cop_lt, cop_le, cop_gt, cop_ge, cop_eq, cop_ne, cop_isN, cop_notN, cop_isB, cop_notB, ofOpt_some, eqD_int, eqD_str, b1_lenT, b1_abs, b1_intI, b1_intB, b2_min, b2_max, isi_tup, isi_int, isi_bl, isi_str, idxK_some, idx_tup, idx_rol, atI_0, atI_1, atI_2, atI_3, atI_4, atI_5, atI_6, atI_7, atI_m1_1, atI_m1_2, atI_m2_2, atI_m1_3, atI_m2_3, atI_m3_3, atI_m1_4, atI_m2_4, atI_m3_4, atI_m1_5, atI_m2_5, atI_m3_5, atI_m1_6, atI_m2_6, atI_m3_6, tg_nm, tg_tp, tgs_nil, tgJ_some, tgs_cons, List.getElem?_cons_zero, List.getElem?_cons_succ, List.set_cons_zero, List.set_cons_succ, List.cons_append, List.nil_append, List.map_cons, List.map_nil, startD, List.length_cons, List.length_nil, List.replicate_succ, List.replicate_zero, Nat.reduceAdd, Nat.reduceSub, Int.reduceLE, Int.reduceLT, Int.reduceEq, Int.reduceNe, Nat.reduceLT, Nat.reduceEqDiff, Nat.reduceLeDiff, Int.reduceToNat, Int.reduceNeg, Int.reduceAdd, Int.reduceSub, Int.reduceMul, Int.reducePow, rng1_eq, rngD_0, rngD_s, op_powI, reduceCtorEq, decide_true, decide_false, eq_self, Int.cast_ofNat_Int, Nat.zero_add, Option.map_some, ne_eq, not_false_eq_true, Bool.not_true, Bool.not_false, isNonD, i_ev0, i_ev1, i_fr0, i_fr1, s_ev, g_fr, g_ev, r_ev, k_ev, k_one, k_zero, atI_0, *])
local macro_rules | `(tactic| walk_at "cw0") => `(tactic| simp only [bnd_ok, bnd_exc, varR_some, kk2_eq, v_var, v_cst, v_tup, v_lst, v_bin, v_neg, v_not, andK_t, andK_f, orK_t, orK_f, v_and, v_or, v_cmp, chK_t, chK_f, chJ_eq, v_chain, iteK_t, iteK_f, v_ite, v_idx, slcK_eq, slcL_eq, slcJ_eq, v_slc, optK_int, o_none, o_some, v_rev, rev_tup, callK_eq, callJ_none, callJ_perm, callP_some, permL_nil, permL_cons, permC_some, v_call, v_b1, v_b2, isiK_eq, v_isi, v_m0, v_m1, compE_eq, comp_live, lenL_some, live_eq, liveK_some, liveJ_none, liveJ_some, liveH_some, liveH_none, fr_live, liveF_eq, liveFK_some, liveFJ_none, liveFJ_some, liveFH_nx, liveFH_ct, liveFH_bk, liveFH_rt, nil_get, comp_fix, comp_zip, comp_rng, turnC_eq, turnJ_some, turnK_t, turnK_f, yesK_eq, wipe_nil, wipe_cons, loopL_nil, loopL_cons, loopK_some, loopK_none, zipD_nil, zipD_nil2, zipD_cons, v_comp, es_nil, consJ_eq, consK_eq, es_cons, notJ_eq, andJ_t, andJ_f, orJ_t, orJ_f, b_not, b_and, b_or, b_cmp, b_chain, b_ite, b_var, b_cst, b_call, b_b1, b_isi, b_idx, b_bin, b_comp, ofBl_bl, tru_bl, tru_int, tru_tup, tru_non, c_none', c_some', srcK_tup, srcK_rol, w_var, w_cst, w_tup, w_lst, w_bin, w_idx, w_slc, w_call, w_comp, w_rng, rng2K_eq, w_rng2, zipK_tup, w_zip, w_enum, seqR_nx, seqR_rt, seqR_bk, seqR_ct, seqR_ex, ts_nil, ts_cons, rtE_ok, asgK_eq, t_asg, tgK_some, asgTK_eq, t_asgT, parJ_eq, parK_eq, t_par, par3H_eq, par3J_eq, par3K_eq, t_par3, setJ_eq, setK_eq, t_set, expK_eq, t_exp, retK_eq, t_ret, t_retN, ifK_t, ifK_f, t_if, t_whl, frB_eq, frJ_eq, fr_fix, fr_zip, fr_rng, forL_nil, forL_cons, forK_nx, forK_ct, forK_bk, forK_rt, t_fr, t_pas, t_brk, t_cnt, body_rt, body_nx, body_ex, op_addI, op_subI, op_mulI, op_fdivI, op_modI, op_powI, mkTup_small, alloc_small, idx_R, idxS_some, setH_R, setS_some, setX_some, len_R, lenS_some, len_rol, tup_R, tupS_some, all_R, allS_some, allK_some, src_R, srcS_some, m1J_R, m1S_some, app_R, appX_some, at_new, bls_nil, bls_cons, List.all_cons, List.all_nil, id_eq, Bool.and_true, Bool.and_self,  neg_I, not_B, cop_lt, cop_le, cop_gt, cop_ge, cop_eq, cop_ne, cop_isN, cop_notN, cop_isB, cop_notB, ofOpt_some, eqD_int, eqD_str, b1_lenT, b1_abs, b1_intI, b1_intB, b2_min, b2_max, isi_tup, isi_int, isi_bl, isi_str, idxK_some, idx_tup, idx_rol, atI_0, atI_1, atI_2, atI_3, atI_4, atI_5, atI_6, atI_7, atI_m1_1, atI_m1_2, atI_m2_2, atI_m1_3, atI_m2_3, atI_m3_3, atI_m1_4, atI_m2_4, atI_m3_4, atI_m1_5, atI_m2_5, atI_m3_5, atI_m1_6, atI_m2_6, atI_m3_6, tg_nm, tg_tp, tgs_nil, tgJ_some, tgs_cons, List.getElem?_cons_zero, List.getElem?_cons_succ, List.set_cons_zero, List.set_cons_succ, List.cons_append, List.nil_append, List.map_cons, List.map_nil, startD, List.length_cons, List.length_nil, List.replicate_succ, List.replicate_zero, Nat.reduceAdd, Nat.reduceSub, Int.reduceLE, Int.reduceLT, Int.reduceEq, Int.reduceNe, Nat.reduceLT, Nat.reduceEqDiff, Nat.reduceLeDiff, Int.reduceToNat, Int.reduceNeg, Int.reduceAdd, Int.reduceSub, Int.reduceMul, Int.reducePow, rng1_eq, rngD_0, rngD_s, op_powI, reduceCtorEq, decide_true, decide_false, eq_self, Int.cast_ofNat_Int, Nat.zero_add, Option.map_some, ne_eq, not_false_eq_true, Bool.not_true, Bool.not_false, isNonD, i_ev0, i_ev1, i_fr0, i_fr1, s_ev, g_fr, g_ev, r_ev, k_ev, k_one, k_zero, atI_0])
/-! ### drawn bounds, paces within them, ends -/
def Bd (q : Rat) : Prop := q = 2 ∨ q = 3 ∨ q = 3 / 2 ∨ q = 1 ∨ q = 5 / 2
theorem Bd.sz {q : Rat} (b : Bd q) : Sz q 4 ∧ 1 ≤ q ∧ q ≠ 0 ∧ 0 < q := by
  rcases b with rfl | rfl | rfl | rfl | rfl <;> exact ⟨⟨by decide +kernel, by decide +kernel⟩, by decide +kernel, by decide +kernel, by decide +kernel⟩
theorem Bd.paces {q : Rat} (b : Bd q) : ∀ x ∈ [frD ((q + 1) / 2), frD ((1 / q + 1) / 2), frD q, frD (1 / q), frD 1], ∃ z, x = frD z ∧ 0 < z ∧ Sz z 4 ∧ z ≤ q ∧ 1 ≤ q * z := by
  intro x hx
  simp only [List.mem_cons, List.not_mem_nil, or_false] at hx
  rcases hx with rfl | rfl | rfl | rfl | rfl <;> refine ⟨_, rfl, ?_⟩ <;> rcases b with rfl | rfl | rfl | rfl | rfl <;> exact ⟨by decide +kernel, ⟨by decide +kernel, by decide +kernel⟩, by decide +kernel, by decide +kernel⟩
section
variable {tab : Nat → Option Fd} {fu : Nat}
theorem within_pace_ok (G : Sub tab) (T : TakeOk tab) (k : Nat) {n m : Nat} {q : Rat} {S : Store} (B : Bd q) (p : Pot n S m) (hm : m < 2 ^ 60) (hF : 2 ^ 9000 ≤ fu) :
    ∃ x S', evC fu tab (k + 4) 80 [.ref n, frD q] S = .ok (frD x) S' ∧ 0 < x ∧ Sz x 4 ∧ Pot n S' (m + 1) ∧ Fm n S S' := by
  have hl := p.lt
  obtain ⟨sq, q1, q0, _⟩ := B.sz
  have s1 : Sz (1 : Rat) 1 := ⟨by decide, by decide⟩
  have s2 : Sz (2 : Rat) 2 := ⟨by decide, by decide⟩
  have e1 := fun S => l_over_ok (S := S) (fu := fu) G k s1 sq q0 (by decide) hF
  have e2 := fun S => l_plus_ok (S := S) (fu := fu) G k sq s1 (by decide) hF
  have e3 := fun S => l_plus_ok (S := S) (fu := fu) G k (s1.div sq q0) s1 (by decide) hF
  have e4 := fun S => l_over_ok (S := S) (fu := fu) G k (sq.add s1) s2 (by decide +kernel) (by decide) hF
  have e5 := fun S => l_over_ok (S := S) (fu := fu) G k ((s1.div sq q0).add s1) s2 (by decide +kernel) (by decide) hF
  have k2 : D.tup [.int 2, .int 1] = frD 2 := rfl
  have mem := B.paces
  generalize (q + 1) / 2 = y1 at *
  generalize (1 / q + 1) / 2 = y2 at *
  generalize 1 / q = y3 at *
  obtain ⟨x, S1, hx, e6, p1, f1⟩ := of_ok (fu := fu) G T (k + 1) (((p.app [.lst [frD y1, frD y2]]).app [.lst [frD q, frD y3, frD 1]]).app [.lst [frD y1, frD y2, frD q, frD y3, frD 1]]) hm (j := (S ++ [SO.lst [frD y1, frD y2]] ++ [SO.lst [frD q, frD y3, frD 1]]).length) (at_new _) (by simp; omega) (by simp) (by simp)
  have ha : evBop .add (.ref S.length) (.ref (S ++ [SO.lst [frD y1, frD y2]]).length) (S ++ [SO.lst [frD y1, frD y2]] ++ [SO.lst [frD q, frD y3, frD 1]]) = .ok (.ref (S ++ [SO.lst [frD y1, frD y2]] ++ [SO.lst [frD q, frD y3, frD 1]]).length) (S ++ [SO.lst [frD y1, frD y2]] ++ [SO.lst [frD q, frD y3, frD 1]] ++ [SO.lst [frD y1, frD y2, frD q, frD y3, frD 1]]) := by
    have h1 : (S ++ [SO.lst [frD y1, frD y2]] ++ [SO.lst [frD q, frD y3, frD 1]])[S.length]? = some (.lst [frD y1, frD y2]) := (Gr.app _ _).get (at_new _)
    have h2 : (S ++ [SO.lst [frD y1, frD y2]] ++ [SO.lst [frD q, frD y3, frD 1]])[(S ++ [SO.lst [frD y1, frD y2]]).length]? = some (.lst [frD q, frD y3, frD 1]) := at_new _
    simp only [evBop, h1, h2]
    exact if_pos (show 2 + 3 ≤ sizeLine by decide)
  obtain ⟨z, rfl, z0, zs, _, _⟩ := mem x hx
  refine ⟨z, S1, ?_, z0, zs, p1, (((Fm.app _ _ _).trans (Fm.app _ _ _)).trans (Fm.app _ _ _)).trans f1⟩
  rw [evC_eq (G 80 _ rfl)]
  unfold tr_80
  clear G T B p hm hF hl sq q1 q0 s1 s2 mem hx z0 zs p1 f1
  walk_at "cw"
/-- one lap: gone on from an event -/
theorem lap_ok (G : Sub tab) (T : TakeOk tab) (k : Nat) {n m z : Nat} {a b q : Rat} {S : Store} (B : Bd q) (p : Pot n S m) (hm : m + 1 < 2 ^ 60) (ha : Sz a z) (hb : Sz b z) (hz : z < 1000) (hF : 2 ^ 9000 ≤ fu) :
    ∃ x t c d S1 S2, evC fu tab (k + 4) 80 [.ref n, frD q] S = .ok (frD x) S1 ∧ evC fu tab (k + 4) 28 [.ref n] S1 = .ok (frD t) S2 ∧ evC fu tab (k + 4) 27 [evD a b, frD x, frD t] S2 = .ok (evD c d) S2 ∧ Sz c (z + 9) ∧ Sz d (z + 9) ∧ Pot n S2 (m + 2) ∧ Fm n S S2 := by
  obtain ⟨x, S1, e1, x0, sx, p1, f1⟩ := within_pace_ok (fu := fu) G T k B p (by omega) hF
  obtain ⟨t, S2, e2, t0, st, p2, f2⟩ := frac_time_ok (fu := fu) G T (k + 1) p1 (by omega)
  have e3 := gone_ok (S := S2) (fu := fu) G k ha hb sx st x0 (by omega) hF
  have xn : x ≠ 0 := by intro z; subst z; exact absurd x0 (by decide)
  exact ⟨x, t, _, _, S1, S2, e1, e2, e3, ha.add (sx.mul st), hb.add (st.div sx xn), p2, f1.trans f2⟩
def body75 : Ts := match tr_75 with
  | .cons _ (.cons (.fr _ _ b) _) => b
  | _ => .nil
def body76 : Ts := match tr_76 with
  | .cons _ (.cons _ (.cons _ (.cons _ (.cons (.fr _ _ b) _)))) => b
  | _ => .nil
theorem laps75 (G : Sub tab) (T : TakeOk tab) (k : Nat) {n : Nat} {q : Rat} (B : Bd q) (hF : 2 ^ 9000 ≤ fu) (o1 : Option D) : ∀ (N m z : Nat) (lo : Int) (a b : Rat) (S : Store) (o : Option D), Pot n S m → m + 2 * N < 2 ^ 60 → Sz a z → Sz b z → z + 9 * N < 900 →
    ∃ a' b' o' S', forL (frB fu (evC fu tab (k + 4)) (.nm 4) body75) (rngD lo N) [some (.ref n), o1, some (frD q), some (evD a b), o] S = some (.nx [some (.ref n), o1, some (frD q), some (evD a' b'), o'], S') ∧ Sz a' (z + 9 * N) ∧ Sz b' (z + 9 * N) ∧ Pot n S' (m + 2 * N) ∧ Fm n S S'
  | 0, m, z, lo, a, b, S, o, P, _, ha, hb, _ => ⟨a, b, o, S, by rw [rngD_0, forL_nil], ha, hb, P, Fm.refl _ _⟩
  | N + 1, m, z, lo, a, b, S, o, P, hm, ha, hb, hz => by
    obtain ⟨x, t, c, d, S1, S2, e1, e2, e3, sc, sd, P2, F2⟩ := lap_ok (fu := fu) G T k B P (by omega) ha hb (by omega) hF
    obtain ⟨a', b', o', S', h1, sa, sb, P', F'⟩ := laps75 G T k B hF o1 N (m + 2) (z + 9) (lo + 1) c d S2 (some (.int lo)) P2 (by omega) sc sd (by omega)
    refine ⟨a', b', o', S', ?_, sa.mono (by omega), sb.mono (by omega), P'.mono (by omega), F2.trans F'⟩
    rw [rngD_s, forL_cons]
    have hb1 : frB fu (evC fu tab (k + 4)) (.nm 4) body75 (.int lo) [some (.ref n), o1, some (frD q), some (evD a b), o] S = some (.nx [some (.ref n), o1, some (frD q), some (evD c d), some (.int lo)], S2) := by
      unfold body75 tr_75
      clear G T B hF P hm ha hb hz sc sd P2 F2 h1 sa sb P' F'
      dsimp only
      walk_at "cw"
    rw [hb1, forK_nx]
    exact h1
theorem laps76 (G : Sub tab) (T : TakeOk tab) (k : Nat) {n : Nat} {q : Rat} (B : Bd q) (hF : 2 ^ 9000 ≤ fu) (o1 o4 : Option D) : ∀ (N m z : Nat) (lo : Int) (a b : Rat) (S : Store) (o : Option D), Pot n S m → m + 2 * N < 2 ^ 60 → Sz a z → Sz b z → z + 9 * N < 900 →
    ∃ a' b' o' S', forL (frB fu (evC fu tab (k + 4)) (.nm 3) body76) (rngD lo N) [some (.ref n), o1, some (evD a b), o, o4, some (frD q)] S = some (.nx [some (.ref n), o1, some (evD a' b'), o', o4, some (frD q)], S') ∧ Sz a' (z + 9 * N) ∧ Sz b' (z + 9 * N) ∧ Pot n S' (m + 2 * N) ∧ Fm n S S'
  | 0, m, z, lo, a, b, S, o, P, _, ha, hb, _ => ⟨a, b, o, S, by rw [rngD_0, forL_nil], ha, hb, P, Fm.refl _ _⟩
  | N + 1, m, z, lo, a, b, S, o, P, hm, ha, hb, hz => by
    obtain ⟨x, t, c, d, S1, S2, e1, e2, e3, sc, sd, P2, F2⟩ := lap_ok (fu := fu) G T k B P (by omega) ha hb (by omega) hF
    obtain ⟨a', b', o', S', h1, sa, sb, P', F'⟩ := laps76 G T k B hF o1 o4 N (m + 2) (z + 9) (lo + 1) c d S2 (some (.int lo)) P2 (by omega) sc sd (by omega)
    refine ⟨a', b', o', S', ?_, sa.mono (by omega), sb.mono (by omega), P'.mono (by omega), F2.trans F'⟩
    rw [rngD_s, forL_cons]
    have hb1 : frB fu (evC fu tab (k + 4)) (.nm 3) body76 (.int lo) [some (.ref n), o1, some (evD a b), o, o4, some (frD q)] S = some (.nx [some (.ref n), o1, some (evD c d), some (.int lo), o4, some (frD q)], S2) := by
      unfold body76 tr_76
      clear G T B hF P hm ha hb hz sc sd P2 F2 h1 sa sb P' F'
      dsimp only
      walk_at "cw"
    rw [hb1, forK_nx]
    exact h1
theorem third_ok (G : Sub tab) (T : TakeOk tab) (k : Nat) {n m : Nat} {a b q : Rat} {S : Store} (B : Bd q) (P : Pot n S m) (hm : m + 20 < 2 ^ 60) (ha : Sz a 60) (hb : Sz b 60) (hF : 2 ^ 9000 ≤ fu) :
    ∃ c d S', evC fu tab (k + 5) 75 [.ref n, evD a b, frD q] S = .ok (evD c d) S' ∧ Sz c 90 ∧ Sz d 90 ∧ Pot n S' (m + 10) ∧ Fm n S S' := by
  obtain ⟨N, S1, e1, n0, n1, P1, F1⟩ := take_ok (fu := fu) T (k + 3) P (by omega) (u := 3) (by decide) (by decide)
  have hr : evRng1 (.int N) S1 = .ok (.rng 0 N.toNat) S1 := rng1_eq (by omega) (by omega)
  obtain ⟨a', b', o', S2, h1, sa, sb, P2, F2⟩ := laps75 (fu := fu) G T k B hF (some (evD a b)) N.toNat (m + 1) 60 0 a b S1 none P1 (by omega) ha hb (by omega)
  obtain ⟨t, S3, e3, t0, t1, P3, F3⟩ := take_ok (fu := fu) T (k + 3) P2 (by omega) (u := 4) (by decide) (by decide)
  unfold body75 tr_75 at h1
  dsimp only at h1
  by_cases h : 0 < t
  · have hd := decide_eq_true h
    refine ⟨a', b', S3, ?_, sa.mono (by omega), sb.mono (by omega), P3.mono (by omega), (F1.trans F2).trans F3⟩
    rw [evC_eq (G 75 _ rfl)]
    unfold tr_75
    clear G T B P hm ha hb hF n0 n1 P1 F1 sa sb P2 F2 t0 t1 P3 F3 h
    walk_at "cw"
  · have hd := decide_eq_false h
    obtain ⟨c, d, S4, e4, sc, sd, P4, F4⟩ := event_drawn_ok (fu := fu) G T k P3 (by omega) hF
    refine ⟨c, d, S4, ?_, sc.mono (by omega), sd.mono (by omega), P4.mono (by omega), ((F1.trans F2).trans F3).trans F4⟩
    rw [evC_eq (G 75 _ rfl)]
    unfold tr_75
    clear G T B P hm ha hb hF n0 n1 P1 F1 sa sb P2 F2 t0 t1 P3 F3 h sc sd P4 F4
    walk_at "cw"
theorem fr_lit {q : Rat} {a : Int} {b : Nat} (h1 : q.num = a) (h2 : q.den = b) : frD q = .tup [.int a, .int b] := by
  unfold frD
  rw [h1, h2]
theorem bound_of {x : D} (hx : x ∈ [D.tup [.int 2, .int 1], .tup [.int 3, .int 1], .tup [.int 3, .int 2], .tup [.int 1, .int 1], .tup [.int 5, .int 2]]) : ∃ q, x = frD q ∧ Bd q := by
  simp only [List.mem_cons, List.not_mem_nil, or_false] at hx
  have h3 : frD (3 / 2) = .tup [.int 3, .int 2] := fr_lit (by decide +kernel) (by decide +kernel)
  have h5 : frD (5 / 2) = .tup [.int 5, .int 2] := fr_lit (by decide +kernel) (by decide +kernel)
  rcases hx with rfl | rfl | rfl | rfl | rfl
  · exact ⟨2, rfl, .inl rfl⟩
  · exact ⟨3, rfl, .inr (.inl rfl)⟩
  · exact ⟨3 / 2, h3.symm, .inr (.inr (.inl rfl))⟩
  · exact ⟨1, rfl, .inr (.inr (.inr (.inl rfl)))⟩
  · exact ⟨5 / 2, h5.symm, .inr (.inr (.inr (.inr rfl)))⟩
local macro_rules | `(tactic| walk_at "cw") => `(tactic| simp only [bnd_ok, bnd_exc, varR_some, kk2_eq, v_var, v_cst, v_tup, v_lst, v_bin, v_neg, v_not, andK_t, andK_f, orK_t, orK_f, v_and, v_or, v_cmp, chK_t, chK_f, chJ_eq, v_chain, iteK_t, iteK_f, v_ite, v_idx, slcK_eq, slcL_eq, slcJ_eq, v_slc, optK_int, o_none, o_some, v_rev, rev_tup, callK_eq, callJ_none, callJ_perm, callP_some, permL_nil, permL_cons, permC_some, v_call, v_b1, v_b2, isiK_eq, v_isi, v_m0, v_m1, compE_eq, comp_live, lenL_some, live_eq, liveK_some, liveJ_none, liveJ_some, liveH_some, liveH_none, fr_live, liveF_eq, liveFK_some, liveFJ_none, liveFJ_some, liveFH_nx, liveFH_ct, liveFH_bk, liveFH_rt, nil_get, comp_fix, comp_zip, comp_rng, turnC_eq, turnJ_some, turnK_t, turnK_f, yesK_eq, wipe_nil, wipe_cons, loopL_nil, loopL_cons, loopK_some, loopK_none, zipD_nil, zipD_nil2, zipD_cons, v_comp, es_nil, consJ_eq, consK_eq, es_cons, notJ_eq, andJ_t, andJ_f, orJ_t, orJ_f, b_not, b_and, b_or, b_cmp, b_chain, b_ite, b_var, b_cst, b_call, b_b1, b_isi, b_idx, b_bin, b_comp, ofBl_bl, tru_bl, tru_int, tru_tup, tru_non, c_none', c_some', srcK_tup, srcK_rol, w_var, w_cst, w_tup, w_lst, w_bin, w_idx, w_slc, w_call, w_comp, w_rng, rng2K_eq, w_rng2, zipK_tup, w_zip, w_enum, seqR_nx, seqR_rt, seqR_bk, seqR_ct, seqR_ex, ts_nil, ts_cons, rtE_ok, asgK_eq, t_asg, tgK_some, asgTK_eq, t_asgT, parJ_eq, parK_eq, t_par, par3H_eq, par3J_eq, par3K_eq, t_par3, setJ_eq, setK_eq, t_set, expK_eq, t_exp, retK_eq, t_ret, t_retN, ifK_t, ifK_f, t_if, t_whl, frB_eq, frJ_eq, fr_fix, fr_zip, fr_rng, forL_nil, forL_cons, forK_nx, forK_ct, forK_bk, forK_rt, t_fr, t_pas, t_brk, t_cnt, body_rt, body_nx, body_ex, op_addI, op_subI, op_mulI, op_fdivI, op_modI, op_powI, mkTup_small, alloc_small, idx_R, idxS_some, setH_R, setS_some, setX_some, len_R, lenS_some, len_rol, tup_R, tupS_some, all_R, allS_some, allK_some, src_R, srcS_some, m1J_R, m1S_some, app_R, appX_some, at_new, bls_nil, bls_cons, List.all_cons, List.all_nil, id_eq, Bool.and_true, Bool.and_self,  neg_I, not_B, cop_lt, cop_le, cop_gt, cop_ge, cop_eq, cop_ne, cop_isN, cop_notN, cop_isB, cop_notB, ofOpt_some, eqD_int, eqD_str, b1_lenT, b1_abs, b1_intI, b1_intB, b2_min, b2_max, isi_tup, isi_int, isi_bl, isi_str, idxK_some, idx_tup, idx_rol, atI_0, atI_1, atI_2, atI_3, atI_4, atI_5, atI_6, atI_7, atI_m1_1, atI_m1_2, atI_m2_2, atI_m1_3, atI_m2_3, atI_m3_3, atI_m1_4, atI_m2_4, atI_m3_4, atI_m1_5, atI_m2_5, atI_m3_5, atI_m1_6, atI_m2_6, atI_m3_6, tg_nm, tg_tp, tgs_nil, tgJ_some, tgs_cons, List.getElem?_cons_zero, List.getElem?_cons_succ, List.set_cons_zero, List.set_cons_succ, List.cons_append, List.nil_append, List.map_cons, List.map_nil, startD, List.length_cons, List.length_nil, List.replicate_succ, List.replicate_zero, Nat.reduceAdd, Nat.reduceSub, Int.reduceLE, Int.reduceLT, Int.reduceEq, Int.reduceNe, Nat.reduceLT, Nat.reduceEqDiff, Nat.reduceLeDiff, Int.reduceToNat, Int.reduceNeg, Int.reduceAdd, Int.reduceSub, Int.reduceMul, Int.reducePow, rng1_eq, rngD_0, rngD_s, op_powI, reduceCtorEq, decide_true, decide_false, eq_self, Int.cast_ofNat_Int, Nat.zero_add, Option.map_some, ne_eq, not_false_eq_true, Bool.not_true, Bool.not_false, isNonD, i_ev0, i_ev1, i_fr0, i_fr1, s_ev, g_fr, g_ev, r_ev, k_ev, atI_0, *])
local macro_rules | `(tactic| walk_at "cw0") => `(tactic| simp only [bnd_ok, bnd_exc, varR_some, kk2_eq, v_var, v_cst, v_tup, v_lst, v_bin, v_neg, v_not, andK_t, andK_f, orK_t, orK_f, v_and, v_or, v_cmp, chK_t, chK_f, chJ_eq, v_chain, iteK_t, iteK_f, v_ite, v_idx, slcK_eq, slcL_eq, slcJ_eq, v_slc, optK_int, o_none, o_some, v_rev, rev_tup, callK_eq, callJ_none, callJ_perm, callP_some, permL_nil, permL_cons, permC_some, v_call, v_b1, v_b2, isiK_eq, v_isi, v_m0, v_m1, compE_eq, comp_live, lenL_some, live_eq, liveK_some, liveJ_none, liveJ_some, liveH_some, liveH_none, fr_live, liveF_eq, liveFK_some, liveFJ_none, liveFJ_some, liveFH_nx, liveFH_ct, liveFH_bk, liveFH_rt, nil_get, comp_fix, comp_zip, comp_rng, turnC_eq, turnJ_some, turnK_t, turnK_f, yesK_eq, wipe_nil, wipe_cons, loopL_nil, loopL_cons, loopK_some, loopK_none, zipD_nil, zipD_nil2, zipD_cons, v_comp, es_nil, consJ_eq, consK_eq, es_cons, notJ_eq, andJ_t, andJ_f, orJ_t, orJ_f, b_not, b_and, b_or, b_cmp, b_chain, b_ite, b_var, b_cst, b_call, b_b1, b_isi, b_idx, b_bin, b_comp, ofBl_bl, tru_bl, tru_int, tru_tup, tru_non, c_none', c_some', srcK_tup, srcK_rol, w_var, w_cst, w_tup, w_lst, w_bin, w_idx, w_slc, w_call, w_comp, w_rng, rng2K_eq, w_rng2, zipK_tup, w_zip, w_enum, seqR_nx, seqR_rt, seqR_bk, seqR_ct, seqR_ex, ts_nil, ts_cons, rtE_ok, asgK_eq, t_asg, tgK_some, asgTK_eq, t_asgT, parJ_eq, parK_eq, t_par, par3H_eq, par3J_eq, par3K_eq, t_par3, setJ_eq, setK_eq, t_set, expK_eq, t_exp, retK_eq, t_ret, t_retN, ifK_t, ifK_f, t_if, t_whl, frB_eq, frJ_eq, fr_fix, fr_zip, fr_rng, forL_nil, forL_cons, forK_nx, forK_ct, forK_bk, forK_rt, t_fr, t_pas, t_brk, t_cnt, body_rt, body_nx, body_ex, op_addI, op_subI, op_mulI, op_fdivI, op_modI, op_powI, mkTup_small, alloc_small, idx_R, idxS_some, setH_R, setS_some, setX_some, len_R, lenS_some, len_rol, tup_R, tupS_some, all_R, allS_some, allK_some, src_R, srcS_some, m1J_R, m1S_some, app_R, appX_some, at_new, bls_nil, bls_cons, List.all_cons, List.all_nil, id_eq, Bool.and_true, Bool.and_self,  neg_I, not_B, cop_lt, cop_le, cop_gt, cop_ge, cop_eq, cop_ne, cop_isN, cop_notN, cop_isB, cop_notB, ofOpt_some, eqD_int, eqD_str, b1_lenT, b1_abs, b1_intI, b1_intB, b2_min, b2_max, isi_tup, isi_int, isi_bl, isi_str, idxK_some, idx_tup, idx_rol, atI_0, atI_1, atI_2, atI_3, atI_4, atI_5, atI_6, atI_7, atI_m1_1, atI_m1_2, atI_m2_2, atI_m1_3, atI_m2_3, atI_m3_3, atI_m1_4, atI_m2_4, atI_m3_4, atI_m1_5, atI_m2_5, atI_m3_5, atI_m1_6, atI_m2_6, atI_m3_6, tg_nm, tg_tp, tgs_nil, tgJ_some, tgs_cons, List.getElem?_cons_zero, List.getElem?_cons_succ, List.set_cons_zero, List.set_cons_succ, List.cons_append, List.nil_append, List.map_cons, List.map_nil, startD, List.length_cons, List.length_nil, List.replicate_succ, List.replicate_zero, Nat.reduceAdd, Nat.reduceSub, Int.reduceLE, Int.reduceLT, Int.reduceEq, Int.reduceNe, Nat.reduceLT, Nat.reduceEqDiff, Nat.reduceLeDiff, Int.reduceToNat, Int.reduceNeg, Int.reduceAdd, Int.reduceSub, Int.reduceMul, Int.reducePow, rng1_eq, rngD_0, rngD_s, op_powI, reduceCtorEq, decide_true, decide_false, eq_self, Int.cast_ofNat_Int, Nat.zero_add, Option.map_some, ne_eq, not_false_eq_true, Bool.not_true, Bool.not_false, isNonD, i_ev0, i_ev1, i_fr0, i_fr1, s_ev, g_fr, g_ev, r_ev, k_ev, atI_0])
theorem ends_ok (G : Sub tab) (T : TakeOk tab) (k : Nat) {n m : Nat} {S : Store} (P : Pot n S m) (hm : m + 30 < 2 ^ 60) (hF : 2 ^ 9000 ≤ fu) :
    ∃ a b c d q S', evC fu tab (k + 5) 76 [.ref n] S = .ok (.tup [evD a b, evD c d, frD q]) S' ∧ Sz a 14 ∧ Sz b 14 ∧ Sz c 60 ∧ Sz d 60 ∧ Bd q ∧ Pot n S' (m + 20) ∧ Fm n S S' := by
  obtain ⟨a, b, S1, e1, sa, sb, P1, F1⟩ := event_drawn_ok (fu := fu) G T k P (by omega) hF
  have hl := P1.lt
  obtain ⟨x, S2, hx, e2, P2, F2⟩ := of_ok (fu := fu) G T (k + 2) (P1.app [.lst [.tup [.int 2, .int 1], .tup [.int 3, .int 1], .tup [.int 3, .int 2], .tup [.int 1, .int 1], .tup [.int 5, .int 2]]]) (by omega) (j := S1.length) (at_new _) (by omega) (by decide) (by decide)
  obtain ⟨q, rfl, B⟩ := bound_of hx
  obtain ⟨w, S3, e3, w0, w1, P3, F3⟩ := take_ok (fu := fu) T (k + 3) P2 (by omega) (u := 6) (by decide) (by decide)
  have F123 := (F1.trans (Fm.app n S1 [.lst [.tup [.int 2, .int 1], .tup [.int 3, .int 1], .tup [.int 3, .int 2], .tup [.int 1, .int 1], .tup [.int 5, .int 2]]])).trans (F2.trans F3)
  by_cases hw : w = 0
  · obtain ⟨c, d, S4, e4, sc, sd, P4, F4⟩ := event_drawn_ok (fu := fu) G T k P3 (by omega) hF
    refine ⟨a, b, c, d, q, S4, ?_, sa, sb, sc.mono (by decide), sd.mono (by decide), B, P4.mono (by omega), F123.trans F4⟩
    have hd := decide_eq_true hw
    rw [evC_eq (G 76 _ rfl)]
    unfold tr_76
    clear G T P hm hF sa sb P1 F1 hl hx P2 F2 B w0 w1 P3 F3 F123 hw sc sd P4 F4
    walk_at "cw0"
    walk_at "cw"
  · obtain ⟨N, S4, e4, n0, n1, P4, F4⟩ := take_ok (fu := fu) T (k + 3) P3 (by omega) (u := 3) (by decide) (by decide)
    have hr : evRng1 (.int (1 + N)) S4 = .ok (.rng 0 (1 + N).toNat) S4 := rng1_eq (by omega) (by omega)
    obtain ⟨c, d, o', S5, h5, sc, sd, P5, F5⟩ := laps76 (fu := fu) G T k B hF (some (.int w)) (some (evD a b)) (1 + N).toNat (m + 4 + 1 + 1 + 1) 14 0 a b S4 none P4 (by omega) sa sb (by omega)
    unfold body76 tr_76 at h5
    dsimp only at h5
    have hd := decide_eq_false hw
    by_cases hw1 : w = 1
    · obtain ⟨t, S6, e6, t0, st, P6, F6⟩ := frac_time_ok (fu := fu) G T (k + 1) P5 (by omega)
      have e7 := l_plus_ok (S := S6) (fu := fu) G (k + 1) (sc.mono (show 14 + 9 * (1 + N).toNat ≤ 41 by omega)) st (by decide) hF
      refine ⟨a, b, c + t, d, q, S6, ?_, sa, sb, ((sc.mono (show 14 + 9 * (1 + N).toNat ≤ 41 by omega)).add st).mono (by decide), sd.mono (by omega), B, P6.mono (by omega), ((F123.trans F4).trans F5).trans F6⟩
      subst hw1
      rw [evC_eq (G 76 _ rfl)]
      unfold tr_76
      clear G T P hm hF sa sb P1 F1 hl hx P2 F2 B w0 w1 P3 F3 F123 hw n0 n1 P4 F4 sc sd P5 F5 t0 st P6 F6
      walk_at "cw"
    · have hd1 := decide_eq_false hw1
      by_cases hw2 : w = 2
      · obtain ⟨t, S6, e6, t0, st, P6, F6⟩ := take_ok (fu := fu) T (k + 3) P5 (by omega) (u := 3) (by decide) (by decide)
        by_cases ht : t = 0
        · have hdt := decide_eq_true ht
          refine ⟨a, b, a, b, q, S6, ?_, sa, sb, sa.mono (by decide), sb.mono (by decide), B, P6.mono (by omega), ((F123.trans F4).trans F5).trans F6⟩
          subst hw2
          rw [evC_eq (G 76 _ rfl)]
          unfold tr_76
          clear G T P hm hF sa sb P1 F1 hl hx P2 F2 B w0 w1 P3 F3 F123 hw hw1 n0 n1 P4 F4 sc sd P5 F5 t0 st P6 F6 ht
          walk_at "cw"
        · have hdt := decide_eq_false ht
          refine ⟨a, b, c, d, q, S6, ?_, sa, sb, sc.mono (by omega), sd.mono (by omega), B, P6.mono (by omega), ((F123.trans F4).trans F5).trans F6⟩
          subst hw2
          rw [evC_eq (G 76 _ rfl)]
          unfold tr_76
          clear G T P hm hF sa sb P1 F1 hl hx P2 F2 B w0 w1 P3 F3 F123 hw hw1 n0 n1 P4 F4 sc sd P5 F5 t0 st P6 F6 ht
          walk_at "cw"
      · have hd2 := decide_eq_false hw2
        refine ⟨a, b, c, d, q, S5, ?_, sa, sb, sc.mono (by omega), sd.mono (by omega), B, P5.mono (by omega), (F123.trans F4).trans F5⟩
        rw [evC_eq (G 76 _ rfl)]
        unfold tr_76
        clear G T P hm hF sa sb P1 F1 hl hx P2 F2 B w0 w1 P3 F3 F123 hw hw1 hw2 n0 n1 P4 F4 sc sd P5 F5
        walk_at "cw"
end
end Cw
namespace Cw
open PySem PySem.Spec PyProof.Rows L2
/-! ### pieces of a wished own time: plain law -/
def fstP (u v m t : Rat) : Rat := if u / m + v * m - (t + t) = 0 then t else (u * v - t * t) / (u / m + v * m - (t + t))
def last (u v m t : Rat) : List (Rat × Rat) :=
  if t - fstP u v m t = 0 then lastP [(m, fstP u v m t)] else lastP [(m, fstP u v m t), ((u - m * fstP u v m t) / (t - fstP u v m t), t - fstP u v m t)]
theorem nnm {x b : Rat} (hb : 0 < b) (h : 0 ≤ x * b) : 0 ≤ x := by
  refine Rat.not_lt.mp fun hx => ?_
  have h1 := Rat.mul_pos (show 0 < -x by grind) hb
  grind
theorem sq_nn (x : Rat) : 0 ≤ x * x := by
  rcases (Rat.le_total : 0 ≤ x ∨ x ≤ 0) with h | h
  · exact Rat.mul_nonneg h h
  · have := Rat.mul_nonneg (show 0 ≤ -x by grind) (show 0 ≤ -x by grind)
    grind
theorem sq_zero {x : Rat} (h : x * x ≤ 0) : x = 0 := by
  have h1 := sq_nn x
  have h2 : x * x = 0 := by grind
  rcases Rat.mul_eq_zero.mp h2 with h | h <;> exact h
theorem ne0 {x : Rat} (h : 0 < x) : x ≠ 0 := by intro z; subst z; exact absurd h (by decide)
theorem can {x y b : Rat} (hb : b ≠ 0) (h : x * b = y * b) : x = y := by
  have h1 : (x - y) * b = 0 := by grind
  rcases Rat.mul_eq_zero.mp h1 with z | z
  · grind
  · exact absurd z hb
theorem div_of {x y b : Rat} (hb : b ≠ 0) (h : x = y * b) : x / b = y := by
  have e : b * b⁻¹ = 1 := Rat.mul_inv_cancel _ hb
  rw [h, Rat.div_def, Rat.mul_assoc, e, Rat.mul_one]
theorem div_mulc {x b : Rat} (hb : b ≠ 0) : x / b * b = x := by
  have e : b⁻¹ * b = 1 := Rat.inv_mul_cancel _ hb
  rw [Rat.div_def, Rat.mul_assoc, e, Rat.mul_one]
structure Flw (u v m f r : Rat) : Prop where
  f0 : 0 ≤ f
  r0 : 0 ≤ r
  one : r = 0 → u = m * f ∧ v = f / m
  lo : r ≠ 0 → m⁻¹ ≤ (u - m * f) / r
  hi : r ≠ 0 → (u - m * f) / r ≤ m
  hu : r ≠ 0 → m * f + (u - m * f) / r * r = u
  hv : r ≠ 0 → f / m + r / ((u - m * f) / r) = v
theorem fl_of {u v m t : Rat} (m1 : 1 ≤ m) (u0 : 0 ≤ u) (v0 : 0 ≤ v) (hu : u ≤ m * m * v) (hv : v ≤ m * m * u) (ht : ¬ t < (u + v) / (m + m⁻¹)) (hs : ¬ u * v < t * t) : Flw u v m (fstP u v m t) (t - fstP u v m t) := by
  have m0 : 0 < m := by grind
  have n0 := inv_pos m0
  have mn : m * m⁻¹ = 1 := Rat.mul_inv_cancel _ (by grind)
  unfold fstP
  rw [Rat.div_def] at *
  have hdm : ∀ x : Rat, x / m = x * m⁻¹ := fun x => Rat.div_def x m
  have hs0 : 0 < m + m⁻¹ := by grind
  have mn2 : (m + m⁻¹) * (m + m⁻¹)⁻¹ = 1 := Rat.mul_inv_cancel _ (by grind)
  -- t is at least the least
  have ht1 : u + v ≤ t * (m + m⁻¹) := by
    have h1 := Rat.mul_le_mul_of_nonneg_right (Rat.not_lt.mp ht) (Rat.le_of_lt hs0)
    have e : (u + v) * (m + m⁻¹)⁻¹ * (m + m⁻¹) = u + v := by grind
    grind
  have t0 : 0 ≤ t := nnm hs0 (by grind)
  generalize hn : m⁻¹ = n at *
  have hs1 : t * t ≤ u * v := Rat.not_lt.mp hs
  clear ht hs mn2
  -- the two gaps
  have hP : ∃ P, P = t - u * n := ⟨_, rfl⟩
  have hQ : ∃ Q, Q = v * m - t := ⟨_, rfl⟩
  obtain ⟨P, hP⟩ := hP
  obtain ⟨Q, hQ⟩ := hQ
  have eu : u = m * (t - P) := by grind
  have ev : v = n * (Q + t) := by grind
  have L : n * Q ≤ m * P := by grind
  have vn : u * n * n ≤ v := by
    have h1 := Rat.mul_le_mul_of_nonneg_right (Rat.mul_le_mul_of_nonneg_right hu (Rat.le_of_lt n0)) (Rat.le_of_lt n0)
    grind
  have P0 : 0 ≤ P := nnm hs0 (by
    have e : P * (m + n) = t * (m + n) - u - u * n * n := by grind
    grind)
  have Q0 : 0 ≤ Q := by
    refine Rat.not_lt.mp fun hq => ?_
    have a1 : v * m < t := by grind
    have a2 : 0 ≤ v * m := Rat.mul_nonneg v0 (Rat.le_of_lt m0)
    have a3 : 0 < t := by grind
    have a4 := Rat.mul_lt_mul_of_pos_right a1 a3
    have a5 := Rat.mul_le_mul_of_nonneg_right (Rat.le_of_lt a1) a2
    have a6 := Rat.mul_le_mul_of_nonneg_right hu v0
    grind
  have eb : u * n + v * m - (t + t) = Q - P := by grind
  have ex : u * v - t * t = t * (Q - P) - P * Q := by grind
  have x0 : 0 ≤ t * (Q - P) - P * Q := by grind
  rw [eb, ex]
  by_cases hb : Q - P = 0
  · rw [if_pos hb]
    have pz : P = 0 := sq_zero (by have : Q = P := by grind
                                   subst this; grind)
    have qz : Q = 0 := by grind
    exact ⟨t0, by grind, fun _ => ⟨by grind, by rw [hdm]; grind⟩, fun z => absurd (by grind) z, fun z => absurd (by grind) z, fun z => absurd (by grind) z, fun z => absurd (by grind) z⟩
  · rw [if_neg hb]
    have b0 : 0 < Q - P := by
      refine Rat.not_le.mp fun hle => ?_
      have h1 : 0 ≤ P * Q := Rat.mul_nonneg P0 Q0
      have h2 := Rat.mul_nonneg t0 (show 0 ≤ P - Q by grind)
      have h3 : P * Q = 0 := by grind
      have h4 : t * (P - Q) = 0 := by grind
      rcases Rat.mul_eq_zero.mp h4 with z | z
      · have pz : P = 0 := by
          have := Rat.mul_nonneg u0 (Rat.le_of_lt n0)
          grind
        grind
      · grind
    obtain ⟨f, hf⟩ : ∃ f, f = (t * (Q - P) - P * Q) / (Q - P) := ⟨_, rfl⟩
    rw [← hf]
    have ef : f * (Q - P) = t * (Q - P) - P * Q := by rw [hf]; grind
    obtain ⟨r, hr⟩ : ∃ r, r = t - f := ⟨_, rfl⟩
    rw [← hr]
    have er : r * (Q - P) = P * Q := by grind
    have q0 : 0 < Q := by grind
    have f0 : 0 ≤ f := nnm b0 (by grind)
    have r0 : 0 ≤ r := nnm b0 (by rw [er]; exact Rat.mul_nonneg P0 Q0)
    clear hf
    have nz : r ≠ 0 → 0 < P := by
      intro z
      refine Rat.not_le.mp fun hle => z ?_
      have : P = 0 := by grind
      subst this
      have e2 : r * (Q - 0) = 0 := by grind
      rcases Rat.mul_eq_zero.mp e2 with h | h
      · exact h
      · grind
    have ep : r ≠ 0 → (u - m * f) / r = m * P / Q := by
      intro z
      have p0 := nz z
      have e1 : u - m * f = m * (r - P) := by grind
      have e2 : (r - P) * (Q - P) = P * P := by grind
      have e3 : (r - P) * Q = r * P := by
        have e4 : (r - P) * Q * (Q - P) = r * P * (Q - P) := by grind
        exact can (by grind) e4
      have ep : m * P / Q * Q = m * P := div_mulc (by grind)
      refine div_of z ?_
      generalize m * P / Q = p at *
      refine can (b := Q) (by grind) ?_
      clear hdm
      grind
    have pq : m * P / Q * Q = m * P := div_mulc (by grind)
    have qq : Q * Q⁻¹ = 1 := Rat.mul_inv_cancel _ (by grind)
    refine ⟨f0, r0, fun z => ?_, fun z => ?_, fun z => ?_, fun z => ?_, fun z => ?_⟩
    · have h1 : P * Q = 0 := by grind
      rcases Rat.mul_eq_zero.mp h1 with h | h
      · subst h
        have h2 : n * Q ≤ 0 := by grind
        have h3 := Rat.mul_pos n0 q0
        grind
      · grind
    · rw [ep z, hn, Rat.div_def]
      have h1 := Rat.mul_le_mul_of_nonneg_right L (Rat.le_of_lt (inv_pos q0))
      rw [Rat.mul_assoc n, qq, Rat.mul_one] at h1
      exact h1
    · rw [ep z, Rat.div_def]
      have h0 : P ≤ Q := by grind
      have h1 := Rat.mul_le_mul_of_nonneg_right (Rat.mul_le_mul_of_nonneg_left h0 (Rat.le_of_lt m0)) (Rat.le_of_lt (inv_pos q0))
      rw [Rat.mul_assoc m Q, qq, Rat.mul_one] at h1
      exact h1
    · rw [div_mulc z]; grind
    · have p0 := nz z
      rw [ep z, hdm]
      have pp : 0 < m * P / Q := by
        rw [Rat.div_def]
        exact Rat.mul_pos (Rat.mul_pos m0 p0) (inv_pos q0)
      generalize m * P / Q = p at *
      have ey : r / p * p = r := div_mulc (ne0 pp)
      generalize r / p = y at *
      have c1 : y * m * P = r * Q := by
        have : y * (m * P) = y * p * Q := by rw [← pq, Rat.mul_assoc]
        rw [Rat.mul_assoc, this, ey]
      have c2 : y * m * (Q - P) * P = Q * Q * P := by
        have a1 : y * m * (Q - P) * P = y * m * P * (Q - P) := by grind
        rw [a1, c1]
        have a2 : r * Q * (Q - P) = r * (Q - P) * Q := by grind
        rw [a2, er]
        grind
      have c3 : y * m * (Q - P) = Q * Q := can (ne0 p0) c2
      refine can (b := Q - P) hb ?_
      have c4 : y * (Q - P) = n * Q * Q := by
        have a1 : y * (Q - P) = y * (m * n) * (Q - P) := by rw [mn, Rat.mul_one]
        have a2 : y * (m * n) * (Q - P) = n * (y * m * (Q - P)) := by grind
        rw [a1, a2, c3]; grind
      have c5 : f * n * (Q - P) = n * (f * (Q - P)) := by grind
      rw [Rat.add_mul, c4, c5, ef, ev]
      grind
end Cw
namespace Cw
open PySem PySem.Spec PyProof.Rows L2
local macro_rules | `(tactic| walk_at "cw") => `(tactic| simp only [bnd_ok, bnd_exc, varR_some, kk2_eq, v_var, v_cst, v_tup, v_lst, v_bin, v_neg, v_not, andK_t, andK_f, orK_t, orK_f, v_and, v_or, v_cmp, chK_t, chK_f, chJ_eq, v_chain, iteK_t, iteK_f, v_ite, v_idx, slcK_eq, slcL_eq, slcJ_eq, v_slc, optK_int, o_none, o_some, v_rev, rev_tup, callK_eq, callJ_none, callJ_perm, callP_some, permL_nil, permL_cons, permC_some, v_call, v_b1, v_b2, isiK_eq, v_isi, v_m0, v_m1, compE_eq, comp_live, lenL_some, live_eq, liveK_some, liveJ_none, liveJ_some, liveH_some, liveH_none, fr_live, liveF_eq, liveFK_some, liveFJ_none, liveFJ_some, liveFH_nx, liveFH_ct, liveFH_bk, liveFH_rt, nil_get, comp_fix, comp_zip, comp_rng, turnC_eq, turnJ_some, turnK_t, turnK_f, yesK_eq, wipe_nil, wipe_cons, loopL_nil, loopL_cons, loopK_some, loopK_none, zipD_nil, zipD_nil2, zipD_cons, v_comp, es_nil, consJ_eq, consK_eq, es_cons, notJ_eq, andJ_t, andJ_f, orJ_t, orJ_f, b_not, b_and, b_or, b_cmp, b_chain, b_ite, b_var, b_cst, b_call, b_b1, b_isi, b_idx, b_bin, b_comp, ofBl_bl, tru_bl, tru_int, tru_tup, tru_non, c_none', c_some', srcK_tup, srcK_rol, w_var, w_cst, w_tup, w_lst, w_bin, w_idx, w_slc, w_call, w_comp, w_rng, rng2K_eq, w_rng2, zipK_tup, w_zip, w_enum, seqR_nx, seqR_rt, seqR_bk, seqR_ct, seqR_ex, ts_nil, ts_cons, rtE_ok, asgK_eq, t_asg, tgK_some, asgTK_eq, t_asgT, parJ_eq, parK_eq, t_par, par3H_eq, par3J_eq, par3K_eq, t_par3, setJ_eq, setK_eq, t_set, expK_eq, t_exp, retK_eq, t_ret, t_retN, ifK_t, ifK_f, t_if, t_whl, frB_eq, frJ_eq, fr_fix, fr_zip, fr_rng, forL_nil, forL_cons, forK_nx, forK_ct, forK_bk, forK_rt, t_fr, t_pas, t_brk, t_cnt, body_rt, body_nx, body_ex, op_addI, op_subI, op_mulI, op_fdivI, op_modI, op_powI, mkTup_small, alloc_small, idx_R, idxS_some, setH_R, setS_some, setX_some, len_R, lenS_some, len_rol, tup_R, tupS_some, all_R, allS_some, allK_some, src_R, srcS_some, m1J_R, m1S_some, app_R, appX_some, at_new, bls_nil, bls_cons, List.all_cons, List.all_nil, id_eq, Bool.and_true, Bool.and_self,  neg_I, not_B, cop_lt, cop_le, cop_gt, cop_ge, cop_eq, cop_ne, cop_isN, cop_notN, cop_isB, cop_notB, ofOpt_some, eqD_int, eqD_str, b1_lenT, b1_abs, b1_intI, b1_intB, b2_min, b2_max, isi_tup, isi_int, isi_bl, isi_str, idxK_some, idx_tup, idx_rol, atI_0, atI_1, atI_2, atI_3, atI_4, atI_5, atI_6, atI_7, atI_m1_1, atI_m1_2, atI_m2_2, atI_m1_3, atI_m2_3, atI_m3_3, atI_m1_4, atI_m2_4, atI_m3_4, atI_m1_5, atI_m2_5, atI_m3_5, atI_m1_6, atI_m2_6, atI_m3_6, tg_nm, tg_tp, tgs_nil, tgJ_some, tgs_cons, List.getElem?_cons_zero, List.getElem?_cons_succ, List.set_cons_zero, List.set_cons_succ, List.cons_append, List.nil_append, List.map_cons, List.map_nil, startD, List.length_cons, List.length_nil, List.replicate_succ, List.replicate_zero, Nat.reduceAdd, Nat.reduceSub, Int.reduceLE, Int.reduceLT, Int.reduceEq, Int.reduceNe, Nat.reduceLT, Nat.reduceEqDiff, Nat.reduceLeDiff, Int.reduceToNat, Int.reduceNeg, Int.reduceAdd, Int.reduceSub, Int.reduceMul, Int.reducePow, rng1_eq, rngD_0, rngD_s, op_powI, reduceCtorEq, decide_true, decide_false, eq_self, Int.cast_ofNat_Int, Nat.zero_add, Option.map_some, ne_eq, not_false_eq_true, Bool.not_true, Bool.not_false, isNonD, i_ev0, i_ev1, i_fr0, i_fr1, s_ev, g_fr, g_ev, r_ev, k_ev, k_one, k_zero, atI_0, *])
local macro_rules | `(tactic| walk_at "cw0") => `(tactic| simp only [bnd_ok, bnd_exc, varR_some, kk2_eq, v_var, v_cst, v_tup, v_lst, v_bin, v_neg, v_not, andK_t, andK_f, orK_t, orK_f, v_and, v_or, v_cmp, chK_t, chK_f, chJ_eq, v_chain, iteK_t, iteK_f, v_ite, v_idx, slcK_eq, slcL_eq, slcJ_eq, v_slc, optK_int, o_none, o_some, v_rev, rev_tup, callK_eq, callJ_none, callJ_perm, callP_some, permL_nil, permL_cons, permC_some, v_call, v_b1, v_b2, isiK_eq, v_isi, v_m0, v_m1, compE_eq, comp_live, lenL_some, live_eq, liveK_some, liveJ_none, liveJ_some, liveH_some, liveH_none, fr_live, liveF_eq, liveFK_some, liveFJ_none, liveFJ_some, liveFH_nx, liveFH_ct, liveFH_bk, liveFH_rt, nil_get, comp_fix, comp_zip, comp_rng, turnC_eq, turnJ_some, turnK_t, turnK_f, yesK_eq, wipe_nil, wipe_cons, loopL_nil, loopL_cons, loopK_some, loopK_none, zipD_nil, zipD_nil2, zipD_cons, v_comp, es_nil, consJ_eq, consK_eq, es_cons, notJ_eq, andJ_t, andJ_f, orJ_t, orJ_f, b_not, b_and, b_or, b_cmp, b_chain, b_ite, b_var, b_cst, b_call, b_b1, b_isi, b_idx, b_bin, b_comp, ofBl_bl, tru_bl, tru_int, tru_tup, tru_non, c_none', c_some', srcK_tup, srcK_rol, w_var, w_cst, w_tup, w_lst, w_bin, w_idx, w_slc, w_call, w_comp, w_rng, rng2K_eq, w_rng2, zipK_tup, w_zip, w_enum, seqR_nx, seqR_rt, seqR_bk, seqR_ct, seqR_ex, ts_nil, ts_cons, rtE_ok, asgK_eq, t_asg, tgK_some, asgTK_eq, t_asgT, parJ_eq, parK_eq, t_par, par3H_eq, par3J_eq, par3K_eq, t_par3, setJ_eq, setK_eq, t_set, expK_eq, t_exp, retK_eq, t_ret, t_retN, ifK_t, ifK_f, t_if, t_whl, frB_eq, frJ_eq, fr_fix, fr_zip, fr_rng, forL_nil, forL_cons, forK_nx, forK_ct, forK_bk, forK_rt, t_fr, t_pas, t_brk, t_cnt, body_rt, body_nx, body_ex, op_addI, op_subI, op_mulI, op_fdivI, op_modI, op_powI, mkTup_small, alloc_small, idx_R, idxS_some, setH_R, setS_some, setX_some, len_R, lenS_some, len_rol, tup_R, tupS_some, all_R, allS_some, allK_some, src_R, srcS_some, m1J_R, m1S_some, app_R, appX_some, at_new, bls_nil, bls_cons, List.all_cons, List.all_nil, id_eq, Bool.and_true, Bool.and_self,  neg_I, not_B, cop_lt, cop_le, cop_gt, cop_ge, cop_eq, cop_ne, cop_isN, cop_notN, cop_isB, cop_notB, ofOpt_some, eqD_int, eqD_str, b1_lenT, b1_abs, b1_intI, b1_intB, b2_min, b2_max, isi_tup, isi_int, isi_bl, isi_str, idxK_some, idx_tup, idx_rol, atI_0, atI_1, atI_2, atI_3, atI_4, atI_5, atI_6, atI_7, atI_m1_1, atI_m1_2, atI_m2_2, atI_m1_3, atI_m2_3, atI_m3_3, atI_m1_4, atI_m2_4, atI_m3_4, atI_m1_5, atI_m2_5, atI_m3_5, atI_m1_6, atI_m2_6, atI_m3_6, tg_nm, tg_tp, tgs_nil, tgJ_some, tgs_cons, List.getElem?_cons_zero, List.getElem?_cons_succ, List.set_cons_zero, List.set_cons_succ, List.cons_append, List.nil_append, List.map_cons, List.map_nil, startD, List.length_cons, List.length_nil, List.replicate_succ, List.replicate_zero, Nat.reduceAdd, Nat.reduceSub, Int.reduceLE, Int.reduceLT, Int.reduceEq, Int.reduceNe, Nat.reduceLT, Nat.reduceEqDiff, Nat.reduceLeDiff, Int.reduceToNat, Int.reduceNeg, Int.reduceAdd, Int.reduceSub, Int.reduceMul, Int.reducePow, rng1_eq, rngD_0, rngD_s, op_powI, reduceCtorEq, decide_true, decide_false, eq_self, Int.cast_ofNat_Int, Nat.zero_add, Option.map_some, ne_eq, not_false_eq_true, Bool.not_true, Bool.not_false, isNonD, i_ev0, i_ev1, i_fr0, i_fr1, s_ev, g_fr, g_ev, r_ev, k_ev, k_one, k_zero, atI_0])
/-! ### pieces within a bound, as they stand -/
structure Pc1 (m : Rat) (x y : Rat) : Prop where
  x0 : 0 < x
  y0 : 0 < y
  lo : m⁻¹ ≤ x
  hi : x ≤ m
  sx : Sz x 4400
  sy : Sz y 2400
inductive Pcs (m : Rat) : List (Rat × Rat) → Prop
  | nil : Pcs m []
  | one (x y : Rat) : Pc1 m x y → Pcs m [(x, y)]
  | two (x y x' y' : Rat) : Pc1 m x y → Sz x 4 → Sz y 2000 → Pc1 m x' y' → Pcs m [(x, y), (x', y')]
def goneU : Rat → List (Rat × Rat) → Rat
  | a, [] => a
  | a, (x, y) :: L => goneU (a + x * y) L
def goneV : Rat → List (Rat × Rat) → Rat
  | b, [] => b
  | b, (x, y) :: L => goneV (b + y / x) L
def sumT : Rat → List (Rat × Rat) → Rat
  | s, [] => s
  | s, (_, y) :: L => sumT (s + y) L
section
variable {tab : Nat → Option Fd} {fu : Nat}
theorem s_gone {S : Store} (L : List (Rat × Rat)) : srcK (.tup (evs L)) S = .ok (.fix (evs L)) S := rfl
/-! #### the program's gone -/
theorem gone_P (G : Sub tab) (k : Nat) {a b m : Rat} {L : List (Rat × Rat)} (ha : Sz a 14) (hb : Sz b 14) (hL : Pcs m L) (hF : 2 ^ 9000 ≤ fu) (S : Store) : evC fu tab (k + 4) 103 [evD a b, .tup (evs L)] S = .ok (evD (goneU a L) (goneV b L)) S := by
  rw [evC_eq (G 103 _ rfl)]
  unfold tr_103
  cases hL with
  | nil =>
    unfold goneU goneV evs
    clear G ha hb hF
    walk_at "cw"
  | one x y h =>
    have e1 := times_ok (S := S) (fu := fu) G k h.sx h.sy (by decide) hF
    have e2 := over_ok (S := S) (fu := fu) G k h.sy h.sx (ne0 h.x0) (by decide) hF
    have e3 := plus_ok (S := S) (fu := fu) G k ha (h.sx.mul h.sy) (by decide) hF
    have e4 := plus_ok (S := S) (fu := fu) G k hb (h.sy.div h.sx (ne0 h.x0)) (by decide) hF
    simp only [goneU, goneV, evs]
    clear G ha hb hF h
    walk_at "cw"
  | two x y x' y' h sx sy h' =>
    have e1 := times_ok (S := S) (fu := fu) G k sx sy (by decide) hF
    have e2 := over_ok (S := S) (fu := fu) G k sy sx (ne0 h.x0) (by decide) hF
    have e3 := plus_ok (S := S) (fu := fu) G k ha (sx.mul sy) (by decide) hF
    have e4 := plus_ok (S := S) (fu := fu) G k hb (sy.div sx (ne0 h.x0)) (by decide) hF
    have e5 := times_ok (S := S) (fu := fu) G k h'.sx h'.sy (by decide) hF
    have e6 := over_ok (S := S) (fu := fu) G k h'.sy h'.sx (ne0 h'.x0) (by decide) hF
    have e7 := plus_ok (S := S) (fu := fu) G k (ha.add (sx.mul sy)) (h'.sx.mul h'.sy) (by decide) hF
    have e8 := plus_ok (S := S) (fu := fu) G k (hb.add (sy.div sx (ne0 h.x0))) (h'.sy.div h'.sx (ne0 h'.x0)) (by decide) hF
    simp only [goneU, goneV, evs]
    clear G ha hb hF h h' sx sy
    walk_at "cw"
/-! #### are_pieces -/
theorem within_bound_ok (G : Sub tab) (k : Nat) {m x y : Rat} (hm : Sz m 4) (m0 : 0 < m) (h : Pc1 m x y) (hF : 2 ^ 9000 ≤ fu) (S : Store) : evC fu tab (k + 5) 106 [frD x, frD m] S = .ok (.bl true) S := by
  have e1 := is_below_ok (fu := fu) G (k + 3) hm h.sx (by decide) S
  have e2 := contrary_ok (fu := fu) G k hm (ne0 m0) (by decide) hF S
  have e3 := is_below_ok (fu := fu) G (k + 3) h.sx (hm.inv m0) (by decide) S
  rw [decide_eq_false (Rat.not_lt.mpr h.hi)] at e1
  rw [decide_eq_false (Rat.not_lt.mpr h.lo)] at e3
  rw [evC_eq (G 106 _ rfl)]
  unfold tr_106
  clear G hm m0 h hF
  walk_at "cw"
theorem is_tuple_le (G : Sub tab) (k : Nat) (xs : List D) (lo hi : Int) (h1 : lo ≤ xs.length) (h2 : (xs.length : Int) ≤ hi) (S : Store) : evC fu tab (k + 1) 40 [.tup xs, .int lo, .int hi] S = .ok (.bl true) S := by
  rw [evC_eq (G 40 _ rfl)]
  unfold tr_40
  have d1 := decide_eq_true h1
  have d2 := decide_eq_true h2
  have hl : evB1 .len (.tup xs) S = .ok (.int xs.length) S := rfl
  generalize (xs.length : Int) = z at *
  clear G h1 h2
  walk_at "cw"
theorem are_pieces_ok (G : Sub tab) (k : Nat) {m : Rat} {L : List (Rat × Rat)} (hm : Sz m 4) (m0 : 0 < m) (hL : Pcs m L) (hF : 2 ^ 9000 ≤ fu) (S : Store) : ∃ J, evC fu tab (k + 6) 104 [.tup (evs L), frD m] S = .ok (.bl true) (S ++ J) := by
  have t2 := fun S x y => show evC fu tab (k + 5) 40 [evD x y, .int 2, .int 2] S = .ok (.bl true) S from is_tuple_ok (fu := fu) (S := S) G (k + 4) (frD x) (frD y)
  rw [evC_eq (G 104 _ rfl)]
  unfold tr_104
  cases hL with
  | nil =>
    have t1 := fun S => is_tuple_le (fu := fu) G (k + 4) [] 0 2 (by decide) (by decide) S
    simp only [evs, List.map_nil, List.map_cons]
    clear G hm m0 hF
    exact ⟨_, by walk_at "cw"; rfl⟩
  | one x y h =>
    have t1 := fun S => is_tuple_le (fu := fu) G (k + 4) [evD x y] 0 2 (by simp) (by simp) S
    have f1 := fun S => is_factor_ok (S := S) G (k + 2) h.sx h.x0 (by decide) hF
    have f2 := fun S => is_factor_ok (S := S) G (k + 2) h.sy h.y0 (by decide) hF
    have w1 := fun S => within_bound_ok G k hm m0 h hF S
    simp only [evs, List.map_nil, List.map_cons]
    clear G hm m0 h hF
    exact ⟨_, by walk_at "cw"; simp only [List.append_assoc]; rfl⟩
  | two x y x' y' h sx sy h' =>
    have t1 := fun S => is_tuple_le (fu := fu) G (k + 4) [evD x y, evD x' y'] 0 2 (by simp) (by simp) S
    have f1 := fun S => is_factor_ok (S := S) G (k + 2) h.sx h.x0 (by decide) hF
    have f2 := fun S => is_factor_ok (S := S) G (k + 2) h.sy h.y0 (by decide) hF
    have w1 := fun S => within_bound_ok G k hm m0 h hF S
    have f3 := fun S => is_factor_ok (S := S) G (k + 2) h'.sx h'.x0 (by decide) hF
    have f4 := fun S => is_factor_ok (S := S) G (k + 2) h'.sy h'.y0 (by decide) hF
    have w2 := fun S => within_bound_ok G k hm m0 h' hF S
    simp only [evs, List.map_nil, List.map_cons]
    clear G hm m0 h h' sx sy hF
    exact ⟨_, by walk_at "cw"; simp only [List.append_assoc]; rfl⟩
/-! #### is_plan -/
theorem is_plan_ok (G : Sub tab) (k : Nat) {a b c d m : Rat} {L : List (Rat × Rat)} (ha : Sz a 14) (hb : Sz b 14) (hm : Sz m 4) (m0 : 0 < m) (hL : Pcs m L) (hu : goneU a L = c) (hv : goneV b L = d) (hF : 2 ^ 9000 ≤ fu) (S : Store) : ∃ J, evC fu tab (k + 7) 98 [evD a b, evD c d, frD m, .tup [.str "plan", .tup (evs L)]] S = .ok (.bl true) (S ++ J) := by
  have t1 := fun S => is_tuple_ok (fu := fu) (S := S) G (k + 5) (.str "plan") (.tup (evs L))
  have t2 := fun S => show evC fu tab (k + 6) 58 [.str "plan", .tup [.str "plan"]] S = .ok (.bl true) S from is_string1 (fu := fu) (S := S) G (k + 5) "plan"
  obtain ⟨J, t3⟩ := are_pieces_ok (fu := fu) G k hm m0 hL hF S
  have t4 := gone_P (fu := fu) G (k + 2) ha hb hL hF (S ++ J)
  rw [hu, hv] at t4
  have q := eqD_ev (S := S ++ J) c d c d
  rw [decide_eq_true ⟨rfl, rfl⟩] at q
  refine ⟨J, ?_⟩
  rw [evC_eq (G 98 _ rfl)]
  unfold tr_98
  generalize evs L = X at *
  clear G ha hb hm m0 hL hu hv hF
  walk_at "cw"
/-! #### is_just -/
theorem is_just_ok (G : Sub tab) (k : Nat) {w : Str} {q : Rat} {n : Nat} (hq : Sz q n) (hn : n < 9000) (hF : 2 ^ 9000 ≤ fu) (S : Store) : ∃ J, evC fu tab (k + 3) 99 [.tup [.str w, frD q], .tup [.str w, frD q]] S = .ok (.bl true) (S ++ J) := by
  have t1 := fun S => is_tuple_ok (fu := fu) (S := S) G (k + 1) (.str w) (frD q)
  have t2 := fun S => show evC fu tab (k + 2) 58 [.str w, .tup [.str w]] S = .ok (.bl true) S from is_string1 (fu := fu) (S := S) G (k + 1) w
  have t3 := fun S => is_ratio_ok (fu := fu) (S := S) G k hq hn hF
  have t4 := fun S => eqD_fr (S := S) q q
  rw [decide_eq_true rfl] at t4
  have t5 := fun S => show evIsi (frD q) .str S = .ok (.bl false) S from rfl
  rw [evC_eq (G 99 _ rfl)]
  unfold tr_99
  clear G hq hn hF
  exact ⟨_, by walk_at "cw"; rfl⟩
end
end Cw
namespace Cw
open PySem PySem.Spec PyProof.Rows L2
local macro_rules | `(tactic| walk_at "cw") => `(tactic| simp only [bnd_ok, bnd_exc, varR_some, kk2_eq, v_var, v_cst, v_tup, v_lst, v_bin, v_neg, v_not, andK_t, andK_f, orK_t, orK_f, v_and, v_or, v_cmp, chK_t, chK_f, chJ_eq, v_chain, iteK_t, iteK_f, v_ite, v_idx, slcK_eq, slcL_eq, slcJ_eq, v_slc, optK_int, o_none, o_some, v_rev, rev_tup, callK_eq, callJ_none, callJ_perm, callP_some, permL_nil, permL_cons, permC_some, v_call, v_b1, v_b2, isiK_eq, v_isi, v_m0, v_m1, compE_eq, comp_live, lenL_some, live_eq, liveK_some, liveJ_none, liveJ_some, liveH_some, liveH_none, fr_live, liveF_eq, liveFK_some, liveFJ_none, liveFJ_some, liveFH_nx, liveFH_ct, liveFH_bk, liveFH_rt, nil_get, comp_fix, comp_zip, comp_rng, turnC_eq, turnJ_some, turnK_t, turnK_f, yesK_eq, wipe_nil, wipe_cons, loopL_nil, loopL_cons, loopK_some, loopK_none, zipD_nil, zipD_nil2, zipD_cons, v_comp, es_nil, consJ_eq, consK_eq, es_cons, notJ_eq, andJ_t, andJ_f, orJ_t, orJ_f, b_not, b_and, b_or, b_cmp, b_chain, b_ite, b_var, b_cst, b_call, b_b1, b_isi, b_idx, b_bin, b_comp, ofBl_bl, tru_bl, tru_int, tru_tup, tru_non, c_none', c_some', srcK_tup, srcK_rol, w_var, w_cst, w_tup, w_lst, w_bin, w_idx, w_slc, w_call, w_comp, w_rng, rng2K_eq, w_rng2, zipK_tup, w_zip, w_enum, seqR_nx, seqR_rt, seqR_bk, seqR_ct, seqR_ex, ts_nil, ts_cons, rtE_ok, asgK_eq, t_asg, tgK_some, asgTK_eq, t_asgT, parJ_eq, parK_eq, t_par, par3H_eq, par3J_eq, par3K_eq, t_par3, setJ_eq, setK_eq, t_set, expK_eq, t_exp, retK_eq, t_ret, t_retN, ifK_t, ifK_f, t_if, t_whl, frB_eq, frJ_eq, fr_fix, fr_zip, fr_rng, forL_nil, forL_cons, forK_nx, forK_ct, forK_bk, forK_rt, t_fr, t_pas, t_brk, t_cnt, body_rt, body_nx, body_ex, op_addI, op_subI, op_mulI, op_fdivI, op_modI, op_powI, mkTup_small, alloc_small, idx_R, idxS_some, setH_R, setS_some, setX_some, len_R, lenS_some, len_rol, tup_R, tupS_some, all_R, allS_some, allK_some, src_R, srcS_some, m1J_R, m1S_some, app_R, appX_some, at_new, bls_nil, bls_cons, List.all_cons, List.all_nil, id_eq, Bool.and_true, Bool.and_self,  neg_I, not_B, cop_lt, cop_le, cop_gt, cop_ge, cop_eq, cop_ne, cop_isN, cop_notN, cop_isB, cop_notB, ofOpt_some, eqD_int, eqD_str, b1_lenT, b1_abs, b1_intI, b1_intB, b2_min, b2_max, isi_tup, isi_int, isi_bl, isi_str, idxK_some, idx_tup, idx_rol, atI_0, atI_1, atI_2, atI_3, atI_4, atI_5, atI_6, atI_7, atI_m1_1, atI_m1_2, atI_m2_2, atI_m1_3, atI_m2_3, atI_m3_3, atI_m1_4, atI_m2_4, atI_m3_4, atI_m1_5, atI_m2_5, atI_m3_5, atI_m1_6, atI_m2_6, atI_m3_6, tg_nm, tg_tp, tgs_nil, tgJ_some, tgs_cons, List.getElem?_cons_zero, List.getElem?_cons_succ, List.set_cons_zero, List.set_cons_succ, List.cons_append, List.nil_append, List.map_cons, List.map_nil, startD, List.length_cons, List.length_nil, List.replicate_succ, List.replicate_zero, Nat.reduceAdd, Nat.reduceSub, Int.reduceLE, Int.reduceLT, Int.reduceEq, Int.reduceNe, Nat.reduceLT, Nat.reduceEqDiff, Nat.reduceLeDiff, Int.reduceToNat, Int.reduceNeg, Int.reduceAdd, Int.reduceSub, Int.reduceMul, Int.reducePow, rng1_eq, rngD_0, rngD_s, op_powI, reduceCtorEq, decide_true, decide_false, eq_self, Int.cast_ofNat_Int, Nat.zero_add, Option.map_some, ne_eq, not_false_eq_true, Bool.not_true, Bool.not_false, isNonD, i_ev0, i_ev1, i_fr0, i_fr1, s_ev, g_fr, g_ev, r_ev, k_ev, k_one, k_zero, atI_0, *])
local macro_rules | `(tactic| walk_at "cw0") => `(tactic| simp only [bnd_ok, bnd_exc, varR_some, kk2_eq, v_var, v_cst, v_tup, v_lst, v_bin, v_neg, v_not, andK_t, andK_f, orK_t, orK_f, v_and, v_or, v_cmp, chK_t, chK_f, chJ_eq, v_chain, iteK_t, iteK_f, v_ite, v_idx, slcK_eq, slcL_eq, slcJ_eq, v_slc, optK_int, o_none, o_some, v_rev, rev_tup, callK_eq, callJ_none, callJ_perm, callP_some, permL_nil, permL_cons, permC_some, v_call, v_b1, v_b2, isiK_eq, v_isi, v_m0, v_m1, compE_eq, comp_live, lenL_some, live_eq, liveK_some, liveJ_none, liveJ_some, liveH_some, liveH_none, fr_live, liveF_eq, liveFK_some, liveFJ_none, liveFJ_some, liveFH_nx, liveFH_ct, liveFH_bk, liveFH_rt, nil_get, comp_fix, comp_zip, comp_rng, turnC_eq, turnJ_some, turnK_t, turnK_f, yesK_eq, wipe_nil, wipe_cons, loopL_nil, loopL_cons, loopK_some, loopK_none, zipD_nil, zipD_nil2, zipD_cons, v_comp, es_nil, consJ_eq, consK_eq, es_cons, notJ_eq, andJ_t, andJ_f, orJ_t, orJ_f, b_not, b_and, b_or, b_cmp, b_chain, b_ite, b_var, b_cst, b_call, b_b1, b_isi, b_idx, b_bin, b_comp, ofBl_bl, tru_bl, tru_int, tru_tup, tru_non, c_none', c_some', srcK_tup, srcK_rol, w_var, w_cst, w_tup, w_lst, w_bin, w_idx, w_slc, w_call, w_comp, w_rng, rng2K_eq, w_rng2, zipK_tup, w_zip, w_enum, seqR_nx, seqR_rt, seqR_bk, seqR_ct, seqR_ex, ts_nil, ts_cons, rtE_ok, asgK_eq, t_asg, tgK_some, asgTK_eq, t_asgT, parJ_eq, parK_eq, t_par, par3H_eq, par3J_eq, par3K_eq, t_par3, setJ_eq, setK_eq, t_set, expK_eq, t_exp, retK_eq, t_ret, t_retN, ifK_t, ifK_f, t_if, t_whl, frB_eq, frJ_eq, fr_fix, fr_zip, fr_rng, forL_nil, forL_cons, forK_nx, forK_ct, forK_bk, forK_rt, t_fr, t_pas, t_brk, t_cnt, body_rt, body_nx, body_ex, op_addI, op_subI, op_mulI, op_fdivI, op_modI, op_powI, mkTup_small, alloc_small, idx_R, idxS_some, setH_R, setS_some, setX_some, len_R, lenS_some, len_rol, tup_R, tupS_some, all_R, allS_some, allK_some, src_R, srcS_some, m1J_R, m1S_some, app_R, appX_some, at_new, bls_nil, bls_cons, List.all_cons, List.all_nil, id_eq, Bool.and_true, Bool.and_self,  neg_I, not_B, cop_lt, cop_le, cop_gt, cop_ge, cop_eq, cop_ne, cop_isN, cop_notN, cop_isB, cop_notB, ofOpt_some, eqD_int, eqD_str, b1_lenT, b1_abs, b1_intI, b1_intB, b2_min, b2_max, isi_tup, isi_int, isi_bl, isi_str, idxK_some, idx_tup, idx_rol, atI_0, atI_1, atI_2, atI_3, atI_4, atI_5, atI_6, atI_7, atI_m1_1, atI_m1_2, atI_m2_2, atI_m1_3, atI_m2_3, atI_m3_3, atI_m1_4, atI_m2_4, atI_m3_4, atI_m1_5, atI_m2_5, atI_m3_5, atI_m1_6, atI_m2_6, atI_m3_6, tg_nm, tg_tp, tgs_nil, tgJ_some, tgs_cons, List.getElem?_cons_zero, List.getElem?_cons_succ, List.set_cons_zero, List.set_cons_succ, List.cons_append, List.nil_append, List.map_cons, List.map_nil, startD, List.length_cons, List.length_nil, List.replicate_succ, List.replicate_zero, Nat.reduceAdd, Nat.reduceSub, Int.reduceLE, Int.reduceLT, Int.reduceEq, Int.reduceNe, Nat.reduceLT, Nat.reduceEqDiff, Nat.reduceLeDiff, Int.reduceToNat, Int.reduceNeg, Int.reduceAdd, Int.reduceSub, Int.reduceMul, Int.reducePow, rng1_eq, rngD_0, rngD_s, op_powI, reduceCtorEq, decide_true, decide_false, eq_self, Int.cast_ofNat_Int, Nat.zero_add, Option.map_some, ne_eq, not_false_eq_true, Bool.not_true, Bool.not_false, isNonD, i_ev0, i_ev1, i_fr0, i_fr1, s_ev, g_fr, g_ev, r_ev, k_ev, k_one, k_zero, atI_0])
/-! ### a flight of a wished own time: the program's side -/
structure Szs (u v m t : Rat) : Prop where
  u : Sz u 75
  v : Sz v 75
  m : Sz m 4
  t : Sz t 400
theorem Szs.ex {u v m t : Rat} (s : Szs u v m t) : Sz (u * v - t * t) 951 := ((s.u.mul s.v).sub (s.t.mul s.t)).mono (by decide)
theorem Szs.by_ {u v m t : Rat} (s : Szs u v m t) (m0 : m ≠ 0) : Sz (u / m + v * m) 159 := ((s.u.div s.m m0).add (s.v.mul s.m)).mono (by decide)
theorem Szs.bot {u v m t : Rat} (s : Szs u v m t) (m0 : m ≠ 0) : Sz (u / m + v * m - (t + t)) 961 := ((s.by_ m0).sub (s.t.add s.t)).mono (by decide)
theorem Szs.fst {u v m t : Rat} (s : Szs u v m t) (m0 : m ≠ 0) : Sz (fstP u v m t) 1912 := by
  unfold fstP
  split
  · exact s.t.mono (by decide)
  · rename_i h; exact (s.ex.div (s.bot m0) h).mono (by decide)
theorem Szs.rst {u v m t : Rat} (s : Szs u v m t) (m0 : m ≠ 0) : Sz (t - fstP u v m t) 2313 := (s.t.sub (s.fst m0)).mono (by decide)
theorem Szs.pace {u v m t : Rat} (s : Szs u v m t) (m0 : m ≠ 0) (h : t - fstP u v m t ≠ 0) : Sz ((u - m * fstP u v m t) / (t - fstP u v m t)) 4305 := ((s.u.sub (s.m.mul (s.fst m0))).div (s.rst m0) h).mono (by decide)
theorem last_pcs {u v m t : Rat} (s : Szs u v m t) (m1 : 1 ≤ m) (F : Flw u v m (fstP u v m t) (t - fstP u v m t)) (a b : Rat) : Pcs m (last u v m t) ∧ goneU a (last u v m t) = a + u ∧ goneV b (last u v m t) = b + v ∧ sumT 0 (last u v m t) = t := by
  have m0 : 0 < m := by grind
  have mn := ne0 m0
  have nm : m⁻¹ ≤ m := by
    have h := Rat.mul_le_mul_of_nonneg_right m1 (Rat.le_of_lt (inv_pos m0))
    have h2 : m * m⁻¹ = 1 := Rat.mul_inv_cancel _ mn
    grind
  have sf := s.fst mn
  have sr := s.rst mn
  have sp := s.pace mn
  unfold last
  have sum : fstP u v m t + (t - fstP u v m t) = t := by grind
  generalize fstP u v m t = f at *
  generalize t - f = r at *
  have P1 : f ≠ 0 → Pc1 m m f := fun z => ⟨m0, by have := F.f0; grind, nm, Rat.le_refl, s.m.mono (by decide), sf.mono (by decide)⟩
  have P2 : r ≠ 0 → Pc1 m ((u - m * f) / r) r := fun z => ⟨by have := F.lo z; have := inv_pos m0; grind, by have := F.r0; grind, F.lo z, F.hi z, (sp z).mono (by decide), sr.mono (by decide)⟩
  by_cases h : r = 0
  · rw [if_pos h]
    obtain ⟨e1, e2⟩ := F.one h
    by_cases hf : f = 0
    · have e : lastP [(m, f)] = [] := by simp [lastP, hf]
      rw [e]
      refine ⟨.nil, ?_, ?_, ?_⟩ <;> simp only [goneU, goneV, sumT]
      · subst hf; grind
      · subst hf; rw [e2, Rat.div_def]; grind
      · grind
    · have e : lastP [(m, f)] = [(m, f)] := by simp [lastP, hf]
      rw [e]
      refine ⟨.one _ _ (P1 hf), ?_, ?_, ?_⟩ <;> simp only [goneU, goneV, sumT]
      · grind
      · rw [← e2]
      · grind
  · rw [if_neg h]
    have e1 := F.hu h
    have e2 := F.hv h
    generalize (u - m * f) / r = p at *
    by_cases hf : f = 0
    · have e : lastP [(m, f), (p, r)] = [(p, r)] := by simp [lastP, hf, h]
      rw [e]
      refine ⟨.one _ _ (P2 h), ?_, ?_, ?_⟩ <;> simp only [goneU, goneV, sumT]
      · subst hf; grind
      · subst hf; rw [← e2, Rat.div_def 0 m]; grind
      · subst hf; grind
    · have e : lastP [(m, f), (p, r)] = [(m, f), (p, r)] := by simp [lastP, hf, h]
      rw [e]
      refine ⟨.two _ _ _ _ (P1 hf) s.m (sf.mono (by decide)) (P2 h), ?_, ?_, ?_⟩ <;> simp only [goneU, goneV, sumT]
      · grind
      · grind
      · grind
section
variable {tab : Nat → Option Fd} {fu : Nat}
theorem lasting_ok (G : Sub tab) (k : Nat) {u v m t : Rat} (s : Szs u v m t) (m1 : 1 ≤ m) (hF : 2 ^ 9000 ≤ fu) (S : Store) : ∃ J, evC fu tab (k + 4) 100 [frD u, frD v, frD m, frD t] S = .ok (.tup (evs (last u v m t))) (S ++ J) := by
  have m0 : m ≠ 0 := by intro z; subst z; exact absurd m1 (by decide)
  have a1 := times_ok (S := S) (fu := fu) G k s.u s.v (by decide) hF
  have a2 := times_ok (S := S) (fu := fu) G k s.t s.t (by decide) hF
  have a3 := less_ok (S := S) (fu := fu) G k (s.u.mul s.v) (s.t.mul s.t) (by decide) hF
  have a4 := over_ok (S := S) (fu := fu) G k s.u s.m m0 (by decide) hF
  have a5 := times_ok (S := S) (fu := fu) G k s.v s.m (by decide) hF
  have a6 := plus_ok (S := S) (fu := fu) G k (s.u.div s.m m0) (s.v.mul s.m) (by decide) hF
  have a7 := plus_ok (S := S) (fu := fu) G k s.t s.t (by decide) hF
  have a8 := less_ok (S := S) (fu := fu) G k (s.by_ m0) (s.t.add s.t) (by decide) hF
  have q1 := fun x => eqD_fr (S := S) x 0
  have sf := s.fst m0
  have a9 := less_ok (S := S) (fu := fu) G k s.t sf (by decide) hF
  have a10 := times_ok (S := S) (fu := fu) G k s.m sf (by decide) hF
  have a11 := less_ok (S := S) (fu := fu) G k s.u (s.m.mul sf) (by decide) hF
  unfold last
  rw [evC_eq (G 100 _ rfl)]
  unfold tr_100
  by_cases hb : u / m + v * m - (t + t) = 0
  · have ef : fstP u v m t = t := if_pos hb
    rw [ef] at a9 ⊢
    have hr : t - t = 0 := by grind
    rw [if_pos hr]
    have d1 := decide_eq_true hb
    have d2 := decide_eq_true hr
    obtain ⟨J, e1⟩ := without1_ok (fu := fu) G (k + 2) (p := m) (t := t) (S := S ++ [.lst [evD m t]]) (at_new _)
    generalize u / m + v * m - (t + t) = bo at *
    generalize evs (lastP [(m, t)]) = L at *
    refine ⟨[.lst [evD m t]] ++ J, ?_⟩
    clear G s m1 hF m0 sf ef hb hr
    walk_at "cw"
    simp
  · have ef : fstP u v m t = (u * v - t * t) / (u / m + v * m - (t + t)) := if_neg hb
    have d1 := decide_eq_false hb
    have b1 := over_ok (S := S) (fu := fu) G k s.ex (s.bot m0) hb (by decide) hF
    rw [← ef] at b1
    have sr := s.rst m0
    have b2 := fun h => over_ok (S := S) (fu := fu) G k (s.u.sub (s.m.mul sf)) sr h (by decide) hF
    generalize fstP u v m t = f at *
    generalize u / m + v * m - (t + t) = bo at *
    by_cases hr : t - f = 0
    · have d2 := decide_eq_true hr
      rw [if_pos hr]
      obtain ⟨J, e1⟩ := without1_ok (fu := fu) G (k + 2) (p := m) (t := f) (S := S ++ [.lst [evD m f]]) (at_new _)
      generalize evs (lastP [(m, f)]) = L at *
      refine ⟨[.lst [evD m f]] ++ J, ?_⟩
      clear G s m1 hF m0 sf ef hb hr b2 sr
      walk_at "cw"
      simp
    · have d2 := decide_eq_false hr
      rw [if_neg hr]
      have b3 := b2 hr
      generalize t - f = r at *
      generalize (u - m * f) / r = p at *
      obtain ⟨J, e1⟩ := without2_ok (fu := fu) G (k + 2) (p := m) (t := f) (p' := p) (t' := r) (S := S ++ [.lst [evD m f, evD p r]]) (at_new _)
      generalize evs (lastP [(m, f), (p, r)]) = L at *
      refine ⟨[.lst [evD m f, evD p r]] ++ J, ?_⟩
      clear G s m1 hF m0 sf ef hb hr b2 sr
      walk_at "cw"
      simp
theorem check_own_time_ok (G : Sub tab) (k : Nat) {t : Rat} {n : Nat} (ht : Sz t n) (t0 : 0 ≤ t) (hn : n < 9000) (hF : 2 ^ 9000 ≤ fu) (S : Store) : ∃ J, evC fu tab (k + 4) 102 [frD t] S = .ok .non (S ++ J) := by
  have h1 := is_ratio_ok (S := S) G k ht hn hF
  have hd := decide_eq_true (Rat.num_nonneg.mpr t0)
  have h2 : evC fu tab (k + 3) 105 [frD t] S = .ok (.bl true) (S ++ [.lst [.bl true, .bl true]]) := by
    rw [evC_eq (G 105 _ rfl)]
    unfold tr_105
    clear G ht t0 hn hF
    walk_at "cw"
  rw [evC_eq (G 102 _ rfl)]
  unfold tr_102
  clear G ht t0 hn hF h1 hd
  exact ⟨_, by walk_at "cw"; rfl⟩
theorem least_own_ok (G : Sub tab) (k : Nat) {a b c d m : Rat} (ha : Sz a 14) (hb : Sz b 14) (hc : Sz c 60) (hd : Sz d 60) (hm : Sz m 4) (m1 : 1 ≤ m) (hw : wdo (c - a) (d - b) m = .plan) (hF : 2 ^ 9000 ≤ fu) (S : Store) : ∃ J, evC fu tab (k + 7) 101 [evD a b, evD c d, frD m] S = .ok (frD ((c - a + (d - b)) / (m + m⁻¹))) (S ++ J) := by
  have m0 : 0 < m := by grind
  obtain ⟨J1, e1⟩ := check_ends_ok (fu := fu) G (k + 1) (ha.mono (show 14 ≤ 140 by decide)) (hb.mono (by decide)) (hc.mono (by decide)) (hd.mono (by decide)) (hm.mono (by decide)) m1 (by decide) hF S
  obtain ⟨J2, e2⟩ := told_reach_ok (fu := fu) G k (ha.mono (by decide)) (hb.mono (by decide)) (hc.mono (by decide)) (hd.mono (by decide)) (hm.mono (by decide)) m1 hF (S ++ J1)
  rw [told_wdo, hw] at e2
  dsimp only at e2
  obtain ⟨J3, e3⟩ := more_in_ok (fu := fu) G (k + 2) ha hb hc hd (by decide) hF (S ++ J1 ++ J2)
  have hu := hc.sub ha
  have hv := hd.sub hb
  generalize c - a = u at *
  generalize d - b = v at *
  have b1 := fun S => plus_ok (S := S) (fu := fu) G (k + 3) hu hv (by decide) hF
  have b2 := fun S => contrary_ok (fu := fu) G (k + 2) hm (ne0 m0) (by decide) hF S
  have b3 := fun S => plus_ok (S := S) (fu := fu) G (k + 3) hm (hm.inv m0) (by decide) hF
  have i0 := inv_pos m0
  have b4 := fun S => over_ok (S := S) (fu := fu) G (k + 3) (hu.add hv) (hm.add (hm.inv m0)) (ne0 (show 0 < m + m⁻¹ by grind)) (by decide) hF
  generalize evs (quick u v m) = L at *
  rw [evC_eq (G 101 _ rfl)]
  unfold tr_101
  refine ⟨J1 ++ J2 ++ J3, ?_⟩
  clear G ha hb hc hd hm m1 hw hF m0 hu hv i0
  walk_at "cw"
  simp
/-- what own_flight tells -/
def ownD (u v m t : Rat) : D :=
  if t < (u + v) / (m + m⁻¹) then .tup [.str "less", frD ((u + v) / (m + m⁻¹))] else if u * v < t * t then .tup [.str "more", frD (u * v)] else .tup [.str "plan", .tup (evs (last u v m t))]
theorem own_flight_ok (G : Sub tab) (k : Nat) {a b c d m t : Rat} (ha : Sz a 14) (hb : Sz b 14) (hc : Sz c 60) (hd : Sz d 60) (hm : Sz m 4) (m1 : 1 ≤ m) (ht : Sz t 400) (t0 : 0 ≤ t) (hw : wdo (c - a) (d - b) m = .plan) (hF : 2 ^ 9000 ≤ fu) (S : Store) : ∃ J, evC fu tab (k + 8) 96 [evD a b, evD c d, frD m, frD t] S = .ok (ownD (c - a) (d - b) m t) (S ++ J) := by
  have m0 : 0 < m := by grind
  obtain ⟨J1, e1⟩ := check_ends_ok (fu := fu) G (k + 2) (ha.mono (show 14 ≤ 140 by decide)) (hb.mono (by decide)) (hc.mono (by decide)) (hd.mono (by decide)) (hm.mono (by decide)) m1 (by decide) hF S
  obtain ⟨J2, e2⟩ := check_own_time_ok (fu := fu) G (k + 3) ht t0 (by decide) hF (S ++ J1)
  obtain ⟨J3, e3⟩ := least_own_ok (fu := fu) G k ha hb hc hd hm m1 hw hF (S ++ J1 ++ J2)
  obtain ⟨J4, e4⟩ := more_in_ok (fu := fu) G (k + 3) ha hb hc hd (by decide) hF (S ++ J1 ++ J2 ++ J3)
  have hu : Sz (c - a) 75 := hc.sub ha
  have hv : Sz (d - b) 75 := hd.sub hb
  generalize c - a = u at *
  generalize d - b = v at *
  have i0 := inv_pos m0
  have sl : Sz ((u + v) / (m + m⁻¹)) 160 := ((hu.add hv).div (hm.add (hm.inv m0)) (ne0 (show 0 < m + m⁻¹ by grind))).mono (by decide)
  have b1 := fun S => times_ok (S := S) (fu := fu) G (k + 4) hu hv (by decide) hF
  have b2 := fun S => is_below_ok (fu := fu) G (k + 6) ht sl (by decide) S
  have b3 := fun S => times_ok (S := S) (fu := fu) G (k + 4) ht ht (by decide) hF
  have b4 := fun S => is_below_ok (fu := fu) G (k + 6) (hu.mul hv) (ht.mul ht) (by decide) S
  obtain ⟨J5, e5⟩ := lasting_ok (fu := fu) G (k + 3) ⟨hu, hv, hm, ht⟩ m1 hF (S ++ J1 ++ J2 ++ J3 ++ J4)
  unfold ownD
  generalize evs (last u v m t) = L at *
  generalize (u + v) / (m + m⁻¹) = lo at *
  rw [evC_eq (G 96 _ rfl)]
  unfold tr_96
  by_cases h1 : t < lo
  · rw [if_pos h1]
    have d1 := decide_eq_true h1
    refine ⟨J1 ++ J2 ++ J3 ++ J4, ?_⟩
    clear G ha hb hc hd hm m1 ht t0 hw hF m0 hu hv i0 sl h1
    walk_at "cw"
    simp
  · rw [if_neg h1]
    have d1 := decide_eq_false h1
    by_cases h2 : u * v < t * t
    · rw [if_pos h2]
      have d2 := decide_eq_true h2
      refine ⟨J1 ++ J2 ++ J3 ++ J4, ?_⟩
      clear G ha hb hc hd hm m1 ht t0 hw hF m0 hu hv i0 sl h1 h2
      walk_at "cw"
      simp
    · rw [if_neg h2]
      have d2 := decide_eq_false h2
      refine ⟨J1 ++ J2 ++ J3 ++ J4 ++ J5, ?_⟩
      clear G ha hb hc hd hm m1 ht t0 hw hF m0 hu hv i0 sl h1 h2
      walk_at "cw"
      simp
/-- what own_flight tells is shown -/
theorem shows_own_ok (G : Sub tab) (k : Nat) {a b c d m t : Rat} (ha : Sz a 14) (hb : Sz b 14) (hc : Sz c 60) (hd : Sz d 60) (hm : Sz m 4) (m1 : 1 ≤ m) (ht : Sz t 400) (t0 : 0 ≤ t) (hw : wdo (c - a) (d - b) m = .plan) (hF : 2 ^ 9000 ≤ fu) (S : Store) : ∃ J, evC fu tab (k + 9) 95 [evD a b, evD c d, frD m, frD t, ownD (c - a) (d - b) m t] S = .ok (.bl true) (S ++ J) := by
  have m0 : 0 < m := by grind
  obtain ⟨J1, e1⟩ := own_flight_ok (fu := fu) G k ha hb hc hd hm m1 ht t0 hw hF S
  have hu : Sz (c - a) 75 := hc.sub ha
  have hv : Sz (d - b) 75 := hd.sub hb
  have eu : a + (c - a) = c := by grind
  have ev : b + (d - b) = d := by grind
  generalize c - a = u at *
  generalize d - b = v at *
  have i0 := inv_pos m0
  have sl : Sz ((u + v) / (m + m⁻¹)) 160 := ((hu.add hv).div (hm.add (hm.inv m0)) (ne0 (show 0 < m + m⁻¹ by grind))).mono (by decide)
  obtain ⟨w1, w2, w3, w4⟩ := wdo_plan.mp hw
  unfold ownD at *
  rw [evC_eq (G 95 _ rfl)]
  unfold tr_95
  by_cases h1 : t < (u + v) / (m + m⁻¹)
  · rw [if_pos h1] at *
    obtain ⟨J2, e2⟩ := is_just_ok (fu := fu) G (k + 5) (w := "less") sl (by decide) hF (S ++ J1)
    generalize (u + v) / (m + m⁻¹) = lo at *
    have s1 : (("less" : Str) = ("plan" : Str)) = False := by simp; decide
    refine ⟨J1 ++ J2, ?_⟩
    clear G ha hb hc hd hm m1 ht t0 hw hF m0 hu hv i0 sl h1 eu ev w1 w2 w3 w4
    walk_at "cw"
    simp
  · rw [if_neg h1] at *
    by_cases h2 : u * v < t * t
    · rw [if_pos h2] at *
      obtain ⟨J2, e2⟩ := is_just_ok (fu := fu) G (k + 5) (w := "more") (hu.mul hv) (by decide) hF (S ++ J1)
      have s1 : (("more" : Str) = ("plan" : Str)) = False := by simp; decide
      refine ⟨J1 ++ J2, ?_⟩
      clear G ha hb hc hd hm m1 ht t0 hw hF m0 hu hv i0 sl h1 h2 eu ev w1 w2 w3 w4
      walk_at "cw"
      simp
    · rw [if_neg h2] at *
      obtain ⟨q1, q2, q3, q4⟩ := last_pcs ⟨hu, hv, hm, ht⟩ m1 (fl_of m1 w1 w2 w3 w4 h1 h2) a b
      rw [eu] at q2
      rw [ev] at q3
      generalize last u v m t = L at *
      obtain ⟨J2, e2⟩ := is_plan_ok (fu := fu) G (k + 1) ha hb hm m0 q1 q2 q3 hF (S ++ J1)
      have q := eqD_fr (S := S ++ J1 ++ J2) t t
      rw [decide_eq_true rfl] at q
      refine ⟨J1 ++ J2, ?_⟩
      cases q1 with
      | nil =>
        simp only [sumT] at q4
        subst q4
        simp only [evs, List.map_nil, List.map_cons] at *
        clear G ha hb hc hd hm m1 ht t0 hw hF m0 hu hv i0 sl h1 h2 eu ev w1 w2 w3 w4 q2 q3
        walk_at "cw"
        simp
      | one x y h =>
        have b1 := plus_ok (S := S ++ J1 ++ J2) (fu := fu) G (k + 5) (Sz.mk (n := 1) (q := (0 : Rat)) (by decide) (by decide)) h.sy (by decide) hF
        simp only [sumT] at q4
        rw [q4] at b1
        simp only [evs, List.map_nil, List.map_cons] at *
        clear G ha hb hc hd hm m1 ht t0 hw hF m0 hu hv i0 sl h1 h2 eu ev w1 w2 w3 w4 q2 q3 q4 h
        walk_at "cw"
        simp
      | two x y x' y' h sx sy h' =>
        have z1 : Sz (0 : Rat) 1 := Sz.mk (by decide) (by decide)
        have b1 := plus_ok (S := S ++ J1 ++ J2) (fu := fu) G (k + 5) z1 sy (by decide) hF
        have b2 := plus_ok (S := S ++ J1 ++ J2) (fu := fu) G (k + 5) (z1.add sy) h'.sy (by decide) hF
        simp only [sumT] at q4
        rw [q4] at b2
        simp only [evs, List.map_nil, List.map_cons] at *
        clear G ha hb hc hd hm m1 ht t0 hw hF m0 hu hv i0 sl h1 h2 eu ev w1 w2 w3 w4 q2 q3 q4 h sx sy h'
        walk_at "cw"
        simp
end
end Cw
namespace Cw
open PySem PySem.Spec PyProof.Rows L2
local macro_rules | `(tactic| walk_at "cw") => `(tactic| simp only [bnd_ok, bnd_exc, varR_some, kk2_eq, v_var, v_cst, v_tup, v_lst, v_bin, v_neg, v_not, andK_t, andK_f, orK_t, orK_f, v_and, v_or, v_cmp, chK_t, chK_f, chJ_eq, v_chain, iteK_t, iteK_f, v_ite, v_idx, slcK_eq, slcL_eq, slcJ_eq, v_slc, optK_int, o_none, o_some, v_rev, rev_tup, callK_eq, callJ_none, callJ_perm, callP_some, permL_nil, permL_cons, permC_some, v_call, v_b1, v_b2, isiK_eq, v_isi, v_m0, v_m1, compE_eq, comp_live, lenL_some, live_eq, liveK_some, liveJ_none, liveJ_some, liveH_some, liveH_none, fr_live, liveF_eq, liveFK_some, liveFJ_none, liveFJ_some, liveFH_nx, liveFH_ct, liveFH_bk, liveFH_rt, nil_get, comp_fix, comp_zip, comp_rng, turnC_eq, turnJ_some, turnK_t, turnK_f, yesK_eq, wipe_nil, wipe_cons, loopL_nil, loopL_cons, loopK_some, loopK_none, zipD_nil, zipD_nil2, zipD_cons, v_comp, es_nil, consJ_eq, consK_eq, es_cons, notJ_eq, andJ_t, andJ_f, orJ_t, orJ_f, b_not, b_and, b_or, b_cmp, b_chain, b_ite, b_var, b_cst, b_call, b_b1, b_isi, b_idx, b_bin, b_comp, ofBl_bl, tru_bl, tru_int, tru_tup, tru_non, c_none', c_some', srcK_tup, srcK_rol, w_var, w_cst, w_tup, w_lst, w_bin, w_idx, w_slc, w_call, w_comp, w_rng, rng2K_eq, w_rng2, zipK_tup, w_zip, w_enum, seqR_nx, seqR_rt, seqR_bk, seqR_ct, seqR_ex, ts_nil, ts_cons, rtE_ok, asgK_eq, t_asg, tgK_some, asgTK_eq, t_asgT, parJ_eq, parK_eq, t_par, par3H_eq, par3J_eq, par3K_eq, t_par3, setJ_eq, setK_eq, t_set, expK_eq, t_exp, retK_eq, t_ret, t_retN, ifK_t, ifK_f, t_if, t_whl, frB_eq, frJ_eq, fr_fix, fr_zip, fr_rng, forL_nil, forL_cons, forK_nx, forK_ct, forK_bk, forK_rt, t_fr, t_pas, t_brk, t_cnt, body_rt, body_nx, body_ex, op_addI, op_subI, op_mulI, op_fdivI, op_modI, op_powI, mkTup_small, alloc_small, idx_R, idxS_some, setH_R, setS_some, setX_some, len_R, lenS_some, len_rol, tup_R, tupS_some, all_R, allS_some, allK_some, src_R, srcS_some, m1J_R, m1S_some, app_R, appX_some, at_new, bls_nil, bls_cons, List.all_cons, List.all_nil, id_eq, Bool.and_true, Bool.and_self,  neg_I, not_B, cop_lt, cop_le, cop_gt, cop_ge, cop_eq, cop_ne, cop_isN, cop_notN, cop_isB, cop_notB, ofOpt_some, eqD_int, eqD_str, b1_lenT, b1_abs, b1_intI, b1_intB, b2_min, b2_max, isi_tup, isi_int, isi_bl, isi_str, idxK_some, idx_tup, idx_rol, atI_0, atI_1, atI_2, atI_3, atI_4, atI_5, atI_6, atI_7, atI_m1_1, atI_m1_2, atI_m2_2, atI_m1_3, atI_m2_3, atI_m3_3, atI_m1_4, atI_m2_4, atI_m3_4, atI_m1_5, atI_m2_5, atI_m3_5, atI_m1_6, atI_m2_6, atI_m3_6, tg_nm, tg_tp, tgs_nil, tgJ_some, tgs_cons, List.getElem?_cons_zero, List.getElem?_cons_succ, List.set_cons_zero, List.set_cons_succ, List.cons_append, List.nil_append, List.map_cons, List.map_nil, startD, List.length_cons, List.length_nil, List.replicate_succ, List.replicate_zero, Nat.reduceAdd, Nat.reduceSub, Int.reduceLE, Int.reduceLT, Int.reduceEq, Int.reduceNe, Nat.reduceLT, Nat.reduceEqDiff, Nat.reduceLeDiff, Int.reduceToNat, Int.reduceNeg, Int.reduceAdd, Int.reduceSub, Int.reduceMul, Int.reducePow, rng1_eq, rngD_0, rngD_s, op_powI, reduceCtorEq, decide_true, decide_false, eq_self, Int.cast_ofNat_Int, Nat.zero_add, Option.map_some, ne_eq, not_false_eq_true, Bool.not_true, Bool.not_false, isNonD, i_ev0, i_ev1, i_fr0, i_fr1, s_ev, g_fr, g_ev, r_ev, k_ev, k_one, k_zero, atI_0, *])
local macro_rules | `(tactic| walk_at "cw0") => `(tactic| simp only [bnd_ok, bnd_exc, varR_some, kk2_eq, v_var, v_cst, v_tup, v_lst, v_bin, v_neg, v_not, andK_t, andK_f, orK_t, orK_f, v_and, v_or, v_cmp, chK_t, chK_f, chJ_eq, v_chain, iteK_t, iteK_f, v_ite, v_idx, slcK_eq, slcL_eq, slcJ_eq, v_slc, optK_int, o_none, o_some, v_rev, rev_tup, callK_eq, callJ_none, callJ_perm, callP_some, permL_nil, permL_cons, permC_some, v_call, v_b1, v_b2, isiK_eq, v_isi, v_m0, v_m1, compE_eq, comp_live, lenL_some, live_eq, liveK_some, liveJ_none, liveJ_some, liveH_some, liveH_none, fr_live, liveF_eq, liveFK_some, liveFJ_none, liveFJ_some, liveFH_nx, liveFH_ct, liveFH_bk, liveFH_rt, nil_get, comp_fix, comp_zip, comp_rng, turnC_eq, turnJ_some, turnK_t, turnK_f, yesK_eq, wipe_nil, wipe_cons, loopL_nil, loopL_cons, loopK_some, loopK_none, zipD_nil, zipD_nil2, zipD_cons, v_comp, es_nil, consJ_eq, consK_eq, es_cons, notJ_eq, andJ_t, andJ_f, orJ_t, orJ_f, b_not, b_and, b_or, b_cmp, b_chain, b_ite, b_var, b_cst, b_call, b_b1, b_isi, b_idx, b_bin, b_comp, ofBl_bl, tru_bl, tru_int, tru_tup, tru_non, c_none', c_some', srcK_tup, srcK_rol, w_var, w_cst, w_tup, w_lst, w_bin, w_idx, w_slc, w_call, w_comp, w_rng, rng2K_eq, w_rng2, zipK_tup, w_zip, w_enum, seqR_nx, seqR_rt, seqR_bk, seqR_ct, seqR_ex, ts_nil, ts_cons, rtE_ok, asgK_eq, t_asg, tgK_some, asgTK_eq, t_asgT, parJ_eq, parK_eq, t_par, par3H_eq, par3J_eq, par3K_eq, t_par3, setJ_eq, setK_eq, t_set, expK_eq, t_exp, retK_eq, t_ret, t_retN, ifK_t, ifK_f, t_if, t_whl, frB_eq, frJ_eq, fr_fix, fr_zip, fr_rng, forL_nil, forL_cons, forK_nx, forK_ct, forK_bk, forK_rt, t_fr, t_pas, t_brk, t_cnt, body_rt, body_nx, body_ex, op_addI, op_subI, op_mulI, op_fdivI, op_modI, op_powI, mkTup_small, alloc_small, idx_R, idxS_some, setH_R, setS_some, setX_some, len_R, lenS_some, len_rol, tup_R, tupS_some, all_R, allS_some, allK_some, src_R, srcS_some, m1J_R, m1S_some, app_R, appX_some, at_new, bls_nil, bls_cons, List.all_cons, List.all_nil, id_eq, Bool.and_true, Bool.and_self,  neg_I, not_B, cop_lt, cop_le, cop_gt, cop_ge, cop_eq, cop_ne, cop_isN, cop_notN, cop_isB, cop_notB, ofOpt_some, eqD_int, eqD_str, b1_lenT, b1_abs, b1_intI, b1_intB, b2_min, b2_max, isi_tup, isi_int, isi_bl, isi_str, idxK_some, idx_tup, idx_rol, atI_0, atI_1, atI_2, atI_3, atI_4, atI_5, atI_6, atI_7, atI_m1_1, atI_m1_2, atI_m2_2, atI_m1_3, atI_m2_3, atI_m3_3, atI_m1_4, atI_m2_4, atI_m3_4, atI_m1_5, atI_m2_5, atI_m3_5, atI_m1_6, atI_m2_6, atI_m3_6, tg_nm, tg_tp, tgs_nil, tgJ_some, tgs_cons, List.getElem?_cons_zero, List.getElem?_cons_succ, List.set_cons_zero, List.set_cons_succ, List.cons_append, List.nil_append, List.map_cons, List.map_nil, startD, List.length_cons, List.length_nil, List.replicate_succ, List.replicate_zero, Nat.reduceAdd, Nat.reduceSub, Int.reduceLE, Int.reduceLT, Int.reduceEq, Int.reduceNe, Nat.reduceLT, Nat.reduceEqDiff, Nat.reduceLeDiff, Int.reduceToNat, Int.reduceNeg, Int.reduceAdd, Int.reduceSub, Int.reduceMul, Int.reducePow, rng1_eq, rngD_0, rngD_s, op_powI, reduceCtorEq, decide_true, decide_false, eq_self, Int.cast_ofNat_Int, Nat.zero_add, Option.map_some, ne_eq, not_false_eq_true, Bool.not_true, Bool.not_false, isNonD, i_ev0, i_ev1, i_fr0, i_fr1, s_ev, g_fr, g_ev, r_ev, k_ev, k_one, k_zero, atI_0])
/-! ### the law's own side of wished own times -/
section
variable {tab : Nat → Option Fd} {fu : Nat}
theorem is_int_ok (G : Sub tab) (k : Nat) (i : Int) (S : Store) : evC fu tab (k + 1) 77 [.int i, .int i] S = .ok (.bl true) S := by
  have d := decide_eq_true (rfl : i = i)
  rw [evC_eq (G 77 _ rfl)]
  unfold tr_77
  clear G
  walk_at "cw"
theorem is_fr_ok (G : Sub tab) (k : Nat) (q : Rat) (S : Store) : ∃ J, evC fu tab (k + 2) 77 [frD q, frD q] S = .ok (.bl true) (S ++ J) := by
  have e := fun S i => is_int_ok (fu := fu) G k i S
  rw [evC_eq (G 77 _ rfl)]
  unfold tr_77 frD
  clear G
  exact ⟨_, by walk_at "cw"; rfl⟩
theorem is_pair_ok (G : Sub tab) (k : Nat) (w : Str) (q : Rat) (S : Store) : ∃ J, evC fu tab (k + 3) 77 [.tup [.str w, frD q], .tup [.str w, frD q]] S = .ok (.bl true) (S ++ J) := by
  obtain ⟨J, e⟩ := skl (fun S => is_fr_ok (fu := fu) G k q S)
  have e2 := fun S => is_str_ok (fu := fu) G (k + 1) w S
  rw [evC_eq (G 77 _ rfl)]
  unfold tr_77
  clear G
  exact ⟨_, by walk_at "cw"; simp only [List.append_assoc]; rfl⟩
/-! #### gone, of any sizes -/
theorem gone_any (G : Sub tab) (k : Nat) {a b p t : Rat} {n x y : Nat} {S : Store} (ha : Sz a n) (hb : Sz b n) (hp : Sz p x) (ht : Sz t y) (h0 : 0 < p) (hn : n + (x + y) < 9000) (hF : 2 ^ 9000 ≤ fu) :
    evC fu tab (k + 4) 27 [evD a b, frD p, frD t] S = .ok (evD (a + p * t) (b + t / p)) S := by
  have hp0 : p ≠ 0 := ne0 h0
  have e1 := l_times_ok (S := S) (fu := fu) G k hp ht (by omega) hF
  have e2 := l_over_ok (S := S) (fu := fu) G k ht hp hp0 (by omega) hF
  have e3 := l_plus_ok (S := S) (fu := fu) G k ha (hp.mul ht) (by omega) hF
  have e4 := l_plus_ok (S := S) (fu := fu) G k hb (ht.div hp hp0) (by omega) hF
  rw [evC_eq (G 27 _ rfl)]
  unfold tr_27 evD
  clear G ha hb hp ht h0 hn hF hp0
  walk_at "cw"
/-! #### pieces that lead there -/
def body94 : Ts := match tr_94 with
  | .cons _ (.cons _ (.cons (.fr _ _ b) _)) => b
  | _ => .nil
theorem leads_turn (G : Sub tab) (k : Nat) {a b m x y : Rat} {n p q : Nat} (hm : Sz m 4) (m0 : 0 < m) (ha : Sz a n) (hb : Sz b n) (h : Pc1 m x y) (sx : Sz x p) (sy : Sz y q) (hn : n + (p + q) < 9000) (hF : 2 ^ 9000 ≤ fu) (o0 o1 o3 o4 o7 : Option D) (S : Store) :
    ∃ J, frB fu (evC fu tab (k + 4)) (.nm 4) body94 (evD x y) [o0, o1, some (frD m), o3, o4, some (frD (1 / m)), some (evD a b), o7] S = some (.nx [o0, o1, some (frD m), o3, some (evD x y), some (frD (1 / m)), some (evD (a + x * y) (b + y / x)), o7], S ++ J) := by
  obtain ⟨J1, e1⟩ := skl (fun S => frac_is_pace_ok (fu := fu) G (k + 1) h.sx h.x0 (by decide) hF S)
  obtain ⟨J2, e2⟩ := skl (fun S => frac_is_pace_ok (fu := fu) G (k + 1) h.sy h.y0 (by decide) hF S)
  have s1 : Sz (1 : Rat) 1 := ⟨by decide, by decide⟩
  have e3 := fun S => is_less_ok (fu := fu) G (k + 3) h.sx (s1.div hm (ne0 m0)) (by decide) S
  have e4 := fun S => is_less_ok (fu := fu) G (k + 3) hm h.sx (by decide) S
  have lo : ¬ x < 1 / m := by
    have := h.lo
    rw [Rat.div_def, Rat.one_mul]
    exact Rat.not_lt.mpr this
  rw [decide_eq_false lo] at e3
  rw [decide_eq_false (Rat.not_lt.mpr h.hi)] at e4
  have e5 := fun S => gone_any (S := S) G k ha hb sx sy h.x0 hn hF
  have t1 := fun S => show evIsi (evD x y) .tuple S = .ok (.bl true) S from rfl
  have t2 := fun S => show evB1 .len (evD x y) S = .ok (.int 2) S from rfl
  unfold body94 tr_94
  dsimp only
  clear G hm m0 ha hb h sx sy hn hF s1 lo
  exact ⟨_, by walk_at "cw"; simp only [List.append_assoc]; rfl⟩
theorem leads_loop (G : Sub tab) (k : Nat) {a b m : Rat} {L : List (Rat × Rat)} (ha : Sz a 14) (hb : Sz b 14) (hm : Sz m 4) (m0 : 0 < m) (hL : Pcs m L) (hF : 2 ^ 9000 ≤ fu) (o0 o1 o3 o4 o7 : Option D) (S : Store) :
    ∃ o4' J, forL (frB fu (evC fu tab (k + 4)) (.nm 4) body94) (evs L) [o0, o1, some (frD m), o3, o4, some (frD (1 / m)), some (evD a b), o7] S = some (.nx [o0, o1, some (frD m), o3, o4', some (frD (1 / m)), some (evD (goneU a L) (goneV b L)), o7], S ++ J) := by
  cases hL with
  | nil => exact ⟨o4, [], by rw [show evs [] = [] from rfl, forL_nil, List.append_nil]; rfl⟩
  | one x y h =>
    obtain ⟨J1, e1⟩ := leads_turn (fu := fu) G k hm m0 ha hb h h.sx h.sy (by decide) hF o0 o1 o3 o4 o7 S
    exact ⟨some (evD x y), J1, by rw [show evs [(x, y)] = [evD x y] from rfl, forL_cons, e1, forK_nx, forL_nil]; rfl⟩
  | two x y x' y' h sx sy h' =>
    obtain ⟨J1, e1⟩ := leads_turn (fu := fu) G k hm m0 ha hb h sx sy (by decide) hF o0 o1 o3 o4 o7 S
    have s2 := (ha.add (sx.mul sy))
    have s3 := (hb.add (sy.div sx (ne0 h.x0)))
    obtain ⟨J2, e2⟩ := leads_turn (fu := fu) (n := 2100) G k hm m0 (s2.mono (by decide)) (s3.mono (by decide)) h' h'.sx h'.sy (by decide) hF o0 o1 o3 (some (evD x y)) o7 (S ++ J1)
    exact ⟨some (evD x' y'), J1 ++ J2, by rw [show evs [(x, y), (x', y')] = [evD x y, evD x' y'] from rfl, forL_cons, e1, forK_nx, forL_cons, e2, forK_nx, forL_nil, List.append_assoc]; rfl⟩
theorem leads_ok (G : Sub tab) (k : Nat) {a b c d m : Rat} {L : List (Rat × Rat)} (ha : Sz a 14) (hb : Sz b 14) (hm : Sz m 4) (m0 : 0 < m) (hL : Pcs m L) (hu : goneU a L = c) (hv : goneV b L = d) (hF : 2 ^ 9000 ≤ fu) (S : Store) : ∃ J, evC fu tab (k + 5) 94 [evD a b, evD c d, frD m, .tup (evs L)] S = .ok (.bl true) (S ++ J) := by
  have s1 : Sz (1 : Rat) 1 := ⟨by decide, by decide⟩
  have e0 := fun S => l_over_ok (S := S) (fu := fu) G (k + 1) s1 hm (ne0 m0) (by decide) hF
  have q := fun S => eqD_ev (S := S) c d c d
  rw [decide_eq_true ⟨rfl, rfl⟩] at q
  obtain ⟨o4, J, h1⟩ := leads_loop (fu := fu) G k ha hb hm m0 hL hF (some (evD a b)) (some (evD c d)) (some (.tup (evs L))) none none S
  rw [hu, hv] at h1
  unfold body94 tr_94 at h1
  dsimp only at h1
  refine ⟨J, ?_⟩
  generalize evs L = X at *
  rw [evC_eq (G 94 _ rfl)]
  unfold tr_94
  clear G ha hb hm m0 hL hu hv hF s1
  walk_at "cw"
/-! #### sums of pieces' times -/
theorem fsum0 (G : Sub tab) (k : Nat) {j : Nat} {S : Store} (hj : S[j]? = some (.lst [])) : evC fu tab (k + 4) 93 [.ref j] S = .ok (frD 0) S := by
  rw [evC_eq (G 93 _ rfl)]
  unfold tr_93
  clear G
  walk_at "cw"
theorem fsum1 (G : Sub tab) (k : Nat) {j n : Nat} {x : Rat} {S : Store} (sx : Sz x n) (hn : n < 8000) (hj : S[j]? = some (.lst [frD x])) (hF : 2 ^ 9000 ≤ fu) : evC fu tab (k + 4) 93 [.ref j] S = .ok (frD (0 + x)) S := by
  have e1 := l_plus_ok (S := S) (fu := fu) G k (Sz.mk (q := (0 : Rat)) (n := 1) (by decide) (by decide)) sx (by omega) hF
  rw [evC_eq (G 93 _ rfl)]
  unfold tr_93
  clear G sx hn hF
  walk_at "cw"
theorem fsum2 (G : Sub tab) (k : Nat) {j n p : Nat} {x y : Rat} {S : Store} (sx : Sz x n) (sy : Sz y p) (hn : n + p < 8000) (hj : S[j]? = some (.lst [frD x, frD y])) (hF : 2 ^ 9000 ≤ fu) : evC fu tab (k + 4) 93 [.ref j] S = .ok (frD (0 + x + y)) S := by
  have z1 : Sz (0 : Rat) 1 := Sz.mk (by decide) (by decide)
  have e1 := l_plus_ok (S := S) (fu := fu) G k z1 sx (by omega) hF
  have e2 := l_plus_ok (S := S) (fu := fu) G k (z1.add sx) sy (by omega) hF
  rw [evC_eq (G 93 _ rfl)]
  unfold tr_93
  clear G sx sy hn hF z1
  walk_at "cw"
/-! #### a wish is right -/
theorem wish_ok (G : Sub tab) (k : Nat) {a b c d m t : Rat} (ha : Sz a 14) (hb : Sz b 14) (hc : Sz c 60) (hd : Sz d 60) (hm : Sz m 4) (m1 : 1 ≤ m) (ht : Sz t 400) (t0 : 0 ≤ t) (hw : wdo (c - a) (d - b) m = .plan) (hF : 2 ^ 9000 ≤ fu) (S : Store) :
    ∃ J, evC fu tab (k + 10) 90 [evD a b, evD c d, frD m, frD t, frD ((c - a + (d - b)) / (m + m⁻¹)), frD ((c - a) * (d - b))] S = .ok (.bl true) (S ++ J) := by
  have m0 : 0 < m := by grind
  obtain ⟨J1, e1⟩ := own_flight_ok (fu := fu) G (k + 1) ha hb hc hd hm m1 ht t0 hw hF S
  obtain ⟨J2, e2⟩ := shows_own_ok (fu := fu) G k ha hb hc hd hm m1 ht t0 hw hF (S ++ J1)
  have hu : Sz (c - a) 75 := hc.sub ha
  have hv : Sz (d - b) 75 := hd.sub hb
  have eu : a + (c - a) = c := by grind
  have ev : b + (d - b) = d := by grind
  generalize c - a = u at *
  generalize d - b = v at *
  have i0 := inv_pos m0
  have sl : Sz ((u + v) / (m + m⁻¹)) 160 := ((hu.add hv).div (hm.add (hm.inv m0)) (ne0 (show 0 < m + m⁻¹ by grind))).mono (by decide)
  obtain ⟨w1, w2, w3, w4⟩ := wdo_plan.mp hw
  have b2 := fun S => is_less_ok (fu := fu) G (k + 8) ht sl (by decide) S
  have b3 := fun S => l_times_ok (S := S) (fu := fu) G (k + 6) ht ht (by decide) hF
  have b4 := fun S => is_less_ok (fu := fu) G (k + 8) (hu.mul hv) (ht.mul ht) (by decide) S
  unfold ownD at *
  rw [evC_eq (G 90 _ rfl)]
  unfold tr_90
  by_cases h1 : t < (u + v) / (m + m⁻¹)
  · rw [if_pos h1] at *
    rw [decide_eq_true h1] at b2
    generalize (u + v) / (m + m⁻¹) = lo at *
    obtain ⟨J3, e3⟩ := is_pair_ok (fu := fu) G (k + 6) "less" lo (S ++ J1 ++ J2)
    refine ⟨J1 ++ J2 ++ J3, ?_⟩
    clear G ha hb hc hd hm m1 ht t0 hw hF m0 hu hv i0 sl h1 eu ev w1 w2 w3 w4
    walk_at "cw"
    simp
  · rw [if_neg h1] at *
    rw [decide_eq_false h1] at b2
    by_cases h2 : u * v < t * t
    · rw [if_pos h2] at *
      rw [decide_eq_true h2] at b4
      obtain ⟨J3, e3⟩ := is_pair_ok (fu := fu) G (k + 6) "more" (u * v) (S ++ J1 ++ J2)
      refine ⟨J1 ++ J2 ++ J3, ?_⟩
      clear G ha hb hc hd hm m1 ht t0 hw hF m0 hu hv i0 sl h1 h2 eu ev w1 w2 w3 w4
      walk_at "cw"
      simp
    · rw [if_neg h2] at *
      rw [decide_eq_false h2] at b4
      obtain ⟨q1, q2, q3, q4⟩ := last_pcs ⟨hu, hv, hm, ht⟩ m1 (fl_of m1 w1 w2 w3 w4 h1 h2) a b
      rw [eu] at q2
      rw [ev] at q3
      generalize last u v m t = L at *
      obtain ⟨J3, e3⟩ := leads_ok (fu := fu) G (k + 4) ha hb hm m0 q1 q2 q3 hF (S ++ J1 ++ J2)
      have e4 := fun S => is_str_ok (fu := fu) G (k + 8) "plan" S
      have q := fun S => eqD_fr (S := S) t t
      rw [decide_eq_true rfl] at q
      cases q1 with
      | nil =>
        simp only [sumT] at q4
        subst q4
        have e5 := fsum0 (fu := fu) G (k + 5) (j := (S ++ J1 ++ J2 ++ J3).length) (S := S ++ J1 ++ J2 ++ J3 ++ [.lst []]) (at_new _)
        refine ⟨J1 ++ J2 ++ J3 ++ [.lst []], ?_⟩
        simp only [evs, List.map_nil, List.map_cons] at *
        clear G ha hb hc hd hm m1 ht t0 hw hF m0 hu hv i0 sl h1 h2 eu ev w1 w2 w3 w4 q2 q3
        walk_at "cw"
        simp
      | one x y h =>
        simp only [sumT] at q4
        have e5 := fsum1 (fu := fu) G (k + 5) h.sy (by decide) (j := (S ++ J1 ++ J2 ++ J3).length) (S := S ++ J1 ++ J2 ++ J3 ++ [.lst [frD y]]) (at_new _) hF
        rw [q4] at e5
        refine ⟨J1 ++ J2 ++ J3 ++ [.lst [frD y]], ?_⟩
        simp only [evs, List.map_nil, List.map_cons] at *
        clear G ha hb hc hd hm m1 ht t0 hw hF m0 hu hv i0 sl h1 h2 eu ev w1 w2 w3 w4 q2 q3 q4 h
        walk_at "cw"
        simp
      | two x y x' y' h sx sy h' =>
        simp only [sumT] at q4
        have e5 := fsum2 (fu := fu) G (k + 5) sy h'.sy (by decide) (j := (S ++ J1 ++ J2 ++ J3).length) (S := S ++ J1 ++ J2 ++ J3 ++ [.lst [frD y, frD y']]) (at_new _) hF
        rw [q4] at e5
        refine ⟨J1 ++ J2 ++ J3 ++ [.lst [frD y, frD y']], ?_⟩
        simp only [evs, List.map_nil, List.map_cons] at *
        clear G ha hb hc hd hm m1 ht t0 hw hF m0 hu hv i0 sl h1 h2 eu ev w1 w2 w3 w4 q2 q3 q4 h h' sx sy
        walk_at "cw"
        simp
/-! #### the least, by own sums -/
theorem within_least_ok (G : Sub tab) (k : Nat) {a b c d m : Rat} (ha : Sz a 14) (hb : Sz b 14) (hc : Sz c 60) (hd : Sz d 60) (hm : Sz m 4) (m1 : 1 ≤ m) (hF : 2 ^ 9000 ≤ fu) (S : Store) : ∃ J, evC fu tab (k + 5) 92 [evD a b, evD c d, frD m] S = .ok (frD ((c - a + (d - b)) / (m + m⁻¹))) (S ++ J) := by
  have m0 : 0 < m := by grind
  obtain ⟨J1, e1⟩ := l_more_ok (fu := fu) G k ha hb hc hd (by decide) hF S
  have hu := hc.sub ha
  have hv := hd.sub hb
  generalize c - a = u at *
  generalize d - b = v at *
  have s1 : Sz (1 : Rat) 1 := ⟨by decide, by decide⟩
  have i0 := inv_pos m0
  have b1 := fun S => l_plus_ok (S := S) (fu := fu) G (k + 1) hu hv (by decide) hF
  have b2 := fun S => l_over_ok (S := S) (fu := fu) G (k + 1) s1 hm (ne0 m0) (by decide) hF
  rw [show (1 : Rat) / m = m⁻¹ by rw [Rat.div_def, Rat.one_mul]] at b2
  have b3 := fun S => l_plus_ok (S := S) (fu := fu) G (k + 1) hm (hm.inv m0) (by decide) hF
  have b4 := fun S => l_over_ok (S := S) (fu := fu) G (k + 1) (hu.add hv) (hm.add (hm.inv m0)) (ne0 (show 0 < m + m⁻¹ by grind)) (by decide) hF
  rw [evC_eq (G 92 _ rfl)]
  unfold tr_92
  refine ⟨J1, ?_⟩
  clear G ha hb hc hd hm m1 hF m0 hu hv i0 s1
  walk_at "cw"
end
end Cw
namespace Cw
open PySem PySem.Spec PyProof.Rows L2
local macro_rules | `(tactic| walk_at "cw") => `(tactic| simp only [bnd_ok, bnd_exc, varR_some, kk2_eq, v_var, v_cst, v_tup, v_lst, v_bin, v_neg, v_not, andK_t, andK_f, orK_t, orK_f, v_and, v_or, v_cmp, chK_t, chK_f, chJ_eq, v_chain, iteK_t, iteK_f, v_ite, v_idx, slcK_eq, slcL_eq, slcJ_eq, v_slc, optK_int, o_none, o_some, v_rev, rev_tup, callK_eq, callJ_none, callJ_perm, callP_some, permL_nil, permL_cons, permC_some, v_call, v_b1, v_b2, isiK_eq, v_isi, v_m0, v_m1, compE_eq, comp_live, lenL_some, live_eq, liveK_some, liveJ_none, liveJ_some, liveH_some, liveH_none, fr_live, liveF_eq, liveFK_some, liveFJ_none, liveFJ_some, liveFH_nx, liveFH_ct, liveFH_bk, liveFH_rt, nil_get, comp_fix, comp_zip, comp_rng, turnC_eq, turnJ_some, turnK_t, turnK_f, yesK_eq, wipe_nil, wipe_cons, loopL_nil, loopL_cons, loopK_some, loopK_none, zipD_nil, zipD_nil2, zipD_cons, v_comp, es_nil, consJ_eq, consK_eq, es_cons, notJ_eq, andJ_t, andJ_f, orJ_t, orJ_f, b_not, b_and, b_or, b_cmp, b_chain, b_ite, b_var, b_cst, b_call, b_b1, b_isi, b_idx, b_bin, b_comp, ofBl_bl, tru_bl, tru_int, tru_tup, tru_non, c_none', c_some', srcK_tup, srcK_rol, w_var, w_cst, w_tup, w_lst, w_bin, w_idx, w_slc, w_call, w_comp, w_rng, rng2K_eq, w_rng2, zipK_tup, w_zip, w_enum, seqR_nx, seqR_rt, seqR_bk, seqR_ct, seqR_ex, ts_nil, ts_cons, rtE_ok, asgK_eq, t_asg, tgK_some, asgTK_eq, t_asgT, parJ_eq, parK_eq, t_par, par3H_eq, par3J_eq, par3K_eq, t_par3, setJ_eq, setK_eq, t_set, expK_eq, t_exp, retK_eq, t_ret, t_retN, ifK_t, ifK_f, t_if, t_whl, frB_eq, frJ_eq, fr_fix, fr_zip, fr_rng, forL_nil, forL_cons, forK_nx, forK_ct, forK_bk, forK_rt, t_fr, t_pas, t_brk, t_cnt, body_rt, body_nx, body_ex, op_addI, op_subI, op_mulI, op_fdivI, op_modI, op_powI, mkTup_small, alloc_small, idx_R, idxS_some, setH_R, setS_some, setX_some, len_R, lenS_some, len_rol, tup_R, tupS_some, all_R, allS_some, allK_some, src_R, srcS_some, m1J_R, m1S_some, app_R, appX_some, at_new, bls_nil, bls_cons, List.all_cons, List.all_nil, id_eq, Bool.and_true, Bool.and_self,  neg_I, not_B, cop_lt, cop_le, cop_gt, cop_ge, cop_eq, cop_ne, cop_isN, cop_notN, cop_isB, cop_notB, ofOpt_some, eqD_int, eqD_str, b1_lenT, b1_abs, b1_intI, b1_intB, b2_min, b2_max, isi_tup, isi_int, isi_bl, isi_str, idxK_some, idx_tup, idx_rol, atI_0, atI_1, atI_2, atI_3, atI_4, atI_5, atI_6, atI_7, atI_m1_1, atI_m1_2, atI_m2_2, atI_m1_3, atI_m2_3, atI_m3_3, atI_m1_4, atI_m2_4, atI_m3_4, atI_m1_5, atI_m2_5, atI_m3_5, atI_m1_6, atI_m2_6, atI_m3_6, tg_nm, tg_tp, tgs_nil, tgJ_some, tgs_cons, List.getElem?_cons_zero, List.getElem?_cons_succ, List.set_cons_zero, List.set_cons_succ, List.cons_append, List.nil_append, List.map_cons, List.map_nil, startD, List.length_cons, List.length_nil, List.replicate_succ, List.replicate_zero, Nat.reduceAdd, Nat.reduceSub, Int.reduceLE, Int.reduceLT, Int.reduceEq, Int.reduceNe, Nat.reduceLT, Nat.reduceEqDiff, Nat.reduceLeDiff, Int.reduceToNat, Int.reduceNeg, Int.reduceAdd, Int.reduceSub, Int.reduceMul, Int.reducePow, rng1_eq, rngD_0, rngD_s, op_powI, reduceCtorEq, decide_true, decide_false, eq_self, Int.cast_ofNat_Int, Nat.zero_add, Option.map_some, ne_eq, not_false_eq_true, Bool.not_true, Bool.not_false, isNonD, i_ev0, i_ev1, i_fr0, i_fr1, s_ev, g_fr, g_ev, r_ev, k_ev, k_one, k_zero, atI_0, *])
local macro_rules | `(tactic| walk_at "cw0") => `(tactic| simp only [bnd_ok, bnd_exc, varR_some, kk2_eq, v_var, v_cst, v_tup, v_lst, v_bin, v_neg, v_not, andK_t, andK_f, orK_t, orK_f, v_and, v_or, v_cmp, chK_t, chK_f, chJ_eq, v_chain, iteK_t, iteK_f, v_ite, v_idx, slcK_eq, slcL_eq, slcJ_eq, v_slc, optK_int, o_none, o_some, v_rev, rev_tup, callK_eq, callJ_none, callJ_perm, callP_some, permL_nil, permL_cons, permC_some, v_call, v_b1, v_b2, isiK_eq, v_isi, v_m0, v_m1, compE_eq, comp_live, lenL_some, live_eq, liveK_some, liveJ_none, liveJ_some, liveH_some, liveH_none, fr_live, liveF_eq, liveFK_some, liveFJ_none, liveFJ_some, liveFH_nx, liveFH_ct, liveFH_bk, liveFH_rt, nil_get, comp_fix, comp_zip, comp_rng, turnC_eq, turnJ_some, turnK_t, turnK_f, yesK_eq, wipe_nil, wipe_cons, loopL_nil, loopL_cons, loopK_some, loopK_none, zipD_nil, zipD_nil2, zipD_cons, v_comp, es_nil, consJ_eq, consK_eq, es_cons, notJ_eq, andJ_t, andJ_f, orJ_t, orJ_f, b_not, b_and, b_or, b_cmp, b_chain, b_ite, b_var, b_cst, b_call, b_b1, b_isi, b_idx, b_bin, b_comp, ofBl_bl, tru_bl, tru_int, tru_tup, tru_non, c_none', c_some', srcK_tup, srcK_rol, w_var, w_cst, w_tup, w_lst, w_bin, w_idx, w_slc, w_call, w_comp, w_rng, rng2K_eq, w_rng2, zipK_tup, w_zip, w_enum, seqR_nx, seqR_rt, seqR_bk, seqR_ct, seqR_ex, ts_nil, ts_cons, rtE_ok, asgK_eq, t_asg, tgK_some, asgTK_eq, t_asgT, parJ_eq, parK_eq, t_par, par3H_eq, par3J_eq, par3K_eq, t_par3, setJ_eq, setK_eq, t_set, expK_eq, t_exp, retK_eq, t_ret, t_retN, ifK_t, ifK_f, t_if, t_whl, frB_eq, frJ_eq, fr_fix, fr_zip, fr_rng, forL_nil, forL_cons, forK_nx, forK_ct, forK_bk, forK_rt, t_fr, t_pas, t_brk, t_cnt, body_rt, body_nx, body_ex, op_addI, op_subI, op_mulI, op_fdivI, op_modI, op_powI, mkTup_small, alloc_small, idx_R, idxS_some, setH_R, setS_some, setX_some, len_R, lenS_some, len_rol, tup_R, tupS_some, all_R, allS_some, allK_some, src_R, srcS_some, m1J_R, m1S_some, app_R, appX_some, at_new, bls_nil, bls_cons, List.all_cons, List.all_nil, id_eq, Bool.and_true, Bool.and_self,  neg_I, not_B, cop_lt, cop_le, cop_gt, cop_ge, cop_eq, cop_ne, cop_isN, cop_notN, cop_isB, cop_notB, ofOpt_some, eqD_int, eqD_str, b1_lenT, b1_abs, b1_intI, b1_intB, b2_min, b2_max, isi_tup, isi_int, isi_bl, isi_str, idxK_some, idx_tup, idx_rol, atI_0, atI_1, atI_2, atI_3, atI_4, atI_5, atI_6, atI_7, atI_m1_1, atI_m1_2, atI_m2_2, atI_m1_3, atI_m2_3, atI_m3_3, atI_m1_4, atI_m2_4, atI_m3_4, atI_m1_5, atI_m2_5, atI_m3_5, atI_m1_6, atI_m2_6, atI_m3_6, tg_nm, tg_tp, tgs_nil, tgJ_some, tgs_cons, List.getElem?_cons_zero, List.getElem?_cons_succ, List.set_cons_zero, List.set_cons_succ, List.cons_append, List.nil_append, List.map_cons, List.map_nil, startD, List.length_cons, List.length_nil, List.replicate_succ, List.replicate_zero, Nat.reduceAdd, Nat.reduceSub, Int.reduceLE, Int.reduceLT, Int.reduceEq, Int.reduceNe, Nat.reduceLT, Nat.reduceEqDiff, Nat.reduceLeDiff, Int.reduceToNat, Int.reduceNeg, Int.reduceAdd, Int.reduceSub, Int.reduceMul, Int.reducePow, rng1_eq, rngD_0, rngD_s, op_powI, reduceCtorEq, decide_true, decide_false, eq_self, Int.cast_ofNat_Int, Nat.zero_add, Option.map_some, ne_eq, not_false_eq_true, Bool.not_true, Bool.not_false, isNonD, i_ev0, i_ev1, i_fr0, i_fr1, s_ev, g_fr, g_ev, r_ev, k_ev, k_one, k_zero, atI_0])
/-! ### the greatest integer whose square is not above a number: some integer that is not great -/
section
variable {tab : Nat → Option Fd} {fu : Nat}
theorem root_up {cl : CallT} {N : Int} (o : Option D) (S : Store) : ∀ (m fuel : Nat) (h : Int), m < fuel → 1 ≤ h → N < h * 2 ^ m → h * 2 ^ m ≤ 2 ^ 200 →
    ∃ h', loopW ((ev3 cl (.cmp .le (.bin .mul (.var 2) (.var 2)) (.var 0))).b) (evTs fu cl (.cons (.asg 2 (.bin .mul (.cst (.int 2)) (.var 2))) .nil)) fuel [some (.int N), some (.int 0), some (.int h), o] S = some (.nx [some (.int N), some (.int 0), some (.int h'), o], S) ∧ 1 ≤ h' ∧ h' ≤ 2 ^ 200
  | m, 0, h, hf, _, _, _ => absurd hf (by omega)
  | m, fuel + 1, h, hf, h1, hN, hB => by
    have hp : (1 : Int) ≤ 2 ^ m := by
      have := Int.pow_pos (n := 2) (m := m) (by decide)
      omega
    have hle : h ≤ h * 2 ^ m := by
      have := Int.mul_le_mul_of_nonneg_left hp (show 0 ≤ h by omega)
      omega
    have o1 : okMul h h = true := okMul_nn (x := 201) (y := 201) (by omega) (by omega) (by omega) (by omega) (by decide)
    have o2 : okMul 2 h = true := okMul_nn (x := 2) (y := 201) (by decide) (by decide) (by omega) (by omega) (by decide)
    by_cases hc : h * h ≤ N
    · cases m with
      | zero =>
        have hh := Int.mul_le_mul_of_nonneg_left h1 (show 0 ≤ h by omega)
        omega
      | succ m =>
        have e2 : 2 * h * 2 ^ m = h * 2 ^ (m + 1) := by
          rw [Int.pow_succ, Int.mul_comm 2 h, Int.mul_assoc, Int.mul_comm 2]
        obtain ⟨h', r1, r2, r3⟩ := root_up (cl := cl) o S m fuel (2 * h) (by omega) (by omega) (by rw [e2]; exact hN) (by rw [e2]; exact hB)
        refine ⟨h', ?_, r2, r3⟩
        have d1 := decide_eq_true hc
        unfold loopW
        clear hf h1 hN hB hp hle hc e2 r2 r3
        walk_at "cw"
    · refine ⟨h, ?_, h1, by omega⟩
      have d1 := decide_eq_false hc
      unfold loopW
      clear hf h1 hN hB hp hle hc
      walk_at "cw"
theorem root_down {cl : CallT} {N : Int} (S : Store) : ∀ (m fuel : Nat) (lo hi : Int) (o : Option D), m < fuel → 0 ≤ lo → lo < hi → hi ≤ 2 ^ 200 → hi - lo ≤ 2 ^ m →
    ∃ lo' hi' o', loopW ((ev3 cl (.cmp .gt (.bin .sub (.var 2) (.var 1)) (.cst (.int 1)))).b) (evTs fu cl (.cons (.asg 3 (.bin .fdiv (.bin .add (.var 1) (.var 2)) (.cst (.int 2)))) (.cons (.asgT (.tp [(.nm 1), (.nm 2)]) (.ite (.cmp .le (.bin .mul (.var 3) (.var 3)) (.var 0)) (.tup (.cons (.var 3) (.cons (.var 2) .nil))) (.tup (.cons (.var 1) (.cons (.var 3) .nil))))) .nil))) fuel [some (.int N), some (.int lo), some (.int hi), o] S = some (.nx [some (.int N), some (.int lo'), some (.int hi'), o'], S) ∧ 0 ≤ lo' ∧ lo' < 2 ^ 200
  | m, 0, lo, hi, o, hf, _, _, _, _ => absurd hf (by omega)
  | m, fuel + 1, lo, hi, o, hf, h0, h1, h2, h3 => by
    have o5 : okDiv 2 = true := by decide
    by_cases hc : 1 < hi - lo
    · have d1 := decide_eq_true hc
      cases m with
      | zero => exact absurd h3 (by simp; omega)
      | succ m =>
        rw [Int.pow_succ] at h3
        have em : (lo + hi).fdiv 2 = (lo + hi) / 2 := Int.fdiv_eq_ediv_of_nonneg _ (by decide)
        obtain ⟨md, hmd⟩ : ∃ md, md = (lo + hi) / 2 := ⟨_, rfl⟩
        rw [← hmd] at em
        have o1 : okMul md md = true := okMul_nn (x := 201) (y := 201) (by omega) (by omega) (by omega) (by omega) (by decide)
        by_cases hq : md * md ≤ N
        · obtain ⟨lo', hi', o', r1, r2, r3⟩ := root_down (cl := cl) (N := N) S m fuel md hi (some (.int md)) (by omega) (by omega) (by omega) h2 (by omega)
          refine ⟨lo', hi', o', ?_, r2, r3⟩
          have d2 := decide_eq_true hq
          unfold loopW
          clear hf h0 h1 h2 h3 hc hq r2 r3 hmd
          walk_at "cw"
        · obtain ⟨lo', hi', o', r1, r2, r3⟩ := root_down (cl := cl) (N := N) S m fuel lo md (some (.int md)) (by omega) h0 (by omega) (by omega) (by omega)
          refine ⟨lo', hi', o', ?_, r2, r3⟩
          have d2 := decide_eq_false hq
          unfold loopW
          clear hf h0 h1 h2 h3 hc hq r2 r3 hmd
          walk_at "cw"
    · have d1 := decide_eq_false hc
      refine ⟨lo, hi, o, ?_, h0, by omega⟩
      unfold loopW
      clear hf h0 h1 h2 h3 hc
      walk_at "cw"
local macro_rules | `(tactic| walk_at "cw") => `(tactic| simp only [bnd_ok, bnd_exc, varR_some, kk2_eq, v_var, v_cst, v_tup, v_lst, v_bin, v_neg, v_not, andK_t, andK_f, orK_t, orK_f, v_and, v_or, v_cmp, chK_t, chK_f, chJ_eq, v_chain, iteK_t, iteK_f, v_ite, v_idx, slcK_eq, slcL_eq, slcJ_eq, v_slc, optK_int, o_none, o_some, v_rev, rev_tup, callK_eq, callJ_none, callJ_perm, callP_some, permL_nil, permL_cons, permC_some, v_call, v_b1, v_b2, isiK_eq, v_isi, v_m0, v_m1, compE_eq, comp_live, lenL_some, live_eq, liveK_some, liveJ_none, liveJ_some, liveH_some, liveH_none, fr_live, liveF_eq, liveFK_some, liveFJ_none, liveFJ_some, liveFH_nx, liveFH_ct, liveFH_bk, liveFH_rt, nil_get, comp_fix, comp_zip, comp_rng, turnC_eq, turnJ_some, turnK_t, turnK_f, yesK_eq, wipe_nil, wipe_cons, loopL_nil, loopL_cons, loopK_some, loopK_none, zipD_nil, zipD_nil2, zipD_cons, v_comp, es_nil, consJ_eq, consK_eq, es_cons, notJ_eq, andJ_t, andJ_f, orJ_t, orJ_f, b_not, b_and, b_or, b_cmp, b_chain, b_ite, b_var, b_cst, b_call, b_b1, b_isi, b_idx, b_bin, b_comp, ofBl_bl, tru_bl, tru_int, tru_tup, tru_non, c_none', c_some', srcK_tup, srcK_rol, w_var, w_cst, w_tup, w_lst, w_bin, w_idx, w_slc, w_call, w_comp, w_rng, rng2K_eq, w_rng2, zipK_tup, w_zip, w_enum, seqR_nx, seqR_rt, seqR_bk, seqR_ct, seqR_ex, ts_nil, ts_cons, rtE_ok, asgK_eq, t_asg, tgK_some, asgTK_eq, t_asgT, parJ_eq, parK_eq, t_par, par3H_eq, par3J_eq, par3K_eq, t_par3, setJ_eq, setK_eq, t_set, expK_eq, t_exp, retK_eq, t_ret, t_retN, ifK_t, ifK_f, t_if, t_whl, frB_eq, frJ_eq, fr_fix, fr_zip, fr_rng, forL_nil, forL_cons, forK_nx, forK_ct, forK_bk, forK_rt, t_fr, t_pas, t_brk, t_cnt, body_rt, body_nx, body_ex, op_addI, op_subI, op_mulI, op_fdivI, op_modI, op_powI, mkTup_small, alloc_small, idx_R, idxS_some, setH_R, setS_some, setX_some, len_R, lenS_some, len_rol, tup_R, tupS_some, all_R, allS_some, allK_some, src_R, srcS_some, m1J_R, m1S_some, app_R, appX_some, at_new, bls_nil, bls_cons, List.all_cons, List.all_nil, id_eq, Bool.and_true, Bool.and_self,  neg_I, not_B, cop_lt, cop_le, cop_gt, cop_ge, cop_eq, cop_ne, cop_isN, cop_notN, cop_isB, cop_notB, ofOpt_some, eqD_int, eqD_str, b1_lenT, b1_abs, b1_intI, b1_intB, b2_min, b2_max, isi_tup, isi_int, isi_bl, isi_str, idxK_some, idx_tup, idx_rol, atI_0, atI_1, atI_2, atI_3, atI_4, atI_5, atI_6, atI_7, atI_m1_1, atI_m1_2, atI_m2_2, atI_m1_3, atI_m2_3, atI_m3_3, atI_m1_4, atI_m2_4, atI_m3_4, atI_m1_5, atI_m2_5, atI_m3_5, atI_m1_6, atI_m2_6, atI_m3_6, tg_nm, tg_tp, tgs_nil, tgJ_some, tgs_cons, List.getElem?_cons_zero, List.getElem?_cons_succ, List.set_cons_zero, List.set_cons_succ, List.cons_append, List.nil_append, List.map_cons, List.map_nil, startD, List.length_cons, List.length_nil, List.replicate_succ, List.replicate_zero, Nat.reduceAdd, Nat.reduceSub, Int.reduceLE, Int.reduceLT, Int.reduceEq, Int.reduceNe, Nat.reduceLT, Nat.reduceEqDiff, Nat.reduceLeDiff, Int.reduceToNat, Int.reduceNeg, Int.reduceAdd, Int.reduceSub, Int.reduceMul, Int.reducePow, rng1_eq, rngD_0, rngD_s, op_powI, reduceCtorEq, decide_true, decide_false, eq_self, Int.cast_ofNat_Int, Nat.zero_add, Option.map_some, ne_eq, not_false_eq_true, Bool.not_true, Bool.not_false, isNonD, i_ev0, i_ev1, i_fr0, i_fr1, s_ev, g_fr, g_ev, r_ev, k_ev, atI_0, *])
local macro_rules | `(tactic| walk_at "cw0") => `(tactic| simp only [bnd_ok, bnd_exc, varR_some, kk2_eq, v_var, v_cst, v_tup, v_lst, v_bin, v_neg, v_not, andK_t, andK_f, orK_t, orK_f, v_and, v_or, v_cmp, chK_t, chK_f, chJ_eq, v_chain, iteK_t, iteK_f, v_ite, v_idx, slcK_eq, slcL_eq, slcJ_eq, v_slc, optK_int, o_none, o_some, v_rev, rev_tup, callK_eq, callJ_none, callJ_perm, callP_some, permL_nil, permL_cons, permC_some, v_call, v_b1, v_b2, isiK_eq, v_isi, v_m0, v_m1, compE_eq, comp_live, lenL_some, live_eq, liveK_some, liveJ_none, liveJ_some, liveH_some, liveH_none, fr_live, liveF_eq, liveFK_some, liveFJ_none, liveFJ_some, liveFH_nx, liveFH_ct, liveFH_bk, liveFH_rt, nil_get, comp_fix, comp_zip, comp_rng, turnC_eq, turnJ_some, turnK_t, turnK_f, yesK_eq, wipe_nil, wipe_cons, loopL_nil, loopL_cons, loopK_some, loopK_none, zipD_nil, zipD_nil2, zipD_cons, v_comp, es_nil, consJ_eq, consK_eq, es_cons, notJ_eq, andJ_t, andJ_f, orJ_t, orJ_f, b_not, b_and, b_or, b_cmp, b_chain, b_ite, b_var, b_cst, b_call, b_b1, b_isi, b_idx, b_bin, b_comp, ofBl_bl, tru_bl, tru_int, tru_tup, tru_non, c_none', c_some', srcK_tup, srcK_rol, w_var, w_cst, w_tup, w_lst, w_bin, w_idx, w_slc, w_call, w_comp, w_rng, rng2K_eq, w_rng2, zipK_tup, w_zip, w_enum, seqR_nx, seqR_rt, seqR_bk, seqR_ct, seqR_ex, ts_nil, ts_cons, rtE_ok, asgK_eq, t_asg, tgK_some, asgTK_eq, t_asgT, parJ_eq, parK_eq, t_par, par3H_eq, par3J_eq, par3K_eq, t_par3, setJ_eq, setK_eq, t_set, expK_eq, t_exp, retK_eq, t_ret, t_retN, ifK_t, ifK_f, t_if, t_whl, frB_eq, frJ_eq, fr_fix, fr_zip, fr_rng, forL_nil, forL_cons, forK_nx, forK_ct, forK_bk, forK_rt, t_fr, t_pas, t_brk, t_cnt, body_rt, body_nx, body_ex, op_addI, op_subI, op_mulI, op_fdivI, op_modI, op_powI, mkTup_small, alloc_small, idx_R, idxS_some, setH_R, setS_some, setX_some, len_R, lenS_some, len_rol, tup_R, tupS_some, all_R, allS_some, allK_some, src_R, srcS_some, m1J_R, m1S_some, app_R, appX_some, at_new, bls_nil, bls_cons, List.all_cons, List.all_nil, id_eq, Bool.and_true, Bool.and_self,  neg_I, not_B, cop_lt, cop_le, cop_gt, cop_ge, cop_eq, cop_ne, cop_isN, cop_notN, cop_isB, cop_notB, ofOpt_some, eqD_int, eqD_str, b1_lenT, b1_abs, b1_intI, b1_intB, b2_min, b2_max, isi_tup, isi_int, isi_bl, isi_str, idxK_some, idx_tup, idx_rol, atI_0, atI_1, atI_2, atI_3, atI_4, atI_5, atI_6, atI_7, atI_m1_1, atI_m1_2, atI_m2_2, atI_m1_3, atI_m2_3, atI_m3_3, atI_m1_4, atI_m2_4, atI_m3_4, atI_m1_5, atI_m2_5, atI_m3_5, atI_m1_6, atI_m2_6, atI_m3_6, tg_nm, tg_tp, tgs_nil, tgJ_some, tgs_cons, List.getElem?_cons_zero, List.getElem?_cons_succ, List.set_cons_zero, List.set_cons_succ, List.cons_append, List.nil_append, List.map_cons, List.map_nil, startD, List.length_cons, List.length_nil, List.replicate_succ, List.replicate_zero, Nat.reduceAdd, Nat.reduceSub, Int.reduceLE, Int.reduceLT, Int.reduceEq, Int.reduceNe, Nat.reduceLT, Nat.reduceEqDiff, Nat.reduceLeDiff, Int.reduceToNat, Int.reduceNeg, Int.reduceAdd, Int.reduceSub, Int.reduceMul, Int.reducePow, rng1_eq, rngD_0, rngD_s, op_powI, reduceCtorEq, decide_true, decide_false, eq_self, Int.cast_ofNat_Int, Nat.zero_add, Option.map_some, ne_eq, not_false_eq_true, Bool.not_true, Bool.not_false, isNonD, i_ev0, i_ev1, i_fr0, i_fr1, s_ev, g_fr, g_ev, r_ev, k_ev, atI_0])
theorem root_ok (G : Sub tab) (k : Nat) {N : Int} (h0 : 0 ≤ N) (h1 : N < 2 ^ 190) (hF : 2 ^ 9000 ≤ fu) (S : Store) : ∃ r, evC fu tab (k + 1) 97 [.int N] S = .ok (.int r) S ∧ 0 ≤ r ∧ r < 2 ^ 200 := by
  have hf : 256 < fu := Nat.lt_of_lt_of_le (Nat.lt_of_lt_of_le (show 256 < 2 ^ 9 by decide) (Nat.pow_le_pow_right (by decide) (by decide))) hF
  obtain ⟨h', e1, a1, a2⟩ := root_up (fu := fu) (cl := evC fu tab k) (N := N) none S 190 fu 1 (by omega) (by decide) (by omega) (by decide)
  obtain ⟨lo', hi', o', e2, a3, a4⟩ := root_down (fu := fu) (cl := evC fu tab k) (N := N) S 200 fu 0 h' none (by omega) (by decide) (by omega) a2 (by omega)
  refine ⟨lo', ?_, a3, a4⟩
  rw [evC_eq (G 97 _ rfl)]
  unfold tr_97
  clear G h0 h1 hF hf a1 a2 a3 a4
  walk_at "cw"
local macro_rules | `(tactic| walk_at "cw") => `(tactic| simp only [bnd_ok, bnd_exc, varR_some, kk2_eq, v_var, v_cst, v_tup, v_lst, v_bin, v_neg, v_not, andK_t, andK_f, orK_t, orK_f, v_and, v_or, v_cmp, chK_t, chK_f, chJ_eq, v_chain, iteK_t, iteK_f, v_ite, v_idx, slcK_eq, slcL_eq, slcJ_eq, v_slc, optK_int, o_none, o_some, v_rev, rev_tup, callK_eq, callJ_none, callJ_perm, callP_some, permL_nil, permL_cons, permC_some, v_call, v_b1, v_b2, isiK_eq, v_isi, v_m0, v_m1, compE_eq, comp_live, lenL_some, live_eq, liveK_some, liveJ_none, liveJ_some, liveH_some, liveH_none, fr_live, liveF_eq, liveFK_some, liveFJ_none, liveFJ_some, liveFH_nx, liveFH_ct, liveFH_bk, liveFH_rt, nil_get, comp_fix, comp_zip, comp_rng, turnC_eq, turnJ_some, turnK_t, turnK_f, yesK_eq, wipe_nil, wipe_cons, loopL_nil, loopL_cons, loopK_some, loopK_none, zipD_nil, zipD_nil2, zipD_cons, v_comp, es_nil, consJ_eq, consK_eq, es_cons, notJ_eq, andJ_t, andJ_f, orJ_t, orJ_f, b_not, b_and, b_or, b_cmp, b_chain, b_ite, b_var, b_cst, b_call, b_b1, b_isi, b_idx, b_bin, b_comp, ofBl_bl, tru_bl, tru_int, tru_tup, tru_non, c_none', c_some', srcK_tup, srcK_rol, w_var, w_cst, w_tup, w_lst, w_bin, w_idx, w_slc, w_call, w_comp, w_rng, rng2K_eq, w_rng2, zipK_tup, w_zip, w_enum, seqR_nx, seqR_rt, seqR_bk, seqR_ct, seqR_ex, ts_nil, ts_cons, rtE_ok, asgK_eq, t_asg, tgK_some, asgTK_eq, t_asgT, parJ_eq, parK_eq, t_par, par3H_eq, par3J_eq, par3K_eq, t_par3, setJ_eq, setK_eq, t_set, expK_eq, t_exp, retK_eq, t_ret, t_retN, ifK_t, ifK_f, t_if, t_whl, frB_eq, frJ_eq, fr_fix, fr_zip, fr_rng, forL_nil, forL_cons, forK_nx, forK_ct, forK_bk, forK_rt, t_fr, t_pas, t_brk, t_cnt, body_rt, body_nx, body_ex, op_addI, op_subI, op_mulI, op_fdivI, op_modI, op_powI, mkTup_small, alloc_small, idx_R, idxS_some, setH_R, setS_some, setX_some, len_R, lenS_some, len_rol, tup_R, tupS_some, all_R, allS_some, allK_some, src_R, srcS_some, m1J_R, m1S_some, app_R, appX_some, at_new, bls_nil, bls_cons, List.all_cons, List.all_nil, id_eq, Bool.and_true, Bool.and_self,  neg_I, not_B, cop_lt, cop_le, cop_gt, cop_ge, cop_eq, cop_ne, cop_isN, cop_notN, cop_isB, cop_notB, ofOpt_some, eqD_int, eqD_str, b1_lenT, b1_abs, b1_intI, b1_intB, b2_min, b2_max, isi_tup, isi_int, isi_bl, isi_str, idxK_some, idx_tup, idx_rol, atI_0, atI_1, atI_2, atI_3, atI_4, atI_5, atI_6, atI_7, atI_m1_1, atI_m1_2, atI_m2_2, atI_m1_3, atI_m2_3, atI_m3_3, atI_m1_4, atI_m2_4, atI_m3_4, atI_m1_5, atI_m2_5, atI_m3_5, atI_m1_6, atI_m2_6, atI_m3_6, tg_nm, tg_tp, tgs_nil, tgJ_some, tgs_cons, List.getElem?_cons_zero, List.getElem?_cons_succ, List.set_cons_zero, List.set_cons_succ, List.cons_append, List.nil_append, List.map_cons, List.map_nil, startD, List.length_cons, List.length_nil, List.replicate_succ, List.replicate_zero, Nat.reduceAdd, Nat.reduceSub, Int.reduceLE, Int.reduceLT, Int.reduceEq, Int.reduceNe, Nat.reduceLT, Nat.reduceEqDiff, Nat.reduceLeDiff, Int.reduceToNat, Int.reduceNeg, Int.reduceAdd, Int.reduceSub, Int.reduceMul, Int.reducePow, rng1_eq, rngD_0, rngD_s, op_powI, reduceCtorEq, decide_true, decide_false, eq_self, Int.cast_ofNat_Int, Nat.zero_add, Option.map_some, ne_eq, not_false_eq_true, Bool.not_true, Bool.not_false, isNonD, i_ev0, i_ev1, i_fr0, i_fr1, s_ev, g_fr, g_ev, r_ev, k_ev, k_one, k_zero, atI_0, *])
local macro_rules | `(tactic| walk_at "cw0") => `(tactic| simp only [bnd_ok, bnd_exc, varR_some, kk2_eq, v_var, v_cst, v_tup, v_lst, v_bin, v_neg, v_not, andK_t, andK_f, orK_t, orK_f, v_and, v_or, v_cmp, chK_t, chK_f, chJ_eq, v_chain, iteK_t, iteK_f, v_ite, v_idx, slcK_eq, slcL_eq, slcJ_eq, v_slc, optK_int, o_none, o_some, v_rev, rev_tup, callK_eq, callJ_none, callJ_perm, callP_some, permL_nil, permL_cons, permC_some, v_call, v_b1, v_b2, isiK_eq, v_isi, v_m0, v_m1, compE_eq, comp_live, lenL_some, live_eq, liveK_some, liveJ_none, liveJ_some, liveH_some, liveH_none, fr_live, liveF_eq, liveFK_some, liveFJ_none, liveFJ_some, liveFH_nx, liveFH_ct, liveFH_bk, liveFH_rt, nil_get, comp_fix, comp_zip, comp_rng, turnC_eq, turnJ_some, turnK_t, turnK_f, yesK_eq, wipe_nil, wipe_cons, loopL_nil, loopL_cons, loopK_some, loopK_none, zipD_nil, zipD_nil2, zipD_cons, v_comp, es_nil, consJ_eq, consK_eq, es_cons, notJ_eq, andJ_t, andJ_f, orJ_t, orJ_f, b_not, b_and, b_or, b_cmp, b_chain, b_ite, b_var, b_cst, b_call, b_b1, b_isi, b_idx, b_bin, b_comp, ofBl_bl, tru_bl, tru_int, tru_tup, tru_non, c_none', c_some', srcK_tup, srcK_rol, w_var, w_cst, w_tup, w_lst, w_bin, w_idx, w_slc, w_call, w_comp, w_rng, rng2K_eq, w_rng2, zipK_tup, w_zip, w_enum, seqR_nx, seqR_rt, seqR_bk, seqR_ct, seqR_ex, ts_nil, ts_cons, rtE_ok, asgK_eq, t_asg, tgK_some, asgTK_eq, t_asgT, parJ_eq, parK_eq, t_par, par3H_eq, par3J_eq, par3K_eq, t_par3, setJ_eq, setK_eq, t_set, expK_eq, t_exp, retK_eq, t_ret, t_retN, ifK_t, ifK_f, t_if, t_whl, frB_eq, frJ_eq, fr_fix, fr_zip, fr_rng, forL_nil, forL_cons, forK_nx, forK_ct, forK_bk, forK_rt, t_fr, t_pas, t_brk, t_cnt, body_rt, body_nx, body_ex, op_addI, op_subI, op_mulI, op_fdivI, op_modI, op_powI, mkTup_small, alloc_small, idx_R, idxS_some, setH_R, setS_some, setX_some, len_R, lenS_some, len_rol, tup_R, tupS_some, all_R, allS_some, allK_some, src_R, srcS_some, m1J_R, m1S_some, app_R, appX_some, at_new, bls_nil, bls_cons, List.all_cons, List.all_nil, id_eq, Bool.and_true, Bool.and_self,  neg_I, not_B, cop_lt, cop_le, cop_gt, cop_ge, cop_eq, cop_ne, cop_isN, cop_notN, cop_isB, cop_notB, ofOpt_some, eqD_int, eqD_str, b1_lenT, b1_abs, b1_intI, b1_intB, b2_min, b2_max, isi_tup, isi_int, isi_bl, isi_str, idxK_some, idx_tup, idx_rol, atI_0, atI_1, atI_2, atI_3, atI_4, atI_5, atI_6, atI_7, atI_m1_1, atI_m1_2, atI_m2_2, atI_m1_3, atI_m2_3, atI_m3_3, atI_m1_4, atI_m2_4, atI_m3_4, atI_m1_5, atI_m2_5, atI_m3_5, atI_m1_6, atI_m2_6, atI_m3_6, tg_nm, tg_tp, tgs_nil, tgJ_some, tgs_cons, List.getElem?_cons_zero, List.getElem?_cons_succ, List.set_cons_zero, List.set_cons_succ, List.cons_append, List.nil_append, List.map_cons, List.map_nil, startD, List.length_cons, List.length_nil, List.replicate_succ, List.replicate_zero, Nat.reduceAdd, Nat.reduceSub, Int.reduceLE, Int.reduceLT, Int.reduceEq, Int.reduceNe, Nat.reduceLT, Nat.reduceEqDiff, Nat.reduceLeDiff, Int.reduceToNat, Int.reduceNeg, Int.reduceAdd, Int.reduceSub, Int.reduceMul, Int.reducePow, rng1_eq, rngD_0, rngD_s, op_powI, reduceCtorEq, decide_true, decide_false, eq_self, Int.cast_ofNat_Int, Nat.zero_add, Option.map_some, ne_eq, not_false_eq_true, Bool.not_true, Bool.not_false, isNonD, i_ev0, i_ev1, i_fr0, i_fr1, s_ev, g_fr, g_ev, r_ev, k_ev, k_one, k_zero, atI_0])
/-! ### a wished own time -/
theorem pow6 : okPow 10 6 = true := by decide
def Wsh (x : D) : Prop := ∃ t, x = frD t ∧ Sz t 400 ∧ 0 ≤ t
theorem wished_ok (G : Sub tab) (T : TakeOk tab) (k : Nat) {n m : Nat} {l q : Rat} {S : Store} (P : Pot n S m) (hm : m + 1 < 2 ^ 60) (hl : Sz l 160) (l0 : 0 ≤ l) (hq : Sz q 150) (q0 : 0 ≤ q) (hF : 2 ^ 9000 ≤ fu) :
    ∃ t S', evC fu tab (k + 4) 91 [.ref n, frD l, frD q] S = .ok (frD t) S' ∧ Sz t 400 ∧ 0 ≤ t ∧ Pot n S' (m + 1) ∧ Fm n S S' := by
  have hlt := P.lt
  have k17 : frD (1 / 7) = .tup [.int 1, .int 7] := fr_lit (by decide +kernel) (by decide +kernel)
  have k910 : frD (9 / 10) = .tup [.int 9, .int 10] := fr_lit (by decide +kernel) (by decide +kernel)
  have k2 : frD 2 = .tup [.int 2, .int 1] := rfl
  have k40 : frD 40 = .tup [.int 40, .int 1] := rfl
  have s17 : Sz (1 / 7 : Rat) 3 := ⟨by decide +kernel, by decide +kernel⟩
  have s910 : Sz (9 / 10 : Rat) 4 := ⟨by decide +kernel, by decide +kernel⟩
  have s2 : Sz (2 : Rat) 2 := ⟨by decide, by decide⟩
  have s40 : Sz (40 : Rat) 6 := ⟨by decide, by decide⟩
  have qn := Rat.num_nonneg.mpr q0
  have dp := q.den_pos
  have sn := hq.num
  have sd := hq.den
  -- the number under the root
  have nn : 0 ≤ (q.num * 1000000).fdiv q.den ∧ (q.num * 1000000).fdiv q.den < 2 ^ 190 := by
    rw [Int.fdiv_eq_ediv_of_nonneg _ (by omega)]
    refine ⟨Int.ediv_nonneg (by omega) (by omega), ?_⟩
    exact Int.lt_of_le_of_lt (Int.ediv_le_self _ (by omega)) (by omega)
  obtain ⟨r, er, r0, r1⟩ := root_ok (fu := fu) G (k + 2) nn.1 nn.2 hF (S ++ [.lst [frD l, frD (l + 1 / 7), frD (l * (9 / 10))]])
  have ef := fun S => l_frac_ok (S := S) (fu := fu) G (k + 1) (t := r) (b := 1000) (n := 201) (by decide) (by decide) (by decide) hF
  have sx : Sz (Rat.divInt r 1000) 201 := divInt_sz (by decide) (by omega) (by decide)
  have x0 : 0 ≤ Rat.divInt r 1000 := Rat.divInt_nonneg r0 (by decide)
  generalize Rat.divInt r 1000 = x at *
  have e1 := fun S => l_plus_ok (S := S) (fu := fu) G k hl s17 (by decide) hF
  have e2 := fun S => l_times_ok (S := S) (fu := fu) G k hl s910 (by decide) hF
  have e3 := fun S => l_plus_ok (S := S) (fu := fu) G k hl sx (by decide) hF
  have e4 := fun S => l_over_ok (S := S) (fu := fu) G k (hl.add sx) s2 (by decide) (by decide) hF
  have e5 := fun S => l_times_ok (S := S) (fu := fu) G k hl s2 (by decide) hF
  have e6 := fun S => l_plus_ok (S := S) (fu := fu) G k (hl.mul s2) s40 (by decide) hF
  have W0 : Wsh (frD l) := ⟨l, rfl, hl.mono (by decide), l0⟩
  have W1 : Wsh (frD (l + 1 / 7)) := ⟨_, rfl, (hl.add s17).mono (by decide), Rat.add_nonneg l0 (by decide +kernel)⟩
  have W2 : Wsh (frD (l * (9 / 10))) := ⟨_, rfl, (hl.mul s910).mono (by decide), Rat.mul_nonneg l0 (by decide +kernel)⟩
  have W3 : Wsh (frD x) := ⟨x, rfl, sx.mono (by decide), x0⟩
  have W4 : Wsh (frD ((l + x) / 2)) := ⟨_, rfl, ((hl.add sx).div s2 (by decide)).mono (by decide), by rw [Rat.div_def]; exact Rat.mul_nonneg (Rat.add_nonneg l0 x0) (by decide +kernel)⟩
  have W5 : Wsh (frD (l * 2 + 40)) := ⟨_, rfl, ((hl.mul s2).add s40).mono (by decide), Rat.add_nonneg (Rat.mul_nonneg l0 (by decide)) (by decide)⟩
  rw [k17] at e1
  rw [k910] at e2
  rw [k2] at e4 e5
  rw [k40] at e6
  generalize frD (l + 1 / 7) = y1 at *
  generalize frD (l * (9 / 10)) = y2 at *
  generalize frD ((l + x) / 2) = y4 at *
  generalize frD (l * 2 + 40) = y5 at *
  have h8 : (S ++ [SO.lst [frD l, y1, y2, frD x, y4, y5]])[S.length]? = some (.lst [frD l, y1, y2, frD x, y4, y5]) := at_new _
  have ha : evBop .add (.ref S.length) (.ref (S ++ [SO.lst [frD l, y1, y2, frD x, y4, y5]]).length) (S ++ [SO.lst [frD l, y1, y2, frD x, y4, y5]] ++ [SO.lst [frD x, y4]]) = .ok (.ref (S ++ [SO.lst [frD l, y1, y2, frD x, y4, y5]] ++ [SO.lst [frD x, y4]]).length) (S ++ [SO.lst [frD l, y1, y2, frD x, y4, y5]] ++ [SO.lst [frD x, y4]] ++ [SO.lst [frD l, y1, y2, frD x, y4, y5, frD x, y4]]) := by
    have h1 : (S ++ [SO.lst [frD l, y1, y2, frD x, y4, y5]] ++ [SO.lst [frD x, y4]])[S.length]? = some (.lst [frD l, y1, y2, frD x, y4, y5]) := (Gr.app _ _).get (at_new _)
    have h2 : (S ++ [SO.lst [frD l, y1, y2, frD x, y4, y5]] ++ [SO.lst [frD x, y4]])[(S ++ [SO.lst [frD l, y1, y2, frD x, y4, y5]]).length]? = some (.lst [frD x, y4]) := at_new _
    simp only [evBop, h1, h2]
    exact if_pos (show 6 + 2 ≤ sizeLine by decide)
  have hs : evSlc (.ref S.length) (some 3) (some 5) (S ++ [SO.lst [frD l, y1, y2, frD x, y4, y5]]) = .ok (.ref (S ++ [SO.lst [frD l, y1, y2, frD x, y4, y5]]).length) (S ++ [SO.lst [frD l, y1, y2, frD x, y4, y5]] ++ [SO.lst [frD x, y4]]) := by
    simp only [evSlc, h8]
    rfl
  obtain ⟨w, S1, hw, e7, p1, f1⟩ := of_ok (fu := fu) G T (k + 1) (((P.app [SO.lst [frD l, y1, y2, frD x, y4, y5]]).app [SO.lst [frD x, y4]]).app [SO.lst [frD l, y1, y2, frD x, y4, y5, frD x, y4]]) (by omega) (j := (S ++ [SO.lst [frD l, y1, y2, frD x, y4, y5]] ++ [SO.lst [frD x, y4]]).length) (at_new _) (by simp; omega) (by simp) (by simp)
  have ww : Wsh w := by
    simp only [List.mem_cons, List.not_mem_nil, or_false] at hw
    rcases hw with rfl | rfl | rfl | rfl | rfl | rfl | rfl | rfl <;> assumption
  obtain ⟨t, rfl, st, t0⟩ := ww
  refine ⟨t, S1, ?_, st, t0, p1, (((Fm.app _ _ _).trans (Fm.app _ _ _)).trans (Fm.app _ _ _)).trans f1⟩
  have o1 := pow6
  have o2 : (10 : Int) ^ (6 : Int).toNat = 1000000 := by decide
  have o3 : (10 : Int) ^ 6 = 1000000 := by decide
  have o4 : okMul q.num 1000000 = true := okMul_of (n := 150) (m := 20) sn (by decide) (by decide)
  have o5 : okDiv (q.den : Int) = true := okDiv_of (n := 150) (by omega) (by simpa using sd) (by decide)
  have set1 : ∀ o o' : SO, (S ++ [o]).set S.length o' = S ++ [o'] := fun o o' => by simp
  have neg1 : (-(1 : Int)) = -1 := rfl
  rw [evC_eq (G 91 _ rfl)]
  unfold tr_91
  clear G T P hm hl l0 hq q0 hF hlt s17 s910 s2 s40 qn dp sn sd nn r0 r1 sx x0 W0 W1 W2 W3 W4 W5 hw st t0 p1 f1 k17 k910 k2 k40
  walk_at "cw"
end
end Cw
namespace Cw
open PySem PySem.Spec PyProof.Rows L2

/-- _law_take(pot, upto): 0=pot 1=upto 2=prime 3=blend 4=digit -/
def tr_23 : Ts := (.cons (.iff (.cmp .gt (.idx (.var 0) (.cst (.int 0))) (.cst (.int 0))) (.cons (.asg 4 (.bin .mod (.b1 .int (.idx (.var 0) (.cst (.int 0)))) (.var 1))) (.cons (.set (.var 0) (.cst (.int 0)) (.bin .fdiv (.idx (.var 0) (.cst (.int 0))) (.var 1))) (.cons (.ret (.var 4)) .nil))) .nil) (.cons (.set (.var 0) (.cst (.int 2)) (.bin .add (.idx (.var 0) (.cst (.int 2))) (.cst (.int 1)))) (.cons (.asg 2 (.idx (.lst (.cons (.cst (.int 2147483647)) (.cons (.cst (.int 2147483629)) (.cons (.cst (.int 2147483587)) (.cons (.cst (.int 2147483579)) (.cons (.cst (.int 2147483563)) .nil)))))) (.bin .mod (.b1 .int (.idx (.var 0) (.cst (.int 2)))) (.cst (.int 5))))) (.cons (.asg 3 (.bin .mod (.b1 .int (.bin .pow (.b1 .int (.bin .add (.bin .add (.idx (.var 0) (.cst (.int 1))) (.bin .mul (.bin .mul (.cst (.int 101440)) (.idx (.var 0) (.cst (.int 2)))) (.idx (.var 0) (.cst (.int 2))))) (.cst (.int 1150)))) (.cst (.int 3)))) (.var 2))) (.cons (.asg 3 (.bin .mod (.b1 .int (.bin .mul (.var 3) (.bin .add (.bin .mod (.b1 .int (.var 3)) (.cst (.int 11078))) (.bin .mul (.cst (.int 316)) (.idx (.var 0) (.cst (.int 2))))))) (.cst (.int 2305843009213693907)))) (.cons (.ret (.bin .mod (.b1 .int (.bin .fdiv (.var 3) (.cst (.int 167)))) (.var 1))) .nil))))))
def fd_23 : Fd := ⟨5, tr_23⟩
/-- _law_right(pot): 0=pot 1=lap 2=square 3=one 4=other 5=most 6=more 7=least -/
def tr_88 : Ts := (.cons (.asgT (.tp [(.nm 3), (.nm 4), (.nm 5)]) (.call 76 (.cons (.var 0) .nil) .nil none)) (.cons (.fr (.nm 1) (.rngV (.cst (.int 4))) (.cons (.iff (.cmp .eq (.call 79 (.cons (.var 3) (.cons (.var 4) (.cons (.var 5) .nil))) .nil none) (.tup (.cons (.cst (.str "plan")) .nil))) (.cons .brk .nil) .nil) (.cons (.asgT (.tp [(.nm 3), (.nm 4), (.nm 5)]) (.call 76 (.cons (.var 0) .nil) .nil none)) .nil))) (.cons (.iff (.cmp .ne (.call 79 (.cons (.var 3) (.cons (.var 4) (.cons (.var 5) .nil))) .nil none) (.tup (.cons (.cst (.str "plan")) .nil))) (.cons (.ret (.cst (.bl true))) .nil) .nil) (.cons (.asgT (.tp [(.nm 6), (.nm 7)]) (.tup (.cons (.call 8 (.cons (.var 3) (.cons (.var 4) .nil)) .nil none) (.cons (.call 92 (.cons (.var 3) (.cons (.var 4) (.cons (.var 5) .nil))) .nil none) .nil)))) (.cons (.asg 2 (.call 5 (.cons (.idx (.var 6) (.cst (.int 0))) (.cons (.idx (.var 6) (.cst (.int 1))) .nil)) .nil none)) (.cons (.ret (.b1 .all (.comp [1] (.nm 1) (.rngV (.cst (.int 4))) .none (.call 90 (.cons (.var 3) (.cons (.var 4) (.cons (.var 5) (.cons (.call 91 (.cons (.var 0) (.cons (.var 7) (.cons (.var 2) .nil))) .nil none) (.cons (.var 7) (.cons (.var 2) .nil)))))) .nil none)))) .nil))))))
def fd_88 : Fd := ⟨8, tr_88⟩
/-- _law_pot(script, place): 0=script 1=place 2=cell 3=own 4=small -/
def tr_89 : Ts := (.cons (.asg 2 (.ite (.cmp .lt (.var 1) (.b1 .len (.var 0))) (.idx (.var 0) (.var 1)) (.bin .add (.bin .add (.bin .mod (.b1 .sum (.slc (.var 0) .none (.some (.cst (.int 1))))) (.cst (.int 1000003))) (.bin .mul (.cst (.int 1592)) (.var 1))) (.cst (.int 790))))) (.cons (.asg 3 (.bin .mul (.bin .mod (.b1 .int (.b1 .abs (.var 2))) (.bin .pow (.bin .pow (.cst (.int 10)) (.cst (.int 60))) (.cst (.int 5)))) (.b1 .int (.cmp .ge (.b1 .abs (.var 2)) (.bin .pow (.cst (.int 10)) (.cst (.int 18))))))) (.cons (.asg 4 (.bin .mod (.b1 .int (.var 2)) (.cst (.int 2305843009213693951)))) (.cons (.ret (.lst (.cons (.var 3) (.cons (.bin .mod (.b1 .int (.bin .add (.bin .add (.bin .mul (.var 4) (.cst (.int 76108))) (.bin .mul (.bin .mul (.cst (.int 9140)) (.var 1)) (.var 1))) (.cst (.int 772)))) (.cst (.int 2305843009213693921))) (.cons (.cst (.int 0)) .nil))))) .nil))))
def fd_89 : Fd := ⟨5, tr_89⟩
/-- law(script): 0=script 1=place -/
def tr_1061 : Ts := (.cons (.ret (.b1 .all (.comp [1] (.nm 1) (.call 1 (.cons (.var 0) (.cons (.cst (.int 2)) .nil)) .nil none) .none (.call 88 (.cons (.call 89 (.cons (.var 0) (.cons (.var 1) .nil)) .nil none) .nil) .nil none)))) .nil)
def fd_1061 : Fd := ⟨2, tr_1061⟩
def tabL : Nat → Option Fd
  | 23 => some fd_23
  | 88 => some fd_88
  | 89 => some fd_89
  | 1061 => some fd_1061
  | n => tabG n
def glL : List (Str × GV) := ("law", .fnv 1061 [⟨1, [], none⟩]) ::
  ("_law_cells", .fnv 1 [⟨2, [], none⟩]) ::
  ("_law_right", .fnv 88 [⟨1, [], none⟩]) ::
  ("_law_pot", .fnv 89 [⟨2, [], none⟩]) ::
  ("_law_is_wish_right", .fnv 90 [⟨6, [], none⟩]) ::
  ("_law_wished", .fnv 91 [⟨3, [], none⟩]) ::
  ("_law_frac_times", .fnv 5 [⟨2, [], none⟩]) ::
  ("_law_within_least", .fnv 92 [⟨3, [], none⟩]) ::
  ("_law_event_more", .fnv 8 [⟨2, [], none⟩]) ::
  ("_law_within_word", .fnv 79 [⟨3, [], none⟩]) ::
  ("_law_within_ends", .fnv 76 [⟨1, [], none⟩]) ::
  ("_law_frac_sum", .fnv 93 [⟨1, [], none⟩]) ::
  ("_law_within_leads", .fnv 94 [⟨4, [], none⟩]) ::
  ("_law_is", .fnv 77 [⟨2, [], none⟩]) ::
  ("_law_frac_is_less", .fnv 51 [⟨2, [], none⟩]) ::
  ("shows_own_flight", .fnv 95 [⟨5, [], none⟩]) ::
  ("own_flight", .fnv 96 [⟨4, [], none⟩]) ::
  ("_law_of", .fnv 24 [⟨2, [], none⟩]) ::
  ("_law_frac_plus", .fnv 26 [⟨2, [], none⟩]) ::
  ("_law_frac_over", .fnv 37 [⟨2, [], none⟩]) ::
  ("_law_frac", .fnv 17 [⟨2, [], none⟩]) ::
  ("_law_root", .fnv 97 [⟨1, [], none⟩]) ::
  ("_law_frac_less", .fnv 25 [⟨2, [], none⟩]) ::
  ("_law_take", .fnv 23 [⟨2, [], none⟩]) ::
  ("_law_frac_time", .fnv 28 [⟨1, [], none⟩]) ::
  ("_law_event_gone", .fnv 27 [⟨3, [], none⟩]) ::
  ("_law_within_pace", .fnv 80 [⟨2, [], none⟩]) ::
  ("_law_event_drawn", .fnv 12 [⟨1, [], none⟩]) ::
  ("_law_frac_is_pace", .fnv 60 [⟨1, [], none⟩]) ::
  ("plus", .fnv 36 [⟨2, [], none⟩]) ::
  ("is_plan", .fnv 98 [⟨4, [], none⟩]) ::
  ("is_just", .fnv 99 [⟨2, [], none⟩]) ::
  ("lasting", .fnv 100 [⟨4, [], none⟩]) ::
  ("is_below", .fnv 84 [⟨2, [], none⟩]) ::
  ("times", .fnv 13 [⟨2, [], none⟩]) ::
  ("more_in", .fnv 14 [⟨2, [], none⟩]) ::
  ("least_own", .fnv 101 [⟨3, [], none⟩]) ::
  ("check_own_time", .fnv 102 [⟨1, [], none⟩]) ::
  ("check_ends", .fnv 82 [⟨3, [], none⟩]) ::
  ("_law_frac_common", .fnv 33 [⟨2, [], none⟩]) ::
  ("_law_frac_drawn", .fnv 29 [⟨3, [], none⟩]) ::
  ("_law_frac_is", .fnv 63 [⟨1, [], none⟩]) ::
  ("ratio", .fnv 30 [⟨2, [], none⟩]) ::
  ("gone", .fnv 103 [⟨2, [], none⟩]) ::
  ("are_pieces", .fnv 104 [⟨2, [], none⟩]) ::
  ("is_string", .fnv 58 [⟨2, [], none⟩]) ::
  ("is_tuple", .fnv 40 [⟨3, [], none⟩]) ::
  ("is_ratio", .fnv 39 [⟨1, [], none⟩]) ::
  ("without_nought", .fnv 86 [⟨1, [], none⟩]) ::
  ("over", .fnv 41 [⟨2, [], none⟩]) ::
  ("less", .fnv 31 [⟨2, [], none⟩]) ::
  ("contrary", .fnv 87 [⟨1, [], none⟩]) ::
  ("told_reach", .fnv 81 [⟨3, [], none⟩]) ::
  ("is_time", .fnv 105 [⟨1, [], none⟩]) ::
  ("check_most", .fnv 85 [⟨1, [], none⟩]) ::
  ("check_event", .fnv 16 [⟨1, [], none⟩]) ::
  ("common", .fnv 38 [⟨2, [], none⟩]) ::
  ("is_pace_within", .fnv 106 [⟨2, [], none⟩]) ::
  ("is_factor", .fnv 42 [⟨1, [], none⟩]) ::
  ("is_whole", .fnv 43 [⟨1, [], none⟩]) ::
  ("quickest", .fnv 83 [⟨3, [], none⟩]) ::
  ("is_event", .fnv 32 [⟨1, [], none⟩]) ::
  ("NOUGHT", .cst (.tup [(.int 0), (.int 1)])) ::
  ("PLAN", .cst (.str "plan")) ::
  ("MORE", .cst (.str "more")) ::
  ("LESS", .cst (.str "less")) ::
  ("PAIR_within", .cst (.int 2)) ::
  ("PAIR_ratios", .cst (.int 2)) ::
  ("PLANE_V", .cst (.str "v")) ::
  ("BEYOND", .cst (.str "beyond")) ::
  ("PLANE_U", .cst (.str "u")) ::
  ("BEHIND", .cst (.str "behind")) ::
  ("ONE", .cst (.tup [(.int 1), (.int 1)])) ::
  ("PAIR_events", .cst (.int 2)) :: []
def TbL : Tab := ⟨glL, ["abs", "all", "bool", "int", "isinstance", "len", "list", "max", "min", "range", "str", "sum", "tuple", "zip"], []⟩
theorem subL : Sub tabL := fun n fd h => by
  unfold tabL
  split
  · cases h
  · cases h
  · cases h
  · cases h
  · exact h
end Cw
namespace Cw
open PySem PySem.Spec PyProof.Rows L2
local macro_rules | `(tactic| walk_at "cw") => `(tactic| simp only [bnd_ok, bnd_exc, varR_some, kk2_eq, v_var, v_cst, v_tup, v_lst, v_bin, v_neg, v_not, andK_t, andK_f, orK_t, orK_f, v_and, v_or, v_cmp, chK_t, chK_f, chJ_eq, v_chain, iteK_t, iteK_f, v_ite, v_idx, slcK_eq, slcL_eq, slcJ_eq, v_slc, optK_int, o_none, o_some, v_rev, rev_tup, callK_eq, callJ_none, callJ_perm, callP_some, permL_nil, permL_cons, permC_some, v_call, v_b1, v_b2, isiK_eq, v_isi, v_m0, v_m1, compE_eq, comp_live, lenL_some, live_eq, liveK_some, liveJ_none, liveJ_some, liveH_some, liveH_none, fr_live, liveF_eq, liveFK_some, liveFJ_none, liveFJ_some, liveFH_nx, liveFH_ct, liveFH_bk, liveFH_rt, nil_get, comp_fix, comp_zip, comp_rng, turnC_eq, turnJ_some, turnK_t, turnK_f, yesK_eq, wipe_nil, wipe_cons, loopL_nil, loopL_cons, loopK_some, loopK_none, zipD_nil, zipD_nil2, zipD_cons, v_comp, es_nil, consJ_eq, consK_eq, es_cons, notJ_eq, andJ_t, andJ_f, orJ_t, orJ_f, b_not, b_and, b_or, b_cmp, b_chain, b_ite, b_var, b_cst, b_call, b_b1, b_isi, b_idx, b_bin, b_comp, ofBl_bl, tru_bl, tru_int, tru_tup, tru_non, c_none', c_some', srcK_tup, srcK_rol, w_var, w_cst, w_tup, w_lst, w_bin, w_idx, w_slc, w_call, w_comp, w_rng, rng2K_eq, w_rng2, zipK_tup, w_zip, w_enum, seqR_nx, seqR_rt, seqR_bk, seqR_ct, seqR_ex, ts_nil, ts_cons, rtE_ok, asgK_eq, t_asg, tgK_some, asgTK_eq, t_asgT, parJ_eq, parK_eq, t_par, par3H_eq, par3J_eq, par3K_eq, t_par3, setJ_eq, setK_eq, t_set, expK_eq, t_exp, retK_eq, t_ret, t_retN, ifK_t, ifK_f, t_if, t_whl, frB_eq, frJ_eq, fr_fix, fr_zip, fr_rng, forL_nil, forL_cons, forK_nx, forK_ct, forK_bk, forK_rt, t_fr, t_pas, t_brk, t_cnt, body_rt, body_nx, body_ex, op_addI, op_subI, op_mulI, op_fdivI, op_modI, op_powI, mkTup_small, alloc_small, idx_R, idxS_some, setH_R, setS_some, setX_some, len_R, lenS_some, len_rol, tup_R, tupS_some, all_R, allS_some, allK_some, src_R, srcS_some, m1J_R, m1S_some, app_R, appX_some, at_new, bls_nil, bls_cons, List.all_cons, List.all_nil, id_eq, Bool.and_true, Bool.and_self,  neg_I, not_B, cop_lt, cop_le, cop_gt, cop_ge, cop_eq, cop_ne, cop_isN, cop_notN, cop_isB, cop_notB, ofOpt_some, eqD_int, eqD_str, b1_lenT, b1_abs, b1_intI, b1_intB, b2_min, b2_max, isi_tup, isi_int, isi_bl, isi_str, idxK_some, idx_tup, idx_rol, atI_0, atI_1, atI_2, atI_3, atI_4, atI_5, atI_6, atI_7, atI_m1_1, atI_m1_2, atI_m2_2, atI_m1_3, atI_m2_3, atI_m3_3, atI_m1_4, atI_m2_4, atI_m3_4, atI_m1_5, atI_m2_5, atI_m3_5, atI_m1_6, atI_m2_6, atI_m3_6, tg_nm, tg_tp, tgs_nil, tgJ_some, tgs_cons, List.getElem?_cons_zero, List.getElem?_cons_succ, List.set_cons_zero, List.set_cons_succ, List.cons_append, List.nil_append, List.map_cons, List.map_nil, startD, List.length_cons, List.length_nil, List.replicate_succ, List.replicate_zero, Nat.reduceAdd, Nat.reduceSub, Int.reduceLE, Int.reduceLT, Int.reduceEq, Int.reduceNe, Nat.reduceLT, Nat.reduceEqDiff, Nat.reduceLeDiff, Int.reduceToNat, Int.reduceNeg, Int.reduceAdd, Int.reduceSub, Int.reduceMul, Int.reducePow, rng1_eq, rngD_0, rngD_s, op_powI, reduceCtorEq, decide_true, decide_false, eq_self, Int.cast_ofNat_Int, Nat.zero_add, Option.map_some, ne_eq, not_false_eq_true, Bool.not_true, Bool.not_false, isNonD, i_ev0, i_ev1, i_fr0, i_fr1, s_ev, g_fr, g_ev, r_ev, k_ev, k_one, k_zero, *])
local macro_rules | `(tactic| walk_at "cw0") => `(tactic| simp only [bnd_ok, bnd_exc, varR_some, kk2_eq, v_var, v_cst, v_tup, v_lst, v_bin, v_neg, v_not, andK_t, andK_f, orK_t, orK_f, v_and, v_or, v_cmp, chK_t, chK_f, chJ_eq, v_chain, iteK_t, iteK_f, v_ite, v_idx, slcK_eq, slcL_eq, slcJ_eq, v_slc, optK_int, o_none, o_some, v_rev, rev_tup, callK_eq, callJ_none, callJ_perm, callP_some, permL_nil, permL_cons, permC_some, v_call, v_b1, v_b2, isiK_eq, v_isi, v_m0, v_m1, compE_eq, comp_live, lenL_some, live_eq, liveK_some, liveJ_none, liveJ_some, liveH_some, liveH_none, fr_live, liveF_eq, liveFK_some, liveFJ_none, liveFJ_some, liveFH_nx, liveFH_ct, liveFH_bk, liveFH_rt, nil_get, comp_fix, comp_zip, comp_rng, turnC_eq, turnJ_some, turnK_t, turnK_f, yesK_eq, wipe_nil, wipe_cons, loopL_nil, loopL_cons, loopK_some, loopK_none, zipD_nil, zipD_nil2, zipD_cons, v_comp, es_nil, consJ_eq, consK_eq, es_cons, notJ_eq, andJ_t, andJ_f, orJ_t, orJ_f, b_not, b_and, b_or, b_cmp, b_chain, b_ite, b_var, b_cst, b_call, b_b1, b_isi, b_idx, b_bin, b_comp, ofBl_bl, tru_bl, tru_int, tru_tup, tru_non, c_none', c_some', srcK_tup, srcK_rol, w_var, w_cst, w_tup, w_lst, w_bin, w_idx, w_slc, w_call, w_comp, w_rng, rng2K_eq, w_rng2, zipK_tup, w_zip, w_enum, seqR_nx, seqR_rt, seqR_bk, seqR_ct, seqR_ex, ts_nil, ts_cons, rtE_ok, asgK_eq, t_asg, tgK_some, asgTK_eq, t_asgT, parJ_eq, parK_eq, t_par, par3H_eq, par3J_eq, par3K_eq, t_par3, setJ_eq, setK_eq, t_set, expK_eq, t_exp, retK_eq, t_ret, t_retN, ifK_t, ifK_f, t_if, t_whl, frB_eq, frJ_eq, fr_fix, fr_zip, fr_rng, forL_nil, forL_cons, forK_nx, forK_ct, forK_bk, forK_rt, t_fr, t_pas, t_brk, t_cnt, body_rt, body_nx, body_ex, op_addI, op_subI, op_mulI, op_fdivI, op_modI, op_powI, mkTup_small, alloc_small, idx_R, idxS_some, setH_R, setS_some, setX_some, len_R, lenS_some, len_rol, tup_R, tupS_some, all_R, allS_some, allK_some, src_R, srcS_some, m1J_R, m1S_some, app_R, appX_some, at_new, bls_nil, bls_cons, List.all_cons, List.all_nil, id_eq, Bool.and_true, Bool.and_self,  neg_I, not_B, cop_lt, cop_le, cop_gt, cop_ge, cop_eq, cop_ne, cop_isN, cop_notN, cop_isB, cop_notB, ofOpt_some, eqD_int, eqD_str, b1_lenT, b1_abs, b1_intI, b1_intB, b2_min, b2_max, isi_tup, isi_int, isi_bl, isi_str, idxK_some, idx_tup, idx_rol, atI_0, atI_1, atI_2, atI_3, atI_4, atI_5, atI_6, atI_7, atI_m1_1, atI_m1_2, atI_m2_2, atI_m1_3, atI_m2_3, atI_m3_3, atI_m1_4, atI_m2_4, atI_m3_4, atI_m1_5, atI_m2_5, atI_m3_5, atI_m1_6, atI_m2_6, atI_m3_6, tg_nm, tg_tp, tgs_nil, tgJ_some, tgs_cons, List.getElem?_cons_zero, List.getElem?_cons_succ, List.set_cons_zero, List.set_cons_succ, List.cons_append, List.nil_append, List.map_cons, List.map_nil, startD, List.length_cons, List.length_nil, List.replicate_succ, List.replicate_zero, Nat.reduceAdd, Nat.reduceSub, Int.reduceLE, Int.reduceLT, Int.reduceEq, Int.reduceNe, Nat.reduceLT, Nat.reduceEqDiff, Nat.reduceLeDiff, Int.reduceToNat, Int.reduceNeg, Int.reduceAdd, Int.reduceSub, Int.reduceMul, Int.reducePow, rng1_eq, rngD_0, rngD_s, op_powI, reduceCtorEq, decide_true, decide_false, eq_self, Int.cast_ofNat_Int, Nat.zero_add, Option.map_some, ne_eq, not_false_eq_true, Bool.not_true, Bool.not_false, isNonD, i_ev0, i_ev1, i_fr0, i_fr1, s_ev, g_fr, g_ev, r_ev, k_ev, k_one, k_zero])
theorem takeL : TakeOk tabL := by
  intro fu k n m S p hm u hu hu2
  obtain ⟨a, b, c, h, ha, hb, hb2, hc, hcm⟩ := p.ex
  have hn : n < S.length := (List.getElem?_eq_some_iff.mp h).1
  rw [evC_eq (n := fd_23.slots) (b := fd_23.body) rfl]
  show ∃ d S', bodyRs (evTs fu (evC fu tabL k) tr_23 (startD 5 [D.ref n, D.int u]) S) = .ok (.int d) S' ∧ 0 ≤ d ∧ d < u ∧ Pot n S' (m + 1) ∧ Fm n S S'
  unfold tr_23
  have u0 : u ≠ 0 := by omega
  have ud : okDiv u = true := okDiv_of (n := 1000) u0 (by omega) (by decide)
  have i0 := ix0'
  have i2 := ix2'
  clear p
  by_cases h0 : 0 < a
  · have hd := decide_eq_true h0
    refine ⟨a.fmod u, S.set n (.lst [.int (a.fdiv u), .int b, .int c]), ?_, ?_, ?_, ⟨a.fdiv u, b, c, ?_, ?_, hb, hb2, hc, by omega⟩, Fm.set _ _ _⟩
    · clear hu hu2 ha hb hb2 hc hcm hm h0 hn
      walk_at "cw"
    · rw [Int.fmod_eq_emod_of_nonneg _ (by omega)]; exact Int.emod_nonneg _ u0
    · rw [Int.fmod_eq_emod_of_nonneg _ (by omega)]; exact Int.emod_lt_of_pos _ (by omega)
    · rw [List.getElem?_set_self hn]
    · rw [Int.fdiv_eq_ediv_of_nonneg _ (by omega)]; exact Int.ediv_nonneg ha (by omega)
  · have hd := decide_eq_false h0
    have hc1 : c + 1 < 2 ^ 61 := by omega
    have hT : (S.set n (.lst [.int a, .int b, .int (c + 1)]))[n]? = some (.lst [.int a, .int b, .int (c + 1)]) := List.getElem?_set_self hn
    generalize hx : c + 1 = x at *
    have hx0 : 0 ≤ x := by omega
    have o1 : okMul 101440 x = true := okMul_nn (x := 18) (y := 61) (by decide) (by decide) hx0 (by omega) (by decide)
    have o2 : okMul (101440 * x) x = true := okMul_nn (x := 79) (y := 61) (by omega) (by omega) hx0 (by omega) (by decide)
    have hxx : 101440 * x * x < 2 ^ 141 := by
      have h1 : 101440 * x ≤ 2 ^ 79 := by omega
      have h2 : 101440 * x * x ≤ 2 ^ 79 * 2 ^ 61 := Int.mul_le_mul h1 (by omega) hx0 (by decide)
      exact Int.lt_of_le_of_lt h2 (by decide)
    have hxn : 0 ≤ 101440 * x * x := Int.mul_nonneg (by omega) hx0
    generalize hy : b + 101440 * x * x + 1150 = y at *
    have hy0 : 0 ≤ y := by omega
    have hy1 : y < 2 ^ 142 := by omega
    have o3 : okPow y 3 = true := by
      unfold okPow
      rw [Bool.and_eq_true]
      refine ⟨decide_eq_true (by decide), decide_eq_true ?_⟩
      have hl : Builtin.Int.intBits y ≤ 143 := by
        unfold Builtin.Int.intBits
        split
        · omega
        · have := log_lt (a := y.natAbs) (n := 142) (by omega)
          omega
      omega
    have hp : ∀ q : Int, 0 < q → 0 ≤ (y ^ 3).fmod q ∧ (y ^ 3).fmod q < q := fun q hq => by
      rw [Int.fmod_eq_emod_of_nonneg _ (by omega)]
      exact ⟨Int.emod_nonneg _ (by omega), Int.emod_lt_of_pos _ hq⟩
    have last : ∀ z : Int, 0 ≤ z → z < 2 ^ 31 → okMul z (z.fmod 11078 + 316 * x) = true := fun z z0 z1 => by
      have e := Int.fmod_eq_emod_of_nonneg z (show (0 : Int) ≤ 11078 by decide)
      have e1 : 0 ≤ z % 11078 := Int.emod_nonneg _ (by decide)
      have e2 : z % 11078 < 11078 := Int.emod_lt_of_pos _ (by decide)
      exact okMul_nn (x := 31) (y := 75) z0 (by omega) (by rw [e]; omega) (by rw [e]; omega) (by decide)
    have o4 : okMul 316 x = true := okMul_nn (x := 12) (y := 61) (by decide) (by decide) hx0 (by omega) (by decide)
    have o5 : okDiv 167 = true := by decide
    have fin : ∀ z : Int, 0 ≤ z.fmod u ∧ z.fmod u < u := fun z => by
      rw [Int.fmod_eq_emod_of_nonneg _ (by omega)]
      exact ⟨Int.emod_nonneg _ u0, Int.emod_lt_of_pos _ (by omega)⟩
    have cM : ∀ i : Int, 0 ≤ i → i < 5 → i = 0 ∨ i = 1 ∨ i = 2 ∨ i = 3 ∨ i = 4 := fun i _ _ => by omega
    have r0 : 0 ≤ x.fmod 5 := by rw [Int.fmod_eq_emod_of_nonneg _ (by decide)]; exact Int.emod_nonneg _ (by decide)
    have r1 : x.fmod 5 < 5 := by rw [Int.fmod_eq_emod_of_nonneg _ (by decide)]; exact Int.emod_lt_of_pos _ (by decide)
    have done : ∀ (q : Int), 0 < q → q < 2 ^ 31 → L2.atI [.int 2147483647, .int 2147483629, .int 2147483587, .int 2147483579, .int 2147483563] (x.fmod 5) = some (D.int q) → ∃ d S',
        bodyRs (evTs fu (evC fu tabL k) tr_23 (startD 5 [D.ref n, D.int u]) S) = .ok (.int d) S' ∧ 0 ≤ d ∧ d < u ∧ Pot n S' (m + 1) ∧ Fm n S S' := fun q q0 q1 hq => by
      obtain ⟨p1, p2⟩ := hp q q0
      have l1 := last _ p1 (by omega)
      have qn : q ≠ 0 := by omega
      have fz := fin ((((y ^ 3).fmod q * (((y ^ 3).fmod q).fmod 11078 + 316 * x)).fmod 2305843009213693907).fdiv 167)
      refine ⟨_, S.set n (.lst [.int a, .int b, .int x]) ++ [.lst [.int 2147483647, .int 2147483629, .int 2147483587, .int 2147483579, .int 2147483563]], ?_, fz.1, fz.2, Pot.app ⟨a, b, x, hT, ha, hb, hb2, hx0, by omega⟩ _, (Fm.set _ _ _).trans (Fm.app _ _ _)⟩
      · have hT2 : (S.set n (.lst [.int a, .int b, .int x]) ++ [.lst [.int 2147483647, .int 2147483629, .int 2147483587, .int 2147483579, .int 2147483563]])[n]? = some (.lst [.int a, .int b, .int x]) := by
          rw [List.getElem?_append_left (by simpa using hn)]; exact hT
        have hT3 : (S.set n (.lst [.int a, .int b, .int x]) ++ [.lst [.int 2147483647, .int 2147483629, .int 2147483587, .int 2147483579, .int 2147483563]])[(S.set n (.lst [.int a, .int b, .int x])).length]? = some (.lst [.int 2147483647, .int 2147483629, .int 2147483587, .int 2147483579, .int 2147483563]) := List.getElem?_concat_length
        unfold tr_23
        clear fz hp last fin cM r0 r1 p1 p2 q0 q1 hxx hxn hy0 hy1 hx0 hc1 hu hu2 ha hb hb2 hc hcm hm h0 hn
        walk_at "cw"
    unfold tr_23 at done
    rcases cM _ r0 r1 with e | e | e | e | e <;> rw [e] at done <;> exact done _ (by decide) (by decide) rfl

/-! ### the script's cells -/
theorem fmod_bd {x M : Int} (h : 0 < M) : 0 ≤ x.fmod M ∧ x.fmod M < M := by
  rw [Int.fmod_eq_emod_of_nonneg _ (by omega)]
  exact ⟨Int.emod_nonneg _ (by omega), Int.emod_lt_of_pos _ h⟩
theorem own_nn {x M : Int} (hM : 0 < M) (c : Bool) : 0 ≤ x.fmod M * (if c = true then 1 else 0 : Int) := by
  have h := (fmod_bd (x := x) hM).1
  split <;> omega
section
variable {fu : Nat}
theorem pot_fin (S J : Store) {A B : Int} (h1 : 0 ≤ A) (h2 : 0 ≤ B) (h3 : B < 2 ^ 62) : ∃ (n : Nat) (S' : Store), (Rs.ok (D.ref (S ++ J).length) (S ++ J ++ [.lst [.int A, .int B, .int 0]]) : Rs D) = .ok (.ref n) S' ∧ Pot n S' 0 ∧ S.length ≤ n ∧ Gr S S' :=
  ⟨_, _, rfl, ⟨A, B, 0, at_new _, h1, h2, h3, Int.le_refl 0, Int.le_refl 0⟩, by simp, (Gr.app _ _).trans (Gr.app _ _)⟩
theorem pot_ok (k : Nat) (ns : List Int) (i : Nat) (hi : i < ns.length ∨ (ns = [] ∧ i = 0)) (h63 : ns.length ≤ 63) (S : Store) :
    ∃ (n : Nat) (S' : Store), evC fu tabL (k + 1) 89 [.rol (ns.map .int), .int i] S = .ok (.ref n) S' ∧ Pot n S' 0 ∧ S.length ≤ n ∧ Gr S S' := by
  rw [evC_eq (n := fd_89.slots) (b := fd_89.body) rfl]
  have o1 : okPow 10 60 = true := by decide
  have o2 : okPow 1000000000000000000000000000000000000000000000000000000000000 5 = true := by decide
  have o3 : okPow 10 18 = true := by decide
  have t1 : (1000000000000000000000000000000000000000000000000000000000000000000000000000000000000000000000000000000000000000000000000000000000000000000000000000000000000000000000000000000000000000000000000000000000000000000000000000000000000000000000000000000000000000000000000000000000000000000000000000000000000 : Int) ≠ 0 := by decide
  have i63 : (i : Int) < 64 := by
    rcases hi with h | ⟨_, h⟩ <;> omega
  have ea := abs_eq
  by_cases h : i < ns.length
  · have o4 : okMul 9140 i = true := okMul_of (n := 40) (m := 7) (by decide) (by omega) (by decide)
    have o5 : okMul (9140 * i) i = true := okMul_of (n := 50) (m := 7) (by omega) (by omega) (by decide)
    have o6 : ∀ x : Int, okMul (x.fmod 2305843009213693951) 76108 = true := fun x => by
      have h := fmod_bd (x := x) (M := 2305843009213693951) (by decide)
      exact okMul_of (n := 62) (m := 40) (by omega) (by decide) (by decide)
    have o7 : ∀ (x : Int) (c : Bool), okMul (x.fmod 1000000000000000000000000000000000000000000000000000000000000000000000000000000000000000000000000000000000000000000000000000000000000000000000000000000000000000000000000000000000000000000000000000000000000000000000000000000000000000000000000000000000000000000000000000000000000000000000000000000000000) (if c = true then 1 else 0) = true := fun x c => by
      have h := fmod_bd (x := x) (M := 1000000000000000000000000000000000000000000000000000000000000000000000000000000000000000000000000000000000000000000000000000000000000000000000000000000000000000000000000000000000000000000000000000000000000000000000000000000000000000000000000000000000000000000000000000000000000000000000000000000000000) (by decide)
      exact okMul_of (n := 1000) (m := 1) (by omega) (by split <;> decide) (by decide)
    obtain ⟨c, hc⟩ : ∃ c, ns[i]? = some c := ⟨_, List.getElem?_eq_getElem h⟩
    have hl : ((i : Nat) : Int) < ((ns.map D.int).length : Nat) := by rw [List.length_map]; omega
    have hd := decide_eq_true hl
    have ha : L2.atI (ns.map D.int) i = some (.int c) := by
      rw [atI_nn (by omega), Int.toNat_natCast, List.getElem?_map, hc]; rfl
    have f := fun A B => pot_fin S [] (A := A) (B := B)
    rw [List.append_nil] at f
    generalize ns.map D.int = xs at *
    show ∃ n S', bodyRs (evTs fu (evC fu tabL k) tr_89 (startD 5 [.rol xs, .int i]) S) = .ok (.ref n) S' ∧ Pot n S' 0 ∧ S.length ≤ n ∧ Gr S S'
    unfold tr_89
    clear hi h63 i63 h hl hc
    walk_at "cw"
    exact f _ _ (own_nn (by decide) _) (fmod_bd (by decide)).1 (Int.lt_trans (fmod_bd (by decide)).2 (by decide))
  · obtain ⟨rfl, rfl⟩ : ns = [] ∧ i = 0 := by
      rcases hi with h' | h'
      · exact absurd h' h
      · exact h'
    have o8 : okMul 1592 0 = true := by decide
    have o9 : okMul 9140 0 = true := by decide
    have o10 : okMul 0 0 = true := by decide
    have o6 : okMul ((Int.fmod 0 1000003 + 0 + 790).fmod 2305843009213693951) 76108 = true := by decide
    have o7 : ∀ (x : Int) (c : Bool), okMul (x.fmod 1000000000000000000000000000000000000000000000000000000000000000000000000000000000000000000000000000000000000000000000000000000000000000000000000000000000000000000000000000000000000000000000000000000000000000000000000000000000000000000000000000000000000000000000000000000000000000000000000000000000000) (if c = true then 1 else 0) = true := fun x c => by
      have h := fmod_bd (x := x) (M := 1000000000000000000000000000000000000000000000000000000000000000000000000000000000000000000000000000000000000000000000000000000000000000000000000000000000000000000000000000000000000000000000000000000000000000000000000000000000000000000000000000000000000000000000000000000000000000000000000000000000000) (by decide)
      exact okMul_of (n := 1000) (m := 1) (by omega) (by split <;> decide) (by decide)
    have es : evSlc (.rol []) none (some 1) S = .ok (.ref S.length) (S ++ [.lst []]) := rfl
    have eS : evB1 .sum (.ref S.length) (S ++ [.lst []]) = .ok (.int 0) (S ++ [.lst []]) := by
      simp only [evB1, sq, isSeqL, at_new, if_true, Option.bind_some, intsOf]
      rfl
    show ∃ n S', bodyRs (evTs fu (evC fu tabL k) tr_89 (startD 5 [.rol [], .int 0]) S) = .ok (.ref n) S' ∧ Pot n S' 0 ∧ S.length ≤ n ∧ Gr S S'
    unfold tr_89
    clear hi h63 i63 h
    walk_at "cw"
    exact pot_fin S [.lst []] (own_nn (by decide) _) (fmod_bd (by decide)).1 (Int.lt_trans (fmod_bd (by decide)).2 (by decide))
end

end Cw
namespace Cw
open PySem PySem.Spec PyProof.Rows L2
def fr88 : T := match tr_88 with
  | .cons _ (.cons t _) => t
  | _ => .pas
def with88 (t : T) : Ts := match tr_88 with
  | .cons a (.cons _ r) => .cons a (.cons t r)
  | _ => .nil
theorem tr88_eq : tr_88 = with88 fr88 := rfl
def body88 : Ts := match fr88 with
  | .fr _ _ b => b
  | _ => .nil
theorem fr88_eq : fr88 = .fr (.nm 1) (.rngV (.cst (.int 4))) body88 := rfl
local macro_rules | `(tactic| walk_at "cw") => `(tactic| simp only [bnd_ok, bnd_exc, varR_some, kk2_eq, v_var, v_cst, v_tup, v_lst, v_bin, v_neg, v_not, andK_t, andK_f, orK_t, orK_f, v_and, v_or, v_cmp, chK_t, chK_f, chJ_eq, v_chain, iteK_t, iteK_f, v_ite, v_idx, slcK_eq, slcL_eq, slcJ_eq, v_slc, optK_int, o_none, o_some, v_rev, rev_tup, callK_eq, callJ_none, callJ_perm, callP_some, permL_nil, permL_cons, permC_some, v_call, v_b1, v_b2, isiK_eq, v_isi, v_m0, v_m1, compE_eq, comp_live, lenL_some, live_eq, liveK_some, liveJ_none, liveJ_some, liveH_some, liveH_none, fr_live, liveF_eq, liveFK_some, liveFJ_none, liveFJ_some, liveFH_nx, liveFH_ct, liveFH_bk, liveFH_rt, nil_get, comp_fix, comp_zip, comp_rng, turnC_eq, turnJ_some, turnK_t, turnK_f, yesK_eq, wipe_nil, wipe_cons, loopL_nil, loopL_cons, loopK_some, loopK_none, zipD_nil, zipD_nil2, zipD_cons, v_comp, es_nil, consJ_eq, consK_eq, es_cons, notJ_eq, andJ_t, andJ_f, orJ_t, orJ_f, b_not, b_and, b_or, b_cmp, b_chain, b_ite, b_var, b_cst, b_call, b_b1, b_isi, b_idx, b_bin, b_comp, ofBl_bl, tru_bl, tru_int, tru_tup, tru_non, c_none', c_some', srcK_tup, srcK_rol, w_var, w_cst, w_tup, w_lst, w_bin, w_idx, w_slc, w_call, w_comp, w_rng, rng2K_eq, w_rng2, zipK_tup, w_zip, w_enum, seqR_nx, seqR_rt, seqR_bk, seqR_ct, seqR_ex, ts_nil, ts_cons, rtE_ok, asgK_eq, t_asg, tgK_some, asgTK_eq, t_asgT, parJ_eq, parK_eq, t_par, par3H_eq, par3J_eq, par3K_eq, t_par3, setJ_eq, setK_eq, t_set, expK_eq, t_exp, retK_eq, t_ret, t_retN, ifK_t, ifK_f, t_if, t_whl, frB_eq, frJ_eq, fr_fix, fr_zip, fr_rng, forL_nil, forL_cons, forK_nx, forK_ct, forK_bk, forK_rt, t_fr, t_pas, t_brk, t_cnt, body_rt, body_nx, body_ex, op_addI, op_subI, op_mulI, op_fdivI, op_modI, op_powI, mkTup_small, alloc_small, idx_R, idxS_some, setH_R, setS_some, setX_some, len_R, lenS_some, len_rol, tup_R, tupS_some, all_R, allS_some, allK_some, src_R, srcS_some, m1J_R, m1S_some, app_R, appX_some, at_new, bls_nil, bls_cons, List.all_cons, List.all_nil, id_eq, Bool.and_true, Bool.and_self,  neg_I, not_B, cop_lt, cop_le, cop_gt, cop_ge, cop_eq, cop_ne, cop_isN, cop_notN, cop_isB, cop_notB, ofOpt_some, eqD_int, eqD_str, b1_lenT, b1_abs, b1_intI, b1_intB, b2_min, b2_max, isi_tup, isi_int, isi_bl, isi_str, idxK_some, idx_tup, idx_rol, atI_0, atI_1, atI_2, atI_3, atI_4, atI_5, atI_6, atI_7, atI_m1_1, atI_m1_2, atI_m2_2, atI_m1_3, atI_m2_3, atI_m3_3, atI_m1_4, atI_m2_4, atI_m3_4, atI_m1_5, atI_m2_5, atI_m3_5, atI_m1_6, atI_m2_6, atI_m3_6, tg_nm, tg_tp, tgs_nil, tgJ_some, tgs_cons, List.getElem?_cons_zero, List.getElem?_cons_succ, List.set_cons_zero, List.set_cons_succ, List.cons_append, List.nil_append, List.map_cons, List.map_nil, startD, List.length_cons, List.length_nil, List.replicate_succ, List.replicate_zero, Nat.reduceAdd, Nat.reduceSub, Int.reduceLE, Int.reduceLT, Int.reduceEq, Int.reduceNe, Nat.reduceLT, Nat.reduceEqDiff, Nat.reduceLeDiff, Int.reduceToNat, Int.reduceNeg, Int.reduceAdd, Int.reduceSub, Int.reduceMul, Int.reducePow, rng1_eq, rngD_0, rngD_s, op_powI, reduceCtorEq, decide_true, decide_false, eq_self, Int.cast_ofNat_Int, Nat.zero_add, Option.map_some, ne_eq, not_false_eq_true, Bool.not_true, Bool.not_false, isNonD, i_ev0, i_ev1, i_fr0, i_fr1, s_ev, g_fr, g_ev, r_ev, k_ev, k_one, k_zero, *])
local macro_rules | `(tactic| walk_at "cw0") => `(tactic| simp only [bnd_ok, bnd_exc, varR_some, kk2_eq, v_var, v_cst, v_tup, v_lst, v_bin, v_neg, v_not, andK_t, andK_f, orK_t, orK_f, v_and, v_or, v_cmp, chK_t, chK_f, chJ_eq, v_chain, iteK_t, iteK_f, v_ite, v_idx, slcK_eq, slcL_eq, slcJ_eq, v_slc, optK_int, o_none, o_some, v_rev, rev_tup, callK_eq, callJ_none, callJ_perm, callP_some, permL_nil, permL_cons, permC_some, v_call, v_b1, v_b2, isiK_eq, v_isi, v_m0, v_m1, compE_eq, comp_live, lenL_some, live_eq, liveK_some, liveJ_none, liveJ_some, liveH_some, liveH_none, fr_live, liveF_eq, liveFK_some, liveFJ_none, liveFJ_some, liveFH_nx, liveFH_ct, liveFH_bk, liveFH_rt, nil_get, comp_fix, comp_zip, comp_rng, turnC_eq, turnJ_some, turnK_t, turnK_f, yesK_eq, wipe_nil, wipe_cons, loopL_nil, loopL_cons, loopK_some, loopK_none, zipD_nil, zipD_nil2, zipD_cons, v_comp, es_nil, consJ_eq, consK_eq, es_cons, notJ_eq, andJ_t, andJ_f, orJ_t, orJ_f, b_not, b_and, b_or, b_cmp, b_chain, b_ite, b_var, b_cst, b_call, b_b1, b_isi, b_idx, b_bin, b_comp, ofBl_bl, tru_bl, tru_int, tru_tup, tru_non, c_none', c_some', srcK_tup, srcK_rol, w_var, w_cst, w_tup, w_lst, w_bin, w_idx, w_slc, w_call, w_comp, w_rng, rng2K_eq, w_rng2, zipK_tup, w_zip, w_enum, seqR_nx, seqR_rt, seqR_bk, seqR_ct, seqR_ex, ts_nil, ts_cons, rtE_ok, asgK_eq, t_asg, tgK_some, asgTK_eq, t_asgT, parJ_eq, parK_eq, t_par, par3H_eq, par3J_eq, par3K_eq, t_par3, setJ_eq, setK_eq, t_set, expK_eq, t_exp, retK_eq, t_ret, t_retN, ifK_t, ifK_f, t_if, t_whl, frB_eq, frJ_eq, fr_fix, fr_zip, fr_rng, forL_nil, forL_cons, forK_nx, forK_ct, forK_bk, forK_rt, t_fr, t_pas, t_brk, t_cnt, body_rt, body_nx, body_ex, op_addI, op_subI, op_mulI, op_fdivI, op_modI, op_powI, mkTup_small, alloc_small, idx_R, idxS_some, setH_R, setS_some, setX_some, len_R, lenS_some, len_rol, tup_R, tupS_some, all_R, allS_some, allK_some, src_R, srcS_some, m1J_R, m1S_some, app_R, appX_some, at_new, bls_nil, bls_cons, List.all_cons, List.all_nil, id_eq, Bool.and_true, Bool.and_self,  neg_I, not_B, cop_lt, cop_le, cop_gt, cop_ge, cop_eq, cop_ne, cop_isN, cop_notN, cop_isB, cop_notB, ofOpt_some, eqD_int, eqD_str, b1_lenT, b1_abs, b1_intI, b1_intB, b2_min, b2_max, isi_tup, isi_int, isi_bl, isi_str, idxK_some, idx_tup, idx_rol, atI_0, atI_1, atI_2, atI_3, atI_4, atI_5, atI_6, atI_7, atI_m1_1, atI_m1_2, atI_m2_2, atI_m1_3, atI_m2_3, atI_m3_3, atI_m1_4, atI_m2_4, atI_m3_4, atI_m1_5, atI_m2_5, atI_m3_5, atI_m1_6, atI_m2_6, atI_m3_6, tg_nm, tg_tp, tgs_nil, tgJ_some, tgs_cons, List.getElem?_cons_zero, List.getElem?_cons_succ, List.set_cons_zero, List.set_cons_succ, List.cons_append, List.nil_append, List.map_cons, List.map_nil, startD, List.length_cons, List.length_nil, List.replicate_succ, List.replicate_zero, Nat.reduceAdd, Nat.reduceSub, Int.reduceLE, Int.reduceLT, Int.reduceEq, Int.reduceNe, Nat.reduceLT, Nat.reduceEqDiff, Nat.reduceLeDiff, Int.reduceToNat, Int.reduceNeg, Int.reduceAdd, Int.reduceSub, Int.reduceMul, Int.reducePow, rng1_eq, rngD_0, rngD_s, op_powI, reduceCtorEq, decide_true, decide_false, eq_self, Int.cast_ofNat_Int, Nat.zero_add, Option.map_some, ne_eq, not_false_eq_true, Bool.not_true, Bool.not_false, isNonD, i_ev0, i_ev1, i_fr0, i_fr1, s_ev, g_fr, g_ev, r_ev, k_ev, k_one, k_zero])
section
variable {fu : Nat}
theorem loop88 (k : Nat) {n : Nat} (hF : 2 ^ 9000 ≤ fu) : ∀ (N m : Nat) (lo : Int) (a b c d q : Rat) (o1 : Option D) (S : Store), Pot n S m → m + 30 * N + 30 < 2 ^ 60 → Sz a 14 → Sz b 14 → Sz c 60 → Sz d 60 → Bd q →
    ∃ a' b' c' d' q' o' S', forL (frB fu (evC fu tabL (k + 10)) (.nm 1) body88) (rngD lo N) [some (.ref n), o1, none, some (evD a b), some (evD c d), some (frD q), none, none] S = some (.nx [some (.ref n), o', none, some (evD a' b'), some (evD c' d'), some (frD q'), none, none], S') ∧
      Sz a' 14 ∧ Sz b' 14 ∧ Sz c' 60 ∧ Sz d' 60 ∧ Bd q' ∧ Pot n S' (m + 30 * N) ∧ Fm n S S'
  | 0, m, lo, a, b, c, d, q, o1, S, P, _, sa, sb, sc, sd, B => ⟨a, b, c, d, q, o1, S, by rw [rngD_0, forL_nil], sa, sb, sc, sd, B, P, Fm.refl _ _⟩
  | N + 1, m, lo, a, b, c, d, q, o1, S, P, hm, sa, sb, sc, sd, B => by
    have G := subL
    have T := takeL
    obtain ⟨sq, q1, q0, qp⟩ := B.sz
    obtain ⟨J1, e1⟩ := word_ok (fu := fu) G (k + 5) (sa.mono (show 14 ≤ 140 by decide)) (sb.mono (by decide)) (sc.mono (by decide)) (sd.mono (by decide)) (sq.mono (by decide)) hF S
    have q1 := fun S w => due_plan (S := S) w
    rw [rngD_s, forL_cons]
    by_cases h : wdo (c - a) (d - b) q = .plan
    · rw [h] at e1
      have q2 := fun S => q1 S .plan
      rw [decide_eq_true rfl] at q2
      have hb1 : frB fu (evC fu tabL (k + 10)) (.nm 1) body88 (.int lo) [some (.ref n), o1, none, some (evD a b), some (evD c d), some (frD q), none, none] S = some (.bk [some (.ref n), some (.int lo), none, some (evD a b), some (evD c d), some (frD q), none, none], S ++ J1) := by
        unfold body88 fr88 tr_88
        generalize Wd.plan.due = x at *
        clear G T P hm sa sb sc sd B sq q0 qp hF h q1
        dsimp only
        walk_at "cw"
      rw [hb1, forK_bk]
      exact ⟨a, b, c, d, q, _, _, rfl, sa, sb, sc, sd, B, (P.app J1).mono (by omega), Fm.app _ _ _⟩
    · generalize wdo (c - a) (d - b) q = w at *
      have q2 := fun S => q1 S w
      rw [decide_eq_false h] at q2
      obtain ⟨a', b', c', d', q', S1, e2, sa', sb', sc', sd', B', P1, F1⟩ := ends_ok (fu := fu) G T (k + 5) (P.app J1) (by omega) hF
      obtain ⟨a2, b2, c2, d2, q2', o2, S2, e3, r⟩ := loop88 k hF N (m + 20) (lo + 1) a' b' c' d' q' (some (.int lo)) S1 P1 (by omega) sa' sb' sc' sd' B'
      obtain ⟨r1, r2, r3, r4, r5, r6, r7⟩ := r
      have hb1 : frB fu (evC fu tabL (k + 10)) (.nm 1) body88 (.int lo) [some (.ref n), o1, none, some (evD a b), some (evD c d), some (frD q), none, none] S = some (.nx [some (.ref n), some (.int lo), none, some (evD a' b'), some (evD c' d'), some (frD q'), none, none], S1) := by
        unfold body88 fr88 tr_88
        generalize w.due = x at *
        clear G T P hm sa sb sc sd B sq q0 qp hF h q1 sa' sb' sc' sd' B' P1 F1 e3 r1 r2 r3 r4 r5 r6 r7
        dsimp only
        walk_at "cw"
      rw [hb1, forK_nx]
      exact ⟨a2, b2, c2, d2, q2', o2, S2, e3, r1, r2, r3, r4, r5, r6.mono (by omega), ((Fm.app _ _ _).trans F1).trans r7⟩
theorem wish_lap (k : Nat) {n m : Nat} {a b c d q : Rat} {S : Store} (P : Pot n S m) (hm : m + 1 < 2 ^ 60) (sa : Sz a 14) (sb : Sz b 14) (sc : Sz c 60) (sd : Sz d 60) (B : Bd q) (hw : wdo (c - a) (d - b) q = .plan) (hF : 2 ^ 9000 ≤ fu) :
    ∃ t S1 S2, evC fu tabL (k + 10) 91 [.ref n, frD ((c - a + (d - b)) / (q + q⁻¹)), frD ((c - a) * (d - b))] S = .ok (frD t) S1 ∧
      evC fu tabL (k + 10) 90 [evD a b, evD c d, frD q, frD t, frD ((c - a + (d - b)) / (q + q⁻¹)), frD ((c - a) * (d - b))] S1 = .ok (.bl true) S2 ∧ Pot n S2 (m + 1) ∧ Fm n S S2 := by
  have G := subL
  have T := takeL
  obtain ⟨sq, q1, q0, qp⟩ := B.sz
  have hu : Sz (c - a) 75 := sc.sub sa
  have hv : Sz (d - b) 75 := sd.sub sb
  obtain ⟨w1, w2, w3, w4⟩ := wdo_plan.mp hw
  have i0 := inv_pos qp
  have sl : Sz ((c - a + (d - b)) / (q + q⁻¹)) 160 := ((hu.add hv).div (sq.add (sq.inv qp)) (ne0 (show 0 < q + q⁻¹ by grind))).mono (by decide)
  have l0 : 0 ≤ (c - a + (d - b)) / (q + q⁻¹) := by
    rw [Rat.div_def]
    exact Rat.mul_nonneg (Rat.add_nonneg w1 w2) (Rat.le_of_lt (inv_pos (show 0 < q + q⁻¹ by grind)))
  obtain ⟨t, S1, e1, st, t0, P1, F1⟩ := wished_ok (fu := fu) G T (k + 6) P hm sl l0 (hu.mul hv) (Rat.mul_nonneg w1 w2) hF
  obtain ⟨J, e2⟩ := wish_ok (fu := fu) G k sa sb sc sd sq q1 st t0 hw hF S1
  exact ⟨t, S1, S1 ++ J, e1, e2, P1.app J, F1.trans (Fm.app _ _ _)⟩
theorem right_ok (k : Nat) {n : Nat} {S : Store} (P : Pot n S 0) (hF : 2 ^ 9000 ≤ fu) : ∃ S', evC fu tabL (k + 11) 88 [.ref n] S = .ok (.bl true) S' ∧ Fm n S S' := by
  have G := subL
  have T := takeL
  obtain ⟨a0, b0, c0, d0, q0, S1, e1, sa0, sb0, sc0, sd0, B0, P1, F1⟩ := ends_ok (fu := fu) G T (k + 5) P (by decide) hF
  obtain ⟨a, b, c, d, q, o', S2, e2, sa, sb, sc, sd, B, P2, F2⟩ := loop88 (fu := fu) k hF 4 (0 + 20) 0 a0 b0 c0 d0 q0 none S1 P1 (by decide) sa0 sb0 sc0 sd0 B0
  have e2' : evT fu (evC fu tabL (k + 10)) fr88 [some (.ref n), none, none, some (evD a0 b0), some (evD c0 d0), some (frD q0), none, none] S1 = some (.nx [some (.ref n), o', none, some (evD a b), some (evD c d), some (frD q), none, none], S2) := by
    rw [fr88_eq, t_fr]
    have hw : (ev3 (evC fu tabL (k + 10)) (.rngV (.cst (.int 4)))).w [some (.ref n), none, none, some (evD a0 b0), some (evD c0 d0), some (frD q0), none, none] S1 = .ok (.rng 0 4) S1 := rfl
    rw [hw]
    exact (fr_rng (.nm 1) body88 0 4).trans e2
  obtain ⟨sq, q1, qn, qp⟩ := B.sz
  obtain ⟨J1, e3⟩ := word_ok (fu := fu) G (k + 5) (sa.mono (show 14 ≤ 140 by decide)) (sb.mono (by decide)) (sc.mono (by decide)) (sd.mono (by decide)) (sq.mono (by decide)) hF S2
  have q2 := fun S w => due_plan (S := S) w
  rw [evC_eq (n := fd_88.slots) (b := fd_88.body) rfl]
  show ∃ S', bodyRs (evTs fu (evC fu tabL (k + 10)) tr_88 (startD 8 [D.ref n]) S) = _ ∧ _
  rw [tr88_eq]
  by_cases h : wdo (c - a) (d - b) q = .plan
  · obtain ⟨J2, e4⟩ := l_more_ok (fu := fu) G (k + 6) sa sb sc sd (by decide) hF (S2 ++ J1)
    obtain ⟨J3, e5⟩ := within_least_ok (fu := fu) G (k + 5) sa sb sc sd sq q1 hF (S2 ++ J1 ++ J2)
    have hu : Sz (c - a) 75 := sc.sub sa
    have hv : Sz (d - b) 75 := sd.sub sb
    have e6 := fun S => l_times_ok (S := S) (fu := fu) G (k + 7) hu hv (by decide) hF
    obtain ⟨t1, A1, A1', x1, y1, R1, H1⟩ := wish_lap (fu := fu) k (((P2.app J1).app J2).app J3) (by decide) sa sb sc sd B h hF
    obtain ⟨t2, A2, A2', x2, y2, R2, H2⟩ := wish_lap (fu := fu) k R1 (by decide) sa sb sc sd B h hF
    obtain ⟨t3, A3, A3', x3, y3, R3, H3⟩ := wish_lap (fu := fu) k R2 (by decide) sa sb sc sd B h hF
    obtain ⟨t4, A4, A4', x4, y4, R4, H4⟩ := wish_lap (fu := fu) k R3 (by decide) sa sb sc sd B h hF
    refine ⟨A4' ++ [.lst [.bl true, .bl true, .bl true, .bl true]], ?_, (((((((((F1.trans F2).trans (Fm.app _ _ _)).trans (Fm.app _ _ _)).trans (Fm.app _ _ _)).trans H1).trans H2).trans H3).trans H4).trans (Fm.app _ _ _))⟩
    rw [h] at e3
    have q3 := fun S => q2 S .plan
    rw [decide_eq_true rfl] at q3
    generalize Wd.plan.due = xp at *
    generalize (c - a + (d - b)) / (q + q⁻¹) = lo at *
    generalize c - a = u at *
    generalize d - b = v at *
    unfold with88 tr_88
    dsimp only
    clear G T P hF sa0 sb0 sc0 sd0 B0 P1 F1 sa sb sc sd B P2 F2 sq q1 qn qp h hu hv R1 H1 R2 H2 R3 H3 R4 H4 q2 e2
    walk_at "cw"
  · generalize wdo (c - a) (d - b) q = w at *
    have q3 := fun S => q2 S w
    rw [decide_eq_false h] at q3
    refine ⟨S2 ++ J1, ?_, (F1.trans F2).trans (Fm.app _ _ _)⟩
    generalize w.due = x at *
    unfold with88 tr_88
    dsimp only
    clear G T P hF sa0 sb0 sc0 sd0 B0 P1 F1 sa sb sc sd B P2 F2 sq q1 qn qp h q2 e2
    walk_at "cw"
end
/-! ### the law -/
section
variable {fu : Nat}
theorem cells_ok (k : Nat) (ns : List Int) (h63 : ns.length ≤ 63) (S : Store) : (evC fu tabL (k + 1) 1 [.rol (ns.map .int), .int 2] S = .ok (.ref S.length) (S ++ [.lst [.int 0]]) ∧ ns.length ≤ 1) ∨ (evC fu tabL (k + 1) 1 [.rol (ns.map .int), .int 2] S = .ok (.ref S.length) (S ++ [.lst [.int 0, .int 1]]) ∧ 2 ≤ ns.length) := by
  have G := subL
  rw [evC_eq (G 1 _ rfl)]
  unfold tr_1
  have hl : ((ns.map D.int).length : Nat) = ns.length := by rw [List.length_map]
  by_cases h : 2 ≤ ns.length
  · refine .inr ⟨?_, h⟩
    have i1 : ((((ns.map D.int).length : Nat) : Int) < 2) = False := by rw [hl]; simp; omega
    have e : evB1 .lrange (.int 2) S = .ok (.ref S.length) (S ++ [.lst [.int 0, .int 1]]) := rfl
    generalize ns.map D.int = xs at *
    clear G h hl h63
    walk_at "cw"
    simp
    exact e
  · refine .inl ⟨?_, by omega⟩
    have i1 : ((((ns.map D.int).length : Nat) : Int) < 2) = True := by rw [hl]; simp; omega
    have e : evB1 .lrange (.int 1) S = .ok (.ref S.length) (S ++ [.lst [.int 0]]) := rfl
    have i2 : (((((ns.map D.int).length : Nat) : Int)) > 1) = False := by rw [hl]; simp; omega
    generalize ns.map D.int = xs at *
    clear G h hl h63
    walk_at "cw"
    simp only [i2, if_false, if_true]
    exact e
theorem cell_ok (k : Nat) (ns : List Int) (i j : Nat) (hi : i < ns.length ∨ (ns = [] ∧ i = 0)) (h63 : ns.length ≤ 63) (hF : 2 ^ 9000 ≤ fu) {S : Store} {o : SO} (hj : S[j]? = some o) :
    ∃ (n : Nat) (S1 S2 : Store), evC fu tabL (k + 11) 89 [.rol (ns.map .int), .int i] S = .ok (.ref n) S1 ∧ evC fu tabL (k + 11) 88 [.ref n] S1 = .ok (.bl true) S2 ∧ S2[j]? = some o := by
  obtain ⟨n, S1, e1, P1, hn, g1⟩ := pot_ok (fu := fu) (k + 10) ns i hi h63 S
  obtain ⟨S2, e2, F⟩ := right_ok (fu := fu) k P1 hF
  have hl := (List.getElem?_eq_some_iff.mp hj).1
  exact ⟨n, S1, S2, e1, e2, F.get (g1.get hj) (by omega)⟩
theorem law_ok (k : Nat) (ns : List Int) (h63 : ns.length ≤ 63) (hF : 2 ^ 9000 ≤ fu) (S : Store) : ∃ S', evC fu tabL (k + 12) 1061 [.rol (ns.map .int)] S = .ok (.bl true) S' := by
  rw [evC_eq (n := fd_1061.slots) (b := fd_1061.body) rfl]
  show ∃ S', bodyRs (evTs fu (evC fu tabL (k + 11)) tr_1061 (startD 2 [.rol (ns.map .int)]) S) = _
  rcases cells_ok (fu := fu) (k + 10) ns h63 S with ⟨e0, h⟩ | ⟨e0, h⟩
  · have l0 := at_new (S := S) (.lst [.int 0])
    obtain ⟨n, S1, S2, e1, e2, l2⟩ := cell_ok (fu := fu) k ns 0 S.length (by
      by_cases h0 : ns.length = 0
      · exact .inr ⟨List.length_eq_zero_iff.mp h0, rfl⟩
      · exact .inl (by omega)) h63 hF l0
    have e1 : evC fu tabL (k + 11) 89 [.rol (ns.map .int), .int 0] (S ++ [.lst [.int 0]]) = .ok (.ref n) S1 := e1
    generalize ns.map D.int = xs at *
    clear h h63 hF
    refine ⟨S2 ++ [.lst [.bl true]], ?_⟩
    unfold tr_1061
    walk_at "cw"
  · have l0 := at_new (S := S) (.lst [.int 0, .int 1])
    obtain ⟨n, S1, S2, e1, e2, l2⟩ := cell_ok (fu := fu) k ns 0 S.length (.inl (by omega)) h63 hF l0
    obtain ⟨n', S3, S4, e3, e4, l4⟩ := cell_ok (fu := fu) k ns 1 S.length (.inl (by omega)) h63 hF l2
    have e1 : evC fu tabL (k + 11) 89 [.rol (ns.map .int), .int 0] (S ++ [.lst [.int 0, .int 1]]) = .ok (.ref n) S1 := e1
    have e3 : evC fu tabL (k + 11) 89 [.rol (ns.map .int), .int 1] S2 = .ok (.ref n') S3 := e3
    generalize ns.map D.int = xs at *
    clear h h63 hF
    refine ⟨S4 ++ [.lst [.bl true, .bl true]], ?_⟩
    unfold tr_1061
    walk_at "cw"
end
theorem plain_law (ns : List Int) (h : ns.length ≤ 63) (hb : ∀ z ∈ ns, Builtin.Int.intBits z ≤ 1048576) : ∃ fu S, evC fu tabL 12 1061 [.rol (ns.map .int)] [] = .ok (.bl true) S :=
  ⟨2 ^ 9000, law_ok (fu := 2 ^ 9000) 0 ns h (Nat.le_refl _) []⟩

end Cw
namespace Cw
open PySem PySem.Spec PyProof.Rows L2

def topS (i : Nat) : Stmt := PySem.Challenge.pw_crewclocks_k09_whole_flights_with_a_wish.main.body.getD i (.Pass ⟨0, 0, 0, 0⟩)
theorem sc_1061 : FnScope ["script", "place"] ["script"] (defScope (topS 84)) := ⟨rfl, rfl, rfl, by decide +kernel, rfl, by decide +kernel, by decide +kernel⟩
theorem tie_1061 : ckTs TbL tr_1061 ⟨["script", "place"], defScope (topS 84), fun _ => true⟩ (defBody (topS 84)) = true := by kernel_rfl
theorem def_1061 {K : PySem.W.Frag} {mg : Str → Option Value} {f : Addr} {fd : FuncData} (F : Fun K "law" "law" (topS 84) f fd) (h : mg "law" = some (.ref f)) : DefOk K mg tabL TbL "law" 1061 [⟨1, [], none⟩] :=
  ⟨"law", "law", topS 84, f, fd, ["script", "place"], ["script"], fd_1061, rfl, F, sc_1061, rfl, tie_1061, h, (shl_cons (fun_shape F fun _ _ _ _ _ _ us ws hu hw => match us, hu, ws, hw with | [_], _, [], _ => ⟨rfl, rfl⟩) shl_nil)⟩
theorem sc_1 : FnScope ["script", "most"] ["script", "most"] (defScope (topS 58)) := ⟨rfl, rfl, rfl, by decide +kernel, rfl, by decide +kernel, by decide +kernel⟩
theorem tie_1 : ckTs TbL tr_1 ⟨["script", "most"], defScope (topS 58), fun _ => true⟩ (defBody (topS 58)) = true := by kernel_rfl
theorem def_1 {K : PySem.W.Frag} {mg : Str → Option Value} {f : Addr} {fd : FuncData} (F : Fun K "_law_cells" "_law_cells" (topS 58) f fd) (h : mg "_law_cells" = some (.ref f)) : DefOk K mg tabL TbL "_law_cells" 1 [⟨2, [], none⟩] :=
  ⟨"_law_cells", "_law_cells", topS 58, f, fd, ["script", "most"], ["script", "most"], fd_1, rfl, F, sc_1, rfl, tie_1, h, (shl_cons (fun_shape F fun _ _ _ _ _ _ us ws hu hw => match us, hu, ws, hw with | [_, _], _, [], _ => ⟨rfl, rfl⟩) shl_nil)⟩
theorem sc_88 : FnScope ["pot", "lap", "square", "one", "other", "most", "more", "least"] ["pot"] (defScope (topS 83)) := ⟨rfl, rfl, rfl, by decide +kernel, rfl, by decide +kernel, by decide +kernel⟩
theorem tie_88 : ckTs TbL tr_88 ⟨["pot", "lap", "square", "one", "other", "most", "more", "least"], defScope (topS 83), fun _ => true⟩ (defBody (topS 83)) = true := by kernel_rfl
theorem def_88 {K : PySem.W.Frag} {mg : Str → Option Value} {f : Addr} {fd : FuncData} (F : Fun K "_law_right" "_law_right" (topS 83) f fd) (h : mg "_law_right" = some (.ref f)) : DefOk K mg tabL TbL "_law_right" 88 [⟨1, [], none⟩] :=
  ⟨"_law_right", "_law_right", topS 83, f, fd, ["pot", "lap", "square", "one", "other", "most", "more", "least"], ["pot"], fd_88, rfl, F, sc_88, rfl, tie_88, h, (shl_cons (fun_shape F fun _ _ _ _ _ _ us ws hu hw => match us, hu, ws, hw with | [_], _, [], _ => ⟨rfl, rfl⟩) shl_nil)⟩
theorem sc_89 : FnScope ["script", "place", "cell", "own", "small"] ["script", "place"] (defScope (topS 55)) := ⟨rfl, rfl, rfl, by decide +kernel, rfl, by decide +kernel, by decide +kernel⟩
theorem tie_89 : ckTs TbL tr_89 ⟨["script", "place", "cell", "own", "small"], defScope (topS 55), fun _ => true⟩ (defBody (topS 55)) = true := by kernel_rfl
theorem def_89 {K : PySem.W.Frag} {mg : Str → Option Value} {f : Addr} {fd : FuncData} (F : Fun K "_law_pot" "_law_pot" (topS 55) f fd) (h : mg "_law_pot" = some (.ref f)) : DefOk K mg tabL TbL "_law_pot" 89 [⟨2, [], none⟩] :=
  ⟨"_law_pot", "_law_pot", topS 55, f, fd, ["script", "place", "cell", "own", "small"], ["script", "place"], fd_89, rfl, F, sc_89, rfl, tie_89, h, (shl_cons (fun_shape F fun _ _ _ _ _ _ us ws hu hw => match us, hu, ws, hw with | [_, _], _, [], _ => ⟨rfl, rfl⟩) shl_nil)⟩
theorem sc_90 : FnScope ["one", "other", "most", "own", "least", "square", "told", "piece"] ["one", "other", "most", "own", "least", "square"] (defScope (topS 82)) := ⟨rfl, rfl, rfl, by decide +kernel, rfl, by decide +kernel, by decide +kernel⟩
theorem tie_90 : ckTs TbL tr_90 ⟨["one", "other", "most", "own", "least", "square", "told", "piece"], defScope (topS 82), fun _ => true⟩ (defBody (topS 82)) = true := by kernel_rfl
theorem def_90 {K : PySem.W.Frag} {mg : Str → Option Value} {f : Addr} {fd : FuncData} (F : Fun K "_law_is_wish_right" "_law_is_wish_right" (topS 82) f fd) (h : mg "_law_is_wish_right" = some (.ref f)) : DefOk K mg tabL TbL "_law_is_wish_right" 90 [⟨6, [], none⟩] :=
  ⟨"_law_is_wish_right", "_law_is_wish_right", topS 82, f, fd, ["one", "other", "most", "own", "least", "square", "told", "piece"], ["one", "other", "most", "own", "least", "square"], fd_90, rfl, F, sc_90, rfl, tie_90, h, (shl_cons (fun_shape F fun _ _ _ _ _ _ us ws hu hw => match us, hu, ws, hw with | [_, _, _, _, _, _], _, [], _ => ⟨rfl, rfl⟩) shl_nil)⟩
theorem sc_91 : FnScope ["pot", "least", "square", "some"] ["pot", "least", "square"] (defScope (topS 81)) := ⟨rfl, rfl, rfl, by decide +kernel, rfl, by decide +kernel, by decide +kernel⟩
theorem tie_91 : ckTs TbL tr_91 ⟨["pot", "least", "square", "some"], defScope (topS 81), fun _ => true⟩ (defBody (topS 81)) = true := by kernel_rfl
theorem def_91 {K : PySem.W.Frag} {mg : Str → Option Value} {f : Addr} {fd : FuncData} (F : Fun K "_law_wished" "_law_wished" (topS 81) f fd) (h : mg "_law_wished" = some (.ref f)) : DefOk K mg tabL TbL "_law_wished" 91 [⟨3, [], none⟩] :=
  ⟨"_law_wished", "_law_wished", topS 81, f, fd, ["pot", "least", "square", "some"], ["pot", "least", "square"], fd_91, rfl, F, sc_91, rfl, tie_91, h, (shl_cons (fun_shape F fun _ _ _ _ _ _ us ws hu hw => match us, hu, ws, hw with | [_, _, _], _, [], _ => ⟨rfl, rfl⟩) shl_nil)⟩
theorem sc_5 : FnScope ["one", "other"] ["one", "other"] (defScope (topS 63)) := ⟨rfl, rfl, rfl, by decide +kernel, rfl, by decide +kernel, by decide +kernel⟩
theorem tie_5 : ckTs TbL tr_5 ⟨["one", "other"], defScope (topS 63), fun _ => true⟩ (defBody (topS 63)) = true := by kernel_rfl
theorem def_5 {K : PySem.W.Frag} {mg : Str → Option Value} {f : Addr} {fd : FuncData} (F : Fun K "_law_frac_times" "_law_frac_times" (topS 63) f fd) (h : mg "_law_frac_times" = some (.ref f)) : DefOk K mg tabL TbL "_law_frac_times" 5 [⟨2, [], none⟩] :=
  ⟨"_law_frac_times", "_law_frac_times", topS 63, f, fd, ["one", "other"], ["one", "other"], fd_5, rfl, F, sc_5, rfl, tie_5, h, (shl_cons (fun_shape F fun _ _ _ _ _ _ us ws hu hw => match us, hu, ws, hw with | [_, _], _, [], _ => ⟨rfl, rfl⟩) shl_nil)⟩
theorem sc_92 : FnScope ["one", "other", "most", "u", "v"] ["one", "other", "most"] (defScope (topS 79)) := ⟨rfl, rfl, rfl, by decide +kernel, rfl, by decide +kernel, by decide +kernel⟩
theorem tie_92 : ckTs TbL tr_92 ⟨["one", "other", "most", "u", "v"], defScope (topS 79), fun _ => true⟩ (defBody (topS 79)) = true := by kernel_rfl
theorem def_92 {K : PySem.W.Frag} {mg : Str → Option Value} {f : Addr} {fd : FuncData} (F : Fun K "_law_within_least" "_law_within_least" (topS 79) f fd) (h : mg "_law_within_least" = some (.ref f)) : DefOk K mg tabL TbL "_law_within_least" 92 [⟨3, [], none⟩] :=
  ⟨"_law_within_least", "_law_within_least", topS 79, f, fd, ["one", "other", "most", "u", "v"], ["one", "other", "most"], fd_92, rfl, F, sc_92, rfl, tie_92, h, (shl_cons (fun_shape F fun _ _ _ _ _ _ us ws hu hw => match us, hu, ws, hw with | [_, _, _], _, [], _ => ⟨rfl, rfl⟩) shl_nil)⟩
theorem sc_8 : FnScope ["one", "other", "here", "later"] ["one", "other"] (defScope (topS 73)) := ⟨rfl, rfl, rfl, by decide +kernel, rfl, by decide +kernel, by decide +kernel⟩
theorem tie_8 : ckTs TbL tr_8 ⟨["one", "other", "here", "later"], defScope (topS 73), fun _ => true⟩ (defBody (topS 73)) = true := by kernel_rfl
theorem def_8 {K : PySem.W.Frag} {mg : Str → Option Value} {f : Addr} {fd : FuncData} (F : Fun K "_law_event_more" "_law_event_more" (topS 73) f fd) (h : mg "_law_event_more" = some (.ref f)) : DefOk K mg tabL TbL "_law_event_more" 8 [⟨2, [], none⟩] :=
  ⟨"_law_event_more", "_law_event_more", topS 73, f, fd, ["one", "other", "here", "later"], ["one", "other"], fd_8, rfl, F, sc_8, rfl, tie_8, h, (shl_cons (fun_shape F fun _ _ _ _ _ _ us ws hu hw => match us, hu, ws, hw with | [_, _], _, [], _ => ⟨rfl, rfl⟩) shl_nil)⟩
theorem sc_79 : FnScope ["one", "other", "most", "square", "u", "v"] ["one", "other", "most"] (defScope (topS 77)) := ⟨rfl, rfl, rfl, by decide +kernel, rfl, by decide +kernel, by decide +kernel⟩
theorem tie_79 : ckTs TbL tr_79 ⟨["one", "other", "most", "square", "u", "v"], defScope (topS 77), fun _ => true⟩ (defBody (topS 77)) = true := by kernel_rfl
theorem def_79 {K : PySem.W.Frag} {mg : Str → Option Value} {f : Addr} {fd : FuncData} (F : Fun K "_law_within_word" "_law_within_word" (topS 77) f fd) (h : mg "_law_within_word" = some (.ref f)) : DefOk K mg tabL TbL "_law_within_word" 79 [⟨3, [], none⟩] :=
  ⟨"_law_within_word", "_law_within_word", topS 77, f, fd, ["one", "other", "most", "square", "u", "v"], ["one", "other", "most"], fd_79, rfl, F, sc_79, rfl, tie_79, h, (shl_cons (fun_shape F fun _ _ _ _ _ _ us ws hu hw => match us, hu, ws, hw with | [_, _, _], _, [], _ => ⟨rfl, rfl⟩) shl_nil)⟩
theorem sc_76 : FnScope ["pot", "way", "other", "lap", "one", "most"] ["pot"] (defScope (topS 75)) := ⟨rfl, rfl, rfl, by decide +kernel, rfl, by decide +kernel, by decide +kernel⟩
theorem tie_76 : ckTs TbL tr_76 ⟨["pot", "way", "other", "lap", "one", "most"], defScope (topS 75), fun _ => true⟩ (defBody (topS 75)) = true := by kernel_rfl
theorem def_76 {K : PySem.W.Frag} {mg : Str → Option Value} {f : Addr} {fd : FuncData} (F : Fun K "_law_within_ends" "_law_within_ends" (topS 75) f fd) (h : mg "_law_within_ends" = some (.ref f)) : DefOk K mg tabL TbL "_law_within_ends" 76 [⟨1, [], none⟩] :=
  ⟨"_law_within_ends", "_law_within_ends", topS 75, f, fd, ["pot", "way", "other", "lap", "one", "most"], ["pot"], fd_76, rfl, F, sc_76, rfl, tie_76, h, (shl_cons (fun_shape F fun _ _ _ _ _ _ us ws hu hw => match us, hu, ws, hw with | [_], _, [], _ => ⟨rfl, rfl⟩) shl_nil)⟩
theorem sc_93 : FnScope ["some", "found", "one"] ["some"] (defScope (topS 66)) := ⟨rfl, rfl, rfl, by decide +kernel, rfl, by decide +kernel, by decide +kernel⟩
theorem tie_93 : ckTs TbL tr_93 ⟨["some", "found", "one"], defScope (topS 66), fun _ => true⟩ (defBody (topS 66)) = true := by kernel_rfl
theorem def_93 {K : PySem.W.Frag} {mg : Str → Option Value} {f : Addr} {fd : FuncData} (F : Fun K "_law_frac_sum" "_law_frac_sum" (topS 66) f fd) (h : mg "_law_frac_sum" = some (.ref f)) : DefOk K mg tabL TbL "_law_frac_sum" 93 [⟨1, [], none⟩] :=
  ⟨"_law_frac_sum", "_law_frac_sum", topS 66, f, fd, ["some", "found", "one"], ["some"], fd_93, rfl, F, sc_93, rfl, tie_93, h, (shl_cons (fun_shape F fun _ _ _ _ _ _ us ws hu hw => match us, hu, ws, hw with | [_], _, [], _ => ⟨rfl, rfl⟩) shl_nil)⟩
theorem sc_94 : FnScope ["one", "other", "most", "pieces", "piece", "back", "event", "part"] ["one", "other", "most", "pieces"] (defScope (topS 78)) := ⟨rfl, rfl, rfl, by decide +kernel, rfl, by decide +kernel, by decide +kernel⟩
theorem tie_94 : ckTs TbL tr_94 ⟨["one", "other", "most", "pieces", "piece", "back", "event", "part"], defScope (topS 78), fun _ => true⟩ (defBody (topS 78)) = true := by kernel_rfl
theorem def_94 {K : PySem.W.Frag} {mg : Str → Option Value} {f : Addr} {fd : FuncData} (F : Fun K "_law_within_leads" "_law_within_leads" (topS 78) f fd) (h : mg "_law_within_leads" = some (.ref f)) : DefOk K mg tabL TbL "_law_within_leads" 94 [⟨4, [], none⟩] :=
  ⟨"_law_within_leads", "_law_within_leads", topS 78, f, fd, ["one", "other", "most", "pieces", "piece", "back", "event", "part"], ["one", "other", "most", "pieces"], fd_94, rfl, F, sc_94, rfl, tie_94, h, (shl_cons (fun_shape F fun _ _ _ _ _ _ us ws hu hw => match us, hu, ws, hw with | [_, _, _, _], _, [], _ => ⟨rfl, rfl⟩) shl_nil)⟩
theorem sc_77 : FnScope ["told", "due", "is_fit", "one", "other"] ["told", "due"] (defScope (topS 74)) := ⟨rfl, rfl, rfl, by decide +kernel, rfl, by decide +kernel, by decide +kernel⟩
theorem tie_77 : ckTs TbL tr_77 ⟨["told", "due", "is_fit", "one", "other"], defScope (topS 74), fun _ => true⟩ (defBody (topS 74)) = true := by kernel_rfl
theorem def_77 {K : PySem.W.Frag} {mg : Str → Option Value} {f : Addr} {fd : FuncData} (F : Fun K "_law_is" "_law_is" (topS 74) f fd) (h : mg "_law_is" = some (.ref f)) : DefOk K mg tabL TbL "_law_is" 77 [⟨2, [], none⟩] :=
  ⟨"_law_is", "_law_is", topS 74, f, fd, ["told", "due", "is_fit", "one", "other"], ["told", "due"], fd_77, rfl, F, sc_77, rfl, tie_77, h, (shl_cons (fun_shape F fun _ _ _ _ _ _ us ws hu hw => match us, hu, ws, hw with | [_, _], _, [], _ => ⟨rfl, rfl⟩) shl_nil)⟩
theorem sc_51 : FnScope ["one", "other"] ["one", "other"] (defScope (topS 65)) := ⟨rfl, rfl, rfl, by decide +kernel, rfl, by decide +kernel, by decide +kernel⟩
theorem tie_51 : ckTs TbL tr_51 ⟨["one", "other"], defScope (topS 65), fun _ => true⟩ (defBody (topS 65)) = true := by kernel_rfl
theorem def_51 {K : PySem.W.Frag} {mg : Str → Option Value} {f : Addr} {fd : FuncData} (F : Fun K "_law_frac_is_less" "_law_frac_is_less" (topS 65) f fd) (h : mg "_law_frac_is_less" = some (.ref f)) : DefOk K mg tabL TbL "_law_frac_is_less" 51 [⟨2, [], none⟩] :=
  ⟨"_law_frac_is_less", "_law_frac_is_less", topS 65, f, fd, ["one", "other"], ["one", "other"], fd_51, rfl, F, sc_51, rfl, tie_51, h, (shl_cons (fun_shape F fun _ _ _ _ _ _ us ws hu hw => match us, hu, ws, hw with | [_, _], _, [], _ => ⟨rfl, rfl⟩) shl_nil)⟩
theorem sc_95 : FnScope ["one", "other", "most", "own", "value", "told", "total", "pace", "time"] ["one", "other", "most", "own", "value"] (defScope (topS 53)) := ⟨rfl, rfl, rfl, by decide +kernel, rfl, by decide +kernel, by decide +kernel⟩
theorem tie_95 : ckTs TbL tr_95 ⟨["one", "other", "most", "own", "value", "told", "total", "pace", "time"], defScope (topS 53), fun _ => true⟩ (defBody (topS 53)) = true := by kernel_rfl
theorem def_95 {K : PySem.W.Frag} {mg : Str → Option Value} {f : Addr} {fd : FuncData} (F : Fun K "shows_own_flight" "shows_own_flight" (topS 53) f fd) (h : mg "shows_own_flight" = some (.ref f)) : DefOk K mg tabL TbL "shows_own_flight" 95 [⟨5, [], none⟩] :=
  ⟨"shows_own_flight", "shows_own_flight", topS 53, f, fd, ["one", "other", "most", "own", "value", "told", "total", "pace", "time"], ["one", "other", "most", "own", "value"], fd_95, rfl, F, sc_95, rfl, tie_95, h, (shl_cons (fun_shape F fun _ _ _ _ _ _ us ws hu hw => match us, hu, ws, hw with | [_, _, _, _, _], _, [], _ => ⟨rfl, rfl⟩) shl_nil)⟩
theorem sc_96 : FnScope ["one", "other", "most", "own", "low", "square", "along", "across"] ["one", "other", "most", "own"] (defScope (topS 48)) := ⟨rfl, rfl, rfl, by decide +kernel, rfl, by decide +kernel, by decide +kernel⟩
theorem tie_96 : ckTs TbL tr_96 ⟨["one", "other", "most", "own", "low", "square", "along", "across"], defScope (topS 48), fun _ => true⟩ (defBody (topS 48)) = true := by kernel_rfl
theorem def_96 {K : PySem.W.Frag} {mg : Str → Option Value} {f : Addr} {fd : FuncData} (F : Fun K "own_flight" "own_flight" (topS 48) f fd) (h : mg "own_flight" = some (.ref f)) : DefOk K mg tabL TbL "own_flight" 96 [⟨4, [], none⟩] :=
  ⟨"own_flight", "own_flight", topS 48, f, fd, ["one", "other", "most", "own", "low", "square", "along", "across"], ["one", "other", "most", "own"], fd_96, rfl, F, sc_96, rfl, tie_96, h, (shl_cons (fun_shape F fun _ _ _ _ _ _ us ws hu hw => match us, hu, ws, hw with | [_, _, _, _], _, [], _ => ⟨rfl, rfl⟩) shl_nil)⟩
theorem sc_24 : FnScope ["pot", "some"] ["pot", "some"] (defScope (topS 57)) := ⟨rfl, rfl, rfl, by decide +kernel, rfl, by decide +kernel, by decide +kernel⟩
theorem tie_24 : ckTs TbL tr_24 ⟨["pot", "some"], defScope (topS 57), fun _ => true⟩ (defBody (topS 57)) = true := by kernel_rfl
theorem def_24 {K : PySem.W.Frag} {mg : Str → Option Value} {f : Addr} {fd : FuncData} (F : Fun K "_law_of" "_law_of" (topS 57) f fd) (h : mg "_law_of" = some (.ref f)) : DefOk K mg tabL TbL "_law_of" 24 [⟨2, [], none⟩] :=
  ⟨"_law_of", "_law_of", topS 57, f, fd, ["pot", "some"], ["pot", "some"], fd_24, rfl, F, sc_24, rfl, tie_24, h, (shl_cons (fun_shape F fun _ _ _ _ _ _ us ws hu hw => match us, hu, ws, hw with | [_, _], _, [], _ => ⟨rfl, rfl⟩) shl_nil)⟩
theorem sc_26 : FnScope ["one", "other"] ["one", "other"] (defScope (topS 61)) := ⟨rfl, rfl, rfl, by decide +kernel, rfl, by decide +kernel, by decide +kernel⟩
theorem tie_26 : ckTs TbL tr_26 ⟨["one", "other"], defScope (topS 61), fun _ => true⟩ (defBody (topS 61)) = true := by kernel_rfl
theorem def_26 {K : PySem.W.Frag} {mg : Str → Option Value} {f : Addr} {fd : FuncData} (F : Fun K "_law_frac_plus" "_law_frac_plus" (topS 61) f fd) (h : mg "_law_frac_plus" = some (.ref f)) : DefOk K mg tabL TbL "_law_frac_plus" 26 [⟨2, [], none⟩] :=
  ⟨"_law_frac_plus", "_law_frac_plus", topS 61, f, fd, ["one", "other"], ["one", "other"], fd_26, rfl, F, sc_26, rfl, tie_26, h, (shl_cons (fun_shape F fun _ _ _ _ _ _ us ws hu hw => match us, hu, ws, hw with | [_, _], _, [], _ => ⟨rfl, rfl⟩) shl_nil)⟩
theorem sc_37 : FnScope ["one", "other"] ["one", "other"] (defScope (topS 64)) := ⟨rfl, rfl, rfl, by decide +kernel, rfl, by decide +kernel, by decide +kernel⟩
theorem tie_37 : ckTs TbL tr_37 ⟨["one", "other"], defScope (topS 64), fun _ => true⟩ (defBody (topS 64)) = true := by kernel_rfl
theorem def_37 {K : PySem.W.Frag} {mg : Str → Option Value} {f : Addr} {fd : FuncData} (F : Fun K "_law_frac_over" "_law_frac_over" (topS 64) f fd) (h : mg "_law_frac_over" = some (.ref f)) : DefOk K mg tabL TbL "_law_frac_over" 37 [⟨2, [], none⟩] :=
  ⟨"_law_frac_over", "_law_frac_over", topS 64, f, fd, ["one", "other"], ["one", "other"], fd_37, rfl, F, sc_37, rfl, tie_37, h, (shl_cons (fun_shape F fun _ _ _ _ _ _ us ws hu hw => match us, hu, ws, hw with | [_, _], _, [], _ => ⟨rfl, rfl⟩) shl_nil)⟩
theorem sc_17 : FnScope ["top", "bottom", "by"] ["top", "bottom"] (defScope (topS 60)) := ⟨rfl, rfl, rfl, by decide +kernel, rfl, by decide +kernel, by decide +kernel⟩
theorem tie_17 : ckTs TbL tr_17 ⟨["top", "bottom", "by"], defScope (topS 60), fun _ => true⟩ (defBody (topS 60)) = true := by kernel_rfl
theorem def_17 {K : PySem.W.Frag} {mg : Str → Option Value} {f : Addr} {fd : FuncData} (F : Fun K "_law_frac" "_law_frac" (topS 60) f fd) (h : mg "_law_frac" = some (.ref f)) : DefOk K mg tabL TbL "_law_frac" 17 [⟨2, [], none⟩] :=
  ⟨"_law_frac", "_law_frac", topS 60, f, fd, ["top", "bottom", "by"], ["top", "bottom"], fd_17, rfl, F, sc_17, rfl, tie_17, h, (shl_cons (fun_shape F fun _ _ _ _ _ _ us ws hu hw => match us, hu, ws, hw with | [_, _], _, [], _ => ⟨rfl, rfl⟩) shl_nil)⟩
theorem sc_97 : FnScope ["number", "low", "high", "middle"] ["number"] (defScope (topS 80)) := ⟨rfl, rfl, rfl, by decide +kernel, rfl, by decide +kernel, by decide +kernel⟩
theorem tie_97 : ckTs TbL tr_97 ⟨["number", "low", "high", "middle"], defScope (topS 80), fun _ => true⟩ (defBody (topS 80)) = true := by kernel_rfl
theorem def_97 {K : PySem.W.Frag} {mg : Str → Option Value} {f : Addr} {fd : FuncData} (F : Fun K "_law_root" "_law_root" (topS 80) f fd) (h : mg "_law_root" = some (.ref f)) : DefOk K mg tabL TbL "_law_root" 97 [⟨1, [], none⟩] :=
  ⟨"_law_root", "_law_root", topS 80, f, fd, ["number", "low", "high", "middle"], ["number"], fd_97, rfl, F, sc_97, rfl, tie_97, h, (shl_cons (fun_shape F fun _ _ _ _ _ _ us ws hu hw => match us, hu, ws, hw with | [_], _, [], _ => ⟨rfl, rfl⟩) shl_nil)⟩
theorem sc_25 : FnScope ["one", "other"] ["one", "other"] (defScope (topS 62)) := ⟨rfl, rfl, rfl, by decide +kernel, rfl, by decide +kernel, by decide +kernel⟩
theorem tie_25 : ckTs TbL tr_25 ⟨["one", "other"], defScope (topS 62), fun _ => true⟩ (defBody (topS 62)) = true := by kernel_rfl
theorem def_25 {K : PySem.W.Frag} {mg : Str → Option Value} {f : Addr} {fd : FuncData} (F : Fun K "_law_frac_less" "_law_frac_less" (topS 62) f fd) (h : mg "_law_frac_less" = some (.ref f)) : DefOk K mg tabL TbL "_law_frac_less" 25 [⟨2, [], none⟩] :=
  ⟨"_law_frac_less", "_law_frac_less", topS 62, f, fd, ["one", "other"], ["one", "other"], fd_25, rfl, F, sc_25, rfl, tie_25, h, (shl_cons (fun_shape F fun _ _ _ _ _ _ us ws hu hw => match us, hu, ws, hw with | [_, _], _, [], _ => ⟨rfl, rfl⟩) shl_nil)⟩
theorem sc_23 : FnScope ["pot", "upto", "prime", "blend", "digit"] ["pot", "upto"] (defScope (topS 56)) := ⟨rfl, rfl, rfl, by decide +kernel, rfl, by decide +kernel, by decide +kernel⟩
theorem tie_23 : ckTs TbL tr_23 ⟨["pot", "upto", "prime", "blend", "digit"], defScope (topS 56), fun _ => true⟩ (defBody (topS 56)) = true := by kernel_rfl
theorem def_23 {K : PySem.W.Frag} {mg : Str → Option Value} {f : Addr} {fd : FuncData} (F : Fun K "_law_take" "_law_take" (topS 56) f fd) (h : mg "_law_take" = some (.ref f)) : DefOk K mg tabL TbL "_law_take" 23 [⟨2, [], none⟩] :=
  ⟨"_law_take", "_law_take", topS 56, f, fd, ["pot", "upto", "prime", "blend", "digit"], ["pot", "upto"], fd_23, rfl, F, sc_23, rfl, tie_23, h, (shl_cons (fun_shape F fun _ _ _ _ _ _ us ws hu hw => match us, hu, ws, hw with | [_, _], _, [], _ => ⟨rfl, rfl⟩) shl_nil)⟩
theorem sc_28 : FnScope ["pot"] ["pot"] (defScope (topS 70)) := ⟨rfl, rfl, rfl, by decide +kernel, rfl, by decide +kernel, by decide +kernel⟩
theorem tie_28 : ckTs TbL tr_28 ⟨["pot"], defScope (topS 70), fun _ => true⟩ (defBody (topS 70)) = true := by kernel_rfl
theorem def_28 {K : PySem.W.Frag} {mg : Str → Option Value} {f : Addr} {fd : FuncData} (F : Fun K "_law_frac_time" "_law_frac_time" (topS 70) f fd) (h : mg "_law_frac_time" = some (.ref f)) : DefOk K mg tabL TbL "_law_frac_time" 28 [⟨1, [], none⟩] :=
  ⟨"_law_frac_time", "_law_frac_time", topS 70, f, fd, ["pot"], ["pot"], fd_28, rfl, F, sc_28, rfl, tie_28, h, (shl_cons (fun_shape F fun _ _ _ _ _ _ us ws hu hw => match us, hu, ws, hw with | [_], _, [], _ => ⟨rfl, rfl⟩) shl_nil)⟩
theorem sc_27 : FnScope ["event", "pace", "time", "more"] ["event", "pace", "time"] (defScope (topS 72)) := ⟨rfl, rfl, rfl, by decide +kernel, rfl, by decide +kernel, by decide +kernel⟩
theorem tie_27 : ckTs TbL tr_27 ⟨["event", "pace", "time", "more"], defScope (topS 72), fun _ => true⟩ (defBody (topS 72)) = true := by kernel_rfl
theorem def_27 {K : PySem.W.Frag} {mg : Str → Option Value} {f : Addr} {fd : FuncData} (F : Fun K "_law_event_gone" "_law_event_gone" (topS 72) f fd) (h : mg "_law_event_gone" = some (.ref f)) : DefOk K mg tabL TbL "_law_event_gone" 27 [⟨3, [], none⟩] :=
  ⟨"_law_event_gone", "_law_event_gone", topS 72, f, fd, ["event", "pace", "time", "more"], ["event", "pace", "time"], fd_27, rfl, F, sc_27, rfl, tie_27, h, (shl_cons (fun_shape F fun _ _ _ _ _ _ us ws hu hw => match us, hu, ws, hw with | [_, _, _], _, [], _ => ⟨rfl, rfl⟩) shl_nil)⟩
theorem sc_80 : FnScope ["pot", "most", "back", "some", "bound"] ["pot", "most"] (defScope (topS 76)) := ⟨rfl, rfl, rfl, by decide +kernel, rfl, by decide +kernel, by decide +kernel⟩
theorem tie_80 : ckTs TbL tr_80 ⟨["pot", "most", "back", "some", "bound"], defScope (topS 76), fun _ => true⟩ (defBody (topS 76)) = true := by kernel_rfl
theorem def_80 {K : PySem.W.Frag} {mg : Str → Option Value} {f : Addr} {fd : FuncData} (F : Fun K "_law_within_pace" "_law_within_pace" (topS 76) f fd) (h : mg "_law_within_pace" = some (.ref f)) : DefOk K mg tabL TbL "_law_within_pace" 80 [⟨2, [], none⟩] :=
  ⟨"_law_within_pace", "_law_within_pace", topS 76, f, fd, ["pot", "most", "back", "some", "bound"], ["pot", "most"], fd_80, rfl, F, sc_80, rfl, tie_80, h, (shl_cons (fun_shape F fun _ _ _ _ _ _ us ws hu hw => match us, hu, ws, hw with | [_, _], _, [], _ => ⟨rfl, rfl⟩) shl_nil)⟩
theorem sc_12 : FnScope ["pot"] ["pot"] (defScope (topS 71)) := ⟨rfl, rfl, rfl, by decide +kernel, rfl, by decide +kernel, by decide +kernel⟩
theorem tie_12 : ckTs TbL tr_12 ⟨["pot"], defScope (topS 71), fun _ => true⟩ (defBody (topS 71)) = true := by kernel_rfl
theorem def_12 {K : PySem.W.Frag} {mg : Str → Option Value} {f : Addr} {fd : FuncData} (F : Fun K "_law_event_drawn" "_law_event_drawn" (topS 71) f fd) (h : mg "_law_event_drawn" = some (.ref f)) : DefOk K mg tabL TbL "_law_event_drawn" 12 [⟨1, [], none⟩] :=
  ⟨"_law_event_drawn", "_law_event_drawn", topS 71, f, fd, ["pot"], ["pot"], fd_12, rfl, F, sc_12, rfl, tie_12, h, (shl_cons (fun_shape F fun _ _ _ _ _ _ us ws hu hw => match us, hu, ws, hw with | [_], _, [], _ => ⟨rfl, rfl⟩) shl_nil)⟩
theorem sc_60 : FnScope ["value"] ["value"] (defScope (topS 68)) := ⟨rfl, rfl, rfl, by decide +kernel, rfl, by decide +kernel, by decide +kernel⟩
theorem tie_60 : ckTs TbL tr_60 ⟨["value"], defScope (topS 68), fun _ => true⟩ (defBody (topS 68)) = true := by kernel_rfl
theorem def_60 {K : PySem.W.Frag} {mg : Str → Option Value} {f : Addr} {fd : FuncData} (F : Fun K "_law_frac_is_pace" "_law_frac_is_pace" (topS 68) f fd) (h : mg "_law_frac_is_pace" = some (.ref f)) : DefOk K mg tabL TbL "_law_frac_is_pace" 60 [⟨1, [], none⟩] :=
  ⟨"_law_frac_is_pace", "_law_frac_is_pace", topS 68, f, fd, ["value"], ["value"], fd_60, rfl, F, sc_60, rfl, tie_60, h, (shl_cons (fun_shape F fun _ _ _ _ _ _ us ws hu hw => match us, hu, ws, hw with | [_], _, [], _ => ⟨rfl, rfl⟩) shl_nil)⟩
theorem sc_36 : FnScope ["one", "other"] ["one", "other"] (defScope (topS 5)) := ⟨rfl, rfl, rfl, by decide +kernel, rfl, by decide +kernel, by decide +kernel⟩
theorem tie_36 : ckTs TbL tr_36 ⟨["one", "other"], defScope (topS 5), fun _ => true⟩ (defBody (topS 5)) = true := by kernel_rfl
theorem def_36 {K : PySem.W.Frag} {mg : Str → Option Value} {f : Addr} {fd : FuncData} (F : Fun K "plus" "plus" (topS 5) f fd) (h : mg "plus" = some (.ref f)) : DefOk K mg tabL TbL "plus" 36 [⟨2, [], none⟩] :=
  ⟨"plus", "plus", topS 5, f, fd, ["one", "other"], ["one", "other"], fd_36, rfl, F, sc_36, rfl, tie_36, h, (shl_cons (fun_shape F fun _ _ _ _ _ _ us ws hu hw => match us, hu, ws, hw with | [_, _], _, [], _ => ⟨rfl, rfl⟩) shl_nil)⟩
theorem sc_98 : FnScope ["one", "other", "most", "value"] ["one", "other", "most", "value"] (defScope (topS 52)) := ⟨rfl, rfl, rfl, by decide +kernel, rfl, by decide +kernel, by decide +kernel⟩
theorem tie_98 : ckTs TbL tr_98 ⟨["one", "other", "most", "value"], defScope (topS 52), fun _ => true⟩ (defBody (topS 52)) = true := by kernel_rfl
theorem def_98 {K : PySem.W.Frag} {mg : Str → Option Value} {f : Addr} {fd : FuncData} (F : Fun K "is_plan" "is_plan" (topS 52) f fd) (h : mg "is_plan" = some (.ref f)) : DefOk K mg tabL TbL "is_plan" 98 [⟨4, [], none⟩] :=
  ⟨"is_plan", "is_plan", topS 52, f, fd, ["one", "other", "most", "value"], ["one", "other", "most", "value"], fd_98, rfl, F, sc_98, rfl, tie_98, h, (shl_cons (fun_shape F fun _ _ _ _ _ _ us ws hu hw => match us, hu, ws, hw with | [_, _, _, _], _, [], _ => ⟨rfl, rfl⟩) shl_nil)⟩
theorem sc_99 : FnScope ["value", "told", "part", "due", "is_fit"] ["value", "told"] (defScope (topS 49)) := ⟨rfl, rfl, rfl, by decide +kernel, rfl, by decide +kernel, by decide +kernel⟩
theorem tie_99 : ckTs TbL tr_99 ⟨["value", "told", "part", "due", "is_fit"], defScope (topS 49), fun _ => true⟩ (defBody (topS 49)) = true := by kernel_rfl
theorem def_99 {K : PySem.W.Frag} {mg : Str → Option Value} {f : Addr} {fd : FuncData} (F : Fun K "is_just" "is_just" (topS 49) f fd) (h : mg "is_just" = some (.ref f)) : DefOk K mg tabL TbL "is_just" 99 [⟨2, [], none⟩] :=
  ⟨"is_just", "is_just", topS 49, f, fd, ["value", "told", "part", "due", "is_fit"], ["value", "told"], fd_99, rfl, F, sc_99, rfl, tie_99, h, (shl_cons (fun_shape F fun _ _ _ _ _ _ us ws hu hw => match us, hu, ws, hw with | [_, _], _, [], _ => ⟨rfl, rfl⟩) shl_nil)⟩
theorem sc_100 : FnScope ["along", "across", "most", "own", "excess", "by", "bottom", "first", "rest", "pace"] ["along", "across", "most", "own"] (defScope (topS 47)) := ⟨rfl, rfl, rfl, by decide +kernel, rfl, by decide +kernel, by decide +kernel⟩
theorem tie_100 : ckTs TbL tr_100 ⟨["along", "across", "most", "own", "excess", "by", "bottom", "first", "rest", "pace"], defScope (topS 47), fun _ => true⟩ (defBody (topS 47)) = true := by kernel_rfl
theorem def_100 {K : PySem.W.Frag} {mg : Str → Option Value} {f : Addr} {fd : FuncData} (F : Fun K "lasting" "lasting" (topS 47) f fd) (h : mg "lasting" = some (.ref f)) : DefOk K mg tabL TbL "lasting" 100 [⟨4, [], none⟩] :=
  ⟨"lasting", "lasting", topS 47, f, fd, ["along", "across", "most", "own", "excess", "by", "bottom", "first", "rest", "pace"], ["along", "across", "most", "own"], fd_100, rfl, F, sc_100, rfl, tie_100, h, (shl_cons (fun_shape F fun _ _ _ _ _ _ us ws hu hw => match us, hu, ws, hw with | [_, _, _, _], _, [], _ => ⟨rfl, rfl⟩) shl_nil)⟩
theorem sc_84 : FnScope ["one", "other"] ["one", "other"] (defScope (topS 10)) := ⟨rfl, rfl, rfl, by decide +kernel, rfl, by decide +kernel, by decide +kernel⟩
theorem tie_84 : ckTs TbL tr_84 ⟨["one", "other"], defScope (topS 10), fun _ => true⟩ (defBody (topS 10)) = true := by kernel_rfl
theorem def_84 {K : PySem.W.Frag} {mg : Str → Option Value} {f : Addr} {fd : FuncData} (F : Fun K "is_below" "is_below" (topS 10) f fd) (h : mg "is_below" = some (.ref f)) : DefOk K mg tabL TbL "is_below" 84 [⟨2, [], none⟩] :=
  ⟨"is_below", "is_below", topS 10, f, fd, ["one", "other"], ["one", "other"], fd_84, rfl, F, sc_84, rfl, tie_84, h, (shl_cons (fun_shape F fun _ _ _ _ _ _ us ws hu hw => match us, hu, ws, hw with | [_, _], _, [], _ => ⟨rfl, rfl⟩) shl_nil)⟩
theorem sc_13 : FnScope ["one", "other"] ["one", "other"] (defScope (topS 7)) := ⟨rfl, rfl, rfl, by decide +kernel, rfl, by decide +kernel, by decide +kernel⟩
theorem tie_13 : ckTs TbL tr_13 ⟨["one", "other"], defScope (topS 7), fun _ => true⟩ (defBody (topS 7)) = true := by kernel_rfl
theorem def_13 {K : PySem.W.Frag} {mg : Str → Option Value} {f : Addr} {fd : FuncData} (F : Fun K "times" "times" (topS 7) f fd) (h : mg "times" = some (.ref f)) : DefOk K mg tabL TbL "times" 13 [⟨2, [], none⟩] :=
  ⟨"times", "times", topS 7, f, fd, ["one", "other"], ["one", "other"], fd_13, rfl, F, sc_13, rfl, tie_13, h, (shl_cons (fun_shape F fun _ _ _ _ _ _ us ws hu hw => match us, hu, ws, hw with | [_, _], _, [], _ => ⟨rfl, rfl⟩) shl_nil)⟩
theorem sc_14 : FnScope ["one", "other", "here", "far"] ["one", "other"] (defScope (topS 27)) := ⟨rfl, rfl, rfl, by decide +kernel, rfl, by decide +kernel, by decide +kernel⟩
theorem tie_14 : ckTs TbL tr_14 ⟨["one", "other", "here", "far"], defScope (topS 27), fun _ => true⟩ (defBody (topS 27)) = true := by kernel_rfl
theorem def_14 {K : PySem.W.Frag} {mg : Str → Option Value} {f : Addr} {fd : FuncData} (F : Fun K "more_in" "more_in" (topS 27) f fd) (h : mg "more_in" = some (.ref f)) : DefOk K mg tabL TbL "more_in" 14 [⟨2, [], none⟩] :=
  ⟨"more_in", "more_in", topS 27, f, fd, ["one", "other", "here", "far"], ["one", "other"], fd_14, rfl, F, sc_14, rfl, tie_14, h, (shl_cons (fun_shape F fun _ _ _ _ _ _ us ws hu hw => match us, hu, ws, hw with | [_, _], _, [], _ => ⟨rfl, rfl⟩) shl_nil)⟩
theorem sc_101 : FnScope ["one", "other", "most", "told", "along", "across"] ["one", "other", "most"] (defScope (topS 46)) := ⟨rfl, rfl, rfl, by decide +kernel, rfl, by decide +kernel, by decide +kernel⟩
theorem tie_101 : ckTs TbL tr_101 ⟨["one", "other", "most", "told", "along", "across"], defScope (topS 46), fun _ => true⟩ (defBody (topS 46)) = true := by kernel_rfl
theorem def_101 {K : PySem.W.Frag} {mg : Str → Option Value} {f : Addr} {fd : FuncData} (F : Fun K "least_own" "least_own" (topS 46) f fd) (h : mg "least_own" = some (.ref f)) : DefOk K mg tabL TbL "least_own" 101 [⟨3, [], none⟩] :=
  ⟨"least_own", "least_own", topS 46, f, fd, ["one", "other", "most", "told", "along", "across"], ["one", "other", "most"], fd_101, rfl, F, sc_101, rfl, tie_101, h, (shl_cons (fun_shape F fun _ _ _ _ _ _ us ws hu hw => match us, hu, ws, hw with | [_, _, _], _, [], _ => ⟨rfl, rfl⟩) shl_nil)⟩
theorem sc_102 : FnScope ["value"] ["value"] (defScope (topS 40)) := ⟨rfl, rfl, rfl, by decide +kernel, rfl, by decide +kernel, by decide +kernel⟩
theorem tie_102 : ckTs TbL tr_102 ⟨["value"], defScope (topS 40), fun _ => true⟩ (defBody (topS 40)) = true := by kernel_rfl
theorem def_102 {K : PySem.W.Frag} {mg : Str → Option Value} {f : Addr} {fd : FuncData} (F : Fun K "check_own_time" "check_own_time" (topS 40) f fd) (h : mg "check_own_time" = some (.ref f)) : DefOk K mg tabL TbL "check_own_time" 102 [⟨1, [], none⟩] :=
  ⟨"check_own_time", "check_own_time", topS 40, f, fd, ["value"], ["value"], fd_102, rfl, F, sc_102, rfl, tie_102, h, (shl_cons (fun_shape F fun _ _ _ _ _ _ us ws hu hw => match us, hu, ws, hw with | [_], _, [], _ => ⟨rfl, rfl⟩) shl_nil)⟩
theorem sc_82 : FnScope ["one", "other", "most"] ["one", "other", "most"] (defScope (topS 41)) := ⟨rfl, rfl, rfl, by decide +kernel, rfl, by decide +kernel, by decide +kernel⟩
theorem tie_82 : ckTs TbL tr_82 ⟨["one", "other", "most"], defScope (topS 41), fun _ => true⟩ (defBody (topS 41)) = true := by kernel_rfl
theorem def_82 {K : PySem.W.Frag} {mg : Str → Option Value} {f : Addr} {fd : FuncData} (F : Fun K "check_ends" "check_ends" (topS 41) f fd) (h : mg "check_ends" = some (.ref f)) : DefOk K mg tabL TbL "check_ends" 82 [⟨3, [], none⟩] :=
  ⟨"check_ends", "check_ends", topS 41, f, fd, ["one", "other", "most"], ["one", "other", "most"], fd_82, rfl, F, sc_82, rfl, tie_82, h, (shl_cons (fun_shape F fun _ _ _ _ _ _ us ws hu hw => match us, hu, ws, hw with | [_, _, _], _, [], _ => ⟨rfl, rfl⟩) shl_nil)⟩
theorem sc_33 : FnScope ["one", "other"] ["one", "other"] (defScope (topS 59)) := ⟨rfl, rfl, rfl, by decide +kernel, rfl, by decide +kernel, by decide +kernel⟩
theorem tie_33 : ckTs TbL tr_33 ⟨["one", "other"], defScope (topS 59), fun _ => true⟩ (defBody (topS 59)) = true := by kernel_rfl
theorem def_33 {K : PySem.W.Frag} {mg : Str → Option Value} {f : Addr} {fd : FuncData} (F : Fun K "_law_frac_common" "_law_frac_common" (topS 59) f fd) (h : mg "_law_frac_common" = some (.ref f)) : DefOk K mg tabL TbL "_law_frac_common" 33 [⟨2, [], none⟩] :=
  ⟨"_law_frac_common", "_law_frac_common", topS 59, f, fd, ["one", "other"], ["one", "other"], fd_33, rfl, F, sc_33, rfl, tie_33, h, (shl_cons (fun_shape F fun _ _ _ _ _ _ us ws hu hw => match us, hu, ws, hw with | [_, _], _, [], _ => ⟨rfl, rfl⟩) shl_nil)⟩
theorem sc_29 : FnScope ["pot", "low", "high", "bottom"] ["pot", "low", "high"] (defScope (topS 69)) := ⟨rfl, rfl, rfl, by decide +kernel, rfl, by decide +kernel, by decide +kernel⟩
theorem tie_29 : ckTs TbL tr_29 ⟨["pot", "low", "high", "bottom"], defScope (topS 69), fun _ => true⟩ (defBody (topS 69)) = true := by kernel_rfl
theorem def_29 {K : PySem.W.Frag} {mg : Str → Option Value} {f : Addr} {fd : FuncData} (F : Fun K "_law_frac_drawn" "_law_frac_drawn" (topS 69) f fd) (h : mg "_law_frac_drawn" = some (.ref f)) : DefOk K mg tabL TbL "_law_frac_drawn" 29 [⟨3, [], none⟩] :=
  ⟨"_law_frac_drawn", "_law_frac_drawn", topS 69, f, fd, ["pot", "low", "high", "bottom"], ["pot", "low", "high"], fd_29, rfl, F, sc_29, rfl, tie_29, h, (shl_cons (fun_shape F fun _ _ _ _ _ _ us ws hu hw => match us, hu, ws, hw with | [_, _, _], _, [], _ => ⟨rfl, rfl⟩) shl_nil)⟩
theorem sc_63 : FnScope ["value", "one"] ["value"] (defScope (topS 67)) := ⟨rfl, rfl, rfl, by decide +kernel, rfl, by decide +kernel, by decide +kernel⟩
theorem tie_63 : ckTs TbL tr_63 ⟨["value", "one"], defScope (topS 67), fun _ => true⟩ (defBody (topS 67)) = true := by kernel_rfl
theorem def_63 {K : PySem.W.Frag} {mg : Str → Option Value} {f : Addr} {fd : FuncData} (F : Fun K "_law_frac_is" "_law_frac_is" (topS 67) f fd) (h : mg "_law_frac_is" = some (.ref f)) : DefOk K mg tabL TbL "_law_frac_is" 63 [⟨1, [], none⟩] :=
  ⟨"_law_frac_is", "_law_frac_is", topS 67, f, fd, ["value", "one"], ["value"], fd_63, rfl, F, sc_63, rfl, tie_63, h, (shl_cons (fun_shape F fun _ _ _ _ _ _ us ws hu hw => match us, hu, ws, hw with | [_], _, [], _ => ⟨rfl, rfl⟩) shl_nil)⟩
theorem sc_30 : FnScope ["top", "bottom", "by"] ["top", "bottom"] (defScope (topS 4)) := ⟨rfl, rfl, rfl, by decide +kernel, rfl, by decide +kernel, by decide +kernel⟩
theorem tie_30 : ckTs TbL tr_30 ⟨["top", "bottom", "by"], defScope (topS 4), fun _ => true⟩ (defBody (topS 4)) = true := by kernel_rfl
theorem def_30 {K : PySem.W.Frag} {mg : Str → Option Value} {f : Addr} {fd : FuncData} (F : Fun K "ratio" "ratio" (topS 4) f fd) (h : mg "ratio" = some (.ref f)) : DefOk K mg tabL TbL "ratio" 30 [⟨2, [], none⟩] :=
  ⟨"ratio", "ratio", topS 4, f, fd, ["top", "bottom", "by"], ["top", "bottom"], fd_30, rfl, F, sc_30, rfl, tie_30, h, (shl_cons (fun_shape F fun _ _ _ _ _ _ us ws hu hw => match us, hu, ws, hw with | [_, _], _, [], _ => ⟨rfl, rfl⟩) shl_nil)⟩
theorem sc_103 : FnScope ["event", "pieces", "u", "v", "pace", "time"] ["event", "pieces"] (defScope (topS 42)) := ⟨rfl, rfl, rfl, by decide +kernel, rfl, by decide +kernel, by decide +kernel⟩
theorem tie_103 : ckTs TbL tr_103 ⟨["event", "pieces", "u", "v", "pace", "time"], defScope (topS 42), fun _ => true⟩ (defBody (topS 42)) = true := by kernel_rfl
theorem def_103 {K : PySem.W.Frag} {mg : Str → Option Value} {f : Addr} {fd : FuncData} (F : Fun K "gone" "gone" (topS 42) f fd) (h : mg "gone" = some (.ref f)) : DefOk K mg tabL TbL "gone" 103 [⟨2, [], none⟩] :=
  ⟨"gone", "gone", topS 42, f, fd, ["event", "pieces", "u", "v", "pace", "time"], ["event", "pieces"], fd_103, rfl, F, sc_103, rfl, tie_103, h, (shl_cons (fun_shape F fun _ _ _ _ _ _ us ws hu hw => match us, hu, ws, hw with | [_, _], _, [], _ => ⟨rfl, rfl⟩) shl_nil)⟩
theorem sc_104 : FnScope ["value", "most", "piece", "pace", "time"] ["value", "most"] (defScope (topS 50)) := ⟨rfl, rfl, rfl, by decide +kernel, rfl, by decide +kernel, by decide +kernel⟩
theorem tie_104 : ckTs TbL tr_104 ⟨["value", "most", "piece", "pace", "time"], defScope (topS 50), fun _ => true⟩ (defBody (topS 50)) = true := by kernel_rfl
theorem def_104 {K : PySem.W.Frag} {mg : Str → Option Value} {f : Addr} {fd : FuncData} (F : Fun K "are_pieces" "are_pieces" (topS 50) f fd) (h : mg "are_pieces" = some (.ref f)) : DefOk K mg tabL TbL "are_pieces" 104 [⟨2, [], none⟩] :=
  ⟨"are_pieces", "are_pieces", topS 50, f, fd, ["value", "most", "piece", "pace", "time"], ["value", "most"], fd_104, rfl, F, sc_104, rfl, tie_104, h, (shl_cons (fun_shape F fun _ _ _ _ _ _ us ws hu hw => match us, hu, ws, hw with | [_, _], _, [], _ => ⟨rfl, rfl⟩) shl_nil)⟩
theorem sc_58 : FnScope ["value", "some"] ["value", "some"] (defScope (topS 16)) := ⟨rfl, rfl, rfl, by decide +kernel, rfl, by decide +kernel, by decide +kernel⟩
theorem tie_58 : ckTs TbL tr_58 ⟨["value", "some"], defScope (topS 16), fun _ => true⟩ (defBody (topS 16)) = true := by kernel_rfl
theorem def_58 {K : PySem.W.Frag} {mg : Str → Option Value} {f : Addr} {fd : FuncData} (F : Fun K "is_string" "is_string" (topS 16) f fd) (h : mg "is_string" = some (.ref f)) : DefOk K mg tabL TbL "is_string" 58 [⟨2, [], none⟩] :=
  ⟨"is_string", "is_string", topS 16, f, fd, ["value", "some"], ["value", "some"], fd_58, rfl, F, sc_58, rfl, tie_58, h, (shl_cons (fun_shape F fun _ _ _ _ _ _ us ws hu hw => match us, hu, ws, hw with | [_, _], _, [], _ => ⟨rfl, rfl⟩) shl_nil)⟩
theorem sc_40 : FnScope ["value", "low", "high"] ["value", "low", "high"] (defScope (topS 15)) := ⟨rfl, rfl, rfl, by decide +kernel, rfl, by decide +kernel, by decide +kernel⟩
theorem tie_40 : ckTs TbL tr_40 ⟨["value", "low", "high"], defScope (topS 15), fun _ => true⟩ (defBody (topS 15)) = true := by kernel_rfl
theorem def_40 {K : PySem.W.Frag} {mg : Str → Option Value} {f : Addr} {fd : FuncData} (F : Fun K "is_tuple" "is_tuple" (topS 15) f fd) (h : mg "is_tuple" = some (.ref f)) : DefOk K mg tabL TbL "is_tuple" 40 [⟨3, [], none⟩] :=
  ⟨"is_tuple", "is_tuple", topS 15, f, fd, ["value", "low", "high"], ["value", "low", "high"], fd_40, rfl, F, sc_40, rfl, tie_40, h, (shl_cons (fun_shape F fun _ _ _ _ _ _ us ws hu hw => match us, hu, ws, hw with | [_, _, _], _, [], _ => ⟨rfl, rfl⟩) shl_nil)⟩
theorem sc_39 : FnScope ["value", "one"] ["value"] (defScope (topS 11)) := ⟨rfl, rfl, rfl, by decide +kernel, rfl, by decide +kernel, by decide +kernel⟩
theorem tie_39 : ckTs TbL tr_39 ⟨["value", "one"], defScope (topS 11), fun _ => true⟩ (defBody (topS 11)) = true := by kernel_rfl
theorem def_39 {K : PySem.W.Frag} {mg : Str → Option Value} {f : Addr} {fd : FuncData} (F : Fun K "is_ratio" "is_ratio" (topS 11) f fd) (h : mg "is_ratio" = some (.ref f)) : DefOk K mg tabL TbL "is_ratio" 39 [⟨1, [], none⟩] :=
  ⟨"is_ratio", "is_ratio", topS 11, f, fd, ["value", "one"], ["value"], fd_39, rfl, F, sc_39, rfl, tie_39, h, (shl_cons (fun_shape F fun _ _ _ _ _ _ us ws hu hw => match us, hu, ws, hw with | [_], _, [], _ => ⟨rfl, rfl⟩) shl_nil)⟩
theorem sc_86 : FnScope ["pieces", "piece"] ["pieces"] (defScope (topS 43)) := ⟨rfl, rfl, rfl, by decide +kernel, rfl, by decide +kernel, by decide +kernel⟩
theorem tie_86 : ckTs TbL tr_86 ⟨["pieces", "piece"], defScope (topS 43), fun _ => true⟩ (defBody (topS 43)) = true := by kernel_rfl
theorem def_86 {K : PySem.W.Frag} {mg : Str → Option Value} {f : Addr} {fd : FuncData} (F : Fun K "without_nought" "without_nought" (topS 43) f fd) (h : mg "without_nought" = some (.ref f)) : DefOk K mg tabL TbL "without_nought" 86 [⟨1, [], none⟩] :=
  ⟨"without_nought", "without_nought", topS 43, f, fd, ["pieces", "piece"], ["pieces"], fd_86, rfl, F, sc_86, rfl, tie_86, h, (shl_cons (fun_shape F fun _ _ _ _ _ _ us ws hu hw => match us, hu, ws, hw with | [_], _, [], _ => ⟨rfl, rfl⟩) shl_nil)⟩
theorem sc_41 : FnScope ["one", "other"] ["one", "other"] (defScope (topS 8)) := ⟨rfl, rfl, rfl, by decide +kernel, rfl, by decide +kernel, by decide +kernel⟩
theorem tie_41 : ckTs TbL tr_41 ⟨["one", "other"], defScope (topS 8), fun _ => true⟩ (defBody (topS 8)) = true := by kernel_rfl
theorem def_41 {K : PySem.W.Frag} {mg : Str → Option Value} {f : Addr} {fd : FuncData} (F : Fun K "over" "over" (topS 8) f fd) (h : mg "over" = some (.ref f)) : DefOk K mg tabL TbL "over" 41 [⟨2, [], none⟩] :=
  ⟨"over", "over", topS 8, f, fd, ["one", "other"], ["one", "other"], fd_41, rfl, F, sc_41, rfl, tie_41, h, (shl_cons (fun_shape F fun _ _ _ _ _ _ us ws hu hw => match us, hu, ws, hw with | [_, _], _, [], _ => ⟨rfl, rfl⟩) shl_nil)⟩
theorem sc_31 : FnScope ["one", "other"] ["one", "other"] (defScope (topS 6)) := ⟨rfl, rfl, rfl, by decide +kernel, rfl, by decide +kernel, by decide +kernel⟩
theorem tie_31 : ckTs TbL tr_31 ⟨["one", "other"], defScope (topS 6), fun _ => true⟩ (defBody (topS 6)) = true := by kernel_rfl
theorem def_31 {K : PySem.W.Frag} {mg : Str → Option Value} {f : Addr} {fd : FuncData} (F : Fun K "less" "less" (topS 6) f fd) (h : mg "less" = some (.ref f)) : DefOk K mg tabL TbL "less" 31 [⟨2, [], none⟩] :=
  ⟨"less", "less", topS 6, f, fd, ["one", "other"], ["one", "other"], fd_31, rfl, F, sc_31, rfl, tie_31, h, (shl_cons (fun_shape F fun _ _ _ _ _ _ us ws hu hw => match us, hu, ws, hw with | [_, _], _, [], _ => ⟨rfl, rfl⟩) shl_nil)⟩
theorem sc_87 : FnScope ["one"] ["one"] (defScope (topS 9)) := ⟨rfl, rfl, rfl, by decide +kernel, rfl, by decide +kernel, by decide +kernel⟩
theorem tie_87 : ckTs TbL tr_87 ⟨["one"], defScope (topS 9), fun _ => true⟩ (defBody (topS 9)) = true := by kernel_rfl
theorem def_87 {K : PySem.W.Frag} {mg : Str → Option Value} {f : Addr} {fd : FuncData} (F : Fun K "contrary" "contrary" (topS 9) f fd) (h : mg "contrary" = some (.ref f)) : DefOk K mg tabL TbL "contrary" 87 [⟨1, [], none⟩] :=
  ⟨"contrary", "contrary", topS 9, f, fd, ["one"], ["one"], fd_87, rfl, F, sc_87, rfl, tie_87, h, (shl_cons (fun_shape F fun _ _ _ _ _ _ us ws hu hw => match us, hu, ws, hw with | [_], _, [], _ => ⟨rfl, rfl⟩) shl_nil)⟩
theorem sc_81 : FnScope ["one", "other", "most", "square", "along", "across"] ["one", "other", "most"] (defScope (topS 45)) := ⟨rfl, rfl, rfl, by decide +kernel, rfl, by decide +kernel, by decide +kernel⟩
theorem tie_81 : ckTs TbL tr_81 ⟨["one", "other", "most", "square", "along", "across"], defScope (topS 45), fun _ => true⟩ (defBody (topS 45)) = true := by kernel_rfl
theorem def_81 {K : PySem.W.Frag} {mg : Str → Option Value} {f : Addr} {fd : FuncData} (F : Fun K "told_reach" "told_reach" (topS 45) f fd) (h : mg "told_reach" = some (.ref f)) : DefOk K mg tabL TbL "told_reach" 81 [⟨3, [], none⟩] :=
  ⟨"told_reach", "told_reach", topS 45, f, fd, ["one", "other", "most", "square", "along", "across"], ["one", "other", "most"], fd_81, rfl, F, sc_81, rfl, tie_81, h, (shl_cons (fun_shape F fun _ _ _ _ _ _ us ws hu hw => match us, hu, ws, hw with | [_, _, _], _, [], _ => ⟨rfl, rfl⟩) shl_nil)⟩
theorem sc_105 : FnScope ["value"] ["value"] (defScope (topS 13)) := ⟨rfl, rfl, rfl, by decide +kernel, rfl, by decide +kernel, by decide +kernel⟩
theorem tie_105 : ckTs TbL tr_105 ⟨["value"], defScope (topS 13), fun _ => true⟩ (defBody (topS 13)) = true := by kernel_rfl
theorem def_105 {K : PySem.W.Frag} {mg : Str → Option Value} {f : Addr} {fd : FuncData} (F : Fun K "is_time" "is_time" (topS 13) f fd) (h : mg "is_time" = some (.ref f)) : DefOk K mg tabL TbL "is_time" 105 [⟨1, [], none⟩] :=
  ⟨"is_time", "is_time", topS 13, f, fd, ["value"], ["value"], fd_105, rfl, F, sc_105, rfl, tie_105, h, (shl_cons (fun_shape F fun _ _ _ _ _ _ us ws hu hw => match us, hu, ws, hw with | [_], _, [], _ => ⟨rfl, rfl⟩) shl_nil)⟩
theorem sc_85 : FnScope ["value"] ["value"] (defScope (topS 39)) := ⟨rfl, rfl, rfl, by decide +kernel, rfl, by decide +kernel, by decide +kernel⟩
theorem tie_85 : ckTs TbL tr_85 ⟨["value"], defScope (topS 39), fun _ => true⟩ (defBody (topS 39)) = true := by kernel_rfl
theorem def_85 {K : PySem.W.Frag} {mg : Str → Option Value} {f : Addr} {fd : FuncData} (F : Fun K "check_most" "check_most" (topS 39) f fd) (h : mg "check_most" = some (.ref f)) : DefOk K mg tabL TbL "check_most" 85 [⟨1, [], none⟩] :=
  ⟨"check_most", "check_most", topS 39, f, fd, ["value"], ["value"], fd_85, rfl, F, sc_85, rfl, tie_85, h, (shl_cons (fun_shape F fun _ _ _ _ _ _ us ws hu hw => match us, hu, ws, hw with | [_], _, [], _ => ⟨rfl, rfl⟩) shl_nil)⟩
theorem sc_16 : FnScope ["value"] ["value"] (defScope (topS 26)) := ⟨rfl, rfl, rfl, by decide +kernel, rfl, by decide +kernel, by decide +kernel⟩
theorem tie_16 : ckTs TbL tr_16 ⟨["value"], defScope (topS 26), fun _ => true⟩ (defBody (topS 26)) = true := by kernel_rfl
theorem def_16 {K : PySem.W.Frag} {mg : Str → Option Value} {f : Addr} {fd : FuncData} (F : Fun K "check_event" "check_event" (topS 26) f fd) (h : mg "check_event" = some (.ref f)) : DefOk K mg tabL TbL "check_event" 16 [⟨1, [], none⟩] :=
  ⟨"check_event", "check_event", topS 26, f, fd, ["value"], ["value"], fd_16, rfl, F, sc_16, rfl, tie_16, h, (shl_cons (fun_shape F fun _ _ _ _ _ _ us ws hu hw => match us, hu, ws, hw with | [_], _, [], _ => ⟨rfl, rfl⟩) shl_nil)⟩
theorem sc_38 : FnScope ["one", "other"] ["one", "other"] (defScope (topS 3)) := ⟨rfl, rfl, rfl, by decide +kernel, rfl, by decide +kernel, by decide +kernel⟩
theorem tie_38 : ckTs TbL tr_38 ⟨["one", "other"], defScope (topS 3), fun _ => true⟩ (defBody (topS 3)) = true := by kernel_rfl
theorem def_38 {K : PySem.W.Frag} {mg : Str → Option Value} {f : Addr} {fd : FuncData} (F : Fun K "common" "common" (topS 3) f fd) (h : mg "common" = some (.ref f)) : DefOk K mg tabL TbL "common" 38 [⟨2, [], none⟩] :=
  ⟨"common", "common", topS 3, f, fd, ["one", "other"], ["one", "other"], fd_38, rfl, F, sc_38, rfl, tie_38, h, (shl_cons (fun_shape F fun _ _ _ _ _ _ us ws hu hw => match us, hu, ws, hw with | [_, _], _, [], _ => ⟨rfl, rfl⟩) shl_nil)⟩
theorem sc_106 : FnScope ["pace", "most"] ["pace", "most"] (defScope (topS 51)) := ⟨rfl, rfl, rfl, by decide +kernel, rfl, by decide +kernel, by decide +kernel⟩
theorem tie_106 : ckTs TbL tr_106 ⟨["pace", "most"], defScope (topS 51), fun _ => true⟩ (defBody (topS 51)) = true := by kernel_rfl
theorem def_106 {K : PySem.W.Frag} {mg : Str → Option Value} {f : Addr} {fd : FuncData} (F : Fun K "is_pace_within" "is_pace_within" (topS 51) f fd) (h : mg "is_pace_within" = some (.ref f)) : DefOk K mg tabL TbL "is_pace_within" 106 [⟨2, [], none⟩] :=
  ⟨"is_pace_within", "is_pace_within", topS 51, f, fd, ["pace", "most"], ["pace", "most"], fd_106, rfl, F, sc_106, rfl, tie_106, h, (shl_cons (fun_shape F fun _ _ _ _ _ _ us ws hu hw => match us, hu, ws, hw with | [_, _], _, [], _ => ⟨rfl, rfl⟩) shl_nil)⟩
theorem sc_42 : FnScope ["value"] ["value"] (defScope (topS 12)) := ⟨rfl, rfl, rfl, by decide +kernel, rfl, by decide +kernel, by decide +kernel⟩
theorem tie_42 : ckTs TbL tr_42 ⟨["value"], defScope (topS 12), fun _ => true⟩ (defBody (topS 12)) = true := by kernel_rfl
theorem def_42 {K : PySem.W.Frag} {mg : Str → Option Value} {f : Addr} {fd : FuncData} (F : Fun K "is_factor" "is_factor" (topS 12) f fd) (h : mg "is_factor" = some (.ref f)) : DefOk K mg tabL TbL "is_factor" 42 [⟨1, [], none⟩] :=
  ⟨"is_factor", "is_factor", topS 12, f, fd, ["value"], ["value"], fd_42, rfl, F, sc_42, rfl, tie_42, h, (shl_cons (fun_shape F fun _ _ _ _ _ _ us ws hu hw => match us, hu, ws, hw with | [_], _, [], _ => ⟨rfl, rfl⟩) shl_nil)⟩
theorem sc_43 : FnScope ["value"] ["value"] (defScope (topS 2)) := ⟨rfl, rfl, rfl, by decide +kernel, rfl, by decide +kernel, by decide +kernel⟩
theorem tie_43 : ckTs TbL tr_43 ⟨["value"], defScope (topS 2), fun _ => true⟩ (defBody (topS 2)) = true := by kernel_rfl
theorem def_43 {K : PySem.W.Frag} {mg : Str → Option Value} {f : Addr} {fd : FuncData} (F : Fun K "is_whole" "is_whole" (topS 2) f fd) (h : mg "is_whole" = some (.ref f)) : DefOk K mg tabL TbL "is_whole" 43 [⟨1, [], none⟩] :=
  ⟨"is_whole", "is_whole", topS 2, f, fd, ["value"], ["value"], fd_43, rfl, F, sc_43, rfl, tie_43, h, (shl_cons (fun_shape F fun _ _ _ _ _ _ us ws hu hw => match us, hu, ws, hw with | [_], _, [], _ => ⟨rfl, rfl⟩) shl_nil)⟩
theorem sc_83 : FnScope ["along", "across", "most", "square", "bottom", "first", "second"] ["along", "across", "most"] (defScope (topS 44)) := ⟨rfl, rfl, rfl, by decide +kernel, rfl, by decide +kernel, by decide +kernel⟩
theorem tie_83 : ckTs TbL tr_83 ⟨["along", "across", "most", "square", "bottom", "first", "second"], defScope (topS 44), fun _ => true⟩ (defBody (topS 44)) = true := by kernel_rfl
theorem def_83 {K : PySem.W.Frag} {mg : Str → Option Value} {f : Addr} {fd : FuncData} (F : Fun K "quickest" "quickest" (topS 44) f fd) (h : mg "quickest" = some (.ref f)) : DefOk K mg tabL TbL "quickest" 83 [⟨3, [], none⟩] :=
  ⟨"quickest", "quickest", topS 44, f, fd, ["along", "across", "most", "square", "bottom", "first", "second"], ["along", "across", "most"], fd_83, rfl, F, sc_83, rfl, tie_83, h, (shl_cons (fun_shape F fun _ _ _ _ _ _ us ws hu hw => match us, hu, ws, hw with | [_, _, _], _, [], _ => ⟨rfl, rfl⟩) shl_nil)⟩
theorem sc_32 : FnScope ["value"] ["value"] (defScope (topS 25)) := ⟨rfl, rfl, rfl, by decide +kernel, rfl, by decide +kernel, by decide +kernel⟩
theorem tie_32 : ckTs TbL tr_32 ⟨["value"], defScope (topS 25), fun _ => true⟩ (defBody (topS 25)) = true := by kernel_rfl
theorem def_32 {K : PySem.W.Frag} {mg : Str → Option Value} {f : Addr} {fd : FuncData} (F : Fun K "is_event" "is_event" (topS 25) f fd) (h : mg "is_event" = some (.ref f)) : DefOk K mg tabL TbL "is_event" 32 [⟨1, [], none⟩] :=
  ⟨"is_event", "is_event", topS 25, f, fd, ["value"], ["value"], fd_32, rfl, F, sc_32, rfl, tie_32, h, (shl_cons (fun_shape F fun _ _ _ _ _ _ us ws hu hw => match us, hu, ws, hw with | [_], _, [], _ => ⟨rfl, rfl⟩) shl_nil)⟩
theorem bl_nil {mg : Str → Option Value} : ∀ x ∈ ([] : List Str), mg x = none := fun _ h => nomatch h
theorem bl_cons {mg : Str → Option Value} {a : Str} {r : List Str} (h1 : mg a = none) (h2 : ∀ x ∈ r, mg x = none) : ∀ x ∈ a :: r, mg x = none := fun x h => (List.mem_cons.mp h).elim (fun e => e ▸ h1) (h2 x)
theorem relv_int (i : Int) (t : Tok) : RelV (.int i) (.int i t) := ⟨_, rfl⟩
theorem relv_str (i : Str) (t : Tok) : RelV (.str i) (.str i t) := ⟨_, rfl⟩
theorem all_mk {K : PySem.W.Frag} {h : Heap} {mg : Str → Option Value} (X : K.In h) (G : h.Ns mainGlobals mg)
    {od1061 an1061 : Option Addr} {sl1061 : Array (Option Value)} {oc1061 kV1061 dc1061 pm1061 cd1061 ct1061 : Value} {f1061 : Addr}
    (a1061 : PySem.W.nsIn K mainGlobals "law" = some (some (.ref f1061))) (l1061 : K.lookup f1061 = some ⟨oc1061, od1061, .func (PySem.W.fnOf "law" "law" (defArgs (topS 84)) (defBody (topS 84)) (defScope (topS 84)) .none kV1061 dc1061 pm1061 an1061 cd1061 ct1061), sl1061⟩) (c1061 : PySem.W.codeIn K cd1061 "law" = true) (k1061 : PySem.W.keepIn K (.ref f1061) = true)
    {od1 an1 : Option Addr} {sl1 : Array (Option Value)} {oc1 kV1 dc1 pm1 cd1 ct1 : Value} {f1 : Addr}
    (a1 : PySem.W.nsIn K mainGlobals "_law_cells" = some (some (.ref f1))) (l1 : K.lookup f1 = some ⟨oc1, od1, .func (PySem.W.fnOf "_law_cells" "_law_cells" (defArgs (topS 58)) (defBody (topS 58)) (defScope (topS 58)) .none kV1 dc1 pm1 an1 cd1 ct1), sl1⟩) (c1 : PySem.W.codeIn K cd1 "_law_cells" = true) (k1 : PySem.W.keepIn K (.ref f1) = true)
    {od88 an88 : Option Addr} {sl88 : Array (Option Value)} {oc88 kV88 dc88 pm88 cd88 ct88 : Value} {f88 : Addr}
    (a88 : PySem.W.nsIn K mainGlobals "_law_right" = some (some (.ref f88))) (l88 : K.lookup f88 = some ⟨oc88, od88, .func (PySem.W.fnOf "_law_right" "_law_right" (defArgs (topS 83)) (defBody (topS 83)) (defScope (topS 83)) .none kV88 dc88 pm88 an88 cd88 ct88), sl88⟩) (c88 : PySem.W.codeIn K cd88 "_law_right" = true) (k88 : PySem.W.keepIn K (.ref f88) = true)
    {od89 an89 : Option Addr} {sl89 : Array (Option Value)} {oc89 kV89 dc89 pm89 cd89 ct89 : Value} {f89 : Addr}
    (a89 : PySem.W.nsIn K mainGlobals "_law_pot" = some (some (.ref f89))) (l89 : K.lookup f89 = some ⟨oc89, od89, .func (PySem.W.fnOf "_law_pot" "_law_pot" (defArgs (topS 55)) (defBody (topS 55)) (defScope (topS 55)) .none kV89 dc89 pm89 an89 cd89 ct89), sl89⟩) (c89 : PySem.W.codeIn K cd89 "_law_pot" = true) (k89 : PySem.W.keepIn K (.ref f89) = true)
    {od90 an90 : Option Addr} {sl90 : Array (Option Value)} {oc90 kV90 dc90 pm90 cd90 ct90 : Value} {f90 : Addr}
    (a90 : PySem.W.nsIn K mainGlobals "_law_is_wish_right" = some (some (.ref f90))) (l90 : K.lookup f90 = some ⟨oc90, od90, .func (PySem.W.fnOf "_law_is_wish_right" "_law_is_wish_right" (defArgs (topS 82)) (defBody (topS 82)) (defScope (topS 82)) .none kV90 dc90 pm90 an90 cd90 ct90), sl90⟩) (c90 : PySem.W.codeIn K cd90 "_law_is_wish_right" = true) (k90 : PySem.W.keepIn K (.ref f90) = true)
    {od91 an91 : Option Addr} {sl91 : Array (Option Value)} {oc91 kV91 dc91 pm91 cd91 ct91 : Value} {f91 : Addr}
    (a91 : PySem.W.nsIn K mainGlobals "_law_wished" = some (some (.ref f91))) (l91 : K.lookup f91 = some ⟨oc91, od91, .func (PySem.W.fnOf "_law_wished" "_law_wished" (defArgs (topS 81)) (defBody (topS 81)) (defScope (topS 81)) .none kV91 dc91 pm91 an91 cd91 ct91), sl91⟩) (c91 : PySem.W.codeIn K cd91 "_law_wished" = true) (k91 : PySem.W.keepIn K (.ref f91) = true)
    {od5 an5 : Option Addr} {sl5 : Array (Option Value)} {oc5 kV5 dc5 pm5 cd5 ct5 : Value} {f5 : Addr}
    (a5 : PySem.W.nsIn K mainGlobals "_law_frac_times" = some (some (.ref f5))) (l5 : K.lookup f5 = some ⟨oc5, od5, .func (PySem.W.fnOf "_law_frac_times" "_law_frac_times" (defArgs (topS 63)) (defBody (topS 63)) (defScope (topS 63)) .none kV5 dc5 pm5 an5 cd5 ct5), sl5⟩) (c5 : PySem.W.codeIn K cd5 "_law_frac_times" = true) (k5 : PySem.W.keepIn K (.ref f5) = true)
    {od92 an92 : Option Addr} {sl92 : Array (Option Value)} {oc92 kV92 dc92 pm92 cd92 ct92 : Value} {f92 : Addr}
    (a92 : PySem.W.nsIn K mainGlobals "_law_within_least" = some (some (.ref f92))) (l92 : K.lookup f92 = some ⟨oc92, od92, .func (PySem.W.fnOf "_law_within_least" "_law_within_least" (defArgs (topS 79)) (defBody (topS 79)) (defScope (topS 79)) .none kV92 dc92 pm92 an92 cd92 ct92), sl92⟩) (c92 : PySem.W.codeIn K cd92 "_law_within_least" = true) (k92 : PySem.W.keepIn K (.ref f92) = true)
    {od8 an8 : Option Addr} {sl8 : Array (Option Value)} {oc8 kV8 dc8 pm8 cd8 ct8 : Value} {f8 : Addr}
    (a8 : PySem.W.nsIn K mainGlobals "_law_event_more" = some (some (.ref f8))) (l8 : K.lookup f8 = some ⟨oc8, od8, .func (PySem.W.fnOf "_law_event_more" "_law_event_more" (defArgs (topS 73)) (defBody (topS 73)) (defScope (topS 73)) .none kV8 dc8 pm8 an8 cd8 ct8), sl8⟩) (c8 : PySem.W.codeIn K cd8 "_law_event_more" = true) (k8 : PySem.W.keepIn K (.ref f8) = true)
    {od79 an79 : Option Addr} {sl79 : Array (Option Value)} {oc79 kV79 dc79 pm79 cd79 ct79 : Value} {f79 : Addr}
    (a79 : PySem.W.nsIn K mainGlobals "_law_within_word" = some (some (.ref f79))) (l79 : K.lookup f79 = some ⟨oc79, od79, .func (PySem.W.fnOf "_law_within_word" "_law_within_word" (defArgs (topS 77)) (defBody (topS 77)) (defScope (topS 77)) .none kV79 dc79 pm79 an79 cd79 ct79), sl79⟩) (c79 : PySem.W.codeIn K cd79 "_law_within_word" = true) (k79 : PySem.W.keepIn K (.ref f79) = true)
    {od76 an76 : Option Addr} {sl76 : Array (Option Value)} {oc76 kV76 dc76 pm76 cd76 ct76 : Value} {f76 : Addr}
    (a76 : PySem.W.nsIn K mainGlobals "_law_within_ends" = some (some (.ref f76))) (l76 : K.lookup f76 = some ⟨oc76, od76, .func (PySem.W.fnOf "_law_within_ends" "_law_within_ends" (defArgs (topS 75)) (defBody (topS 75)) (defScope (topS 75)) .none kV76 dc76 pm76 an76 cd76 ct76), sl76⟩) (c76 : PySem.W.codeIn K cd76 "_law_within_ends" = true) (k76 : PySem.W.keepIn K (.ref f76) = true)
    {od93 an93 : Option Addr} {sl93 : Array (Option Value)} {oc93 kV93 dc93 pm93 cd93 ct93 : Value} {f93 : Addr}
    (a93 : PySem.W.nsIn K mainGlobals "_law_frac_sum" = some (some (.ref f93))) (l93 : K.lookup f93 = some ⟨oc93, od93, .func (PySem.W.fnOf "_law_frac_sum" "_law_frac_sum" (defArgs (topS 66)) (defBody (topS 66)) (defScope (topS 66)) .none kV93 dc93 pm93 an93 cd93 ct93), sl93⟩) (c93 : PySem.W.codeIn K cd93 "_law_frac_sum" = true) (k93 : PySem.W.keepIn K (.ref f93) = true)
    {od94 an94 : Option Addr} {sl94 : Array (Option Value)} {oc94 kV94 dc94 pm94 cd94 ct94 : Value} {f94 : Addr}
    (a94 : PySem.W.nsIn K mainGlobals "_law_within_leads" = some (some (.ref f94))) (l94 : K.lookup f94 = some ⟨oc94, od94, .func (PySem.W.fnOf "_law_within_leads" "_law_within_leads" (defArgs (topS 78)) (defBody (topS 78)) (defScope (topS 78)) .none kV94 dc94 pm94 an94 cd94 ct94), sl94⟩) (c94 : PySem.W.codeIn K cd94 "_law_within_leads" = true) (k94 : PySem.W.keepIn K (.ref f94) = true)
    {od77 an77 : Option Addr} {sl77 : Array (Option Value)} {oc77 kV77 dc77 pm77 cd77 ct77 : Value} {f77 : Addr}
    (a77 : PySem.W.nsIn K mainGlobals "_law_is" = some (some (.ref f77))) (l77 : K.lookup f77 = some ⟨oc77, od77, .func (PySem.W.fnOf "_law_is" "_law_is" (defArgs (topS 74)) (defBody (topS 74)) (defScope (topS 74)) .none kV77 dc77 pm77 an77 cd77 ct77), sl77⟩) (c77 : PySem.W.codeIn K cd77 "_law_is" = true) (k77 : PySem.W.keepIn K (.ref f77) = true)
    {od51 an51 : Option Addr} {sl51 : Array (Option Value)} {oc51 kV51 dc51 pm51 cd51 ct51 : Value} {f51 : Addr}
    (a51 : PySem.W.nsIn K mainGlobals "_law_frac_is_less" = some (some (.ref f51))) (l51 : K.lookup f51 = some ⟨oc51, od51, .func (PySem.W.fnOf "_law_frac_is_less" "_law_frac_is_less" (defArgs (topS 65)) (defBody (topS 65)) (defScope (topS 65)) .none kV51 dc51 pm51 an51 cd51 ct51), sl51⟩) (c51 : PySem.W.codeIn K cd51 "_law_frac_is_less" = true) (k51 : PySem.W.keepIn K (.ref f51) = true)
    {od95 an95 : Option Addr} {sl95 : Array (Option Value)} {oc95 kV95 dc95 pm95 cd95 ct95 : Value} {f95 : Addr}
    (a95 : PySem.W.nsIn K mainGlobals "shows_own_flight" = some (some (.ref f95))) (l95 : K.lookup f95 = some ⟨oc95, od95, .func (PySem.W.fnOf "shows_own_flight" "shows_own_flight" (defArgs (topS 53)) (defBody (topS 53)) (defScope (topS 53)) .none kV95 dc95 pm95 an95 cd95 ct95), sl95⟩) (c95 : PySem.W.codeIn K cd95 "shows_own_flight" = true) (k95 : PySem.W.keepIn K (.ref f95) = true)
    {od96 an96 : Option Addr} {sl96 : Array (Option Value)} {oc96 kV96 dc96 pm96 cd96 ct96 : Value} {f96 : Addr}
    (a96 : PySem.W.nsIn K mainGlobals "own_flight" = some (some (.ref f96))) (l96 : K.lookup f96 = some ⟨oc96, od96, .func (PySem.W.fnOf "own_flight" "own_flight" (defArgs (topS 48)) (defBody (topS 48)) (defScope (topS 48)) .none kV96 dc96 pm96 an96 cd96 ct96), sl96⟩) (c96 : PySem.W.codeIn K cd96 "own_flight" = true) (k96 : PySem.W.keepIn K (.ref f96) = true)
    {od24 an24 : Option Addr} {sl24 : Array (Option Value)} {oc24 kV24 dc24 pm24 cd24 ct24 : Value} {f24 : Addr}
    (a24 : PySem.W.nsIn K mainGlobals "_law_of" = some (some (.ref f24))) (l24 : K.lookup f24 = some ⟨oc24, od24, .func (PySem.W.fnOf "_law_of" "_law_of" (defArgs (topS 57)) (defBody (topS 57)) (defScope (topS 57)) .none kV24 dc24 pm24 an24 cd24 ct24), sl24⟩) (c24 : PySem.W.codeIn K cd24 "_law_of" = true) (k24 : PySem.W.keepIn K (.ref f24) = true)
    {od26 an26 : Option Addr} {sl26 : Array (Option Value)} {oc26 kV26 dc26 pm26 cd26 ct26 : Value} {f26 : Addr}
    (a26 : PySem.W.nsIn K mainGlobals "_law_frac_plus" = some (some (.ref f26))) (l26 : K.lookup f26 = some ⟨oc26, od26, .func (PySem.W.fnOf "_law_frac_plus" "_law_frac_plus" (defArgs (topS 61)) (defBody (topS 61)) (defScope (topS 61)) .none kV26 dc26 pm26 an26 cd26 ct26), sl26⟩) (c26 : PySem.W.codeIn K cd26 "_law_frac_plus" = true) (k26 : PySem.W.keepIn K (.ref f26) = true)
    {od37 an37 : Option Addr} {sl37 : Array (Option Value)} {oc37 kV37 dc37 pm37 cd37 ct37 : Value} {f37 : Addr}
    (a37 : PySem.W.nsIn K mainGlobals "_law_frac_over" = some (some (.ref f37))) (l37 : K.lookup f37 = some ⟨oc37, od37, .func (PySem.W.fnOf "_law_frac_over" "_law_frac_over" (defArgs (topS 64)) (defBody (topS 64)) (defScope (topS 64)) .none kV37 dc37 pm37 an37 cd37 ct37), sl37⟩) (c37 : PySem.W.codeIn K cd37 "_law_frac_over" = true) (k37 : PySem.W.keepIn K (.ref f37) = true)
    {od17 an17 : Option Addr} {sl17 : Array (Option Value)} {oc17 kV17 dc17 pm17 cd17 ct17 : Value} {f17 : Addr}
    (a17 : PySem.W.nsIn K mainGlobals "_law_frac" = some (some (.ref f17))) (l17 : K.lookup f17 = some ⟨oc17, od17, .func (PySem.W.fnOf "_law_frac" "_law_frac" (defArgs (topS 60)) (defBody (topS 60)) (defScope (topS 60)) .none kV17 dc17 pm17 an17 cd17 ct17), sl17⟩) (c17 : PySem.W.codeIn K cd17 "_law_frac" = true) (k17 : PySem.W.keepIn K (.ref f17) = true)
    {od97 an97 : Option Addr} {sl97 : Array (Option Value)} {oc97 kV97 dc97 pm97 cd97 ct97 : Value} {f97 : Addr}
    (a97 : PySem.W.nsIn K mainGlobals "_law_root" = some (some (.ref f97))) (l97 : K.lookup f97 = some ⟨oc97, od97, .func (PySem.W.fnOf "_law_root" "_law_root" (defArgs (topS 80)) (defBody (topS 80)) (defScope (topS 80)) .none kV97 dc97 pm97 an97 cd97 ct97), sl97⟩) (c97 : PySem.W.codeIn K cd97 "_law_root" = true) (k97 : PySem.W.keepIn K (.ref f97) = true)
    {od25 an25 : Option Addr} {sl25 : Array (Option Value)} {oc25 kV25 dc25 pm25 cd25 ct25 : Value} {f25 : Addr}
    (a25 : PySem.W.nsIn K mainGlobals "_law_frac_less" = some (some (.ref f25))) (l25 : K.lookup f25 = some ⟨oc25, od25, .func (PySem.W.fnOf "_law_frac_less" "_law_frac_less" (defArgs (topS 62)) (defBody (topS 62)) (defScope (topS 62)) .none kV25 dc25 pm25 an25 cd25 ct25), sl25⟩) (c25 : PySem.W.codeIn K cd25 "_law_frac_less" = true) (k25 : PySem.W.keepIn K (.ref f25) = true)
    {od23 an23 : Option Addr} {sl23 : Array (Option Value)} {oc23 kV23 dc23 pm23 cd23 ct23 : Value} {f23 : Addr}
    (a23 : PySem.W.nsIn K mainGlobals "_law_take" = some (some (.ref f23))) (l23 : K.lookup f23 = some ⟨oc23, od23, .func (PySem.W.fnOf "_law_take" "_law_take" (defArgs (topS 56)) (defBody (topS 56)) (defScope (topS 56)) .none kV23 dc23 pm23 an23 cd23 ct23), sl23⟩) (c23 : PySem.W.codeIn K cd23 "_law_take" = true) (k23 : PySem.W.keepIn K (.ref f23) = true)
    {od28 an28 : Option Addr} {sl28 : Array (Option Value)} {oc28 kV28 dc28 pm28 cd28 ct28 : Value} {f28 : Addr}
    (a28 : PySem.W.nsIn K mainGlobals "_law_frac_time" = some (some (.ref f28))) (l28 : K.lookup f28 = some ⟨oc28, od28, .func (PySem.W.fnOf "_law_frac_time" "_law_frac_time" (defArgs (topS 70)) (defBody (topS 70)) (defScope (topS 70)) .none kV28 dc28 pm28 an28 cd28 ct28), sl28⟩) (c28 : PySem.W.codeIn K cd28 "_law_frac_time" = true) (k28 : PySem.W.keepIn K (.ref f28) = true)
    {od27 an27 : Option Addr} {sl27 : Array (Option Value)} {oc27 kV27 dc27 pm27 cd27 ct27 : Value} {f27 : Addr}
    (a27 : PySem.W.nsIn K mainGlobals "_law_event_gone" = some (some (.ref f27))) (l27 : K.lookup f27 = some ⟨oc27, od27, .func (PySem.W.fnOf "_law_event_gone" "_law_event_gone" (defArgs (topS 72)) (defBody (topS 72)) (defScope (topS 72)) .none kV27 dc27 pm27 an27 cd27 ct27), sl27⟩) (c27 : PySem.W.codeIn K cd27 "_law_event_gone" = true) (k27 : PySem.W.keepIn K (.ref f27) = true)
    {od80 an80 : Option Addr} {sl80 : Array (Option Value)} {oc80 kV80 dc80 pm80 cd80 ct80 : Value} {f80 : Addr}
    (a80 : PySem.W.nsIn K mainGlobals "_law_within_pace" = some (some (.ref f80))) (l80 : K.lookup f80 = some ⟨oc80, od80, .func (PySem.W.fnOf "_law_within_pace" "_law_within_pace" (defArgs (topS 76)) (defBody (topS 76)) (defScope (topS 76)) .none kV80 dc80 pm80 an80 cd80 ct80), sl80⟩) (c80 : PySem.W.codeIn K cd80 "_law_within_pace" = true) (k80 : PySem.W.keepIn K (.ref f80) = true)
    {od12 an12 : Option Addr} {sl12 : Array (Option Value)} {oc12 kV12 dc12 pm12 cd12 ct12 : Value} {f12 : Addr}
    (a12 : PySem.W.nsIn K mainGlobals "_law_event_drawn" = some (some (.ref f12))) (l12 : K.lookup f12 = some ⟨oc12, od12, .func (PySem.W.fnOf "_law_event_drawn" "_law_event_drawn" (defArgs (topS 71)) (defBody (topS 71)) (defScope (topS 71)) .none kV12 dc12 pm12 an12 cd12 ct12), sl12⟩) (c12 : PySem.W.codeIn K cd12 "_law_event_drawn" = true) (k12 : PySem.W.keepIn K (.ref f12) = true)
    {od60 an60 : Option Addr} {sl60 : Array (Option Value)} {oc60 kV60 dc60 pm60 cd60 ct60 : Value} {f60 : Addr}
    (a60 : PySem.W.nsIn K mainGlobals "_law_frac_is_pace" = some (some (.ref f60))) (l60 : K.lookup f60 = some ⟨oc60, od60, .func (PySem.W.fnOf "_law_frac_is_pace" "_law_frac_is_pace" (defArgs (topS 68)) (defBody (topS 68)) (defScope (topS 68)) .none kV60 dc60 pm60 an60 cd60 ct60), sl60⟩) (c60 : PySem.W.codeIn K cd60 "_law_frac_is_pace" = true) (k60 : PySem.W.keepIn K (.ref f60) = true)
    {od36 an36 : Option Addr} {sl36 : Array (Option Value)} {oc36 kV36 dc36 pm36 cd36 ct36 : Value} {f36 : Addr}
    (a36 : PySem.W.nsIn K mainGlobals "plus" = some (some (.ref f36))) (l36 : K.lookup f36 = some ⟨oc36, od36, .func (PySem.W.fnOf "plus" "plus" (defArgs (topS 5)) (defBody (topS 5)) (defScope (topS 5)) .none kV36 dc36 pm36 an36 cd36 ct36), sl36⟩) (c36 : PySem.W.codeIn K cd36 "plus" = true) (k36 : PySem.W.keepIn K (.ref f36) = true)
    {od98 an98 : Option Addr} {sl98 : Array (Option Value)} {oc98 kV98 dc98 pm98 cd98 ct98 : Value} {f98 : Addr}
    (a98 : PySem.W.nsIn K mainGlobals "is_plan" = some (some (.ref f98))) (l98 : K.lookup f98 = some ⟨oc98, od98, .func (PySem.W.fnOf "is_plan" "is_plan" (defArgs (topS 52)) (defBody (topS 52)) (defScope (topS 52)) .none kV98 dc98 pm98 an98 cd98 ct98), sl98⟩) (c98 : PySem.W.codeIn K cd98 "is_plan" = true) (k98 : PySem.W.keepIn K (.ref f98) = true)
    {od99 an99 : Option Addr} {sl99 : Array (Option Value)} {oc99 kV99 dc99 pm99 cd99 ct99 : Value} {f99 : Addr}
    (a99 : PySem.W.nsIn K mainGlobals "is_just" = some (some (.ref f99))) (l99 : K.lookup f99 = some ⟨oc99, od99, .func (PySem.W.fnOf "is_just" "is_just" (defArgs (topS 49)) (defBody (topS 49)) (defScope (topS 49)) .none kV99 dc99 pm99 an99 cd99 ct99), sl99⟩) (c99 : PySem.W.codeIn K cd99 "is_just" = true) (k99 : PySem.W.keepIn K (.ref f99) = true)
    {od100 an100 : Option Addr} {sl100 : Array (Option Value)} {oc100 kV100 dc100 pm100 cd100 ct100 : Value} {f100 : Addr}
    (a100 : PySem.W.nsIn K mainGlobals "lasting" = some (some (.ref f100))) (l100 : K.lookup f100 = some ⟨oc100, od100, .func (PySem.W.fnOf "lasting" "lasting" (defArgs (topS 47)) (defBody (topS 47)) (defScope (topS 47)) .none kV100 dc100 pm100 an100 cd100 ct100), sl100⟩) (c100 : PySem.W.codeIn K cd100 "lasting" = true) (k100 : PySem.W.keepIn K (.ref f100) = true)
    {od84 an84 : Option Addr} {sl84 : Array (Option Value)} {oc84 kV84 dc84 pm84 cd84 ct84 : Value} {f84 : Addr}
    (a84 : PySem.W.nsIn K mainGlobals "is_below" = some (some (.ref f84))) (l84 : K.lookup f84 = some ⟨oc84, od84, .func (PySem.W.fnOf "is_below" "is_below" (defArgs (topS 10)) (defBody (topS 10)) (defScope (topS 10)) .none kV84 dc84 pm84 an84 cd84 ct84), sl84⟩) (c84 : PySem.W.codeIn K cd84 "is_below" = true) (k84 : PySem.W.keepIn K (.ref f84) = true)
    {od13 an13 : Option Addr} {sl13 : Array (Option Value)} {oc13 kV13 dc13 pm13 cd13 ct13 : Value} {f13 : Addr}
    (a13 : PySem.W.nsIn K mainGlobals "times" = some (some (.ref f13))) (l13 : K.lookup f13 = some ⟨oc13, od13, .func (PySem.W.fnOf "times" "times" (defArgs (topS 7)) (defBody (topS 7)) (defScope (topS 7)) .none kV13 dc13 pm13 an13 cd13 ct13), sl13⟩) (c13 : PySem.W.codeIn K cd13 "times" = true) (k13 : PySem.W.keepIn K (.ref f13) = true)
    {od14 an14 : Option Addr} {sl14 : Array (Option Value)} {oc14 kV14 dc14 pm14 cd14 ct14 : Value} {f14 : Addr}
    (a14 : PySem.W.nsIn K mainGlobals "more_in" = some (some (.ref f14))) (l14 : K.lookup f14 = some ⟨oc14, od14, .func (PySem.W.fnOf "more_in" "more_in" (defArgs (topS 27)) (defBody (topS 27)) (defScope (topS 27)) .none kV14 dc14 pm14 an14 cd14 ct14), sl14⟩) (c14 : PySem.W.codeIn K cd14 "more_in" = true) (k14 : PySem.W.keepIn K (.ref f14) = true)
    {od101 an101 : Option Addr} {sl101 : Array (Option Value)} {oc101 kV101 dc101 pm101 cd101 ct101 : Value} {f101 : Addr}
    (a101 : PySem.W.nsIn K mainGlobals "least_own" = some (some (.ref f101))) (l101 : K.lookup f101 = some ⟨oc101, od101, .func (PySem.W.fnOf "least_own" "least_own" (defArgs (topS 46)) (defBody (topS 46)) (defScope (topS 46)) .none kV101 dc101 pm101 an101 cd101 ct101), sl101⟩) (c101 : PySem.W.codeIn K cd101 "least_own" = true) (k101 : PySem.W.keepIn K (.ref f101) = true)
    {od102 an102 : Option Addr} {sl102 : Array (Option Value)} {oc102 kV102 dc102 pm102 cd102 ct102 : Value} {f102 : Addr}
    (a102 : PySem.W.nsIn K mainGlobals "check_own_time" = some (some (.ref f102))) (l102 : K.lookup f102 = some ⟨oc102, od102, .func (PySem.W.fnOf "check_own_time" "check_own_time" (defArgs (topS 40)) (defBody (topS 40)) (defScope (topS 40)) .none kV102 dc102 pm102 an102 cd102 ct102), sl102⟩) (c102 : PySem.W.codeIn K cd102 "check_own_time" = true) (k102 : PySem.W.keepIn K (.ref f102) = true)
    {od82 an82 : Option Addr} {sl82 : Array (Option Value)} {oc82 kV82 dc82 pm82 cd82 ct82 : Value} {f82 : Addr}
    (a82 : PySem.W.nsIn K mainGlobals "check_ends" = some (some (.ref f82))) (l82 : K.lookup f82 = some ⟨oc82, od82, .func (PySem.W.fnOf "check_ends" "check_ends" (defArgs (topS 41)) (defBody (topS 41)) (defScope (topS 41)) .none kV82 dc82 pm82 an82 cd82 ct82), sl82⟩) (c82 : PySem.W.codeIn K cd82 "check_ends" = true) (k82 : PySem.W.keepIn K (.ref f82) = true)
    {od33 an33 : Option Addr} {sl33 : Array (Option Value)} {oc33 kV33 dc33 pm33 cd33 ct33 : Value} {f33 : Addr}
    (a33 : PySem.W.nsIn K mainGlobals "_law_frac_common" = some (some (.ref f33))) (l33 : K.lookup f33 = some ⟨oc33, od33, .func (PySem.W.fnOf "_law_frac_common" "_law_frac_common" (defArgs (topS 59)) (defBody (topS 59)) (defScope (topS 59)) .none kV33 dc33 pm33 an33 cd33 ct33), sl33⟩) (c33 : PySem.W.codeIn K cd33 "_law_frac_common" = true) (k33 : PySem.W.keepIn K (.ref f33) = true)
    {od29 an29 : Option Addr} {sl29 : Array (Option Value)} {oc29 kV29 dc29 pm29 cd29 ct29 : Value} {f29 : Addr}
    (a29 : PySem.W.nsIn K mainGlobals "_law_frac_drawn" = some (some (.ref f29))) (l29 : K.lookup f29 = some ⟨oc29, od29, .func (PySem.W.fnOf "_law_frac_drawn" "_law_frac_drawn" (defArgs (topS 69)) (defBody (topS 69)) (defScope (topS 69)) .none kV29 dc29 pm29 an29 cd29 ct29), sl29⟩) (c29 : PySem.W.codeIn K cd29 "_law_frac_drawn" = true) (k29 : PySem.W.keepIn K (.ref f29) = true)
    {od63 an63 : Option Addr} {sl63 : Array (Option Value)} {oc63 kV63 dc63 pm63 cd63 ct63 : Value} {f63 : Addr}
    (a63 : PySem.W.nsIn K mainGlobals "_law_frac_is" = some (some (.ref f63))) (l63 : K.lookup f63 = some ⟨oc63, od63, .func (PySem.W.fnOf "_law_frac_is" "_law_frac_is" (defArgs (topS 67)) (defBody (topS 67)) (defScope (topS 67)) .none kV63 dc63 pm63 an63 cd63 ct63), sl63⟩) (c63 : PySem.W.codeIn K cd63 "_law_frac_is" = true) (k63 : PySem.W.keepIn K (.ref f63) = true)
    {od30 an30 : Option Addr} {sl30 : Array (Option Value)} {oc30 kV30 dc30 pm30 cd30 ct30 : Value} {f30 : Addr}
    (a30 : PySem.W.nsIn K mainGlobals "ratio" = some (some (.ref f30))) (l30 : K.lookup f30 = some ⟨oc30, od30, .func (PySem.W.fnOf "ratio" "ratio" (defArgs (topS 4)) (defBody (topS 4)) (defScope (topS 4)) .none kV30 dc30 pm30 an30 cd30 ct30), sl30⟩) (c30 : PySem.W.codeIn K cd30 "ratio" = true) (k30 : PySem.W.keepIn K (.ref f30) = true)
    {od103 an103 : Option Addr} {sl103 : Array (Option Value)} {oc103 kV103 dc103 pm103 cd103 ct103 : Value} {f103 : Addr}
    (a103 : PySem.W.nsIn K mainGlobals "gone" = some (some (.ref f103))) (l103 : K.lookup f103 = some ⟨oc103, od103, .func (PySem.W.fnOf "gone" "gone" (defArgs (topS 42)) (defBody (topS 42)) (defScope (topS 42)) .none kV103 dc103 pm103 an103 cd103 ct103), sl103⟩) (c103 : PySem.W.codeIn K cd103 "gone" = true) (k103 : PySem.W.keepIn K (.ref f103) = true)
    {od104 an104 : Option Addr} {sl104 : Array (Option Value)} {oc104 kV104 dc104 pm104 cd104 ct104 : Value} {f104 : Addr}
    (a104 : PySem.W.nsIn K mainGlobals "are_pieces" = some (some (.ref f104))) (l104 : K.lookup f104 = some ⟨oc104, od104, .func (PySem.W.fnOf "are_pieces" "are_pieces" (defArgs (topS 50)) (defBody (topS 50)) (defScope (topS 50)) .none kV104 dc104 pm104 an104 cd104 ct104), sl104⟩) (c104 : PySem.W.codeIn K cd104 "are_pieces" = true) (k104 : PySem.W.keepIn K (.ref f104) = true)
    {od58 an58 : Option Addr} {sl58 : Array (Option Value)} {oc58 kV58 dc58 pm58 cd58 ct58 : Value} {f58 : Addr}
    (a58 : PySem.W.nsIn K mainGlobals "is_string" = some (some (.ref f58))) (l58 : K.lookup f58 = some ⟨oc58, od58, .func (PySem.W.fnOf "is_string" "is_string" (defArgs (topS 16)) (defBody (topS 16)) (defScope (topS 16)) .none kV58 dc58 pm58 an58 cd58 ct58), sl58⟩) (c58 : PySem.W.codeIn K cd58 "is_string" = true) (k58 : PySem.W.keepIn K (.ref f58) = true)
    {od40 an40 : Option Addr} {sl40 : Array (Option Value)} {oc40 kV40 dc40 pm40 cd40 ct40 : Value} {f40 : Addr}
    (a40 : PySem.W.nsIn K mainGlobals "is_tuple" = some (some (.ref f40))) (l40 : K.lookup f40 = some ⟨oc40, od40, .func (PySem.W.fnOf "is_tuple" "is_tuple" (defArgs (topS 15)) (defBody (topS 15)) (defScope (topS 15)) .none kV40 dc40 pm40 an40 cd40 ct40), sl40⟩) (c40 : PySem.W.codeIn K cd40 "is_tuple" = true) (k40 : PySem.W.keepIn K (.ref f40) = true)
    {od39 an39 : Option Addr} {sl39 : Array (Option Value)} {oc39 kV39 dc39 pm39 cd39 ct39 : Value} {f39 : Addr}
    (a39 : PySem.W.nsIn K mainGlobals "is_ratio" = some (some (.ref f39))) (l39 : K.lookup f39 = some ⟨oc39, od39, .func (PySem.W.fnOf "is_ratio" "is_ratio" (defArgs (topS 11)) (defBody (topS 11)) (defScope (topS 11)) .none kV39 dc39 pm39 an39 cd39 ct39), sl39⟩) (c39 : PySem.W.codeIn K cd39 "is_ratio" = true) (k39 : PySem.W.keepIn K (.ref f39) = true)
    {od86 an86 : Option Addr} {sl86 : Array (Option Value)} {oc86 kV86 dc86 pm86 cd86 ct86 : Value} {f86 : Addr}
    (a86 : PySem.W.nsIn K mainGlobals "without_nought" = some (some (.ref f86))) (l86 : K.lookup f86 = some ⟨oc86, od86, .func (PySem.W.fnOf "without_nought" "without_nought" (defArgs (topS 43)) (defBody (topS 43)) (defScope (topS 43)) .none kV86 dc86 pm86 an86 cd86 ct86), sl86⟩) (c86 : PySem.W.codeIn K cd86 "without_nought" = true) (k86 : PySem.W.keepIn K (.ref f86) = true)
    {od41 an41 : Option Addr} {sl41 : Array (Option Value)} {oc41 kV41 dc41 pm41 cd41 ct41 : Value} {f41 : Addr}
    (a41 : PySem.W.nsIn K mainGlobals "over" = some (some (.ref f41))) (l41 : K.lookup f41 = some ⟨oc41, od41, .func (PySem.W.fnOf "over" "over" (defArgs (topS 8)) (defBody (topS 8)) (defScope (topS 8)) .none kV41 dc41 pm41 an41 cd41 ct41), sl41⟩) (c41 : PySem.W.codeIn K cd41 "over" = true) (k41 : PySem.W.keepIn K (.ref f41) = true)
    {od31 an31 : Option Addr} {sl31 : Array (Option Value)} {oc31 kV31 dc31 pm31 cd31 ct31 : Value} {f31 : Addr}
    (a31 : PySem.W.nsIn K mainGlobals "less" = some (some (.ref f31))) (l31 : K.lookup f31 = some ⟨oc31, od31, .func (PySem.W.fnOf "less" "less" (defArgs (topS 6)) (defBody (topS 6)) (defScope (topS 6)) .none kV31 dc31 pm31 an31 cd31 ct31), sl31⟩) (c31 : PySem.W.codeIn K cd31 "less" = true) (k31 : PySem.W.keepIn K (.ref f31) = true)
    {od87 an87 : Option Addr} {sl87 : Array (Option Value)} {oc87 kV87 dc87 pm87 cd87 ct87 : Value} {f87 : Addr}
    (a87 : PySem.W.nsIn K mainGlobals "contrary" = some (some (.ref f87))) (l87 : K.lookup f87 = some ⟨oc87, od87, .func (PySem.W.fnOf "contrary" "contrary" (defArgs (topS 9)) (defBody (topS 9)) (defScope (topS 9)) .none kV87 dc87 pm87 an87 cd87 ct87), sl87⟩) (c87 : PySem.W.codeIn K cd87 "contrary" = true) (k87 : PySem.W.keepIn K (.ref f87) = true)
    {od81 an81 : Option Addr} {sl81 : Array (Option Value)} {oc81 kV81 dc81 pm81 cd81 ct81 : Value} {f81 : Addr}
    (a81 : PySem.W.nsIn K mainGlobals "told_reach" = some (some (.ref f81))) (l81 : K.lookup f81 = some ⟨oc81, od81, .func (PySem.W.fnOf "told_reach" "told_reach" (defArgs (topS 45)) (defBody (topS 45)) (defScope (topS 45)) .none kV81 dc81 pm81 an81 cd81 ct81), sl81⟩) (c81 : PySem.W.codeIn K cd81 "told_reach" = true) (k81 : PySem.W.keepIn K (.ref f81) = true)
    {od105 an105 : Option Addr} {sl105 : Array (Option Value)} {oc105 kV105 dc105 pm105 cd105 ct105 : Value} {f105 : Addr}
    (a105 : PySem.W.nsIn K mainGlobals "is_time" = some (some (.ref f105))) (l105 : K.lookup f105 = some ⟨oc105, od105, .func (PySem.W.fnOf "is_time" "is_time" (defArgs (topS 13)) (defBody (topS 13)) (defScope (topS 13)) .none kV105 dc105 pm105 an105 cd105 ct105), sl105⟩) (c105 : PySem.W.codeIn K cd105 "is_time" = true) (k105 : PySem.W.keepIn K (.ref f105) = true)
    {od85 an85 : Option Addr} {sl85 : Array (Option Value)} {oc85 kV85 dc85 pm85 cd85 ct85 : Value} {f85 : Addr}
    (a85 : PySem.W.nsIn K mainGlobals "check_most" = some (some (.ref f85))) (l85 : K.lookup f85 = some ⟨oc85, od85, .func (PySem.W.fnOf "check_most" "check_most" (defArgs (topS 39)) (defBody (topS 39)) (defScope (topS 39)) .none kV85 dc85 pm85 an85 cd85 ct85), sl85⟩) (c85 : PySem.W.codeIn K cd85 "check_most" = true) (k85 : PySem.W.keepIn K (.ref f85) = true)
    {od16 an16 : Option Addr} {sl16 : Array (Option Value)} {oc16 kV16 dc16 pm16 cd16 ct16 : Value} {f16 : Addr}
    (a16 : PySem.W.nsIn K mainGlobals "check_event" = some (some (.ref f16))) (l16 : K.lookup f16 = some ⟨oc16, od16, .func (PySem.W.fnOf "check_event" "check_event" (defArgs (topS 26)) (defBody (topS 26)) (defScope (topS 26)) .none kV16 dc16 pm16 an16 cd16 ct16), sl16⟩) (c16 : PySem.W.codeIn K cd16 "check_event" = true) (k16 : PySem.W.keepIn K (.ref f16) = true)
    {od38 an38 : Option Addr} {sl38 : Array (Option Value)} {oc38 kV38 dc38 pm38 cd38 ct38 : Value} {f38 : Addr}
    (a38 : PySem.W.nsIn K mainGlobals "common" = some (some (.ref f38))) (l38 : K.lookup f38 = some ⟨oc38, od38, .func (PySem.W.fnOf "common" "common" (defArgs (topS 3)) (defBody (topS 3)) (defScope (topS 3)) .none kV38 dc38 pm38 an38 cd38 ct38), sl38⟩) (c38 : PySem.W.codeIn K cd38 "common" = true) (k38 : PySem.W.keepIn K (.ref f38) = true)
    {od106 an106 : Option Addr} {sl106 : Array (Option Value)} {oc106 kV106 dc106 pm106 cd106 ct106 : Value} {f106 : Addr}
    (a106 : PySem.W.nsIn K mainGlobals "is_pace_within" = some (some (.ref f106))) (l106 : K.lookup f106 = some ⟨oc106, od106, .func (PySem.W.fnOf "is_pace_within" "is_pace_within" (defArgs (topS 51)) (defBody (topS 51)) (defScope (topS 51)) .none kV106 dc106 pm106 an106 cd106 ct106), sl106⟩) (c106 : PySem.W.codeIn K cd106 "is_pace_within" = true) (k106 : PySem.W.keepIn K (.ref f106) = true)
    {od42 an42 : Option Addr} {sl42 : Array (Option Value)} {oc42 kV42 dc42 pm42 cd42 ct42 : Value} {f42 : Addr}
    (a42 : PySem.W.nsIn K mainGlobals "is_factor" = some (some (.ref f42))) (l42 : K.lookup f42 = some ⟨oc42, od42, .func (PySem.W.fnOf "is_factor" "is_factor" (defArgs (topS 12)) (defBody (topS 12)) (defScope (topS 12)) .none kV42 dc42 pm42 an42 cd42 ct42), sl42⟩) (c42 : PySem.W.codeIn K cd42 "is_factor" = true) (k42 : PySem.W.keepIn K (.ref f42) = true)
    {od43 an43 : Option Addr} {sl43 : Array (Option Value)} {oc43 kV43 dc43 pm43 cd43 ct43 : Value} {f43 : Addr}
    (a43 : PySem.W.nsIn K mainGlobals "is_whole" = some (some (.ref f43))) (l43 : K.lookup f43 = some ⟨oc43, od43, .func (PySem.W.fnOf "is_whole" "is_whole" (defArgs (topS 2)) (defBody (topS 2)) (defScope (topS 2)) .none kV43 dc43 pm43 an43 cd43 ct43), sl43⟩) (c43 : PySem.W.codeIn K cd43 "is_whole" = true) (k43 : PySem.W.keepIn K (.ref f43) = true)
    {od83 an83 : Option Addr} {sl83 : Array (Option Value)} {oc83 kV83 dc83 pm83 cd83 ct83 : Value} {f83 : Addr}
    (a83 : PySem.W.nsIn K mainGlobals "quickest" = some (some (.ref f83))) (l83 : K.lookup f83 = some ⟨oc83, od83, .func (PySem.W.fnOf "quickest" "quickest" (defArgs (topS 44)) (defBody (topS 44)) (defScope (topS 44)) .none kV83 dc83 pm83 an83 cd83 ct83), sl83⟩) (c83 : PySem.W.codeIn K cd83 "quickest" = true) (k83 : PySem.W.keepIn K (.ref f83) = true)
    {od32 an32 : Option Addr} {sl32 : Array (Option Value)} {oc32 kV32 dc32 pm32 cd32 ct32 : Value} {f32 : Addr}
    (a32 : PySem.W.nsIn K mainGlobals "is_event" = some (some (.ref f32))) (l32 : K.lookup f32 = some ⟨oc32, od32, .func (PySem.W.fnOf "is_event" "is_event" (defArgs (topS 25)) (defBody (topS 25)) (defScope (topS 25)) .none kV32 dc32 pm32 an32 cd32 ct32), sl32⟩) (c32 : PySem.W.codeIn K cd32 "is_event" = true) (k32 : PySem.W.keepIn K (.ref f32) = true)
    {tk2 : Tok}
    {tk3 : Tok}
    {ta1 : Addr} {to1 : Option Addr} {tn1 : Nat} {ts1 : Array (Option Value)} (cl1 : K.lookup ta1 = some ⟨.type "tuple", to1, .seq #[.int 0 tk2, .int 1 tk3] tn1, ts1⟩)
    (cg0 : PySem.W.nsIn K mainGlobals "NOUGHT" = some (some (.ref ta1)))
    {tk4 : Tok}
    (cg1 : PySem.W.nsIn K mainGlobals "PLAN" = some (some (.str "plan" tk4)))
    {tk5 : Tok}
    (cg2 : PySem.W.nsIn K mainGlobals "MORE" = some (some (.str "more" tk5)))
    {tk6 : Tok}
    (cg3 : PySem.W.nsIn K mainGlobals "LESS" = some (some (.str "less" tk6)))
    {tk7 : Tok}
    (cg4 : PySem.W.nsIn K mainGlobals "PAIR_within" = some (some (.int 2 tk7)))
    {tk8 : Tok}
    (cg5 : PySem.W.nsIn K mainGlobals "PAIR_ratios" = some (some (.int 2 tk8)))
    {tk9 : Tok}
    (cg6 : PySem.W.nsIn K mainGlobals "PLANE_V" = some (some (.str "v" tk9)))
    {tk10 : Tok}
    (cg7 : PySem.W.nsIn K mainGlobals "BEYOND" = some (some (.str "beyond" tk10)))
    {tk11 : Tok}
    (cg8 : PySem.W.nsIn K mainGlobals "PLANE_U" = some (some (.str "u" tk11)))
    {tk12 : Tok}
    (cg9 : PySem.W.nsIn K mainGlobals "BEHIND" = some (some (.str "behind" tk12)))
    {tk14 : Tok}
    {tk15 : Tok}
    {ta13 : Addr} {to13 : Option Addr} {tn13 : Nat} {ts13 : Array (Option Value)} (cl13 : K.lookup ta13 = some ⟨.type "tuple", to13, .seq #[.int 1 tk14, .int 1 tk15] tn13, ts13⟩)
    (cg10 : PySem.W.nsIn K mainGlobals "ONE" = some (some (.ref ta13)))
    {tk16 : Tok}
    (cg11 : PySem.W.nsIn K mainGlobals "PAIR_events" = some (some (.int 2 tk16)))
    (z0 : PySem.W.nsIn K mainGlobals "abs" = some none)
    (z1 : PySem.W.nsIn K mainGlobals "all" = some none)
    (z2 : PySem.W.nsIn K mainGlobals "bool" = some none)
    (z3 : PySem.W.nsIn K mainGlobals "int" = some none)
    (z4 : PySem.W.nsIn K mainGlobals "isinstance" = some none)
    (z5 : PySem.W.nsIn K mainGlobals "len" = some none)
    (z6 : PySem.W.nsIn K mainGlobals "list" = some none)
    (z7 : PySem.W.nsIn K mainGlobals "max" = some none)
    (z8 : PySem.W.nsIn K mainGlobals "min" = some none)
    (z9 : PySem.W.nsIn K mainGlobals "range" = some none)
    (z10 : PySem.W.nsIn K mainGlobals "str" = some none)
    (z11 : PySem.W.nsIn K mainGlobals "sum" = some none)
    (z12 : PySem.W.nsIn K mainGlobals "tuple" = some none)
    (z13 : PySem.W.nsIn K mainGlobals "zip" = some none)
    : AllOk K mg tabL TbL glL ∧ (∀ x ∈ TbL.bl, mg x = none) ∧ ∀ cn ct, TbL.cs.lookup cn = some ct → ∃ C, ClsF K mg (MethOk K tabL TbL) cn ct C :=
  ⟨⟨def_1061 (fun_mk (st := topS 84) l1061 c1061 k1061) (PySem.W.mg_of X G a1061),
    def_1 (fun_mk (st := topS 58) l1 c1 k1) (PySem.W.mg_of X G a1),
    def_88 (fun_mk (st := topS 83) l88 c88 k88) (PySem.W.mg_of X G a88),
    def_89 (fun_mk (st := topS 55) l89 c89 k89) (PySem.W.mg_of X G a89),
    def_90 (fun_mk (st := topS 82) l90 c90 k90) (PySem.W.mg_of X G a90),
    def_91 (fun_mk (st := topS 81) l91 c91 k91) (PySem.W.mg_of X G a91),
    def_5 (fun_mk (st := topS 63) l5 c5 k5) (PySem.W.mg_of X G a5),
    def_92 (fun_mk (st := topS 79) l92 c92 k92) (PySem.W.mg_of X G a92),
    def_8 (fun_mk (st := topS 73) l8 c8 k8) (PySem.W.mg_of X G a8),
    def_79 (fun_mk (st := topS 77) l79 c79 k79) (PySem.W.mg_of X G a79),
    def_76 (fun_mk (st := topS 75) l76 c76 k76) (PySem.W.mg_of X G a76),
    def_93 (fun_mk (st := topS 66) l93 c93 k93) (PySem.W.mg_of X G a93),
    def_94 (fun_mk (st := topS 78) l94 c94 k94) (PySem.W.mg_of X G a94),
    def_77 (fun_mk (st := topS 74) l77 c77 k77) (PySem.W.mg_of X G a77),
    def_51 (fun_mk (st := topS 65) l51 c51 k51) (PySem.W.mg_of X G a51),
    def_95 (fun_mk (st := topS 53) l95 c95 k95) (PySem.W.mg_of X G a95),
    def_96 (fun_mk (st := topS 48) l96 c96 k96) (PySem.W.mg_of X G a96),
    def_24 (fun_mk (st := topS 57) l24 c24 k24) (PySem.W.mg_of X G a24),
    def_26 (fun_mk (st := topS 61) l26 c26 k26) (PySem.W.mg_of X G a26),
    def_37 (fun_mk (st := topS 64) l37 c37 k37) (PySem.W.mg_of X G a37),
    def_17 (fun_mk (st := topS 60) l17 c17 k17) (PySem.W.mg_of X G a17),
    def_97 (fun_mk (st := topS 80) l97 c97 k97) (PySem.W.mg_of X G a97),
    def_25 (fun_mk (st := topS 62) l25 c25 k25) (PySem.W.mg_of X G a25),
    def_23 (fun_mk (st := topS 56) l23 c23 k23) (PySem.W.mg_of X G a23),
    def_28 (fun_mk (st := topS 70) l28 c28 k28) (PySem.W.mg_of X G a28),
    def_27 (fun_mk (st := topS 72) l27 c27 k27) (PySem.W.mg_of X G a27),
    def_80 (fun_mk (st := topS 76) l80 c80 k80) (PySem.W.mg_of X G a80),
    def_12 (fun_mk (st := topS 71) l12 c12 k12) (PySem.W.mg_of X G a12),
    def_60 (fun_mk (st := topS 68) l60 c60 k60) (PySem.W.mg_of X G a60),
    def_36 (fun_mk (st := topS 5) l36 c36 k36) (PySem.W.mg_of X G a36),
    def_98 (fun_mk (st := topS 52) l98 c98 k98) (PySem.W.mg_of X G a98),
    def_99 (fun_mk (st := topS 49) l99 c99 k99) (PySem.W.mg_of X G a99),
    def_100 (fun_mk (st := topS 47) l100 c100 k100) (PySem.W.mg_of X G a100),
    def_84 (fun_mk (st := topS 10) l84 c84 k84) (PySem.W.mg_of X G a84),
    def_13 (fun_mk (st := topS 7) l13 c13 k13) (PySem.W.mg_of X G a13),
    def_14 (fun_mk (st := topS 27) l14 c14 k14) (PySem.W.mg_of X G a14),
    def_101 (fun_mk (st := topS 46) l101 c101 k101) (PySem.W.mg_of X G a101),
    def_102 (fun_mk (st := topS 40) l102 c102 k102) (PySem.W.mg_of X G a102),
    def_82 (fun_mk (st := topS 41) l82 c82 k82) (PySem.W.mg_of X G a82),
    def_33 (fun_mk (st := topS 59) l33 c33 k33) (PySem.W.mg_of X G a33),
    def_29 (fun_mk (st := topS 69) l29 c29 k29) (PySem.W.mg_of X G a29),
    def_63 (fun_mk (st := topS 67) l63 c63 k63) (PySem.W.mg_of X G a63),
    def_30 (fun_mk (st := topS 4) l30 c30 k30) (PySem.W.mg_of X G a30),
    def_103 (fun_mk (st := topS 42) l103 c103 k103) (PySem.W.mg_of X G a103),
    def_104 (fun_mk (st := topS 50) l104 c104 k104) (PySem.W.mg_of X G a104),
    def_58 (fun_mk (st := topS 16) l58 c58 k58) (PySem.W.mg_of X G a58),
    def_40 (fun_mk (st := topS 15) l40 c40 k40) (PySem.W.mg_of X G a40),
    def_39 (fun_mk (st := topS 11) l39 c39 k39) (PySem.W.mg_of X G a39),
    def_86 (fun_mk (st := topS 43) l86 c86 k86) (PySem.W.mg_of X G a86),
    def_41 (fun_mk (st := topS 8) l41 c41 k41) (PySem.W.mg_of X G a41),
    def_31 (fun_mk (st := topS 6) l31 c31 k31) (PySem.W.mg_of X G a31),
    def_87 (fun_mk (st := topS 9) l87 c87 k87) (PySem.W.mg_of X G a87),
    def_81 (fun_mk (st := topS 45) l81 c81 k81) (PySem.W.mg_of X G a81),
    def_105 (fun_mk (st := topS 13) l105 c105 k105) (PySem.W.mg_of X G a105),
    def_85 (fun_mk (st := topS 39) l85 c85 k85) (PySem.W.mg_of X G a85),
    def_16 (fun_mk (st := topS 26) l16 c16 k16) (PySem.W.mg_of X G a16),
    def_38 (fun_mk (st := topS 3) l38 c38 k38) (PySem.W.mg_of X G a38),
    def_106 (fun_mk (st := topS 51) l106 c106 k106) (PySem.W.mg_of X G a106),
    def_42 (fun_mk (st := topS 12) l42 c42 k42) (PySem.W.mg_of X G a42),
    def_43 (fun_mk (st := topS 2) l43 c43 k43) (PySem.W.mg_of X G a43),
    def_83 (fun_mk (st := topS 44) l83 c83 k83) (PySem.W.mg_of X G a83),
    def_32 (fun_mk (st := topS 25) l32 c32 k32) (PySem.W.mg_of X G a32),
    ⟨.ref ta1, _, PySem.W.mg_of X G cg0, rfl, fun _ _ => (RV.tup (.inr ⟨_, _, _, cl1, rfl, rfl, (show 2 ≤ sizeLine by decide), (.cons (relv_int _ _) (.cons (relv_int _ _) .nil))⟩) (RVs.cons_ RV.int (RVs.cons_ RV.int RVs.nil_)))⟩,
    ⟨.str "plan", _, PySem.W.mg_of X G cg1, (relv_str _ _), fun _ _ => RV.str⟩,
    ⟨.str "more", _, PySem.W.mg_of X G cg2, (relv_str _ _), fun _ _ => RV.str⟩,
    ⟨.str "less", _, PySem.W.mg_of X G cg3, (relv_str _ _), fun _ _ => RV.str⟩,
    ⟨.int 2, _, PySem.W.mg_of X G cg4, (relv_int _ _), fun _ _ => RV.int⟩,
    ⟨.int 2, _, PySem.W.mg_of X G cg5, (relv_int _ _), fun _ _ => RV.int⟩,
    ⟨.str "v", _, PySem.W.mg_of X G cg6, (relv_str _ _), fun _ _ => RV.str⟩,
    ⟨.str "beyond", _, PySem.W.mg_of X G cg7, (relv_str _ _), fun _ _ => RV.str⟩,
    ⟨.str "u", _, PySem.W.mg_of X G cg8, (relv_str _ _), fun _ _ => RV.str⟩,
    ⟨.str "behind", _, PySem.W.mg_of X G cg9, (relv_str _ _), fun _ _ => RV.str⟩,
    ⟨.ref ta13, _, PySem.W.mg_of X G cg10, rfl, fun _ _ => (RV.tup (.inr ⟨_, _, _, cl13, rfl, rfl, (show 2 ≤ sizeLine by decide), (.cons (relv_int _ _) (.cons (relv_int _ _) .nil))⟩) (RVs.cons_ RV.int (RVs.cons_ RV.int RVs.nil_)))⟩,
    ⟨.int 2, _, PySem.W.mg_of X G cg11, (relv_int _ _), fun _ _ => RV.int⟩,
    trivial⟩, (bl_cons (PySem.W.mg_none_of X G z0) (bl_cons (PySem.W.mg_none_of X G z1) (bl_cons (PySem.W.mg_none_of X G z2) (bl_cons (PySem.W.mg_none_of X G z3) (bl_cons (PySem.W.mg_none_of X G z4) (bl_cons (PySem.W.mg_none_of X G z5) (bl_cons (PySem.W.mg_none_of X G z6) (bl_cons (PySem.W.mg_none_of X G z7) (bl_cons (PySem.W.mg_none_of X G z8) (bl_cons (PySem.W.mg_none_of X G z9) (bl_cons (PySem.W.mg_none_of X G z10) (bl_cons (PySem.W.mg_none_of X G z11) (bl_cons (PySem.W.mg_none_of X G z12) (bl_cons (PySem.W.mg_none_of X G z13) bl_nil)))))))))))))), fun _ _ h => nomatch h⟩
end Cw
open PySem PySem.W PyProof.Rows
set_option maxHeartbeats 0 in
theorem PySem.Challenge.cw_crewclocks_k09_whole_flights_with_a_wish_holds : PySem.Challenge.rw_crewclocks_k09_whole_flights_with_a_wish.Holds := by
  w_on; o_law; k_head; (case hw => w_witness2)
  k_fill
  refine Cw.walk_C (l := PySem.Challenge.rw_crewclocks_k09_whole_flights_with_a_wish) (n := 63) (k := 12) Cw.tabL Cw.TbL 1061 [⟨1, [], none⟩] rfl (by decide) rfl ⟨rfl, by decide, by decide⟩ (fun w h Y => PySem.W.kIn_of Y) ?F rfl (by simp) Cw.plain_law
  case F =>
    intro w mg h KX G
    refine' Cw.all_mk KX G ?a1061 ?l1061 ?c1061 ?k1061 ?a1 ?l1 ?c1 ?k1 ?a88 ?l88 ?c88 ?k88 ?a89 ?l89 ?c89 ?k89 ?a90 ?l90 ?c90 ?k90 ?a91 ?l91 ?c91 ?k91 ?a5 ?l5 ?c5 ?k5 ?a92 ?l92 ?c92 ?k92 ?a8 ?l8 ?c8 ?k8 ?a79 ?l79 ?c79 ?k79 ?a76 ?l76 ?c76 ?k76 ?a93 ?l93 ?c93 ?k93 ?a94 ?l94 ?c94 ?k94 ?a77 ?l77 ?c77 ?k77 ?a51 ?l51 ?c51 ?k51 ?a95 ?l95 ?c95 ?k95 ?a96 ?l96 ?c96 ?k96 ?a24 ?l24 ?c24 ?k24 ?a26 ?l26 ?c26 ?k26 ?a37 ?l37 ?c37 ?k37 ?a17 ?l17 ?c17 ?k17 ?a97 ?l97 ?c97 ?k97 ?a25 ?l25 ?c25 ?k25 ?a23 ?l23 ?c23 ?k23 ?a28 ?l28 ?c28 ?k28 ?a27 ?l27 ?c27 ?k27 ?a80 ?l80 ?c80 ?k80 ?a12 ?l12 ?c12 ?k12 ?a60 ?l60 ?c60 ?k60 ?a36 ?l36 ?c36 ?k36 ?a98 ?l98 ?c98 ?k98 ?a99 ?l99 ?c99 ?k99 ?a100 ?l100 ?c100 ?k100 ?a84 ?l84 ?c84 ?k84 ?a13 ?l13 ?c13 ?k13 ?a14 ?l14 ?c14 ?k14 ?a101 ?l101 ?c101 ?k101 ?a102 ?l102 ?c102 ?k102 ?a82 ?l82 ?c82 ?k82 ?a33 ?l33 ?c33 ?k33 ?a29 ?l29 ?c29 ?k29 ?a63 ?l63 ?c63 ?k63 ?a30 ?l30 ?c30 ?k30 ?a103 ?l103 ?c103 ?k103 ?a104 ?l104 ?c104 ?k104 ?a58 ?l58 ?c58 ?k58 ?a40 ?l40 ?c40 ?k40 ?a39 ?l39 ?c39 ?k39 ?a86 ?l86 ?c86 ?k86 ?a41 ?l41 ?c41 ?k41 ?a31 ?l31 ?c31 ?k31 ?a87 ?l87 ?c87 ?k87 ?a81 ?l81 ?c81 ?k81 ?a105 ?l105 ?c105 ?k105 ?a85 ?l85 ?c85 ?k85 ?a16 ?l16 ?c16 ?k16 ?a38 ?l38 ?c38 ?k38 ?a106 ?l106 ?c106 ?k106 ?a42 ?l42 ?c42 ?k42 ?a43 ?l43 ?c43 ?k43 ?a83 ?l83 ?c83 ?k83 ?a32 ?l32 ?c32 ?k32 ?cl1 ?cg0 ?cg1 ?cg2 ?cg3 ?cg4 ?cg5 ?cg6 ?cg7 ?cg8 ?cg9 ?cl13 ?cg10 ?cg11 ?z0 ?z1 ?z2 ?z3 ?z4 ?z5 ?z6 ?z7 ?z8 ?z9 ?z10 ?z11 ?z12 ?z13
    (case a1061 => k_is)
    (case l1061 => k_is)
    (case c1061 => k_is)
    (case k1061 => k_is)
    (case a1 => k_is)
    (case l1 => k_is)
    (case c1 => k_is)
    (case k1 => k_is)
    (case a88 => k_is)
    (case l88 => k_is)
    (case c88 => k_is)
    (case k88 => k_is)
    (case a89 => k_is)
    (case l89 => k_is)
    (case c89 => k_is)
    (case k89 => k_is)
    (case a90 => k_is)
    (case l90 => k_is)
    (case c90 => k_is)
    (case k90 => k_is)
    (case a91 => k_is)
    (case l91 => k_is)
    (case c91 => k_is)
    (case k91 => k_is)
    (case a5 => k_is)
    (case l5 => k_is)
    (case c5 => k_is)
    (case k5 => k_is)
    (case a92 => k_is)
    (case l92 => k_is)
    (case c92 => k_is)
    (case k92 => k_is)
    (case a8 => k_is)
    (case l8 => k_is)
    (case c8 => k_is)
    (case k8 => k_is)
    (case a79 => k_is)
    (case l79 => k_is)
    (case c79 => k_is)
    (case k79 => k_is)
    (case a76 => k_is)
    (case l76 => k_is)
    (case c76 => k_is)
    (case k76 => k_is)
    (case a93 => k_is)
    (case l93 => k_is)
    (case c93 => k_is)
    (case k93 => k_is)
    (case a94 => k_is)
    (case l94 => k_is)
    (case c94 => k_is)
    (case k94 => k_is)
    (case a77 => k_is)
    (case l77 => k_is)
    (case c77 => k_is)
    (case k77 => k_is)
    (case a51 => k_is)
    (case l51 => k_is)
    (case c51 => k_is)
    (case k51 => k_is)
    (case a95 => k_is)
    (case l95 => k_is)
    (case c95 => k_is)
    (case k95 => k_is)
    (case a96 => k_is)
    (case l96 => k_is)
    (case c96 => k_is)
    (case k96 => k_is)
    (case a24 => k_is)
    (case l24 => k_is)
    (case c24 => k_is)
    (case k24 => k_is)
    (case a26 => k_is)
    (case l26 => k_is)
    (case c26 => k_is)
    (case k26 => k_is)
    (case a37 => k_is)
    (case l37 => k_is)
    (case c37 => k_is)
    (case k37 => k_is)
    (case a17 => k_is)
    (case l17 => k_is)
    (case c17 => k_is)
    (case k17 => k_is)
    (case a97 => k_is)
    (case l97 => k_is)
    (case c97 => k_is)
    (case k97 => k_is)
    (case a25 => k_is)
    (case l25 => k_is)
    (case c25 => k_is)
    (case k25 => k_is)
    (case a23 => k_is)
    (case l23 => k_is)
    (case c23 => k_is)
    (case k23 => k_is)
    (case a28 => k_is)
    (case l28 => k_is)
    (case c28 => k_is)
    (case k28 => k_is)
    (case a27 => k_is)
    (case l27 => k_is)
    (case c27 => k_is)
    (case k27 => k_is)
    (case a80 => k_is)
    (case l80 => k_is)
    (case c80 => k_is)
    (case k80 => k_is)
    (case a12 => k_is)
    (case l12 => k_is)
    (case c12 => k_is)
    (case k12 => k_is)
    (case a60 => k_is)
    (case l60 => k_is)
    (case c60 => k_is)
    (case k60 => k_is)
    (case a36 => k_is)
    (case l36 => k_is)
    (case c36 => k_is)
    (case k36 => k_is)
    (case a98 => k_is)
    (case l98 => k_is)
    (case c98 => k_is)
    (case k98 => k_is)
    (case a99 => k_is)
    (case l99 => k_is)
    (case c99 => k_is)
    (case k99 => k_is)
    (case a100 => k_is)
    (case l100 => k_is)
    (case c100 => k_is)
    (case k100 => k_is)
    (case a84 => k_is)
    (case l84 => k_is)
    (case c84 => k_is)
    (case k84 => k_is)
    (case a13 => k_is)
    (case l13 => k_is)
    (case c13 => k_is)
    (case k13 => k_is)
    (case a14 => k_is)
    (case l14 => k_is)
    (case c14 => k_is)
    (case k14 => k_is)
    (case a101 => k_is)
    (case l101 => k_is)
    (case c101 => k_is)
    (case k101 => k_is)
    (case a102 => k_is)
    (case l102 => k_is)
    (case c102 => k_is)
    (case k102 => k_is)
    (case a82 => k_is)
    (case l82 => k_is)
    (case c82 => k_is)
    (case k82 => k_is)
    (case a33 => k_is)
    (case l33 => k_is)
    (case c33 => k_is)
    (case k33 => k_is)
    (case a29 => k_is)
    (case l29 => k_is)
    (case c29 => k_is)
    (case k29 => k_is)
    (case a63 => k_is)
    (case l63 => k_is)
    (case c63 => k_is)
    (case k63 => k_is)
    (case a30 => k_is)
    (case l30 => k_is)
    (case c30 => k_is)
    (case k30 => k_is)
    (case a103 => k_is)
    (case l103 => k_is)
    (case c103 => k_is)
    (case k103 => k_is)
    (case a104 => k_is)
    (case l104 => k_is)
    (case c104 => k_is)
    (case k104 => k_is)
    (case a58 => k_is)
    (case l58 => k_is)
    (case c58 => k_is)
    (case k58 => k_is)
    (case a40 => k_is)
    (case l40 => k_is)
    (case c40 => k_is)
    (case k40 => k_is)
    (case a39 => k_is)
    (case l39 => k_is)
    (case c39 => k_is)
    (case k39 => k_is)
    (case a86 => k_is)
    (case l86 => k_is)
    (case c86 => k_is)
    (case k86 => k_is)
    (case a41 => k_is)
    (case l41 => k_is)
    (case c41 => k_is)
    (case k41 => k_is)
    (case a31 => k_is)
    (case l31 => k_is)
    (case c31 => k_is)
    (case k31 => k_is)
    (case a87 => k_is)
    (case l87 => k_is)
    (case c87 => k_is)
    (case k87 => k_is)
    (case a81 => k_is)
    (case l81 => k_is)
    (case c81 => k_is)
    (case k81 => k_is)
    (case a105 => k_is)
    (case l105 => k_is)
    (case c105 => k_is)
    (case k105 => k_is)
    (case a85 => k_is)
    (case l85 => k_is)
    (case c85 => k_is)
    (case k85 => k_is)
    (case a16 => k_is)
    (case l16 => k_is)
    (case c16 => k_is)
    (case k16 => k_is)
    (case a38 => k_is)
    (case l38 => k_is)
    (case c38 => k_is)
    (case k38 => k_is)
    (case a106 => k_is)
    (case l106 => k_is)
    (case c106 => k_is)
    (case k106 => k_is)
    (case a42 => k_is)
    (case l42 => k_is)
    (case c42 => k_is)
    (case k42 => k_is)
    (case a43 => k_is)
    (case l43 => k_is)
    (case c43 => k_is)
    (case k43 => k_is)
    (case a83 => k_is)
    (case l83 => k_is)
    (case c83 => k_is)
    (case k83 => k_is)
    (case a32 => k_is)
    (case l32 => k_is)
    (case c32 => k_is)
    (case k32 => k_is)
    (case cg0 => k_is)
    (case cl1 => k_is)
    (case cg1 => k_is)
    (case cg2 => k_is)
    (case cg3 => k_is)
    (case cg4 => k_is)
    (case cg5 => k_is)
    (case cg6 => k_is)
    (case cg7 => k_is)
    (case cg8 => k_is)
    (case cg9 => k_is)
    (case cg10 => k_is)
    (case cl13 => k_is)
    (case cg11 => k_is)
    (case z0 => k_is)
    (case z1 => k_is)
    (case z2 => k_is)
    (case z3 => k_is)
    (case z4 => k_is)
    (case z5 => k_is)
    (case z6 => k_is)
    (case z7 => k_is)
    (case z8 => k_is)
    (case z9 => k_is)
    (case z10 => k_is)
    (case z11 => k_is)
    (case z12 => k_is)
    (case z13 => k_is)
#print axioms PySem.Challenge.cw_crewclocks_k09_whole_flights_with_a_wish_holds
