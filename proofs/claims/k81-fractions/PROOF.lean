import PyProof.Rows.All
import Wide.All
import OpenK.AllK
import Wide.FinOn
import HandS.ForMost
import HandS.Wide
import HandS.Gcd
import HandS.TupAny
import HandS.TupMul
import HandS.IsInst
import HandS.Flow
import HandS.Conv
import HandS.Defaults
import HandS.Head2
import HandS.HeadHook2
import HandS.HeadEnd
import KE.KStateDown
import HandS.Base
import HandS.Call
import HandS.Ends
import HandS.More
import HandS.Words
import HandS.WordsExc
import HandS.Head0
import HandS.Head1
import HandS.Head3
import HandS.HeadHook1
import PySem.Challenge.RW_everynumber_k81_fractions_rows_and_colum
set_option Elab.async false
set_option linter.all false
set_option maxRecDepth 100000
set_option maxHeartbeats 0
/-! Ab1: data as trees, a store of changing lists, small code, its evaluation. -/
namespace Ab
open PySem

inductive D where
  | non | bl (b : Bool) | int (i : Int) | str (x : Str)
  | tup (ds : List D) | lst (ds : List D) | scr (ns : List Int) | ref (r : Nat) | fn (f : Nat)
  deriving Inhabited
inductive O where
  | lst (ds : List D)
  deriving Inhabited
abbrev Store := List O
abbrev AEnv := List (Option D)

mutual
def D.same : D → D → Bool
  | .non, .non => true
  | .bl a, .bl b => a == b
  | .int a, .int b => a == b
  | .str a, .str b => decide (a = b)
  | .tup a, .tup b => D.sames a b
  | .lst a, .lst b => D.sames a b
  | .scr a, .scr b => a == b
  | .ref a, .ref b => a == b
  | .fn a, .fn b => a == b
  | _, _ => false
def D.sames : List D → List D → Bool
  | [], [] => true
  | a :: as, b :: bs => D.same a b && D.sames as bs
  | _, _ => false
end
mutual
theorem D.same_refl : ∀ a : D, D.same a a = true
  | .non => rfl
  | .bl a => by simp [D.same]
  | .int a => by simp [D.same]
  | .str a => by simp [D.same]
  | .tup a => by simp [D.same, D.sames_refl a]
  | .lst a => by simp [D.same, D.sames_refl a]
  | .scr a => by simp [D.same]
  | .ref a => by simp [D.same]
  | .fn a => by simp [D.same]
theorem D.sames_refl : ∀ a : List D, D.sames a a = true
  | [] => rfl
  | a :: as => by simp [D.sames, D.same_refl a, D.sames_refl as]
end
mutual
theorem D.same_eq : ∀ {a b : D}, D.same a b = true → a = b
  | .non, b, h => by cases b <;> simp_all [D.same]
  | .bl _, b, h => by cases b <;> simp_all [D.same]
  | .int _, b, h => by cases b <;> simp_all [D.same]
  | .str _, b, h => by cases b <;> simp_all [D.same]
  | .tup as, b, h => by
    cases b with
    | tup bs => exact congrArg D.tup (D.sames_eq (by simpa [D.same] using h))
    | _ => simp [D.same] at h
  | .lst as, b, h => by
    cases b with
    | lst bs => exact congrArg D.lst (D.sames_eq (by simpa [D.same] using h))
    | _ => simp [D.same] at h
  | .scr _, b, h => by cases b <;> simp_all [D.same]
  | .ref _, b, h => by cases b <;> simp_all [D.same]
  | .fn _, b, h => by cases b <;> simp_all [D.same]
theorem D.sames_eq : ∀ {a b : List D}, D.sames a b = true → a = b
  | [], b, h => by cases b <;> simp_all [D.sames]
  | a :: as, [], h => by simp [D.sames] at h
  | a :: as, b :: bs, h => by
    simp only [D.sames, Bool.and_eq_true] at h
    rw [D.same_eq h.1, D.sames_eq h.2]
end

/-! which refs stand in it: all below n -/
mutual
def D.undr (n : Nat) : D → Bool
  | .tup ds => D.undrs n ds
  | .lst ds => D.undrs n ds
  | .ref r => decide (r < n)
  | _ => true
def D.undrs (n : Nat) : List D → Bool
  | [] => true
  | d :: ds => D.undr n d && D.undrs n ds
end
def O.undr (n : Nat) : O → Bool
  | .lst ds => D.undrs n ds

/-! ### plain data -/
mutual
def D.py : D → Option PyData
  | .non => some .none
  | .bl b => some (.bool b)
  | .int i => some (.int i)
  | .str x => some (.str x)
  | .tup ds => (D.pys ds).map .tuple
  | .lst ds => (D.pys ds).map .list
  | .scr ns => some (.list (ns.map .int))
  | .ref _ => none
  | .fn _ => none
def D.pys : List D → Option (List PyData)
  | [] => some []
  | d :: ds => (D.py d).bind fun p => (D.pys ds).map fun ps => p :: ps
end
/-- a ref to a list, as a list -/
def deref (S : Store) : D → D
  | .ref r => match S[r]? with
    | some (.lst ds) => .lst ds
    | _ => .ref r
  | d => d
def dEq (S : Store) (a b : D) : Option Bool :=
  match (deref S a).py, (deref S b).py with
  | some p, some q => if SeqAt.shaped p && SeqAt.shaped q then some (PyData.eqv p q) else none
  | _, _ => none

/-- the items of what may be walked, read by place -/
def items (S : Store) : D → Option (List D)
  | .tup ds => some ds
  | .lst ds => some ds
  | .scr ns => some (ns.map .int)
  | .ref r => match S[r]? with
    | some (.lst ds) => some ds
    | _ => none
  | _ => none
def listOf (S : Store) : D → Option (List D)
  | .lst ds => some ds
  | .ref r => match S[r]? with
    | some (.lst ds) => some ds
    | _ => none
  | _ => none
def truth (S : Store) : D → Option Bool
  | .non => some false
  | .bl b => some b
  | .int i => some (i != 0)
  | .str x => if x.length ≤ sizeLine then some ((x.length : Int) != 0) else none
  | d => (items S d).map fun ds => !ds.isEmpty

def at_ {α : Type} (xs : List α) (i : Int) : Option α := L2.atI xs i
def dIx (S : Store) (a i : D) : Option D :=
  match i with
  | .int i => (items S a).bind fun ds => at_ ds i
  | _ => none
def cut {α : Type} (xs : List α) (lo hi : Option Int) : List α := (xs.drop (HT.sIx xs.length 0 lo)).take (HT.sIx xs.length xs.length hi - HT.sIx xs.length 0 lo)
def dSl (S : Store) (a : D) (lo hi : Option Int) : Option D :=
  match a with
  | .tup ds => some (.tup (cut ds lo hi))
  | d => (items S d).map fun ds => .lst (cut ds lo hi)

def mulOk (i j : Int) : Bool := decide (i.natAbs < 2 ^ 64) || (decide (j.natAbs < 2 ^ 64) || decide (i.natAbs.log2 + j.natAbs.log2 < 1000000))
def divOk (j : Int) : Bool := decide (j.natAbs.log2 < 9000)
def powOk (i j : Int) : Bool := decide (0 ≤ j) && (decide (j.natAbs ≤ 1000000) && decide (i.natAbs < 2 ^ 64))
/-- ints -/
def dInt (op : Operator) (i j : Int) : Option Int :=
  match op with
  | .Add => some (i + j)
  | .Sub => some (i - j)
  | .Mult => if mulOk i j then some (i * j) else none
  | .Mod => if 0 < j then some (i % j) else if j ≠ 0 then some (i.fmod j) else none
  | .FloorDiv => if divOk j then (if 0 < j then some (i / j) else if j ≠ 0 then some (i.fdiv j) else none) else none
  | .Pow => if powOk i j then some (i ^ j.toNat) else none
  | .LShift => if powOk i j then some (i * 2 ^ j.toNat) else none
  | .RShift => if 0 ≤ j then some (i / 2 ^ j.toNat) else none
  | .BitAnd => some (Builtin.bitAnd i j)
  | .BitOr => some (Builtin.bitOr i j)
  | .BitXor => some (Builtin.bitXor i j)
  | _ => none
/-- lists that are made: by + and * -/
def dList (S : Store) (op : Operator) (a b : D) : Option (List D) :=
  match op with
  | .Add => (listOf S a).bind fun xs => (listOf S b).bind fun ys => if xs.length + ys.length ≤ sizeLine then some (xs ++ ys) else none
  | .Mult => match b with
    | .int k => (listOf S a).bind fun xs => if k.natAbs < 2 ^ 63 ∧ xs.length * k.toNat ≤ sizeLine then some (List.replicate k.toNat xs).flatten else none
    | _ => none
  | _ => none
def dBin (S : Store) (op : Operator) (a b : D) : Option D :=
  match a, b with
  | .int i, .int j => (dInt op i j).map .int
  | .tup xs, .tup ys => match op with
    | .Add => if xs.length + ys.length ≤ sizeLine then some (.tup (xs ++ ys)) else none
    | _ => none
  | .tup xs, .int k => match op with
    | .Mult => if k.natAbs ≤ 1000 ∧ xs.length ≤ 1000 then some (.tup (List.replicate k.toNat xs).flatten) else none
    | _ => none
  | .str x, .str y => match op with
    | .Add => if x.length + y.length ≤ sizeLine then some (.str (x ++ y)) else none
    | _ => none
  | a, b => (dList S op a b).map .lst
def dUn (op : UnaryOp) (a : D) : Option D :=
  match op, a with
  | .USub, .int i => some (.int (-i))
  | .Invert, .int i => some (.int (Builtin.bitNot i))
  | .Not, .bl b => some (.bl (!b))
  | _, _ => none
def D.isNon : D → Bool
  | .non => true
  | _ => false
def dCmp (S : Store) (op : CmpOp) (a b : D) : Option Bool :=
  match op with
  | .Eq => dEq S a b
  | .NotEq => (dEq S a b).map (!·)
  | .Is => match b with
    | .non => some a.isNon
    | _ => none
  | .IsNot => match b with
    | .non => some (!a.isNon)
    | _ => none
  | .Lt => match a, b with
    | .int i, .int j => some (decide (i < j))
    | _, _ => none
  | .LtE => match a, b with
    | .int i, .int j => some (decide (i ≤ j))
    | _, _ => none
  | .Gt => match a, b with
    | .int i, .int j => some (decide (j < i))
    | _, _ => none
  | .GtE => match a, b with
    | .int i, .int j => some (decide (j ≤ i))
    | _, _ => none
  | _ => none

/-! ### targets -/
inductive Tg where
  | name (i : Nat) | tup (ts : List Tg)
mutual
def Tg.bind : Tg → D → AEnv → Option AEnv
  | .name i, d, ρ => if i < ρ.length then some (ρ.set i (some d)) else none
  | .tup ts, .tup ds, ρ => Tg.binds ts ds ρ
  | .tup _, _, _ => none
def Tg.binds : List Tg → List D → AEnv → Option AEnv
  | [], [], ρ => some ρ
  | t :: ts, d :: ds, ρ => (Tg.bind t d ρ).bind fun ρ' => Tg.binds ts ds ρ'
  | _, _, _ => none
end

/-! ### built-in functions -/
inductive Bi where
  | len | abs | int | tuple | min | max | sum | all | any | gcd
  deriving DecidableEq
def ints? : List D → Option (List Int)
  | [] => some []
  | .int i :: ds => (ints? ds).map (i :: ·)
  | _ => none
def bls? : List D → Option (List Bool)
  | [] => some []
  | .bl i :: ds => (bls? ds).map (i :: ·)
  | _ => none
def dBi (S : Store) (b : Bi) (ds : List D) : Option D :=
  match b, ds with
  | .len, [.str x] => if x.length ≤ sizeLine then some (.int x.length) else none
  | .len, [d] => (items S d).map fun xs => .int xs.length
  | .abs, [.int i] => some (.int (if i < 0 then -i else i))
  | .int, [.int i] => some (.int i)
  | .int, [.bl b] => some (.int (if b then 1 else 0))
  | .tuple, [d] => (items S d).map .tup
  | .min, [.int i, .int j] => some (.int (if j < i then j else i))
  | .max, [.int i, .int j] => some (.int (if j > i then j else i))
  | .sum, [d] => (listOf S d).bind fun xs => (ints? xs).map fun ns => .int ns.sum
  | .all, [d] => (listOf S d).bind fun xs => (bls? xs).map fun bs => .bl (bs.all id)
  | .any, [d] => (listOf S d).bind fun xs => (bls? xs).map fun bs => .bl (bs.any id)
  | .gcd, [.int i, .int j] => some (.int ((Nat.gcd i.natAbs j.natAbs : Nat) : Int))
  | _, _ => none
/-- isinstance -/
inductive Ty where
  | bool | int | str | tuple | list
  deriving DecidableEq
def dIsi (S : Store) (t : Ty) (d : D) : Option Bool :=
  match d with
  | .non => some false
  | .bl _ => some (match t with | .bool => true | .int => true | _ => false)
  | .int _ => some (match t with | .int => true | _ => false)
  | .str _ => some (match t with | .str => true | _ => false)
  | .tup _ => some (match t with | .tuple => true | _ => false)
  | .lst _ => some (match t with | .list => true | _ => false)
  | _ => none

/-! ### methods of the store's lists -/
inductive Me where
  | append | pop | reverse
  deriving DecidableEq
def dMe (m : Me) (o : D) (ds : List D) (S : Store) : Option (D × Store) :=
  match o with
  | .ref r => match S[r]? with
    | some (.lst xs) => match m, ds with
      | .append, [d] => if xs.length < sizeLine then some (.non, S.set r (.lst (xs ++ [d]))) else none
      | .pop, [] => match xs[xs.length - 1]? with
        | some d => some (d, S.set r (.lst xs.dropLast))
        | none => none
      | .pop, [.int i] => match L2.ixN xs.length i with
        | some j => match xs[j]? with
          | some d => some (d, S.set r (.lst (xs.eraseIdx j)))
          | none => none
        | none => none
      | .reverse, [] => some (.non, S.set r (.lst xs.reverse))
      | _, _ => none
    | _ => none
  | _ => none

/-- the receiver is of the method's kind -/
def recvOk (m : Me) (o : D) (S : Store) : Bool :=
  match o with
  | .ref r => match S[r]? with
    | some (.lst _) => true
    | _ => false
  | _ => false

/-! ### expressions -/
inductive IE where
  | lit (d : D)
  | var (i : Nat)
  | glob (x : Str)
  | tup (es : List IE)
  | lst (es : List IE)
  | bin (op : Operator) (a b : IE)
  | un (op : UnaryOp) (a : IE)
  | bop (op : BoolOp) (es : List IE)
  | cmp (op : CmpOp) (a b : IE)
  | chain (op op' : CmpOp) (a b c : IE)
  | ite (c a b : IE)
  | ix (a i : IE)
  | slc (a : IE) (lo hi : Option IE)
  | call (f : Nat) (es : List IE)
  | bi (b : Bi) (es : List IE)
  | isi (t : Ty) (a : IE)
  | meth (m : Me) (o : IE) (es : List IE)
  | list1 (a : IE)
  | lc (own : List Nat) (tg : Tg) (rg : Bool) (it : List IE) (ifs : List IE) (elt : IE)
  | bad

def isAnd : BoolOp → Bool
  | .And => true
  | .Or => false

abbrev CallF := Nat → List D → Store → Option (D × Store)

/-- one more range -/
def rangeD (lo hi : Int) : Option (List D) := if lo.natAbs < 2 ^ 62 ∧ hi.natAbs < 2 ^ 62 then some ((List.range (hi - lo).toNat).map fun i => D.int (lo + (i : Nat))) else none
/-- what a walk goes over: its items, and what must stay so -/
def walk (rg : Bool) (ds : List D) (S : Store) : Option (List D) :=
  match rg, ds with
  | true, [.int j] => rangeD 0 j
  | true, [.int i, .int j] => rangeD i j
  | false, [d] => items S d
  | _, _ => none
def stays (rg : Bool) (ds : List D) (xs : List D) (S : Store) : Bool :=
  match rg, ds with
  | false, [.ref r] => match S[r]? with
    | some (.lst ys) => D.sames ys xs
    | _ => false
  | _, _ => true

/-- the block of a comprehension, over its items: f gives the new item, or none where a test fails -/
def evLc (chk : Store → Bool) (f : D → Store → Option (Option D × Store)) : List D → List D → Store → Option (List D × Store)
  | [], acc, S => if chk S then some (acc, S) else none
  | d :: ds, acc, S => if chk S then (match f d S with
      | some (some y, S') => if acc.length < sizeLine then evLc chk f ds (acc ++ [y]) S' else none
      | some (none, S') => evLc chk f ds acc S'
      | none => none) else none
def wipeA (ρ : AEnv) : List Nat → AEnv
  | [] => ρ
  | v :: vs => (wipeA ρ vs).set v none

mutual
def ev (cf : CallF) (gl : Str → Option D) : IE → AEnv → Store → Option (D × Store)
  | .lit d, _, S => some (d, S)
  | .var i, ρ, S => match ρ[i]? with
    | some (some d) => some (d, S)
    | _ => none
  | .glob x, _, S => (gl x).map fun d => (d, S)
  | .tup es, ρ, S => match evs cf gl es ρ S with
    | some (ds, S') => if ds.length ≤ sizeLine then some (.tup ds, S') else none
    | none => none
  | .lst es, ρ, S => match evs cf gl es ρ S with
    | some (ds, S') => if ds.length ≤ sizeLine then some (.lst ds, S') else none
    | none => none
  | .bin op a b, ρ, S => match ev cf gl a ρ S with
    | some (x, S1) => match ev cf gl b ρ S1 with
      | some (y, S2) => (dBin S2 op x y).map fun z => (z, S2)
      | none => none
    | none => none
  | .un op a, ρ, S => match ev cf gl a ρ S with
    | some (x, S1) => (dUn op x).map fun z => (z, S1)
    | none => none
  | .bop op es, ρ, S => evB cf gl op es ρ S
  | .cmp op a b, ρ, S => match ev cf gl a ρ S with
    | some (x, S1) => match ev cf gl b ρ S1 with
      | some (y, S2) => (dCmp S2 op x y).map fun z => (.bl z, S2)
      | none => none
    | none => none
  | .chain op op' a b c, ρ, S => match ev cf gl a ρ S with
    | some (x, S1) => match ev cf gl b ρ S1 with
      | some (y, S2) => match dCmp S2 op x y with
        | some true => match ev cf gl c ρ S2 with
          | some (z, S3) => (dCmp S3 op' y z).map fun r => (.bl r, S3)
          | none => none
        | some false => some (.bl false, S2)
        | none => none
      | none => none
    | none => none
  | .ite c a b, ρ, S => match evT cf gl c ρ S with
    | some (true, S1) => ev cf gl a ρ S1
    | some (false, S1) => ev cf gl b ρ S1
    | none => none
  | .ix a i, ρ, S => match ev cf gl a ρ S with
    | some (x, S1) => match ev cf gl i ρ S1 with
      | some (y, S2) => (dIx S2 x y).map fun z => (z, S2)
      | none => none
    | none => none
  | .slc a lo hi, ρ, S => match ev cf gl a ρ S with
    | some (x, S1) => match evO cf gl lo ρ S1 with
      | some (l, S2) => match evO cf gl hi ρ S2 with
        | some (h, S3) => (dSl S3 x l h).map fun z => (z, S3)
        | none => none
      | none => none
    | none => none
  | .call f es, ρ, S => match evs cf gl es ρ S with
    | some (ds, S') => cf f ds S'
    | none => none
  | .bi b es, ρ, S => match evs cf gl es ρ S with
    | some (ds, S') => (dBi S' b ds).map fun z => (z, S')
    | none => none
  | .isi t a, ρ, S => match ev cf gl a ρ S with
    | some (x, S1) => (dIsi S1 t x).map fun z => (.bl z, S1)
    | none => none
  | .meth m o es, ρ, S => match ev cf gl o ρ S with
    | some (x, S1) => if recvOk m x S1 then (match evs cf gl es ρ S1 with
      | some (ds, S2) => dMe m x ds S2
      | none => none) else none
    | none => none
  | .list1 a, ρ, S => match ev cf gl a ρ S with
    | some (x, S1) => (items S1 x).map fun ds => (.lst ds, S1)
    | none => none
  | .lc own tg rg it ifs elt, ρ, S => match evs cf gl it ρ S with
    | some (ds, S1) => match walk rg ds S1 with
      | some xs => (evLc (stays rg ds xs) (fun d S => match Tg.bind tg d (wipeA ρ own) with
          | some ρ' => match evTs cf gl ifs ρ' S with
            | some (true, S2) => (ev cf gl elt ρ' S2).map fun p => (some p.1, p.2)
            | some (false, S2) => some (none, S2)
            | none => none
          | none => none) xs [] S1).map fun p => (.lst p.1, p.2)
      | none => none
    | none => none
  | .bad, _, _ => none
def evs (cf : CallF) (gl : Str → Option D) : List IE → AEnv → Store → Option (List D × Store)
  | [], _, S => some ([], S)
  | e :: es, ρ, S => match ev cf gl e ρ S with
    | some (d, S1) => match evs cf gl es ρ S1 with
      | some (ds, S2) => some (d :: ds, S2)
      | none => none
    | none => none
/-- and, or as values: all but the last are bools -/
def evB (cf : CallF) (gl : Str → Option D) (op : BoolOp) : List IE → AEnv → Store → Option (D × Store)
  | [], _, _ => none
  | e :: es, ρ, S => match ev cf gl e ρ S with
    | some (d, S1) => if es.isEmpty then some (d, S1) else match d with
      | .bl b => if b = isAnd op then evB cf gl op es ρ S1 else some (.bl b, S1)
      | _ => none
    | none => none
/-- a test -/
def evT (cf : CallF) (gl : Str → Option D) : IE → AEnv → Store → Option (Bool × Store)
  | .un .Not a, ρ, S => match evT cf gl a ρ S with
    | some (b, S1) => some (!b, S1)
    | none => none
  | .bop op es, ρ, S => evBT cf gl op es ρ S
  | .ite c a b, ρ, S => match evT cf gl c ρ S with
    | some (true, S1) => evT cf gl a ρ S1
    | some (false, S1) => evT cf gl b ρ S1
    | none => none
  | .var i, ρ, S => match ρ[i]? with
    | some (some d) => (truth S d).map fun b => (b, S)
    | _ => none
  | .cmp op a b, ρ, S => match ev cf gl a ρ S with
    | some (x, S1) => match ev cf gl b ρ S1 with
      | some (y, S2) => (dCmp S2 op x y).map fun z => (z, S2)
      | none => none
    | none => none
  | .chain op op' a b c, ρ, S => match ev cf gl a ρ S with
    | some (x, S1) => match ev cf gl b ρ S1 with
      | some (y, S2) => match dCmp S2 op x y with
        | some true => match ev cf gl c ρ S2 with
          | some (z, S3) => (dCmp S3 op' y z).map fun r => (r, S3)
          | none => none
        | some false => some (false, S2)
        | none => none
      | none => none
    | none => none
  | .call f es, ρ, S => match evs cf gl es ρ S with
    | some (ds, S') => match cf f ds S' with
      | some (.bl b, S2) => some (b, S2)
      | _ => none
    | none => none
  | .bi b es, ρ, S => match evs cf gl es ρ S with
    | some (ds, S') => match dBi S' b ds with
      | some (.bl b) => some (b, S')
      | _ => none
    | none => none
  | .isi t a, ρ, S => match ev cf gl a ρ S with
    | some (x, S1) => (dIsi S1 t x).map fun z => (z, S1)
    | none => none
  | .ix a i, ρ, S => match ev cf gl a ρ S with
    | some (x, S1) => match ev cf gl i ρ S1 with
      | some (y, S2) => match dIx S2 x y with
        | some d => (truth S2 d).map fun b => (b, S2)
        | none => none
      | none => none
    | none => none
  | _, _, _ => none
def evBT (cf : CallF) (gl : Str → Option D) (op : BoolOp) : List IE → AEnv → Store → Option (Bool × Store)
  | [], _, S => some (isAnd op, S)
  | e :: es, ρ, S => match evT cf gl e ρ S with
    | some (b, S1) => if b = isAnd op then evBT cf gl op es ρ S1 else some (b, S1)
    | none => none
/-- a comprehension's tests -/
def evTs (cf : CallF) (gl : Str → Option D) : List IE → AEnv → Store → Option (Bool × Store)
  | [], _, S => some (true, S)
  | e :: es, ρ, S => match evT cf gl e ρ S with
    | some (true, S1) => evTs cf gl es ρ S1
    | some (false, S1) => some (false, S1)
    | none => none
def evO (cf : CallF) (gl : Str → Option D) : Option IE → AEnv → Store → Option (Option Int × Store)
  | none, _, S => some (none, S)
  | some e, ρ, S => match ev cf gl e ρ S with
    | some (.int i, S1) => some (some i, S1)
    | _ => none
end

/-! ### statements -/
inductive IS where
  | asg (tg : Tg) (e : IE)
  | new (i : Nat) (e : IE)
  | par (i j : Nat) (a b : IE)
  | seti (o i e : IE)
  | aug (i : Nat) (op : Operator) (e : IE)
  | ex (e : IE)
  | ret (e : IE)
  | retN
  | ite (c : IE) (a b : List IS)
  | whl (n : Nat) (c : IE) (b : List IS)
  | for_ (tg : Tg) (rg : Bool) (it : List IE) (b : List IS)
  | pass | brk | cont | bad
def augOp (op : Operator) (x y : Int) : Option Int := match op with
  | .Add => some (x + y)
  | .Sub => some (x - y)
  | _ => none
inductive Fl where
  | next | brk | cont | ret (d : D)
abbrev RS := Option (Fl × AEnv × Store)

def evFor (chk : Store → Bool) (body : D → AEnv → Store → RS) : List D → AEnv → Store → RS
  | [], ρ, S => if chk S then some (.next, ρ, S) else none
  | d :: ds, ρ, S => if chk S then (match body d ρ S with
      | some (.next, ρ', S') => evFor chk body ds ρ' S'
      | some (.cont, ρ', S') => evFor chk body ds ρ' S'
      | some (.brk, ρ', S') => some (.next, ρ', S')
      | some (.ret v, ρ', S') => some (.ret v, ρ', S')
      | none => none) else none
def evWh (c : AEnv → Store → Option (Bool × Store)) (body : AEnv → Store → RS) : Nat → AEnv → Store → RS
  | 0, _, _ => none
  | n + 1, ρ, S => match c ρ S with
    | some (true, S1) => match body ρ S1 with
      | some (.next, ρ', S') => evWh c body n ρ' S'
      | some (.cont, ρ', S') => evWh c body n ρ' S'
      | some (.brk, ρ', S') => some (.next, ρ', S')
      | some (.ret v, ρ', S') => some (.ret v, ρ', S')
      | none => none
    | some (false, S1) => some (.next, ρ, S1)
    | none => none

mutual
def evS (cf : CallF) (gl : Str → Option D) : IS → AEnv → Store → RS
  | .asg tg e, ρ, S => match ev cf gl e ρ S with
    | some (d, S1) => (Tg.bind tg d ρ).map fun ρ' => (.next, ρ', S1)
    | none => none
  | .new i e, ρ, S => match ev cf gl e ρ S with
    | some (.lst ds, S1) => if i < ρ.length then some (.next, ρ.set i (some (.ref S1.length)), S1 ++ [.lst ds]) else none
    | _ => none
  | .par i j a b, ρ, S => match ev cf gl a ρ S with
    | some (x, S1) => match ev cf gl b ρ S1 with
      | some (y, S2) => if i < ρ.length ∧ j < ρ.length then some (.next, (ρ.set i (some x)).set j (some y), S2) else none
      | none => none
    | none => none
  | .seti o i e, ρ, S => match ev cf gl e ρ S with
    | some (d, S1) => match ev cf gl o ρ S1 with
      | some (.ref r, S2) => match ev cf gl i ρ S2 with
        | some (.int k, S3) => match S3[r]? with
          | some (.lst xs) => match L2.ixN xs.length k with
            | some j => some (.next, ρ, S3.set r (.lst (xs.set j d)))
            | none => none
          | _ => none
        | _ => none
      | _ => none
    | none => none
  | .aug i op e, ρ, S => match ρ[i]? with
    | some (some (.int x)) => match ev cf gl e ρ S with
      | some (.int y, S1) => (augOp op x y).map fun z => (.next, ρ.set i (some (.int z)), S1)
      | _ => none
    | _ => none
  | .ex e, ρ, S => match ev cf gl e ρ S with
    | some (_, S1) => some (.next, ρ, S1)
    | none => none
  | .ret e, ρ, S => match ev cf gl e ρ S with
    | some (d, S1) => some (.ret d, ρ, S1)
    | none => none
  | .retN, ρ, S => some (.ret .non, ρ, S)
  | .ite c a b, ρ, S => match evT cf gl c ρ S with
    | some (true, S1) => evSs cf gl a ρ S1
    | some (false, S1) => evSs cf gl b ρ S1
    | none => none
  | .whl n c b, ρ, S => evWh (evT cf gl c) (evSs cf gl b) n ρ S
  | .for_ tg rg it b, ρ, S => match evs cf gl it ρ S with
    | some (ds, S1) => match walk rg ds S1 with
      | some xs => evFor (stays rg ds xs) (fun d ρ S => match Tg.bind tg d ρ with
          | some ρ' => evSs cf gl b ρ' S
          | none => none) xs ρ S1
      | none => none
    | none => none
  | .pass, ρ, S => some (.next, ρ, S)
  | .brk, ρ, S => some (.brk, ρ, S)
  | .cont, ρ, S => some (.cont, ρ, S)
  | .bad, _, _ => none
def evSs (cf : CallF) (gl : Str → Option D) : List IS → AEnv → Store → RS
  | [], ρ, S => some (.next, ρ, S)
  | s :: ss, ρ, S => match evS cf gl s ρ S with
    | some (.next, ρ', S') => evSs cf gl ss ρ' S'
    | r => r
end

/-! ### defs -/
structure FD where
  name : Str
  ps : List Str
  N : List Str
  body : List IS
/-- what a call leaves: the store cut where nothing older or handed back names what is new -/
def trunc (n : Nat) (d : D) (S : Store) : D × Store :=
  if D.undr n d && (S.take n).all (O.undr n) then (d, S.take n) else (d, S)
def startA (n : Nat) (ds : List D) : AEnv := ds.map some ++ List.replicate (n - ds.length) none
def runF (cf : CallF) (gl : Str → Option D) (fd : FD) (ds : List D) (S : Store) : Option (D × Store) :=
  if ds.length = fd.ps.length then
    match evSs cf gl fd.body (startA fd.N.length ds) S with
    | some (.ret d, _, S') => some (trunc S.length d S')
    | some (.next, _, S') => some (trunc S.length .non S')
    | _ => none
  else none
def call (T : Nat → Option FD) (gl : Str → Option D) : Nat → CallF
  | 0 => fun _ _ _ => none
  | k + 1 => fun f ds S => match T f with
    | some fd => runF (call T gl k) gl fd ds S
    | none => none
end Ab

/-! Ab2: which values stand for which data; what stays. -/
namespace Ab
open PySem PySem.Spec PyProof.Rows L2

structure G where
  fz : Addr → Prop
  kp : Addr → Prop
  m : List Addr

def pers : HO → Bool
  | .tup _ => true
  | .frz _ _ => true
  | _ => false

/-- a list that stays: frozen by us, known, or of the module -/
def SqS (K : PySem.W.Frag) (g : G) (H : Hp) (a : Addr) (xs : List V) : Prop :=
  (H a = some (.lst xs) ∧ g.fz a) ∨ (∃ o, H a = some (.frz o (.lst xs))) ∨
    ∃ (o : Obj) (its : Array Value) (n : Nat), K.lookup a = some o ∧ o.cls = .type "list" ∧ o.dict = none ∧ o.data = .seq its n ∧ its.size ≤ sizeLine ∧ Vals xs its.toList
theorem SqS.sq {K : PySem.W.Frag} {g : G} {H : Hp} {a : Addr} {xs : List V} (h : SqS K g H a xs) : SqL K H a xs := by
  rcases h with ⟨h, _⟩ | ⟨o, h⟩ | h
  · exact .inl (.inl h)
  · exact .inl (.inr ⟨o, h⟩)
  · exact .inr h

section
variable (K : PySem.W.Frag) (fa : Nat → Option Addr)
mutual
inductive Rep (g : G) (H : Hp) : D → V → Prop
  | non : Rep g H .non .non
  | bl (b : Bool) : Rep g H (.bl b) (.bl b)
  | int (i : Int) : Rep g H (.int i) (.int i)
  | str (x : Str) : Rep g H (.str x) (.str x)
  | tup {a : Addr} {vs : List V} {ds : List D} : SqT K H a vs → Reps g H ds vs → Rep g H (.tup ds) (.ref a)
  | lst {a : Addr} {vs : List V} {ds : List D} : H a = some (.lst vs) → g.fz a → Reps g H ds vs → Rep g H (.lst ds) (.ref a)
  | scr {a : Addr} {ns : List Int} : SqS K g H a (ns.map V.int) → Rep g H (.scr ns) (.ref a)
  | ref {a : Addr} {r : Nat} : g.m[r]? = some a → Rep g H (.ref r) (.ref a)
  | fn {a : Addr} {f : Nat} : fa f = some a → Rep g H (.fn f) (.ref a)
inductive Reps (g : G) (H : Hp) : List D → List V → Prop
  | nil : Reps g H [] []
  | cons {d : D} {ds : List D} {v : V} {vs : List V} : Rep g H d v → Reps g H ds vs → Reps g H (d :: ds) (v :: vs)
end
def ORep (g : G) (H : Hp) (a : Addr) : O → Prop
  | .lst ds => ∃ vs, H a = some (.lst vs) ∧ Reps K fa g H ds vs
structure RelS (g : G) (S : Store) (H : Hp) : Prop where
  len : g.m.length = S.length
  inj : ∀ (i j : Nat) a, g.m[i]? = some a → g.m[j]? = some a → i = j
  sepf : ∀ a, g.fz a → a ∉ g.m ∧ ¬ g.kp a ∧ H a ≠ none
  sepk : ∀ a, g.kp a → a ∉ g.m ∧ H a ≠ none
  obj : ∀ (r : Nat) o a, S[r]? = some o → g.m[r]? = some a → ORep K fa g H a o
def ERel (g : G) (H : Hp) (ρ : AEnv) (σ : L2.St) : Prop := ρ.length = σ.length ∧ ∀ (i : Nat) d, ρ[i]? = some (some d) → ∃ v, σ[i]? = some (some v) ∧ Rep K fa g H d v
end

structure Ext (g : G) (H : Hp) (g' : G) (H' : Hp) : Prop where
  fz : ∀ a, g.fz a → g'.fz a ∧ H' a = H a
  kp : ∀ a, g.kp a → g'.kp a ∧ H' a = H a
  pers : ∀ a o, H a = some o → pers o = true → H' a = some o
  m : ∃ r, g'.m = g.m ++ r
theorem Ext.refl (g : G) (H : Hp) : Ext g H g H := ⟨fun _ h => ⟨h, rfl⟩, fun _ h => ⟨h, rfl⟩, fun _ _ h _ => h, [], by simp⟩
theorem Ext.trans {g1 g2 g3 : G} {H1 H2 H3 : Hp} (a : Ext g1 H1 g2 H2) (b : Ext g2 H2 g3 H3) : Ext g1 H1 g3 H3 :=
  ⟨fun x h => ⟨(b.fz x (a.fz x h).1).1, (b.fz x (a.fz x h).1).2.trans (a.fz x h).2⟩, fun x h => ⟨(b.kp x (a.kp x h).1).1, (b.kp x (a.kp x h).1).2.trans (a.kp x h).2⟩,
    fun x o h p => b.pers x o (a.pers x o h p) p, by
      obtain ⟨r, e⟩ := a.m
      obtain ⟨s, e'⟩ := b.m
      exact ⟨r ++ s, by rw [e', e, List.append_assoc]⟩⟩
theorem Ext.get {g g' : G} {H H' : Hp} (e : Ext g H g' H') {r : Nat} {a : Addr} (h : g.m[r]? = some a) : g'.m[r]? = some a := by
  obtain ⟨s, e⟩ := e.m
  rw [e, List.getElem?_append_left (List.getElem?_eq_some_iff.mp h).1]
  exact h

section
variable {K : PySem.W.Frag} {fa : Nat → Option Addr} {g g' : G} {H H' : Hp}
theorem SqT.ext (e : Ext g H g' H') {a : Addr} {vs : List V} (h : SqT K H a vs) : SqT K H' a vs := by
  rcases h with (h | ⟨o, h⟩) | h
  · exact .inl (.inl (e.pers _ _ h rfl))
  · exact .inl (.inr ⟨o, e.pers _ _ h rfl⟩)
  · exact .inr h
theorem SqS.ext (e : Ext g H g' H') {a : Addr} {vs : List V} (h : SqS K g H a vs) : SqS K g' H' a vs := by
  rcases h with ⟨h, f⟩ | ⟨o, h⟩ | h
  · exact .inl ⟨(e.fz a f).2.trans h, (e.fz a f).1⟩
  · exact .inr (.inl ⟨o, e.pers _ _ h rfl⟩)
  · exact .inr (.inr h)
mutual
theorem Rep.ext (e : Ext g H g' H') : ∀ {d : D} {v : V}, Rep K fa g H d v → Rep K fa g' H' d v
  | _, _, .non => .non
  | _, _, .bl b => .bl b
  | _, _, .int b => .int b
  | _, _, .str b => .str b
  | _, _, .tup h r => .tup (SqT.ext e h) (Reps.ext e r)
  | _, _, .lst h f r => .lst ((e.fz _ f).2.trans h) (e.fz _ f).1 (Reps.ext e r)
  | _, _, .scr h => .scr (h.ext e)
  | _, _, .ref h => .ref (e.get h)
  | _, _, .fn h => .fn h
theorem Reps.ext (e : Ext g H g' H') : ∀ {d : List D} {v : List V}, Reps K fa g H d v → Reps K fa g' H' d v
  | _, _, .nil => .nil
  | _, _, .cons h t => .cons (Rep.ext e h) (Reps.ext e t)
end
theorem Reps.length : ∀ {d : List D} {v : List V}, Reps K fa g H d v → d.length = v.length
  | _, _, .nil => rfl
  | _, _, .cons _ t => congrArg Nat.succ (Reps.length t)
theorem Reps.get : ∀ {ds : List D} {vs : List V} {i : Nat} {d : D}, Reps K fa g H ds vs → ds[i]? = some d → ∃ v, vs[i]? = some v ∧ Rep K fa g H d v
  | _, _, i, _, .nil, h => by simp at h
  | _, _, 0, _, .cons h t, e => by
    simp at e; subst e
    exact ⟨_, rfl, h⟩
  | _, _, i + 1, _, .cons h t, e => by
    obtain ⟨v, h1, h2⟩ := Reps.get (i := i) t (by simpa using e)
    exact ⟨v, by simpa using h1, h2⟩
theorem Reps.get' : ∀ {ds : List D} {vs : List V} {i : Nat} {v : V}, Reps K fa g H ds vs → vs[i]? = some v → ∃ d, ds[i]? = some d ∧ Rep K fa g H d v
  | _, _, i, _, .nil, h => by simp at h
  | _, _, 0, _, .cons h t, e => by
    simp at e; subst e
    exact ⟨_, rfl, h⟩
  | _, _, i + 1, _, .cons h t, e => by
    obtain ⟨v, h1, h2⟩ := Reps.get' (i := i) t (by simpa using e)
    exact ⟨v, by simpa using h1, h2⟩
theorem Reps.append : ∀ {ds es : List D} {vs ws : List V}, Reps K fa g H ds vs → Reps K fa g H es ws → Reps K fa g H (ds ++ es) (vs ++ ws)
  | _, _, _, _, .nil, h => h
  | _, _, _, _, .cons r t, h => .cons r (Reps.append t h)
theorem Reps.one {d : D} {v : V} (h : Rep K fa g H d v) : Reps K fa g H [d] [v] := .cons h .nil
theorem Reps.drop : ∀ {ds : List D} {vs : List V} (n : Nat), Reps K fa g H ds vs → Reps K fa g H (ds.drop n) (vs.drop n)
  | _, _, 0, h => h
  | _, _, n + 1, .nil => .nil
  | _, _, n + 1, .cons _ t => Reps.drop n t
theorem Reps.take : ∀ {ds : List D} {vs : List V} (n : Nat), Reps K fa g H ds vs → Reps K fa g H (ds.take n) (vs.take n)
  | _, _, 0, h => by simpa using .nil
  | _, _, n + 1, .nil => .nil
  | _, _, n + 1, .cons h t => .cons h (Reps.take n t)
theorem Reps.eraseIdx : ∀ {ds : List D} {vs : List V} (n : Nat), Reps K fa g H ds vs → Reps K fa g H (ds.eraseIdx n) (vs.eraseIdx n)
  | _, _, _, .nil => .nil
  | _, _, 0, .cons _ t => t
  | _, _, n + 1, .cons h t => .cons h (Reps.eraseIdx n t)
theorem Reps.set {d : D} {v : V} (r : Rep K fa g H d v) : ∀ {ds : List D} {vs : List V} (n : Nat), Reps K fa g H ds vs → Reps K fa g H (ds.set n d) (vs.set n v)
  | _, _, _, .nil => .nil
  | _, _, 0, .cons _ t => .cons r t
  | _, _, n + 1, .cons h t => .cons h (Reps.set r n t)
theorem Reps.dropLast {ds : List D} {vs : List V} (h : Reps K fa g H ds vs) : Reps K fa g H ds.dropLast vs.dropLast := by
  rw [List.dropLast_eq_take, List.dropLast_eq_take, h.length]
  exact h.take _
theorem Reps.reverse : ∀ {ds : List D} {vs : List V}, Reps K fa g H ds vs → Reps K fa g H ds.reverse vs.reverse
  | _, _, .nil => .nil
  | _, _, .cons h t => by
    rw [List.reverse_cons, List.reverse_cons]
    exact (Reps.reverse t).append (.one h)
theorem Reps.rep {ds : List D} {vs : List V} (h : Reps K fa g H ds vs) : ∀ k : Nat, Reps K fa g H (List.replicate k ds).flatten (List.replicate k vs).flatten
  | 0 => .nil
  | k + 1 => by
    rw [List.replicate_succ, List.replicate_succ, List.flatten_cons, List.flatten_cons]
    exact h.append (Reps.rep h k)
theorem Reps.ints (ns : List Int) : Reps K fa g H (ns.map .int) (ns.map .int) := by
  induction ns with
  | nil => exact .nil
  | cons n ns ih => exact .cons (.int n) ih

/-! ### the store -/
theorem RelS.addr {S : Store} (r : RelS K fa g S H) {i : Nat} {o : O} (h : S[i]? = some o) : ∃ a, g.m[i]? = some a ∧ ORep K fa g H a o := by
  have hi : i < g.m.length := by rw [r.len]; exact (List.getElem?_eq_some_iff.mp h).1
  exact ⟨g.m[i], List.getElem?_eq_getElem hi, r.obj i o _ h (List.getElem?_eq_getElem hi)⟩
theorem ORep.ext (e : Ext g H g' H') {a : Addr} {o : O} (ha : H' a = H a) (h : ORep K fa g H a o) : ORep K fa g' H' a o := by
  cases o with
  | lst ds =>
    obtain ⟨vs, h1, h2⟩ := h
    exact ⟨vs, ha.trans h1, h2.ext e⟩
/-- something new is laid at p -/
theorem RelS.newExt {S : Store} (r : RelS K fa g S H) {p : Addr} {o : HO} (hp : H p = none) : Ext g H g (upd H p o) :=
  ⟨fun a f => ⟨f, upd_ne fun z => (r.sepf a f).2.2 (z ▸ hp)⟩, fun a f => ⟨f, upd_ne fun z => (r.sepk a f).2 (z ▸ hp)⟩, fun a u h _ => by rw [upd_ne (ne_of_none h hp)]; exact h, [], by simp⟩
theorem RelS.memne {S : Store} (r : RelS K fa g S H) {i : Nat} {a : Addr} (h : g.m[i]? = some a) : H a ≠ none := by
  have hi : i < S.length := by rw [← r.len]; exact (List.getElem?_eq_some_iff.mp h).1
  have := r.obj i S[i] a (List.getElem?_eq_getElem hi) h
  cases e : S[i] with
  | lst ds =>
    rw [e] at this
    obtain ⟨vs, h1, _⟩ := this
    rw [h1]
    exact fun z => nomatch z
theorem RelS.new {S : Store} (r : RelS K fa g S H) {p : Addr} {o : HO} (hp : H p = none) : RelS K fa g S (upd H p o) where
  len := r.len
  inj := r.inj
  sepf := fun a f => ⟨(r.sepf a f).1, (r.sepf a f).2.1, by rw [upd_ne (show a ≠ p from fun z => (r.sepf a f).2.2 (z ▸ hp))]; exact (r.sepf a f).2.2⟩
  sepk := fun a f => ⟨(r.sepk a f).1, by rw [upd_ne (show a ≠ p from fun z => (r.sepk a f).2 (z ▸ hp))]; exact (r.sepk a f).2⟩
  obj := fun i u a h1 h2 => (r.obj i u a h1 h2).ext (r.newExt hp) (upd_ne fun z => r.memne h2 (z ▸ hp))
/-- a thing that is in nobody's hands -/
structure Own (g : G) (H : Hp) (p : Addr) (vs : List V) : Prop where
  at_ : H p = some (.lst vs)
  nfz : ¬ g.fz p
  nkp : ¬ g.kp p
  nm : p ∉ g.m
theorem RelS.own {S : Store} (r : RelS K fa g S H) {p : Addr} {vs : List V} (hp : H p = none) : Own g (upd H p (.lst vs)) p vs :=
  ⟨upd_same, fun f => (r.sepf p f).2.2 hp, fun f => (r.sepk p f).2 hp, fun hm => by
    obtain ⟨i, hi⟩ := List.getElem?_of_mem hm
    exact r.memne hi hp⟩
/-- it is frozen -/
def G.freeze (g : G) (p : Addr) : G := { g with fz := fun a => g.fz a ∨ a = p }
theorem Own.freezeExt {p : Addr} {vs : List V} (o : Own g H p vs) : Ext g H (g.freeze p) H := ⟨fun _ f => ⟨.inl f, rfl⟩, fun _ f => ⟨f, rfl⟩, fun _ _ h _ => h, [], by simp [G.freeze]⟩
theorem Own.freeze {S : Store} {p : Addr} {vs : List V} (o : Own g H p vs) (r : RelS K fa g S H) : RelS K fa (g.freeze p) S H where
  len := r.len
  inj := r.inj
  sepf := fun a f => by
    rcases f with f | rfl
    · exact r.sepf a f
    · exact ⟨o.nm, o.nkp, by rw [o.at_]; exact fun z => nomatch z⟩
  sepk := r.sepk
  obj := fun i u a h1 h2 => (r.obj i u a h1 h2).ext o.freezeExt rfl
theorem Own.rep {p : Addr} {vs : List V} {ds : List D} (o : Own g H p vs) (h : Reps K fa g H ds vs) : Rep K fa (g.freeze p) H (.lst ds) (.ref p) := .lst o.at_ (.inr rfl) (h.ext o.freezeExt)
/-- it is kept for a while -/
def G.keep (g : G) (p : Addr) : G := { g with kp := fun a => g.kp a ∨ a = p }
theorem Own.keepExt {p : Addr} {vs : List V} (o : Own g H p vs) : Ext g H (g.keep p) H := ⟨fun _ f => ⟨f, rfl⟩, fun _ f => ⟨.inl f, rfl⟩, fun _ _ h _ => h, [], by simp [G.keep]⟩
theorem Own.keep {S : Store} {p : Addr} {vs : List V} (o : Own g H p vs) (r : RelS K fa g S H) : RelS K fa (g.keep p) S H where
  len := r.len
  inj := r.inj
  sepf := fun a f => ⟨(r.sepf a f).1, fun q => by
    rcases q with q | rfl
    · exact (r.sepf a f).2.1 q
    · exact o.nfz f, (r.sepf a f).2.2⟩
  sepk := fun a f => by
    rcases f with f | rfl
    · exact r.sepk a f
    · exact ⟨o.nm, by rw [o.at_]; exact fun z => nomatch z⟩
  obj := fun i u a h1 h2 => (r.obj i u a h1 h2).ext o.keepExt rfl
/-- .. and let go again, written anew -/
def G.drop (g : G) (p : Addr) : G := { g with kp := fun a => g.kp a ∧ a ≠ p }
theorem Rep.drop (p : Addr) : (∀ {d : D} {v : V}, Rep K fa g H d v → Rep K fa (g.drop p) H d v) := fun {d v} h => by
  refine Rep.rec (motive_1 := fun d v _ => Rep K fa (g.drop p) H d v) (motive_2 := fun ds vs _ => Reps K fa (g.drop p) H ds vs) ?_ ?_ ?_ ?_ ?_ ?_ ?_ ?_ ?_ ?_ ?_ h
  · exact .non
  · exact .bl
  · exact .int
  · exact .str
  · exact fun h _ r => .tup h r
  · exact fun h f _ r => .lst h f r
  · exact fun h => .scr h
  · exact fun h => .ref h
  · exact fun h => .fn h
  · exact .nil
  · exact fun _ _ a b => .cons a b
theorem Reps.dropK (p : Addr) {ds : List D} {vs : List V} (h : Reps K fa g H ds vs) : Reps K fa (g.drop p) H ds vs := by
  induction ds generalizing vs with
  | nil => cases h; exact .nil
  | cons d ds ih =>
    cases h with
    | cons a b => exact .cons (a.drop p) (ih b)
theorem RelS.drop {S : Store} {p : Addr} (r : RelS K fa g S H) : RelS K fa (g.drop p) S H where
  len := r.len
  inj := r.inj
  sepf := fun a f => ⟨(r.sepf a f).1, fun q => (r.sepf a f).2.1 q.1, (r.sepf a f).2.2⟩
  sepk := fun a f => r.sepk a f.1
  obj := fun i u a h1 h2 => by
    have := r.obj i u a h1 h2
    cases u with
    | lst ds =>
      obtain ⟨vs, h3, h4⟩ := this
      exact ⟨vs, h3, h4.dropK p⟩
theorem RelS.dropOwn {S : Store} {p : Addr} {vs : List V} (r : RelS K fa g S H) (hp : H p = some (.lst vs)) (hk : g.kp p) : Own (g.drop p) H p vs :=
  ⟨hp, fun f => (r.sepf p f).2.1 hk, fun q => q.2 rfl, (r.sepk p hk).1⟩
/-- what is nobody's is written -/
theorem Own.writeExt {p : Addr} {vs ws : List V} (o : Own g H p vs) : Ext g H g (upd H p (.lst ws)) :=
  ⟨fun a f => ⟨f, upd_ne fun z => o.nfz (z ▸ f)⟩, fun a f => ⟨f, upd_ne fun z => o.nkp (z ▸ f)⟩, fun a u h q => (by
    rw [upd_ne]
    · exact h
    · rintro rfl
      rw [o.at_] at h
      cases h
      cases q), [], by simp⟩
theorem Own.write {S : Store} {p : Addr} {vs ws : List V} (o : Own g H p vs) (r : RelS K fa g S H) : RelS K fa g S (upd H p (.lst ws)) where
  len := r.len
  inj := r.inj
  sepf := fun a f => ⟨(r.sepf a f).1, (r.sepf a f).2.1, by rw [upd_ne (show a ≠ p from fun z => o.nfz (z ▸ f))]; exact (r.sepf a f).2.2⟩
  sepk := fun a f => ⟨(r.sepk a f).1, by rw [upd_ne (show a ≠ p from fun z => o.nkp (z ▸ f))]; exact (r.sepk a f).2⟩
  obj := fun i u a h1 h2 => (r.obj i u a h1 h2).ext o.writeExt (upd_ne fun z => o.nm (z ▸ List.mem_of_getElem? h2))
theorem Own.again {p : Addr} {vs ws : List V} (o : Own g H p vs) : Own g (upd H p (.lst ws)) p ws := ⟨upd_same, o.nfz, o.nkp, o.nm⟩
/-- it goes into the store -/
def G.put (g : G) (p : Addr) : G := { g with m := g.m ++ [p] }
theorem Own.putExt {p : Addr} {vs : List V} (o : Own g H p vs) : Ext g H (g.put p) H := ⟨fun _ f => ⟨f, rfl⟩, fun _ f => ⟨f, rfl⟩, fun _ _ h _ => h, [p], rfl⟩
theorem Own.put {S : Store} {p : Addr} {vs : List V} {ds : List D} (o : Own g H p vs) (r : RelS K fa g S H) (h : Reps K fa g H ds vs) : RelS K fa (g.put p) (S ++ [.lst ds]) H where
  len := by simp [G.put, r.len]
  inj := fun i j a h1 h2 => by
    have k1 : (g.m ++ [p])[i]? = some a := h1
    have k2 : (g.m ++ [p])[j]? = some a := h2
    rw [List.getElem?_append] at k1 k2
    by_cases hi : i < g.m.length
    · rw [if_pos hi] at k1
      by_cases hj : j < g.m.length
      · rw [if_pos hj] at k2
        exact r.inj i j a k1 k2
      · rw [if_neg hj] at k2
        have : a = p := by
          cases q : j - g.m.length with
          | zero => rw [q] at k2; simpa using k2.symm
          | succ n => rw [q] at k2; simp at k2
        subst this
        exact absurd (List.mem_of_getElem? k1) o.nm
    · rw [if_neg hi] at k1
      have e1 : i = g.m.length ∧ a = p := by
        cases q : i - g.m.length with
        | zero => rw [q] at k1; exact ⟨by omega, by simpa using k1.symm⟩
        | succ n => rw [q] at k1; simp at k1
      by_cases hj : j < g.m.length
      · rw [if_pos hj] at k2
        rw [e1.2] at k2
        exact absurd (List.mem_of_getElem? k2) o.nm
      · rw [if_neg hj] at k2
        have e2 : j = g.m.length := by
          cases q : j - g.m.length with
          | zero => omega
          | succ n => rw [q] at k2; simp at k2
        omega
  sepf := fun a f => ⟨fun hm => by
    rcases List.mem_append.mp (show a ∈ g.m ++ [p] from hm) with q | q
    · exact (r.sepf a f).1 q
    · rw [List.mem_singleton.mp q] at f
      exact o.nfz f, (r.sepf a f).2⟩
  sepk := fun a f => ⟨fun hm => by
    rcases List.mem_append.mp (show a ∈ g.m ++ [p] from hm) with q | q
    · exact (r.sepk a f).1 q
    · rw [List.mem_singleton.mp q] at f
      exact o.nkp f, (r.sepk a f).2⟩
  obj := fun i u a h1 h2 => by
    have k2 : (g.m ++ [p])[i]? = some a := h2
    rw [List.getElem?_append] at h1 k2
    by_cases hi : i < S.length
    · rw [if_pos hi] at h1
      rw [if_pos (by rw [r.len]; exact hi)] at k2
      exact (r.obj i u a h1 k2).ext o.putExt rfl
    · rw [if_neg hi] at h1
      rw [if_neg (by rw [r.len]; exact hi), r.len] at k2
      cases q : i - S.length with
      | zero =>
        rw [q] at h1 k2
        have e1 : u = .lst ds := by simpa using h1.symm
        have e2 : a = p := by simpa using k2.symm
        subst e1 e2
        exact ⟨vs, o.at_, h.ext o.putExt⟩
      | succ n => rw [q] at h1; simp at h1
theorem put_get {S : Store} (r : RelS K fa g S H) (p : Addr) : (g.put p).m[S.length]? = some p := by
  show (g.m ++ [p])[S.length]? = some p
  rw [← r.len, List.getElem?_append_right (Nat.le_refl _), Nat.sub_self]
  rfl
/-- the store's list is written -/
theorem RelS.setExt {S : Store} (r : RelS K fa g S H) {i : Nat} {a : Addr} {xs ws : List V} (hi : g.m[i]? = some a) (ha : H a = some (.lst xs)) : Ext g H g (upd H a (.lst ws)) :=
  ⟨fun b f => ⟨f, upd_ne fun z => (r.sepf b f).1 (z ▸ List.mem_of_getElem? hi)⟩, fun b f => ⟨f, upd_ne fun z => (r.sepk b f).1 (z ▸ List.mem_of_getElem? hi)⟩, fun b u h q => (by
    rw [upd_ne]
    · exact h
    · rintro rfl
      rw [ha] at h
      cases h
      cases q), [], by simp⟩
theorem RelS.set {S : Store} (r : RelS K fa g S H) {i : Nat} {a : Addr} {xs ws : List V} {ds : List D} (hi : g.m[i]? = some a) (ha : H a = some (.lst xs)) (h : Reps K fa g H ds ws) : RelS K fa g (S.set i (.lst ds)) (upd H a (.lst ws)) where
  len := by rw [List.length_set]; exact r.len
  inj := r.inj
  sepf := fun b f => ⟨(r.sepf b f).1, (r.sepf b f).2.1, by rw [upd_ne (show b ≠ a from fun z => (r.sepf b f).1 (z ▸ List.mem_of_getElem? hi))]; exact (r.sepf b f).2.2⟩
  sepk := fun b f => ⟨(r.sepk b f).1, by rw [upd_ne (show b ≠ a from fun z => (r.sepk b f).1 (z ▸ List.mem_of_getElem? hi))]; exact (r.sepk b f).2⟩
  obj := fun j u b h1 h2 => by
    by_cases e : j = i
    · subst e
      rw [hi] at h2
      cases h2
      have hl : j < S.length := by rw [← r.len]; exact (List.getElem?_eq_some_iff.mp hi).1
      rw [List.getElem?_set_self hl] at h1
      cases h1
      exact ⟨ws, upd_same, h.ext (r.setExt hi ha)⟩
    · rw [List.getElem?_set_ne (Ne.symm e)] at h1
      refine (r.obj j u b h1 h2).ext (r.setExt hi ha) (upd_ne fun z => ?_)
      subst z
      exact e (r.inj j i b h2 hi)

/-! ### what refs a thing has -/
mutual
theorem Rep.cut {g2 : G} (hf : ∀ a, g.fz a → g2.fz a) {n : Nat} (hm : ∀ (r : Nat) a, r < n → g.m[r]? = some a → g2.m[r]? = some a) : ∀ {d : D} {v : V}, Rep K fa g H d v → D.undr n d = true → Rep K fa g2 H d v
  | _, _, .non, _ => .non
  | _, _, .bl b, _ => .bl b
  | _, _, .int b, _ => .int b
  | _, _, .str b, _ => .str b
  | _, _, .tup h r, e => .tup h (Reps.cut hf hm r (by simpa [D.undr] using e))
  | _, _, .lst h f r, e => .lst h (hf _ f) (Reps.cut hf hm r (by simpa [D.undr] using e))
  | _, _, .scr h, _ => .scr (by
    rcases h with ⟨h, f⟩ | h
    · exact .inl ⟨h, hf _ f⟩
    · exact .inr h)
  | _, _, .ref h, e => .ref (hm _ _ (by simpa [D.undr] using e) h)
  | _, _, .fn h, _ => .fn h
theorem Reps.cut {g2 : G} (hf : ∀ a, g.fz a → g2.fz a) {n : Nat} (hm : ∀ (r : Nat) a, r < n → g.m[r]? = some a → g2.m[r]? = some a) : ∀ {d : List D} {v : List V}, Reps K fa g H d v → D.undrs n d = true → Reps K fa g2 H d v
  | _, _, .nil, _ => .nil
  | _, _, .cons h t, e => by
    simp only [D.undrs, Bool.and_eq_true] at e
    exact .cons (Rep.cut hf hm h e.1) (Reps.cut hf hm t e.2)
end
def G.cut (g : G) (n : Nat) : G := { g with m := g.m.take n }
theorem G.cut_get {n r : Nat} {a : Addr} (hr : r < n) (h : g.m[r]? = some a) : (g.cut n).m[r]? = some a := by
  show (g.m.take n)[r]? = some a
  rw [List.getElem?_take_of_lt hr]
  exact h
theorem RelS.cut {S : Store} (r : RelS K fa g S H) {n : Nat} (h : (S.take n).all (O.undr n) = true) : RelS K fa (g.cut n) (S.take n) H where
  len := by show (g.m.take n).length = _; rw [List.length_take, List.length_take, r.len]
  inj := fun i j a h1 h2 => r.inj i j a (by
    have h1 : (g.m.take n)[i]? = some a := h1
    rw [List.getElem?_take] at h1
    split at h1
    · exact h1
    · cases h1) (by
    have h2 : (g.m.take n)[j]? = some a := h2
    rw [List.getElem?_take] at h2
    split at h2
    · exact h2
    · cases h2)
  sepf := fun a f => ⟨fun hm => (r.sepf a f).1 (List.mem_of_mem_take hm), (r.sepf a f).2⟩
  sepk := fun a f => ⟨fun hm => (r.sepk a f).1 (List.mem_of_mem_take hm), (r.sepk a f).2⟩
  obj := fun i u a h1 h2 => by
    have h2 : (g.m.take n)[i]? = some a := h2
    have hu : O.undr n u = true := List.all_eq_true.mp h u (List.mem_of_getElem? h1)
    rw [List.getElem?_take] at h1 h2
    by_cases hi : i < n
    · rw [if_pos hi] at h1 h2
      have := r.obj i u a h1 h2
      cases u with
      | lst ds =>
        obtain ⟨vs, h3, h4⟩ := this
        exact ⟨vs, h3, h4.cut (g := g) (g2 := g.cut n) (fun _ f => f) (fun _ _ hr e => G.cut_get (g := g) hr e) (by simpa [O.undr] using hu)⟩
    · rw [if_neg hi] at h1; cases h1

/-! ### names -/
theorem ERel.ext (e : Ext g H g' H') {ρ : AEnv} {σ : L2.St} (h : ERel K fa g H ρ σ) : ERel K fa g' H' ρ σ := ⟨h.1, fun i d q => by
  obtain ⟨v, h1, h2⟩ := h.2 i d q
  exact ⟨v, h1, h2.ext e⟩⟩
theorem ERel.set {ρ : AEnv} {σ : L2.St} (h : ERel K fa g H ρ σ) {d : D} {v : V} (r : Rep K fa g H d v) (i : Nat) : ERel K fa g H (ρ.set i (some d)) (σ.set i (some v)) := by
  refine ⟨by rw [List.length_set, List.length_set]; exact h.1, fun j x q => ?_⟩
  by_cases e : i = j
  · subst e
    by_cases hi : i < ρ.length
    · rw [List.getElem?_set_self hi] at q
      cases q
      exact ⟨v, List.getElem?_set_self (by rw [← h.1]; exact hi), r⟩
    · rw [List.getElem?_eq_none (by simpa using hi)] at q
      cases q
  · rw [List.getElem?_set_ne e] at q ⊢
    exact h.2 j x q
theorem ERel.unset {ρ : AEnv} {σ : L2.St} (h : ERel K fa g H ρ σ) (i : Nat) : ERel K fa g H (ρ.set i none) (σ.set i none) := by
  refine ⟨by rw [List.length_set, List.length_set]; exact h.1, fun j x q => ?_⟩
  by_cases e : i = j
  · subst e
    by_cases hi : i < ρ.length
    · rw [List.getElem?_set_self hi] at q
      cases q
    · rw [List.getElem?_eq_none (by simpa using hi)] at q
      cases q
  · rw [List.getElem?_set_ne e] at q ⊢
    exact h.2 j x q
theorem ERel.wipe {ρ : AEnv} {σ : L2.St} (h : ERel K fa g H ρ σ) : ∀ vs : List Nat, ERel K fa g H (wipeA ρ vs) (L2.wipe σ vs)
  | [] => h
  | v :: vs => (ERel.wipe h vs).unset v
theorem ERel.start {ds : List D} {vs : List V} (h : Reps K fa g H ds vs) (N : List Str) : ERel K fa g H (startA N.length ds) (L2.start N vs) := by
  unfold startA L2.start
  refine ⟨by simp [h.length], fun i d q => ?_⟩
  rw [List.getElem?_append] at q ⊢
  by_cases hi : i < ds.length
  · rw [if_pos (by simpa using hi)] at q
    rw [if_pos (by rw [List.length_map, ← h.length]; exact hi)]
    rw [List.getElem?_map] at q ⊢
    cases e : ds[i]? with
    | none => rw [e] at q; cases q
    | some d' =>
      rw [e] at q
      cases q
      obtain ⟨v, h1, h2⟩ := h.get e
      exact ⟨v, by rw [h1]; rfl, h2⟩
  · rw [if_neg (by simpa using hi)] at q
    rw [List.getElem?_replicate] at q
    split at q <;> cases q
end
end Ab

/-! Ab3: operations on values. -/
namespace Ab
open PySem PySem.Spec PyProof.Rows L2

section
variable {K : PySem.W.Frag} {fa : Nat → Option Addr} {g g' : G} {H H' : Hp} {S : Store}
/-- what is wanted of a value behind an operation -/
def Fin (K : PySem.W.Frag) (fa : Nat → Option Addr) (g : G) (H : Hp) (S : Store) (d : D) (Q : VK) : Prop := ∀ g' v H', Ext g H g' H' → RelS K fa g' S H' → Rep K fa g' H' d v → Q v H'
theorem Fin.here {d : D} {v : V} {Q : VK} (f : Fin K fa g H S d Q) (r : RelS K fa g S H) (h : Rep K fa g H d v) : Q v H := f g v H (Ext.refl g H) r h
theorem Fin.tup {ds : List D} {vs : List V} {Q : VK} (f : Fin K fa g H S (.tup ds) Q) (r : RelS K fa g S H) (h : Reps K fa g H ds vs) {p : Addr} (hp : H p = none) : Q (.ref p) (upd H p (.tup vs)) :=
  f g _ _ (r.newExt hp) (r.new hp) (.tup (.inl (.inl upd_same)) (h.ext (r.newExt hp)))
theorem Fin.lst {ds : List D} {vs : List V} {Q : VK} (f : Fin K fa g H S (.lst ds) Q) (r : RelS K fa g S H) (h : Reps K fa g H ds vs) {p : Addr} (hp : H p = none) : Q (.ref p) (upd H p (.lst vs)) := by
  have o := r.own (vs := vs) hp
  exact f _ _ _ ((r.newExt hp).trans o.freezeExt) (o.freeze (r.new hp)) (o.rep (h.ext (r.newExt hp)))
/-- a list that is nobody's yet -/
def FinL (K : PySem.W.Frag) (fa : Nat → Option Addr) (g : G) (H : Hp) (S : Store) (ds : List D) (Q : VK) : Prop := ∀ g' p vs H', Ext g H g' H' → RelS K fa g' S H' → Own g' H' p vs → Reps K fa g' H' ds vs → Q (.ref p) H'
theorem FinL.new {ds : List D} {vs : List V} {Q : VK} (f : FinL K fa g H S ds Q) (r : RelS K fa g S H) (h : Reps K fa g H ds vs) {p : Addr} (hp : H p = none) : Q (.ref p) (upd H p (.lst vs)) :=
  f g p vs _ (r.newExt hp) (r.new hp) (r.own hp) (h.ext (r.newExt hp))
theorem Fin.ofL {ds : List D} {Q : VK} (f : Fin K fa g H S (.lst ds) Q) : FinL K fa g H S ds Q := fun g' p vs H' e r o h => f _ _ _ (e.trans o.freezeExt) (o.freeze r) (o.rep h)

/-! ### inverses -/
theorem Rep.int_inv {i : Int} {v : V} (h : Rep K fa g H (.int i) v) : v = .int i := by cases h; rfl
theorem Rep.bl_inv {i : Bool} {v : V} (h : Rep K fa g H (.bl i) v) : v = .bl i := by cases h; rfl
theorem Rep.str_inv {i : Str} {v : V} (h : Rep K fa g H (.str i) v) : v = .str i := by cases h; rfl
theorem Rep.non_inv {v : V} (h : Rep K fa g H .non v) : v = .non := by cases h; rfl
theorem Rep.tup_inv {ds : List D} {v : V} (h : Rep K fa g H (.tup ds) v) : ∃ a vs, v = .ref a ∧ SqT K H a vs ∧ Reps K fa g H ds vs := by
  cases h with
  | tup a b => exact ⟨_, _, rfl, a, b⟩
theorem items_sq {d : D} {ds : List D} {v : V} (r : RelS K fa g S H) (h : items S d = some ds) (rd : Rep K fa g H d v) : ∃ a vs, v = .ref a ∧ (SqL K H a vs ∨ SqT K H a vs) ∧ Reps K fa g H ds vs := by
  cases rd with
  | tup a b =>
    cases h
    exact ⟨_, _, rfl, .inr a, b⟩
  | lst a f b =>
    cases h
    exact ⟨_, _, rfl, .inl (.inl (.inl a)), b⟩
  | scr a =>
    cases h
    exact ⟨_, _, rfl, .inl a.sq, Reps.ints _⟩
  | @ref a i e =>
    unfold items at h
    dsimp only at h
    cases q : S[i]? with
    | none => rw [q] at h; cases h
    | some o =>
      rw [q] at h
      obtain ⟨a', h1, h2⟩ := r.addr q
      rw [e] at h1
      cases h1
      cases o with
      | lst xs =>
        cases h
        obtain ⟨vs, h3, h4⟩ := h2
        exact ⟨_, _, rfl, .inl (.inl (.inl h3)), h4⟩
  | _ => cases h
theorem items_sqL {d : D} {ds : List D} {v : V} (r : RelS K fa g S H) (h : items S d = some ds) (rd : Rep K fa g H d v) (hd : ∀ xs, d ≠ .tup xs) : ∃ a vs, v = .ref a ∧ SqL K H a vs ∧ Reps K fa g H ds vs := by
  cases rd with
  | tup a b => exact absurd rfl (hd _)
  | lst a f b =>
    cases h
    exact ⟨_, _, rfl, (.inl (.inl a)), b⟩
  | scr a =>
    cases h
    exact ⟨_, _, rfl, a.sq, Reps.ints _⟩
  | @ref a i e =>
    unfold items at h
    dsimp only at h
    cases q : S[i]? with
    | none => rw [q] at h; cases h
    | some o =>
      rw [q] at h
      obtain ⟨a', h1, h2⟩ := r.addr q
      rw [e] at h1
      cases h1
      cases o with
      | lst xs =>
        cases h
        obtain ⟨vs, h3, h4⟩ := h2
        exact ⟨_, _, rfl, (.inl (.inl h3)), h4⟩
  | _ => cases h
theorem listOf_sq {d : D} {ds : List D} {v : V} (r : RelS K fa g S H) (h : listOf S d = some ds) (rd : Rep K fa g H d v) : ∃ a vs, v = .ref a ∧ H a = some (.lst vs) ∧ Reps K fa g H ds vs := by
  cases rd with
  | lst a f b =>
    cases h
    exact ⟨_, _, rfl, a, b⟩
  | @ref a i e =>
    unfold listOf at h
    dsimp only at h
    cases q : S[i]? with
    | none => rw [q] at h; cases h
    | some o =>
      rw [q] at h
      obtain ⟨a', h1, h2⟩ := r.addr q
      rw [e] at h1
      cases h1
      cases o with
      | lst xs =>
        cases h
        obtain ⟨vs, h3, h4⟩ := h2
        exact ⟨_, _, rfl, h3, h4⟩
  | _ => cases h
theorem Reps.ints_inv : ∀ {ds : List D} {ns : List Int} {vs : List V}, ints? ds = some ns → Reps K fa g H ds vs → vs = ns.map .int
  | [], ns, vs, h, r => by
    cases h
    cases r
    rfl
  | .int i :: ds, ns, vs, h, r => by
    unfold ints? at h
    cases q : ints? ds with
    | none => rw [q] at h; cases h
    | some ms =>
      rw [q] at h
      cases h
      cases r with
      | cons a b =>
        rw [a.int_inv, Reps.ints_inv q b]
        rfl
  | .non :: _, _, _, h, _ => by cases h
  | .bl _ :: _, _, _, h, _ => by cases h
  | .str _ :: _, _, _, h, _ => by cases h
  | .tup _ :: _, _, _, h, _ => by cases h
  | .lst _ :: _, _, _, h, _ => by cases h
  | .scr _ :: _, _, _, h, _ => by cases h
  | .ref _ :: _, _, _, h, _ => by cases h
  | .fn _ :: _, _, _, h, _ => by cases h
theorem Reps.bls_inv : ∀ {ds : List D} {ns : List Bool} {vs : List V}, bls? ds = some ns → Reps K fa g H ds vs → vs = ns.map .bl
  | [], ns, vs, h, r => by
    cases h
    cases r
    rfl
  | .bl i :: ds, ns, vs, h, r => by
    unfold bls? at h
    cases q : bls? ds with
    | none => rw [q] at h; cases h
    | some ms =>
      rw [q] at h
      cases h
      cases r with
      | cons a b =>
        rw [a.bl_inv, Reps.bls_inv q b]
        rfl
  | .non :: _, _, _, h, _ => by cases h
  | .int _ :: _, _, _, h, _ => by cases h
  | .str _ :: _, _, _, h, _ => by cases h
  | .tup _ :: _, _, _, h, _ => by cases h
  | .lst _ :: _, _, _, h, _ => by cases h
  | .scr _ :: _, _, _, h, _ => by cases h
  | .ref _ :: _, _, _, h, _ => by cases h
  | .fn _ :: _, _, _, h, _ => by cases h

/-! ### plain data -/
theorem SqS.ints_dp {a : Addr} : ∀ ns : List Int, DpAll K H (ns.map V.int) (ns.map PyData.int)
  | [] => .nil
  | n :: ns => .cons (.int n) (SqS.ints_dp (a := a) ns)
mutual
theorem Rep.dp : ∀ {d : D} {v : V} {p : PyData}, Rep K fa g H d v → d.py = some p → Dp K H v p
  | _, _, _, .non, h => by cases h; exact .non
  | _, _, _, .bl b, h => by cases h; exact .bl b
  | _, _, _, .int b, h => by cases h; exact .int b
  | _, _, _, .str b, h => by cases h; exact .str b
  | _, _, p, .tup (ds := ds) a r, h => by
    simp only [D.py] at h
    cases q : D.pys ds with
    | none => rw [q] at h; cases h
    | some ps =>
      rw [q] at h
      cases h
      exact .tup a (Reps.dp r q)
  | _, _, p, .lst (ds := ds) a f r, h => by
    simp only [D.py] at h
    cases q : D.pys ds with
    | none => rw [q] at h; cases h
    | some ps =>
      rw [q] at h
      cases h
      exact .lst (.inl (.inl a)) (Reps.dp r q)
  | _, _, _, .scr (a := a) h', h => by
    cases h
    exact .lst h'.sq (SqS.ints_dp (a := a) _)
  | _, _, _, .ref _, h => by cases h
  | _, _, _, .fn _, h => by cases h
theorem Reps.dp : ∀ {ds : List D} {vs : List V} {ps : List PyData}, Reps K fa g H ds vs → D.pys ds = some ps → DpAll K H vs ps
  | _, _, _, .nil, h => by cases h; exact .nil
  | _, _, _, .cons (d := d) (ds := ds) a b, h => by
    simp only [D.pys] at h
    cases q : d.py with
    | none => rw [q] at h; cases h
    | some p =>
      rw [q] at h
      cases q2 : D.pys ds with
      | none => rw [q2] at h; cases h
      | some ps =>
        rw [q2] at h
        cases h
        exact .cons (Rep.dp a q) (Reps.dp b q2)
end
theorem deref_dp {d : D} {v : V} {p : PyData} (r : RelS K fa g S H) (rd : Rep K fa g H d v) (h : (deref S d).py = some p) : Dp K H v p := by
  cases rd with
  | @ref a i e =>
    unfold deref at h
    dsimp only at h
    cases q : S[i]? with
    | none =>
      rw [q] at h
      cases h
    | some o =>
      rw [q] at h
      obtain ⟨a', h1, h2⟩ := r.addr q
      rw [e] at h1
      cases h1
      cases o with
      | lst xs =>
        obtain ⟨vs, h3, h4⟩ := h2
        dsimp only at h
        simp only [D.py] at h
        cases q2 : D.pys xs with
        | none => rw [q2] at h; cases h
        | some ps =>
          rw [q2] at h
          cases h
          exact .lst (.inl (.inl h3)) (h4.dp q2)
  | non => exact Rep.dp (g := g) (fa := fa) .non h
  | bl b => exact Rep.dp (g := g) (fa := fa) (.bl b) h
  | int b => exact Rep.dp (g := g) (fa := fa) (.int b) h
  | str b => exact Rep.dp (g := g) (fa := fa) (.str b) h
  | tup a b => exact Rep.dp (.tup a b) h
  | lst a f b => exact Rep.dp (.lst a f b) h
  | scr a => exact Rep.dp (fa := fa) (.scr a) h
  | fn a => exact Rep.dp (g := g) (.fn a) h

end

/-! ### tuple * int: the small cases -/
section
theorem mulT_same (l : Addr) (xs : Array Value) (n : Nat) (dd : Option Addr) (sl : Array (Option Value)) (x : Int) (u : Tok) (c0 : (decide (x < -(2 ^ 63)) || decide (x ≥ 2 ^ 63)) = false) (c1 : (xs.isEmpty || x == 1) = true) :
    Meets (Builtin.«tuple.__mul__» ⟨[.ref l, .int x u], []⟩) (fun _ R s => s.heap.get? l = some { cls := .type "tuple", dict := dd, data := .seq xs n, slots := sl } ∧ R (.ok (.ret (Value.ref l))) s) :=
  .of_wp fun prog w A R s ⟨hl, h⟩ => by
    obtain ⟨hp, gs, dr, tk, os⟩ := s
    have f1 := AutoSeq1.idx_int
    wp_walk using wpAny_loadPart' hl
    repeat (first
      | (refine wpAny_ite_false (decide_eq_false (by rw [c0]; exact Bool.false_ne_true)) ?_; wp_walk using wpAny_loadPart' hl)
      | (refine wpAny_ite_true (decide_eq_true c1) ?_; wp_walk using wpAny_loadPart' hl))
    all_goals first
      | exact ⟨_, rfl, h⟩
      | skip
theorem mulT_none (l : Addr) (xs : Array Value) (n : Nat) (dd : Option Addr) (sl : Array (Option Value)) (x : Int) (u : Tok) (c0 : (decide (x < -(2 ^ 63)) || decide (x ≥ 2 ^ 63)) = false) (c1 : (xs.isEmpty || x == 1) = false) (c2 : (decide (x ≤ 0) || xs.isEmpty) = true) :
    Meets (Builtin.«tuple.__mul__» ⟨[.ref l, .int x u], []⟩) (fun _ R s => s.heap.get? l = some { cls := .type "tuple", dict := dd, data := .seq xs n, slots := sl } ∧
      R (.ok (.ret (Value.ref s.heap.objs.size))) { s with heap := s.heap.push { cls := Value.type "tuple", data := Data.seq #[] }, toks := s.toks }) :=
  .of_wp fun prog w A R s ⟨hl, h⟩ => by
    obtain ⟨hp, gs, dr, tk, os⟩ := s
    have f1 := AutoSeq1.idx_int
    wp_walk using wpAny_loadPart' hl
    repeat (first
      | (refine wpAny_ite_false (decide_eq_false (by rw [c0]; exact Bool.false_ne_true)) ?_; wp_walk using wpAny_loadPart' hl)
      | (refine wpAny_ite_false (decide_eq_false (by rw [c1]; exact Bool.false_ne_true)) ?_; wp_walk using wpAny_loadPart' hl)
      | (refine wpAny_ite_true (decide_eq_true c2) ?_; wp_walk using wpAny_loadPart' hl))
    all_goals first
      | exact ⟨_, rfl, h⟩
      | skip
end

section
variable {K : PySem.W.Frag} {fa : Nat → Option Addr} {X : Cx}
theorem divT_ok : OpR X (binaryOp .FloorDiv) (rI (fun _ j => j ≠ 0 ∧ j.natAbs.log2 < 9000) fun i j => .int (i.fdiv j)) := opI fun _ _ _ _ _ _ _ hc q => floordiv_int hc.1 q (.inl (PyProof.noPylong_of_log2 hc.2))
theorem mul_ok {i j : Int} (h : mulOk i j = true) : IntMulOk i j := by
  unfold mulOk at h
  simp only [Bool.or_eq_true, decide_eq_true_eq] at h
  rcases h with h | h | h
  · exact CMul.ok (.inl ⟨by omega, by omega⟩)
  · exact CMul.ok (.inr ⟨by omega, by omega⟩)
  · exact CMulW.ok h
theorem mulI_ok : OpR X (binaryOp .Mult) (rI (fun i j => mulOk i j = true) fun i j => .int (i * j)) := opI fun _ _ _ _ _ _ _ hc q => mul_int q (mul_ok hc)
theorem int_ok {op : Operator} {i j k : Int} (h : dInt op i j = some k) {pins : List (Addr × Obj)} {s : Shared} {σ : L2.St} {H : Hp} {v u : Value} {Q : VK} (I : Inv X pins σ H s) (rx : RelV (.int i) v) (ry : RelV (.int j) u) (q : Q (.int k) H) :
    wpAny (model X.prog X.w) X.A (binaryOp op v u) (EP X pins σ Q) X.xe s := by
  cases op with
  | Add => cases h; exact op_add pins s σ H _ _ v u Q I rx ry ⟨i, j, rfl, rfl, q⟩
  | Sub => cases h; exact op_sub pins s σ H _ _ v u Q I rx ry ⟨i, j, rfl, rfl, q⟩
  | Mult =>
    simp only [dInt] at h
    split at h
    · rename_i hc
      cases h
      exact mulI_ok pins s σ H _ _ v u Q I rx ry ⟨i, j, rfl, rfl, hc, q⟩
    · cases h
  | Mod =>
    simp only [dInt] at h
    split at h
    · rename_i hc
      cases h
      exact op_mod pins s σ H _ _ v u Q I rx ry ⟨i, j, rfl, rfl, hc, q⟩
    · split at h
      · rename_i hc
        cases h
        exact op_modN pins s σ H _ _ v u Q I rx ry ⟨i, j, rfl, rfl, hc, q⟩
      · cases h
  | FloorDiv =>
    simp only [dInt] at h
    split at h
    · rename_i h9
      have h9 : j.natAbs.log2 < 9000 := by simpa [divOk] using h9
      split at h
      · rename_i hc
        cases h
        refine divT_ok pins s σ H _ _ v u Q I rx ry ⟨i, j, rfl, rfl, ⟨by omega, h9⟩, ?_⟩
        show Q (.int (i.fdiv j)) H
        rw [Int.fdiv_eq_ediv_of_nonneg i (by omega)]
        exact q
      · split at h
        · rename_i hc
          cases h
          exact divT_ok pins s σ H _ _ v u Q I rx ry ⟨i, j, rfl, rfl, ⟨hc, h9⟩, q⟩
        · cases h
    · cases h
  | Pow =>
    simp only [dInt] at h
    split at h
    · rename_i hc
      cases h
      simp only [powOk, Bool.and_eq_true, decide_eq_true_eq] at hc
      exact op_pow pins s σ H _ _ v u Q I rx ry ⟨i, j, rfl, rfl, ⟨hc.1, by omega, hc.2.2⟩, q⟩
    · cases h
  | LShift =>
    simp only [dInt] at h
    split at h
    · rename_i hc
      cases h
      simp only [powOk, Bool.and_eq_true, decide_eq_true_eq] at hc
      exact op_shl pins s σ H _ _ v u Q I rx ry ⟨i, j, rfl, rfl, ⟨hc.1, by omega, hc.2.2⟩, q⟩
    · cases h
  | RShift =>
    simp only [dInt] at h
    split at h
    · rename_i hc
      cases h
      exact op_shr pins s σ H _ _ v u Q I rx ry ⟨i, j, rfl, rfl, hc, q⟩
    · cases h
  | BitAnd => cases h; exact op_and pins s σ H _ _ v u Q I rx ry ⟨i, j, rfl, rfl, q⟩
  | BitOr => cases h; exact op_or pins s σ H _ _ v u Q I rx ry ⟨i, j, rfl, rfl, q⟩
  | BitXor => cases h; exact op_xor pins s σ H _ _ v u Q I rx ry ⟨i, j, rfl, rfl, q⟩
  | MatMult => cases h
  | Div => cases h

/-! ### tuple * int -/
theorem repT_ok {l : Addr} {k : Int} {xs : List V} {pins : List (Addr × Obj)} {s : Shared} {σ : L2.St} {H : Hp} {v u : Value} {Q : VK} (I : Inv X pins σ H s) (rx : RelV (.ref l) v) (ry : RelV (.int k) u)
    (hT : SqT X.K H l xs) (hk : -(2 ^ 63) ≤ k) (h1 : k ≤ 1000) (hz : xs.length ≤ 1000) (q1 : (List.replicate k.toNat xs).flatten = xs → Q (.ref l) H) (q2 : ∀ p, H p = none → Q (.ref p) (upd H p (.tup (List.replicate k.toNat xs).flatten))) :
    wpAny (model X.prog X.w) X.A (binaryOp .Mult v u) (EP X pins σ Q) X.xe s := by
  by_cases hb : xs ≠ [] ∧ 2 ≤ k
  · exact op_repT pins s σ H _ _ v u Q I rx ry ⟨l, k, xs, rfl, rfl, hT, hb.1, hb.2, h1, hz, q2⟩
  · cases rx
    obtain ⟨t, rfl⟩ := ry
    obtain ⟨its, r, ⟨⟨cls, dd, data, sl⟩, ho, hc, n, hd⟩, hs⟩ := I.tuple hT
    simp only at hc hd
    subst hc hd
    have hle : its.length = xs.length := r.length.symm
    have c0 : (decide (k < -(2 ^ 63)) || decide (k ≥ 2 ^ 63)) = false := by
      rw [decide_eq_false (by omega), decide_eq_false (by omega)] <;> rfl
    by_cases hs1 : xs = [] ∨ k = 1
    · have c1 : (its.toArray.isEmpty || k == 1) = true := by
        rcases hs1 with e | e
        · subst e
          cases its with
          | nil => rfl
          | cons a b => cases hle
        · subst e
          simp
      have e : (List.replicate k.toNat xs).flatten = xs := by
        rcases hs1 with e | e
        · subst e
          simp
        · subst e
          simp
      exact wpAny_binaryOp_repeat_ref (T := "tuple") (U := "int") (by decide) ⟨_, ho, rfl⟩ (fun s' => typeIs_int s' k t) noFill_tuple_mul F.fills_int_mul F.slot_int_rmul repeat_tuple F.slot_int_index.lookup
        (call_meets F.slot_int_rmul (typeIs_int s k t) F.entry_int_rmul (F.args_int_rmul_2 _ _) (int_rmul_tuple k t l its.toArray n dd sl)
          ⟨ho, rfl, ⟨_, ho, rfl⟩, call_meets F.slot_tuple_mul ⟨_, ho, rfl⟩ F.entry_tuple_mul (F.args_tuple_mul_2 _ _) (mulT_same l its.toArray n dd sl k t c0 c1) ⟨ho, ⟨.ref l, H, I, rfl, q1 e⟩⟩⟩)
    · have hne : xs ≠ [] := fun z => hs1 (.inl z)
      have hk0 : k ≤ 0 := by
        have : ¬ 2 ≤ k := fun z => hb ⟨hne, z⟩
        have : k ≠ 1 := fun z => hs1 (.inr z)
        omega
      have hi : its.toArray.isEmpty = false := by
        cases its with
        | nil => exact absurd (List.eq_nil_of_length_eq_zero hle.symm) hne
        | cons a b => rfl
      have c1 : (its.toArray.isEmpty || k == 1) = false := by
        rw [hi, Bool.false_or]
        exact beq_eq_false_iff_ne.mpr (by omega)
      have c2 : (decide (k ≤ 0) || its.toArray.isEmpty) = true := by
        rw [decide_eq_true hk0]
        rfl
      have e : (List.replicate k.toNat xs).flatten = [] := by
        rw [show k.toNat = 0 by omega]
        rfl
      refine wpAny_binaryOp_repeat_ref (T := "tuple") (U := "int") (by decide) ⟨_, ho, rfl⟩ (fun s' => typeIs_int s' k t) noFill_tuple_mul F.fills_int_mul F.slot_int_rmul repeat_tuple F.slot_int_index.lookup
        (call_meets F.slot_int_rmul (typeIs_int s k t) F.entry_int_rmul (F.args_int_rmul_2 _ _) (int_rmul_tuple k t l its.toArray n dd sl)
          ⟨ho, rfl, ⟨_, ho, rfl⟩, call_meets F.slot_tuple_mul ⟨_, ho, rfl⟩ F.entry_tuple_mul (F.args_tuple_mul_2 _ _) (mulT_none l its.toArray n dd sl k t c0 c1 c2) ⟨ho, ?_⟩⟩)
      rw [e] at q2
      refine ⟨.ref s.heap.objs.size, _, I.laid (t' := s.toks) (o := .tup []) (fun b ob q => Heap.get?_push_of_some _ q) (Nat.le_refl _) ?_, rfl, q2 _ (I.hok.fresh (Nat.le_refl _))⟩
      exact ⟨Nat.zero_le _, [], .nil, IsTup.new _ _⟩
end
end Ab

/-! Ab4: operators, comparisons, subscripts, built-in functions, methods. -/
namespace Ab
open PySem PySem.Spec PyProof.Rows L2

section
variable {K : PySem.W.Frag} {fa : Nat → Option Addr} {X : Cx}
def rBin (K : PySem.W.Frag) (fa : Nat → Option Addr) (op : Operator) : R2 := fun x y H Q => ∃ g S a b d, RelS K fa g S H ∧ Rep K fa g H a x ∧ Rep K fa g H b y ∧ dBin S op a b = some d ∧ Fin K fa g H S d Q
theorem list_ok {op : Operator} {g : G} {S : Store} {a b : D} {ds : List D} {x y : V} {pins : List (Addr × Obj)} {s : Shared} {σ : L2.St} {H : Hp} {v u : Value} {Q : VK} (I : Inv X pins σ H s) (rx : RelV x v) (ry : RelV y u) (r : RelS K fa g S H) (ra : Rep K fa g H a x) (rb : Rep K fa g H b y)
    (e : dList S op a b = some ds) (f : FinL K fa g H S ds Q) : wpAny (model X.prog X.w) X.A (binaryOp op v u) (EP X pins σ Q) X.xe s := by
  cases op with
  | Add =>
    simp only [dList] at e
    cases q1 : listOf S a with
    | none => rw [q1] at e; cases e
    | some xs =>
      cases q2 : listOf S b with
      | none => rw [q1, q2] at e; cases e
      | some ys =>
        rw [q1, q2] at e
        simp only [Option.bind_some] at e
        split at e
        · rename_i hz
          cases e
          obtain ⟨p, vs, rfl, h1, h2⟩ := listOf_sq r q1 ra
          obtain ⟨p', ws, rfl, h1', h2'⟩ := listOf_sq r q2 rb
          exact op_cat pins s σ H _ _ v u Q I rx ry ⟨p, p', vs, ws, rfl, rfl, h1, h1', by rw [← h2.length, ← h2'.length]; exact hz, fun l hl => f.new r (h2.append h2') hl⟩
        · cases e
  | Mult =>
    simp only [dList] at e
    cases b with
    | int k =>
      simp only at e
      cases q1 : listOf S a with
      | none => rw [q1] at e; cases e
      | some xs =>
        rw [q1] at e
        simp only [Option.bind_some] at e
        split at e
        · rename_i hz
          cases e
          obtain ⟨p, vs, rfl, h1, h2⟩ := listOf_sq r q1 ra
          cases rb
          exact op_rep pins s σ H _ _ v u Q I rx ry ⟨p, k, vs, rfl, rfl, h1, by omega, by omega, by rw [← h2.length]; exact hz.2, fun l hl => f.new r (h2.rep _) hl⟩
        · cases e
    | _ => cases e
  | _ => cases e
theorem bin_ok (op : Operator) : OpR X (binaryOp op) (rBin X.K fa op) := by
  intro pins s σ H x y v u Q I rx ry ⟨g, S, a, b, d, r, ra, rb, e, f⟩
  unfold dBin at e
  split at e
  · rename_i i j
    cases q : dInt op i j with
    | none => rw [q] at e; cases e
    | some k =>
      rw [q] at e
      cases e
      cases ra
      cases rb
      exact int_ok q I rx ry (f.here r (.int k))
  · rename_i xs ys
    split at e
    · split at e
      · rename_i hz
        cases e
        obtain ⟨p, vs, rfl, h1, h2⟩ := ra.tup_inv
        obtain ⟨p', ws, rfl, h1', h2'⟩ := rb.tup_inv
        refine op_catA pins s σ H _ _ v u Q I rx ry ⟨p, p', vs, ws, rfl, rfl, h1, h1', by rw [← h2.length, ← h2'.length]; exact hz, fun z => ?_, fun _ z => ?_, fun _ _ l hl => f.tup r (h2.append h2') hl⟩
        · refine f.here r (.tup h1' ?_)
          have := h2.append h2'
          rw [z] at this
          exact this
        · refine f.here r (.tup h1 ?_)
          have := h2.append h2'
          rw [z, List.append_nil] at this
          exact this
      · cases e
    · cases e
  · rename_i xs k
    split at e
    · split at e
      · rename_i hz
        cases e
        obtain ⟨p, vs, rfl, h1, h2⟩ := ra.tup_inv
        cases rb
        refine repT_ok I rx ry h1 (by omega) (by omega) (by rw [← h2.length]; exact hz.2) (fun z => f.here r (.tup h1 ?_)) fun l hl => f.tup r (h2.rep _) hl
        have := h2.rep k.toNat
        rw [z] at this
        exact this
      · cases e
    · cases e
  · rename_i x' y'
    split at e
    · split at e
      · rename_i hz
        cases e
        cases ra
        cases rb
        exact op_add_str pins s σ H _ _ v u Q I rx ry ⟨x', y', rfl, rfl, hz, f.here r (.str _)⟩
      · cases e
    · cases e
  · cases q : dList S op a b with
    | none => rw [q] at e; cases e
    | some ds =>
      rw [q] at e
      cases e
      exact list_ok I rx ry r ra rb q f.ofL

def rUn (K : PySem.W.Frag) (fa : Nat → Option Addr) (op : UnaryOp) : V → Hp → VK → Prop := fun x H Q => ∃ g S a d, RelS K fa g S H ∧ Rep K fa g H a x ∧ dUn op a = some d ∧ Fin K fa g H S d Q
theorem un_ok {op : UnaryOp} (hop : op ≠ .Not) : UnR X (unaryOp op) (rUn X.K fa op) := by
  intro pins s σ H x v Q I rx ⟨g, S, a, d, r, ra, e, f⟩
  unfold dUn at e
  split at e
  · rename_i i
    cases e
    cases ra
    exact un_neg pins s σ H _ v Q I rx ⟨i, rfl, f.here r (.int _)⟩
  · rename_i i
    cases e
    cases ra
    exact un_inv pins s σ H _ v Q I rx ⟨i, rfl, f.here r (.int _)⟩
  · exact absurd rfl hop
  · cases e

/-! ### comparisons -/
def rCmp (K : PySem.W.Frag) (fa : Nat → Option Addr) (op : CmpOp) : R2 := fun x y H Q => ∃ g S a b c, RelS K fa g S H ∧ Rep K fa g H a x ∧ Rep K fa g H b y ∧ dCmp S op a b = some c ∧ (RelS K fa g S H → Q (.bl c) H)
theorem dEq_ok {S : Store} {g : G} {H : Hp} {a b : D} {x y : V} {c : Bool} (r : RelS K fa g S H) (ra : Rep K fa g H a x) (rb : Rep K fa g H b y) (e : dEq S a b = some c) : ∃ p q, Dp K H x p ∧ Dp K H y q ∧ SeqAt.shaped p = true ∧ SeqAt.shaped q = true ∧ PyData.eqv p q = c := by
  unfold dEq at e
  split at e
  · rename_i p q h1 h2
    split at e
    · rename_i hs
      cases e
      rw [Bool.and_eq_true] at hs
      exact ⟨p, q, deref_dp r ra h1, deref_dp r rb h2, hs.1, hs.2, rfl⟩
    · cases e
  · cases e
theorem isnon_of {g : G} {H : Hp} {a : D} {x : V} (ra : Rep K fa g H a x) : decide (x = .non) = a.isNon := by
  cases ra <;> simp [D.isNon]
theorem cmp_ok (op : CmpOp) {k : Nat} (hr : Room k X.A) : OpR X (compareOp op) (rCmp X.K fa op) := by
  have hu : X.A.units + 64 < cLine := by have := hr.un; omega
  intro pins s σ H x y v u Q I rx ry ⟨g, S, a, b, c, r, ra, rb, e, f⟩
  have q := f r
  cases op with
  | Eq =>
    obtain ⟨p, p', h1, h2, h3, h4, h5⟩ := dEq_ok r ra rb e
    exact op_eqD hu pins s σ H _ _ v u Q I rx ry ⟨p, p', h1, h2, h3, h4, by rw [h5]; exact q⟩
  | NotEq =>
    have e' : (dEq S a b).map (!·) = some c := e
    cases q1 : dEq S a b with
    | none => rw [q1] at e'; cases e'
    | some c' =>
      rw [q1] at e'
      cases e'
      obtain ⟨p, p', h1, h2, h3, h4, h5⟩ := dEq_ok r ra rb q1
      exact op_neD hu pins s σ H _ _ v u Q I rx ry ⟨p, p', h1, h2, h3, h4, by rw [h5]; exact q⟩
  | Is =>
    cases b with
    | non =>
      cases rb
      refine op_isN pins s σ H _ _ v u Q I rx ry ⟨rfl, ?_⟩
      rw [isnon_of ra]
      have e' : some a.isNon = some c := e
      rw [Option.some.inj e']
      exact q
    | _ => cases e
  | IsNot =>
    cases b with
    | non =>
      cases rb
      refine op_notN pins s σ H _ _ v u Q I rx ry ⟨rfl, ?_⟩
      rw [isnon_of ra]
      have e' : some (!a.isNon) = some c := e
      rw [Option.some.inj e']
      exact q
    | _ => cases e
  | Lt =>
    simp only [dCmp] at e
    split at e
    · cases e
      cases ra
      cases rb
      exact op_lt pins s σ H _ _ v u Q I rx ry ⟨_, _, rfl, rfl, q⟩
    · cases e
  | LtE =>
    simp only [dCmp] at e
    split at e
    · cases e
      cases ra
      cases rb
      exact op_le pins s σ H _ _ v u Q I rx ry ⟨_, _, rfl, rfl, q⟩
    · cases e
  | Gt =>
    simp only [dCmp] at e
    split at e
    · cases e
      cases ra
      cases rb
      exact op_gt pins s σ H _ _ v u Q I rx ry ⟨_, _, rfl, rfl, q⟩
    · cases e
  | GtE =>
    simp only [dCmp] at e
    split at e
    · cases e
      cases ra
      cases rb
      exact op_ge pins s σ H _ _ v u Q I rx ry ⟨_, _, rfl, rfl, q⟩
    · cases e
  | In => cases e
  | NotIn => cases e

/-! ### truth -/
theorem truth_tru {S : Store} {g : G} {H : Hp} {a : D} {x : V} {b : Bool} (r : RelS K fa g S H) (ra : Rep K fa g H a x) (e : truth S a = some b) : TruV K x H b := by
  have seq : ∀ d : D, Rep K fa g H d x → (items S d).map (fun ds => !ds.isEmpty) = some b → TruV K x H b := fun d ra e => by
    cases q : items S d with
    | none => rw [q] at e; cases e
    | some ds =>
      rw [q] at e
      cases e
      obtain ⟨p, vs, rfl, h1, h2⟩ := items_sq r q ra
      have hv : (!ds.isEmpty) = !vs.isEmpty := by
        cases h2 <;> rfl
      show TruV K _ H (!ds.isEmpty)
      rw [hv]
      rcases h1 with h1 | h1
      · exact .inl ⟨vs, h1, rfl⟩
      · exact .inr (.inl ⟨vs, h1, rfl⟩)
  cases ra with
  | non => cases e; rfl
  | bl b => cases e; rfl
  | int i => cases e; rfl
  | str y =>
    simp only [truth] at e
    split at e
    · rename_i hz
      cases e
      exact ⟨hz, rfl⟩
    · cases e
  | tup a b => exact seq _ (.tup a b) e
  | lst a f b => exact seq _ (.lst a f b) e
  | scr a => exact seq _ (.scr a) e
  | ref a => exact seq _ (.ref a) e
  | fn a => exact seq _ (.fn a) e

/-! ### subscripts -/
def rIxA (K : PySem.W.Frag) (fa : Nat → Option Addr) : R2 := fun x y H Q => ∃ g S a b d, RelS K fa g S H ∧ Rep K fa g H a x ∧ Rep K fa g H b y ∧ dIx S a b = some d ∧ Fin K fa g H S d Q
theorem at_rep {g : G} {H : Hp} {ds : List D} {vs : List V} {i : Int} {d : D} (h : Reps K fa g H ds vs) (e : at_ ds i = some d) : ∃ v, atI vs i = some v ∧ Rep K fa g H d v := by
  unfold at_ atI at e
  unfold atI
  rw [← h.length]
  cases q : ixN ds.length i with
  | none => rw [q] at e; cases e
  | some j =>
    rw [q] at e
    obtain ⟨v, h1, h2⟩ := h.get e
    exact ⟨v, h1, h2⟩
theorem ix_ok : IxR X (rIxA X.K fa) := by
  intro value slice pins s σ H x y v u Q I rx ry ⟨g, S, a, b, d, r, ra, rb, e, f⟩ hs
  unfold dIx at e
  split at e
  · rename_i i
    cases q : items S a with
    | none => rw [q] at e; cases e
    | some ds =>
      rw [q] at e
      simp only [Option.bind_some] at e
      obtain ⟨p, vs, rfl, h1, h2⟩ := items_sq r q ra
      obtain ⟨z, h3, h4⟩ := at_rep h2 e
      cases rb
      rcases h1 with h1 | h1
      · exact ix_list value slice pins s σ H _ _ v u Q I rx ry ⟨p, vs, i, z, rfl, rfl, h1, h3, f.here r h4⟩ hs
      · exact ix_tup value slice pins s σ H _ _ v u Q I rx ry ⟨p, vs, i, z, rfl, rfl, h1, h3, f.here r h4⟩ hs
  · cases e
def rSlA' (K : PySem.W.Frag) (fa : Nat → Option Addr) : V → Option Int → Option Int → Hp → VK → Prop := fun x lo hi H Q => ∃ g S a d, RelS K fa g S H ∧ Rep K fa g H a x ∧ dSl S a lo hi = some d ∧ Fin K fa g H S d Q
theorem cut_rep {g : G} {H : Hp} {ds : List D} {vs : List V} (lo hi : Option Int) (h : Reps K fa g H ds vs) : Reps K fa g H (cut ds lo hi) (cutV vs lo hi) := by
  unfold cut cutV
  rw [← h.length]
  exact (h.drop _).take _
theorem sl_ok : SlR X (rSlA' X.K fa) := by
  intro pins s σ H x v vl vu lo hi sl Q I rx hs pl pu ⟨g, S, a, d, r, ra, e, f⟩
  unfold dSl at e
  split at e
  · rename_i ds
    cases e
    obtain ⟨p, vs, rfl, h1, h2⟩ := ra.tup_inv
    refine sl_tupA pins s σ H _ v vl vu lo hi sl Q I rx hs pl pu ⟨p, vs, rfl, h1, fun hw => ?_, fun hw q hq => f.tup r (cut_rep lo hi h2) hq⟩
    refine f.here r (.tup h1 ?_)
    have h3 := cut_rep lo hi h2
    have e : cutV vs lo hi = vs := by
      unfold cutV
      rw [hw.1, hw.2]
      simp
    rw [e] at h3
    exact h3
  · cases q : items S a with
    | none => rw [q] at e; cases e
    | some ds =>
      rw [q] at e
      cases e
      rename_i hne
      obtain ⟨p, vs, rfl, h1, h2⟩ := items_sqL r q ra fun xs z => hne xs z
      exact sl_list pins s σ H _ v vl vu lo hi sl Q I rx hs pl pu ⟨p, vs, rfl, h1, fun q hq => f.lst r (cut_rep lo hi h2) hq⟩
end
end Ab

/-! Ab5: built-in functions and methods. -/
namespace Ab
open PySem PySem.Spec PyProof.Rows L2

def Bi.nm : Bi → Str
  | .len => "len" | .abs => "abs" | .int => "int" | .tuple => "tuple" | .min => "min" | .max => "max" | .sum => "sum" | .all => "all" | .any => "any" | .gcd => "gcd"
def Bi.isTy : Bi → Bool
  | .int => true | .tuple => true | _ => false
def Bi.id : Bi → String
  | .len => "len" | .abs => "abs" | .int => "int" | .tuple => "tuple" | .min => "min" | .max => "max" | .sum => "sum" | .all => "all" | .any => "any" | .gcd => "math.gcd"
def Bi.val (b : Bi) : Value := if b.isTy then .type b.id else .builtin b.id

section
variable {K : PySem.W.Frag} {fa : Nat → Option Addr} {X : Cx}
def rBi (K : PySem.W.Frag) (fa : Nat → Option Addr) (b : Bi) : List V → Hp → VK → Prop := fun vs H Q => ∃ g S ds d, RelS K fa g S H ∧ Reps K fa g H ds vs ∧ dBi S b ds = some d ∧ Fin K fa g H S d Q
theorem Reps.one_inv {g : G} {H : Hp} {d : D} {vs : List V} (h : Reps K fa g H [d] vs) : ∃ v, vs = [v] ∧ Rep K fa g H d v := by
  cases h with
  | cons a b => cases b; exact ⟨_, rfl, a⟩
theorem Reps.two_inv {g : G} {H : Hp} {d e : D} {vs : List V} (h : Reps K fa g H [d, e] vs) : ∃ v w, vs = [v, w] ∧ Rep K fa g H d v ∧ Rep K fa g H e w := by
  cases h with
  | cons a b =>
    obtain ⟨w, rfl, c⟩ := b.one_inv
    exact ⟨_, _, rfl, a, c⟩
theorem bi_ok (b : Bi) (hc : X.calm = true) : CallR X b.val (rBi X.K fa b) := by
  intro pins s σ H vs us Q I rx ⟨g, S, ds, d, r, rd, e, f⟩
  unfold dBi at e
  split at e
  · rename_i x
    split at e
    · rename_i hz
      cases e
      obtain ⟨v, rfl, h⟩ := rd.one_inv
      cases h
      exact call_len_str pins s σ H _ us Q I rx ⟨x, rfl, hz, f.here r (.int _)⟩
    · cases e
  · rename_i d' hd
    cases q : items S d' with
    | none => rw [q] at e; cases e
    | some xs =>
      rw [q] at e
      cases e
      obtain ⟨v, rfl, h⟩ := rd.one_inv
      obtain ⟨p, ws, rfl, h1, h2⟩ := items_sq r q h
      refine call_len_seq pins s σ H _ us Q I rx ⟨p, ws, rfl, h1, f.here r ?_⟩
      rw [← h2.length]
      exact .int _
  · rename_i i
    cases e
    obtain ⟨v, rfl, h⟩ := rd.one_inv
    cases h
    exact call_abs pins s σ H _ us Q I rx ⟨i, rfl, f.here r (.int _)⟩
  · rename_i i
    cases e
    obtain ⟨v, rfl, h⟩ := rd.one_inv
    cases h
    exact call_int1 pins s σ H _ us Q I rx (.inl ⟨i, rfl, f.here r (.int _)⟩)
  · rename_i i
    cases e
    obtain ⟨v, rfl, h⟩ := rd.one_inv
    cases h
    exact call_int1 pins s σ H _ us Q I rx (.inr ⟨i, rfl, f.here r (.int _)⟩)
  · rename_i d'
    cases q : items S d' with
    | none => rw [q] at e; cases e
    | some xs =>
      rw [q] at e
      cases e
      obtain ⟨v, rfl, h⟩ := rd.one_inv
      by_cases hd : ∃ ys, d' = .tup ys
      · obtain ⟨ys, rfl⟩ := hd
        cases q
        obtain ⟨p, ws, rfl, h1, h2⟩ := h.tup_inv
        exact call_tuple_of pins s σ H _ us Q I rx ⟨p, ws, rfl, .inr ⟨h1, f.here r (.tup h1 h2)⟩⟩
      · obtain ⟨p, ws, rfl, h1, h2⟩ := items_sqL r q h fun ys z => hd ⟨ys, z⟩
        exact call_tuple_of pins s σ H _ us Q I rx ⟨p, ws, rfl, .inl ⟨h1, fun l hl => f.tup r h2 hl⟩⟩
  · rename_i i j
    cases e
    obtain ⟨v, w, rfl, h, h'⟩ := rd.two_inv
    cases h
    cases h'
    exact call_min2 hc pins s σ H _ us Q I rx ⟨i, j, rfl, f.here r (.int _)⟩
  · rename_i i j
    cases e
    obtain ⟨v, w, rfl, h, h'⟩ := rd.two_inv
    cases h
    cases h'
    exact call_max2 hc pins s σ H _ us Q I rx ⟨i, j, rfl, f.here r (.int _)⟩
  · rename_i d'
    cases q : listOf S d' with
    | none => rw [q] at e; cases e
    | some xs =>
      rw [q] at e
      simp only [Option.bind_some] at e
      cases q2 : ints? xs with
      | none => rw [q2] at e; cases e
      | some ns =>
        rw [q2] at e
        cases e
        obtain ⟨v, rfl, h⟩ := rd.one_inv
        obtain ⟨p, ws, rfl, h1, h2⟩ := listOf_sq r q h
        have := h2.ints_inv q2
        subst this
        exact cr_sum hc pins s σ H _ us Q I rx ⟨p, ns, rfl, .inl (.inl h1), f.here r (.int _)⟩
  · rename_i d'
    cases q : listOf S d' with
    | none => rw [q] at e; cases e
    | some xs =>
      rw [q] at e
      simp only [Option.bind_some] at e
      cases q2 : bls? xs with
      | none => rw [q2] at e; cases e
      | some ns =>
        rw [q2] at e
        cases e
        obtain ⟨v, rfl, h⟩ := rd.one_inv
        obtain ⟨p, ws, rfl, h1, h2⟩ := listOf_sq r q h
        have := h2.bls_inv q2
        subst this
        exact cr_all hc pins s σ H _ us Q I rx ⟨p, ns, rfl, .inl (.inl h1), f.here r (.bl _)⟩
  · rename_i d'
    cases q : listOf S d' with
    | none => rw [q] at e; cases e
    | some xs =>
      rw [q] at e
      simp only [Option.bind_some] at e
      cases q2 : bls? xs with
      | none => rw [q2] at e; cases e
      | some ns =>
        rw [q2] at e
        cases e
        obtain ⟨v, rfl, h⟩ := rd.one_inv
        obtain ⟨p, ws, rfl, h1, h2⟩ := listOf_sq r q h
        have := h2.bls_inv q2
        subst this
        exact cr_any hc pins s σ H _ us Q I rx ⟨p, ns, rfl, .inl (.inl h1), f.here r (.bl _)⟩
  · rename_i i j
    cases e
    obtain ⟨v, w, rfl, h, h'⟩ := rd.two_inv
    cases h
    cases h'
    exact cr_gcd pins s σ H _ us Q I rx ⟨i, j, rfl, f.here r (.int _)⟩
  · cases e

/-! ### list(x) -/
def rLi (K : PySem.W.Frag) (fa : Nat → Option Addr) : List V → Hp → VK → Prop := fun vs H Q => ∃ g S d ds, RelS K fa g S H ∧ Reps K fa g H [d] vs ∧ items S d = some ds ∧ FinL K fa g H S ds Q
theorem li_ok : CallR X (.type "list") (rLi X.K fa) := by
  intro pins s σ H vs us Q I rx ⟨g, S, d, ds, r, rd, e, f⟩
  obtain ⟨v, rfl, h⟩ := rd.one_inv
  obtain ⟨p, ws, rfl, h1, h2⟩ := items_sq r e h
  exact call_list_of pins s σ H _ us Q I rx ⟨p, ws, rfl, h1, fun l hl => f.new r h2 hl⟩

/-! ### isinstance -/
def Ty.nm : Ty → String
  | .bool => "bool" | .int => "int" | .str => "str" | .tuple => "tuple" | .list => "list"
theorem ty_tup {H : Hp} {a : Addr} {vs : List V} (h : SqT K H a vs) : TyX K H (.ref a) (.type "tuple") := by
  rcases h with (h | ⟨o, h⟩) | ⟨o, its, n, h1, h2, _⟩
  · exact .base (.tup h)
  · exact .fTuple h
  · exact .kTuple h1 h2
theorem isi_ty {S : Store} {g : G} {H : Hp} {t : Ty} {d : D} {v : V} {b : Bool} (rd : Rep K fa g H d v) (e : dIsi S t d = some b) : ∃ u, TyX K H v u ∧ PySem.W.kitOne K u (.type t.nm) = some b := by
  cases rd with
  | non => cases e; exact ⟨_, .base .non, by cases t <;> exact kit_ty (by decide +kernel)⟩
  | bl x => cases e; exact ⟨_, .base (.bl x), by cases t <;> exact kit_ty (by decide +kernel)⟩
  | int x => cases e; exact ⟨_, .base (.int x), by cases t <;> exact kit_ty (by decide +kernel)⟩
  | str x => cases e; exact ⟨_, .base (.str x), by cases t <;> exact kit_ty (by decide +kernel)⟩
  | tup h _ => cases e; exact ⟨_, ty_tup h, by cases t <;> exact kit_ty (by decide +kernel)⟩
  | lst h _ _ => cases e; exact ⟨_, .base (.lst h), by cases t <;> exact kit_ty (by decide +kernel)⟩
  | _ => cases e

/-! ### methods -/
def Me.nm : Me → Str
  | .append => "append" | .pop => "pop" | .reverse => "reverse"
def Me.id : Me → String
  | .append => "list.append" | .pop => "list.pop" | .reverse => "list.reverse"
def rMe (K : PySem.W.Frag) (fa : Nat → Option Addr) (m : Me) : V → List V → Hp → VK → Prop := fun x vs H Q => ∃ g S o ds d S', RelS K fa g S H ∧ Rep K fa g H o x ∧ Reps K fa g H ds vs ∧ dMe m o ds S = some (d, S') ∧ Fin K fa g H S' d Q
theorem seq_of_ix {n : Nat} {i : Int} {j : Nat} (h : ixN n i = some j) (hn : n ≤ sizeLine) : seqIndex? i n = some j ∧ -(2 ^ 63) ≤ i ∧ i < 2 ^ 63 := by
  obtain ⟨h1, h2, h3, h4⟩ := ixN_seq h
  have := line63
  exact ⟨h1, by omega, by omega⟩
theorem me_ok (m : Me) : MtR X m.id (rMe X.K fa m) := by
  intro pins s σ H x vs v us Q I rx rs ⟨g, S, o, ds, d, S', r, ro, rd, e, f⟩
  unfold dMe at e
  cases ro with
  | @ref a i hm =>
    dsimp only at e
    cases q : S[i]? with
    | none => rw [q] at e; cases e
    | some ob =>
      rw [q] at e
      obtain ⟨a', h1, h2⟩ := r.addr q
      rw [hm] at h1
      cases h1
      cases ob with
      | lst xs =>
        obtain ⟨ws, h3, h4⟩ := h2
        dsimp only at e
        have fin : ∀ {ys : List D} {zs : List V} {y : D} {z : V}, Fin X.K fa g H (S.set i (.lst ys)) y Q → Reps X.K fa g H ys zs → Rep X.K fa g H y z → Q z (upd H a (.lst zs)) := fun {ys zs y z} f h5 h6 =>
          f g _ _ (r.setExt hm h3) (r.set hm h3 h5) (h6.ext (r.setExt hm h3))
        have hz : ws.length ≤ sizeLine := by
          obtain ⟨hz, _⟩ := (show ObjOk X.prog X.w H s.heap a (.lst ws) from I.hok a _ h3)
          exact hz
        split at e
        · rename_i d'
          split at e
          · rename_i hl
            cases e
            obtain ⟨w, rfl, hw⟩ := rd.one_inv
            exact mt_append pins s σ H _ _ v us Q I rx rs ⟨a, ws, w, rfl, rfl, h3, by rw [← h4.length]; exact hl, fin f (h4.append (.one hw)) .non⟩
          · cases e
        · split at e
          · rename_i d' hd
            cases e
            cases rd
            obtain ⟨w, hw, rw'⟩ := h4.get hd
            exact mt_pop pins s σ H _ _ v us Q I rx rs ⟨a, ws, w, rfl, rfl, h3, by rw [← h4.length]; exact hw, fin f h4.dropLast rw'⟩
          · cases e
        · rename_i k
          split at e
          · rename_i j hj
            split at e
            · rename_i d' hd
              cases e
              obtain ⟨w, rfl, hw⟩ := rd.one_inv
              cases hw
              obtain ⟨z, hz', rz⟩ := h4.get hd
              rw [h4.length] at hj
              obtain ⟨k1, k2, k3⟩ := seq_of_ix hj hz
              exact mt_popAt pins s σ H _ _ v us Q I rx rs ⟨a, ws, k, j, z, rfl, rfl, h3, k2, k3, k1, hz', fin f (h4.eraseIdx j) rz⟩
            · cases e
          · cases e
        · cases e
          cases rd
          exact mt_reverse pins s σ H _ _ v us Q I rx rs ⟨a, ws, rfl, rfl, h3, fin f h4.reverse .non⟩
        · cases e
  | _ => cases e
theorem me_ty {m : Me} {S : Store} {g : G} {H : Hp} {o : D} {x : V} (r : RelS K fa g S H) (ro : Rep K fa g H o x) (e : recvOk m o S = true) : tyV K "list" x H := by
  unfold recvOk at e
  cases ro with
  | @ref a i hm =>
    dsimp only at e
    cases q : S[i]? with
    | none => rw [q] at e; cases e
    | some ob =>
      obtain ⟨a', h1, h2⟩ := r.addr q
      rw [hm] at h1
      cases h1
      cases ob with
      | lst xs =>
        obtain ⟨ws, h3, h4⟩ := h2
        exact .inl ⟨rfl, ws, .inl (.inl h3)⟩
  | _ => cases e
theorem me_slot (m : Me) : Slot "list" m.nm m.id := by
  cases m
  · exact PySem.F.slot_list_append
  · exact PySem.F.slot_list_pop
  · exact PySem.F.slot_list_reverse
theorem me_type (m : Me) : typeOf (.builtin m.id) = pure (.type "method_descriptor") := by
  cases m
  · exact PySem.F.type_list_append
  · exact PySem.F.type_list_pop
  · exact PySem.F.type_list_reverse
end
end Ab

/-! Ab6: small code and the text: when the one is written for the other. -/
namespace Ab
open PySem PySem.Spec PyProof.Rows L2

structure Cfg where
  N : List Str
  T : Nat → Option FD
  gl : Str → Option D
  gcd : Bool

def notStar : Expr → Bool
  | .Starred .. => false | _ => true
def notSlice : Expr → Bool
  | .Slice .. => false | _ => true
def notSet : Expr → Bool
  | .Set .. => false | _ => true
def notCall : Expr → Bool
  | .Call .. => false | _ => true
def notComp : Expr → Bool
  | .ListComp .. => false | .SetComp .. => false | .DictComp .. => false | _ => true
def visB (sc : Scope) (x : Str) : Bool := match sc.names.lookup x with
  | some .local => true | some .cell => true | some .free => true | _ => false
def glB (sc : Scope) (x : Str) : Bool := match sc.names.lookup x with
  | some .globalImplicit => true | _ => false
def locB (sc : Scope) (x : Str) : Bool := match sc.names.lookup x with
  | some .local => true | some .cell => true | _ => false
def plainB (x : Str) : Bool := !(x == ("__debug__" : Str)) && (!(x == ("__classdict__" : Str)) && decide (x ≠ ("__name__" : Str)))
def ownN (N : List Str) (own : List Nat) : List (Str × Nat) := own.map fun i => ((N[i]?).getD ("" : Str), i)
mutual
def Tg.slots : Tg → List Nat
  | .name i => [i]
  | .tup ts => Tg.slotss ts
def Tg.slotss : List Tg → List Nat
  | [] => []
  | t :: ts => Tg.slots t ++ Tg.slotss ts
end
mutual
def mG (N : List Str) (st : Str → Bool) : Tg → Expr → Bool
  | .name i, .Name x _ => decide (N[i]? = some x) && st x
  | .tup ts, .Tuple es _ _ => mGs N st ts es
  | _, _ => false
def mGs (N : List Str) (st : Str → Bool) : List Tg → List Expr → Bool
  | [], [] => true
  | t :: ts, e :: es => notStar e && (mG N st t e && mGs N st ts es)
  | _, _ => false
end

/-- what is walked: a range's ends (rg), or a value -/
def iterArgs (sc : Scope) : Bool → Expr → Option (List Expr)
  | true, .Call (.Name x _) es' [] _ => if decide (x = ("range" : Str)) && (glB sc x && decide (es'.length = 1 ∨ es'.length = 2)) then some es' else none
  | false, .Starred .. => none
  | false, e => some [e]
  | _, _ => none
mutual
def mE (C : Cfg) (sc : Scope) : IE → Expr → Bool
  | .lit (.int i), .Constant (.int j) _ _ => decide (i = j)
  | .lit (.bl i), .Constant (.bool j) _ _ => decide (i = j)
  | .lit .non, .Constant .none _ _ => true
  | .lit (.str i), .Constant (.str j) _ _ => decide (i = j)
  | .var i, .Name x _ => decide (C.N[i]? = some x) && (visB sc x && plainB x)
  | .glob x, .Name y _ => decide (x = y) && (glB sc x && plainB x)
  | .tup es, .Tuple es' _ _ => mEs C sc es es'
  | .lst es, .List es' _ => mEs C sc es es'
  | .bin op a b, .BinOp a' op' b' _ => decide (op = op') && (mE C sc a a' && mE C sc b b')
  | .un op a, .UnaryOp op' a' _ => decide (op = op') && mE C sc a a'
  | .bop op es, .BoolOp op' es' _ => decide (op = op') && mEs C sc es es'
  | .cmp op a b, .Compare a' [op'] [b'] _ => decide (op = op') && (notSet b' && (mE C sc a a' && mE C sc b b'))
  | .chain op1 op2 a b c, .Compare a' [op1', op2'] [b', c'] _ => decide (op1 = op1') && (decide (op2 = op2') && (notSet c' && (mE C sc a a' && (mE C sc b b' && mE C sc c c'))))
  | .ite c a b, .IfExp c' a' b' _ => mE C sc c c' && (mE C sc a a' && mE C sc b b')
  | .ix a b, .Subscript a' b' _ => notSlice b' && (mE C sc a a' && mE C sc b b')
  | .slc a lo hi, .Subscript a' (.Slice lo' hi' none _) _ => mE C sc a a' && (mO C sc lo lo' && mO C sc hi hi')
  | .call f es, .Call (.Name x _) es' [] _ => (match C.T f with
    | some fd => decide (fd.name = x)
    | none => false) && (glB sc x && (plainB x && (!es.isEmpty && mEs C sc es es')))
  | .bi b es, .Call (.Name x _) es' [] _ => decide (b.nm = x) && ((decide (b ≠ .gcd) || C.gcd) && (glB sc x && (!es.isEmpty && mEs C sc es es')))
  | .isi t a, .Call (.Name x _) [a', .Name y _] [] _ => decide (x = ("isinstance" : Str)) && (decide (y = (t.nm : Str)) && (glB sc x && (glB sc y && (notStar a' && mE C sc a a'))))
  | .meth m o es, .Call (.Attribute o' n apos) es' [] cpos => decide (m.nm = n) && ((apos.endLine == cpos.line) && (notCall o' && (decide (es'.length < 20) && (mE C sc o o' && mEs C sc es es'))))
  | .list1 a, .Call (.Name x _) [a'] [] _ => decide (x = ("list" : Str)) && (glB sc x && (notStar a' && mE C sc a a'))
  | .lc own tg rg it ifs elt, .ListComp elt' [⟨tg', iter', ifs', asy⟩] scope _ => decide (asy = 0) && (blkC C.N sc scope (ownN C.N own) && (notSet iter' && ((match iterArgs sc rg iter' with | some es' => mEs C sc it es' | none => false) && (tg.slots.all (own.contains ·) && (mG C.N (locB scope) tg tg' &&
      (mEs C (relS scope sc) ifs ifs' && (decide (ifs.length ≤ 1) && mE C (relS scope sc) elt elt')))))))
  | .bad, e => notStar e
  | _, _ => false
def mEs (C : Cfg) (sc : Scope) : List IE → List Expr → Bool
  | [], [] => true
  | a :: as, e :: es => notStar e && (mE C sc a e && mEs C sc as es)
  | _, _ => false
def mO (C : Cfg) (sc : Scope) : Option IE → Option Expr → Bool
  | none, none => true
  | some a, some e => mE C sc a e
  | _, _ => false
end

/-! ### statements -/
def swB (sc : Scope) (x : Str) (line : Nat) (scope : Scope) (line2 : Nat) : Bool := (match sc.names.lookup x with | some .local => true | _ => false) && ((line == line2) && !(scope.names.any fun (n, k) => n == x && (k == .local || k == .cell)))
def freshB : IE → Bool
  | .lst _ => true
  | .bin _ _ _ => true
  | .list1 _ => true
  | .lc .. => true
  | _ => false
def isComp : IE → Bool
  | .lc .. => true
  | _ => false
/-- a, b = x, y whose stores are swapped -/
def parB (sc : Scope) : Expr → Expr → Expr → Expr → Bool
  | .Name x px, .Name y py, a, b => (match sc.names.lookup x with | some .local => true | _ => false) && ((match sc.names.lookup y with | some .local => true | _ => false) && (decide (x ≠ y) && ((px.line == py.line) && (!([a, b].all (foldedForSure 8)) && !([a, b].all (constantsAlone 8))))))
  | _, _, _, _ => false
/-- a tuple's stores are not swapped -/
def noSwapB (sc : Scope) (t e : Expr) : Bool := match t, e with
  | .Tuple ts _ _, .Tuple vs _ _ => !(ts.length == 2 || ts.length == 3) || ts.any fun | .Name x _ => !(sc.names.lookup x == some .local) | _ => true
  | .List _ _, _ => false
  | _, _ => true
mutual
def mS (C : Cfg) (sc : Scope) : IS → Stmt → Bool
  | .asg (.name i) e, .Assign [.Name x px] e' pos => decide (C.N[i]? = some x) && (locB sc x && ((notComp e' || isComp e) && mE C sc e e'))
  | .asg (.tup ts) e, .Assign [.Tuple es k pt] e' pos => notComp e' && (noSwapB sc (.Tuple es k pt) e' && (mGs C.N (locB sc) ts es && mE C sc e e'))
  | .new i e, .Assign [.Name x px] e' pos => decide (C.N[i]? = some x) && (freshB e && (locB sc x && ((notComp e' || isComp e) && mE C sc e e')))
  | .par i j a b, .Assign [.Tuple [.Name x px, .Name y py] _ _] (.Tuple [a', b'] _ _) pos => decide (C.N[i]? = some x) && (decide (C.N[j]? = some y) && (decide (i ≠ j) && (parB sc (.Name x px) (.Name y py) a' b' && (notStar a' && (notStar b' && (mE C sc a a' && mE C sc b b'))))))
  | .seti o i e, .Assign [.Subscript o' i' _] e' _ => notComp e' && (notSlice i' && (mE C sc e e' && (mE C sc o o' && mE C sc i i')))
  | .aug i op e, .AugAssign (.Name x _) op' e' _ => decide (C.N[i]? = some x) && (locB sc x && (decide (op = op') && mE C sc e e'))
  | .ex e, .Expr e' _ => notComp e' && mE C sc e e'
  | .ret e, .Return (some e') _ => mE C sc e e'
  | .retN, .Return none _ => true
  | .ite c a b, .If c' a' b' _ => mE C sc c c' && (mSs C sc a a' && mSs C sc b b')
  | .whl _ c b, .While c' b' [] _ => mE C sc c c' && mSs C sc b b'
  | .for_ tg rg it b, .For tg' it' b' [] _ => notSet it' && ((match iterArgs sc rg it' with | some es' => mEs C sc it es' | none => false) && (mG C.N (locB sc) tg tg' && mSs C sc b b'))
  | .pass, .Pass _ => true
  | .brk, .Break _ => true
  | .cont, .Continue _ => true
  | .bad, _ => true
  | _, _ => false
def mSs (C : Cfg) (sc : Scope) : List IS → List Stmt → Bool
  | [], [] => true
  | a :: as, e :: es => mS C sc a e && mSs C sc as es
  | _, _ => false
end

/-! ### the text's small facts -/
theorem star_cons {e : Expr} {es : List Expr} {env : Env} (h : notStar e = true) : starEach (e :: es) env = (false, eval e env) :: starEach es env := by
  cases e <;> first | rfl | cases h
theorem star_any (pos : Pos) (env : Env) : ∀ {es : List Expr}, es.all notStar = true → (backTo pos (starEach es env)).any (·.1) = false
  | [], _ => rfl
  | e :: es, h => by
    rw [List.all_cons, Bool.and_eq_true] at h
    rw [star_cons h.1]
    show (false || (backTo pos (starEach es env)).any (·.1)) = false
    rw [star_any pos env h.2]
    rfl
theorem star_all (pos : Pos) (env : Env) : ∀ {es : List Expr}, es.all notStar = true → (backTo pos (starEach es env)).all (fun x => !x.1) = true
  | [], _ => rfl
  | e :: es, h => by
    rw [List.all_cons, Bool.and_eq_true] at h
    rw [star_cons h.1]
    show (!false && (backTo pos (starEach es env)).all (fun x => !x.1)) = true
    rw [star_all pos env h.2]
    rfl
theorem mEs_star {C : Cfg} {sc : Scope} : ∀ {as : List IE} {es : List Expr}, mEs C sc as es = true → es.all notStar = true
  | [], [], _ => rfl
  | [], _ :: _, h => by simp [mEs] at h
  | _ :: _, [], h => by simp [mEs] at h
  | a :: as, e :: es, h => by
    simp only [mEs, Bool.and_eq_true] at h
    rw [List.all_cons, h.1, mEs_star h.2.2]
    rfl
theorem mEs_len {C : Cfg} {sc : Scope} : ∀ {as : List IE} {es : List Expr}, mEs C sc as es = true → as.length = es.length
  | [], [], _ => rfl
  | [], _ :: _, h => by simp [mEs] at h
  | _ :: _, [], h => by simp [mEs] at h
  | a :: as, e :: es, h => by
    simp only [mEs, Bool.and_eq_true] at h
    exact congrArg Nat.succ (mEs_len h.2.2)
theorem nomark_of {op : CmpOp} {b : Expr} (h : notSet b = true) : behindInMarks op b = false := by
  cases b <;> first | rfl | cases h
theorem nomark2 {op op' : CmpOp} {b c : Expr} (h : notSet c = true) : lastMarks [op, op'] [b, c] = false := nomark_of h
theorem plain_ix {b : Expr} (h : notSlice b = true) : PlainIx b := by
  intro o i
  cases b <;> first | rfl | cases h
theorem attr_base {o : Expr} {n : Str} {env : Env} (w : Sem Value) (h : notCall o = true) : attributeBase o n env w = w := by
  cases o <;> first | rfl | cases h
theorem folded_of {e : Expr} {env : Env} (h : notSet e = true) (x : Value) : foldedSetIterable e env x = pure x := by
  cases e <;> first | rfl | cases h
theorem swaps_of {e : Expr} {t : Option Expr} {l : Nat} {env : Env} (h : notComp e = true) : swapsWith e t l env = pure false := by
  cases e <;> first | rfl | cases h
theorem vis_of {sc : Scope} {x : Str} (h : visB sc x = true) : Vis sc x := by
  unfold visB at h
  unfold Vis
  cases q : sc.names.lookup x with
  | none => rw [q] at h; cases h
  | some k => rw [q] at h; cases k <;> first | exact .inl rfl | exact .inr (.inl rfl) | exact .inr (.inr rfl) | cases h
theorem gl_of {X : Cx} {x : Str} (h : glB X.env.scope x = true) : Gl X x := by
  unfold glB at h
  show X.env.scope.names.lookup x = _
  cases q : X.env.scope.names.lookup x with
  | none => rw [q] at h; cases h
  | some k => rw [q] at h; cases k <;> first | rfl | cases h
theorem loc_of {sc : Scope} {x : Str} (h : locB sc x = true) : L2.Loc sc x := by
  unfold locB at h
  unfold L2.Loc
  cases q : sc.names.lookup x with
  | none => rw [q] at h; cases h
  | some k => rw [q] at h; cases k <;> first | exact .inl rfl | exact .inr rfl | cases h
theorem plain_of {x : Str} (h : plainB x = true) : (x == ("__debug__" : Str)) = false ∧ (x == ("__classdict__" : Str)) = false ∧ x ≠ ("__name__" : Str) := by
  unfold plainB at h
  simp only [Bool.and_eq_true, Bool.not_eq_true', decide_eq_true_eq] at h
  exact h
end Ab

/-! Ab7: readings by evaluation; what evaluation is made of. -/
namespace Ab
open PySem PySem.Spec PyProof.Rows L2

section
variable (K : PySem.W.Frag) (fa : Nat → Option Addr)
def tA (f : AEnv → Store → Option (D × Store)) : TE := fun σ H Q => ∃ g ρ S d S', RelS K fa g S H ∧ ERel K fa g H ρ σ ∧ f ρ S = some (d, S') ∧ Fin K fa g H S' d Q
/-- a list that is nobody's -/
def tL (f : AEnv → Store → Option (D × Store)) : TE := fun σ H Q => ∃ g ρ S ds S', RelS K fa g S H ∧ ERel K fa g H ρ σ ∧ f ρ S = some (.lst ds, S') ∧ FinL K fa g H S' ds Q
def FinT (g : G) (H : Hp) (S : Store) (b : Bool) (Q : Bool → Hp → Prop) : Prop := ∀ g' H', Ext g H g' H' → RelS K fa g' S H' → Q b H'
def tT (f : AEnv → Store → Option (Bool × Store)) : TT := fun σ H Q => ∃ g ρ S b S', RelS K fa g S H ∧ ERel K fa g H ρ σ ∧ f ρ S = some (b, S') ∧ FinT K fa g H S' b Q
def FinS (g : G) (H : Hp) (S : Store) (ds : List D) (Q : List V → Hp → Prop) : Prop := ∀ g' vs H', Ext g H g' H' → RelS K fa g' S H' → Reps K fa g' H' ds vs → Q vs H'
def tAs (f : AEnv → Store → Option (List D × Store)) : TA := fun σ H Q => ∃ g ρ S ds S', RelS K fa g S H ∧ ERel K fa g H ρ σ ∧ f ρ S = some (ds, S') ∧ FinS K fa g H S' ds Q
def tO (f : AEnv → Store → Option (Option Int × Store)) : TO := fun σ H Q => ∃ g ρ S o S', RelS K fa g S H ∧ ERel K fa g H ρ σ ∧ f ρ S = some (o, S') ∧ ∀ g' H', Ext g H g' H' → RelS K fa g' S' H' → Q o H'
end

section
variable {K : PySem.W.Frag} {fa : Nat → Option Addr} {g : G} {H : Hp} {S S1 S2 : Store} {ρ : AEnv} {σ : L2.St}
theorem seq1 {f : AEnv → Store → Option (D × Store)} {x : D} (rs : RelS K fa g S H) (er : ERel K fa g H ρ σ) (e1 : f ρ S = some (x, S1)) {R : V → Hp → Prop}
    (k : ∀ g' v H', Ext g H g' H' → RelS K fa g' S1 H' → ERel K fa g' H' ρ σ → Rep K fa g' H' x v → R v H') : tA K fa f σ H R :=
  ⟨g, ρ, S, x, S1, rs, er, e1, fun g' v H' x1 r1 p1 => k g' v H' x1 r1 (er.ext x1) p1⟩
theorem seq2 {f f' : AEnv → Store → Option (D × Store)} {x y : D} (rs : RelS K fa g S H) (er : ERel K fa g H ρ σ) (e1 : f ρ S = some (x, S1)) (e2 : f' ρ S1 = some (y, S2)) {R : V → V → Hp → Prop}
    (k : ∀ g' v w H', Ext g H g' H' → RelS K fa g' S2 H' → ERel K fa g' H' ρ σ → Rep K fa g' H' x v → Rep K fa g' H' y w → R v w H') : tA K fa f σ H fun v H1 => tA K fa f' σ H1 fun w H2 => R v w H2 :=
  seq1 rs er e1 fun g1 v H1 x1 r1 er1 p1 => seq1 r1 er1 e2 fun g2 w H2 x2 r2 er2 p2 => k g2 v w H2 (x1.trans x2) r2 er2 (p1.ext x2) p2
theorem seqS {f : AEnv → Store → Option (List D × Store)} {xs : List D} (rs : RelS K fa g S H) (er : ERel K fa g H ρ σ) (e1 : f ρ S = some (xs, S1)) {R : List V → Hp → Prop}
    (k : ∀ g' v H', Ext g H g' H' → RelS K fa g' S1 H' → ERel K fa g' H' ρ σ → Reps K fa g' H' xs v → R v H') : tAs K fa f σ H R :=
  ⟨g, ρ, S, xs, S1, rs, er, e1, fun g' v H' x1 r1 p1 => k g' v H' x1 r1 (er.ext x1) p1⟩
theorem seqT {f : AEnv → Store → Option (Bool × Store)} {x : Bool} (rs : RelS K fa g S H) (er : ERel K fa g H ρ σ) (e1 : f ρ S = some (x, S1)) {R : Bool → Hp → Prop}
    (k : ∀ g' H', Ext g H g' H' → RelS K fa g' S1 H' → ERel K fa g' H' ρ σ → R x H') : tT K fa f σ H R :=
  ⟨g, ρ, S, x, S1, rs, er, e1, fun g' H' x1 r1 => k g' H' x1 r1 (er.ext x1)⟩
theorem Fin.after {d : D} {Q : VK} (f : Fin K fa g H S d Q) {g' : G} {H' : Hp} (e : Ext g H g' H') : Fin K fa g' H' S d Q := fun g2 v H2 x r p => f g2 v H2 (e.trans x) r p
theorem FinL.after {d : List D} {Q : VK} (f : FinL K fa g H S d Q) {g' : G} {H' : Hp} (e : Ext g H g' H') : FinL K fa g' H' S d Q := fun g2 p v H2 x r o q => f g2 p v H2 (e.trans x) r o q
theorem FinT.after {d : Bool} {Q : Bool → Hp → Prop} (f : FinT K fa g H S d Q) {g' : G} {H' : Hp} (e : Ext g H g' H') : FinT K fa g' H' S d Q := fun g2 H2 x r => f g2 H2 (e.trans x) r
theorem FinS.after {d : List D} {Q : List V → Hp → Prop} (f : FinS K fa g H S d Q) {g' : G} {H' : Hp} (e : Ext g H g' H') : FinS K fa g' H' S d Q := fun g2 v H2 x r p => f g2 v H2 (e.trans x) r p
end

/-! ### what evaluation is made of -/
section
variable {cf : CallF} {gl : Str → Option D} {ρ : AEnv} {S S' : Store} {d : D} {a b c : IE} {es : List IE}
theorem ev_var {i : Nat} (h : ev cf gl (.var i) ρ S = some (d, S')) : ρ[i]? = some (some d) ∧ S' = S := by
  simp only [ev] at h
  split at h
  · rename_i d' e
    cases h
    exact ⟨e, rfl⟩
  · cases h
theorem ev_tup (h : ev cf gl (.tup es) ρ S = some (d, S')) : ∃ ds, evs cf gl es ρ S = some (ds, S') ∧ ds.length ≤ sizeLine ∧ d = .tup ds := by
  simp only [ev] at h
  split at h
  · rename_i ds S1 e
    split at h
    · rename_i hz
      cases h
      exact ⟨ds, e, hz, rfl⟩
    · cases h
  · cases h
theorem ev_lst (h : ev cf gl (.lst es) ρ S = some (d, S')) : ∃ ds, evs cf gl es ρ S = some (ds, S') ∧ ds.length ≤ sizeLine ∧ d = .lst ds := by
  simp only [ev] at h
  split at h
  · rename_i ds S1 e
    split at h
    · rename_i hz
      cases h
      exact ⟨ds, e, hz, rfl⟩
    · cases h
  · cases h
theorem ev_bin {op : Operator} (h : ev cf gl (.bin op a b) ρ S = some (d, S')) : ∃ x S1 y, ev cf gl a ρ S = some (x, S1) ∧ ev cf gl b ρ S1 = some (y, S') ∧ dBin S' op x y = some d := by
  simp only [ev] at h
  split at h
  · rename_i x S1 h1
    split at h
    · rename_i y S2 h2
      rw [Option.map_eq_some_iff] at h
      obtain ⟨z, h3, h4⟩ := h
      cases h4
      exact ⟨x, S1, y, h1, h2, h3⟩
    · cases h
  · cases h
theorem ev_un {op : UnaryOp} (h : ev cf gl (.un op a) ρ S = some (d, S')) : ∃ x, ev cf gl a ρ S = some (x, S') ∧ dUn op x = some d := by
  simp only [ev] at h
  split at h
  · rename_i x S1 h1
    rw [Option.map_eq_some_iff] at h
    obtain ⟨z, h3, h4⟩ := h
    cases h4
    exact ⟨x, h1, h3⟩
  · cases h
theorem ev_cmp {op : CmpOp} (h : ev cf gl (.cmp op a b) ρ S = some (d, S')) : ∃ x S1 y c, ev cf gl a ρ S = some (x, S1) ∧ ev cf gl b ρ S1 = some (y, S') ∧ dCmp S' op x y = some c ∧ d = .bl c := by
  simp only [ev] at h
  split at h
  · rename_i x S1 h1
    split at h
    · rename_i y S2 h2
      rw [Option.map_eq_some_iff] at h
      obtain ⟨z, h3, h4⟩ := h
      cases h4
      exact ⟨x, S1, y, z, h1, h2, h3, rfl⟩
    · cases h
  · cases h
theorem ev_chain {op op' : CmpOp} (h : ev cf gl (.chain op op' a b c) ρ S = some (d, S')) : ∃ x S1 y S2, ev cf gl a ρ S = some (x, S1) ∧ ev cf gl b ρ S1 = some (y, S2) ∧
    ((dCmp S2 op x y = some true ∧ ∃ z r, ev cf gl c ρ S2 = some (z, S') ∧ dCmp S' op' y z = some r ∧ d = .bl r) ∨ (dCmp S2 op x y = some false ∧ S' = S2 ∧ d = .bl false)) := by
  simp only [ev] at h
  split at h
  · rename_i x S1 h1
    split at h
    · rename_i y S2 h2
      split at h
      · rename_i h3
        split at h
        · rename_i z S3 h4
          rw [Option.map_eq_some_iff] at h
          obtain ⟨r, h5, h6⟩ := h
          cases h6
          exact ⟨x, S1, y, S2, h1, h2, .inl ⟨h3, z, r, h4, h5, rfl⟩⟩
        · cases h
      · rename_i h3
        cases h
        exact ⟨x, S1, y, _, h1, h2, .inr ⟨h3, rfl, rfl⟩⟩
      · cases h
    · cases h
  · cases h
theorem ev_ite (h : ev cf gl (.ite c a b) ρ S = some (d, S')) : ∃ t S1, evT cf gl c ρ S = some (t, S1) ∧ (if t = true then ev cf gl a ρ S1 else ev cf gl b ρ S1) = some (d, S') := by
  simp only [ev] at h
  split at h
  · rename_i S1 h1
    exact ⟨true, S1, h1, h⟩
  · rename_i S1 h1
    exact ⟨false, S1, h1, h⟩
  · cases h
theorem ev_ix (h : ev cf gl (.ix a b) ρ S = some (d, S')) : ∃ x S1 y, ev cf gl a ρ S = some (x, S1) ∧ ev cf gl b ρ S1 = some (y, S') ∧ dIx S' x y = some d := by
  simp only [ev] at h
  split at h
  · rename_i x S1 h1
    split at h
    · rename_i y S2 h2
      rw [Option.map_eq_some_iff] at h
      obtain ⟨z, h3, h4⟩ := h
      cases h4
      exact ⟨x, S1, y, h1, h2, h3⟩
    · cases h
  · cases h
theorem ev_slc {lo hi : Option IE} (h : ev cf gl (.slc a lo hi) ρ S = some (d, S')) : ∃ x S1 l S2 u, ev cf gl a ρ S = some (x, S1) ∧ evO cf gl lo ρ S1 = some (l, S2) ∧ evO cf gl hi ρ S2 = some (u, S') ∧ dSl S' x l u = some d := by
  simp only [ev] at h
  split at h
  · rename_i x S1 h1
    split at h
    · rename_i y S2 h2
      split at h
      · rename_i z S3 h3
        rw [Option.map_eq_some_iff] at h
        obtain ⟨r, h4, h5⟩ := h
        cases h5
        exact ⟨x, S1, y, S2, z, h1, h2, h3, h4⟩
      · cases h
    · cases h
  · cases h
theorem ev_call {f : Nat} (h : ev cf gl (.call f es) ρ S = some (d, S')) : ∃ ds S1, evs cf gl es ρ S = some (ds, S1) ∧ cf f ds S1 = some (d, S') := by
  simp only [ev] at h
  split at h
  · rename_i ds S1 h1
    exact ⟨ds, S1, h1, h⟩
  · cases h
theorem ev_bi {f : Bi} (h : ev cf gl (.bi f es) ρ S = some (d, S')) : ∃ ds, evs cf gl es ρ S = some (ds, S') ∧ dBi S' f ds = some d := by
  simp only [ev] at h
  split at h
  · rename_i ds S1 h1
    rw [Option.map_eq_some_iff] at h
    obtain ⟨r, h4, h5⟩ := h
    cases h5
    exact ⟨ds, h1, h4⟩
  · cases h
theorem ev_isi {t : Ty} (h : ev cf gl (.isi t a) ρ S = some (d, S')) : ∃ x c, ev cf gl a ρ S = some (x, S') ∧ dIsi S' t x = some c ∧ d = .bl c := by
  simp only [ev] at h
  split at h
  · rename_i ds S1 h1
    rw [Option.map_eq_some_iff] at h
    obtain ⟨r, h4, h5⟩ := h
    cases h5
    exact ⟨ds, r, h1, h4, rfl⟩
  · cases h
theorem ev_meth {m : Me} (h : ev cf gl (.meth m a es) ρ S = some (d, S')) : ∃ x S1 ds S2, ev cf gl a ρ S = some (x, S1) ∧ recvOk m x S1 = true ∧ evs cf gl es ρ S1 = some (ds, S2) ∧ dMe m x ds S2 = some (d, S') := by
  simp only [ev] at h
  split at h
  · rename_i x S1 h1
    split at h
    · rename_i hr
      split at h
      · rename_i ds S2 h2
        exact ⟨x, S1, ds, S2, h1, hr, h2, h⟩
      · cases h
    · cases h
  · cases h
theorem ev_list1 (h : ev cf gl (.list1 a) ρ S = some (d, S')) : ∃ x ds, ev cf gl a ρ S = some (x, S') ∧ items S' x = some ds ∧ d = .lst ds := by
  simp only [ev] at h
  split at h
  · rename_i ds S1 h1
    rw [Option.map_eq_some_iff] at h
    obtain ⟨r, h4, h5⟩ := h
    cases h5
    exact ⟨ds, r, h1, h4, rfl⟩
  · cases h
/-- a comprehension's turn -/
def lcF (cf : CallF) (gl : Str → Option D) (own : List Nat) (tg : Tg) (ifs : List IE) (elt : IE) (ρ : AEnv) (d : D) (S : Store) : Option (Option D × Store) := match Tg.bind tg d (wipeA ρ own) with
  | some ρ' => match evTs cf gl ifs ρ' S with
    | some (true, S2) => (ev cf gl elt ρ' S2).map fun p => (some p.1, p.2)
    | some (false, S2) => some (none, S2)
    | none => none
  | none => none
theorem ev_lc {own : List Nat} {tg : Tg} {rg : Bool} {ifs : List IE} (h : ev cf gl (.lc own tg rg es ifs a) ρ S = some (d, S')) : ∃ ds S1 xs ys, evs cf gl es ρ S = some (ds, S1) ∧ walk rg ds S1 = some xs ∧
    evLc (stays rg ds xs) (lcF cf gl own tg ifs a ρ) xs [] S1 = some (ys, S') ∧ d = .lst ys := by
  simp only [ev] at h
  split at h
  · rename_i ds S1 h1
    split at h
    · rename_i xs h2
      rw [Option.map_eq_some_iff] at h
      obtain ⟨r, h4, h5⟩ := h
      cases h5
      exact ⟨ds, S1, xs, r.1, h1, h2, h4, rfl⟩
    · cases h
  · cases h
theorem evs_cons {ds : List D} (h : evs cf gl (a :: es) ρ S = some (ds, S')) : ∃ x S1 xs, ev cf gl a ρ S = some (x, S1) ∧ evs cf gl es ρ S1 = some (xs, S') ∧ ds = x :: xs := by
  simp only [evs] at h
  split at h
  · rename_i x S1 h1
    split at h
    · rename_i ys S2 h2
      cases h
      exact ⟨x, S1, ys, h1, h2, rfl⟩
    · cases h
  · cases h
theorem evB_one {op : BoolOp} (h : evB cf gl op [a] ρ S = some (d, S')) : ev cf gl a ρ S = some (d, S') := by
  simp only [evB] at h
  split at h
  · rename_i x S1 h1
    simp only [List.isEmpty_nil, if_true] at h
    cases h
    exact h1
  · cases h
theorem evB_cons {op : BoolOp} (h : evB cf gl op (a :: b :: es) ρ S = some (d, S')) : ∃ t S1, ev cf gl a ρ S = some (.bl t, S1) ∧ ((t = isAnd op ∧ evB cf gl op (b :: es) ρ S1 = some (d, S')) ∨ (t = !isAnd op ∧ d = .bl t ∧ S' = S1)) := by
  rw [evB.eq_def] at h
  dsimp only at h
  split at h
  · rename_i x S1 h1
    simp only [List.isEmpty_cons, Bool.false_eq_true, if_false] at h
    split at h
    · rename_i t
      split at h
      · rename_i ht
        exact ⟨t, S1, h1, .inl ⟨ht, h⟩⟩
      · rename_i ht
        cases h
        refine ⟨t, _, h1, .inr ⟨?_, rfl, rfl⟩⟩
        cases op <;> cases t <;> simp_all [isAnd]
    · cases h
  · cases h
variable {t : Bool}
theorem evBT_one {op : BoolOp} (h : evBT cf gl op [a] ρ S = some (t, S')) : evT cf gl a ρ S = some (t, S') := by
  rw [evBT.eq_def] at h
  dsimp only at h
  split at h
  · rename_i x S1 h1
    split at h
    · rename_i hx
      rw [evBT.eq_def] at h
      cases h
      rw [h1, hx]
    · cases h
      exact h1
  · cases h
theorem evBT_cons {op : BoolOp} (h : evBT cf gl op (a :: b :: es) ρ S = some (t, S')) : ∃ x S1, evT cf gl a ρ S = some (x, S1) ∧ ((x = isAnd op ∧ evBT cf gl op (b :: es) ρ S1 = some (t, S')) ∨ (x = !isAnd op ∧ t = x ∧ S' = S1)) := by
  rw [evBT.eq_def] at h
  dsimp only at h
  split at h
  · rename_i x S1 h1
    split at h
    · rename_i hx
      exact ⟨x, S1, h1, .inl ⟨hx, h⟩⟩
    · rename_i hx
      cases h
      refine ⟨_, _, h1, .inr ⟨?_, rfl, rfl⟩⟩
      revert hx
      cases op <;> simp [isAnd]
  · cases h
end
end Ab

/-! Ab8: targets, walks, comprehensions. -/
namespace Ab
open PySem PySem.Spec PyProof.Rows L2

/-! ### targets -/
section
variable (K : PySem.W.Frag) (fa : Nat → Option Addr)
def GEnd (g : G) (H : Hp) (ρ' : AEnv) (σ : L2.St) (sl : List Nat) (Q : L2.St → Hp → Prop) : Prop := ∀ σ', ERel K fa g H ρ' σ' → (∀ j, j ∉ sl → σ'[j]? = σ[j]?) → σ'.length = σ.length → Q σ' H
def tG (tg : Tg) : TG := fun v σ H Q => ∃ g ρ d ρ', ERel K fa g H ρ σ ∧ Rep K fa g H d v ∧ Tg.bind tg d ρ = some ρ' ∧ GEnd K fa g H ρ' σ tg.slots Q
def tGs (ts : List Tg) : TGs := fun vs σ H Q => ∃ g ρ ds ρ', ERel K fa g H ρ σ ∧ Reps K fa g H ds vs ∧ Tg.binds ts ds ρ = some ρ' ∧ GEnd K fa g H ρ' σ (Tg.slotss ts) Q
end
theorem assign_star {es : List Expr} {env : Env} (h : es.all notStar = true) : (assignEach es env).length = es.length ∧ (assignEach es env).findIdx? (·.1) = none := by
  induction es with
  | nil => exact ⟨rfl, rfl⟩
  | cons e es ih =>
    rw [List.all_cons, Bool.and_eq_true] at h
    have q : assignEach (e :: es) env = (false, assign e env) :: assignEach es env := by
      cases e <;> first | rfl | cases h.1
    rw [q]
    refine ⟨congrArg Nat.succ (ih h.2).1, ?_⟩
    rw [List.findIdx?_cons]
    simp [(ih h.2).2]
theorem mGs_star {N : List Str} {st : Str → Bool} : ∀ {ts : List Tg} {es : List Expr}, mGs N st ts es = true → es.all notStar = true ∧ ts.length = es.length
  | [], [], _ => ⟨rfl, rfl⟩
  | [], _ :: _, h => by simp [mGs] at h
  | _ :: _, [], h => by simp [mGs] at h
  | t :: ts, e :: es, h => by
    simp only [mGs, Bool.and_eq_true] at h
    obtain ⟨h1, h2⟩ := mGs_star h.2.2
    exact ⟨by rw [List.all_cons, h.1, h1]; rfl, congrArg Nat.succ h2⟩
theorem binds_len : ∀ {ts : List Tg} {ds : List D} {ρ ρ' : AEnv}, Tg.binds ts ds ρ = some ρ' → ts.length = ds.length
  | [], [], _, _, _ => rfl
  | [], _ :: _, _, _, h => by simp [Tg.binds] at h
  | _ :: _, [], _, _, h => by simp [Tg.binds] at h
  | t :: ts, d :: ds, ρ, ρ', h => by
    simp only [Tg.binds, Option.bind_eq_some_iff] at h
    obtain ⟨_, _, h⟩ := h
    exact congrArg Nat.succ (binds_len h)
section
variable {fa : Nat → Option Addr} {X : Cx} {N : List Str} {st : Str → Bool}
mutual
theorem sG (hN : X.N = N) (nd : N.Nodup) (hc : X.calm = true) (hst : ∀ x, st x = true → L2.Loc X.env.scope x ∧ (X.fn x = true ∨ X.env.scope.names.lookup x = some .local)) : ∀ (tg : Tg) (e : Expr), mG N st tg e = true → PG X e (tG X.K fa tg)
  | .name i, e, h => by
    cases e with
    | Name x pos =>
      simp only [mG, Bool.and_eq_true, decide_eq_true_eq] at h
      obtain ⟨hl, hf⟩ := hst x h.2
      refine ⟨fun pins s σ H v u Q I r hw => ?_⟩
      obtain ⟨g, ρ, d, ρ', er, rd, hb, q⟩ := hw
      refine (pg_name (i := i) (by rw [hN]; exact nd) (by rw [hN]; exact h.1) hl hf).run pins s σ H v u Q I r ?_
      simp only [Tg.bind] at hb
      split at hb
      · cases hb
        refine q _ (er.set rd i) (fun j hj => ?_) (by rw [List.length_set])
        have : i ≠ j := fun z => hj (by simp [Tg.slots, z])
        rw [List.getElem?_set_ne this]
      · cases hb
    | _ => simp [mG] at h
  | .tup ts, e, h => by
    cases e with
    | Tuple es k pos =>
      simp only [mG] at h
      obtain ⟨h1, h2⟩ := mGs_star h
      obtain ⟨h3, h4⟩ := assign_star (env := X.env) h1
      refine ⟨fun pins s σ H v u Q I r hw => ?_⟩
      obtain ⟨g, ρ, d, ρ', er, rd, hb, q⟩ := hw
      refine (pg_tup hc (sGs hN nd hc hst ts es h) h3 h4).run pins s σ H v u Q I r ?_
      cases d with
      | tup ds =>
        obtain ⟨a, vs, rfl, k1, k2⟩ := rd.tup_inv
        simp only [Tg.bind] at hb
        refine ⟨a, vs, rfl, k1, ?_, g, ρ, ds, ρ', er, k2, hb, q⟩
        rw [← k2.length, ← binds_len hb, h2]
      | _ => simp [Tg.bind] at hb
    | _ => simp [mG] at h
theorem sGs (hN : X.N = N) (nd : N.Nodup) (hc : X.calm = true) (hst : ∀ x, st x = true → L2.Loc X.env.scope x ∧ (X.fn x = true ∨ X.env.scope.names.lookup x = some .local)) : ∀ (ts : List Tg) (es : List Expr), mGs N st ts es = true → PGs X es (tGs X.K fa ts)
  | [], es, h => by
    cases es with
    | nil =>
      refine ⟨fun pins s σ H vs us Q I r hw => ?_⟩
      obtain ⟨g, ρ, ds, ρ', er, rd, hb, q⟩ := hw
      refine pgs_nil.run pins s σ H vs us Q I r ?_
      cases ds with
      | nil =>
        simp only [Tg.binds] at hb
        cases hb
        cases rd
        exact ⟨rfl, q σ er (fun _ _ => rfl) rfl⟩
      | cons d ds => simp [Tg.binds] at hb
    | cons e es => simp [mGs] at h
  | t :: ts, es, h => by
    cases es with
    | nil => simp [mGs] at h
    | cons e es =>
      simp only [mGs, Bool.and_eq_true] at h
      have hs : (assignEach (e :: es) X.env).map (·.2) = assign e X.env :: (assignEach es X.env).map (·.2) := by
        have := h.1
        cases e <;> first | rfl | cases this
      refine ⟨fun pins s σ H vs us Q I r hw => ?_⟩
      obtain ⟨g, ρ, ds, ρ', er, rd, hb, q⟩ := hw
      refine (pgs_cons (sG hN nd hc hst t e h.2.1) (sGs hN nd hc hst ts es h.2.2) hs).run pins s σ H vs us Q I r ?_
      cases ds with
      | nil => simp [Tg.binds] at hb
      | cons d ds =>
        simp only [Tg.binds, Option.bind_eq_some_iff] at hb
        obtain ⟨ρ1, hb1, hb2⟩ := hb
        cases rd with
        | cons rd1 rd2 =>
          refine ⟨_, _, rfl, g, ρ, d, ρ1, er, rd1, hb1, fun σ1 er1 k1 l1 => ⟨g, ρ1, ds, ρ', er1, rd2, hb2, fun σ2 er2 k2 l2 => q σ2 er2 (fun j hj => ?_) (l2.trans l1)⟩⟩
          have hj' : j ∉ t.slots ∧ j ∉ Tg.slotss ts := by
            simp only [Tg.slotss, List.mem_append, not_or] at hj
            exact hj
          rw [k2 j hj'.2, k1 j hj'.1]
end
end

/-! ### slots forgotten -/
theorem wipe_get (σ : L2.St) (j : Nat) : ∀ vs : List Nat, (L2.wipe σ vs)[j]? = if j ∈ vs then (if j < σ.length then some none else none) else σ[j]?
  | [] => by simp [L2.wipe]
  | v :: vs => by
    unfold L2.wipe
    have ih := wipe_get σ j vs
    by_cases e : v = j
    · subst e
      rw [if_pos List.mem_cons_self]
      by_cases hv : v < σ.length
      · rw [List.getElem?_set_self (by rw [wipe_length]; exact hv), if_pos hv]
      · rw [if_neg hv, List.getElem?_eq_none (by rw [List.length_set, wipe_length]; omega)]
    · rw [List.getElem?_set_ne e, ih]
      by_cases h : j ∈ vs
      · rw [if_pos h, if_pos (List.mem_cons_of_mem _ h)]
      · rw [if_neg h, if_neg (by simp only [List.mem_cons, not_or]; exact ⟨fun z => e z.symm, h⟩)]
theorem wipe_same {σ σ' : L2.St} {vs : List Nat} (h : ∀ j, j ∉ vs → σ'[j]? = (L2.wipe σ vs)[j]?) (l : σ'.length = (L2.wipe σ vs).length) : L2.wipe σ' vs = L2.wipe σ vs := by
  apply List.ext_getElem?
  intro j
  rw [wipe_get, wipe_get, l, wipe_length]
  by_cases hj : j ∈ vs
  · rw [if_pos hj, if_pos hj]
  · rw [if_neg hj, if_neg hj, h j hj, wipe_get, if_neg hj]

/-! ### walks -/
section
variable (K : PySem.W.Frag) (fa : Nat → Option Addr)
def WalkJ (J : It) (rg : Bool) (ds xs : List D) (g : G) (H : Hp) : Prop := ∀ (i : Nat) g2 H2 S2, Ext g H g2 H2 → RelS K fa g2 S2 H2 → stays rg ds xs S2 = true →
  (∀ d, xs[i]? = some d → J.go i H2 ∧ ∀ x H3, J.yld i H2 x H3 → ∃ g3, Ext g2 H2 g3 H3 ∧ RelS K fa g3 S2 H3 ∧ Rep K fa g3 H3 d x) ∧ (xs.length ≤ i → J.stop i H2)
def iA (f : AEnv → Store → Option (List D × Store)) (rg : Bool) : TI := fun σ H R => ∃ g ρ S ds S1 xs, RelS K fa g S H ∧ ERel K fa g H ρ σ ∧ f ρ S = some (ds, S1) ∧ walk rg ds S1 = some xs ∧
  ∀ g' J H', Ext g H g' H' → RelS K fa g' S1 H' → WalkJ K fa J rg ds xs g' H' → R J H'
end
theorem stays_items {d : D} {xs : List D} {S S2 : Store} (h : items S d = some xs) (h2 : stays false [d] xs S2 = true) : items S2 d = some xs := by
  cases d with
  | ref r =>
    simp only [stays] at h2
    unfold items
    dsimp only
    cases q : S2[r]? with
    | none => rw [q] at h2; cases h2
    | some o =>
      rw [q] at h2
      cases o with
      | lst ys =>
        have h2 : D.sames ys xs = true := h2
        rw [D.sames_eq h2]
  | _ => exact h
section
variable {K : PySem.W.Frag} {fa : Nat → Option Addr}
theorem walk_seq {g : G} {H : Hp} {S : Store} {d : D} {xs : List D} {a : Addr} (h : items S d = some xs) (rd : Rep K fa g H d (.ref a)) : ((∃ ds, d = .tup ds) → WalkJ K fa (Itt K a) false [d] xs g H) ∧ ((∀ ds, d ≠ .tup ds) → WalkJ K fa (Itl K a) false [d] xs g H) := by
  refine ⟨fun ⟨ds, e⟩ => ?_, fun hd => ?_⟩
  · subst e
    cases h
    intro i g2 H2 S2 x r2 _
    obtain ⟨a', vs, e, h1, h2⟩ := (rd.ext x).tup_inv
    cases e
    refine ⟨fun d hd => ?_, fun hi => ⟨vs, h1, by rw [← h2.length]; exact hi⟩⟩
    obtain ⟨v, h3, h4⟩ := h2.get hd
    refine ⟨⟨vs, v, h1, h3⟩, fun z H3 hy => ?_⟩
    obtain ⟨e, hy⟩ := hy
    subst e
    have := hy vs h1
    rw [h3] at this
    cases this
    exact ⟨g2, Ext.refl _ _, r2, h4⟩
  · intro i g2 H2 S2 x r2 hs
    obtain ⟨a', vs, e, h1, h2⟩ := items_sqL r2 (stays_items h hs) (rd.ext x) hd
    cases e
    refine ⟨fun d hd => ?_, fun hi => ⟨vs, h1, by rw [← h2.length]; exact hi⟩⟩
    obtain ⟨v, h3, h4⟩ := h2.get hd
    refine ⟨⟨vs, v, h1, h3⟩, fun z H3 hy => ?_⟩
    obtain ⟨e, hy⟩ := hy
    subst e
    have := hy vs h1
    rw [h3] at this
    cases this
    exact ⟨g2, Ext.refl _ _, r2, h4⟩
theorem walk_rng {g : G} {H : Hp} {lo hi' : Int} {xs ds : List D} (h : rangeD lo hi' = some xs) : WalkJ K fa (Itr lo (hi' - lo).toNat) true ds xs g H := by
  unfold rangeD at h
  split at h
  · cases h
    intro i g2 H2 S2 x r2 _
    refine ⟨fun d hd => ?_, fun hi => (by simpa using hi : (hi' - lo).toNat ≤ i)⟩
    rw [List.getElem?_map] at hd
    by_cases hi : i < (hi' - lo).toNat
    · rw [List.getElem?_range hi] at hd
      cases hd
      refine ⟨hi, fun z H3 hy => ?_⟩
      obtain ⟨e, rfl⟩ := hy
      subst e
      exact ⟨g2, Ext.refl _ _, r2, .int _⟩
    · rw [List.getElem?_eq_none (by simpa using hi)] at hd
      cases hd
  · cases h
variable {X : Cx} {tg e : Expr} {cf : CallF} {gl : Str → Option D} {ie : IE} {es : List IE}
theorem pi_val (h : PE X e (tA X.K fa (ev cf gl ie))) : PI X tg e (iA X.K fa (evs cf gl [ie]) false) := by
  refine ⟨fun pins s σ H R I hw => ?_⟩
  obtain ⟨g, ρ, S, ds, S1, xs, rs, er, e1, hwk, k⟩ := hw
  obtain ⟨x, S2, ys, e2, e3, rfl⟩ := evs_cons e1
  simp only [evs] at e3
  cases e3
  have hwk : items S1 x = some xs := hwk
  by_cases hd : ∃ zs, x = .tup zs
  · refine (pi_tup h).run pins s σ H R I (seq1 rs er e2 fun g' v H' x1 r1 er1 p1 => ?_)
    obtain ⟨zs, rfl⟩ := hd
    obtain ⟨a, vs, rfl, h1, h2⟩ := p1.tup_inv
    exact ⟨a, rfl, ⟨vs, h1⟩, k g' _ H' x1 r1 ((walk_seq hwk p1).1 ⟨zs, rfl⟩)⟩
  · refine (pi_list h).run pins s σ H R I (seq1 rs er e2 fun g' v H' x1 r1 er1 p1 => ?_)
    have hd : ∀ zs, x ≠ .tup zs := fun zs z => hd ⟨zs, z⟩
    obtain ⟨a, vs, rfl, h1, h2⟩ := items_sqL r1 hwk p1 hd
    exact ⟨a, rfl, ⟨vs, h1⟩, k g' _ H' x1 r1 ((walk_seq hwk p1).2 hd)⟩
theorem evs_len {es : List IE} : ∀ {ρ : AEnv} {S S' : Store} {ds : List D}, evs cf gl es ρ S = some (ds, S') → ds.length = es.length := by
  induction es with
  | nil =>
    intro ρ S S' ds h
    simp only [evs] at h
    cases h
    rfl
  | cons a es ih =>
    intro ρ S S' ds h
    obtain ⟨x, S1, xs, _, h2, rfl⟩ := evs_cons h
    exact congrArg Nat.succ (ih h2)
theorem pi_r1 {a : Expr} {p pos : Pos} (hg : Gl X "range") (hm : X.mg "range" = none) (hs : notStar a = true) (hl : es.length = 1) (h : PA X [a] (tAs X.K fa (evs cf gl es))) : PI X tg (.Call (.Name "range" p) [a] [] pos) (iA X.K fa (evs cf gl es) true) := by
  refine ⟨fun pins s σ H R I hw => ?_⟩
  obtain ⟨g, ρ, S, ds, S1, xs, rs, er, e1, hwk, k⟩ := hw
  have hn := (evs_len e1).trans hl
  unfold walk at hwk
  split at hwk
  · rename_i j h0
    refine (pi_range1 hg hm h (star_cons hs)).run pins s σ H R I (seqS rs er e1 fun g' v H' x1 r1 er1 p1 => ?_)
    obtain ⟨w, rfl, hw⟩ := p1.one_inv
    cases hw
    have hb := hwk
    unfold rangeD at hb
    split at hb
    · rename_i hb'
      refine ⟨j, rfl, by omega, by omega, k g' _ H' x1 r1 ?_⟩
      have := walk_rng (K := X.K) (fa := fa) (g := g') (H := H') (ds := [.int j]) hwk
      rw [Int.sub_zero] at this
      exact this
    · cases hb
  · cases hn
  · contradiction
  · cases hwk
theorem pi_r2 {a b : Expr} {p pos : Pos} (hg : Gl X "range") (hm : X.mg "range" = none) (hs : notStar a = true) (hs2 : notStar b = true) (hl : es.length = 2) (h : PA X [a, b] (tAs X.K fa (evs cf gl es))) : PI X tg (.Call (.Name "range" p) [a, b] [] pos) (iA X.K fa (evs cf gl es) true) := by
  refine ⟨fun pins s σ H R I hw => ?_⟩
  obtain ⟨g, ρ, S, ds, S1, xs, rs, er, e1, hwk, k⟩ := hw
  have hn := (evs_len e1).trans hl
  unfold walk at hwk
  split at hwk
  · cases hn
  · rename_i i j h0
    have q : starEach [b] X.env = [(false, eval b X.env)] := star_cons hs2
    refine (pi_range2 hg hm h ((star_cons hs).trans (by rw [q])) q).run pins s σ H R I (seqS rs er e1 fun g' v H' x1 r1 er1 p1 => ?_)
    obtain ⟨w, w', rfl, hw, hw'⟩ := p1.two_inv
    cases hw
    cases hw'
    have hb := hwk
    unfold rangeD at hb
    split at hb
    · rename_i hb'
      exact ⟨i, j, rfl, ⟨by omega, by omega, by omega, by omega⟩, k g' _ H' x1 r1 (walk_rng hwk)⟩
    · cases hb
  · contradiction
  · cases hwk

/-! ### a comprehension's reading -/
theorem Own.turn {g g5 : G} {H H5 : Hp} {S : Store} {p : Addr} {vs : List V} (o : Own g H p vs) (e : Ext (g.keep p) H g5 H5) (r : RelS K fa g5 S H5) : Own (g5.drop p) H5 p vs ∧ Ext g H (g5.drop p) H5 ∧ RelS K fa (g5.drop p) S H5 := by
  have hk := e.kp p (.inr rfl)
  refine ⟨r.dropOwn (hk.2.trans o.at_) hk.1, ⟨fun a f => e.fz a f, fun a f => ⟨⟨(e.kp a (.inl f)).1, fun z => o.nkp (z ▸ f)⟩, (e.kp a (.inl f)).2⟩, e.pers, e.m⟩, r.drop⟩
/-- the rest of a comprehension's walk -/
theorem lc_imp {own : List Nat} {tg : Tg} {rg : Bool} {it ifs : List IE} {elt : IE} {σ : L2.St} {H : Hp} {Q : VK} (hsl : tg.slots.all (own.contains ·) = true)
    (h : tL K fa (ev cf gl (.lc own tg rg it ifs elt)) σ H Q) : tLc (iA K fa (evs cf gl it) rg) (tG K fa tg) (tT K fa (evTs cf gl ifs)) (tA K fa (ev cf gl elt)) own σ H Q := by
  obtain ⟨g0, ρ, S, ds, S', rs, er, e, fin⟩ := h
  obtain ⟨zs, S1, xs, ys, e1, e2, e3, e4⟩ := ev_lc e
  cases e4
  refine ⟨g0, ρ, S, zs, S1, xs, rs, er, e1, e2, fun g1 J H1 x1 r1 wj => ?_⟩
  intro p hp
  refine ⟨fun i m H' => m = xs.length - i ∧ i ≤ xs.length ∧ ∃ gk Sk acc vs, Ext g1 H1 gk H' ∧ RelS K fa gk Sk H' ∧ Own gk H' p vs ∧ Reps K fa gk H' acc vs ∧ evLc (stays rg zs xs) (lcF cf gl own tg ifs elt ρ) (xs.drop i) acc Sk = some (ds, S'),
    ⟨_, rfl, Nat.zero_le _, g1, S1, [], [], r1.newExt hp, r1.new hp, r1.own hp, .nil, e3⟩, ?_⟩
  rintro i m H' ⟨rfl, hi, gk, Sk, acc, vs, xk, rk, ok, ak, ek⟩
  by_cases hlt : i < xs.length
  · rw [List.drop_eq_getElem_cons hlt] at ek
    simp only [evLc] at ek
    split at ek
    · rename_i hst
      obtain ⟨hgo, hyld⟩ := (wj i gk H' Sk xk rk hst).1 xs[i] (List.getElem?_eq_getElem hlt)
      refine .inr ⟨hgo, fun H2 => ∃ g2 S2 acc2 vs2, Ext g1 H1 g2 H2 ∧ RelS K fa g2 S2 H2 ∧ Own g2 H2 p vs2 ∧ Reps K fa g2 H2 acc2 vs2 ∧ evLc (stays rg zs xs) (lcF cf gl own tg ifs elt ρ) (xs.drop (i + 1)) acc2 S2 = some (ds, S'),
        fun H2 hn => ⟨xs.length - (i + 1), by omega, rfl, hlt, hn⟩, fun x H3 hy => ?_⟩
      obtain ⟨hgo', hyld'⟩ := (wj i (gk.keep p) H' Sk (xk.trans ok.keepExt) (ok.keep rk) hst).1 xs[i] (List.getElem?_eq_getElem hlt)
      obtain ⟨g3, x3, r3, p3⟩ := hyld' x H3 hy
      cases hf : lcF cf gl own tg ifs elt ρ xs[i] Sk with
      | none => rw [hf] at ek; cases ek
      | some out =>
        rw [hf] at ek
        unfold lcF at hf
        split at hf
        · rename_i ρ' hb
          have er3 : ERel K fa g3 H3 ρ σ := er.ext (x1.trans (xk.trans (ok.keepExt.trans x3)))
          refine ⟨g3, wipeA ρ own, xs[i], ρ', er3.wipe own, p3, hb, fun σ2 er2 k2 l2 => ⟨?_, ?_⟩⟩
          · refine wipe_same (fun j hj => k2 j fun z => hj ?_) l2
            have := List.all_eq_true.mp hsl j z
            simpa using this
          · split at hf
            · rename_i S2 ht
              rw [Option.map_eq_some_iff] at hf
              obtain ⟨⟨y, S5⟩, h5, h6⟩ := hf
              subst h6
              refine seqT r3 er2 ht fun g4 H4 x4 r4 er4 => ?_
              rw [if_pos rfl]
              refine seq1 r4 er4 h5 fun g5 v H5 x5 r5 er5 p5 => ?_
              dsimp only at ek
              split at ek
              · rename_i hz
                obtain ⟨o6, x6, r6⟩ := ok.turn (x3.trans (x4.trans x5)) r5
                refine ⟨vs, o6.at_, by rw [← ak.length]; exact hz, _, S5, acc ++ [y], vs ++ [v], xk.trans (x6.trans o6.writeExt), o6.write r6, o6.again, ?_, ek⟩
                exact ((ak.ext x6).append (.one (p5.drop p))).ext o6.writeExt
              · cases ek
            · rename_i S2 ht
              cases hf
              refine seqT r3 er2 ht fun g4 H4 x4 r4 er4 => ?_
              rw [if_neg Bool.false_ne_true]
              obtain ⟨o6, x6, r6⟩ := ok.turn (x3.trans x4) r4
              exact ⟨_, _, acc, vs, xk.trans x6, r6, o6, ak.ext x6, ek⟩
            · cases hf
        · cases hf
    · cases ek
  · have hi' : i = xs.length := by omega
    subst hi'
    rw [List.drop_length] at ek
    simp only [evLc] at ek
    split at ek
    · rename_i hst
      cases ek
      exact .inl ⟨(wj _ gk H' _ xk rk hst).2 (Nat.le_refl _), fin gk p vs H' (x1.trans xk) rk ok ak⟩
    · cases ek
end
end Ab

/-! Ab9: evaluation is sound, construct by construct. -/
namespace Ab
open PySem PySem.Spec PyProof.Rows L2

def bltNames : List Str := ["len", "abs", "int", "tuple", "min", "max", "sum", "all", "any", "isinstance", "list", "range", "bool", "str"]
section
variable (K : PySem.W.Frag) (fa : Nat → Option Addr)
def spF (C : Cfg) (k f : Nat) : Sp := fun vs H Q _ => ∃ g S ds d S', RelS K fa g S H ∧ Reps K fa g H ds vs ∧ call C.T C.gl k f ds S = some (d, S') ∧ Fin K fa g H S' d Q
end
structure Top (P : Program) (w : World) (K : PySem.W.Frag) (mg : Str → Option Value) (base : Heap) (fa : Nat → Option Addr) (C : Cfg) (k : Nat) : Prop where
  blt : ∀ x : Str, x ∈ bltNames → mg x = none
  gcd : C.gcd = true → mg "gcd" = some (.builtin "math.gcd")
  gl : ∀ x d, C.gl x = some d → ∃ v u, mg x = some u ∧ RelV v u ∧ ∀ g H, Rep K fa g H d v
  fn : ∀ f fd, C.T f = some fd → ∃ a fdat, fa f = some a ∧ mg fd.name = some (.ref a) ∧ PySem.W.keepIn K (.ref a) = true ∧ Binds K fdat fd.ps [] ∧ FnOk P w K mg base CX0 k a fdat fd.ps (spF K fa C k f)
abbrev TopX (X : Cx) (fa : Nat → Option Addr) (C : Cfg) (k : Nat) : Prop := Top X.prog X.w X.K X.mg X.base fa C k
structure Ctx (C : Cfg) (k : Nat) (sc : Scope) (X : Cx) : Prop where
  N : X.N = C.N
  nd : C.N.Nodup
  calm : X.calm = true
  room : Room k X.A
  xe : X.xe = fun _ _ => False
  sc : X.env.scope = sc

theorem PE.imp {X : Cx} {e : Expr} {t t' : TE} (h : PE X e t) (i : ∀ σ H Q, t' σ H Q → t σ H Q) : PE X e t' := ⟨fun pins s σ H Q I hw => h.run pins s σ H Q I (i σ H Q hw)⟩
theorem PT.imp {X : Cx} {e : Expr} {t t' : TT} (h : PT X e t) (i : ∀ σ H Q, t' σ H Q → t σ H Q) : PT X e t' := ⟨fun pins s σ H Q I hw => h.run pins s σ H Q I (i σ H Q hw)⟩
theorem PW.imp {X : Cx} {e : Expr} {t t' : TT} (h : PW X e t) (i : ∀ σ H Q, t' σ H Q → t σ H Q) : PW X e t' := ⟨fun wh pins s σ H Q I hw => h.run wh pins s σ H Q I (i σ H Q hw)⟩
theorem PS.imp {X : Cx} {e : Stmt} {t t' : TS} (h : PS X e t) (i : ∀ D σ H, t' D σ H → t D σ H) : PS X e t' := ⟨fun pins s σ H D I hw => h.run pins s σ H D I (i D σ H hw)⟩
theorem PSs.imp {X : Cx} {e : List Stmt} {t t' : TS} (h : PSs X e t) (i : ∀ D σ H, t' D σ H → t D σ H) : PSs X e t' := ⟨fun pins s σ H D I hw => h.run pins s σ H D I (i D σ H hw)⟩

section
variable {fa : Nat → Option Addr} {X : Cx} {cf : CallF} {gl : Str → Option D} {pos : Pos} {a b c : IE} {a' b' c' : Expr} {es : List IE} {es' : List Expr} {k : Nat}
theorem tA_L {f : AEnv → Store → Option (D × Store)} (hf : ∀ ρ S d S', f ρ S = some (d, S') → ∃ ds, d = .lst ds) {e : Expr} (h : PE X e (tL X.K fa f)) : PE X e (tA X.K fa f) := by
  refine PE.imp h fun σ H Q ⟨g, ρ, S, d, S', rs, er, e1, fin⟩ => ?_
  obtain ⟨ds, rfl⟩ := hf _ _ _ _ e1
  exact ⟨g, ρ, S, ds, S', rs, er, e1, fin.ofL⟩
theorem snd_lit {d : D} {v : V} (hr : ∀ g H, Rep X.K fa g H d v) (h : PE X a' (tC v)) : PE X a' (tA X.K fa (ev cf gl (.lit d))) :=
  PE.imp h fun σ H Q ⟨g, ρ, S, d', S', rs, er, e1, fin⟩ => by
    simp only [ev] at e1
    cases e1
    exact fin.here rs (hr g H)
theorem snd_var {i : Nat} {x : Str} (hN : X.N[i]? = some x) (hv : Vis X.env.scope x) (h1 : (x == ("__debug__" : Str)) = false) (h2 : (x == ("__classdict__" : Str)) = false) : PE X (.Name x pos) (tA X.K fa (ev cf gl (.var i))) :=
  PE.imp (pe_var hN hv h1 h2) fun σ H Q ⟨g, ρ, S, d', S', rs, er, e1, fin⟩ => by
    obtain ⟨e2, rfl⟩ := ev_var e1
    obtain ⟨v, h3, h4⟩ := er.2 _ _ e2
    exact ⟨v, h3, fin.here rs h4⟩
theorem snd_glob {x : Str} {d : D} {v : V} {u : Value} (hg : Gl X x) (hm : X.mg x = some u) (rv : RelV v u) (hr : ∀ g H, Rep X.K fa g H d v) (hd : gl x = some d) (h1 : (x == ("__debug__" : Str)) = false) : PE X (.Name x pos) (tA X.K fa (ev cf gl (.glob x))) :=
  PE.imp (pe_glob hg hm rv h1) fun σ H Q ⟨g, ρ, S, d', S', rs, er, e1, fin⟩ => by
    simp only [ev, hd, Option.map_some] at e1
    cases e1
    exact fin.here rs (hr g H)
theorem snd_tup {n : Nat} (h : PA X es' (tAs X.K fa (evs cf gl es))) : PE X (.Tuple es' n pos) (tA X.K fa (ev cf gl (.tup es))) :=
  PE.imp (pe_tup h) fun σ H Q ⟨g, ρ, S, d, S', rs, er, e1, fin⟩ => by
    obtain ⟨ds, e2, hz, rfl⟩ := ev_tup e1
    exact seqS rs er e2 fun g' vs H' x r er' p => ⟨by rw [← p.length]; exact hz, fun q hq => (fin.after x).tup r p hq⟩
theorem snd_lst (h : PA X es' (tAs X.K fa (evs cf gl es))) : PE X (.List es' pos) (tL X.K fa (ev cf gl (.lst es))) :=
  PE.imp (pe_lst h) fun σ H Q ⟨g, ρ, S, d, S', rs, er, e1, fin⟩ => by
    obtain ⟨ds, e2, hz, e3⟩ := ev_lst e1
    cases e3
    exact seqS rs er e2 fun g' vs H' x r er' p => ⟨by rw [← p.length]; exact hz, fun q hq => (fin.after x).new r p hq⟩
theorem snd_bin {op : Operator} (ha : PE X a' (tA X.K fa (ev cf gl a))) (hb : PE X b' (tA X.K fa (ev cf gl b))) : PE X (.BinOp a' op b' pos) (tA X.K fa (ev cf gl (.bin op a b))) :=
  PE.imp (pe_op (bin_ok (fa := fa) op) ha hb) fun σ H Q ⟨g, ρ, S, d, S', rs, er, e1, fin⟩ => by
    obtain ⟨x, S1, y, e2, e3, e4⟩ := ev_bin e1
    exact seq2 rs er e2 e3 fun g' v w H' x1 r1 er1 p1 p2 => ⟨g', S', x, y, d, r1, p1, p2, e4, fin.after x1⟩
theorem bin_list {op : Operator} {S : Store} {x y : D} {ds : List D} (h : dBin S op x y = some (.lst ds)) : dList S op x y = some ds := by
  unfold dBin at h
  split at h
  · rename_i i j
    cases q : dInt op i j with
    | none => rw [q] at h; cases h
    | some k => rw [q] at h; cases h
  · split at h
    · split at h <;> cases h
    · cases h
  · split at h
    · split at h <;> cases h
    · cases h
  · split at h
    · split at h <;> cases h
    · cases h
  · cases q : dList S op x y with
    | none => rw [q] at h; cases h
    | some k => rw [q] at h; cases h; rfl
def rBinL (K : PySem.W.Frag) (fa : Nat → Option Addr) (op : Operator) : R2 := fun x y H Q => ∃ g S a b d, RelS K fa g S H ∧ Rep K fa g H a x ∧ Rep K fa g H b y ∧ dList S op a b = some d ∧ FinL K fa g H S d Q
theorem snd_binL {op : Operator} (ha : PE X a' (tA X.K fa (ev cf gl a))) (hb : PE X b' (tA X.K fa (ev cf gl b))) : PE X (.BinOp a' op b' pos) (tL X.K fa (ev cf gl (.bin op a b))) :=
  PE.imp (pe_op (r := rBinL X.K fa op) (fun pins s σ H x y v u Q I rx ry ⟨g, S, a, b, d, r, ra, rb, e, f⟩ => list_ok I rx ry r ra rb e f) ha hb) fun σ H Q ⟨g, ρ, S, d, S', rs, er, e1, fin⟩ => by
    obtain ⟨x, S1, y, e2, e3, e4⟩ := ev_bin e1
    exact seq2 rs er e2 e3 fun g' v w H' x1 r1 er1 p1 p2 => ⟨g', S', x, y, d, r1, p1, p2, bin_list e4, fin.after x1⟩
theorem snd_un {op : UnaryOp} (hop : op ≠ .Not) (ha : PE X a' (tA X.K fa (ev cf gl a))) : PE X (.UnaryOp op a' pos) (tA X.K fa (ev cf gl (.un op a))) :=
  PE.imp (pe_un (un_ok (fa := fa) hop) ha) fun σ H Q ⟨g, ρ, S, d, S', rs, er, e1, fin⟩ => by
    obtain ⟨x, e2, e3⟩ := ev_un e1
    exact seq1 rs er e2 fun g' v H' x1 r1 er1 p1 => ⟨g', S', x, d, r1, p1, e3, fin.after x1⟩
theorem snd_not (ha : PE X a' (tA X.K fa (ev cf gl a))) : PE X (.UnaryOp .Not a' pos) (tA X.K fa (ev cf gl (.un .Not a))) :=
  PE.imp (pe_not ha) fun σ H Q ⟨g, ρ, S, d, S', rs, er, e1, fin⟩ => by
    obtain ⟨x, e2, e3⟩ := ev_un e1
    refine seq1 rs er e2 fun g' v H' x1 r1 er1 p1 => ?_
    cases x with
    | bl t =>
      cases p1
      cases e3
      exact ⟨t, rfl, (fin.after x1).here r1 (.bl _)⟩
    | _ => cases e3
theorem snd_cmp {op : CmpOp} (hr : Room k X.A) (hn : notSet b' = true) (ha : PE X a' (tA X.K fa (ev cf gl a))) (hb : PE X b' (tA X.K fa (ev cf gl b))) : PE X (.Compare a' [op] [b'] pos) (tA X.K fa (ev cf gl (.cmp op a b))) :=
  PE.imp (pe_cmpR (cmp_ok (fa := fa) op hr) ha hb (nomark_of hn)) fun σ H Q ⟨g, ρ, S, d, S', rs, er, e1, fin⟩ => by
    obtain ⟨x, S1, y, c, e2, e3, e4, rfl⟩ := ev_cmp e1
    exact seq2 rs er e2 e3 fun g' v w H' x1 r1 er1 p1 p2 => ⟨g', S', x, y, c, r1, p1, p2, e4, fun r2 => (fin.after x1).here r2 (.bl _)⟩
theorem snd_chain {op op' : CmpOp} (hr : Room k X.A) (hn : notSet c' = true) (ha : PE X a' (tA X.K fa (ev cf gl a))) (hb : PE X b' (tA X.K fa (ev cf gl b))) (hc : PE X c' (tA X.K fa (ev cf gl c))) :
    PE X (.Compare a' [op, op'] [b', c'] pos) (tA X.K fa (ev cf gl (.chain op op' a b c))) :=
  PE.imp (pe_chain (cmp_ok (fa := fa) op hr) (cmp_ok (fa := fa) op' hr) ha hb hc (nomark2 hn)) fun σ H Q ⟨g, ρ, S, d, S', rs, er, e1, fin⟩ => by
    obtain ⟨x, S1, y, S2, e2, e3, e4⟩ := ev_chain e1
    refine seq2 rs er e2 e3 fun g' v w H' x1 r1 er1 p1 p2 => ?_
    rcases e4 with ⟨e4, z, r, e5, e6, rfl⟩ | ⟨e4, rfl, rfl⟩
    · exact ⟨g', S2, x, y, true, r1, p1, p2, e4, fun r2 => ⟨true, rfl, by
        rw [if_pos rfl]
        exact seq1 r2 er1 e5 fun g2 z' H2 x2 r3 er2 p3 => ⟨g2, S', y, z, r, r3, p2.ext x2, p3, e6, fun r4 => (fin.after (x1.trans x2)).here r4 (.bl _)⟩⟩⟩
    · exact ⟨g', _, x, y, false, r1, p1, p2, e4, fun r2 => ⟨false, rfl, by
        rw [if_neg Bool.false_ne_true]
        exact (fin.after x1).here r2 (.bl _)⟩⟩
theorem snd_ite (hc : PT X c' (tT X.K fa (evT cf gl c))) (ha : PE X a' (tA X.K fa (ev cf gl a))) (hb : PE X b' (tA X.K fa (ev cf gl b))) : PE X (.IfExp c' a' b' pos) (tA X.K fa (ev cf gl (.ite c a b))) :=
  PE.imp (pe_ifExp hc ha hb) fun σ H Q ⟨g, ρ, S, d, S', rs, er, e1, fin⟩ => by
    obtain ⟨t, S1, e2, e3⟩ := ev_ite e1
    refine seqT rs er e2 fun g' H' x1 r1 er1 => ?_
    cases t with
    | true =>
      rw [if_pos rfl] at e3 ⊢
      exact ⟨g', ρ, S1, d, S', r1, er1, e3, fin.after x1⟩
    | false =>
      rw [if_neg Bool.false_ne_true] at e3 ⊢
      exact ⟨g', ρ, S1, d, S', r1, er1, e3, fin.after x1⟩
theorem snd_ix (hn : notSlice b' = true) (ha : PE X a' (tA X.K fa (ev cf gl a))) (hb : PE X b' (tA X.K fa (ev cf gl b))) : PE X (.Subscript a' b' pos) (tA X.K fa (ev cf gl (.ix a b))) :=
  PE.imp (pe_ix (ix_ok (fa := fa)) ha hb (plain_ix hn)) fun σ H Q ⟨g, ρ, S, d, S', rs, er, e1, fin⟩ => by
    obtain ⟨x, S1, y, e2, e3, e4⟩ := ev_ix e1
    exact seq2 rs er e2 e3 fun g' v w H' x1 r1 er1 p1 p2 => ⟨g', S', x, y, d, r1, p1, p2, e4, fin.after x1⟩
theorem snd_slc {lo hi : Option IE} {lo' hi' : Option Expr} {p2 : Pos} (ha : PE X a' (tA X.K fa (ev cf gl a))) (hl : PO X lo' (tO X.K fa (evO cf gl lo))) (hh : PO X hi' (tO X.K fa (evO cf gl hi))) :
    PE X (.Subscript a' (.Slice lo' hi' none p2) pos) (tA X.K fa (ev cf gl (.slc a lo hi))) :=
  PE.imp (pe_slice (sl_ok (fa := fa)) ha hl hh) fun σ H Q ⟨g, ρ, S, d, S', rs, er, e1, fin⟩ => by
    obtain ⟨x, S1, l, S2, u, e2, e3, e4, e5⟩ := ev_slc e1
    refine seq1 rs er e2 fun g1 v H1 x1 r1 er1 p1 => ?_
    refine ⟨g1, ρ, S1, l, S2, r1, er1, e3, fun g2 H2 x2 r2 => ?_⟩
    refine ⟨g2, ρ, S2, u, S', r2, er1.ext x2, e4, fun g3 H3 x3 r3 => ?_⟩
    exact ⟨g3, S', x, d, r3, p1.ext (x2.trans x3), e5, fin.after (x1.trans (x2.trans x3))⟩
theorem pa_nil' : PA X [] (tAs X.K fa (evs cf gl [])) := ⟨fun ps pins s σ H Q I ⟨g, ρ, S, ds, S', rs, er, e1, fin⟩ => pa_nil.run ps pins s σ H Q I (by
  simp only [evs] at e1
  cases e1
  exact fin g [] H (Ext.refl g H) rs .nil)⟩
theorem pa_cons' (hs : notStar a' = true) (ha : PE X a' (tA X.K fa (ev cf gl a))) (h : PA X es' (tAs X.K fa (evs cf gl es))) : PA X (a' :: es') (tAs X.K fa (evs cf gl (a :: es))) :=
  ⟨fun ps pins s σ H Q I ⟨g, ρ, S, ds, S', rs, er, e1, fin⟩ => (pa_cons ha h (star_cons hs)).run ps pins s σ H Q I (by
    obtain ⟨x, S1, xs, e2, e3, rfl⟩ := evs_cons e1
    exact seq1 rs er e2 fun g1 v H1 x1 r1 er1 p1 => seqS r1 er1 e3 fun g2 vs H2 x2 r2 er2 p2 => fin g2 _ H2 (x1.trans x2) r2 (.cons (p1.ext x2) p2))⟩
theorem po_none' : PO X none (tO X.K fa (evO cf gl none)) := ⟨fun pins s σ H Q I ⟨g, ρ, S, o, S', rs, er, e1, fin⟩ => po_none.run pins s σ H Q I (by
  simp only [evO] at e1
  cases e1
  exact fin g H (Ext.refl g H) rs)⟩
theorem po_some' (ha : PE X a' (tA X.K fa (ev cf gl a))) : PO X (some a') (tO X.K fa (evO cf gl (some a))) := ⟨fun pins s σ H Q I ⟨g, ρ, S, o, S', rs, er, e1, fin⟩ => (po_some ha).run pins s σ H Q I (by
  simp only [evO] at e1
  split at e1
  · rename_i i S1 e2
    cases e1
    refine seq1 rs er e2 fun g1 v H1 x1 r1 er1 p1 => ?_
    cases p1
    exact ⟨i, rfl, fin g1 H1 x1 r1⟩
  · cases e1)⟩

/-! ### calls -/
theorem snd_call {C : Cfg} {f : Nat} {fd : FD} {x : Str} {p : Pos} (T : TopX X fa C k) (hr : Room k X.A) (hT : C.T f = some fd) (hx : fd.name = x) (hg : Gl X x) (hd : (x == ("__debug__" : Str)) = false) (hne : es ≠ []) (hs : es'.all notStar = true) (hl : es.length = es'.length)
    (h : PA X es' (tAs X.K fa (evs cf gl es))) (hcf : cf = call C.T C.gl k) : PE X (.Call (.Name x p) es' [] pos) (tA X.K fa (ev cf gl (.call f es))) := by
  subst hcf hx
  obtain ⟨ad, fdat, h1, h2, h3, h4, h5⟩ := T.fn f fd hT
  cases es' with
  | nil =>
    cases es with
    | nil => exact absurd rfl hne
    | cons _ _ => cases hl
  | cons e' es' =>
    rw [List.all_cons, Bool.and_eq_true] at hs
    refine PE.imp (pe_call h5 hr hg h2 h3 h4 .nil pass0 h hd (star_cons hs.1) (star_any pos X.env hs.2)) fun σ H Q ⟨g, ρ, S, d, S', rs, er, e1, fin⟩ => ?_
    obtain ⟨ds, S1, e2, e3⟩ := ev_call e1
    refine seqS rs er e2 fun g' vs H' x1 r1 er1 p1 => ?_
    rw [List.append_nil]
    exact ⟨g', S1, ds, d, S', r1, p1, e3, fin.after x1⟩
theorem boot_bi (b : Bi) (hb : b ≠ .gcd) : bootBuiltins b.nm = some b.val := by
  cases b <;> first | exact absurd rfl hb | decide +kernel
theorem bi_in (b : Bi) (hb : b ≠ .gcd) : b.nm ∈ bltNames := by
  cases b <;> first | exact absurd rfl hb | decide +kernel
theorem bi_plain (b : Bi) : (b.nm == ("__debug__" : Str)) = false ∧ b.nm ≠ ("__name__" : Str) := by
  cases b <;> decide +kernel
theorem snd_bi {C : Cfg} {b : Bi} {p : Pos} (T : TopX X fa C k) (hc : X.calm = true) (hb : b ≠ .gcd ∨ C.gcd = true) (hg : Gl X b.nm) (hne : es ≠ []) (hs : es'.all notStar = true) (hl : es.length = es'.length)
    (h : PA X es' (tAs X.K fa (evs cf gl es))) : PE X (.Call (.Name b.nm p) es' [] pos) (tA X.K fa (ev cf gl (.bi b es))) := by
  cases es' with
  | nil =>
    cases es with
    | nil => exact absurd rfl hne
    | cons _ _ => cases hl
  | cons e' es' =>
    rw [List.all_cons, Bool.and_eq_true] at hs
    have imp : ∀ σ H Q, tA X.K fa (ev cf gl (.bi b es)) σ H Q → tCB (rBi X.K fa b) (tAs X.K fa (evs cf gl es)) σ H Q := fun σ H Q ⟨g, ρ, S, d, S', rs, er, e1, fin⟩ => by
      obtain ⟨ds, e2, e3⟩ := ev_bi e1
      exact seqS rs er e2 fun g' vs H' x1 r1 er1 p1 => ⟨g', S', ds, d, r1, p1, e3, fin.after x1⟩
    have ok := bi_ok (fa := fa) (X := X) b hc
    by_cases hgc : b = .gcd
    · subst hgc
      have hm : X.mg "gcd" = some (.builtin "math.gcd") := T.gcd (hb.elim (fun z => absurd rfl z) id)
      exact PE.imp (pe_callBfun (id := "math.gcd") ok hg hm h (bi_plain .gcd).1 (star_cons hs.1) (star_any pos X.env hs.2)) imp
    · have hm := T.blt _ (bi_in b hgc)
      have hv := boot_bi b hgc
      unfold Bi.val at ok hv
      by_cases ht : b.isTy = true
      · rw [if_pos ht] at ok hv
        exact PE.imp (pe_callTy ok hg hm hv h (bi_plain b).2 (bi_plain b).1 (star_cons hs.1) (star_any pos X.env hs.2)) imp
      · rw [if_neg ht] at ok hv
        exact PE.imp (pe_callB ok hg hm hv h (bi_plain b).2 (bi_plain b).1 (star_cons hs.1) (star_any pos X.env hs.2)) imp
theorem snd_list1 {C : Cfg} {p : Pos} (T : TopX X fa C k) (hg : Gl X "list") (hs : notStar a' = true) (ha : PE X a' (tA X.K fa (ev cf gl a))) : PE X (.Call (.Name "list" p) [a'] [] pos) (tL X.K fa (ev cf gl (.list1 a))) :=
  PE.imp (pe_callTy (li_ok (fa := fa)) hg (T.blt _ (by decide +kernel)) boot_list (pa_cons' hs ha (pa_nil' (cf := cf) (gl := gl))) (by decide +kernel) (by decide +kernel) (star_cons hs) rfl) fun σ H Q ⟨g, ρ, S, d, S', rs, er, e1, fin⟩ => by
    obtain ⟨x, ds, e2, e3, e4⟩ := ev_list1 e1
    cases e4
    have e5 : evs cf gl [a] ρ S = some ([x], S') := by
      simp only [evs, e2]
    exact seqS rs er e5 fun g' vs H' x1 r1 er1 p1 => ⟨g', S', x, d, r1, p1, e3, fin.after x1⟩
theorem ty_boot (t : Ty) : bootBuiltins (t.nm : Str) = some (.type t.nm) := by
  cases t <;> decide +kernel
theorem ty_in (t : Ty) : (t.nm : Str) ∈ bltNames := by
  cases t <;> decide +kernel
theorem ty_plain (t : Ty) : ((t.nm : Str) == ("__debug__" : Str)) = false ∧ (t.nm : Str) ≠ ("__name__" : Str) := by
  cases t <;> decide +kernel
theorem snd_isi {C : Cfg} {t : Ty} {p p2 : Pos} (T : TopX X fa C k) (hg : Gl X "isinstance") (hg2 : Gl X (t.nm : Str)) (hs : notStar a' = true) (ha : PE X a' (tA X.K fa (ev cf gl a))) :
    PE X (.Call (.Name "isinstance" p) [a', .Name (t.nm : Str) p2] [] pos) (tA X.K fa (ev cf gl (.isi t a))) := by
  have q : starEach [.Name (t.nm : Str) p2] X.env = [(false, eval (.Name (t.nm : Str) p2) X.env)] := rfl
  refine PE.imp (pe_callB call_isi hg (T.blt _ (by decide +kernel)) boot_isinstance (pa_cons ha (pa_cons (pe_bltn (v := .ty t.nm) hg2 (T.blt _ (ty_in t)) (ty_boot t) rfl (ty_plain t).2 (ty_plain t).1) pa_nil) (star_cons hs)) (by decide +kernel) (by decide +kernel) (star_cons hs) rfl) fun σ H Q ⟨g, ρ, S, d, S', rs, er, e1, fin⟩ => ?_
  obtain ⟨x, c, e2, e3, rfl⟩ := ev_isi e1
  refine seq1 rs er e2 fun g' v H' x1 r1 er1 p1 => ?_
  obtain ⟨u, h1, h2⟩ := isi_ty p1 e3
  exact ⟨v, .ty t.nm, u, .type t.nm, c, rfl, .ty _, h1, h2, (fin.after x1).here r1 (.bl _)⟩
theorem snd_meth {m : Me} {n : Str} {apos : Pos} (hm : m.nm = n) (hln : (apos.endLine == pos.line) = true) (hnc : notCall a' = true) (hfew : es'.length < 20) (hs : es'.all notStar = true)
    (ha : PE X a' (tA X.K fa (ev cf gl a))) (h : PA X es' (tAs X.K fa (evs cf gl es))) (hl : es.length = es'.length) : PE X (.Call (.Attribute a' n apos) es' [] pos) (tA X.K fa (ev cf gl (.meth m a es))) := by
  subst hm
  cases es' with
  | nil =>
    cases es with
    | cons _ _ => cases hl
    | nil =>
      refine PE.imp (pe_bm0 PySem.F.plainAttrs_list (me_slot m) (me_type m) (me_ok (fa := fa) m) ha (attr_base _ hnc) hln) fun σ H Q ⟨g, ρ, S, d, S', rs, er, e1, fin⟩ => ?_
      obtain ⟨x, S1, ds, S2, e2, e0, e3, e4⟩ := ev_meth e1
      simp only [evs] at e3
      cases e3
      exact seq1 rs er e2 fun g' v H' x1 r1 er1 p1 => ⟨me_ty r1 p1 e0, g', S1, x, [], d, S', r1, p1, .nil, e4, fin.after x1⟩
  | cons e' es' =>
    have hs' := hs
    rw [List.all_cons, Bool.and_eq_true] at hs
    refine PE.imp (pe_bm PySem.F.plainAttrs_list (me_slot m) (me_type m) (me_ok (fa := fa) m) ha h (attr_base _ hnc) ?_ hln (star_cons hs.1) (star_any pos X.env hs.2)) fun σ H Q ⟨g, ρ, S, d, S', rs, er, e1, fin⟩ => ?_
    · rw [star_all pos X.env hs']
      show (true && true && decide ((e' :: es').length + 0 + 0 < 30)) = true
      rw [decide_eq_true (by omega)]
      rfl
    · obtain ⟨x, S1, ds, S2, e2, e0, e3, e4⟩ := ev_meth e1
      exact seq1 rs er e2 fun g' v H' x1 r1 er1 p1 => ⟨me_ty r1 p1 e0, seqS r1 er1 e3 fun g2 vs H2 x2 r2 er2 p2 => ⟨g2, S2, x, ds, d, S', r2, p1.ext x2, p2, e4, fin.after (x1.trans x2)⟩⟩

end
end Ab

/-! Ab10: all expressions. -/
namespace Ab
open PySem PySem.Spec PyProof.Rows L2

section
variable {fa : Nat → Option Addr} {X : Cx} {cf : CallF} {gl : Str → Option D} {pos : Pos} {a b c : IE} {a' b' c' : Expr} {es : List IE} {es' : List Expr} {k : Nat}
/-! ### tests -/
theorem tst_no {e : Expr} {f : AEnv → Store → Option (Bool × Store)} (hf : ∀ ρ S, f ρ S = none) : PT X e (tT X.K fa f) := ⟨fun pins s σ H Q I ⟨g, ρ, S, b, S', rs, er, e1, fin⟩ => by rw [hf] at e1; cases e1⟩
theorem tst_not (ha : PT X a' (tT X.K fa (evT cf gl a))) : PT X (.UnaryOp .Not a' pos) (tT X.K fa (evT cf gl (.un .Not a))) :=
  PT.imp (pt_not ha) fun σ H Q ⟨g, ρ, S, b, S', rs, er, e1, fin⟩ => by
    simp only [evT] at e1
    split at e1
    · rename_i x S1 e2
      cases e1
      exact seqT rs er e2 fun g' H' x1 r1 er1 => fin g' H' x1 r1
    · cases e1
theorem tst_ite (hc : PT X c' (tT X.K fa (evT cf gl c))) (ha : PT X a' (tT X.K fa (evT cf gl a))) (hb : PT X b' (tT X.K fa (evT cf gl b))) : PT X (.IfExp c' a' b' pos) (tT X.K fa (evT cf gl (.ite c a b))) := by
  refine ⟨fun pins s σ H Q I ⟨g, ρ, S, t, S', rs, er, e1, fin⟩ => ?_⟩
  have arm : isTrue (.IfExp c' a' b' pos) X.env (eval (.IfExp c' a' b' pos) X.env) = (do if ← isTrue c' X.env (eval c' X.env) then isTrue a' X.env (eval a' X.env) else isTrue b' X.env (eval b' X.env)) := rfl
  rw [arm]
  simp only [evT] at e1
  split at e1
  · rename_i S1 e2
    refine wpAny_bind (thn (hc.run pins s σ H _ I (seqT rs er e2 (R := fun t H' => t = true ∧ tT X.K fa (evT cf gl a) σ H' Q) fun g' H' x1 r1 er1 => ⟨rfl, g', ρ, S1, t, S', r1, er1, e1, fun g2 H2 x2 r2 => fin g2 H2 (x1.trans x2) r2⟩)) fun t' s1 ⟨H1, I1, ht, q⟩ => ?_)
    subst ht
    exact ha.run pins s1 σ H1 Q I1 q
  · rename_i S1 e2
    refine wpAny_bind (thn (hc.run pins s σ H _ I (seqT rs er e2 (R := fun t H' => t = false ∧ tT X.K fa (evT cf gl b) σ H' Q) fun g' H' x1 r1 er1 => ⟨rfl, g', ρ, S1, t, S', r1, er1, e1, fun g2 H2 x2 r2 => fin g2 H2 (x1.trans x2) r2⟩)) fun t' s1 ⟨H1, I1, ht, q⟩ => ?_)
    subst ht
    exact hb.run pins s1 σ H1 Q I1 q
  · cases e1
theorem tst_var {i : Nat} {x : Str} (h : PE X (.Name x pos) (tA X.K fa (ev cf gl (.var i)))) : PT X (.Name x pos) (tT X.K fa (evT cf gl (.var i))) :=
  PT.imp (pt_truth h (by intro _; rfl)) fun σ H Q ⟨g, ρ, S, b, S', rs, er, e1, fin⟩ => by
    simp only [evT] at e1
    split at e1
    · rename_i d e2
      rw [Option.map_eq_some_iff] at e1
      obtain ⟨t, e3, e4⟩ := e1
      cases e4
      have e5 : ev cf gl (.var i) ρ S = some (d, S) := by simp only [ev, e2]
      exact seq1 rs er e5 fun g' v H' x1 r1 er1 p1 => ⟨_, truth_tru r1 p1 e3, fin g' H' x1 r1⟩
    · cases e1
theorem tst_cmp {op : CmpOp} (hr : Room k X.A) (hn : notSet b' = true) (ha : PE X a' (tA X.K fa (ev cf gl a))) (hb : PE X b' (tA X.K fa (ev cf gl b))) : PT X (.Compare a' [op] [b'] pos) (tT X.K fa (evT cf gl (.cmp op a b))) :=
  PT.imp (pt_cmpR (cmp_ok (fa := fa) op hr) ha hb (nomark_of hn)) fun σ H Q ⟨g, ρ, S, t, S', rs, er, e1, fin⟩ => by
    simp only [evT] at e1
    split at e1
    · rename_i x S1 e2
      split at e1
      · rename_i y S2 e3
        rw [Option.map_eq_some_iff] at e1
        obtain ⟨c, e4, e5⟩ := e1
        cases e5
        exact seq2 rs er e2 e3 fun g' v w H' x1 r1 er1 p1 p2 => ⟨g', S', x, y, t, r1, p1, p2, e4, fun r2 => ⟨t, rfl, fin g' H' x1 r2⟩⟩
      · cases e1
    · cases e1
theorem tst_chain {op op' : CmpOp} (hr : Room k X.A) (hn : notSet c' = true) (ha : PE X a' (tA X.K fa (ev cf gl a))) (hb : PE X b' (tA X.K fa (ev cf gl b))) (hc : PE X c' (tA X.K fa (ev cf gl c))) :
    PT X (.Compare a' [op, op'] [b', c'] pos) (tT X.K fa (evT cf gl (.chain op op' a b c))) :=
  PT.imp (pt_chain (cmp_ok (fa := fa) op hr) (cmp_ok (fa := fa) op' hr) ha hb hc (nomark2 hn)) fun σ H Q ⟨g, ρ, S, t, S', rs, er, e1, fin⟩ => by
    simp only [evT] at e1
    split at e1
    · rename_i x S1 e2
      split at e1
      · rename_i y S2 e3
        split at e1
        · rename_i e4
          split at e1
          · rename_i z S3 e5
            rw [Option.map_eq_some_iff] at e1
            obtain ⟨c, e6, e7⟩ := e1
            cases e7
            refine seq2 rs er e2 e3 fun g' v w H' x1 r1 er1 p1 p2 => ⟨g', S2, x, y, true, r1, p1, p2, e4, fun r2 => ⟨true, rfl, ?_⟩⟩
            rw [if_pos rfl]
            exact seq1 r2 er1 e5 fun g2 z' H2 x2 r3 er2 p3 => ⟨g2, S', y, z, t, r3, p2.ext x2, p3, e6, fun r4 => ⟨t, rfl, fin g2 H2 (x1.trans x2) r4⟩⟩
          · cases e1
        · rename_i e4
          cases e1
          refine seq2 rs er e2 e3 fun g' v w H' x1 r1 er1 p1 p2 => ⟨g', _, x, y, false, r1, p1, p2, e4, fun r2 => ⟨false, rfl, ?_⟩⟩
          rw [if_neg Bool.false_ne_true]
          exact ⟨false, rfl, fin g' H' x1 r2⟩
        · cases e1
      · cases e1
    · cases e1
/-- a value that is a bool, as a test -/
theorem tst_val {e : Expr} (h : PE X e (tA X.K fa (ev cf gl a))) (he : ∀ whole, isTrue e X.env whole = (do let v ← whole; standAt e.pos; holding [v] (truthy v)))
    (hf : ∀ ρ S t S', evT cf gl a ρ S = some (t, S') → ev cf gl a ρ S = some (.bl t, S')) : PT X e (tT X.K fa (evT cf gl a)) :=
  PT.imp (pt_val h he) fun σ H Q ⟨g, ρ, S, t, S', rs, er, e1, fin⟩ => seq1 rs er (hf _ _ _ _ e1) fun g' v H' x1 r1 er1 p1 => by
    cases p1
    exact ⟨t, rfl, fin g' H' x1 r1⟩
theorem tst_ix (h : PE X (.Subscript a' b' pos) (tA X.K fa (ev cf gl (.ix a b)))) : PT X (.Subscript a' b' pos) (tT X.K fa (evT cf gl (.ix a b))) :=
  PT.imp (pt_truth h (by intro _; rfl)) fun σ H Q ⟨g, ρ, S, t, S', rs, er, e1, fin⟩ => by
    simp only [evT] at e1
    split at e1
    · rename_i x S1 e2
      split at e1
      · rename_i y S2 e3
        split at e1
        · rename_i d e4
          rw [Option.map_eq_some_iff] at e1
          obtain ⟨c, e6, e7⟩ := e1
          cases e7
          have e5 : ev cf gl (.ix a b) ρ S = some (d, S') := by simp only [ev, e2, e3, e4, Option.map_some]
          exact seq1 rs er e5 fun g' v H' x1 r1 er1 p1 => ⟨t, truth_tru r1 p1 e6, fin g' H' x1 r1⟩
        · cases e1
      · cases e1
    · cases e1
theorem evT_call {f : Nat} (ρ : AEnv) (S : Store) (t : Bool) (S' : Store) (h : evT cf gl (.call f es) ρ S = some (t, S')) : ev cf gl (.call f es) ρ S = some (.bl t, S') := by
  simp only [evT] at h
  simp only [ev]
  split at h
  · rename_i ds S1 h1
    split at h
    · rename_i h2
      cases h
      exact h2
    · cases h
  · cases h
theorem evT_bi {f : Bi} (ρ : AEnv) (S : Store) (t : Bool) (S' : Store) (h : evT cf gl (.bi f es) ρ S = some (t, S')) : ev cf gl (.bi f es) ρ S = some (.bl t, S') := by
  simp only [evT] at h
  simp only [ev]
  split at h
  · rename_i ds S1 h1
    split at h
    · rename_i h2
      cases h
      simp only [h2, Option.map_some]
    · cases h
  · cases h
theorem evT_isi {f : Ty} (ρ : AEnv) (S : Store) (t : Bool) (S' : Store) (h : evT cf gl (.isi f a) ρ S = some (t, S')) : ev cf gl (.isi f a) ρ S = some (.bl t, S') := by
  simp only [evT] at h
  simp only [ev]
  split at h
  · rename_i ds S1 h1
    rw [Option.map_eq_some_iff] at h
    obtain ⟨c, e6, e7⟩ := h
    cases e7
    simp only [e6, Option.map_some]
  · cases h

/-! ### and, or -/
theorem bop_one {op : BoolOp} (h : PE X a' (tA X.K fa (ev cf gl a))) : PE X (.BoolOp op [a'] pos) (tA X.K fa (evB cf gl op [a])) :=
  PE.imp (pe_one h) fun σ H Q ⟨g, ρ, S, d, S', rs, er, e1, fin⟩ => ⟨g, ρ, S, d, S', rs, er, evB_one e1, fin⟩
theorem bop_cons {op : BoolOp} (h : PE X a' (tA X.K fa (ev cf gl a))) (h2 : PE X (.BoolOp op (b' :: es') pos) (tA X.K fa (evB cf gl op (b :: es)))) : PE X (.BoolOp op (a' :: b' :: es') pos) (tA X.K fa (evB cf gl op (a :: b :: es))) := by
  cases op with
  | And =>
    refine PE.imp (pe_and h h2) fun σ H Q ⟨g, ρ, S, d, S', rs, er, e1, fin⟩ => ?_
    obtain ⟨t, S1, e2, e3⟩ := evB_cons e1
    refine seq1 rs er e2 fun g' v H' x1 r1 er1 p1 => ?_
    cases p1
    refine ⟨t, rfl, ?_⟩
    rcases e3 with ⟨rfl, e3⟩ | ⟨rfl, rfl, rfl⟩
    · exact ⟨g', ρ, S1, d, S', r1, er1, e3, fin.after x1⟩
    · exact (fin.after x1).here r1 (.bl _)
  | Or =>
    refine PE.imp (pe_or h h2) fun σ H Q ⟨g, ρ, S, d, S', rs, er, e1, fin⟩ => ?_
    obtain ⟨t, S1, e2, e3⟩ := evB_cons e1
    refine seq1 rs er e2 fun g' v H' x1 r1 er1 p1 => ?_
    cases p1
    refine ⟨t, rfl, ?_⟩
    rcases e3 with ⟨rfl, e3⟩ | ⟨rfl, rfl, rfl⟩
    · exact ⟨g', ρ, S1, d, S', r1, er1, e3, fin.after x1⟩
    · exact (fin.after x1).here r1 (.bl _)
theorem bopT_one {op : BoolOp} (h : PT X a' (tT X.K fa (evT cf gl a))) : PW X (.BoolOp op [a'] pos) (tT X.K fa (evBT cf gl op [a])) := by
  have imp : ∀ σ H Q, tT X.K fa (evBT cf gl op [a]) σ H Q → tT X.K fa (evT cf gl a) σ H Q := fun σ H Q ⟨g, ρ, S, d, S', rs, er, e1, fin⟩ => ⟨g, ρ, S, d, S', rs, er, evBT_one e1, fin⟩
  cases op with
  | And => exact PW.imp (pw_and1 h) imp
  | Or => exact PW.imp (pw_or1 h) imp
theorem bopT_cons {op : BoolOp} (h : PT X a' (tT X.K fa (evT cf gl a))) (h2 : PW X (.BoolOp op (b' :: es') pos) (tT X.K fa (evBT cf gl op (b :: es)))) : PW X (.BoolOp op (a' :: b' :: es') pos) (tT X.K fa (evBT cf gl op (a :: b :: es))) := by
  cases op with
  | And =>
    refine PW.imp (pw_and h h2) fun σ H Q ⟨g, ρ, S, d, S', rs, er, e1, fin⟩ => ?_
    obtain ⟨t, S1, e2, e3⟩ := evBT_cons e1
    refine seqT rs er e2 fun g' H' x1 r1 er1 => ?_
    rcases e3 with ⟨rfl, e3⟩ | ⟨rfl, rfl, rfl⟩
    · exact iteT ⟨g', ρ, S1, d, S', r1, er1, e3, FinT.after fin x1⟩
    · exact iteF (fin g' H' x1 r1)
  | Or =>
    refine PW.imp (pw_or h h2) fun σ H Q ⟨g, ρ, S, d, S', rs, er, e1, fin⟩ => ?_
    obtain ⟨t, S1, e2, e3⟩ := evBT_cons e1
    refine seqT rs er e2 fun g' H' x1 r1 er1 => ?_
    rcases e3 with ⟨rfl, e3⟩ | ⟨rfl, rfl, rfl⟩
    · exact iteF ⟨g', ρ, S1, d, S', r1, er1, e3, FinT.after fin x1⟩
    · exact iteT (fin g' H' x1 r1)
/-! ### a clause's tests -/
theorem tsts_nil : PTs X [] (tT X.K fa (evTs cf gl [])) := ⟨fun pins s σ H Q I ⟨g, ρ, S, b, S', rs, er, e1, fin⟩ => pts_nil.run pins s σ H Q I (by
  simp only [evTs] at e1
  cases e1
  exact fin g H (Ext.refl g H) rs)⟩
theorem tsts_one (h : PT X a' (tT X.K fa (evT cf gl a))) : PTs X [a'] (tT X.K fa (evTs cf gl [a])) := ⟨fun pins s σ H Q I ⟨g, ρ, S, b, S', rs, er, e1, fin⟩ => (pts_one h).run pins s σ H Q I (by
  refine ⟨g, ρ, S, b, S', rs, er, ?_, fin⟩
  simp only [evTs] at e1
  split at e1
  · rename_i S1 h1
    cases e1
    exact h1
  · rename_i S1 h1
    cases e1
    exact h1
  · cases e1)⟩

/-! ### a block's context -/
theorem blk_ctx {C : Cfg} {sc scope : Scope} (hX : Ctx C k sc X) (s : Shared) (H : Hp) (Cc : Addr) (cl : List (Str × Addr)) (fp : List Addr) : Ctx C k (relS scope sc) (X.blk s H scope (compEnvC scope cl Cc X.env) fp) :=
  ⟨hX.N, hX.nd, hX.calm, hX.room, rfl, by rw [← hX.sc]; rfl⟩
theorem blk_st {scope : Scope} (s : Shared) (H : Hp) (Cc : Addr) (cl : List (Str × Addr)) (fp : List Addr) (x : Str) (h : locB scope x = true) :
    L2.Loc (X.blk s H scope (compEnvC scope cl Cc X.env) fp).env.scope x ∧ ((X.blk s H scope (compEnvC scope cl Cc X.env) fp).fn x = true ∨ (X.blk s H scope (compEnvC scope cl Cc X.env) fp).env.scope.names.lookup x = some .local) := by
  unfold locB at h
  have keep : ∀ {kk : NameKind}, kk ≠ .free → scope.names.lookup x = some kk → (X.blk s H scope (compEnvC scope cl Cc X.env) fp).env.scope.names.lookup x = some kk := fun hk e => lookup_relS_keep (sc := X.env.scope) hk e
  cases q : scope.names.lookup x with
  | none => rw [q] at h; cases h
  | some kk =>
    rw [q] at h
    cases kk with
    | «local» => exact ⟨.inl (keep (by decide) q), .inr (keep (by decide) q)⟩
    | cell => exact ⟨.inr (keep (by decide) q), .inl (by show (scope.names.lookup x == some .cell) = true; rw [q]; rfl)⟩
    | _ => cases h
theorem own_names {N : List Str} {own : List Nat} : (ownN N own).map (·.2) = own := by
  unfold ownN
  rw [List.map_map]
  show own.map (fun i => i) = own
  rw [List.map_id']
end

/-! ### what a comprehension's rule asks -/
structure LcH (X : Cx) (fa : Nat → Option Addr) (cf : CallF) (gl : Str → Option D) (own : List Nat) (tg : Tg) (rg : Bool) (it ifs : List IE) (elt : IE) (elt' tg' iter' : Expr) (ifs' : List Expr) (scope : Scope) : Prop where
  calm : X.calm = true
  nd : X.N.Nodup
  pi : PI X tg' iter' (iA X.K fa (evs cf gl it) rg)
  blk : BlkOk X.N X.env.scope scope (ownN X.N own)
  sl : tg.slots.all (own.contains ·) = true
  pg : ∀ (s : Shared) (H : Hp) (C : Addr) (cl : List (Str × Addr)) (fp : List Addr), PG (X.blk s H scope (compEnvC scope cl C X.env) fp) tg' (tG X.K fa tg)
  pt : ∀ (s : Shared) (H : Hp) (C : Addr) (cl : List (Str × Addr)) (fp : List Addr), PTs (X.blk s H scope (compEnvC scope cl C X.env) fp) ifs' (tT X.K fa (evTs cf gl ifs))
  pe : ∀ (s : Shared) (H : Hp) (C : Addr) (cl : List (Str × Addr)) (fp : List Addr), PE (X.blk s H scope (compEnvC scope cl C X.env) fp) elt' (tA X.K fa (ev cf gl elt))
  fs : ∀ x, foldedSetIterable iter' X.env x = pure x
theorem LcH.ok {X : Cx} {fa : Nat → Option Addr} {cf : CallF} {gl : Str → Option D} {own : List Nat} {tg : Tg} {rg : Bool} {it ifs : List IE} {elt : IE} {elt' tg' iter' : Expr} {ifs' : List Expr} {scope : Scope} {pos : Pos}
    (h : LcH X fa cf gl own tg rg it ifs elt elt' tg' iter' ifs' scope) : PE X (.ListComp elt' [⟨tg', iter', ifs', 0⟩] scope pos) (tL X.K fa (ev cf gl (.lc own tg rg it ifs elt))) :=
  PE.imp (pe_lc h.calm h.nd h.pi h.blk h.pg h.pt h.pe h.fs) fun σ H Q q => by
    rw [own_names]
    exact lc_imp h.sl q

/-! ### all expressions -/
section
variable {fa : Nat → Option Addr} {C : Cfg} {k : Nat}
theorem lc_lst {cf : CallF} {gl : Str → Option D} {own : List Nat} {tg : Tg} {rg : Bool} {it ifs : List IE} {elt : IE} (ρ : AEnv) (S : Store) (d : D) (S' : Store) (h : ev cf gl (.lc own tg rg it ifs elt) ρ S = some (d, S')) : ∃ ds, d = .lst ds := by
  obtain ⟨_, _, _, ys, _, _, _, e⟩ := ev_lc h
  exact ⟨ys, e⟩
/-- what is walked -/
theorem pi_of {X : Cx} {sc : Scope} {rg : Bool} {it : List IE} {tg' iter' : Expr} (hX : Ctx C k sc X) (T : TopX X fa C k) {es' : List Expr} (he : iterArgs sc rg iter' = some es') (hm : mEs C sc it es' = true)
    (hPA : PA X es' (tAs X.K fa (evs (call C.T C.gl k) C.gl it))) (hPE : ∀ a, it = [a] → rg = false → PE X iter' (tA X.K fa (ev (call C.T C.gl k) C.gl a))) : PI X tg' iter' (iA X.K fa (evs (call C.T C.gl k) C.gl it) rg) := by
  cases rg with
  | true =>
    unfold iterArgs at he
    split at he
    · rename_i x p es'' pos h0
      split at he
      · rename_i hc
        cases he
        simp only [Bool.and_eq_true, decide_eq_true_eq] at hc
        obtain ⟨hx, hg, hl⟩ := hc
        subst hx
        rw [← hX.sc] at hg
        have hst := mEs_star hm
        have hlen := mEs_len hm
        rcases hl with hl | hl
        · cases es' with
          | nil => cases hl
          | cons a r =>
            cases r with
            | cons _ _ => cases hl
            | nil =>
              rw [List.all_cons, Bool.and_eq_true] at hst
              exact pi_r1 (gl_of hg) (T.blt _ (by decide +kernel)) hst.1 (hlen.trans hl) hPA
        · cases es' with
          | nil => cases hl
          | cons a r =>
            cases r with
            | nil => cases hl
            | cons b r =>
              cases r with
              | cons _ _ => cases hl
              | nil =>
                rw [List.all_cons, Bool.and_eq_true, List.all_cons, Bool.and_eq_true] at hst
                exact pi_r2 (gl_of hg) (T.blt _ (by decide +kernel)) hst.1 hst.2.1 (hlen.trans hl) hPA
      · cases he
    · contradiction
    · contradiction
    · cases he
  | false =>
    have hl : es'.length = 1 := by
      unfold iterArgs at he
      split at he
      · contradiction
      · cases he
      · cases he; rfl
      · cases he
    have hlen := (mEs_len hm).trans hl
    cases it with
    | nil => cases hlen
    | cons a r =>
      cases r with
      | cons _ _ => cases hlen
      | nil => exact pi_val (hPE a rfl rfl)
end
end Ab

/-! Ab11: evaluation is sound. -/
namespace Ab
open PySem PySem.Spec PyProof.Rows L2
section
variable {fa : Nat → Option Addr} {C : Cfg} {k : Nat}
mutual
theorem sE : ∀ (ie : IE) (e : Expr) (sc : Scope) (X : Cx), Ctx C k sc X → TopX X fa C k → mE C sc ie e = true → PE X e (tA X.K fa (ev (call C.T C.gl k) C.gl ie))
  | .lit d, e, sc, X, hX, T, h => by
    cases e with
    | Constant v j pos =>
      cases d with
      | int i => cases v with
        | int i' =>
          have : i = i' := by simpa [mE] using h
          subst this
          exact snd_lit (fun g H => .int i) pe_int
        | _ => simp [mE] at h
      | bl i => cases v with
        | bool i' =>
          have : i = i' := by simpa [mE] using h
          subst this
          exact snd_lit (fun g H => .bl i) pe_bl
        | _ => simp [mE] at h
      | non => cases v with
        | none => exact snd_lit (fun g H => .non) pe_non
        | _ => simp [mE] at h
      | str i => cases v with
        | str i' =>
          have : i = i' := by simpa [mE] using h
          subst this
          exact snd_lit (fun g H => .str i) pe_str
        | _ => simp [mE] at h
      | _ => simp [mE] at h
    | _ => simp [mE] at h
  | .var i, e, sc, X, hX, T, h => by
    cases e with
    | Name x pos =>
      simp only [mE, Bool.and_eq_true, decide_eq_true_eq] at h
      obtain ⟨h1, h2, h3⟩ := plain_of h.2.2
      exact snd_var (by rw [hX.N]; exact h.1) (by rw [hX.sc]; exact vis_of h.2.1) h1 h2
    | _ => simp [mE] at h
  | .glob x, e, sc, X, hX, T, h => by
    cases e with
    | Name y pos =>
      simp only [mE, Bool.and_eq_true, decide_eq_true_eq] at h
      obtain ⟨rfl, hg, hp⟩ := h
      obtain ⟨h1, h2, h3⟩ := plain_of hp
      cases q : C.gl x with
      | none => exact ⟨fun pins s σ H Q I ⟨g, ρ, S, d, S', rs, er, e1, fin⟩ => by
          simp only [ev, q, Option.map_none] at e1
          cases e1⟩
      | some d =>
        obtain ⟨v, u, k1, k2, k3⟩ := T.gl x d q
        rw [← hX.sc] at hg
        exact snd_glob (gl_of hg) k1 k2 k3 q h1
    | _ => simp [mE] at h
  | .tup es, e, sc, X, hX, T, h => by
    cases e with
    | Tuple es' n pos => exact snd_tup (sEs es es' sc X hX T (by simpa only [mE] using h))
    | _ => simp [mE] at h
  | .lst es, e, sc, X, hX, T, h => by
    cases e with
    | List es' pos => exact tA_L (fun ρ S d S' q => by obtain ⟨ds, _, _, e⟩ := ev_lst q; exact ⟨ds, e⟩) (snd_lst (sEs es es' sc X hX T (by simpa only [mE] using h)))
    | _ => simp [mE] at h
  | .bin op a b, e, sc, X, hX, T, h => by
    cases e with
    | BinOp a' op' b' pos =>
      simp only [mE, Bool.and_eq_true, decide_eq_true_eq] at h
      obtain ⟨rfl, h1, h2⟩ := h
      exact snd_bin (sE a a' sc X hX T h1) (sE b b' sc X hX T h2)
    | _ => simp [mE] at h
  | .un op a, e, sc, X, hX, T, h => by
    cases e with
    | UnaryOp op' a' pos =>
      simp only [mE, Bool.and_eq_true, decide_eq_true_eq] at h
      obtain ⟨rfl, h1⟩ := h
      by_cases hop : op = .Not
      · subst hop
        exact snd_not (sE a a' sc X hX T h1)
      · exact snd_un hop (sE a a' sc X hX T h1)
    | _ => simp [mE] at h
  | .bop op es, e, sc, X, hX, T, h => by
    cases e with
    | BoolOp op' es' pos =>
      simp only [mE, Bool.and_eq_true, decide_eq_true_eq] at h
      obtain ⟨rfl, h1⟩ := h
      exact PE.imp (sB es es' op pos sc X hX T h1) fun σ H Q ⟨g, ρ, S, d, S', rs, er, e1, fin⟩ => ⟨g, ρ, S, d, S', rs, er, by simpa only [ev] using e1, fin⟩
    | _ => simp [mE] at h
  | .cmp op a b, e, sc, X, hX, T, h => by
    cases e with
    | Compare a' ops bs pos =>
      cases ops with
      | nil => simp [mE] at h
      | cons op' r =>
        cases bs with
        | nil => cases r <;> simp [mE] at h
        | cons b' r2 =>
          cases r with
          | cons _ _ => cases r2 <;> simp [mE] at h
          | nil =>
            cases r2 with
            | cons _ _ => simp [mE] at h
            | nil =>
              simp only [mE, Bool.and_eq_true, decide_eq_true_eq] at h
              obtain ⟨rfl, h0, h1, h2⟩ := h
              exact snd_cmp hX.room h0 (sE a a' sc X hX T h1) (sE b b' sc X hX T h2)
    | _ => simp [mE] at h
  | .chain op1 op2 a b c, e, sc, X, hX, T, h => by
    cases e with
    | Compare a' ops bs pos =>
      match ops, bs, h with
      | [o1, o2], [b', c'], h =>
        simp only [mE, Bool.and_eq_true, decide_eq_true_eq] at h
        obtain ⟨rfl, rfl, h0, h1, h2, h3⟩ := h
        exact snd_chain hX.room h0 (sE a a' sc X hX T h1) (sE b b' sc X hX T h2) (sE c c' sc X hX T h3)
      | [], _, h => simp [mE] at h
      | [_], _, h => simp [mE] at h
      | _ :: _ :: _ :: _, _, h => simp [mE] at h
      | [_, _], [], h => simp [mE] at h
      | [_, _], [_], h => simp [mE] at h
      | [_, _], _ :: _ :: _ :: _, h => simp [mE] at h
    | _ => simp [mE] at h
  | .ite c a b, e, sc, X, hX, T, h => by
    cases e with
    | IfExp c' a' b' pos =>
      simp only [mE, Bool.and_eq_true, decide_eq_true_eq] at h
      exact snd_ite (sT c c' sc X hX T h.1) (sE a a' sc X hX T h.2.1) (sE b b' sc X hX T h.2.2)
    | _ => simp [mE] at h
  | .ix a b, e, sc, X, hX, T, h => by
    cases e with
    | Subscript a' b' pos =>
      simp only [mE, Bool.and_eq_true, decide_eq_true_eq] at h
      exact snd_ix h.1 (sE a a' sc X hX T h.2.1) (sE b b' sc X hX T h.2.2)
    | _ => simp [mE] at h
  | .slc a lo hi, e, sc, X, hX, T, h => by
    cases e with
    | Subscript a' s pos =>
      cases s with
      | Slice lo' hi' st p2 =>
        cases st with
        | some _ => simp [mE] at h
        | none =>
          simp only [mE, Bool.and_eq_true, decide_eq_true_eq] at h
          exact snd_slc (sE a a' sc X hX T h.1) (sO lo lo' sc X hX T h.2.1) (sO hi hi' sc X hX T h.2.2)
      | _ => simp [mE] at h
    | _ => simp [mE] at h
  | .call f es, e, sc, X, hX, T, h => by
    cases e with
    | Call fn es' kws pos =>
      cases kws with
      | cons _ _ => cases fn <;> simp [mE] at h
      | nil =>
        cases fn with
        | Name x p =>
          simp only [mE, Bool.and_eq_true] at h
          obtain ⟨h0, hg, hp, hne, h1⟩ := h
          cases q : C.T f with
          | none => rw [q] at h0; cases h0
          | some fd =>
            rw [q] at h0
            rw [← hX.sc] at hg
            exact snd_call T hX.room q (of_decide_eq_true h0) (gl_of hg) (plain_of hp).1 (fun z => by rw [z] at hne; cases hne) (mEs_star h1) (mEs_len h1) (sEs es es' sc X hX T h1) rfl
        | _ => simp [mE] at h
    | _ => simp [mE] at h
  | .bi b es, e, sc, X, hX, T, h => by
    cases e with
    | Call fn es' kws pos =>
      cases kws with
      | cons _ _ => cases fn <;> simp [mE] at h
      | nil =>
        cases fn with
        | Name x p =>
          simp only [mE, Bool.and_eq_true, Bool.or_eq_true, decide_eq_true_eq] at h
          obtain ⟨rfl, hgc, hg, hne, h1⟩ := h
          rw [← hX.sc] at hg
          exact snd_bi T hX.calm hgc (gl_of hg) (fun z => by rw [z] at hne; cases hne) (mEs_star h1) (mEs_len h1) (sEs es es' sc X hX T h1)
        | _ => simp [mE] at h
    | _ => simp [mE] at h
  | .isi t a, e, sc, X, hX, T, h => by
    cases e with
    | Call fn es' kws pos =>
      cases kws with
      | cons _ _ => cases fn <;> simp [mE] at h
      | nil =>
        cases fn with
        | Name x p =>
          match es', h with
          | [a', .Name y p2], h =>
            simp only [mE, Bool.and_eq_true, decide_eq_true_eq] at h
            obtain ⟨rfl, rfl, hg, hg2, hs, h1⟩ := h
            rw [← hX.sc] at hg hg2
            exact snd_isi T (gl_of hg) (gl_of hg2) hs (sE a a' sc X hX T h1)
          | [], h => simp [mE] at h
          | [_], h => simp [mE] at h
          | _ :: _ :: _ :: _, h => simp [mE] at h
        | _ => simp [mE] at h
    | _ => simp [mE] at h
  | .meth m o es, e, sc, X, hX, T, h => by
    cases e with
    | Call fn es' kws pos =>
      cases kws with
      | cons _ _ => cases fn <;> simp [mE] at h
      | nil =>
        cases fn with
        | Attribute o' n apos =>
          simp only [mE, Bool.and_eq_true, decide_eq_true_eq] at h
          obtain ⟨h1, h2, h3, h4, h5, h6⟩ := h
          exact snd_meth h1 h2 h3 h4 (mEs_star h6) (sE o o' sc X hX T h5) (sEs es es' sc X hX T h6) (mEs_len h6)
        | _ => simp [mE] at h
    | _ => simp [mE] at h
  | .list1 a, e, sc, X, hX, T, h => by
    cases e with
    | Call fn es' kws pos =>
      cases kws with
      | cons _ _ => cases fn <;> simp [mE] at h
      | nil =>
        cases fn with
        | Name x p =>
          match es', h with
          | [a'], h =>
            simp only [mE, Bool.and_eq_true, decide_eq_true_eq] at h
            obtain ⟨rfl, hg, hs, h1⟩ := h
            rw [← hX.sc] at hg
            exact tA_L (fun ρ S d S' q => by obtain ⟨_, ds, _, _, e⟩ := ev_list1 q; exact ⟨ds, e⟩) (snd_list1 T (gl_of hg) hs (sE a a' sc X hX T h1))
          | [], h => simp [mE] at h
          | _ :: _ :: _, h => simp [mE] at h
        | _ => simp [mE] at h
    | _ => simp [mE] at h
  | .lc own tg rg it ifs elt, e, sc, X, hX, T, h => by
    cases e with
    | ListComp elt' gens scope pos =>
      match gens, h with
      | [⟨tg', iter', ifs', asy⟩], h =>
        simp only [mE, Bool.and_eq_true, decide_eq_true_eq] at h
        obtain ⟨rfl, hb, hs, hi, hsl, hg, hifs, hl, helt⟩ := h
        cases q : iterArgs sc rg iter' with
        | none => rw [q] at hi; cases hi
        | some es' =>
          rw [q] at hi
          refine tA_L lc_lst (LcH.ok ⟨hX.calm, by rw [hX.N]; exact hX.nd, pi_of hX T q hi (sEs it es' sc X hX T hi) (fun a ha hr => ?_), ?_, hsl, fun s H Cc cl fp => ?_, fun s H Cc cl fp => ?_, fun s H Cc cl fp => ?_, folded_of hs⟩)
          · exact sIt it a ha iter' es' sc X hX T hi (by
              subst hr
              unfold iterArgs at q
              split at q
              · contradiction
              · cases q
              · cases q; rfl
              · cases q)
          · rw [hX.N, hX.sc]
            exact blkOk_by hb
          · exact sG (X := X.blk s H scope (compEnvC scope cl Cc X.env) fp) hX.N hX.nd hX.calm (blk_st s H Cc cl fp) tg tg' hg
          · exact sTs ifs ifs' (relS scope sc) _ (blk_ctx hX s H Cc cl fp) T hifs hl
          · exact sE elt elt' (relS scope sc) _ (blk_ctx hX s H Cc cl fp) T helt
      | [], h => simp [mE] at h
      | _ :: _ :: _, h => simp [mE] at h
    | _ => simp [mE] at h
  | .bad, e, sc, X, hX, T, h => ⟨fun pins s σ H Q I ⟨g, ρ, S, d, S', rs, er, e1, fin⟩ => by simp only [ev] at e1; cases e1⟩
theorem sIt : ∀ (it : List IE) (a : IE), it = [a] → ∀ (e : Expr) (es' : List Expr) (sc : Scope) (X : Cx), Ctx C k sc X → TopX X fa C k → mEs C sc it es' = true → es' = [e] → PE X e (tA X.K fa (ev (call C.T C.gl k) C.gl a))
  | [], _, q, _, _, _, _, _, _, _, _ => by cases q
  | b :: r, a, q, e, es', sc, X, hX, T, h, he => by
    subst he
    simp only [mEs, Bool.and_eq_true] at h
    have : b = a := by cases q; rfl
    rw [← this]
    exact sE b e sc X hX T h.2.1
theorem sEs : ∀ (es : List IE) (es' : List Expr) (sc : Scope) (X : Cx), Ctx C k sc X → TopX X fa C k → mEs C sc es es' = true → PA X es' (tAs X.K fa (evs (call C.T C.gl k) C.gl es))
  | [], [], sc, X, hX, T, h => pa_nil'
  | [], _ :: _, sc, X, hX, T, h => by simp [mEs] at h
  | _ :: _, [], sc, X, hX, T, h => by simp [mEs] at h
  | a :: es, e :: es', sc, X, hX, T, h => by
    simp only [mEs, Bool.and_eq_true] at h
    exact pa_cons' h.1 (sE a e sc X hX T h.2.1) (sEs es es' sc X hX T h.2.2)
theorem sB : ∀ (es : List IE) (es' : List Expr) (op : BoolOp) (pos : Pos) (sc : Scope) (X : Cx), Ctx C k sc X → TopX X fa C k → mEs C sc es es' = true → PE X (.BoolOp op es' pos) (tA X.K fa (evB (call C.T C.gl k) C.gl op es))
  | [], es', op, pos, sc, X, hX, T, h => ⟨fun pins s σ H Q I ⟨g, ρ, S, d, S', rs, er, e1, fin⟩ => by simp only [evB] at e1; cases e1⟩
  | _ :: _, [], op, pos, sc, X, hX, T, h => by simp [mEs] at h
  | [a], [e], op, pos, sc, X, hX, T, h => by
    simp only [mEs, Bool.and_eq_true] at h
    exact bop_one (sE a e sc X hX T h.2.1)
  | [a], e :: _ :: _, op, pos, sc, X, hX, T, h => by simp [mEs] at h
  | a :: b :: es, [e], op, pos, sc, X, hX, T, h => by simp [mEs] at h
  | a :: b :: es, e :: e2 :: es', op, pos, sc, X, hX, T, h => by
    rw [mEs.eq_def] at h
    dsimp only at h
    simp only [Bool.and_eq_true] at h
    exact bop_cons (sE a e sc X hX T h.2.1) (sB (b :: es) (e2 :: es') op pos sc X hX T h.2.2)
theorem sT : ∀ (ie : IE) (e : Expr) (sc : Scope) (X : Cx), Ctx C k sc X → TopX X fa C k → mE C sc ie e = true → PT X e (tT X.K fa (evT (call C.T C.gl k) C.gl ie))
  | .lit d, e, sc, X, hX, T, h => tst_no fun ρ S => by simp only [evT]
  | .var i, e, sc, X, hX, T, h => by
    cases e with
    | Name x pos =>
      simp only [mE, Bool.and_eq_true, decide_eq_true_eq] at h
      obtain ⟨h1, h2, h3⟩ := plain_of h.2.2
      exact tst_var (snd_var (by rw [hX.N]; exact h.1) (by rw [hX.sc]; exact vis_of h.2.1) h1 h2)
    | _ => simp [mE] at h
  | .glob x, e, sc, X, hX, T, h => tst_no fun ρ S => by simp only [evT]
  | .tup es, e, sc, X, hX, T, h => tst_no fun ρ S => by simp only [evT]
  | .lst es, e, sc, X, hX, T, h => tst_no fun ρ S => by simp only [evT]
  | .bin op a b, e, sc, X, hX, T, h => tst_no fun ρ S => by simp only [evT]
  | .un op a, e, sc, X, hX, T, h => by
    by_cases hop : op = .Not
    · subst hop
      cases e with
      | UnaryOp op' a' pos =>
        simp only [mE, Bool.and_eq_true, decide_eq_true_eq] at h
        obtain ⟨rfl, h1⟩ := h
        exact tst_not (sT a a' sc X hX T h1)
      | _ => simp [mE] at h
    · exact tst_no fun ρ S => by cases op <;> first | exact absurd rfl hop | simp only [evT]
  | .bop op es, e, sc, X, hX, T, h => by
    cases e with
    | BoolOp op' es' pos =>
      simp only [mE, Bool.and_eq_true, decide_eq_true_eq] at h
      obtain ⟨rfl, h1⟩ := h
      cases es with
      | nil =>
        cases es' with
        | cons _ _ => simp [mEs] at h1
        | nil =>
          refine ⟨fun pins s σ H Q I ⟨g, ρ, S, t, S', rs, er, e1, fin⟩ => ?_⟩
          simp only [evT, evBT] at e1
          cases e1
          have q := fin g H (Ext.refl g H) rs
          cases op with
          | And => exact isTrue_and_nil ⟨H, I, q⟩
          | Or => exact isTrue_or_nil ⟨H, I, q⟩
      | cons a r => exact PT.imp (sBT (a :: r) es' op pos sc X hX T h1 (by simp)).pt fun σ H Q ⟨g, ρ, S, d, S', rs, er, e1, fin⟩ => ⟨g, ρ, S, d, S', rs, er, by rw [evT] at e1; exact e1, fin⟩
    | _ => simp [mE] at h
  | .cmp op a b, e, sc, X, hX, T, h => by
    cases e with
    | Compare a' ops bs pos =>
      match ops, bs, h with
      | [o1], [b'], h =>
        simp only [mE, Bool.and_eq_true, decide_eq_true_eq] at h
        obtain ⟨rfl, h0, h1, h2⟩ := h
        exact tst_cmp hX.room h0 (sE a a' sc X hX T h1) (sE b b' sc X hX T h2)
      | [], _, h => simp [mE] at h
      | [_], [], h => simp [mE] at h
      | [_], _ :: _ :: _, h => simp [mE] at h
      | _ :: _ :: _, _, h => simp [mE] at h
    | _ => simp [mE] at h
  | .chain op1 op2 a b c, e, sc, X, hX, T, h => by
    cases e with
    | Compare a' ops bs pos =>
      match ops, bs, h with
      | [o1, o2], [b', c'], h =>
        simp only [mE, Bool.and_eq_true, decide_eq_true_eq] at h
        obtain ⟨rfl, rfl, h0, h1, h2, h3⟩ := h
        exact tst_chain hX.room h0 (sE a a' sc X hX T h1) (sE b b' sc X hX T h2) (sE c c' sc X hX T h3)
      | [], _, h => simp [mE] at h
      | [_], _, h => simp [mE] at h
      | _ :: _ :: _ :: _, _, h => simp [mE] at h
      | [_, _], [], h => simp [mE] at h
      | [_, _], [_], h => simp [mE] at h
      | [_, _], _ :: _ :: _ :: _, h => simp [mE] at h
    | _ => simp [mE] at h
  | .ite c a b, e, sc, X, hX, T, h => by
    cases e with
    | IfExp c' a' b' pos =>
      simp only [mE, Bool.and_eq_true, decide_eq_true_eq] at h
      exact tst_ite (sT c c' sc X hX T h.1) (sT a a' sc X hX T h.2.1) (sT b b' sc X hX T h.2.2)
    | _ => simp [mE] at h
  | .ix a b, e, sc, X, hX, T, h => by
    cases e with
    | Subscript a' b' pos =>
      simp only [mE, Bool.and_eq_true, decide_eq_true_eq] at h
      exact tst_ix (snd_ix h.1 (sE a a' sc X hX T h.2.1) (sE b b' sc X hX T h.2.2))
    | _ => simp [mE] at h
  | .slc a lo hi, e, sc, X, hX, T, h => tst_no fun ρ S => by simp only [evT]
  | .call f es, e, sc, X, hX, T, h => by
    cases e with
    | Call fn es' kws pos =>
      cases kws with
      | cons _ _ => cases fn <;> simp [mE] at h
      | nil =>
        cases fn with
        | Name x p =>
          simp only [mE, Bool.and_eq_true] at h
          obtain ⟨h0, hg, hp, hne, h1⟩ := h
          cases q : C.T f with
          | none => rw [q] at h0; cases h0
          | some fd =>
            rw [q] at h0
            rw [← hX.sc] at hg
            exact tst_val (snd_call T hX.room q (of_decide_eq_true h0) (gl_of hg) (plain_of hp).1 (fun z => by rw [z] at hne; cases hne) (mEs_star h1) (mEs_len h1) (sEs es es' sc X hX T h1) rfl) (by intro _; rfl) evT_call
        | _ => simp [mE] at h
    | _ => simp [mE] at h
  | .bi b es, e, sc, X, hX, T, h => by
    cases e with
    | Call fn es' kws pos =>
      cases kws with
      | cons _ _ => cases fn <;> simp [mE] at h
      | nil =>
        cases fn with
        | Name x p =>
          simp only [mE, Bool.and_eq_true, Bool.or_eq_true, decide_eq_true_eq] at h
          obtain ⟨rfl, hgc, hg, hne, h1⟩ := h
          rw [← hX.sc] at hg
          exact tst_val (snd_bi T hX.calm hgc (gl_of hg) (fun z => by rw [z] at hne; cases hne) (mEs_star h1) (mEs_len h1) (sEs es es' sc X hX T h1)) (by intro _; rfl) evT_bi
        | _ => simp [mE] at h
    | _ => simp [mE] at h
  | .isi t a, e, sc, X, hX, T, h => by
    cases e with
    | Call fn es' kws pos =>
      cases kws with
      | cons _ _ => cases fn <;> simp [mE] at h
      | nil =>
        cases fn with
        | Name x p =>
          match es', h with
          | [a', .Name y p2], h =>
            simp only [mE, Bool.and_eq_true, decide_eq_true_eq] at h
            obtain ⟨rfl, rfl, hg, hg2, hs, h1⟩ := h
            rw [← hX.sc] at hg hg2
            exact tst_val (snd_isi T (gl_of hg) (gl_of hg2) hs (sE a a' sc X hX T h1)) (by intro _; rfl) evT_isi
          | [], h => simp [mE] at h
          | [_], h => simp [mE] at h
          | _ :: _ :: _ :: _, h => simp [mE] at h
        | _ => simp [mE] at h
    | _ => simp [mE] at h
  | .meth m o es, e, sc, X, hX, T, h => tst_no fun ρ S => by simp only [evT]
  | .list1 a, e, sc, X, hX, T, h => tst_no fun ρ S => by simp only [evT]
  | .lc own tg rg it ifs elt, e, sc, X, hX, T, h => tst_no fun ρ S => by simp only [evT]
  | .bad, e, sc, X, hX, T, h => tst_no fun ρ S => by simp only [evT]
theorem sBT : ∀ (es : List IE) (es' : List Expr) (op : BoolOp) (pos : Pos) (sc : Scope) (X : Cx), Ctx C k sc X → TopX X fa C k → mEs C sc es es' = true → es ≠ [] → PW X (.BoolOp op es' pos) (tT X.K fa (evBT (call C.T C.gl k) C.gl op es))
  | [], es', op, pos, sc, X, hX, T, h, hne => absurd rfl hne
  | _ :: _, [], op, pos, sc, X, hX, T, h, _ => by simp [mEs] at h
  | [a], [e], op, pos, sc, X, hX, T, h, _ => by
    simp only [mEs, Bool.and_eq_true] at h
    exact bopT_one (sT a e sc X hX T h.2.1)
  | [a], e :: _ :: _, op, pos, sc, X, hX, T, h, _ => by simp [mEs] at h
  | a :: b :: es, [e], op, pos, sc, X, hX, T, h, _ => by simp [mEs] at h
  | a :: b :: es, e :: e2 :: es', op, pos, sc, X, hX, T, h, _ => by
    rw [mEs.eq_def] at h
    dsimp only at h
    simp only [Bool.and_eq_true] at h
    exact bopT_cons (sT a e sc X hX T h.2.1) (sBT (b :: es) (e2 :: es') op pos sc X hX T h.2.2 (by simp))
theorem sTs : ∀ (es : List IE) (es' : List Expr) (sc : Scope) (X : Cx), Ctx C k sc X → TopX X fa C k → mEs C sc es es' = true → es.length ≤ 1 → PTs X es' (tT X.K fa (evTs (call C.T C.gl k) C.gl es))
  | [], [], sc, X, hX, T, h, _ => tsts_nil
  | [], _ :: _, sc, X, hX, T, h, _ => by simp [mEs] at h
  | _ :: _, [], sc, X, hX, T, h, _ => by simp [mEs] at h
  | [a], [e], sc, X, hX, T, h, _ => by
    simp only [mEs, Bool.and_eq_true] at h
    exact tsts_one (sT a e sc X hX T h.2.1)
  | [a], e :: _ :: _, sc, X, hX, T, h, _ => by simp [mEs] at h
  | a :: b :: es, e :: es', sc, X, hX, T, h, hl => by simp at hl
theorem sO : ∀ (o : Option IE) (o' : Option Expr) (sc : Scope) (X : Cx), Ctx C k sc X → TopX X fa C k → mO C sc o o' = true → PO X o' (tO X.K fa (evO (call C.T C.gl k) C.gl o))
  | none, none, sc, X, hX, T, h => po_none'
  | none, some _, sc, X, hX, T, h => by simp [mO] at h
  | some _, none, sc, X, hX, T, h => by simp [mO] at h
  | some a, some e, sc, X, hX, T, h => po_some' (sE a e sc X hX T (by simpa only [mO] using h))
end
end
end Ab

/-! Ab12: statements. -/
namespace Ab
open PySem PySem.Spec PyProof.Rows L2

section
variable (K : PySem.W.Frag) (fa : Nat → Option Addr)
def REnd (g : G) (H : Hp) (r : Fl × AEnv × Store) (Dn : Ends) : Prop := match r with
  | (.next, ρ', S') => ∀ g' σ' H', Ext g H g' H' → RelS K fa g' S' H' → ERel K fa g' H' ρ' σ' → Dn.nx σ' H'
  | (.brk, ρ', S') => ∀ g' σ' H', Ext g H g' H' → RelS K fa g' S' H' → ERel K fa g' H' ρ' σ' → Dn.bk σ' H'
  | (.cont, ρ', S') => ∀ g' σ' H', Ext g H g' H' → RelS K fa g' S' H' → ERel K fa g' H' ρ' σ' → Dn.ct σ' H'
  | (.ret d, _, S') => Fin K fa g H S' d Dn.rt
def tSt (f : AEnv → Store → RS) : TS := fun Dn σ H => ∃ g ρ S r, RelS K fa g S H ∧ ERel K fa g H ρ σ ∧ f ρ S = some r ∧ REnd K fa g H r Dn
end
section
variable {K : PySem.W.Frag} {fa : Nat → Option Addr}
theorem REnd.after {g g' : G} {H H' : Hp} {r : Fl × AEnv × Store} {Dn : Ends} (h : REnd K fa g H r Dn) (e : Ext g H g' H') : REnd K fa g' H' r Dn := by
  obtain ⟨fl, ρ, S⟩ := r
  cases fl with
  | next => exact fun g2 σ2 H2 x => h g2 σ2 H2 (e.trans x)
  | brk => exact fun g2 σ2 H2 x => h g2 σ2 H2 (e.trans x)
  | cont => exact fun g2 σ2 H2 x => h g2 σ2 H2 (e.trans x)
  | ret d => exact Fin.after h e
/-- the end of a body within a loop: what the loop makes of it -/
theorem noSwap_of {env : Env} {t e : Expr} (h : noSwapB env.scope t e = true) : swappedStores [t] e env = pure none := by
  cases t with
  | Tuple ts tk tp =>
    cases e with
    | Tuple vs vk vp =>
      have names_le : ∀ (line : Nat) (l : List Expr), (l.filterMap fun | .Name id pos => if env.kindOf id == some .local && pos.line == line then some id else none | _ => none).length ≤ l.length := fun line l => List.length_filterMap_le _ _
      have names_lt : ∀ (line : Nat) (l : List Expr), (l.any fun | .Name x _ => !(env.scope.names.lookup x == some .local) | _ => true) = true →
          (l.filterMap fun | .Name id pos => if env.kindOf id == some .local && pos.line == line then some id else none | _ => none).length < l.length := fun line l hl => by
        induction l with
        | nil => cases hl
        | cons a l ih =>
          rw [List.any_cons, Bool.or_eq_true] at hl
          rw [List.filterMap_cons]
          rcases hl with hl | hl
          · have hn : (match a with | .Name id pos => if env.kindOf id == some .local && pos.line == line then some id else none | _ => (none : Option Str)) = none := by
              cases a with
              | Name x p =>
                have hx : (env.kindOf x == some .local) = false := by
                  have hl : (!(env.scope.names.lookup x == some .local)) = true := hl
                  show (env.scope.names.lookup x == some .local) = false
                  simpa using hl
                show (if (env.kindOf x == some .local && p.line == line) = true then some x else none) = none
                rw [hx]
                rfl
              | _ => rfl
            have := names_le line l
            split
            · rw [List.length_cons]; omega
            · rename_i b hb
              have := hn.symm.trans hb
              cases this
          · have := ih hl
            split
            · rw [List.length_cons]; omega
            · rw [List.length_cons, List.length_cons]; omega
      unfold swappedStores
      simp only [noSwapB, Bool.or_eq_true] at h
      dsimp only
      split
      · rfl
      · rename_i hlen
        split
        · rfl
        · have hx := h.resolve_left (fun z => hlen (by simp only [z, Bool.true_or]))
          have := names_lt ((ts.head?.map (·.pos.line)).getD 0) ts hx
          refine if_pos ?_
          rw [Bool.or_eq_true]
          exact .inl (bne_iff_ne.mpr (Nat.ne_of_lt this))
    | _ => rfl
  | List es p => simp [noSwapB] at h
  | _ => rfl
end
section
variable {fa : Nat → Option Addr} {X : Cx} {cf : CallF} {gl : Str → Option D} {pos : Pos} {a b c e : IE} {a' b' c' e' : Expr} {ss tt : List IS} {ss' tt' : List Stmt} {k : Nat}
theorem st_next {i : Nat} {g : G} {H : Hp} {S : Store} {ρ : AEnv} {Dn : Ends} {σ : L2.St} (q : REnd X.K fa g H (.next, ρ, S) Dn) (r : RelS X.K fa g S H) (er : ERel X.K fa g H ρ σ) : Dn.nx σ H := q g σ H (Ext.refl g H) r er

/-! ### assignment -/
theorem sole_of {t ex : Expr} {l : Nat} {env : Env} (h : notComp ex = true) : swapsWithSole [t] ex l env = pure false := swaps_of h
theorem st_set {i : Nat} {x : Str} {px : Pos} (nd : X.N.Nodup) (hi : X.N[i]? = some x) (hx : L2.Loc X.env.scope x) (hf : X.fn x = true ∨ X.env.scope.names.lookup x = some .local) (he : PE X e' (tA X.K fa (ev cf gl e))) (hs : swapsWith e' (some (.Name x px)) pos.line X.env = pure false) :
    PS X (.Assign [.Name x px] e' pos) (tSt X.K fa (evS cf gl (.asg (.name i) e))) :=
  PS.imp (ps_set (i := i) nd hi hx he hs hf) fun Dn σ H ⟨g, ρ, S, r, rs, er, e1, q⟩ => by
    simp only [evS] at e1
    split at e1
    · rename_i d S1 e2
      rw [Option.map_eq_some_iff] at e1
      obtain ⟨ρ', e3, e4⟩ := e1
      subst e4
      simp only [Tg.bind] at e3
      split at e3
      · cases e3
        exact seq1 rs er e2 fun g' v H' x1 r1 er1 p1 => q g' _ H' x1 r1 (er1.set p1 i)
      · cases e3
    · cases e1
theorem st_new {i : Nat} {x : Str} {px : Pos} (nd : X.N.Nodup) (hi : X.N[i]? = some x) (hx : L2.Loc X.env.scope x) (hf : X.fn x = true ∨ X.env.scope.names.lookup x = some .local) (he : PE X e' (tL X.K fa (ev cf gl e))) (hs : swapsWith e' (some (.Name x px)) pos.line X.env = pure false) :
    PS X (.Assign [.Name x px] e' pos) (tSt X.K fa (evS cf gl (.new i e))) :=
  PS.imp (ps_set (i := i) nd hi hx he hs hf) fun Dn σ H ⟨g, ρ, S, r, rs, er, e1, q⟩ => by
    simp only [evS] at e1
    split at e1
    · rename_i ds S1 e2
      split at e1
      · cases e1
        refine ⟨g, ρ, S, ds, S1, rs, er, e2, fun g' p vs H' x1 r1 o1 p1 => ?_⟩
        refine q (g'.put p) _ H' (x1.trans o1.putExt) (o1.put r1 p1) ?_
        exact (er.ext (x1.trans o1.putExt)).set (.ref (put_get r1 p)) i
      · cases e1
    · cases e1
theorem swaps_lc {elt : Expr} {gens : List Comprehension} {scope : Scope} {p px : Pos} {x : Str} {l : Nat} {env : Env} : swapsWith (.ListComp elt gens scope p) (some (.Name x px)) l env =
    pure (env.blockKind == .function && env.kindOf x == some .local && px.line == p.line && !(scope.names.any fun (n, k) => n == x && (k == .local || k == .cell))) := rfl
theorem st_setLc {i : Nat} {x : Str} {px p : Pos} {own : List Nat} {tg : Tg} {rg : Bool} {it ifs : List IE} {elt : IE} {elt' tg' iter' : Expr} {ifs' : List Expr} {scope : Scope} (nd : X.N.Nodup) (hi : X.N[i]? = some x) (hx : L2.Loc X.env.scope x) (hf : X.fn x = true ∨ X.env.scope.names.lookup x = some .local)
    (h : LcH X fa cf gl own tg rg it ifs elt elt' tg' iter' ifs' scope) : PS X (.Assign [.Name x px] (.ListComp elt' [⟨tg', iter', ifs', 0⟩] scope p) pos) (tSt X.K fa (evS cf gl (.asg (.name i) (.lc own tg rg it ifs elt)))) ∧
      PS X (.Assign [.Name x px] (.ListComp elt' [⟨tg', iter', ifs', 0⟩] scope p) pos) (tSt X.K fa (evS cf gl (.new i (.lc own tg rg it ifs elt)))) := by
  have hL := h.ok (pos := p)
  cases hb : (X.env.blockKind == .function && X.env.kindOf x == some .local && px.line == p.line && !(scope.names.any fun (n, k) => n == x && (k == .local || k == .cell))) with
  | false =>
    have hs : swapsWith (.ListComp elt' [⟨tg', iter', ifs', 0⟩] scope p) (some (.Name x px)) pos.line X.env = pure false := by rw [swaps_lc, hb]
    exact ⟨st_set nd hi hx hf (tA_L lc_lst hL) hs, st_new nd hi hx hf hL hs⟩
  | true =>
    have hs : swapsWith (.ListComp elt' [⟨tg', iter', ifs', 0⟩] scope p) (some (.Name x px)) pos.line X.env = pure true := by rw [swaps_lc, hb]
    have hyl : X.env.scope.names.lookup x = some .local := by
      simp only [Bool.and_eq_true, beq_iff_eq] at hb
      exact hb.1.1.2
    have base := ps_setLc (i := i) (spos := pos) h.calm nd hi hyl hs h.pi h.blk h.pg h.pt h.pe h.fs
    rw [own_names] at base
    refine ⟨PS.imp base fun Dn σ H ⟨g, ρ, S, r, rs, er, e1, q⟩ => ?_, PS.imp base fun Dn σ H ⟨g, ρ, S, r, rs, er, e1, q⟩ => ?_⟩
    · refine lc_imp h.sl ?_
      simp only [evS] at e1
      split at e1
      · rename_i d S1 e2
        rw [Option.map_eq_some_iff] at e1
        obtain ⟨ρ', e3, e4⟩ := e1
        subst e4
        simp only [Tg.bind] at e3
        split at e3
        · cases e3
          obtain ⟨ds, rfl⟩ := lc_lst _ _ _ _ e2
          refine ⟨g, ρ, S, ds, S1, rs, er, e2, fun g' p vs H' x1 r1 o1 p1 => ?_⟩
          exact q _ _ H' (x1.trans o1.freezeExt) (o1.freeze r1) ((er.ext (x1.trans o1.freezeExt)).set (o1.rep p1) i)
        · cases e3
      · cases e1
    · refine lc_imp h.sl ?_
      simp only [evS] at e1
      split at e1
      · rename_i ds S1 e2
        split at e1
        · cases e1
          refine ⟨g, ρ, S, ds, S1, rs, er, e2, fun g' p vs H' x1 r1 o1 p1 => ?_⟩
          exact q (g'.put p) _ H' (x1.trans o1.putExt) (o1.put r1 p1) ((er.ext (x1.trans o1.putExt)).set (.ref (put_get r1 p)) i)
        · cases e1
      · cases e1
theorem st_tup {ts : List Tg} {es : List Expr} {n : Nat} {p : Pos} (he : PE X e' (tA X.K fa (ev cf gl e))) (hg : PG X (.Tuple es n p) (tG X.K fa (.tup ts))) (hs : notComp e' = true) (hw : swappedStores [.Tuple es n p] e' X.env = pure none) :
    PS X (.Assign [.Tuple es n p] e' pos) (tSt X.K fa (evS cf gl (.asg (.tup ts) e))) :=
  PS.imp (ps_asg he hg (sole_of hs) hw rfl) fun Dn σ H ⟨g, ρ, S, r, rs, er, e1, q⟩ => by
    simp only [evS] at e1
    split at e1
    · rename_i d S1 e2
      rw [Option.map_eq_some_iff] at e1
      obtain ⟨ρ', e3, e4⟩ := e1
      subst e4
      exact seq1 rs er e2 fun g' v H' x1 r1 er1 p1 => ⟨g', ρ, d, ρ', er1, p1, e3, fun σ' er2 _ _ => q g' σ' H' x1 r1 er2⟩
    · cases e1
theorem st_par {i j n m : Nat} {x y : Str} {px py p1 p2 : Pos} (hc : X.calm = true) (nd : X.N.Nodup) (hi : X.N[i]? = some x) (hj : X.N[j]? = some y) (hij : i ≠ j) (hx : X.env.scope.names.lookup x = some .local) (hy : X.env.scope.names.lookup y = some .local) (sa : notStar a' = true) (sb : notStar b' = true)
    (ha : PE X a' (tA X.K fa (ev cf gl a))) (hb : PE X b' (tA X.K fa (ev cf gl b))) (hw : swappedStores [.Tuple [.Name x px, .Name y py] n p1] (.Tuple [a', b'] m p2) X.env = pure (some [x, y])) :
    PS X (.Assign [.Tuple [.Name x px, .Name y py] n p1] (.Tuple [a', b'] m p2) pos) (tSt X.K fa (evS cf gl (.par i j a b))) :=
  PS.imp (ps_par hc nd hi hj hij hx hy (pa_cons ha (pa_cons hb pa_nil (star_cons sb)) (star_cons sa)) hw rfl) fun Dn σ H ⟨g, ρ, S, r, rs, er, e1, q⟩ => by
    simp only [evS] at e1
    split at e1
    · rename_i x1 S1 e2
      split at e1
      · rename_i y1 S2 e3
        split at e1
        · cases e1
          exact seq2 rs er e2 e3 fun g' v w H' x1 r1 er1 p1 p2 => ⟨v, w, rfl, q g' _ H' x1 r1 ((er1.set p1 i).set p2 j)⟩
        · cases e1
      · cases e1
    · cases e1
theorem sub_assign {o i : Expr} {p : Pos} (h : notSlice i = true) : ∀ v, assign (.Subscript o i p) X.env v = (do
      let ov ← holding [v] (eval o X.env)
      let iv ← holding [v, ov] (eval i X.env)
      standAt p
      holding [v, ov, iv] (setItem ov iv v)
      release [v, ov, iv] []) := by
  intro v
  cases i <;> first | rfl | cases h
theorem st_seti {o i : IE} {o' i' : Expr} {p : Pos} (hs : notComp e' = true) (hn : notSlice i' = true) (he : PE X e' (tA X.K fa (ev cf gl e))) (ho : PE X o' (tA X.K fa (ev cf gl o))) (hi : PE X i' (tA X.K fa (ev cf gl i))) :
    PS X (.Assign [.Subscript o' i' p] e' pos) (tSt X.K fa (evS cf gl (.seti o i e))) :=
  PS.imp (ps_asg he (pg_sub ho hi set_list (sub_assign hn)) (sole_of hs) rfl rfl) fun Dn σ H ⟨g, ρ, S, r, rs, er, e1, q⟩ => by
    simp only [evS] at e1
    split at e1
    · rename_i d S1 e2
      split at e1
      · rename_i n S2 e3
        split at e1
        · rename_i kk S3 e4
          split at e1
          · rename_i xs e5
            split at e1
            · rename_i j e6
              cases e1
              refine seq1 rs er e2 fun g1 v H1 x1 r1 er1 p1 => seq1 r1 er1 e3 fun g2 w H2 x2 r2 er2 p2 => seq1 r2 er2 e4 fun g3 z H3 x3 r3 er3 p3 => ?_
              cases p3
              cases p2 with
              | @ref ad _ hm =>
                have hm := x3.get hm
                obtain ⟨a2, h1, h2⟩ := r3.addr e5
                rw [hm] at h1
                cases h1
                obtain ⟨vs, h3, h4⟩ := h2
                refine ⟨_, vs, kk, j, rfl, rfl, h3, by rw [← h4.length]; exact e6, ?_⟩
                have p1' := p1.ext (x2.trans x3)
                exact q g3 _ _ (x1.trans (x2.trans (x3.trans (r3.setExt hm h3)))) (r3.set hm h3 (Reps.set p1' j h4)) (er3.ext (r3.setExt hm h3))
            · cases e1
          · cases e1
        · cases e1
      · cases e1
    · cases e1
theorem aug_ok {op : Operator} : PIp X op (fun x y H Q => ∃ i j z, x = .int i ∧ y = .int j ∧ augOp op i j = some z ∧ Q (.int z) H) := by
  intro pins s σ H x y v u Q I r1 r2 ⟨i, j, z, e1, e2, e3, q⟩
  subst e1 e2
  cases op with
  | Add =>
    cases e3
    exact ip_add pins s σ H _ _ v u Q I r1 r2 ⟨i, j, rfl, rfl, q⟩
  | Sub =>
    cases e3
    exact ip_sub pins s σ H _ _ v u Q I r1 r2 ⟨i, j, rfl, rfl, q⟩
  | _ => cases e3
theorem st_aug {i : Nat} {x : Str} {px : Pos} {op : Operator} (nd : X.N.Nodup) (hi : X.N[i]? = some x) (hx : L2.Loc X.env.scope x) (hf : X.fn x = true ∨ X.env.scope.names.lookup x = some .local) (he : PE X e' (tA X.K fa (ev cf gl e))) :
    PS X (.AugAssign (.Name x px) op e' pos) (tSt X.K fa (evS cf gl (.aug i op e))) :=
  PS.imp (ps_aug (i := i) nd hi hx he aug_ok hf) fun Dn σ H ⟨g, ρ, S, r, rs, er, e1, q⟩ => by
    simp only [evS] at e1
    split at e1
    · rename_i m e2
      split at e1
      · rename_i n S1 e3
        rw [Option.map_eq_some_iff] at e1
        obtain ⟨z, e4, e5⟩ := e1
        subst e5
        obtain ⟨v, h1, h2⟩ := er.2 _ _ e2
        cases h2
        refine ⟨_, h1, seq1 rs er e3 fun g' w H' x1 r1 er1 p1 => ?_⟩
        cases p1
        exact ⟨m, n, z, rfl, rfl, e4, q g' _ H' x1 r1 (er1.set (.int _) i)⟩
      · cases e1
    · cases e1

/-! ### the small ones -/
theorem st_ex (hs : notComp e' = true) (he : PE X e' (tA X.K fa (ev cf gl e))) : PS X (.Expr e' pos) (tSt X.K fa (evS cf gl (.ex e))) :=
  PS.imp (ps_expr he (swaps_of hs)) fun Dn σ H ⟨g, ρ, S, r, rs, er, e1, q⟩ => by
    simp only [evS] at e1
    split at e1
    · rename_i d S1 e2
      cases e1
      exact seq1 rs er e2 fun g' v H' x1 r1 er1 p1 => q g' _ H' x1 r1 er1
    · cases e1
theorem st_ret (he : PE X e' (tA X.K fa (ev cf gl e))) : PS X (.Return (some e') pos) (tSt X.K fa (evS cf gl (.ret e))) :=
  PS.imp (ps_ret he) fun Dn σ H ⟨g, ρ, S, r, rs, er, e1, q⟩ => by
    simp only [evS] at e1
    split at e1
    · rename_i d S1 e2
      cases e1
      exact ⟨g, ρ, S, d, S1, rs, er, e2, q⟩
    · cases e1
theorem st_retN : PS X (.Return none pos) (tSt X.K fa (evS cf gl .retN)) :=
  PS.imp ps_retN fun Dn σ H ⟨g, ρ, S, r, rs, er, e1, q⟩ => by
    simp only [evS] at e1
    cases e1
    exact Fin.here q rs .non
theorem st_pass : PS X (.Pass pos) (tSt X.K fa (evS cf gl .pass)) :=
  PS.imp ps_pass fun Dn σ H ⟨g, ρ, S, r, rs, er, e1, q⟩ => by
    simp only [evS] at e1
    cases e1
    exact q g σ H (Ext.refl g H) rs er
theorem st_brk : PS X (.Break pos) (tSt X.K fa (evS cf gl .brk)) :=
  PS.imp ps_break fun Dn σ H ⟨g, ρ, S, r, rs, er, e1, q⟩ => by
    simp only [evS] at e1
    cases e1
    exact q g σ H (Ext.refl g H) rs er
theorem st_cont : PS X (.Continue pos) (tSt X.K fa (evS cf gl .cont)) :=
  PS.imp ps_continue fun Dn σ H ⟨g, ρ, S, r, rs, er, e1, q⟩ => by
    simp only [evS] at e1
    cases e1
    exact q g σ H (Ext.refl g H) rs er
theorem st_bad {s' : Stmt} : PS X s' (tSt X.K fa (evS cf gl .bad)) := ⟨fun pins s σ H Dn I ⟨g, ρ, S, r, rs, er, e1, q⟩ => by
  simp only [evS] at e1
  cases e1⟩
theorem sts_nil : PSs X [] (tSt X.K fa (evSs cf gl [])) :=
  PSs.imp pss_nil fun Dn σ H ⟨g, ρ, S, r, rs, er, e1, q⟩ => by
    simp only [evSs] at e1
    cases e1
    exact q g σ H (Ext.refl g H) rs er
theorem sts_cons {s : IS} {s' : Stmt} (h : PS X s' (tSt X.K fa (evS cf gl s))) (hs : PSs X ss' (tSt X.K fa (evSs cf gl ss))) : PSs X (s' :: ss') (tSt X.K fa (evSs cf gl (s :: ss))) :=
  PSs.imp (pss_cons h hs) fun Dn σ H ⟨g, ρ, S, r, rs, er, e1, q⟩ => by
    simp only [evSs] at e1
    split at e1
    · rename_i ρ' S' e2
      exact ⟨g, ρ, S, _, rs, er, e2, fun g' σ' H' x1 r1 er1 => ⟨g', ρ', S', r, r1, er1, e1, q.after x1⟩⟩
    · rename_i r' hr
      refine ⟨g, ρ, S, r, rs, er, e1, ?_⟩
      obtain ⟨fl, ρ', S'⟩ := r
      cases fl with
      | next => exact absurd e1 (hr ρ' S')
      | brk => exact q
      | cont => exact q
      | ret d => exact q
theorem st_ite (hc : PT X c' (tT X.K fa (evT cf gl c))) (ha : PSs X ss' (tSt X.K fa (evSs cf gl ss))) (hb : PSs X tt' (tSt X.K fa (evSs cf gl tt))) : PS X (.If c' ss' tt' pos) (tSt X.K fa (evS cf gl (.ite c ss tt))) :=
  PS.imp (ps_if hc ha hb) fun Dn σ H ⟨g, ρ, S, r, rs, er, e1, q⟩ => by
    simp only [evS] at e1
    split at e1
    · rename_i S1 e2
      exact seqT rs er e2 fun g' H' x1 r1 er1 => iteT ⟨g', ρ, S1, r, r1, er1, e1, q.after x1⟩
    · rename_i S1 e2
      exact seqT rs er e2 fun g' H' x1 r1 er1 => iteF ⟨g', ρ, S1, r, r1, er1, e1, q.after x1⟩
    · cases e1

/-! ### loops -/
theorem st_whl {n : Nat} (hxe : X.xe = fun _ _ => False) (hc : PT X c' (tT X.K fa (evT cf gl c))) (hb : PSs X ss' (tSt X.K fa (evSs cf gl ss))) : PS X (.While c' ss' [] pos) (tSt X.K fa (evS cf gl (.whl n c ss))) :=
  PS.imp (ps_while (by rw [hxe]; exact PassesOwn.never) hc hb) fun Dn σ H ⟨g, ρ, S, r, rs, er, e1, q⟩ => by
    simp only [evS] at e1
    refine ⟨fun m σ1 H1 => ∃ g1 ρ1 S1, Ext g H g1 H1 ∧ RelS X.K fa g1 S1 H1 ∧ ERel X.K fa g1 H1 ρ1 σ1 ∧ evWh (evT cf gl c) (evSs cf gl ss) m ρ1 S1 = some r, ⟨n, g, ρ, S, Ext.refl g H, rs, er, e1⟩, ?_⟩
    rintro m σ1 H1 ⟨g1, ρ1, S1, x1, r1, er1, e2⟩
    cases m with
    | zero => simp only [evWh] at e2; cases e2
    | succ m =>
      simp only [evWh] at e2
      split at e2
      · rename_i S2 e3
        refine seqT r1 er1 e3 fun g2 H2 x2 r2 er2 => iteT ?_
        refine ⟨fun σ3 H3 => ∃ g3 ρ3 S3, Ext g H g3 H3 ∧ RelS X.K fa g3 S3 H3 ∧ ERel X.K fa g3 H3 ρ3 σ3 ∧ evWh (evT cf gl c) (evSs cf gl ss) m ρ3 S3 = some r, fun σ3 H3 h3 => ⟨m, Nat.lt_succ_self m, h3⟩, ?_⟩
        cases hbody : evSs cf gl ss ρ1 S2 with
        | none => rw [hbody] at e2; cases e2
        | some out =>
          rw [hbody] at e2
          refine ⟨g2, ρ1, S2, out, r2, er2, hbody, ?_⟩
          obtain ⟨fl, ρ', S'⟩ := out
          cases fl with
          | next => exact fun g3 σ3 H3 x3 r3 er3 => ⟨g3, ρ', S', x1.trans (x2.trans x3), r3, er3, e2⟩
          | cont => exact fun g3 σ3 H3 x3 r3 er3 => ⟨g3, ρ', S', x1.trans (x2.trans x3), r3, er3, e2⟩
          | brk =>
            cases e2
            exact fun g3 σ3 H3 x3 r3 er3 => q g3 σ3 H3 (x1.trans (x2.trans x3)) r3 er3
          | ret d =>
            cases e2
            exact Fin.after (Fin.after q x1) x2
      · rename_i S2 e3
        cases e2
        exact seqT r1 er1 e3 fun g2 H2 x2 r2 er2 => iteF (q g2 _ H2 (x1.trans x2) r2 er2)
      · cases e2
theorem st_for {tg : Tg} {rg : Bool} {it : List IE} {tg' it' : Expr} (hxe : X.xe = fun _ _ => False) (hcalm : X.calm = true) (hn : notSet it' = true) (hi : PI X tg' it' (iA X.K fa (evs cf gl it) rg)) (hg : PG X tg' (tG X.K fa tg)) (hb : PSs X ss' (tSt X.K fa (evSs cf gl ss))) :
    PS X (.For tg' it' ss' [] pos) (tSt X.K fa (evS cf gl (.for_ tg rg it ss))) :=
  PS.imp (ps_for (by rw [hxe]; exact PassesOwn.never) hcalm hi hg hb (folded_of hn)) fun Dn σ H ⟨g, ρ, S, r, rs, er, e1, q⟩ => by
    simp only [evS] at e1
    split at e1
    · rename_i ds S1 e2
      split at e1
      · rename_i xs e3
        refine ⟨g, ρ, S, ds, S1, xs, rs, er, e2, e3, fun g1 J H1 x1 r1 wj => ?_⟩
        refine ⟨fun i m σ2 H2 => m = xs.length - i ∧ i ≤ xs.length ∧ ∃ g2 ρ2 S2, Ext g1 H1 g2 H2 ∧ RelS X.K fa g2 S2 H2 ∧ ERel X.K fa g2 H2 ρ2 σ2 ∧ evFor (stays rg ds xs) (fun d ρ S => match Tg.bind tg d ρ with
            | some ρ' => evSs cf gl ss ρ' S
            | none => none) (xs.drop i) ρ2 S2 = some r, ⟨_, rfl, Nat.zero_le _, g1, ρ, S1, Ext.refl g1 H1, r1, er.ext x1, e1⟩, ?_⟩
        rintro i m σ2 H2 ⟨rfl, hi, g2, ρ2, S2, x2, r2, er2, e4⟩
        by_cases hlt : i < xs.length
        · rw [List.drop_eq_getElem_cons hlt] at e4
          simp only [evFor] at e4
          split at e4
          · rename_i hst
            obtain ⟨hgo, hyld⟩ := (wj i g2 H2 S2 x2 r2 hst).1 xs[i] (List.getElem?_eq_getElem hlt)
            refine .inr ⟨hgo, fun σ3 H3 => ∃ g3 ρ3 S3, Ext g1 H1 g3 H3 ∧ RelS X.K fa g3 S3 H3 ∧ ERel X.K fa g3 H3 ρ3 σ3 ∧ evFor (stays rg ds xs) (fun d ρ S => match Tg.bind tg d ρ with
              | some ρ' => evSs cf gl ss ρ' S
              | none => none) (xs.drop (i + 1)) ρ3 S3 = some r, fun σ3 H3 h3 => ⟨xs.length - (i + 1), by omega, rfl, hlt, h3⟩, fun x H3 hy => ?_⟩
            obtain ⟨g3, x3, r3, p3⟩ := hyld x H3 hy
            cases hbind : Tg.bind tg xs[i] ρ2 with
            | none => rw [hbind] at e4; cases e4
            | some ρ' =>
              rw [hbind] at e4
              dsimp only at e4
              refine ⟨g3, ρ2, xs[i], ρ', er2.ext x3, p3, hbind, fun σ4 er4 _ _ => ?_⟩
              cases hbody : evSs cf gl ss ρ' S2 with
              | none => rw [hbody] at e4; cases e4
              | some out =>
                rw [hbody] at e4
                refine ⟨g3, ρ', S2, out, r3, er4, hbody, ?_⟩
                obtain ⟨fl, ρ5, S5⟩ := out
                cases fl with
                | next => exact fun g4 σ5 H5 x5 r5 er5 => ⟨g4, ρ5, S5, x2.trans (x3.trans x5), r5, er5, e4⟩
                | cont => exact fun g4 σ5 H5 x5 r5 er5 => ⟨g4, ρ5, S5, x2.trans (x3.trans x5), r5, er5, e4⟩
                | brk =>
                  cases e4
                  exact fun g4 σ5 H5 x5 r5 er5 => q g4 σ5 H5 (x1.trans (x2.trans (x3.trans x5))) r5 er5
                | ret d =>
                  cases e4
                  exact Fin.after (Fin.after (Fin.after q x1) x2) x3
          · cases e4
        · have hi' : i = xs.length := by omega
          subst hi'
          rw [List.drop_length] at e4
          simp only [evFor] at e4
          split at e4
          · rename_i hst
            cases e4
            exact .inl ⟨(wj _ g2 H2 S2 x2 r2 hst).2 (Nat.le_refl _), q g2 _ H2 (x1.trans x2) r2 er2⟩
          · cases e4
      · cases e1
    · cases e1
end
end Ab

/-! Ab13: all statements, defs, the table. -/
namespace Ab
open PySem PySem.Spec PyProof.Rows L2
theorem par_of {env : Env} {x y : Str} {px py p1 p2 : Pos} {a b : Expr} {n m : Nat} (hk : env.scope.kind = .function) (sa : notStar a = true) (sb : notStar b = true) (h : parB env.scope (.Name x px) (.Name y py) a b = true) :
    swappedStores [.Tuple [.Name x px, .Name y py] n p1] (.Tuple [a, b] m p2) env = pure (some [x, y]) ∧ env.scope.names.lookup x = some .local ∧ env.scope.names.lookup y = some .local := by
  simp only [parB, Bool.and_eq_true, Bool.not_eq_true', decide_eq_true_eq] at h
  obtain ⟨h1, h2, h3, h4, h5, h6⟩ := h
  have l1 : env.scope.names.lookup x = some .local := by
    cases q : env.scope.names.lookup x with
    | none => rw [q] at h1; cases h1
    | some kk => rw [q] at h1; cases kk <;> first | rfl | cases h1
  have l2 : env.scope.names.lookup y = some .local := by
    cases q : env.scope.names.lookup y with
    | none => rw [q] at h2; cases h2
    | some kk => rw [q] at h2; cases kk <;> first | rfl | cases h2
  refine ⟨?_, l1, l2⟩
  have hb : env.blockKind = .function := by unfold Env.blockKind; rw [hk]; rfl
  have k1 : env.kindOf x = some .local := l1
  have k2 : env.kindOf y = some .local := l2
  have hl : (py.line == px.line) = true := by
    have := beq_iff_eq.mp h4
    exact beq_iff_eq.mpr this.symm
  have hd : [x, y].eraseDups.length = 2 := by
    have hne : (y == x) = false := beq_eq_false_iff_ne.mpr (Ne.symm h3)
    simp [List.eraseDups_cons, List.filter_cons, hne]
  unfold swappedStores
  dsimp only
  split
  · rename_i h
    rw [hb] at h
    simp at h
  · split
    · rename_i h
      exfalso
      simp only [List.any_cons, List.any_nil, Bool.or_false, Bool.or_eq_true] at h
      rcases h with h | h
      · cases a <;> first | (cases sa; done) | (cases h; done)
      · cases b <;> first | (cases sb; done) | (cases h; done)
    · simp only [List.filterMap_cons, List.filterMap_nil, List.head?_cons, Option.map_some, Option.getD_some, Expr.pos, k1, k2, hl, beq_self_eq_true, Bool.and_self, if_true]
      rw [if_neg (by rw [hd]; simp), if_neg (by rw [h5]; exact Bool.false_ne_true), if_neg (by rw [h6]; exact Bool.false_ne_true)]

section
variable {fa : Nat → Option Addr} {C : Cfg} {k : Nat}
/-- a list comprehension's premises -/
theorem lcH {own : List Nat} {tg : Tg} {rg : Bool} {it ifs : List IE} {elt : IE} {elt' : Expr} {gens : List Comprehension} {scope sc : Scope} {pos : Pos} {X : Cx} (hX : Ctx C k sc X) (T : TopX X fa C k) (h : mE C sc (.lc own tg rg it ifs elt) (.ListComp elt' gens scope pos) = true) :
    ∃ tg' iter' ifs', gens = [⟨tg', iter', ifs', 0⟩] ∧ LcH X fa (call C.T C.gl k) C.gl own tg rg it ifs elt elt' tg' iter' ifs' scope := by
  match gens, h with
  | [⟨tg', iter', ifs', asy⟩], h =>
    simp only [mE, Bool.and_eq_true, decide_eq_true_eq] at h
    obtain ⟨rfl, hb, hs, hi, hsl, hg, hifs, hl, helt⟩ := h
    refine ⟨tg', iter', ifs', rfl, ?_⟩
    cases q : iterArgs sc rg iter' with
    | none => rw [q] at hi; cases hi
    | some es' =>
      rw [q] at hi
      refine ⟨hX.calm, by rw [hX.N]; exact hX.nd, pi_of hX T q hi (sEs it es' sc X hX T hi) (fun a ha hr => ?_), ?_, hsl, fun s H Cc cl fp => ?_, fun s H Cc cl fp => ?_, fun s H Cc cl fp => ?_, folded_of hs⟩
      · exact sIt it a ha iter' es' sc X hX T hi (by
          subst hr
          unfold iterArgs at q
          split at q
          · contradiction
          · cases q
          · cases q; rfl
          · cases q)
      · rw [hX.N, hX.sc]
        exact blkOk_by hb
      · exact sG (X := X.blk s H scope (compEnvC scope cl Cc X.env) fp) hX.N hX.nd hX.calm (blk_st s H Cc cl fp) tg tg' hg
      · exact sTs ifs ifs' (relS scope sc) _ (blk_ctx hX s H Cc cl fp) T hifs hl
      · exact sE elt elt' (relS scope sc) _ (blk_ctx hX s H Cc cl fp) T helt
  | [], h => simp [mE] at h
  | _ :: _ :: _, h => simp [mE] at h
/-- fresh lists -/
theorem sL (ie : IE) (e : Expr) (sc : Scope) (X : Cx) (hX : Ctx C k sc X) (T : TopX X fa C k) (hf : freshB ie = true) (hc : isComp ie = false) (h : mE C sc ie e = true) : PE X e (tL X.K fa (ev (call C.T C.gl k) C.gl ie)) := by
  cases ie with
  | lst es =>
    cases e with
    | List es' pos => exact snd_lst (sEs es es' sc X hX T (by simpa only [mE] using h))
    | _ => simp [mE] at h
  | bin op a b =>
    cases e with
    | BinOp a' op' b' pos =>
      simp only [mE, Bool.and_eq_true, decide_eq_true_eq] at h
      obtain ⟨rfl, h1, h2⟩ := h
      exact snd_binL (sE a a' sc X hX T h1) (sE b b' sc X hX T h2)
    | _ => simp [mE] at h
  | list1 a =>
    cases e with
    | Call fn es' kws pos =>
      cases kws with
      | cons _ _ => cases fn <;> simp [mE] at h
      | nil =>
        cases fn with
        | Name x p =>
          match es', h with
          | [a'], h =>
            simp only [mE, Bool.and_eq_true, decide_eq_true_eq] at h
            obtain ⟨rfl, hg, hs, h1⟩ := h
            rw [← hX.sc] at hg
            exact snd_list1 T (gl_of hg) hs (sE a a' sc X hX T h1)
          | [], h => simp [mE] at h
          | _ :: _ :: _, h => simp [mE] at h
        | _ => simp [mE] at h
    | _ => simp [mE] at h
  | lc => cases hc
  | _ => cases hf

/-- a def's own context -/
structure Ctx0 (C : Cfg) (k : Nat) (s0 : Scope) (X : Cx) : Prop extends Ctx C k s0 X where
  kind : s0.kind = .function
  fn : ∀ x, X.fn x = true
theorem sAsg (X : Cx) (sc : Scope) (hX : Ctx0 C k sc X) (T : TopX X fa C k) (i : Nat) (e : IE) (s' : Stmt) (h : mS C sc (.asg (.name i) e) s' = true) : PS X s' (tSt X.K fa (evS (call C.T C.gl k) C.gl (.asg (.name i) e))) := by
  cases s' with
  | Assign ts e' pos =>
    cases ts with
    | nil => simp [mS] at h
    | cons t r =>
      cases r with
      | cons _ _ => cases t <;> simp [mS] at h
      | nil =>
        cases t with
        | Name x px =>
          simp only [mS, Bool.and_eq_true, decide_eq_true_eq, Bool.or_eq_true] at h
          obtain ⟨h1, h2, h3, h4⟩ := h
          have nd : X.N.Nodup := by rw [hX.N]; exact hX.nd
          have hi : X.N[i]? = some x := by rw [hX.N]; exact h1
          have hl : L2.Loc X.env.scope x := by rw [hX.sc]; exact loc_of h2
          by_cases hn : notComp e' = true
          · exact st_set nd hi hl (.inl (hX.fn x)) (sE e e' sc X hX.toCtx T h4) (swaps_of hn)
          · have hc := h3.resolve_left hn
            cases e with
            | lc own tg rg it ifs elt =>
              cases e' with
              | ListComp elt' gens scope p =>
                obtain ⟨tg', iter', ifs', rfl, hh⟩ := lcH hX.toCtx T h4
                exact (st_setLc nd hi hl (.inl (hX.fn x)) hh).1
              | _ => simp [mE] at h4
            | _ => cases hc
        | _ => simp [mS] at h
  | _ => simp [mS] at h
theorem sTup (X : Cx) (sc : Scope) (hX : Ctx0 C k sc X) (T : TopX X fa C k) (tgs : List Tg) (e : IE) (s' : Stmt) (h : mS C sc (.asg (.tup tgs) e) s' = true) : PS X s' (tSt X.K fa (evS (call C.T C.gl k) C.gl (.asg (.tup tgs) e))) := by
  cases s' with
  | Assign ts e' pos =>
    cases ts with
    | nil => simp [mS] at h
    | cons t r =>
      cases r with
      | cons _ _ => cases t <;> simp [mS] at h
      | nil =>
        cases t with
        | Tuple es n p =>
          simp only [mS, Bool.and_eq_true, decide_eq_true_eq, Bool.or_eq_true] at h
          obtain ⟨h1, h2, h3, h4⟩ := h
          rw [← hX.sc] at h2
          exact st_tup (sE e e' sc X hX.toCtx T h4) (sG (st := locB sc) hX.N hX.nd hX.calm (fun x hx => ⟨by rw [hX.sc]; exact loc_of hx, .inl (hX.fn x)⟩) (.tup tgs) (.Tuple es n p) (by simpa only [mG] using h3)) h1 (noSwap_of h2)
        | _ => simp [mS] at h
  | _ => simp [mS] at h
theorem sNew (X : Cx) (sc : Scope) (hX : Ctx0 C k sc X) (T : TopX X fa C k) (i : Nat) (e : IE) (s' : Stmt) (h : mS C sc (.new i e) s' = true) : PS X s' (tSt X.K fa (evS (call C.T C.gl k) C.gl (.new i e))) := by
  cases s' with
  | Assign ts e' pos =>
    cases ts with
    | nil => simp [mS] at h
    | cons t r =>
      cases r with
      | cons _ _ => cases t <;> simp [mS] at h
      | nil =>
        cases t with
        | Name x px =>
          simp only [mS, Bool.and_eq_true, decide_eq_true_eq, Bool.or_eq_true] at h
          obtain ⟨h1, hf, h2, h3, h4⟩ := h
          have nd : X.N.Nodup := by rw [hX.N]; exact hX.nd
          have hi : X.N[i]? = some x := by rw [hX.N]; exact h1
          have hl : L2.Loc X.env.scope x := by rw [hX.sc]; exact loc_of h2
          cases hic : isComp e with
          | true =>
            cases e with
            | lc own tg rg it ifs elt =>
              cases e' with
              | ListComp elt' gens scope p =>
                obtain ⟨tg', iter', ifs', rfl, hh⟩ := lcH hX.toCtx T h4
                exact (st_setLc nd hi hl (.inl (hX.fn x)) hh).2
              | _ => simp [mE] at h4
            | _ => cases hic
          | false =>
            have hn : notComp e' = true := h3.resolve_right (by rw [hic]; exact Bool.false_ne_true)
            exact st_new nd hi hl (.inl (hX.fn x)) (sL e e' sc X hX.toCtx T hf hic h4) (swaps_of hn)
        | _ => simp [mS] at h
  | _ => simp [mS] at h
theorem sPar (X : Cx) (sc : Scope) (hX : Ctx0 C k sc X) (T : TopX X fa C k) (i j : Nat) (a b : IE) (s' : Stmt) (h : mS C sc (.par i j a b) s' = true) : PS X s' (tSt X.K fa (evS (call C.T C.gl k) C.gl (.par i j a b))) := by
  unfold mS at h
  split at h
  · rename_i heq; cases heq
  · rename_i heq; cases heq
  · rename_i heq; cases heq
  · rename_i i j a b x px y py n p1 a' b' m p2 pos heq
    cases heq
    simp only [Bool.and_eq_true, decide_eq_true_eq] at h
    obtain ⟨h1, h2, h3, h4, h5, h6, h7, h8⟩ := h
    have nd : X.N.Nodup := by rw [hX.N]; exact hX.nd
    rw [← hX.sc] at h4
    obtain ⟨k1, k2, k3⟩ := par_of (p1 := p1) (p2 := p2) (n := n) (m := m) (by rw [hX.sc]; exact hX.kind) h5 h6 h4
    exact st_par hX.calm nd (by rw [hX.N]; exact h1) (by rw [hX.N]; exact h2) h3 k2 k3 h5 h6 (sE a a' sc X hX.toCtx T h7) (sE b b' sc X hX.toCtx T h8) k1
  all_goals first | (rename_i heq _; cases heq; done) | (rename_i heq; cases heq; done) | cases h
theorem sSeti (X : Cx) (sc : Scope) (hX : Ctx0 C k sc X) (T : TopX X fa C k) (o i e : IE) (s' : Stmt) (h : mS C sc (.seti o i e) s' = true) : PS X s' (tSt X.K fa (evS (call C.T C.gl k) C.gl (.seti o i e))) := by
  cases s' with
  | Assign ts e' pos =>
    cases ts with
    | nil => simp [mS] at h
    | cons t r =>
      cases r with
      | cons _ _ => cases t <;> simp [mS] at h
      | nil =>
        cases t with
        | Subscript o' i' p =>
          simp only [mS, Bool.and_eq_true, decide_eq_true_eq] at h
          obtain ⟨h1, h2, h3, h4, h5⟩ := h
          exact st_seti h1 h2 (sE e e' sc X hX.toCtx T h3) (sE o o' sc X hX.toCtx T h4) (sE i i' sc X hX.toCtx T h5)
        | _ => simp [mS] at h
  | _ => simp [mS] at h
theorem sAug (X : Cx) (sc : Scope) (hX : Ctx0 C k sc X) (T : TopX X fa C k) (i : Nat) (op : Operator) (e : IE) (s' : Stmt) (h : mS C sc (.aug i op e) s' = true) : PS X s' (tSt X.K fa (evS (call C.T C.gl k) C.gl (.aug i op e))) := by
  cases s' with
  | AugAssign t op' e' pos =>
    cases t with
    | Name x px =>
      simp only [mS, Bool.and_eq_true, decide_eq_true_eq] at h
      obtain ⟨h1, h2, rfl, h4⟩ := h
      exact st_aug (by rw [hX.N]; exact hX.nd) (by rw [hX.N]; exact h1) (by rw [hX.sc]; exact loc_of h2) (.inl (hX.fn x)) (sE e e' sc X hX.toCtx T h4)
    | _ => simp [mS] at h
  | _ => simp [mS] at h
mutual
theorem sS (X : Cx) (sc : Scope) (hX : Ctx0 C k sc X) (T : TopX X fa C k) : ∀ (s : IS) (s' : Stmt), mS C sc s s' = true → PS X s' (tSt X.K fa (evS (call C.T C.gl k) C.gl s))
  | .asg (.name i) e, s', h => sAsg X sc hX T i e s' h
  | .asg (.tup tgs) e, s', h => sTup X sc hX T tgs e s' h
  | .new i e, s', h => sNew X sc hX T i e s' h
  | .par i j a b, s', h => sPar X sc hX T i j a b s' h
  | .seti o i e, s', h => sSeti X sc hX T o i e s' h
  | .aug i op e, s', h => sAug X sc hX T i op e s' h
  | .ex e, s', h => by
    cases s' with
    | Expr e' pos =>
      simp only [mS, Bool.and_eq_true] at h
      exact st_ex h.1 (sE e e' sc X hX.toCtx T h.2)
    | _ => simp [mS] at h
  | .ret e, s', h => by
    cases s' with
    | Return o pos =>
      cases o with
      | none => simp [mS] at h
      | some e' => exact st_ret (sE e e' sc X hX.toCtx T (by simpa only [mS] using h))
    | _ => simp [mS] at h
  | .retN, s', h => by
    cases s' with
    | Return o pos =>
      cases o with
      | none => exact st_retN
      | some e' => simp [mS] at h
    | _ => simp [mS] at h
  | .ite c a b, s', h => by
    cases s' with
    | If c' a' b' pos =>
      simp only [mS, Bool.and_eq_true] at h
      exact st_ite (sT c c' sc X hX.toCtx T h.1) (sSs X sc hX T a a' h.2.1) (sSs X sc hX T b b' h.2.2)
    | _ => simp [mS] at h
  | .whl n c b, s', h => by
    cases s' with
    | While c' b' els pos =>
      cases els with
      | cons _ _ => simp [mS] at h
      | nil =>
        simp only [mS, Bool.and_eq_true] at h
        exact st_whl hX.xe (sT c c' sc X hX.toCtx T h.1) (sSs X sc hX T b b' h.2)
    | _ => simp [mS] at h
  | .for_ tg rg it b, s', h => by
    cases s' with
    | For tg' it' b' els pos =>
      cases els with
      | cons _ _ => simp [mS] at h
      | nil =>
        simp only [mS, Bool.and_eq_true] at h
        obtain ⟨h1, h2, h3, h4⟩ := h
        cases q : iterArgs sc rg it' with
        | none => rw [q] at h2; cases h2
        | some es' =>
          rw [q] at h2
          refine st_for hX.xe hX.calm h1 (pi_of hX.toCtx T q h2 (sEs it es' sc X hX.toCtx T h2) fun a ha hr => ?_) (sG (st := locB sc) hX.N hX.nd hX.calm (fun x hx => ⟨by rw [hX.sc]; exact loc_of hx, .inl (hX.fn x)⟩) tg tg' h3) (sSs X sc hX T b b' h4)
          exact sIt it a ha it' es' sc X hX.toCtx T h2 (by
            subst hr
            unfold iterArgs at q
            split at q
            · contradiction
            · cases q
            · cases q; rfl
            · cases q)
    | _ => simp [mS] at h
  | .pass, s', h => by
    cases s' with
    | Pass pos => exact st_pass
    | _ => simp [mS] at h
  | .brk, s', h => by
    cases s' with
    | Break pos => exact st_brk
    | _ => simp [mS] at h
  | .cont, s', h => by
    cases s' with
    | Continue pos => exact st_cont
    | _ => simp [mS] at h
  | .bad, s', h => st_bad
theorem sSs (X : Cx) (sc : Scope) (hX : Ctx0 C k sc X) (T : TopX X fa C k) : ∀ (ss : List IS) (ss' : List Stmt), mSs C sc ss ss' = true → PSs X ss' (tSt X.K fa (evSs (call C.T C.gl k) C.gl ss))
  | [], [], _ => sts_nil
  | [], _ :: _, h => by simp [mSs] at h
  | _ :: _, [], h => by simp [mSs] at h
  | s :: ss, s' :: ss', h => by
    simp only [mSs, Bool.and_eq_true] at h
    exact sts_cons (sS X sc hX T s s' h.1) (sSs X sc hX T ss ss' h.2)
end
end
end Ab

/-! Ab14: defs keep what their code says; the law. -/
namespace Ab
open PySem PySem.Spec PyProof.Rows L2
section
variable {P : Program} {w : World} {K : PySem.W.Frag} {mg : Str → Option Value} {base : Heap} {fa : Nat → Option Addr} {C : Cfg} {k : Nat}
theorem Top.n (t : Top P w K mg base fa C k) (N : List Str) : Top P w K mg base fa { C with N := N } k := ⟨t.blt, t.gcd, t.gl, t.fn⟩
theorem trunc_fin {g g' : G} {H H' : Hp} {n : Nat} {d d' : D} {S1 S' : Store} {v : V} {Q : VK} (hn : g.m.length = n) (ht : trunc n d S1 = (d', S')) (fin : Fin K fa g H S' d' Q) (e : Ext g H g' H') (r : RelS K fa g' S1 H') (p : Rep K fa g' H' d v) : Q v H' := by
  unfold trunc at ht
  split at ht
  · rename_i hc
    rw [Bool.and_eq_true] at hc
    cases ht
    refine fin (g'.cut n) v H' ⟨e.fz, e.kp, e.pers, [], ?_⟩ (r.cut hc.2) (Rep.cut (g := g') (g2 := g'.cut n) (fun _ f => f) (fun _ _ hr q => G.cut_get (g := g') hr q) p hc.1)
    obtain ⟨s, hs⟩ := e.m
    show g'.m.take n = g.m ++ []
    rw [hs, ← hn, List.take_left, List.append_nil]
  · cases ht
    exact fin g' v H' e r p
theorem fn_ok {f : Nat} {fd : FD} {qual : Str} {params : Arguments} {body : List Stmt} {scope : Scope} {a : Addr} {fdat : FuncData} (hT : C.T f = some fd) (F : FunD K fd.name qual params body scope [] [] a fdat) (S : FnScope fd.N fd.ps scope)
    (hm : mSs { C with N := fd.N } scope fd.body body = true) (top : Top P w K mg base fa C k) : FnOk P w K mg base CX0 (k + 1) a fdat fd.ps (spF K fa C (k + 1) f) := by
  refine FunD.ok F S (fun vs H Q E h => ?_) fun cdv A outer s H vs Q E hr h => ?_
  · obtain ⟨g, S0, ds, d, S', rs, rp, hc, fin⟩ := h
    rw [← rp.length]
    simp only [call, hT, runF] at hc
    split at hc
    · assumption
    · cases hc
  · obtain ⟨g, S0, ds, d, S', rs, rp, hc, fin⟩ := h
    simp only [call, hT, runF] at hc
    split at hc
    · have hX : Ctx0 { C with N := fd.N } k scope (cxOf CX0 P w K mg base fd.N qual scope a cdv A outer s H E).nox := ⟨⟨rfl, S.nd, rfl, hr, rfl, rfl⟩, S.kind, fun _ => rfl⟩
      have body := (sSs (fa := fa) (C := { C with N := fd.N }) (k := k) _ scope hX (top.n fd.N) fd.body body hm).nox
      refine ⟨_, body, ?_⟩
      split at hc
      · rename_i d0 ρ1 S1 he
        refine ⟨g, startA fd.N.length ds, S0, _, rs, ERel.start rp fd.N, he, ?_⟩
        exact fun g' v H' e r p => trunc_fin rs.len (Option.some.inj hc) fin e r p
      · rename_i ρ1 S1 he
        refine ⟨g, startA fd.N.length ds, S0, _, rs, ERel.start rp fd.N, he, ?_⟩
        exact fun g' σ' H' e r er => trunc_fin rs.len (Option.some.inj hc) fin e r .non
      · cases hc
    · cases hc
/-- a def of the table, as it stands behind the top -/
structure DefOk (K : PySem.W.Frag) (mg : Str → Option Value) (fa : Nat → Option Addr) (C : Cfg) (f : Nat) (fd : FD) : Prop where
  ex : ∃ (qual : Str) (params : Arguments) (body : List Stmt) (scope : Scope) (a : Addr) (fdat : FuncData), fa f = some a ∧ mg fd.name = some (.ref a) ∧ FunD K fd.name qual params body scope [] [] a fdat ∧ Binds K fdat fd.ps [] ∧ FnScope fd.N fd.ps scope ∧ mSs { C with N := fd.N } scope fd.body body = true
theorem all_ok (hd : ∀ f fd, C.T f = some fd → DefOk K mg fa C f fd) (blt : ∀ x : Str, x ∈ bltNames → mg x = none) (gcd : C.gcd = true → mg "gcd" = some (.builtin "math.gcd"))
    (gl : ∀ x d, C.gl x = some d → ∃ v u, mg x = some u ∧ RelV v u ∧ ∀ g H, Rep K fa g H d v) : ∀ k, Top P w K mg base fa C k
  | 0 => ⟨blt, gcd, gl, fun f fd hT => by
    obtain ⟨qual, params, body, scope, a, fdat, h1, h2, h3, h4, h5, h6⟩ := (hd f fd hT).ex
    refine ⟨a, fdat, h1, h2, h3.kp, h4, ⟨fun vs H Q E h => ?_, fun A outer s H args us vs Q E _ _ _ _ h => ?_⟩⟩
    · obtain ⟨g, S0, ds, d, S', rs, rp, hc, fin⟩ := h
      cases hc
    · obtain ⟨g, S0, ds, d, S', rs, rp, hc, fin⟩ := h
      cases hc⟩
  | k + 1 => ⟨blt, gcd, gl, fun f fd hT => by
    have top := all_ok hd blt gcd gl k
    obtain ⟨qual, params, body, scope, a, fdat, h1, h2, h3, h4, h5, h6⟩ := (hd f fd hT).ex
    exact ⟨a, fdat, h1, h2, h3.kp, h4, fn_ok hT h3 h5 h6 top⟩⟩
/-- the law's promise is met -/
theorem law_sp {fL : Nat} {ns : List Int} {S' : Store} {a : Addr} {H : Hp} (hc : call C.T C.gl k fL [.scr ns] [] = some (.bl true, S')) (h : SqL K H a (ns.map V.int)) :
    spF K fa C k fL [.ref a] H (fun v _ => v = .bl true) (fun _ _ _ => False) := by
  have hs : SqS K ⟨fun b => b = a ∧ H a = some (.lst (ns.map V.int)), fun _ => False, []⟩ H a (ns.map V.int) := by
    rcases h with (h | ⟨o, h⟩) | h
    · exact .inl ⟨h, rfl, h⟩
    · exact .inr (.inl ⟨o, h⟩)
    · exact .inr (.inr h)
  refine ⟨⟨fun b => b = a ∧ H a = some (.lst (ns.map V.int)), fun _ => False, []⟩, [], [.scr ns], .bl true, S', ⟨rfl, fun i j b hb => by simp at hb, fun b hb => ⟨by simp, fun z => z, ?_⟩, fun b hb => hb.elim, fun r o b hr => by simp at hr⟩, .one (.scr hs), hc, fun g' v H' e r p => p.bl_inv⟩
  obtain ⟨rfl, hb⟩ := hb
  rw [hb]
  exact fun z => nomatch z
end
end Ab

/-! Ab15: what the top leaves, read by one look. -/
namespace Ab
open PySem PySem.Spec PyProof.Rows L2
/-! a value of the written part that is such data -/
mutual
def repB (K : PySem.W.Frag) : D → Value → Bool
  | .non, .none => true
  | .bl b, .bool c => b == c
  | .int i, .int j _ => decide (i = j)
  | .str x, .str y _ => decide (x = y)
  | .tup ds, .ref a => (match K.lookup a with
    | some ⟨.type c, _, .seq its _, _⟩ => decide (c = "tuple") && (decide (its.size ≤ sizeLine) && repsB K ds its.toList)
    | _ => false)
  | _, _ => false
def repsB (K : PySem.W.Frag) : List D → List Value → Bool
  | [], [] => true
  | d :: ds, u :: us => repB K d u && repsB K ds us
  | _, _ => false
end
section
variable {K : PySem.W.Frag} {fa : Nat → Option Addr}
mutual
theorem repB_ok : ∀ {d : D} {u : Value}, repB K d u = true → ∃ v, RelV v u ∧ ∀ g H, Rep K fa g H d v
  | .non, u, h => by
    cases u with
    | none => exact ⟨.non, rfl, fun _ _ => .non⟩
    | _ => simp [repB] at h
  | .bl b, u, h => by
    cases u with
    | bool c =>
      have e : b = c := by simpa [repB] using h
      subst e
      exact ⟨.bl b, rfl, fun _ _ => .bl b⟩
    | _ => simp [repB] at h
  | .int i, u, h => by
    cases u with
    | int j t =>
      have e : i = j := by simpa [repB] using h
      subst e
      exact ⟨.int i, ⟨t, rfl⟩, fun _ _ => .int i⟩
    | _ => simp [repB] at h
  | .str i, u, h => by
    cases u with
    | str j t =>
      have e : i = j := by simpa [repB] using h
      subst e
      exact ⟨.str i, ⟨t, rfl⟩, fun _ _ => .str i⟩
    | _ => simp [repB] at h
  | .tup ds, u, h => by
    cases u with
    | ref a =>
      simp only [repB] at h
      cases q : K.lookup a with
      | none => rw [q] at h; cases h
      | some o =>
        obtain ⟨oc, od, dt, osl⟩ := o
        rw [q] at h
        cases oc with
        | type c =>
          cases dt with
          | seq its n =>
            simp only [Bool.and_eq_true, decide_eq_true_eq] at h
            obtain ⟨rfl, hz, h3⟩ := h
            obtain ⟨vs, h4, h5⟩ := repsB_ok h3
            exact ⟨.ref a, rfl, fun g H => .tup (.inr ⟨_, its, n, q, rfl, rfl, hz, h4⟩) (h5 g H)⟩
          | _ => simp at h
        | _ => simp at h
    | _ => simp [repB] at h
  | .lst _, u, h => by simp [repB] at h
  | .scr _, u, h => by simp [repB] at h
  | .ref _, u, h => by simp [repB] at h
  | .fn _, u, h => by simp [repB] at h
theorem repsB_ok : ∀ {ds : List D} {us : List Value}, repsB K ds us = true → ∃ vs, Vals vs us ∧ ∀ g H, Reps K fa g H ds vs
  | [], [], _ => ⟨[], .nil, fun _ _ => .nil⟩
  | [], _ :: _, h => by simp [repsB] at h
  | _ :: _, [], h => by simp [repsB] at h
  | d :: ds, u :: us, h => by
    simp only [repsB, Bool.and_eq_true] at h
    obtain ⟨v, h1, h2⟩ := repB_ok h.1
    obtain ⟨vs, h3, h4⟩ := repsB_ok h.2
    exact ⟨v :: vs, .cons h1 h3, fun g H => .cons (h2 g H) (h4 g H)⟩
end
end
/-- a def of the table: its number, its code, where it stands in the top -/
structure TD where
  id : Nat
  fd : FD
  st : Stmt
def TD.dd (t : TD) : He.DefD := ⟨(t.fd.name, none), t.fd.name, t.fd.name, defArgs t.st, defBody t.st, defScope t.st, [], []⟩
def glB' (K : PySem.W.Frag) (p : Str × D) : Bool := match PySem.W.nsIn K mainGlobals p.1 with
  | some (some u) => repB K p.2 u
  | _ => false
/-- all that is looked at beside the defs -/
def exB (gcd : Bool) (gls : List (Str × D)) (ts : List TD) (K : PySem.W.Frag) : Bool :=
  (bltNames.all fun x => (He.Fa.free x).ok K) && ((!gcd || (match PySem.W.nsIn K mainGlobals "gcd" with | some (some (.builtin b)) => decide (b = "math.gcd") | _ => false)) && (gls.all (glB' K) && ts.all fun t => (He.Fa.glo t.fd.name).ok K))
abbrev AlX : Type := Bool × List He.FnW
def obsX (gcd : Bool) (gls : List (Str × D)) (ts : List TD) (K : PySem.W.Frag) : AlX := (exB gcd gls ts K && ts.all fun t => t.dd.ok K, ts.map fun t => He.fnW K t.dd.at_)
def valX (ts : List TD) : AlX := (true, ts.map fun t => t.dd.val)
def SaysX (gcd : Bool) (gls : List (Str × D)) (ts : List TD) (K : PySem.W.Frag) : Prop := obsX gcd gls ts K = valX ts
def obsXG (n : Nat) (gcd : Bool) (gls : List (Str × D)) (ts : List TD) (g : Addr → Option Obj) : AlX := obsX gcd gls ts (He.frG g (He.asD g n))
def hookX (n : Nat) (gcd : Bool) (gls : List (Str × D)) (ts : List TD) : PySem.W.Hook where
  α := AlX
  obs := fun s => obsXG n gcd gls ts s.heap.get?
  val := fun _ => valX ts
  says := fun _ h => ∃ K : PySem.W.Frag, K.In h ∧ SaysX gcd gls ts K
  of := fun _ _ e => ⟨_, He.frG_in, e⟩
  keeps := fun _ _ _ ⟨K, hK, c⟩ k => ⟨K, PySem.W.Frag.In.keeps hK k, c⟩
theorem obsX_eq {n : Nat} {gcd : Bool} {gls : List (Str × D)} {ts : List TD} {g : Addr → Option Obj} {s : Shared} (h : ∀ a, g a = s.heap.get? a) : obsXG n gcd gls ts g = (hookX n gcd gls ts).obs s := by
  have e : g = s.heap.get? := funext h
  rw [e] <;> rfl

def findT (ts : List TD) (f : Nat) : Option TD := ts.find? fun t => t.id == f
def tab (ts : List TD) (f : Nat) : Option FD := (findT ts f).map (·.fd)
def glT (gls : List (Str × D)) (x : Str) : Option D := (gls.find? fun p => decide (p.1 = x)).map (·.2)
def cfg (gcd : Bool) (gls : List (Str × D)) (ts : List TD) : Cfg := ⟨[], tab ts, glT gls, gcd⟩
/-- what is checked of a def's code, text by text -/
def TD.good (gcd : Bool) (gls : List (Str × D)) (ts : List TD) (t : TD) : Bool := mSs { cfg gcd gls ts with N := t.fd.N } (defScope t.st) t.fd.body (defBody t.st)
/-- how its arguments bind -/
def TD.bnd (t : TD) : Prop := ∀ (kV doc pm : Value) (an : Option Addr) (cdv ct : Value) (us : List Value), us.length = t.fd.ps.length → bindArgs (PySem.W.fnOf t.fd.name t.fd.name (defArgs t.st) (defBody t.st) (defScope t.st) .none kV doc pm an cdv ct) ⟨us, []⟩ = pure (t.fd.ps.zip us)
structure TD.Ok (gcd : Bool) (gls : List (Str × D)) (ts : List TD) (t : TD) : Prop where
  sc : FnScope t.fd.N t.fd.ps (defScope t.st)
  good : t.good gcd gls ts = true
  bnd : t.bnd

section
variable {P : Program} {w : World} {K : PySem.W.Frag} {mg : Str → Option Value} {h base : Heap} {gcd : Bool} {gls : List (Str × D)} {ts : List TD}
theorem top_of (X : K.In h) (G : h.Ns mainGlobals mg) (c : SaysX gcd gls ts K) (ok : ∀ t ∈ ts, t.Ok gcd gls ts) (k : Nat) :
    Top P w K mg base (fun f => (findT ts f).map fun t => He.ga K t.fd.name) (cfg gcd gls ts) k := by
  have c1 := He.ba (show (exB gcd gls ts K && ts.all fun t => t.dd.ok K) = true from congrArg (fun z : AlX => z.1) c)
  have c2 : ts.map (fun t => He.fnW K t.dd.at_) = ts.map fun t => t.dd.val := congrArg (fun z : AlX => z.2) c
  obtain ⟨e1, e2⟩ := He.ba c1.1
  obtain ⟨e3, e4⟩ := He.ba e2
  obtain ⟨e5, e6⟩ := He.ba e4
  refine all_ok (fun f fd hT => ?_) (fun x hx => He.free_ok X G (List.all_eq_true.mp e1 x hx)) (fun hg => ?_) (fun x d hd => ?_) k
  · obtain ⟨t, ht, rfl⟩ := Option.map_eq_some_iff.mp (show (findT ts f).map (·.fd) = some fd from hT)
    have hm : t ∈ ts := List.mem_of_find?_eq_some ht
    have hf : He.fnW K t.dd.at_ = t.dd.val := by
      obtain ⟨i, hi⟩ := List.getElem?_of_mem hm
      have q : (ts.map fun t => He.fnW K t.dd.at_)[i]? = (ts.map fun t => t.dd.val)[i]? := by rw [c2]
      rw [List.getElem?_map, List.getElem?_map, hi] at q
      exact Option.some.inj q
    obtain ⟨fdat, F⟩ := He.DefD.funD hf (List.all_eq_true.mp c1.2 t hm)
    have o := ok t hm
    have F' : FunD K t.fd.name t.fd.name (defArgs t.st) (defBody t.st) (defScope t.st) [] [] (He.ga K t.fd.name) fdat := F
    exact ⟨_, _, _, _, He.ga K t.fd.name, fdat, by rw [ht]; rfl, He.glo_ok X G (List.all_eq_true.mp e6 t hm), F', F'.bindsN o.bnd, o.sc, o.good⟩
  · have hg : gcd = true := hg
    subst hg
    have e3 : (match PySem.W.nsIn K mainGlobals "gcd" with | some (some (.builtin b)) => decide (b = "math.gcd") | _ => false) = true := e3
    cases q : PySem.W.nsIn K mainGlobals "gcd" with
    | none => rw [q] at e3; cases e3
    | some o =>
      rw [q] at e3
      cases o with
      | none => cases e3
      | some v =>
        cases v with
        | builtin b =>
          have eb : b = "math.gcd" := of_decide_eq_true e3
          subst eb
          exact PySem.W.mg_of X G q
        | _ => cases e3
  · obtain ⟨p, hp, rfl⟩ := Option.map_eq_some_iff.mp (show (gls.find? fun p => decide (p.1 = x)).map (·.2) = some d from hd)
    have hm := List.mem_of_find?_eq_some hp
    have hx : p.1 = x := by
      have := List.find?_some hp
      exact of_decide_eq_true this
    have hb := List.all_eq_true.mp e5 p hm
    unfold glB' at hb
    cases q : PySem.W.nsIn K mainGlobals p.1 with
    | none => rw [q] at hb; cases hb
    | some o =>
      rw [q] at hb
      cases o with
      | none => cases hb
      | some u =>
        obtain ⟨v, h1, h2⟩ := repB_ok hb
        exact ⟨v, u, by rw [← hx]; exact PySem.W.mg_of X G q, h1, h2⟩
/-- the law's def over this table -/
theorem law_of (X : K.In h) (G : h.Ns mainGlobals mg) (c : SaysX gcd gls ts K) (ok : ∀ t ∈ ts, t.Ok gcd gls ts) (k : Nat) {f : Nat} {t : TD} (ht : findT ts f = some t) (hps : t.fd.ps = [("script" : Str)]) {a : Addr} (ha : mg t.fd.name = some (.ref a))
    (math : ∀ ns : List Int, ns.length ≤ 63 → ∃ S', call (tab ts) (glT gls) (k + 1) f [.scr ns] [] = some (.bl true, S')) :
    ∃ (fd : FuncData) (sp : Sp), (∀ (s : Shared) (u : Value), BindsTo s fd ⟨[u], []⟩ [("script", u)]) ∧
      (∀ (H : Hp) (b : Addr) (ns : List Int), ns.length ≤ 63 → Only H → SqL K H b (ns.map V.int) → sp [.ref b] H (fun v _ => v = .bl true) fun _ _ _ => False) ∧
      ∀ base : Heap, K.In base → base.Ns mainGlobals mg → FnOk P w K mg base CX0 (k + 1) a fd ["script"] sp := by
  have hm : t ∈ ts := List.mem_of_find?_eq_some ht
  have hT : (cfg gcd gls ts).T f = some t.fd := by show (findT ts f).map (·.fd) = _; rw [ht]; rfl
  have c1 := He.ba (show (exB gcd gls ts K && ts.all fun t => t.dd.ok K) = true from congrArg (fun z : AlX => z.1) c)
  have c2 : ts.map (fun t => He.fnW K t.dd.at_) = ts.map fun t => t.dd.val := congrArg (fun z : AlX => z.2) c
  have hf : He.fnW K t.dd.at_ = t.dd.val := by
    obtain ⟨i, hi⟩ := List.getElem?_of_mem hm
    have q : (ts.map fun t => He.fnW K t.dd.at_)[i]? = (ts.map fun t => t.dd.val)[i]? := by rw [c2]
    rw [List.getElem?_map, List.getElem?_map, hi] at q
    exact Option.some.inj q
  obtain ⟨fdat, F⟩ := He.DefD.funD hf (List.all_eq_true.mp c1.2 t hm)
  have o := ok t hm
  have F' : FunD K t.fd.name t.fd.name (defArgs t.st) (defBody t.st) (defScope t.st) [] [] (He.ga K t.fd.name) fdat := F
  refine ⟨fdat, spF K (fun f => (findT ts f).map fun t => He.ga K t.fd.name) (cfg gcd gls ts) (k + 1) f, fun s u => ?_, fun H b ns hl _ hs => ?_, fun base _ _ => ?_⟩
  · have := F'.bindsA (ps := t.fd.ps) o.bnd s [u] (by rw [hps]; rfl)
    rw [hps] at this
    exact this
  · obtain ⟨S', hc⟩ := math ns hl
    exact law_sp (C := cfg gcd gls ts) hc hs
  · have e6 := (He.ba (He.ba (He.ba c1.1).2).2).2
    have h2 := He.glo_ok X G (List.all_eq_true.mp e6 t hm)
    have e1 : a = He.ga K t.fd.name := by
      rw [ha] at h2
      cases h2
      rfl
    rw [e1]
    have h5 := fn_ok hT F' o.sc o.good (top_of (P := P) (w := w) (base := base) X G c ok k)
    rw [hps] at h5
    exact h5
end
end Ab

/-! Ab16: one step each, for simp; walks over lists. -/
namespace Ab
open PySem
/-- so that simp takes it as a step, not as a look -/
theorem nd {α : Sort _} {a b : α} (h : a = b) : a = b := h
section
variable {cf : CallF} {gl : Str → Option D} {ρ : AEnv} {S : Store}
@[simp] theorem e_lit {d} : ev cf gl (.lit d) ρ S = some (d, S) := nd rfl
@[simp] theorem e_var {i} : ev cf gl (.var i) ρ S = (match ρ[i]? with | some (some d) => some (d, S) | _ => none) := nd rfl
@[simp] theorem e_glob {x} : ev cf gl (.glob x) ρ S = (gl x).map fun d => (d, S) := nd rfl
@[simp] theorem e_tup {es} : ev cf gl (.tup es) ρ S = (match evs cf gl es ρ S with | some (ds, S') => if ds.length ≤ sizeLine then some (.tup ds, S') else none | none => none) := nd rfl
@[simp] theorem e_lst {es} : ev cf gl (.lst es) ρ S = (match evs cf gl es ρ S with | some (ds, S') => if ds.length ≤ sizeLine then some (.lst ds, S') else none | none => none) := nd rfl
@[simp] theorem e_bin {op a b} : ev cf gl (.bin op a b) ρ S = (match ev cf gl a ρ S with | some (x, S1) => (match ev cf gl b ρ S1 with | some (y, S2) => (dBin S2 op x y).map fun z => (z, S2) | none => none) | none => none) := nd rfl
@[simp] theorem e_un {op a} : ev cf gl (.un op a) ρ S = (match ev cf gl a ρ S with | some (x, S1) => (dUn op x).map fun z => (z, S1) | none => none) := nd rfl
@[simp] theorem e_bop {op es} : ev cf gl (.bop op es) ρ S = evB cf gl op es ρ S := nd rfl
@[simp] theorem e_cmp {op a b} : ev cf gl (.cmp op a b) ρ S = (match ev cf gl a ρ S with | some (x, S1) => (match ev cf gl b ρ S1 with | some (y, S2) => (dCmp S2 op x y).map fun z => (.bl z, S2) | none => none) | none => none) := nd rfl
@[simp] theorem e_ite {c a b} : ev cf gl (.ite c a b) ρ S = (match evT cf gl c ρ S with | some (true, S1) => ev cf gl a ρ S1 | some (false, S1) => ev cf gl b ρ S1 | none => none) := nd rfl
@[simp] theorem e_ix {a i} : ev cf gl (.ix a i) ρ S = (match ev cf gl a ρ S with | some (x, S1) => (match ev cf gl i ρ S1 with | some (y, S2) => (dIx S2 x y).map fun z => (z, S2) | none => none) | none => none) := nd rfl
@[simp] theorem e_slc {a lo hi} : ev cf gl (.slc a lo hi) ρ S = (match ev cf gl a ρ S with | some (x, S1) => (match evO cf gl lo ρ S1 with | some (l, S2) => (match evO cf gl hi ρ S2 with | some (h, S3) => (dSl S3 x l h).map fun z => (z, S3) | none => none) | none => none) | none => none) := nd rfl
@[simp] theorem e_call {f es} : ev cf gl (.call f es) ρ S = (match evs cf gl es ρ S with | some (ds, S') => cf f ds S' | none => none) := nd rfl
@[simp] theorem e_bi {b es} : ev cf gl (.bi b es) ρ S = (match evs cf gl es ρ S with | some (ds, S') => (dBi S' b ds).map fun z => (z, S') | none => none) := nd rfl
@[simp] theorem e_isi {t a} : ev cf gl (.isi t a) ρ S = (match ev cf gl a ρ S with | some (x, S1) => (dIsi S1 t x).map fun z => (.bl z, S1) | none => none) := nd rfl
@[simp] theorem e_meth {m o es} : ev cf gl (.meth m o es) ρ S = (match ev cf gl o ρ S with | some (x, S1) => (if recvOk m x S1 then (match evs cf gl es ρ S1 with | some (ds, S2) => dMe m x ds S2 | none => none) else none) | none => none) := nd rfl
@[simp] theorem e_list1 {a} : ev cf gl (.list1 a) ρ S = (match ev cf gl a ρ S with | some (x, S1) => (items S1 x).map fun ds => (.lst ds, S1) | none => none) := nd rfl
/-- the block of a comprehension -/
def lcBk (cf : CallF) (gl : Str → Option D) (tg : Tg) (ifs : List IE) (elt : IE) (ρ : AEnv) (d : D) (S : Store) : Option (Option D × Store) := match Tg.bind tg d ρ with
  | some ρ' => (match evTs cf gl ifs ρ' S with
    | some (true, S2) => (ev cf gl elt ρ' S2).map fun p => (some p.1, p.2)
    | some (false, S2) => some (none, S2)
    | none => none)
  | none => none
@[simp] theorem e_lc {own tg rg it ifs elt} : ev cf gl (.lc own tg rg it ifs elt) ρ S = (match evs cf gl it ρ S with | some (ds, S1) => (match walk rg ds S1 with | some xs => (evLc (stays rg ds xs) (lcBk cf gl tg ifs elt (wipeA ρ own)) xs [] S1).map fun p => (.lst p.1, p.2) | none => none) | none => none) := nd rfl
@[simp] theorem es_nil : evs cf gl [] ρ S = some ([], S) := nd rfl
@[simp] theorem es_cons {e es} : evs cf gl (e :: es) ρ S = (match ev cf gl e ρ S with | some (d, S1) => (match evs cf gl es ρ S1 with | some (ds, S2) => some (d :: ds, S2) | none => none) | none => none) := nd rfl
@[simp] theorem eB_cons {op e es} : evB cf gl op (e :: es) ρ S = (match ev cf gl e ρ S with | some (d, S1) => (if es.isEmpty then some (d, S1) else match d with | .bl b => (if b = isAnd op then evB cf gl op es ρ S1 else some (.bl b, S1)) | _ => none) | none => none) := nd rfl
@[simp] theorem eT_not {a} : evT cf gl (.un .Not a) ρ S = (match evT cf gl a ρ S with | some (b, S1) => some (!b, S1) | none => none) := nd rfl
@[simp] theorem eT_bop {op es} : evT cf gl (.bop op es) ρ S = evBT cf gl op es ρ S := nd rfl
@[simp] theorem eT_var {i} : evT cf gl (.var i) ρ S = (match ρ[i]? with | some (some d) => (truth S d).map fun b => (b, S) | _ => none) := nd rfl
@[simp] theorem eT_cmp {op a b} : evT cf gl (.cmp op a b) ρ S = (match ev cf gl a ρ S with | some (x, S1) => (match ev cf gl b ρ S1 with | some (y, S2) => (dCmp S2 op x y).map fun z => (z, S2) | none => none) | none => none) := nd rfl
@[simp] theorem eT_call {f es} : evT cf gl (.call f es) ρ S = (match evs cf gl es ρ S with | some (ds, S') => (match cf f ds S' with | some (.bl b, S2) => some (b, S2) | _ => none) | none => none) := nd rfl
@[simp] theorem eT_isi {t a} : evT cf gl (.isi t a) ρ S = (match ev cf gl a ρ S with | some (x, S1) => (dIsi S1 t x).map fun z => (z, S1) | none => none) := nd rfl
@[simp] theorem eBT_nil {op} : evBT cf gl op [] ρ S = some (isAnd op, S) := nd rfl
@[simp] theorem eBT_cons {op e es} : evBT cf gl op (e :: es) ρ S = (match evT cf gl e ρ S with | some (b, S1) => (if b = isAnd op then evBT cf gl op es ρ S1 else some (b, S1)) | none => none) := nd rfl
@[simp] theorem eTs_nil : evTs cf gl [] ρ S = some (true, S) := nd rfl
@[simp] theorem eTs_cons {e es} : evTs cf gl (e :: es) ρ S = (match evT cf gl e ρ S with | some (true, S1) => evTs cf gl es ρ S1 | some (false, S1) => some (false, S1) | none => none) := nd rfl
@[simp] theorem eO_none : evO cf gl none ρ S = some (none, S) := nd rfl
@[simp] theorem eO_some {e} : evO cf gl (some e) ρ S = (match ev cf gl e ρ S with | some (.int i, S1) => some (some i, S1) | _ => none) := nd rfl
@[simp] theorem s_asg {tg e} : evS cf gl (.asg tg e) ρ S = (match ev cf gl e ρ S with | some (d, S1) => (Tg.bind tg d ρ).map fun ρ' => (.next, ρ', S1) | none => none) := nd rfl
@[simp] theorem s_new {i e} : evS cf gl (.new i e) ρ S = (match ev cf gl e ρ S with | some (.lst ds, S1) => (if i < ρ.length then some (.next, ρ.set i (some (.ref S1.length)), S1 ++ [.lst ds]) else none) | _ => none) := nd rfl
@[simp] theorem s_par {i j a b} : evS cf gl (.par i j a b) ρ S = (match ev cf gl a ρ S with | some (x, S1) => (match ev cf gl b ρ S1 with | some (y, S2) => (if i < ρ.length ∧ j < ρ.length then some (.next, (ρ.set i (some x)).set j (some y), S2) else none) | none => none) | none => none) := nd rfl
@[simp] theorem s_seti {o i e} : evS cf gl (.seti o i e) ρ S = (match ev cf gl e ρ S with
    | some (d, S1) => (match ev cf gl o ρ S1 with
      | some (.ref r, S2) => (match ev cf gl i ρ S2 with
        | some (.int k, S3) => (match S3[r]? with
          | some (.lst xs) => (match L2.ixN xs.length k with
            | some j => some (.next, ρ, S3.set r (.lst (xs.set j d)))
            | none => none)
          | _ => none)
        | _ => none)
      | _ => none)
    | none => none) := nd rfl
@[simp] theorem s_ex {e} : evS cf gl (.ex e) ρ S = (match ev cf gl e ρ S with | some (_, S1) => some (.next, ρ, S1) | none => none) := nd rfl
@[simp] theorem s_ret {e} : evS cf gl (.ret e) ρ S = (match ev cf gl e ρ S with | some (d, S1) => some (.ret d, ρ, S1) | none => none) := nd rfl
@[simp] theorem s_ite {c a b} : evS cf gl (.ite c a b) ρ S = (match evT cf gl c ρ S with | some (true, S1) => evSs cf gl a ρ S1 | some (false, S1) => evSs cf gl b ρ S1 | none => none) := nd rfl
@[simp] theorem s_whl {n c b} : evS cf gl (.whl n c b) ρ S = evWh (evT cf gl c) (evSs cf gl b) n ρ S := nd rfl
/-- the block of a for -/
def forF (cf : CallF) (gl : Str → Option D) (tg : Tg) (b : List IS) (d : D) (ρ : AEnv) (S : Store) : RS := match Tg.bind tg d ρ with
  | some ρ' => evSs cf gl b ρ' S
  | none => none
@[simp] theorem s_for {tg rg it b} : evS cf gl (.for_ tg rg it b) ρ S = (match evs cf gl it ρ S with | some (ds, S1) => (match walk rg ds S1 with | some xs => evFor (stays rg ds xs) (forF cf gl tg b) xs ρ S1 | none => none) | none => none) := nd rfl
@[simp] theorem ss_nil : evSs cf gl [] ρ S = some (.next, ρ, S) := nd rfl
@[simp] theorem ss_cons {s ss} : evSs cf gl (s :: ss) ρ S = (match evS cf gl s ρ S with | some (.next, ρ', S') => evSs cf gl ss ρ' S' | r => r) := nd rfl
theorem call_of {T : Nat → Option FD} {k f : Nat} {fd : FD} {ds : List D} (h : T f = some fd) (hl : ds.length = fd.ps.length) : call T gl (k + 1) f ds S = (match evSs (call T gl k) gl fd.body (startA fd.N.length ds) S with
    | some (.ret d, _, S') => some (trunc S.length d S')
    | some (.next, _, S') => some (trunc S.length .non S')
    | _ => none) := by
  show (match T f with | some fd => runF (call T gl k) gl fd ds S | none => none) = _
  rw [h]
  show runF (call T gl k) gl fd ds S = _
  unfold runF
  rw [if_pos hl] <;> rfl
@[simp] theorem trunc_len {d : D} : trunc S.length d S = (d, S) := by
  unfold trunc
  rw [List.take_length]
  split <;> rfl
end
/-! ### walks -/
theorem evLc_map {chk : Store → Bool} {f : D → Store → Option (Option D × Store)} {S : Store} (hc : chk S = true) : ∀ {ds : List D} {ys : List D} {acc : List D}, ys.length = ds.length → acc.length + ds.length ≤ sizeLine →
    (∀ i (hi : i < ds.length) (hj : i < ys.length), f ds[i] S = some (some ys[i], S)) → evLc chk f ds acc S = some (acc ++ ys, S)
  | [], [], acc, _, _, _ => by rw [evLc, if_pos hc, List.append_nil]
  | d :: ds, y :: ys, acc, hl, hz, h => by
    rw [evLc, if_pos hc]
    have h0 := h 0 (Nat.zero_lt_succ _) (Nat.zero_lt_succ _)
    simp only [List.getElem_cons_zero] at h0
    rw [h0]
    simp only [List.length_cons] at hz
    simp only
    rw [if_pos (by omega), evLc_map hc (by simpa using hl) (by rw [List.length_append]; simp only [List.length_cons, List.length_nil]; omega) (fun i hi hj => h (i + 1) (by simpa using hi) (by simpa using hj)), List.append_assoc]
    rfl
  | [], _ :: _, _, h, _, _ => by cases h
  | _ :: _, [], _, h, _, _ => by cases h
/-- a for whose block goes on, a state kept turn by turn -/
theorem evFor_inv {chk : Store → Bool} {body : D → AEnv → Store → RS} (I : Nat → AEnv → Store → Prop) : ∀ {ds : List D} {n : Nat} {ρ : AEnv} {S : Store}, (∀ n ρ S, I n ρ S → chk S = true) → I n ρ S →
    (∀ i (hi : i < ds.length) ρ S, I (n + i) ρ S → ∃ ρ' S', body ds[i] ρ S = some (.next, ρ', S') ∧ I (n + i + 1) ρ' S') → ∃ ρ' S', evFor chk body ds ρ S = some (.next, ρ', S') ∧ I (n + ds.length) ρ' S'
  | [], n, ρ, S, hc, h, _ => ⟨ρ, S, by rw [evFor, if_pos (hc _ _ _ h)], h⟩
  | d :: ds, n, ρ, S, hc, h, hb => by
    obtain ⟨ρ1, S1, h1, h2⟩ := hb 0 (Nat.zero_lt_succ _) ρ S h
    simp only [List.getElem_cons_zero] at h1
    obtain ⟨ρ2, S2, h3, h4⟩ := evFor_inv (ds := ds) (n := n + 1) I hc h2 (fun i hi ρ S hI => by
      have := hb (i + 1) (by simpa using hi) ρ S (by rw [show n + (i + 1) = n + 1 + i by omega]; exact hI)
      rw [show n + 1 + i + 1 = n + (i + 1) + 1 by omega]
      simpa using this)
    refine ⟨ρ2, S2, ?_, ?_⟩
    · rw [evFor, if_pos (hc _ _ _ h), h1]
      exact h3
    · rw [List.length_cons, show n + (ds.length + 1) = n + 1 + ds.length by omega]
      exact h4
end Ab

/-! the code of everynumber_k81_fractions_rows_and_colum, printed by gen.py from the linked text -/
namespace Code
open PySem Ab
abbrev prog : Program := PySem.Challenge.pw_everynumber_k81_fractions_rows_and_colum
def top (i : Nat) : Stmt := prog.main.body.getD i (.Pass ⟨0, 0, 0, 0⟩)
def gls : List (Str × D) := [("NONE", (.tup [(.int 0), (.int 1)])), ("ONE", (.tup [(.int 1), (.int 1)]))]
def b_fraction_of : List IS := [.asg (.name 2) (.bi .gcd [(.var 0), (.var 1)]),
    .ite (.cmp .Lt (.var 1) (.lit (.int 0))) [.asg (.name 2) (.un .USub (.var 2))] [],
    .ret (.tup [(.bin .FloorDiv (.var 0) (.var 2)), (.bin .FloorDiv (.var 1) (.var 2))])]
def f_fraction_of : FD := ⟨"fraction_of", ["n", "d"], ["n", "d", "by"], b_fraction_of⟩
def t_fraction_of : TD := ⟨0, f_fraction_of, top 4⟩
def b_plus_fraction : List IS := [.ite (.bop .And [(.cmp .Eq (.ix (.var 0) (.lit (.int 1))) (.lit (.int 1))), (.cmp .Eq (.ix (.var 1) (.lit (.int 1))) (.lit (.int 1)))]) [.ret (.tup [(.bin .Add (.ix (.var 0) (.lit (.int 0))) (.ix (.var 1) (.lit (.int 0)))), (.lit (.int 1))])] [],
    .ret (.call 0 [(.bin .Add (.bin .Mult (.ix (.var 0) (.lit (.int 0))) (.ix (.var 1) (.lit (.int 1)))) (.bin .Mult (.ix (.var 1) (.lit (.int 0))) (.ix (.var 0) (.lit (.int 1))))), (.bin .Mult (.ix (.var 0) (.lit (.int 1))) (.ix (.var 1) (.lit (.int 1))))])]
def f_plus_fraction : FD := ⟨"plus_fraction", ["one", "other"], ["one", "other"], b_plus_fraction⟩
def t_plus_fraction : TD := ⟨1, f_plus_fraction, top 5⟩
def b_times_fraction : List IS := [.ite (.bop .And [(.cmp .Eq (.ix (.var 0) (.lit (.int 1))) (.lit (.int 1))), (.cmp .Eq (.ix (.var 1) (.lit (.int 1))) (.lit (.int 1)))]) [.ret (.tup [(.bin .Mult (.ix (.var 0) (.lit (.int 0))) (.ix (.var 1) (.lit (.int 0)))), (.lit (.int 1))])] [],
    .ret (.call 0 [(.bin .Mult (.ix (.var 0) (.lit (.int 0))) (.ix (.var 1) (.lit (.int 0)))), (.bin .Mult (.ix (.var 0) (.lit (.int 1))) (.ix (.var 1) (.lit (.int 1))))])]
def f_times_fraction : FD := ⟨"times_fraction", ["one", "other"], ["one", "other"], b_times_fraction⟩
def t_times_fraction : TD := ⟨2, f_times_fraction, top 6⟩
def b_turned_fraction : List IS := [.ret (.tup [(.un .USub (.ix (.var 0) (.lit (.int 0)))), (.ix (.var 0) (.lit (.int 1)))])]
def f_turned_fraction : FD := ⟨"turned_fraction", ["one"], ["one"], b_turned_fraction⟩
def t_turned_fraction : TD := ⟨3, f_turned_fraction, top 7⟩
def b_less_fraction : List IS := [.ret (.call 1 [(.var 0), (.call 3 [(.var 1)])])]
def f_less_fraction : FD := ⟨"less_fraction", ["one", "other"], ["one", "other"], b_less_fraction⟩
def t_less_fraction : TD := ⟨4, f_less_fraction, top 8⟩
def b_over_fraction : List IS := [.ret (.call 0 [(.bin .Mult (.ix (.var 0) (.lit (.int 0))) (.ix (.var 1) (.lit (.int 1)))), (.bin .Mult (.ix (.var 0) (.lit (.int 1))) (.ix (.var 1) (.lit (.int 0))))])]
def f_over_fraction : FD := ⟨"over_fraction", ["one", "other"], ["one", "other"], b_over_fraction⟩
def t_over_fraction : TD := ⟨5, f_over_fraction, top 9⟩
def b_is_whole_fraction : List IS := [.ret (.cmp .Eq (.ix (.var 0) (.lit (.int 1))) (.lit (.int 1)))]
def f_is_whole_fraction : FD := ⟨"is_whole_fraction", ["one"], ["one"], b_is_whole_fraction⟩
def t_is_whole_fraction : TD := ⟨6, f_is_whole_fraction, top 10⟩
def b_sum_of_fractions : List IS := [.asg (.name 1) (.glob "NONE"),
    .for_ (.name 2) false [(.var 0)] [.ite (.cmp .NotEq (.ix (.var 2) (.lit (.int 0))) (.lit (.int 0))) [.asg (.name 1) (.call 1 [(.var 1), (.var 2)])] []],
    .ret (.var 1)]
def f_sum_of_fractions : FD := ⟨"sum_of_fractions", ["fractions"], ["fractions", "found", "one"], b_sum_of_fractions⟩
def t_sum_of_fractions : TD := ⟨7, f_sum_of_fractions, top 12⟩
def b_times_row : List IS := [.ret (.bi .tuple [(.lc [2] (.name 2) false [(.var 1)] [] (.call 2 [(.var 0), (.var 2)]))])]
def f_times_row : FD := ⟨"times_row", ["a", "row"], ["a", "row", "one"], b_times_row⟩
def t_times_row : TD := ⟨8, f_times_row, top 13⟩
def b_rows_plus : List IS := [.ret (.bi .tuple [(.lc [2] (.name 2) true [(.bi .len [(.var 0)])] [] (.call 1 [(.ix (.var 0) (.var 2)), (.ix (.var 1) (.var 2))]))])]
def f_rows_plus : FD := ⟨"rows_plus", ["one", "other"], ["one", "other", "k"], b_rows_plus⟩
def t_rows_plus : TD := ⟨9, f_rows_plus, top 14⟩
def b_with_times_row : List IS := [.ret (.lc [3] (.name 3) true [(.bi .len [(.var 2)])] [] (.ite (.cmp .Eq (.ix (.ix (.var 2) (.var 3)) (.lit (.int 0))) (.lit (.int 0))) (.ix (.var 0) (.var 3)) (.call 1 [(.ix (.var 0) (.var 3)), (.call 2 [(.var 1), (.ix (.var 2) (.var 3))])])))]
def f_with_times_row : FD := ⟨"with_times_row", ["found", "a", "row"], ["found", "a", "row", "k"], b_with_times_row⟩
def t_with_times_row : TD := ⟨10, f_with_times_row, top 15⟩
def b_row_times_square : List IS := [.asg (.name 2) (.bin .Mult (.lst [(.glob "NONE")]) (.bi .len [(.ix (.var 1) (.lit (.int 0)))])),
    .for_ (.name 3) true [(.bi .len [(.var 0)])] [.ite (.cmp .NotEq (.ix (.ix (.var 0) (.var 3)) (.lit (.int 0))) (.lit (.int 0))) [.asg (.name 2) (.call 10 [(.var 2), (.ix (.var 0) (.var 3)), (.ix (.var 1) (.var 3))])] []],
    .ret (.bi .tuple [(.var 2)])]
def f_row_times_square : FD := ⟨"row_times_square", ["row", "square"], ["row", "square", "found", "k"], b_row_times_square⟩
def t_row_times_square : TD := ⟨11, f_row_times_square, top 16⟩
def b_row_times_column : List IS := [.asg (.name 2) (.lc [3] (.name 3) true [(.bi .len [(.var 0)])] [(.bop .And [(.cmp .NotEq (.ix (.ix (.var 0) (.var 3)) (.lit (.int 0))) (.lit (.int 0))), (.cmp .NotEq (.ix (.ix (.var 1) (.var 3)) (.lit (.int 0))) (.lit (.int 0)))])] (.call 2 [(.ix (.var 0) (.var 3)), (.ix (.var 1) (.var 3))])),
    .ret (.call 7 [(.var 2)])]
def f_row_times_column : FD := ⟨"row_times_column", ["row", "column"], ["row", "column", "products", "k"], b_row_times_column⟩
def t_row_times_column : TD := ⟨12, f_row_times_column, top 17⟩
def b_square_times_column : List IS := [.ret (.bi .tuple [(.lc [2] (.name 2) false [(.var 0)] [] (.call 12 [(.var 2), (.var 1)]))])]
def f_square_times_column : FD := ⟨"square_times_column", ["square", "column"], ["square", "column", "row"], b_square_times_column⟩
def t_square_times_column : TD := ⟨13, f_square_times_column, top 18⟩
def b_first_place_not_none : List IS := [.for_ (.name 1) true [(.bi .len [(.var 0)])] [.ite (.cmp .NotEq (.ix (.ix (.var 0) (.var 1)) (.lit (.int 0))) (.lit (.int 0))) [.ret (.var 1)] []],
    .ret (.lit .non)]
def f_first_place_not_none : FD := ⟨"first_place_not_none", ["row"], ["row", "k"], b_first_place_not_none⟩
def t_first_place_not_none : TD := ⟨14, f_first_place_not_none, top 19⟩
def b_cleared_row : List IS := [.asg (.name 3) (.bin .Mult (.tup [(.glob "NONE")]) (.var 2)),
    .for_ (.tup [(.name 4), (.name 5), (.name 6)]) false [(.var 0)] [.asg (.name 7) (.ix (.var 1) (.var 4)),
    .ite (.cmp .NotEq (.ix (.var 7) (.lit (.int 0))) (.lit (.int 0))) [.asg (.name 1) (.call 9 [(.var 1), (.call 8 [(.call 3 [(.var 7)]), (.var 5)])]),
    .asg (.name 3) (.call 9 [(.var 3), (.call 8 [(.var 7), (.var 6)])])] []],
    .ret (.tup [(.var 1), (.var 3)])]
def f_cleared_row : FD := ⟨"cleared_row", ["basis", "row", "many"], ["basis", "row", "many", "used", "place", "own", "multiples", "a"], b_cleared_row⟩
def t_cleared_row : TD := ⟨15, f_cleared_row, top 20⟩
def b_basis_with : List IS := [.asg (.tup [(.name 4), (.name 5)]) (.call 15 [(.var 0), (.var 1), (.var 3)]),
    .asg (.name 6) (.call 14 [(.var 4)]),
    .ite (.cmp .Is (.var 6) (.lit .non)) [.ret (.var 0)] [],
    .asg (.name 7) (.call 5 [(.glob "ONE"), (.ix (.var 4) (.var 6))]),
    .asg (.name 8) (.bi .tuple [(.lc [10] (.name 10) true [(.var 3)] [] (.ite (.cmp .Eq (.var 10) (.var 2)) (.glob "ONE") (.glob "NONE")))]),
    .asg (.name 9) (.call 9 [(.var 8), (.call 8 [(.tup [(.un .USub (.lit (.int 1))), (.lit (.int 1))]), (.var 5)])]),
    .ret (.bin .Add (.var 0) (.lst [(.tup [(.var 6), (.call 8 [(.var 7), (.var 4)]), (.call 8 [(.var 7), (.var 9)])])]))]
def f_basis_with : FD := ⟨"basis_with", ["basis", "row", "number", "many"], ["basis", "row", "number", "many", "left", "used", "place", "by", "own", "multiples", "k"], b_basis_with⟩
def t_basis_with : TD := ⟨16, f_basis_with, top 21⟩
def b_multiples_by : List IS := [.asg (.tup [(.name 3), (.name 4)]) (.call 15 [(.var 0), (.var 1), (.var 2)]),
    .ret (.ite (.cmp .Is (.call 14 [(.var 3)]) (.lit .non)) (.var 4) (.lit .non))]
def f_multiples_by : FD := ⟨"multiples_by", ["basis", "row", "many"], ["basis", "row", "many", "left", "used"], b_multiples_by⟩
def t_multiples_by : TD := ⟨17, f_multiples_by, top 22⟩
def b_as_multiples : List IS := [.asg (.name 2) (.lst []),
    .for_ (.name 3) true [(.bi .len [(.var 0)])] [.asg (.name 2) (.call 16 [(.var 2), (.ix (.var 0) (.var 3)), (.var 3), (.bi .len [(.var 0)])])],
    .ret (.call 17 [(.var 2), (.var 1), (.bi .len [(.var 0)])])]
def f_as_multiples : FD := ⟨"as_multiples", ["rows", "row"], ["rows", "row", "basis", "number"], b_as_multiples⟩
def t_as_multiples : TD := ⟨18, f_as_multiples, top 23⟩
def b__law_draws : List IS := [.new 2 (.lc [8] (.name 8) false [(.var 0)] [] (.bi .int [(.var 8)])),
    .ite (.cmp .Eq (.bi .len [(.var 2)]) (.lit (.int 0))) [.ex (.meth .append (.var 2) [(.lit (.int 0))])] [],
    .new 3 (.list1 (.var 2)),
    .new 4 (.lst []),
    .for_ (.name 5) true [(.var 1)] [.asg (.name 6) (.bin .Mod (.var 5) (.bi .len [(.var 2)])),
    .ite (.bop .And [(.cmp .GtE (.ix (.var 2) (.var 6)) (.bin .Pow (.lit (.int 10)) (.lit (.int 18)))), (.cmp .Gt (.ix (.var 3) (.var 6)) (.lit (.int 0)))]) [.ex (.meth .append (.var 4) [(.bin .Mod (.bi .int [(.ix (.var 3) (.var 6))]) (.lit (.int 1000)))]),
    .seti (.var 3) (.var 6) (.bin .FloorDiv (.ix (.var 3) (.var 6)) (.lit (.int 1000)))] [.asg (.name 7) (.bin .Mod (.bi .int [(.bin .Add (.bin .Add (.bin .Mult (.ix (.var 2) (.var 6)) (.lit (.int 48271))) (.bin .Mult (.var 5) (.lit (.int 69621)))) (.lit (.int 11)))]) (.lit (.int 2147483647))),
    .ex (.meth .append (.var 4) [(.bin .Mod (.bi .int [(.bin .Add (.bin .Add (.bin .Mult (.var 7) (.var 7)) (.bin .Mult (.lit (.int 3)) (.var 7))) (.var 5))]) (.lit (.int 1000003)))])]],
    .ex (.meth .reverse (.var 4) []),
    .ret (.var 4)]
def f__law_draws : FD := ⟨"_law_draws", ["script", "many"], ["script", "many", "cells", "rest", "draws", "k", "at", "once", "cell"], b__law_draws⟩
def t__law_draws : TD := ⟨19, f__law_draws, top 25⟩
def b__law_take : List IS := [.ite (.cmp .Eq (.bi .len [(.var 0)]) (.lit (.int 0))) [.ret (.lit (.int 0))] [],
    .ret (.bin .Mod (.bi .int [(.meth .pop (.var 0) [])]) (.var 1))]
def f__law_take : FD := ⟨"_law_take", ["draws", "many"], ["draws", "many"], b__law_take⟩
def t__law_take : TD := ⟨20, f__law_take, top 26⟩
def b__law_cell : List IS := [.ite (.cmp .Eq (.bi .len [(.var 0)]) (.lit (.int 0))) [.ret (.lit (.int 0))] [],
    .asg (.name 1) (.bi .int [(.ix (.var 0) (.bin .Mod (.bin .Mod (.bi .int [(.bin .Sub (.bi .len [(.var 0)]) (.lit (.int 1)))]) (.lit (.int 7))) (.bi .len [(.var 0)])))]),
    .ite (.cmp .Lt (.var 1) (.lit (.int 0))) [.ret (.un .USub (.bin .Mod (.bi .int [(.un .USub (.var 1))]) (.bin .Pow (.lit (.int 10)) (.lit (.int 59)))))] [],
    .ret (.bin .Mod (.bi .int [(.var 1)]) (.bin .Pow (.lit (.int 10)) (.lit (.int 59))))]
def f__law_cell : FD := ⟨"_law_cell", ["script"], ["script", "cell"], b__law_cell⟩
def t__law_cell : TD := ⟨21, f__law_cell, top 27⟩
def b__law_same : List IS := [.ite (.isi .bool (.var 1)) [.ret (.bop .And [(.isi .bool (.var 0)), (.cmp .Eq (.var 0) (.var 1))])] [],
    .ite (.isi .int (.var 1)) [.ret (.bop .And [(.isi .int (.var 0)), (.un .Not (.isi .bool (.var 0))), (.cmp .Eq (.var 0) (.var 1))])] [],
    .ite (.isi .str (.var 1)) [.ret (.bop .And [(.isi .str (.var 0)), (.cmp .Eq (.var 0) (.var 1))])] [],
    .ite (.cmp .Is (.var 1) (.lit .non)) [.ret (.cmp .Is (.var 0) (.lit .non))] [],
    .ite (.bop .Or [(.un .Not (.isi .tuple (.var 0))), (.cmp .NotEq (.bi .len [(.var 0)]) (.bi .len [(.var 1)]))]) [.ret (.lit (.bl false))] [],
    .for_ (.name 2) true [(.bi .len [(.var 1)])] [.ite (.un .Not (.call 22 [(.ix (.var 0) (.var 2)), (.ix (.var 1) (.var 2))])) [.ret (.lit (.bl false))] []],
    .ret (.lit (.bl true))]
def f__law_same : FD := ⟨"_law_same", ["actual", "due"], ["actual", "due", "k"], b__law_same⟩
def t__law_same : TD := ⟨22, f__law_same, top 28⟩
def b__law_lowest : List IS := [.par 2 3 (.bi .abs [(.var 0)]) (.bi .abs [(.var 1)]),
    .whl 1000000 (.cmp .NotEq (.var 3) (.lit (.int 0))) [.par 2 3 (.var 3) (.bin .Mod (.bi .int [(.var 2)]) (.var 3))],
    .ite (.cmp .Lt (.var 1) (.lit (.int 0))) [.ret (.tup [(.bin .FloorDiv (.un .USub (.var 0)) (.var 2)), (.bin .FloorDiv (.un .USub (.var 1)) (.var 2))])] [],
    .ret (.tup [(.bin .FloorDiv (.var 0) (.var 2)), (.bin .FloorDiv (.var 1) (.var 2))])]
def f__law_lowest : FD := ⟨"_law_lowest", ["n", "d"], ["n", "d", "a", "b"], b__law_lowest⟩
def t__law_lowest : TD := ⟨23, f__law_lowest, top 29⟩
def b__law_plus : List IS := [.ite (.bop .And [(.cmp .Eq (.ix (.var 0) (.lit (.int 1))) (.lit (.int 1))), (.cmp .Eq (.ix (.var 1) (.lit (.int 1))) (.lit (.int 1)))]) [.ret (.tup [(.bin .Add (.ix (.var 0) (.lit (.int 0))) (.ix (.var 1) (.lit (.int 0)))), (.lit (.int 1))])] [],
    .ret (.call 23 [(.bin .Add (.bin .Mult (.ix (.var 0) (.lit (.int 0))) (.ix (.var 1) (.lit (.int 1)))) (.bin .Mult (.ix (.var 1) (.lit (.int 0))) (.ix (.var 0) (.lit (.int 1))))), (.bin .Mult (.ix (.var 0) (.lit (.int 1))) (.ix (.var 1) (.lit (.int 1))))])]
def f__law_plus : FD := ⟨"_law_plus", ["one", "other"], ["one", "other"], b__law_plus⟩
def t__law_plus : TD := ⟨24, f__law_plus, top 30⟩
def b__law_times : List IS := [.ite (.bop .And [(.cmp .Eq (.ix (.var 0) (.lit (.int 1))) (.lit (.int 1))), (.cmp .Eq (.ix (.var 1) (.lit (.int 1))) (.lit (.int 1)))]) [.ret (.tup [(.bin .Mult (.ix (.var 0) (.lit (.int 0))) (.ix (.var 1) (.lit (.int 0)))), (.lit (.int 1))])] [],
    .ret (.call 23 [(.bin .Mult (.ix (.var 0) (.lit (.int 0))) (.ix (.var 1) (.lit (.int 0)))), (.bin .Mult (.ix (.var 0) (.lit (.int 1))) (.ix (.var 1) (.lit (.int 1))))])]
def f__law_times : FD := ⟨"_law_times", ["one", "other"], ["one", "other"], b__law_times⟩
def t__law_times : TD := ⟨25, f__law_times, top 31⟩
def b__law_dot : List IS := [.asg (.name 2) (.tup [(.lit (.int 0)), (.lit (.int 1))]),
    .for_ (.name 3) true [(.bi .len [(.var 0)])] [.asg (.name 2) (.call 24 [(.var 2), (.call 25 [(.ix (.var 0) (.var 3)), (.ix (.var 1) (.var 3))])])],
    .ret (.var 2)]
def f__law_dot : FD := ⟨"_law_dot", ["row", "column"], ["row", "column", "found", "k"], b__law_dot⟩
def t__law_dot : TD := ⟨26, f__law_dot, top 32⟩
def b__law_through : List IS := [.ret (.bi .tuple [(.lc [2] (.name 2) true [(.bi .len [(.ix (.var 1) (.lit (.int 0)))])] [] (.call 26 [(.var 0), (.bi .tuple [(.lc [3] (.name 3) false [(.var 1)] [] (.ix (.var 3) (.var 2)))])]))])]
def f__law_through : FD := ⟨"_law_through", ["row", "square"], ["row", "square", "k", "own"], b__law_through⟩
def t__law_through : TD := ⟨27, f__law_through, top 33⟩
def b__law_integer : List IS := [.ret (.ix (.lst [(.bin .Sub (.call 20 [(.var 0), (.lit (.int 9))]) (.lit (.int 4))), (.bin .Sub (.call 20 [(.var 0), (.lit (.int 2001))]) (.lit (.int 1000))), (.var 1)]) (.ix (.lst [(.lit (.int 0)), (.lit (.int 0)), (.lit (.int 1)), (.lit (.int 0)), (.lit (.int 2))]) (.call 20 [(.var 0), (.lit (.int 5))])))]
def f__law_integer : FD := ⟨"_law_integer", ["draws", "cell"], ["draws", "cell"], b__law_integer⟩
def t__law_integer : TD := ⟨28, f__law_integer, top 34⟩
def b__law_fraction : List IS := [.ret (.call 23 [(.call 28 [(.var 0), (.var 1)]), (.bin .Add (.lit (.int 1)) (.call 20 [(.var 0), (.lit (.int 6))]))])]
def f__law_fraction : FD := ⟨"_law_fraction", ["draws", "cell"], ["draws", "cell"], b__law_fraction⟩
def t__law_fraction : TD := ⟨29, f__law_fraction, top 35⟩
def b__law_row : List IS := [.ret (.bi .tuple [(.lc [3] (.name 3) true [(.var 1)] [] (.call 29 [(.var 0), (.var 2)]))])]
def f__law_row : FD := ⟨"_law_row", ["draws", "many", "cell"], ["draws", "many", "cell", "k"], b__law_row⟩
def t__law_row : TD := ⟨30, f__law_row, top 36⟩
def b__law_are_fractions_told : List IS := [.asg (.name 2) (.call 28 [(.var 0), (.var 1)]),
    .asg (.name 3) (.ix (.lst [(.bin .Add (.lit (.int 1)) (.call 20 [(.var 0), (.lit (.int 12))])), (.bin .Sub (.un .USub (.lit (.int 1))) (.call 20 [(.var 0), (.lit (.int 12))])), (.bin .Add (.bi .abs [(.var 1)]) (.lit (.int 2))), (.bin .Sub (.un .USub (.lit (.int 2))) (.bi .abs [(.var 1)]))]) (.call 20 [(.var 0), (.lit (.int 4))])),
    .asg (.name 4) (.call 23 [(.var 2), (.var 3)]),
    .ite (.bop .Or [(.un .Not (.call 22 [(.call 0 [(.var 2), (.var 3)]), (.var 4)])), (.un .Not (.call 22 [(.call 0 [(.lit (.int 0)), (.var 3)]), (.tup [(.lit (.int 0)), (.lit (.int 1))])])), (.un .Not (.call 22 [(.call 6 [(.var 4)]), (.cmp .Eq (.ix (.var 4) (.lit (.int 1))) (.lit (.int 1)))]))]) [.ret (.lit (.bl false))] [],
    .asg (.name 5) (.call 29 [(.var 0), (.var 1)]),
    .ite (.bop .Or [(.un .Not (.call 22 [(.call 1 [(.var 4), (.var 5)]), (.call 24 [(.var 4), (.var 5)])])), (.un .Not (.call 22 [(.call 2 [(.var 4), (.var 5)]), (.call 25 [(.var 4), (.var 5)])]))]) [.ret (.lit (.bl false))] [],
    .ite (.bop .Or [(.un .Not (.call 22 [(.call 4 [(.var 4), (.var 5)]), (.call 24 [(.var 4), (.tup [(.un .USub (.ix (.var 5) (.lit (.int 0)))), (.ix (.var 5) (.lit (.int 1)))])])])), (.un .Not (.call 22 [(.call 4 [(.var 4), (.var 4)]), (.tup [(.lit (.int 0)), (.lit (.int 1))])]))]) [.ret (.lit (.bl false))] [],
    .ret (.bop .Or [(.cmp .Eq (.ix (.var 5) (.lit (.int 0))) (.lit (.int 0))), (.call 22 [(.call 5 [(.var 4), (.var 5)]), (.call 23 [(.bin .Mult (.ix (.var 4) (.lit (.int 0))) (.ix (.var 5) (.lit (.int 1)))), (.bin .Mult (.ix (.var 4) (.lit (.int 1))) (.ix (.var 5) (.lit (.int 0))))])])])]
def f__law_are_fractions_told : FD := ⟨"_law_are_fractions_told", ["draws", "cell"], ["draws", "cell", "n", "d", "one", "other"], b__law_are_fractions_told⟩
def t__law_are_fractions_told : TD := ⟨31, f__law_are_fractions_told, top 37⟩
def b__law_are_rows_told : List IS := [.asg (.tup [(.name 3), (.name 4)]) (.tup [(.call 30 [(.var 0), (.var 1), (.var 2)]), (.call 30 [(.var 0), (.var 1), (.var 2)])]),
    .asg (.name 5) (.bi .tuple [(.lc [7] (.name 7) true [(.var 1)] [] (.call 30 [(.var 0), (.var 1), (.var 2)]))]),
    .asg (.name 6) (.call 29 [(.var 0), (.var 2)]),
    .ite (.bop .Or [(.un .Not (.call 22 [(.call 11 [(.var 3), (.var 5)]), (.call 27 [(.var 3), (.var 5)])])), (.un .Not (.call 22 [(.call 12 [(.var 3), (.var 4)]), (.call 26 [(.var 3), (.var 4)])]))]) [.ret (.lit (.bl false))] [],
    .ite (.un .Not (.call 22 [(.call 13 [(.var 5), (.var 4)]), (.bi .tuple [(.lc [8] (.name 8) false [(.var 5)] [] (.call 26 [(.var 8), (.var 4)]))])])) [.ret (.lit (.bl false))] [],
    .ite (.un .Not (.call 22 [(.call 8 [(.var 6), (.var 3)]), (.bi .tuple [(.lc [8] (.name 8) false [(.var 3)] [] (.call 25 [(.var 6), (.var 8)]))])])) [.ret (.lit (.bl false))] [],
    .ret (.call 22 [(.call 9 [(.var 3), (.var 4)]), (.bi .tuple [(.lc [7] (.name 7) true [(.var 1)] [] (.call 24 [(.ix (.var 3) (.var 7)), (.ix (.var 4) (.var 7))]))])])]
def f__law_are_rows_told : FD := ⟨"_law_are_rows_told", ["draws", "many", "cell"], ["draws", "many", "cell", "row", "other", "square", "a", "k", "own"], b__law_are_rows_told⟩
def t__law_are_rows_told : TD := ⟨32, f__law_are_rows_told, top 38⟩
def b__law_sum : List IS := [.ret (.bi .tuple [(.lc [3] (.name 3) true [(.var 2)] [] (.call 26 [(.var 0), (.bi .tuple [(.lc [4] (.name 4) false [(.var 1)] [] (.ix (.var 4) (.var 3)))])]))])]
def f__law_sum : FD := ⟨"_law_sum", ["multiples", "rows", "width"], ["multiples", "rows", "width", "k", "row"], b__law_sum⟩
def t__law_sum : TD := ⟨33, f__law_sum, top 39⟩
def b__law_moved : List IS := [.ret (.bi .tuple [(.lc [2] (.name 2) false [(.var 1)] [] (.ix (.var 0) (.var 2)))])]
def f__law_moved : FD := ⟨"_law_moved", ["row", "order"], ["row", "order", "k"], b__law_moved⟩
def t__law_moved : TD := ⟨34, f__law_moved, top 40⟩
def b__law_are_multiples_told : List IS := [.asg (.name 3) (.bin .Add (.bin .Add (.var 1) (.lit (.int 1))) (.call 20 [(.var 0), (.lit (.int 2))])),
    .new 4 (.lc [7] (.name 7) true [(.var 3)] [] (.var 7)),
    .for_ (.name 5) true [(.lit (.int 3))] [.ex (.meth .append (.var 4) [(.meth .pop (.var 4) [(.call 20 [(.var 0), (.var 3)])])])],
    .new 6 (.lst []),
    .for_ (.name 7) true [(.var 1)] [.asg (.name 13) (.bin .Add (.bin .Add (.bin .Mult (.tup [(.tup [(.lit (.int 0)), (.lit (.int 1))])]) (.var 7)) (.tup [(.tup [(.bin .Add (.lit (.int 1)) (.call 20 [(.var 0), (.lit (.int 3))])), (.lit (.int 1))])])) (.call 30 [(.var 0), (.bin .Sub (.bin .Sub (.var 3) (.var 7)) (.lit (.int 1))), (.lit (.int 3))])),
    .asg (.name 14) (.call 33 [(.call 30 [(.var 0), (.var 7), (.lit (.int 2))]), (.var 6), (.var 3)]),
    .ex (.meth .append (.var 6) [(.bi .tuple [(.lc [15] (.name 15) true [(.var 3)] [] (.call 24 [(.ix (.var 13) (.var 15)), (.ix (.var 14) (.var 15))]))])])],
    .asg (.name 8) (.bin .FloorDiv (.bi .int [(.bi .abs [(.var 2)])]) (.bin .Pow (.lit (.int 10)) (.lit (.int 20)))),
    .asg (.name 9) (.call 30 [(.var 0), (.var 1), (.ite (.cmp .Lt (.var 2) (.lit (.int 0))) (.un .USub (.var 8)) (.var 8))]),
    .asg (.name 10) (.call 33 [(.var 9), (.var 6), (.var 3)]),
    .asg (.name 11) (.bi .tuple [(.lc [13] (.name 13) false [(.var 6)] [] (.call 34 [(.var 13), (.var 4)]))]),
    .ite (.un .Not (.call 22 [(.call 18 [(.var 11), (.call 34 [(.var 10), (.var 4)])]), (.var 9)])) [.ret (.lit (.bl false))] [],
    .asg (.name 12) (.bin .Add (.bin .Add (.slc (.var 10) none (some (.var 1))) (.tup [(.call 24 [(.ix (.var 10) (.var 1)), (.tup [(.bin .Add (.lit (.int 1)) (.call 20 [(.var 0), (.lit (.int 5))])), (.lit (.int 1))])])])) (.slc (.var 10) (some (.bin .Add (.var 1) (.lit (.int 1)))) none)),
    .ret (.bop .And [(.call 22 [(.call 18 [(.var 11), (.call 34 [(.var 12), (.var 4)])]), (.lit .non)]), (.call 22 [(.call 18 [(.var 11), (.call 34 [(.var 10), (.var 4)])]), (.var 9)])])]
def f__law_are_multiples_told : FD := ⟨"_law_are_multiples_told", ["draws", "many", "cell"], ["draws", "many", "cell", "width", "order", "turn", "rows", "k", "size", "due", "row", "moved", "other", "own", "ahead", "place"], b__law_are_multiples_told⟩
def t__law_are_multiples_told : TD := ⟨35, f__law_are_multiples_told, top 41⟩
def b_law : List IS := [.asg (.name 1) (.call 19 [(.var 0), (.lit (.int 520))]),
    .asg (.name 2) (.call 21 [(.var 0)]),
    .for_ (.name 3) true [(.lit (.int 3))] [.ite (.bop .Or [(.un .Not (.call 31 [(.var 1), (.var 2)])), (.un .Not (.call 32 [(.var 1), (.bin .Add (.lit (.int 1)) (.call 20 [(.var 1), (.lit (.int 3))])), (.var 2)]))]) [.ret (.lit (.bl false))] [],
    .ite (.un .Not (.call 35 [(.var 1), (.bin .Add (.var 3) (.call 20 [(.var 1), (.lit (.int 2))])), (.var 2)])) [.ret (.lit (.bl false))] []],
    .ite (.bop .Or [(.un .Not (.call 22 [(.call 18 [(.tup []), (.tup [(.tup [(.lit (.int 0)), (.lit (.int 1))]), (.tup [(.lit (.int 0)), (.lit (.int 1))])])]), (.tup [])])), (.un .Not (.call 22 [(.call 18 [(.tup []), (.tup [(.tup [(.lit (.int 0)), (.lit (.int 1))]), (.tup [(.lit (.int 1)), (.lit (.int 2))])])]), (.lit .non)]))]) [.ret (.lit (.bl false))] [],
    .ite (.bop .Or [(.un .Not (.call 22 [(.call 0 [(.lit (.int 6)), (.un .USub (.lit (.int 4)))]), (.tup [(.un .USub (.lit (.int 3))), (.lit (.int 2))])])), (.un .Not (.call 22 [(.call 5 [(.tup [(.lit (.int 1)), (.lit (.int 2))]), (.tup [(.un .USub (.lit (.int 3))), (.lit (.int 4))])]), (.tup [(.un .USub (.lit (.int 2))), (.lit (.int 3))])])), (.un .Not (.call 22 [(.call 4 [(.tup [(.lit (.int 1)), (.lit (.int 2))]), (.tup [(.lit (.int 3)), (.lit (.int 4))])]), (.tup [(.un .USub (.lit (.int 1))), (.lit (.int 4))])]))]) [.ret (.lit (.bl false))] [],
    .asg (.name 4) (.tup [(.tup [(.tup [(.lit (.int 0)), (.lit (.int 1))]), (.tup [(.lit (.int 1)), (.lit (.int 1))])]), (.tup [(.tup [(.lit (.int 2)), (.lit (.int 1))]), (.tup [(.lit (.int 3)), (.lit (.int 1))])])]),
    .ite (.bop .Or [(.un .Not (.call 22 [(.call 11 [(.tup [(.tup [(.lit (.int 1)), (.lit (.int 1))]), (.tup [(.lit (.int 0)), (.lit (.int 1))])]), (.var 4)]), (.tup [(.tup [(.lit (.int 0)), (.lit (.int 1))]), (.tup [(.lit (.int 1)), (.lit (.int 1))])])])), (.un .Not (.call 22 [(.call 13 [(.var 4), (.tup [(.tup [(.lit (.int 1)), (.lit (.int 1))]), (.tup [(.lit (.int 0)), (.lit (.int 1))])])]), (.tup [(.tup [(.lit (.int 0)), (.lit (.int 1))]), (.tup [(.lit (.int 2)), (.lit (.int 1))])])]))]) [.ret (.lit (.bl false))] [],
    .ret (.call 22 [(.call 18 [(.tup [(.tup [(.tup [(.lit (.int 1)), (.lit (.int 1))]), (.tup [(.lit (.int 2)), (.lit (.int 1))])]), (.tup [(.tup [(.lit (.int 1)), (.lit (.int 1))]), (.tup [(.lit (.int 3)), (.lit (.int 1))])])]), (.tup [(.tup [(.lit (.int 0)), (.lit (.int 1))]), (.tup [(.lit (.int 1)), (.lit (.int 2))])])]), (.tup [(.tup [(.un .USub (.lit (.int 1))), (.lit (.int 2))]), (.tup [(.lit (.int 1)), (.lit (.int 2))])])])]
def f_law : FD := ⟨"law", ["script"], ["script", "draws", "cell", "turn", "square"], b_law⟩
def t_law : TD := ⟨36, f_law, top 42⟩
def gcdB : Bool := true
def ts0 : List TD := [t_fraction_of, t_plus_fraction, t_times_fraction, t_turned_fraction, t_less_fraction, t_over_fraction, t_is_whole_fraction, t_sum_of_fractions, t_times_row, t_rows_plus, t_with_times_row, t_row_times_square, t_row_times_column, t_square_times_column, t_first_place_not_none, t_cleared_row, t_basis_with, t_multiples_by, t_as_multiples, t__law_draws, t__law_take, t__law_cell, t__law_same, t__law_lowest, t__law_plus, t__law_times, t__law_dot, t__law_through, t__law_integer, t__law_fraction]
def ts1 : List TD := [t__law_row, t__law_are_fractions_told, t__law_are_rows_told, t__law_sum, t__law_moved, t__law_are_multiples_told, t_law]
def ts : List TD := ts0 ++ ts1
end Code

namespace Code
open PySem Ab
/-! ### fractions are rationals -/
def frD (q : Rat) : D := .tup [.int q.num, .int (q.den : Int)]
def bnd (b : Nat) (q : Rat) : Prop := q.num.natAbs < 2 ^ b ∧ q.den < 2 ^ b
theorem low_num {n d : Int} (hd : d ≠ 0) : ((Rat.divInt n d).num = if d < 0 then (-n) / ((Nat.gcd n.natAbs d.natAbs : Nat) : Int) else n / ((Nat.gcd n.natAbs d.natAbs : Nat) : Int)) := by
  rw [Rat.num_divInt, show Int.gcd d n = Nat.gcd n.natAbs d.natAbs from Nat.gcd_comm _ _]
  by_cases h : d < 0
  · rw [if_pos h, Int.sign_eq_neg_one_of_neg h, Int.neg_one_mul]
  · rw [if_neg h, Int.sign_eq_one_of_pos (by omega), Int.one_mul]
theorem low_den {n d : Int} (hd : d ≠ 0) : (((Rat.divInt n d).den : Int) = if d < 0 then (-d) / ((Nat.gcd n.natAbs d.natAbs : Nat) : Int) else d / ((Nat.gcd n.natAbs d.natAbs : Nat) : Int)) := by
  rw [Rat.den_divInt, if_neg hd, show Int.gcd d n = Nat.gcd n.natAbs d.natAbs from Nat.gcd_comm _ _]
  by_cases h : d < 0
  · rw [if_pos h, Int.natCast_ediv, show ((d.natAbs : Nat) : Int) = -d by omega]
  · rw [if_neg h, Int.natCast_ediv, show ((d.natAbs : Nat) : Int) = d by omega]
theorem log2_lt {g b : Nat} (h : g < 2 ^ b) (hg : g ≠ 0) : g.log2 < b := (Nat.log2_lt hg).mpr h
theorem frD_den_pos (q : Rat) : (0 : Int) < q.den := by have := q.den_pos; omega
theorem T0 : tab ts 0 = some f_fraction_of := rfl
theorem T23 : tab ts 23 = some f__law_lowest := rfl
theorem gcd_pos' {n d : Int} (hd : d ≠ 0) : 0 < Nat.gcd n.natAbs d.natAbs := Nat.gcd_pos_of_pos_right _ (by omega)
theorem gcd_dn {n d : Int} : ((Nat.gcd n.natAbs d.natAbs : Nat) : Int) ∣ n := by
  have := Nat.gcd_dvd_left n.natAbs d.natAbs
  exact Int.ofNat_dvd_left.mpr this
theorem gcd_dd {n d : Int} : ((Nat.gcd n.natAbs d.natAbs : Nat) : Int) ∣ d := by
  have := Nat.gcd_dvd_right n.natAbs d.natAbs
  exact Int.ofNat_dvd_left.mpr this
theorem gcd_le {n d : Int} (hd : d ≠ 0) : Nat.gcd n.natAbs d.natAbs ≤ d.natAbs := Nat.le_of_dvd (by omega) (Nat.gcd_dvd_right _ _)
theorem floor_int {n g : Int} (h0 : 0 < g) (hg : g.natAbs.log2 < 9000) : dInt .FloorDiv n g = some (n / g) := by
  simp only [dInt, divOk, decide_eq_true_eq, hg, h0, if_true]
theorem floor_neg {n g : Int} (h0 : 0 < g) (hg : g.natAbs.log2 < 9000) (hd : g ∣ n) : dInt .FloorDiv n (-g) = some ((-n) / g) := by
  simp only [dInt, divOk, Int.natAbs_neg, decide_eq_true_eq, hg, if_true]
  rw [if_neg (by omega), if_pos (by omega), Int.fdiv_eq_ediv_of_dvd ((Int.neg_dvd).mpr hd), Int.ediv_neg, Int.neg_ediv_of_dvd hd]
variable {gl : Str → Option D} {S : Store}
theorem c_frac {k b : Nat} {n d : Int} (hd : d ≠ 0) (hb : d.natAbs < 2 ^ b) (h9 : b ≤ 9000) : call (tab ts) gl (k + 1) 0 [.int n, .int d] S = some (frD (Rat.divInt n d), S) := by
  have hg := gcd_pos' (n := n) hd
  have hlg : (((Nat.gcd n.natAbs d.natAbs : Nat) : Int)).natAbs.log2 < 9000 := by
    have := log2_lt (Nat.lt_of_le_of_lt (gcd_le (n := n) hd) hb) (by omega)
    simp only [Int.natAbs_natCast]
    omega
  have hgi : (0 : Int) < ((Nat.gcd n.natAbs d.natAbs : Nat) : Int) := by omega
  rw [call_of T0 rfl]
  simp only [f_fraction_of, b_fraction_of, startA]
  by_cases h : d < 0
  · simp [sizeLine, dBi, dCmp, Tg.bind, h, dUn, dBin, floor_neg hgi hlg gcd_dn, floor_neg hgi hlg gcd_dd, frD, low_num hd, low_den hd]
  · simp [sizeLine, dBi, dCmp, Tg.bind, h, dUn, dBin, floor_int hgi hlg, frD, low_num hd, low_den hd]

/-! bounds -/
theorem num_mkRat_le (n : Int) (d : Nat) : (mkRat n d).num.natAbs ≤ n.natAbs := by
  rw [Rat.num_mkRat]
  split
  · simp
  · rw [Int.natAbs_ediv_of_dvd (by exact Int.ofNat_dvd_left.mpr (Nat.gcd_dvd_right _ _))]
    exact Nat.div_le_self _ _
theorem den_mkRat_le (n : Int) {d : Nat} (h : d ≠ 0) : (mkRat n d).den ≤ d := by
  rw [Rat.den_mkRat, if_neg h]
  exact Nat.div_le_self _ _
theorem mul_lt_pow {x y a b : Nat} (h1 : x < 2 ^ a) (h2 : y < 2 ^ b) : x * y < 2 ^ (a + b) := by
  rw [Nat.pow_add]
  exact Nat.mul_lt_mul'' h1 h2
theorem bnd_mul {a b : Nat} {p q : Rat} (hp : bnd a p) (hq : bnd b q) : bnd (a + b) (p * q) := by
  rw [Rat.mul_def']
  refine ⟨Nat.lt_of_le_of_lt (num_mkRat_le _ _) ?_, Nat.lt_of_le_of_lt (den_mkRat_le _ (Nat.mul_ne_zero p.den_nz q.den_nz)) (mul_lt_pow hp.2 hq.2)⟩
  rw [Int.natAbs_mul]
  exact mul_lt_pow hp.1 hq.1
theorem bnd_add {a b : Nat} {p q : Rat} (hp : bnd a p) (hq : bnd b q) : bnd (a + b + 1) (p + q) := by
  rw [Rat.add_def']
  have h1 := mul_lt_pow hp.1 hq.2
  have h2 := mul_lt_pow hq.1 hp.2
  have h3 := mul_lt_pow hp.2 hq.2
  rw [Nat.add_comm b a] at h2
  refine ⟨Nat.lt_of_le_of_lt (num_mkRat_le _ _) ?_, Nat.lt_of_le_of_lt (den_mkRat_le _ (Nat.mul_ne_zero p.den_nz q.den_nz)) ?_⟩
  · refine Nat.lt_of_le_of_lt (Int.natAbs_add_le _ _) ?_
    rw [Int.natAbs_mul, Int.natAbs_mul, Int.natAbs_natCast, Int.natAbs_natCast, Nat.pow_succ]
    omega
  · rw [Nat.pow_succ]
    omega
theorem bnd_neg {a : Nat} {p : Rat} (hp : bnd a p) : bnd a (-p) := by
  refine ⟨?_, hp.2⟩
  rw [Rat.neg_num, Int.natAbs_neg]
  exact hp.1
theorem bnd_mono {a b : Nat} {p : Rat} (hp : bnd a p) (h : a ≤ b) : bnd b p := ⟨Nat.lt_of_lt_of_le hp.1 (Nat.pow_le_pow_right (by omega) h), Nat.lt_of_lt_of_le hp.2 (Nat.pow_le_pow_right (by omega) h)⟩
theorem num_ne {q : Rat} (h : q ≠ 0) : q.num ≠ 0 := fun e => h (Rat.num_eq_zero.mp e)
theorem bnd_inv {a : Nat} {q : Rat} (hq : bnd a q) (h : q ≠ 0) : bnd a q⁻¹ := by
  have := num_ne h
  refine ⟨?_, ?_⟩
  · rw [Rat.num_inv, Int.natAbs_mul, Int.natAbs_natCast]
    by_cases h : q.num < 0
    · rw [Int.sign_eq_neg_one_of_neg h]
      simpa using hq.2
    · rw [Int.sign_eq_one_of_pos (by omega)]
      simpa using hq.2
  · rw [Rat.den_inv, if_neg this]
    exact hq.1
theorem bnd_divInt {a b : Nat} {n d : Int} (hn : n.natAbs < 2 ^ a) (hd : d.natAbs < 2 ^ b) (h : d ≠ 0) : bnd (max a b) (Rat.divInt n d) := by
  refine bnd_mono (a := max a b) ⟨?_, ?_⟩ (Nat.le_refl _)
  · rw [low_num h]
    refine Nat.lt_of_le_of_lt (m := n.natAbs) ?_ (Nat.lt_of_lt_of_le hn (Nat.pow_le_pow_right (by omega) (by omega)))
    split
    · rw [Int.natAbs_ediv_of_dvd ((Int.dvd_neg).mpr gcd_dn), Int.natAbs_neg]
      exact Nat.div_le_self _ _
    · rw [Int.natAbs_ediv_of_dvd gcd_dn]
      exact Nat.div_le_self _ _
  · rw [Rat.den_divInt, if_neg h]
    refine Nat.lt_of_le_of_lt (Nat.div_le_self _ _) (Nat.lt_of_lt_of_le hd (Nat.pow_le_pow_right (by omega) (by omega)))
/-! fractions, place by place -/
@[simp] theorem ix_num {q : Rat} : dIx S (frD q) (.int 0) = some (.int q.num) := nd rfl
@[simp] theorem ix_den {q : Rat} : dIx S (frD q) (.int 1) = some (.int (q.den : Int)) := nd rfl
@[simp] theorem eq_int {i j : Int} : dEq S (.int i) (.int j) = some (decide (i = j)) := by
  have h : ∀ i : Int, SeqAt.shaped (.int i) = true := fun i => by
    simp only [SeqAt.shaped, Bool.and_eq_true, decide_eq_true_eq]
    exact ⟨rfl, by simp [PyData.depth]⟩
  simp only [dEq, deref, D.py, h, Bool.and_self, if_true, PyData.eqv]
  congr 1
theorem log2_le_of {x a : Nat} (h : x < 2 ^ a) : x.log2 ≤ a := by
  by_cases h0 : x = 0
  · subst h0
    simp
  · exact Nat.le_of_lt (log2_lt h h0)
theorem mul_int {i j : Int} {a b : Nat} (hi : i.natAbs < 2 ^ a) (hj : j.natAbs < 2 ^ b) (h : a + b ≤ 9000) : dInt .Mult i j = some (i * j) := by
  have h1 := log2_le_of hi
  have h2 := log2_le_of hj
  have : mulOk i j = true := by
    unfold mulOk
    rw [Bool.or_eq_true, Bool.or_eq_true]
    exact .inr (.inr (decide_eq_true (by omega)))
  simp only [dInt, this, if_true]
theorem natAbs_den (q : Rat) : ((q.den : Int)).natAbs = q.den := Int.natAbs_natCast _
theorem den1 {p q : Rat} (hp : p.den = 1) (hq : q.den = 1) : frD (p + q) = .tup [.int (p.num + q.num), .int 1] ∧ frD (p * q) = .tup [.int (p.num * q.num), .int 1] := by
  constructor
  · unfold frD
    rw [Rat.add_def', hp, hq, Rat.num_mkRat, Rat.den_mkRat]
    simp
  · unfold frD
    rw [Rat.mul_def', hp, hq, Rat.num_mkRat, Rat.den_mkRat]
    simp

theorem T1 : tab ts 1 = some f_plus_fraction := rfl
theorem T2 : tab ts 2 = some f_times_fraction := rfl
theorem T3 : tab ts 3 = some f_turned_fraction := rfl
theorem T4 : tab ts 4 = some f_less_fraction := rfl
theorem T5 : tab ts 5 = some f_over_fraction := rfl
theorem T6 : tab ts 6 = some f_is_whole_fraction := rfl
theorem T24 : tab ts 24 = some f__law_plus := rfl
theorem T25 : tab ts 25 = some f__law_times := rfl
theorem wh_low {cf : CallF} {n d : Int} : ∀ (b f x y : Nat), y < 2 ^ b → 2 * b + 1 ≤ f →
    evWh (evT cf gl (.cmp .NotEq (.var 3) (.lit (.int 0)))) (evSs cf gl [.par 2 3 (.var 3) (.bin .Mod (.bi .int [(.var 2)]) (.var 3))]) f [some (.int n), some (.int d), some (.int x), some (.int y)] S = some (.next, [some (.int n), some (.int d), some (.int (Nat.gcd x y : Nat)), some (.int 0)], S)
  | b, 0, x, y, _, hf => by omega
  | b, f + 1, x, 0, _, _ => by
    rw [evWh]
    simp [dCmp]
  | 0, f + 1, x, y + 1, hy, _ => by simp at hy
  | b + 1, 1, x, y + 1, _, hf => by omega
  | b + 1, f + 1 + 1, x, y + 1, hy, hf => by
    have hp : (0 : Int) < ((y + 1 : Nat) : Int) := by omega
    have step : ∀ (f x y : Nat), 0 < y → evWh (evT cf gl (.cmp .NotEq (.var 3) (.lit (.int 0)))) (evSs cf gl [.par 2 3 (.var 3) (.bin .Mod (.bi .int [(.var 2)]) (.var 3))]) (f + 1) [some (.int n), some (.int d), some (.int x), some (.int y)] S = evWh (evT cf gl (.cmp .NotEq (.var 3) (.lit (.int 0)))) (evSs cf gl [.par 2 3 (.var 3) (.bin .Mod (.bi .int [(.var 2)]) (.var 3))]) f [some (.int n), some (.int d), some (.int y), some (.int ((x % y : Nat) : Int))] S := by
      intro f x y h
      have h0 : (0 : Int) < (y : Int) := by omega
      rw [evWh]
      simp [dCmp, dBi, dBin, dInt, h, show ¬ y = 0 by omega]
    rw [step (f + 1) x (y + 1) (by omega)]
    by_cases h1 : x % (y + 1) = 0
    · rw [h1]
      have := wh_low (cf := cf) (n := n) (d := d) b (f + 1) (y + 1) 0 (Nat.two_pow_pos _) (by omega)
      rw [this, Nat.gcd_comm x, Nat.gcd_rec (y + 1) x, h1, Nat.gcd_zero_right, Nat.gcd_zero_left]
    · rw [step f (y + 1) (x % (y + 1)) (by omega)]
      have h2 : x % (y + 1) < y + 1 := Nat.mod_lt _ (by omega)
      have h3 : (y + 1) % (x % (y + 1)) < 2 ^ b := by
        have a1 := Nat.mod_lt (y + 1) (show 0 < x % (y + 1) by omega)
        have a2 : (y + 1) % (x % (y + 1)) ≤ (y + 1) - x % (y + 1) := by
          rw [Nat.mod_eq_sub_mod (by omega)]
          exact Nat.mod_le _ _
        rw [Nat.pow_succ] at hy
        omega
      rw [wh_low b f _ _ h3 (by omega)]
      congr 6
      rw [Nat.gcd_comm x, Nat.gcd_rec (y + 1) x, Nat.gcd_comm _ ((y + 1) % _), ← Nat.gcd_rec]
theorem abs_dn (n : Int) : (if n < 0 then -n else n) = ((n.natAbs : Nat) : Int) := by
  split <;> omega
theorem c_lowest {k b : Nat} {n d : Int} (hd : d ≠ 0) (hb : d.natAbs < 2 ^ b) (h9 : b ≤ 9000) : call (tab ts) gl (k + 1) 23 [.int n, .int d] S = some (frD (Rat.divInt n d), S) := by
  have hg := gcd_pos' (n := n) hd
  have hlg : (((Nat.gcd n.natAbs d.natAbs : Nat) : Int)).natAbs.log2 < 9000 := by
    have := log2_lt (Nat.lt_of_le_of_lt (gcd_le (n := n) hd) hb) (by omega)
    simp only [Int.natAbs_natCast]
    omega
  have hgi : (0 : Int) < ((Nat.gcd n.natAbs d.natAbs : Nat) : Int) := by omega
  rw [call_of T23 rfl]
  simp only [f__law_lowest, b__law_lowest, startA]
  have w := wh_low (cf := call (tab ts) gl k) (gl := gl) (S := S) (n := n) (d := d) b 1000000 n.natAbs d.natAbs hb (by omega)
  by_cases h : d < 0
  · rw [show ((d.natAbs : Nat) : Int) = -d by omega] at w
    simp [sizeLine, dBi, dCmp, h, abs_dn, w, dUn, dBin, floor_int hgi hlg, frD, low_num hd, low_den hd]
  · rw [show ((d.natAbs : Nat) : Int) = d by omega] at w
    simp [sizeLine, dBi, dCmp, h, abs_dn, w, dBin, floor_int hgi hlg, frD, low_num hd, low_den hd]
theorem ne0_den (p q : Rat) : (p.den : Int) * (q.den : Int) ≠ 0 := by
  have h1 := frD_den_pos p
  have h2 := frD_den_pos q
  exact Int.mul_ne_zero (by omega) (by omega)
theorem den_bits {a b : Nat} {p q : Rat} (hp : bnd a p) (hq : bnd b q) : ((p.den : Int) * (q.den : Int)).natAbs < 2 ^ (a + b) := by
  rw [Int.natAbs_mul, Int.natAbs_natCast, Int.natAbs_natCast]
  exact mul_lt_pow hp.2 hq.2
theorem add_di (p q : Rat) : Rat.divInt (p.num * q.den + q.num * p.den) (p.den * q.den) = p + q := by
  rw [Rat.add_def', ← Rat.divInt_ofNat, Int.natCast_mul]
theorem mul_di (p q : Rat) : Rat.divInt (p.num * q.num) (p.den * q.den) = p * q := by
  rw [Rat.mul_def', ← Rat.divInt_ofNat, Int.natCast_mul]
theorem bt {a : Nat} {p : Rat} (h : bnd a p) : ((p.den : Int)).natAbs < 2 ^ a := by
  rw [natAbs_den]
  exact h.2
section
variable {k a b : Nat} {p q : Rat}

@[simp] theorem dInt_add {i j : Int} : dInt .Add i j = some (i + j) := nd rfl
@[simp] theorem dInt_sub {i j : Int} : dInt .Sub i j = some (i - j) := nd rfl
@[simp] theorem dInt_m1 {i : Int} : dInt .Mult i 1 = some i := by simp [dInt, mulOk]
@[simp] theorem dInt_1m {i : Int} : dInt .Mult 1 i = some i := by simp [dInt, mulOk]
theorem c_plus (hp : bnd a p) (hq : bnd b q) (h9 : a + b ≤ 9000) : call (tab ts) gl (k + 2) 1 [frD p, frD q] S = some (frD (p + q), S) := by
  rw [call_of T1 rfl]
  simp only [f_plus_fraction, b_plus_fraction, startA]
  have e := c_frac (gl := gl) (S := S) (k := k) (n := p.num * q.den + q.num * p.den) (ne0_den p q) (den_bits hp hq) h9
  rw [add_di] at e
  have m1 := mul_int hp.1 (bt hq) h9
  have m2 := mul_int hq.1 (bt hp) (by omega)
  have m3 := mul_int (bt hp) (bt hq) h9
  by_cases h : p.den = 1 ∧ q.den = 1
  · simp [sizeLine, dCmp, isAnd, h.1, h.2, dBin, (den1 h.1 h.2).1]
  · by_cases h1 : p.den = 1
    · have h2 : ¬ q.den = 1 := fun z => h ⟨h1, z⟩
      have h3 : ¬ (q.den : Int) = 1 := by omega
      simp [h1] at e
      simp [dCmp, isAnd, h1, h2, h3, dBin, m1, e]
    · have h3 : ¬ (p.den : Int) = 1 := by omega
      simp [dCmp, isAnd, h1, h3, dBin, m1, m2, m3, e]
theorem c_lplus (hp : bnd a p) (hq : bnd b q) (h9 : a + b ≤ 9000) : call (tab ts) gl (k + 2) 24 [frD p, frD q] S = some (frD (p + q), S) := by
  rw [call_of T24 rfl]
  simp only [f__law_plus, b__law_plus, startA]
  have e := c_lowest (gl := gl) (S := S) (k := k) (n := p.num * q.den + q.num * p.den) (ne0_den p q) (den_bits hp hq) h9
  rw [add_di] at e
  have m1 := mul_int hp.1 (bt hq) h9
  have m2 := mul_int hq.1 (bt hp) (by omega)
  have m3 := mul_int (bt hp) (bt hq) h9
  by_cases h : p.den = 1 ∧ q.den = 1
  · simp [sizeLine, dCmp, isAnd, h.1, h.2, dBin, (den1 h.1 h.2).1]
  · by_cases h1 : p.den = 1
    · have h2 : ¬ q.den = 1 := fun z => h ⟨h1, z⟩
      have h3 : ¬ (q.den : Int) = 1 := by omega
      simp [h1] at e
      simp [dCmp, isAnd, h1, h2, h3, dBin, m1, e]
    · have h3 : ¬ (p.den : Int) = 1 := by omega
      simp [dCmp, isAnd, h1, h3, dBin, m1, m2, m3, e]
theorem c_times (hp : bnd a p) (hq : bnd b q) (h9 : a + b ≤ 9000) : call (tab ts) gl (k + 2) 2 [frD p, frD q] S = some (frD (p * q), S) := by
  rw [call_of T2 rfl]
  simp only [f_times_fraction, b_times_fraction, startA]
  have e := c_frac (gl := gl) (S := S) (k := k) (n := p.num * q.num) (ne0_den p q) (den_bits hp hq) h9
  rw [mul_di] at e
  have m1 := mul_int hp.1 hq.1 h9
  have m3 := mul_int (bt hp) (bt hq) h9
  by_cases h : p.den = 1 ∧ q.den = 1
  · simp [sizeLine, dCmp, isAnd, h.1, h.2, dBin, m1, (den1 h.1 h.2).2]
  · by_cases h1 : p.den = 1
    · have h2 : ¬ q.den = 1 := fun z => h ⟨h1, z⟩
      have h3 : ¬ (q.den : Int) = 1 := by omega
      simp [h1] at e
      simp [dCmp, isAnd, h1, h2, h3, dBin, m1, e]
    · have h3 : ¬ (p.den : Int) = 1 := by omega
      simp [dCmp, isAnd, h1, h3, dBin, m1, m3, e]
theorem c_ltimes (hp : bnd a p) (hq : bnd b q) (h9 : a + b ≤ 9000) : call (tab ts) gl (k + 2) 25 [frD p, frD q] S = some (frD (p * q), S) := by
  rw [call_of T25 rfl]
  simp only [f__law_times, b__law_times, startA]
  have e := c_lowest (gl := gl) (S := S) (k := k) (n := p.num * q.num) (ne0_den p q) (den_bits hp hq) h9
  rw [mul_di] at e
  have m1 := mul_int hp.1 hq.1 h9
  have m3 := mul_int (bt hp) (bt hq) h9
  by_cases h : p.den = 1 ∧ q.den = 1
  · simp [sizeLine, dCmp, isAnd, h.1, h.2, dBin, m1, (den1 h.1 h.2).2]
  · by_cases h1 : p.den = 1
    · have h2 : ¬ q.den = 1 := fun z => h ⟨h1, z⟩
      have h3 : ¬ (q.den : Int) = 1 := by omega
      simp [h1] at e
      simp [dCmp, isAnd, h1, h2, h3, dBin, m1, e]
    · have h3 : ¬ (p.den : Int) = 1 := by omega
      simp [dCmp, isAnd, h1, h3, dBin, m1, m3, e]
theorem c_turned : call (tab ts) gl (k + 1) 3 [frD p] S = some (frD (-p), S) := by
  rw [call_of T3 rfl]
  simp only [f_turned_fraction, b_turned_fraction, startA]
  simp [sizeLine, dUn, frD, dIx, items, at_, L2.atI, L2.ixN]
theorem c_less (hp : bnd a p) (hq : bnd b q) (h9 : a + b ≤ 9000) : call (tab ts) gl (k + 3) 4 [frD p, frD q] S = some (frD (p + -q), S) := by
  rw [call_of T4 rfl]
  simp only [f_less_fraction, b_less_fraction, startA]
  have e1 := c_turned (gl := gl) (S := S) (k := k + 1) (p := q)
  have e2 := c_plus (gl := gl) (S := S) (k := k) hp (bnd_neg hq) h9
  simp [e1, e2]
theorem over_di (p q : Rat) (hq : q ≠ 0) : Rat.divInt (p.num * q.den) (p.den * q.num) = p * q⁻¹ := by
  rw [Rat.inv_def]
  conv => rhs; rw [← Rat.num_divInt_den p]
  have h1 := frD_den_pos p
  rw [Rat.divInt_mul_divInt]
theorem over_ne (p q : Rat) (hq : q ≠ 0) : (p.den : Int) * q.num ≠ 0 := by
  have h1 := frD_den_pos p
  exact Int.mul_ne_zero (by omega) (num_ne hq)
theorem over_bits (hp : bnd a p) (hq : bnd b q) : ((p.den : Int) * q.num).natAbs < 2 ^ (a + b) := by
  rw [Int.natAbs_mul, Int.natAbs_natCast]
  exact mul_lt_pow hp.2 hq.1
theorem c_over (hp : bnd a p) (hq : bnd b q) (h9 : a + b ≤ 9000) (h0 : q ≠ 0) : call (tab ts) gl (k + 2) 5 [frD p, frD q] S = some (frD (p * q⁻¹), S) := by
  rw [call_of T5 rfl]
  simp only [f_over_fraction, b_over_fraction, startA]
  have e := c_frac (gl := gl) (S := S) (k := k) (n := p.num * q.den) (over_ne p q h0) (over_bits hp hq) h9
  rw [over_di p q h0] at e
  have m1 := mul_int hp.1 (bt hq) h9
  have m3 := mul_int (bt hp) hq.1 h9
  simp [dBin, m1, m3, e]
theorem c_lover (hp : bnd a p) (hq : bnd b q) (h9 : a + b ≤ 9000) (h0 : q ≠ 0) : call (tab ts) gl (k + 1) 23 [.int (p.num * q.den), .int (p.den * q.num)] S = some (frD (p * q⁻¹), S) := by
  have e := c_lowest (gl := gl) (S := S) (k := k) (n := p.num * q.den) (over_ne p q h0) (over_bits hp hq) h9
  rw [over_di p q h0] at e
  exact e
theorem c_whole : call (tab ts) gl (k + 1) 6 [frD p] S = some (.bl (decide ((p.den : Int) = 1)), S) := by
  rw [call_of T6 rfl]
  simp only [f_is_whole_fraction, b_is_whole_fraction, startA]
  simp [dCmp]
end
end Code

namespace Code
open PySem Ab
variable {gl : Str → Option D} {S : Store}
/-! ### rows by place -/
def tupF (n : Nat) (F : Nat → D) : D := .tup ((List.range n).map F)
def lstF (n : Nat) (F : Nat → D) : D := .lst ((List.range n).map F)
def rowF (n : Nat) (f : Nat → Rat) : D := tupF n fun i => frD (f i)
theorem tupF_congr {n : Nat} {F G : Nat → D} (h : ∀ i, i < n → F i = G i) : tupF n F = tupF n G := by
  unfold tupF
  congr 1
  exact List.map_congr_left fun i hi => h i (List.mem_range.mp hi)
theorem rowF_congr {n : Nat} {f g : Nat → Rat} (h : ∀ i, i < n → f i = g i) : rowF n f = rowF n g := tupF_congr fun i hi => by rw [h i hi]
theorem lstF_congr {n : Nat} {F G : Nat → D} (h : ∀ i, i < n → F i = G i) : lstF n F = lstF n G := by
  unfold lstF
  congr 1
  exact List.map_congr_left fun i hi => h i (List.mem_range.mp hi)
theorem atN {n : Nat} {F : Nat → D} {i : Nat} (h : i < n) : at_ ((List.range n).map F) (i : Int) = some (F i) := by
  unfold at_ L2.atI L2.ixN
  rw [if_pos (by omega), if_pos (by simpa using h)]
  simp [h]
theorem ix_tupF {n : Nat} {F : Nat → D} {i : Nat} (h : i < n) : dIx S (tupF n F) (.int (i : Int)) = some (F i) := atN h
theorem ix_rowF {n : Nat} {f : Nat → Rat} {i : Nat} (h : i < n) : dIx S (rowF n f) (.int (i : Int)) = some (frD (f i)) := atN h
theorem ix_lstF {n : Nat} {F : Nat → D} {i : Nat} (h : i < n) : dIx S (lstF n F) (.int (i : Int)) = some (F i) := atN h
@[simp] theorem len_tupF {n : Nat} {F : Nat → D} : dBi S .len [tupF n F] = some (.int n) := by simp [dBi, tupF, items]
@[simp] theorem len_rowF {n : Nat} {f : Nat → Rat} : dBi S .len [rowF n f] = some (.int n) := len_tupF
@[simp] theorem len_lstF {n : Nat} {F : Nat → D} : dBi S .len [lstF n F] = some (.int n) := by simp [dBi, lstF, items]
@[simp] theorem tup_lstF {n : Nat} {F : Nat → D} : dBi S .tuple [.lst ((List.range n).map F)] = some (tupF n F) := by simp [dBi, tupF, items]
@[simp] theorem tup_lstF' {n : Nat} {F : Nat → D} : dBi S .tuple [lstF n F] = some (tupF n F) := by simp [dBi, lstF, tupF, items]
@[simp] theorem bi_int {i : Int} : dBi S .int [.int i] = some (.int i) := nd rfl
theorem bi_abs {i : Int} : dBi S .abs [.int i] = some (.int ((i.natAbs : Nat) : Int)) := by rw [← abs_dn]; rfl
def natsD (n : Nat) : List D := (List.range n).map fun (i : Nat) => D.int (i : Int)
theorem walk_rg {n : Nat} (h : n ≤ sizeLine) : walk true [.int (n : Int)] S = some (natsD n) := by
  show rangeD 0 n = _
  unfold rangeD
  rw [if_pos (by unfold sizeLine at h; omega)]
  simp [natsD]
@[simp] theorem walk_tupF {n : Nat} {F : Nat → D} : walk false [tupF n F] S = some ((List.range n).map F) := nd rfl
@[simp] theorem walk_rowF {n : Nat} {f : Nat → Rat} : walk false [rowF n f] S = some ((List.range n).map fun i => frD (f i)) := nd rfl
@[simp] theorem stays_rg {ds xs : List D} : stays true ds xs = fun _ => true := nd (by
  funext S
  rfl)
@[simp] theorem stays_tup {ds xs : List D} : stays false [.tup ds] xs = fun _ => true := nd (by
  funext S
  rfl)
@[simp] theorem stays_lst {ds xs : List D} : stays false [.lst ds] xs = fun _ => true := nd (by
  funext S
  rfl)
@[simp] theorem stays_tupF {n : Nat} {F : Nat → D} {xs : List D} : stays false [tupF n F] xs = fun _ => true := stays_tup
@[simp] theorem stays_rowF {n : Nat} {F : Nat → Rat} {xs : List D} : stays false [rowF n F] xs = fun _ => true := stays_tup
theorem lc_fn {f : D → Store → Option (Option D × Store)} {n : Nat} {F G : Nat → D} (hn : n ≤ sizeLine) (h : ∀ i, i < n → f (F i) S = some (some (G i), S)) : evLc (fun _ => true) f ((List.range n).map F) [] S = some ((List.range n).map G, S) := by
  refine evLc_map (ys := (List.range n).map G) rfl (by simp) (by simpa using hn) fun i hi hj => ?_
  simpa using h i (by simpa using hi)
theorem lc_nats {f : D → Store → Option (Option D × Store)} {n : Nat} {G : Nat → D} (hn : n ≤ sizeLine) (h : ∀ i : Nat, i < n → f (.int (i : Int)) S = some (some (G i), S)) : evLc (fun _ => true) f (natsD n) [] S = some ((List.range n).map G, S) := lc_fn hn h
theorem for_nats {body : D → AEnv → Store → RS} (I : Nat → AEnv → Prop) {n : Nat} {ρ : AEnv} (h0 : I 0 ρ) (h : ∀ (i : Nat) ρ, i < n → I i ρ → ∃ ρ', body (.int (i : Int)) ρ S = some (.next, ρ', S) ∧ I (i + 1) ρ') : ∃ ρ', evFor (fun _ => true) body (natsD n) ρ S = some (.next, ρ', S) ∧ I n ρ' := by
  obtain ⟨ρ', S', h1, h2, h3⟩ := evFor_inv (chk := fun _ => true) (body := body) (fun n ρ S' => S' = S ∧ I n ρ) (ds := natsD n) (n := 0) (ρ := ρ) (S := S) (fun _ _ _ _ => rfl) ⟨rfl, h0⟩ (fun i hi ρ S' hI => by
    obtain ⟨rfl, hI⟩ := hI
    obtain ⟨ρ', e1, e2⟩ := h i ρ (by simpa [natsD] using hi) (by simpa using hI)
    exact ⟨ρ', _, by simpa [natsD] using e1, rfl, by simpa using e2⟩)
  subst h2
  exact ⟨ρ', h1, by simpa [natsD] using h3⟩
/-! ### the same -/
inductive plainD : Nat → D → Prop
  | non {n : Nat} : plainD n .non
  | bl {n : Nat} (b : Bool) : plainD n (.bl b)
  | int {n : Nat} (b : Int) : plainD n (.int b)
  | tup {n m : Nat} {F : Nat → D} : m ≤ sizeLine → (∀ i, i < m → plainD n (F i)) → plainD (n + 1) (tupF m F)
theorem T22 : tab ts 22 = some f__law_same := rfl
@[simp] theorem eq_bl {i j : Bool} : dEq S (.bl i) (.bl j) = some (i == j) := by
  have h : ∀ i : Bool, SeqAt.shaped (.bool i) = true := fun i => by
    simp only [SeqAt.shaped, Bool.and_eq_true, decide_eq_true_eq]
    exact ⟨rfl, by simp [PyData.depth]⟩
  simp only [dEq, deref, D.py, h, Bool.and_self, if_true, PyData.eqv]
@[simp] theorem isNon_tupF {n : Nat} {F : Nat → D} : (tupF n F).isNon = false := nd rfl
@[simp] theorem isNon_rowF {n : Nat} {F : Nat → Rat} : (rowF n F).isNon = false := nd rfl
@[simp] theorem isNon_int {i : Int} : (D.int i).isNon = false := nd rfl
@[simp] theorem isNon_non : (D.non).isNon = true := nd rfl
@[simp] theorem isNon_bl {b : Bool} : (D.bl b).isNon = false := nd rfl
@[simp] theorem isi_tupF {t : Ty} {n : Nat} {F : Nat → D} : dIsi S t (tupF n F) = some (match t with | .tuple => true | _ => false) := nd rfl
@[simp] theorem cmp_eq {a b : D} : dCmp S .Eq a b = dEq S a b := nd rfl
@[simp] theorem cmp_ne {a b : D} : dCmp S .NotEq a b = (dEq S a b).map (!·) := nd rfl
@[simp] theorem cmp_is {a : D} : dCmp S .Is a .non = some a.isNon := nd rfl
@[simp] theorem cmp_lt {i j : Int} : dCmp S .Lt (.int i) (.int j) = some (decide (i < j)) := nd rfl
@[simp] theorem cmp_gt {i j : Int} : dCmp S .Gt (.int i) (.int j) = some (decide (j < i)) := nd rfl
@[simp] theorem cmp_ge {i j : Int} : dCmp S .GtE (.int i) (.int j) = some (decide (j ≤ i)) := nd rfl
@[simp] theorem un_not {b : Bool} : dUn .Not (.bl b) = some (.bl (!b)) := nd rfl
@[simp] theorem un_neg {b : Int} : dUn .USub (.int b) = some (.int (-b)) := nd rfl
@[simp] theorem bin_int {op : Operator} {i j : Int} : dBin S op (.int i) (.int j) = (dInt op i j).map .int := nd rfl
theorem rep_lst {d : D} {m : Nat} (h : m ≤ sizeLine) : dBin S .Mult (.lst [d]) (.int (m : Int)) = some (lstF m fun _ => d) := by
  have h2 : m < 2 ^ 63 := by
    unfold sizeLine at h
    omega
  simp [dBin, dList, Ab.listOf, lstF, h, h2, List.map_const']
theorem rep_tup {d : D} {m : Nat} (h : m ≤ 1000) : dBin S .Mult (.tup [d]) (.int (m : Int)) = some (tupF m fun _ => d) := by
  simp [dBin, tupF, h, List.map_const']
theorem c_same {n k : Nat} {d : D} (h : plainD n d) : call (tab ts) gl (k + n + 1) 22 [d, d] S = some (.bl true, S) := by
  induction h with
  | @non n =>
    rw [call_of T22 rfl]
    simp only [f__law_same, b__law_same, startA]
    simp [dIsi]
  | @bl n b =>
    rw [call_of T22 rfl]
    simp only [f__law_same, b__law_same, startA]
    simp [dIsi, isAnd]
  | @int n b =>
    rw [call_of T22 rfl]
    simp only [f__law_same, b__law_same, startA]
    simp [dIsi, isAnd]
  | @tup n m F hm h ih =>
      rw [call_of T22 rfl]
      simp only [f__law_same, b__law_same, startA]
      obtain ⟨ρ', h1, h2⟩ := for_nats (S := S) (body := forF (call (tab ts) gl (k + (n + 1))) gl (.name 2) [.ite (.un .Not (.call 22 [(.ix (.var 0) (.var 2)), (.ix (.var 1) (.var 2))])) [.ret (.lit (.bl false))] []]) (fun _ ρ => ∃ x, ρ = [some (tupF m F), some (tupF m F), x]) (n := m) (ρ := [some (tupF m F), some (tupF m F), none]) ⟨_, rfl⟩ (fun i ρ hi ⟨x, hx⟩ => by
        subst hx
        refine ⟨[some (tupF m F), some (tupF m F), some (.int (i : Int))], ?_, _, rfl⟩
        have ih' : call (tab ts) gl (k + (n + 1)) 22 [F i, F i] S = some (.bl true, S) := ih i hi
        simp [forF, Tg.bind, ix_tupF hi, ih'])
      obtain ⟨x, rfl⟩ := h2
      simp [walk_rg hm, isAnd, h1]
end Code

namespace Code
open PySem Ab
variable {S : Store} {k : Nat}
/-! ### sums -/
def sumR : Nat → (Nat → Rat) → Rat
  | 0, _ => 0
  | n + 1, f => sumR n f + f n
def bndN (n b : Nat) (f : Nat → Rat) : Prop := ∀ i, i < n → bnd b (f i)
theorem bnd_0 : bnd 1 0 := by
  constructor <;> decide
theorem bnd_1 : bnd 1 1 := by
  constructor <;> decide
theorem bnd_sum {c : Nat} {f : Nat → Rat} : ∀ {n : Nat}, bndN n c f → bnd (n * (c + 1) + 1) (sumR n f)
  | 0, _ => by simpa [sumR] using bnd_0
  | n + 1, h => by
    have h1 := bnd_sum (n := n) fun i hi => h i (by omega)
    have h2 := bnd_add h1 (h n (by omega))
    exact bnd_mono h2 (by rw [Nat.add_mul]; omega)
theorem sumR_congr {f g : Nat → Rat} : ∀ {n : Nat}, (∀ i, i < n → f i = g i) → sumR n f = sumR n g
  | 0, _ => rfl
  | n + 1, h => by rw [sumR, sumR, sumR_congr fun i hi => h i (by omega), h n (by omega)]
abbrev G := glT gls
@[simp] theorem g_none : G "NONE" = some (frD 0) := by rfl
@[simp] theorem g_one : G "ONE" = some (frD 1) := by rfl
theorem frD_0 : frD 0 = .tup [.int 0, .int 1] := rfl
theorem frD_1 : frD 1 = .tup [.int 1, .int 1] := rfl
theorem frD_int (i : Int) : frD (i : Rat) = .tup [.int i, .int 1] := rfl
theorem T7 : tab ts 7 = some f_sum_of_fractions := rfl
theorem T8 : tab ts 8 = some f_times_row := rfl
theorem T9 : tab ts 9 = some f_rows_plus := rfl
theorem T10 : tab ts 10 = some f_with_times_row := rfl
theorem T11 : tab ts 11 = some f_row_times_square := rfl
theorem T12 : tab ts 12 = some f_row_times_column := rfl
theorem T13 : tab ts 13 = some f_square_times_column := rfl
theorem T14 : tab ts 14 = some f_first_place_not_none := rfl
theorem T15 : tab ts 15 = some f_cleared_row := rfl
theorem T16 : tab ts 16 = some f_basis_with := rfl
theorem T17 : tab ts 17 = some f_multiples_by := rfl
theorem T18 : tab ts 18 = some f_as_multiples := rfl
theorem T26 : tab ts 26 = some f__law_dot := rfl
theorem T27 : tab ts 27 = some f__law_through := rfl
@[simp] theorem len_0 {α : Type} {a : α} {l : List α} : (a :: l).length ≤ sizeLine ↔ l.length + 1 ≤ sizeLine := Iff.rfl
theorem num0 {q : Rat} : q.num = 0 ↔ q = 0 := Rat.num_eq_zero
theorem c_times_row {n a b : Nat} {q : Rat} {f : Nat → Rat} (hn : n ≤ sizeLine) (hq : bnd a q) (hf : bndN n b f) (h9 : a + b ≤ 9000) : call (tab ts) G (k + 3) 8 [frD q, rowF n f] S = some (rowF n fun i => q * f i, S) := by
  rw [call_of T8 rfl]
  simp only [f_times_row, b_times_row, startA]
  have e := lc_fn (S := S) (f := lcBk (call (tab ts) G (k + 2)) G (.name 2) [] (.call 2 [.var 0, .var 2]) [some (frD q), some (rowF n f), none]) (F := fun i => frD (f i)) (G := fun i => frD (q * f i)) hn fun i hi => by
    have e := c_times (gl := G) (S := S) (k := k) hq (hf i hi) h9
    simp [lcBk, Tg.bind, e]
  simp [wipeA, e]
  rfl
theorem c_rows_plus {n a b : Nat} {f g : Nat → Rat} (hn : n ≤ sizeLine) (hf : bndN n a f) (hg : bndN n b g) (h9 : a + b ≤ 9000) : call (tab ts) G (k + 3) 9 [rowF n f, rowF n g] S = some (rowF n fun i => f i + g i, S) := by
  rw [call_of T9 rfl]
  simp only [f_rows_plus, b_rows_plus, startA]
  have e := lc_nats (S := S) (f := lcBk (call (tab ts) G (k + 2)) G (.name 2) [] (.call 1 [.ix (.var 0) (.var 2), .ix (.var 1) (.var 2)]) [some (rowF n f), some (rowF n g), none]) (G := fun i => frD (f i + g i)) hn fun i hi => by
    have e := c_plus (gl := G) (S := S) (k := k) (hf i hi) (hg i hi) h9
    simp [lcBk, Tg.bind, ix_rowF hi, e]
  simp [wipeA, walk_rg hn, e]
  rfl
theorem c_with {n a b c : Nat} {q : Rat} {f g : Nat → Rat} (hn : n ≤ sizeLine) (hf : bndN n a f) (hq : bnd b q) (hg : bndN n c g) (h9 : a + (b + c) ≤ 9000) : call (tab ts) G (k + 3) 10 [lstF n (fun i => frD (f i)), frD q, rowF n g] S = some (lstF n fun i => frD (f i + q * g i), S) := by
  rw [call_of T10 rfl]
  simp only [f_with_times_row, b_with_times_row, startA]
  have e := lc_nats (S := S) (f := lcBk (call (tab ts) G (k + 2)) G (.name 3) [] (.ite (.cmp .Eq (.ix (.ix (.var 2) (.var 3)) (.lit (.int 0))) (.lit (.int 0))) (.ix (.var 0) (.var 3)) (.call 1 [(.ix (.var 0) (.var 3)), (.call 2 [(.var 1), (.ix (.var 2) (.var 3))])])) [some (lstF n fun i => frD (f i)), some (frD q), some (rowF n g), none]) (G := fun i => frD (f i + q * g i)) hn fun i hi => by
    have e := c_times (gl := G) (S := S) (k := k) hq (hg i hi) (by omega)
    have e' := c_plus (gl := G) (S := S) (k := k) (hf i hi) (bnd_mul hq (hg i hi)) h9
    by_cases h : g i = 0
    · simp [lcBk, Tg.bind, ix_rowF hi, ix_lstF hi, h, num0, Rat.add_zero]
    · simp [lcBk, Tg.bind, ix_rowF hi, ix_lstF hi, num0, h, e, e']
  simp [wipeA, walk_rg hn, e]
  rfl

theorem c_rts {n m a b : Nat} {f : Nat → Rat} {R : Nat → Nat → Rat} (h0 : 0 < n) (hn : n ≤ sizeLine) (hm : m ≤ sizeLine) (hf : bndN n a f) (hR : ∀ i, i < n → bndN m b (R i)) (h9 : n * (a + b + 1) + 1 ≤ 9000) :
    call (tab ts) G (k + 4) 11 [rowF n f, tupF n fun i => rowF m (R i)] S = some (rowF m fun j => sumR n fun i => f i * R i j, S) := by
  rw [call_of T11 rfl]
  simp only [f_row_times_square, b_row_times_square, startA]
  obtain ⟨ρ', h1, x, rfl⟩ := for_nats (S := S) (body := forF (call (tab ts) G (k + 3)) G (.name 3) [.ite (.cmp .NotEq (.ix (.ix (.var 0) (.var 3)) (.lit (.int 0))) (.lit (.int 0))) [.asg (.name 2) (.call 10 [(.var 2), (.ix (.var 0) (.var 3)), (.ix (.var 1) (.var 3))])] []])
    (fun i ρ => ∃ x, ρ = [some (rowF n f), some (tupF n fun i => rowF m (R i)), some (lstF m fun j => frD (sumR i fun i => f i * R i j)), x]) (n := n) (ρ := [some (rowF n f), some (tupF n fun i => rowF m (R i)), some (lstF m fun _ => frD 0), none]) ⟨_, rfl⟩ (fun i ρ hi ⟨x, hx⟩ => by
      subst hx
      refine ⟨[some (rowF n f), some (tupF n fun i => rowF m (R i)), some (lstF m fun j => frD (sumR (i + 1) fun i => f i * R i j)), some (.int (i : Int))], ?_, _, rfl⟩
      by_cases h : f i = 0
      · have e : (lstF m fun j => frD (sumR (i + 1) fun i => f i * R i j)) = lstF m fun j => frD (sumR i fun i => f i * R i j) := lstF_congr fun j hj => by
          rw [sumR, h, Rat.zero_mul, Rat.add_zero]
        rw [e]
        simp [forF, Tg.bind, ix_rowF hi, h]
      · have hb : bndN m (i * (a + b + 1) + 1) fun j => sumR i fun i => f i * R i j := fun j hj => bnd_sum fun i' hi' => bnd_mul (hf i' (by omega)) (hR i' (by omega) j hj)
        have hz : (i + 1) * (a + b + 1) ≤ n * (a + b + 1) := Nat.mul_le_mul_right _ (by omega)
        rw [Nat.add_mul] at hz
        have e := c_with (S := S) (k := k) hm hb (hf i hi) (hR i hi) (by omega)
        simp [forF, Tg.bind, ix_rowF hi, ix_tupF hi, num0, h, e]
        rfl)
  have e0 : dIx S (tupF n fun i => rowF m (R i)) (.int 0) = some (rowF m (R 0)) := ix_tupF (i := 0) h0
  simp [sizeLine, e0, rep_lst hm, Tg.bind, walk_rg hn, h1]
  rfl
theorem c_dot {n a b : Nat} {f g : Nat → Rat} (hn : n ≤ sizeLine) (hf : bndN n a f) (hg : bndN n b g) (h9 : n * (a + b + 1) + 1 ≤ 9000) : call (tab ts) G (k + 3) 26 [rowF n f, rowF n g] S = some (frD (sumR n fun i => f i * g i), S) := by
  rw [call_of T26 rfl]
  simp only [f__law_dot, b__law_dot, startA]
  obtain ⟨ρ', h1, x, rfl⟩ := for_nats (S := S) (body := forF (call (tab ts) G (k + 2)) G (.name 3) [.asg (.name 2) (.call 24 [(.var 2), (.call 25 [(.ix (.var 0) (.var 3)), (.ix (.var 1) (.var 3))])])])
    (fun i ρ => ∃ x, ρ = [some (rowF n f), some (rowF n g), some (frD (sumR i fun i => f i * g i)), x]) (n := n) (ρ := [some (rowF n f), some (rowF n g), some (.tup [.int 0, .int 1]), none]) ⟨_, rfl⟩ (fun i ρ hi ⟨x, hx⟩ => by
      subst hx
      refine ⟨[some (rowF n f), some (rowF n g), some (frD (sumR (i + 1) fun i => f i * g i)), some (.int (i : Int))], ?_, _, rfl⟩
      have hb : bnd (i * (a + b + 1) + 1) (sumR i fun i => f i * g i) := bnd_sum fun i' hi' => bnd_mul (hf i' (by omega)) (hg i' (by omega))
      have hz : (i + 1) * (a + b + 1) ≤ n * (a + b + 1) := Nat.mul_le_mul_right _ (by omega)
      rw [Nat.add_mul] at hz
      have e := c_ltimes (gl := G) (S := S) (k := k) (hf i hi) (hg i hi) (by omega)
      have e' := c_lplus (gl := G) (S := S) (k := k) hb (bnd_mul (hf i hi) (hg i hi)) (by omega)
      simp [forF, Tg.bind, ix_rowF hi, e, e']
      rfl)
  simp [sizeLine, Tg.bind, walk_rg hn, h1]
theorem c_through {n m a b : Nat} {f : Nat → Rat} {R : Nat → Nat → Rat} (h0 : 0 < n) (hn : n ≤ sizeLine) (hm : m ≤ sizeLine) (hf : bndN n a f) (hR : ∀ i, i < n → bndN m b (R i)) (h9 : n * (a + b + 1) + 1 ≤ 9000) :
    call (tab ts) G (k + 4) 27 [rowF n f, tupF n fun i => rowF m (R i)] S = some (rowF m fun j => sumR n fun i => f i * R i j, S) := by
  rw [call_of T27 rfl]
  simp only [f__law_through, b__law_through, startA]
  have e0 : dIx S (tupF n fun i => rowF m (R i)) (.int 0) = some (rowF m (R 0)) := ix_tupF (i := 0) h0
  have e := lc_nats (S := S) (f := lcBk (call (tab ts) G (k + 3)) G (.name 2) [] (.call 26 [(.var 0), (.bi .tuple [(.lc [3] (.name 3) false [(.var 1)] [] (.ix (.var 3) (.var 2)))])]) [some (rowF n f), some (tupF n fun i => rowF m (R i)), none, none]) (n := m) (G := fun j => frD (sumR n fun i => f i * R i j)) hm fun j hj => by
    have e1 := lc_fn (S := S) (f := lcBk (call (tab ts) G (k + 3)) G (.name 3) [] (.ix (.var 3) (.var 2)) [some (rowF n f), some (tupF n fun i => rowF m (R i)), some (.int (j : Int)), none]) (F := fun i => rowF m (R i)) (G := fun i => frD (R i j)) hn fun i hi => by
      simp [lcBk, Tg.bind, ix_rowF hj]
    have e2 := c_dot (S := S) (k := k) (g := fun i => R i j) hn hf (fun i hi => hR i hi j hj) h9
    have e3 : (tupF n fun i => frD (R i j)) = rowF n fun i => R i j := rfl
    simp [lcBk, Tg.bind, wipeA, e1, e3, e2]
  simp [wipeA, e0, walk_rg hm, e]
  rfl
end Code

namespace Code
open PySem Ab
variable {S : Store} {k : Nat}
def sumL (L : List Rat) : Rat := L.foldl (· + ·) 0
theorem sumL_take {L : List Rat} {i : Nat} (h : i < L.length) : sumL (L.take (i + 1)) = sumL (L.take i) + L[i] := by
  unfold sumL
  rw [List.take_succ_eq_append_getElem h, List.foldl_append]
  rfl
theorem bnd_sumL {L : List Rat} {c : Nat} (h : ∀ q ∈ L, bnd c q) : ∀ {i : Nat}, i ≤ L.length → bnd (i * (c + 1) + 1) (sumL (L.take i))
  | 0, _ => by simpa [sumL] using bnd_0
  | i + 1, hi => by
    rw [sumL_take (by omega)]
    exact bnd_mono (bnd_add (bnd_sumL h (by omega)) (h _ (List.getElem_mem (by omega)))) (by rw [Nat.add_mul]; omega)
theorem c_sumfr {L : List Rat} {c : Nat} (hc : ∀ q ∈ L, bnd c q) (h9 : L.length * (c + 1) + 1 ≤ 9000) : call (tab ts) G (k + 3) 7 [.lst (L.map frD)] S = some (frD (sumL L), S) := by
  rw [call_of T7 rfl]
  simp only [f_sum_of_fractions, b_sum_of_fractions, startA]
  obtain ⟨ρ', S', h1, rfl, x, rfl⟩ := evFor_inv (chk := fun _ => true) (body := forF (call (tab ts) G (k + 2)) G (.name 2) [.ite (.cmp .NotEq (.ix (.var 2) (.lit (.int 0))) (.lit (.int 0))) [.asg (.name 1) (.call 1 [(.var 1), (.var 2)])] []])
    (fun i ρ S' => S' = S ∧ ∃ x, ρ = [some (.lst (L.map frD)), some (frD (sumL (L.take i))), x]) (ds := L.map frD) (n := 0) (ρ := [some (.lst (L.map frD)), some (frD 0), none]) (S := S) (fun _ _ _ _ => rfl) ⟨rfl, none, rfl⟩ (fun i hi ρ S' ⟨hS, x, hx⟩ => by
      subst hS
      subst hx
      have hi' : i < L.length := by simpa using hi
      refine ⟨[some (.lst (L.map frD)), some (frD (sumL (L.take (i + 1)))), some (frD L[i])], S', ?_, rfl, _, by rw [Nat.zero_add]⟩
      have hz : (i + 1) * (c + 1) ≤ L.length * (c + 1) := Nat.mul_le_mul_right _ (by omega)
      rw [Nat.add_mul] at hz
      have e := c_plus (gl := G) (S := S') (k := k) (bnd_sumL hc (i := i) (by omega)) (hc L[i] (List.getElem_mem hi')) (by omega)
      rw [sumL_take hi']
      by_cases h : L[i] = 0
      · simp [forF, Tg.bind, h, Rat.add_zero]
      · simp [forF, Tg.bind, num0, h, e])
  simp [Tg.bind, walk, items, h1, Nat.zero_add]
theorem evLc_fm {f : D → Store → Option (Option D × Store)} {F : Nat → D} {φ : Nat → Option D} : ∀ {is : List Nat} {acc : List D}, acc.length + is.length ≤ sizeLine → (∀ i ∈ is, f (F i) S = some (φ i, S)) → evLc (fun _ => true) f (is.map F) acc S = some (acc ++ is.filterMap φ, S)
  | [], acc, _, _ => by simp [evLc]
  | i :: is, acc, hz, h => by
    have h0 := h i (by simp)
    simp only [List.length_cons] at hz
    rw [List.map_cons, evLc, if_pos rfl, h0]
    cases e : φ i with
    | none =>
      simp only [List.filterMap_cons, e]
      exact evLc_fm (by omega) fun j hj => h j (by simp [hj])
    | some y =>
      simp only [List.filterMap_cons, e]
      rw [if_pos (by omega), evLc_fm (by rw [List.length_append]; simp only [List.length_cons, List.length_nil]; omega) fun j hj => h j (by simp [hj]), List.append_assoc]
      rfl
theorem sumL_fm {ψ : Nat → Option Rat} {x : Nat → Rat} (h : ∀ i, (ψ i).getD 0 = x i) : ∀ n, sumL ((List.range n).filterMap ψ) = sumR n x
  | 0 => rfl
  | n + 1 => by
    rw [List.range_succ, List.filterMap_append, sumR, ← sumL_fm h n, ← h n]
    unfold sumL
    rw [List.foldl_append]
    cases e : ψ n with
    | none => simp [e, Rat.add_zero]
    | some y => simp [e]
theorem c_rtc {n a b : Nat} {f g : Nat → Rat} (hn : n ≤ sizeLine) (hf : bndN n a f) (hg : bndN n b g) (h9 : n * (a + b + 1) + 1 ≤ 9000) (h8 : a + b ≤ 9000) : call (tab ts) G (k + 4) 12 [rowF n f, rowF n g] S = some (frD (sumR n fun i => f i * g i), S) := by
  rw [call_of T12 rfl]
  simp only [f_row_times_column, b_row_times_column, startA]
  let ψ : Nat → Option Rat := fun i => if f i ≠ 0 ∧ g i ≠ 0 then some (f i * g i) else none
  have e := evLc_fm (S := S) (f := lcBk (call (tab ts) G (k + 3)) G (.name 3) [(.bop .And [(.cmp .NotEq (.ix (.ix (.var 0) (.var 3)) (.lit (.int 0))) (.lit (.int 0))), (.cmp .NotEq (.ix (.ix (.var 1) (.var 3)) (.lit (.int 0))) (.lit (.int 0)))])] (.call 2 [(.ix (.var 0) (.var 3)), (.ix (.var 1) (.var 3))]) [some (rowF n f), some (rowF n g), none, none]) (F := fun (i : Nat) => .int (i : Int)) (φ := fun i => (ψ i).map frD) (is := List.range n) (acc := []) (by simpa using hn) fun i hi => by
    have hi := List.mem_range.mp hi
    have e := c_times (gl := G) (S := S) (k := k + 1) (hf i hi) (hg i hi) h8
    by_cases h1 : f i = 0
    · simp [lcBk, Tg.bind, ix_rowF hi, h1, isAnd, ψ]
    · by_cases h2 : g i = 0
      · simp [lcBk, Tg.bind, ix_rowF hi, h1, h2, num0, isAnd, ψ]
      · simp [lcBk, Tg.bind, ix_rowF hi, h1, h2, num0, isAnd, ψ, e]
  have e2 : (List.range n).filterMap (fun i => (ψ i).map frD) = ((List.range n).filterMap ψ).map frD := by rw [List.map_filterMap]
  have e3 := sumL_fm (ψ := ψ) (x := fun i => f i * g i) (fun i => by
    by_cases h1 : f i = 0
    · simp [ψ, h1]
    · by_cases h2 : g i = 0
      · simp [ψ, h2]
      · simp [ψ, h1, h2]) n
  have hl : ((List.range n).filterMap ψ).length ≤ n := Nat.le_trans (List.length_filterMap_le _ _) (by simp)
  have e4 := c_sumfr (S := S) (k := k) (L := (List.range n).filterMap ψ) (c := a + b) (fun q hq => by
    obtain ⟨i, hi, h⟩ := List.mem_filterMap.mp hq
    have hi := List.mem_range.mp hi
    simp only [ψ] at h
    split at h
    · cases h
      exact bnd_mul (hf i hi) (hg i hi)
    · cases h) (by
      have := Nat.mul_le_mul_right (a + b + 1) hl
      omega)
  rw [e2] at e
  have e' : evLc (fun _ => true) _ (natsD n) _ S = _ := e
  rw [e3] at e4
  simp [wipeA, walk_rg hn, e', Tg.bind, e4]
theorem c_stc {n m a b : Nat} {R : Nat → Nat → Rat} {g : Nat → Rat} (hn : n ≤ sizeLine) (hm : m ≤ sizeLine) (hR : ∀ i, i < n → bndN m a (R i)) (hg : bndN m b g) (h9 : m * (a + b + 1) + 1 ≤ 9000) (h8 : a + b ≤ 9000) :
    call (tab ts) G (k + 5) 13 [tupF n fun i => rowF m (R i), rowF m g] S = some (rowF n fun i => sumR m fun j => R i j * g j, S) := by
  rw [call_of T13 rfl]
  simp only [f_square_times_column, b_square_times_column, startA]
  have e := lc_fn (S := S) (f := lcBk (call (tab ts) G (k + 4)) G (.name 2) [] (.call 12 [(.var 2), (.var 1)]) [some (tupF n fun i => rowF m (R i)), some (rowF m g), none]) (F := fun i => rowF m (R i)) (G := fun i => frD (sumR m fun j => R i j * g j)) hn fun i hi => by
    have e := c_rtc (S := S) (k := k) hm (hR i hi) hg h9 h8
    simp [lcBk, Tg.bind, e]
  simp [wipeA, e]
  rfl
/-! ### the first place -/
theorem evFor_find {body : D → AEnv → Store → RS} {I : AEnv → Prop} {P : Nat → Prop} [DecidablePred P] {g : Nat → D} : ∀ {is : List Nat} {ρ : AEnv}, I ρ →
    (∀ i, i ∈ is → ∀ ρ, I ρ → (P i → ∃ ρ', body (.int (i : Int)) ρ S = some (.ret (g i), ρ', S)) ∧ (¬ P i → ∃ ρ', body (.int (i : Int)) ρ S = some (.next, ρ', S) ∧ I ρ')) →
    (∃ i, i ∈ is ∧ P i ∧ ∃ ρ', evFor (fun _ => true) body (is.map fun (i : Nat) => .int (i : Int)) ρ S = some (.ret (g i), ρ', S)) ∨ ((∀ i, i ∈ is → ¬ P i) ∧ ∃ ρ', evFor (fun _ => true) body (is.map fun (i : Nat) => .int (i : Int)) ρ S = some (.next, ρ', S) ∧ I ρ')
  | [], ρ, h0, _ => .inr ⟨by simp, ρ, by simp [evFor], h0⟩
  | i :: is, ρ, h0, h => by
    obtain ⟨h1, h2⟩ := h i (by simp) ρ h0
    by_cases hp : P i
    · obtain ⟨ρ', e⟩ := h1 hp
      exact .inl ⟨i, by simp, hp, ρ', by simp [evFor, e]⟩
    · obtain ⟨ρ', e, hI⟩ := h2 hp
      rcases evFor_find (is := is) hI (fun j hj => h j (by simp [hj])) with ⟨j, a1, a2, ρ2, a3⟩ | ⟨a1, ρ2, a2, a3⟩
      · exact .inl ⟨j, by simp [a1], a2, ρ2, by simp [evFor, e, a3]⟩
      · exact .inr ⟨fun j hj => by
          rcases List.mem_cons.mp hj with rfl | hj
          · exact hp
          · exact a1 j hj, ρ2, by simp [evFor, e, a2], a3⟩
theorem c_first {n : Nat} {f : Nat → Rat} (hn : n ≤ sizeLine) : (∃ p, p < n ∧ f p ≠ 0 ∧ call (tab ts) G (k + 1) 14 [rowF n f] S = some (.int (p : Int), S)) ∨ ((∀ i, i < n → f i = 0) ∧ call (tab ts) G (k + 1) 14 [rowF n f] S = some (.non, S)) := by
  rw [call_of T14 rfl]
  simp only [f_first_place_not_none, b_first_place_not_none, startA]
  rcases evFor_find (S := S) (body := forF (call (tab ts) G k) G (.name 1) [.ite (.cmp .NotEq (.ix (.ix (.var 0) (.var 1)) (.lit (.int 0))) (.lit (.int 0))) [.ret (.var 1)] []]) (I := fun ρ => ∃ x, ρ = [some (rowF n f), x]) (P := fun i => f i ≠ 0) (g := fun i => .int (i : Int)) (is := List.range n) (ρ := [some (rowF n f), none]) ⟨_, rfl⟩ (fun i hi ρ ⟨x, hx⟩ => by
    subst hx
    have hi := List.mem_range.mp hi
    constructor
    · intro h
      exact ⟨[some (rowF n f), some (.int (i : Int))], by simp [forF, Tg.bind, ix_rowF hi, num0, h]⟩
    · intro h
      have h : f i = 0 := Decidable.not_not.mp h
      exact ⟨[some (rowF n f), some (.int (i : Int))], by simp [forF, Tg.bind, ix_rowF hi, h], _, rfl⟩) with ⟨p, h1, h2, ρ', h3⟩ | ⟨h1, ρ', h2, x, rfl⟩
  · refine .inl ⟨p, List.mem_range.mp h1, h2, ?_⟩
    have h3 : evFor (fun _ => true) _ (natsD n) _ S = _ := h3
    simp [walk_rg hn, h3]
  · refine .inr ⟨fun i hi => Decidable.not_not.mp (h1 i (List.mem_range.mpr hi)), ?_⟩
    have h2 : evFor (fun _ => true) _ (natsD n) _ S = _ := h2
    simp [walk_rg hn, h2]
end Code

namespace Code
open PySem Ab
variable {S : Store} {k : Nat}
/-! ### clearing: a basis's elements, what a turn does -/
structure E where
  p : Nat
  o : Nat → Rat
  mu : Nat → Rat
  ob : Nat
  mb : Nat
def bD (w m : Nat) (e : E) : D := .tup [.int (e.p : Int), rowF w e.o, rowF m e.mu]
def stV (e : E) (v : Nat → Rat) : Nat → Rat := fun i => v i + (-(v e.p)) * e.o i
def stU (e : E) (v u : Nat → Rat) : Nat → Rat := fun i => u i + v e.p * e.mu i
def clrV : List E → (Nat → Rat) → Nat → Rat
  | [], v => v
  | e :: B, v => clrV B (stV e v)
def clrU : List E → (Nat → Rat) → (Nat → Rat) → Nat → Rat
  | [], _, u => u
  | e :: B, v, u => clrU B (stV e v) (stU e v u)
def stB (e : Nat × Nat) (s : Nat × Nat) : Nat × Nat := (s.1 + (s.1 + e.1) + 1, s.2 + (s.1 + e.2) + 1)
def clrB : List (Nat × Nat) → Nat × Nat → Nat × Nat
  | [], s => s
  | e :: B, s => clrB B (stB e s)
def bits (B : List E) : List (Nat × Nat) := B.map fun e => (e.ob, e.mb)
def E.ok (w m : Nat) (e : E) : Prop := e.p < w ∧ bndN w e.ob e.o ∧ bndN m e.mb e.mu
def le2 (s t : Nat × Nat) : Prop := s.1 ≤ t.1 ∧ s.2 ≤ t.2
theorem stB_mono {e e' s s' : Nat × Nat} (h : le2 e e') (h' : le2 s s') : le2 (stB e s) (stB e' s') := by
  obtain ⟨h1, h2⟩ := h
  obtain ⟨h3, h4⟩ := h'
  constructor <;> simp only [stB] <;> omega
theorem le2_refl (s : Nat × Nat) : le2 s s := ⟨Nat.le_refl _, Nat.le_refl _⟩
theorem stB_up (e s : Nat × Nat) : le2 s (stB e s) := by
  constructor <;> simp only [stB] <;> omega
theorem le2_trans {s t u : Nat × Nat} (h : le2 s t) (h' : le2 t u) : le2 s u := ⟨Nat.le_trans h.1 h'.1, Nat.le_trans h.2 h'.2⟩
theorem clrB_up : ∀ (B : List (Nat × Nat)) (s : Nat × Nat), le2 s (clrB B s)
  | [], s => le2_refl s
  | e :: B, s => le2_trans (stB_up e s) (clrB_up B _)
theorem clrB_mono : ∀ (B : List (Nat × Nat)) {s t : Nat × Nat}, le2 s t → le2 (clrB B s) (clrB B t)
  | [], _, _, h => h
  | e :: B, _, _, h => clrB_mono B (stB_mono (le2_refl e) h)
theorem clrB_app (B C : List (Nat × Nat)) (s : Nat × Nat) : clrB (B ++ C) s = clrB C (clrB B s) := by
  induction B generalizing s with
  | nil => rfl
  | cons e B ih => exact ih _
/-- the bits of what is cleared -/
theorem clr_bits {w m : Nat} : ∀ {B : List E} {v u : Nat → Rat} {fb ub : Nat}, (∀ e ∈ B, e.ok w m) → bndN w fb v → bndN m ub u → bndN w (clrB (bits B) (fb, ub)).1 (clrV B v) ∧ bndN m (clrB (bits B) (fb, ub)).2 (clrU B v u)
  | [], _, _, _, _, _, hv, hu => ⟨hv, hu⟩
  | e :: B, v, u, fb, ub, ho, hv, hu => by
    obtain ⟨h1, h2, h3⟩ := ho e (by simp)
    refine clr_bits (B := B) (v := stV e v) (u := stU e v u) (fb := (stB (e.ob, e.mb) (fb, ub)).1) (ub := (stB (e.ob, e.mb) (fb, ub)).2) (fun e he => ho e (by simp [he])) (fun i hi => ?_) (fun i hi => ?_)
    · exact bnd_add (hv i hi) (bnd_mul (bnd_neg (hv _ h1)) (h2 i hi))
    · exact bnd_add (hu i hi) (bnd_mul (hv _ h1) (h3 i hi))
def bdyC : List IS := [.asg (.name 7) (.ix (.var 1) (.var 4)),
    .ite (.cmp .NotEq (.ix (.var 7) (.lit (.int 0))) (.lit (.int 0))) [.asg (.name 1) (.call 9 [(.var 1), (.call 8 [(.call 3 [(.var 7)]), (.var 5)])]),
    .asg (.name 3) (.call 9 [(.var 3), (.call 8 [(.var 7), (.var 6)])])] []]
theorem c_clrF {w m : Nat} (hw : w ≤ sizeLine) (hm : m ≤ 1000) {d0 d2 : D} : ∀ {B : List E} {v u : Nat → Rat} {fb ub : Nat} {x4 x5 x6 x7 : Option D}, (∀ e ∈ B, e.ok w m) → bndN w fb v → bndN m ub u → le2 (clrB (bits B) (fb, ub)) (9000, 9000) →
    ∃ y4 y5 y6 y7, evFor (fun _ => true) (forF (call (tab ts) G (k + 3)) G (.tup [(.name 4), (.name 5), (.name 6)]) bdyC) (B.map (bD w m)) [some d0, some (rowF w v), some d2, some (rowF m u), x4, x5, x6, x7] S = some (.next, [some d0, some (rowF w (clrV B v)), some d2, some (rowF m (clrU B v u)), y4, y5, y6, y7], S)
  | [], v, u, fb, ub, x4, x5, x6, x7, _, _, _, _ => ⟨x4, x5, x6, x7, by simp [evFor, clrV, clrU]⟩
  | e :: B, v, u, fb, ub, x4, x5, x6, x7, ho, hv, hu, h9 => by
    have hm' : m ≤ sizeLine := by
      unfold sizeLine
      omega
    have ho' := ho e (by simp)
    obtain ⟨h1, h2, h3⟩ := ho'
    have hs := le2_trans (clrB_up (bits B) (stB (e.ob, e.mb) (fb, ub))) h9
    have hs1 : fb + (fb + e.ob) + 1 ≤ 9000 := hs.1
    have hs2 : ub + (fb + e.mb) + 1 ≤ 9000 := hs.2
    have bv : bndN w (fb + (fb + e.ob) + 1) (stV e v) := fun i hi => bnd_add (hv i hi) (bnd_mul (bnd_neg (hv _ h1)) (h2 i hi))
    have bu : bndN m (ub + (fb + e.mb) + 1) (stU e v u) := fun i hi => bnd_add (hu i hi) (bnd_mul (hv _ h1) (h3 i hi))
    obtain ⟨y4, y5, y6, y7, ih⟩ := c_clrF hw hm (d0 := d0) (d2 := d2) (B := B) (v := stV e v) (u := stU e v u) (x4 := some (.int (e.p : Int))) (x5 := some (rowF w e.o)) (x6 := some (rowF m e.mu)) (x7 := some (frD (v e.p))) (fun e he => ho e (by simp [he])) bv bu h9
    refine ⟨y4, y5, y6, y7, ?_⟩
    rw [List.map_cons, evFor, if_pos rfl]
    have step : forF (call (tab ts) G (k + 3)) G (.tup [(.name 4), (.name 5), (.name 6)]) bdyC (bD w m e) [some d0, some (rowF w v), some d2, some (rowF m u), x4, x5, x6, x7] S = some (.next, [some d0, some (rowF w (stV e v)), some d2, some (rowF m (stU e v u)), some (.int (e.p : Int)), some (rowF w e.o), some (rowF m e.mu), some (frD (v e.p))], S) := by
      by_cases h : v e.p = 0
      · have e1 : rowF w (stV e v) = rowF w v := rowF_congr fun i _ => by
          simp only [stV, h]
          grind
        have e2 : rowF m (stU e v u) = rowF m u := rowF_congr fun i _ => by
          simp only [stU, h]
          grind
        rw [e1, e2]
        simp [forF, bD, bdyC, Tg.bind, Tg.binds, ix_rowF h1, h]
      · have a1 := c_turned (gl := G) (S := S) (k := k + 2) (p := v e.p)
        have a2 := c_times_row (S := S) (k := k) hw (bnd_neg (hv _ h1)) h2 (by omega)
        have a3 := c_rows_plus (S := S) (k := k) hw hv (fun i hi => bnd_mul (bnd_neg (hv _ h1)) (h2 i hi)) (by omega)
        have a4 := c_times_row (S := S) (k := k) hm' (hv _ h1) h3 (by omega)
        have a5 := c_rows_plus (S := S) (k := k) hm' hu (fun i hi => bnd_mul (hv _ h1) (h3 i hi)) (by omega)
        simp [forF, bD, bdyC, Tg.bind, Tg.binds, ix_rowF h1, h, num0, a1, a2, a3, a4, a5]
        exact ⟨rfl, rfl⟩
    rw [step]
    exact ih
theorem c_clear {w m : Nat} {B : List E} {v : Nat → Rat} {fb : Nat} (hw : w ≤ sizeLine) (hm : m ≤ 1000) (ho : ∀ e ∈ B, e.ok w m) (hv : bndN w fb v) (h9 : le2 (clrB (bits B) (fb, 1)) (9000, 9000)) :
    call (tab ts) G (k + 4) 15 [.lst (B.map (bD w m)), rowF w v, .int (m : Int)] S = some (.tup [rowF w (clrV B v), rowF m (clrU B v fun _ => 0)], S) := by
  rw [call_of T15 rfl]
  simp only [f_cleared_row, b_cleared_row, startA]
  obtain ⟨y4, y5, y6, y7, e⟩ := c_clrF (S := S) (k := k) hw hm (d0 := .lst (B.map (bD w m))) (d2 := .int (m : Int)) (B := B) (v := v) (u := fun _ => 0) (fb := fb) (ub := 1) (x4 := none) (x5 := none) (x6 := none) (x7 := none) ho hv (fun i _ => bnd_0) h9
  have e : evFor _ (forF _ _ _ [.asg (.name 7) (.ix (.var 1) (.var 4)),
    .ite (.cmp .NotEq (.ix (.var 7) (.lit (.int 0))) (.lit (.int 0))) [.asg (.name 1) (.call 9 [(.var 1), (.call 8 [(.call 3 [(.var 7)]), (.var 5)])]),
    .asg (.name 3) (.call 9 [(.var 3), (.call 8 [(.var 7), (.var 6)])])] []]) _ [some (.lst (B.map (bD w m))), some (rowF w v), some (.int (m : Int)), some (tupF m fun _ => frD 0), none, none, none, none] S = _ := e
  simp [sizeLine, rep_tup hm, Tg.bind, walk, items, e]
end Code

namespace Code
open PySem Ab
variable {S : Store} {k : Nat}
/-! ### linear: sums and clearing -/
theorem sumR_lin {f g : Nat → Rat} {a : Rat} : ∀ n, sumR n (fun j => f j + a * g j) = sumR n f + a * sumR n g
  | 0 => by simp [sumR]; grind
  | n + 1 => by
    rw [sumR, sumR, sumR, sumR_lin n]
    grind
theorem sumR_zero : ∀ n, sumR n (fun _ => 0) = 0
  | 0 => rfl
  | n + 1 => by rw [sumR, sumR_zero n]; grind
theorem sumR_delta {i : Nat} {f : Nat → Rat} : ∀ {n : Nat}, sumR n (fun j => (if j = i then 1 else 0) * f j) = if i < n then f i else 0
  | 0 => by simp [sumR]
  | n + 1 => by
    rw [sumR, sumR_delta]
    by_cases h : i < n
    · rw [show (if n = i then (1 : Rat) else 0) = 0 from if_neg (by omega), if_pos h, if_pos (show i < n + 1 by omega)]
      grind
    · by_cases h2 : n = i
      · subst h2
        rw [if_neg h, if_pos (show n < n + 1 by omega), if_pos rfl]
        grind
      · rw [show (if n = i then (1 : Rat) else 0) = 0 from if_neg h2, if_neg h, if_neg (show ¬ i < n + 1 by omega)]
        grind
theorem alg1 (y d u r : Rat) : y * (d + -1 * u) * r = y * (d * r + -1 * (u * r)) := by grind
theorem alg2 (y l s r : Rat) (h : l + s = r + 0) : y * l = y * (r + -1 * s) := by grind
theorem alg3 (y l a : Rat) (h : l * y = 1) : a + -l * (y * a) = 0 := by grind
theorem alg4 (y a b : Rat) (h : a = 0) (h' : b = 0) : a + -b * y = 0 := by
  rw [h, h']
  grind
theorem clrV_lin {a : Rat} : ∀ (B : List E) (v v' : Nat → Rat) (c : Nat), clrV B (fun i => v' i + a * v i) c = clrV B v' c + a * clrV B v c
  | [], _, _, _ => rfl
  | e :: B, v, v', c => by
    rw [clrV, clrV, clrV, ← clrV_lin B]
    congr 1
    funext i
    simp only [stV]
    grind
theorem clrV_zero : ∀ (B : List E) (c : Nat), clrV B (fun _ => 0) c = 0
  | [], _ => rfl
  | e :: B, c => by
    rw [clrV]
    have : stV e (fun _ => 0) = fun _ => 0 := by
      funext i
      simp only [stV]
      grind
    rw [this, clrV_zero B]
theorem clrV_congr {w : Nat} : ∀ (B : List E) (v v' : Nat → Rat), (∀ e ∈ B, e.p < w) → (∀ c, c < w → v c = v' c) → ∀ c, c < w → clrV B v c = clrV B v' c
  | [], _, _, _, h, c, hc => h c hc
  | e :: B, v, v', hp, h, c, hc => by
    rw [clrV, clrV]
    refine clrV_congr B _ _ (fun e he => hp e (by simp [he])) (fun c hc => ?_) c hc
    simp only [stV]
    rw [h c hc, h e.p (hp e (by simp))]
theorem clrV_sum (B : List E) (x : Nat → Rat) (R : Nat → Nat → Rat) (c : Nat) : ∀ n, clrV B (fun c => sumR n fun j => x j * R j c) c = sumR n fun j => x j * clrV B (R j) c
  | 0 => clrV_zero B c
  | n + 1 => by
    rw [sumR, ← clrV_sum B x R c n, ← clrV_lin]
    rfl
theorem clrV_app (B : List E) (e : E) : ∀ (v : Nat → Rat), clrV (B ++ [e]) v = stV e (clrV B v) := by
  induction B with
  | nil => intro v; rfl
  | cons e' B ih => intro v; exact ih _
/-- each element is told by its multiples -/
def E.tells (w m : Nat) (R : Nat → Nat → Rat) (e : E) : Prop := ∀ c, c < w → e.o c = sumR m fun j => e.mu j * R j c
theorem clr_sound {w m : Nat} {R : Nat → Nat → Rat} : ∀ {B : List E} {v u : Nat → Rat}, (∀ e ∈ B, e.tells w m R) → ∀ c, c < w → clrV B v c + (sumR m fun j => clrU B v u j * R j c) = v c + sumR m fun j => u j * R j c
  | [], _, _, _, c, _ => rfl
  | e :: B, v, u, ht, c, hc => by
    rw [clrV, clrU, clr_sound (B := B) (fun e he => ht e (by simp [he])) c hc]
    have h := ht e (by simp) c hc
    have h2 : (sumR m fun j => stU e v u j * R j c) = (sumR m fun j => u j * R j c) + v e.p * sumR m fun j => e.mu j * R j c := by
      rw [← sumR_lin]
      exact sumR_congr fun j _ => by
        simp only [stU]
        grind
    rw [h2, ← h]
    simp only [stV]
    grind
/-! ### a basis, row by row -/
structure Bas (w m : Nat) (R : Nat → Nat → Rat) (i : Nat) (C : List (Nat × Nat)) (B : List E) : Prop where
  ok : ∀ e ∈ B, e.ok w m
  tells : ∀ e ∈ B, e.tells w m R
  clears : ∀ j, j < i → ∀ c, c < w → clrV B (R j) c = 0
  bits : ∀ s, le2 (clrB (bits B) s) (clrB C s)
  len : B.length ≤ i
theorem one_div (q : Rat) : (1 : Rat) * q⁻¹ = q⁻¹ := Rat.one_mul _
theorem add_lst {xs : List D} {d : D} (h : xs.length + 1 ≤ sizeLine) : dBin S .Add (.lst xs) (.lst [d]) = some (.lst (xs ++ [d])) := by
  simp [dBin, dList, Ab.listOf, h]
theorem c_bw {w m i fb : Nat} {R : Nat → Nat → Rat} {C : List (Nat × Nat)} {B : List E} (hw : w ≤ sizeLine) (hm : m ≤ 1000) (hi : i < m) (hb : Bas w m R i C B) (hR : bndN w fb (R i)) (h9 : le2 (clrB C (fb, 1)) (2000, 2000)) :
    ∃ B', Bas w m R (i + 1) (C ++ [(2 * (clrB C (fb, 1)).1 + 1, (clrB C (fb, 1)).1 + (clrB C (fb, 1)).2 + 4)]) B' ∧ call (tab ts) G (k + 5) 16 [.lst (B.map (bD w m)), rowF w (R i), .int (i : Int), .int (m : Int)] S = some (.lst (B'.map (bD w m)), S) := by
  have hm' : m ≤ sizeLine := by
    unfold sizeLine
    omega
  have hbb := hb.bits (fb, 1)
  have h99 : le2 (clrB (bits B) (fb, 1)) (2000, 2000) := le2_trans hbb h9
  have a1 := c_clear (S := S) (k := k) hw hm hb.ok hR (le2_trans h99 ⟨by decide, by decide⟩)
  obtain ⟨bl, bu⟩ := clr_bits (u := fun _ => 0) (ub := 1) hb.ok hR (fun i _ => bnd_0)
  have hz1 : (clrB (bits B) (fb, 1)).1 ≤ 2000 := h99.1
  have hz2 : (clrB (bits B) (fb, 1)).2 ≤ 2000 := h99.2
  generalize eL : clrV B (R i) = L at *
  generalize eU : clrU B (R i) (fun _ => 0) = U at *
  rw [call_of T16 rfl]
  simp only [f_basis_with, b_basis_with, startA]
  rcases c_first (S := S) (k := k + 3) (n := w) (f := L) hw with ⟨p, hp, h0, a2⟩ | ⟨h0, a2⟩
  · have ha3 := c_over (gl := G) (S := S) (k := k + 2) bnd_1 (bl p hp) (by omega) h0
    rw [Rat.one_mul] at ha3
    have bo : bndN m 1 fun j => if j = i then (1 : Rat) else 0 := fun j _ => by
      simp only
      split
      · exact bnd_1
      · exact bnd_0
    have a4 := lc_nats (S := S) (f := lcBk (call (tab ts) G (k + 4)) G (.name 10) [] (.ite (.cmp .Eq (.var 10) (.var 2)) (.glob "ONE") (.glob "NONE")) [some (.lst (B.map (bD w m))), some (rowF w (R i)), some (.int (i : Int)), some (.int (m : Int)), some (rowF w L), some (rowF m U), some (.int (p : Int)), some (frD ((L p)⁻¹)), none, none, none]) (n := m) (G := fun j => frD (if j = i then (1 : Rat) else 0)) hm' fun j hj => by
      by_cases h : j = i
      · simp [lcBk, Tg.bind, h]
      · have h' : ¬ (j : Int) = (i : Int) := by omega
        simp [lcBk, Tg.bind, h, h']
    have e4 : (tupF m fun j => frD (if j = i then (1 : Rat) else 0)) = rowF m fun j => if j = i then (1 : Rat) else 0 := rfl
    have b1 : bnd 1 (-1) := bnd_neg bnd_1
    have a5 := c_times_row (S := S) (k := k + 1) hm' b1 bu (by omega)
    have a6 := c_rows_plus (S := S) (k := k + 1) hm' bo (fun j hj => bnd_mul b1 (bu j hj)) (by omega)
    have by_ : bnd (1 + (clrB (bits B) (fb, 1)).1) ((L p)⁻¹) := bnd_mono (bnd_inv (bl p hp) h0) (by omega)
    have a7 := c_times_row (S := S) (k := k + 1) hw by_ bl (by omega)
    have b8 : bndN m (1 + (1 + (clrB (bits B) (fb, 1)).2) + 1) fun j => (if j = i then (1 : Rat) else 0) + -1 * U j := fun j hj => bnd_add (bo j hj) (bnd_mul b1 (bu j hj))
    have a8 := c_times_row (S := S) (k := k + 1) hm' by_ b8 (by omega)
    let e' : E := ⟨p, fun c => (L p)⁻¹ * L c, fun j => (L p)⁻¹ * ((if j = i then (1 : Rat) else 0) + -1 * U j), 1 + (clrB (bits B) (fb, 1)).1 + (clrB (bits B) (fb, 1)).1, 1 + (clrB (bits B) (fb, 1)).1 + (1 + (1 + (clrB (bits B) (fb, 1)).2) + 1)⟩
    have hpp : ∀ e ∈ B, e.p < w := fun e he => (hb.ok e he).1
    refine ⟨B ++ [e'], ⟨fun e he => ?_, fun e he => ?_, fun j hj c hc => ?_, fun s => ?_, by have := hb.len; simp; omega⟩, ?_⟩
    · rcases List.mem_append.mp he with he | he
      · exact hb.ok e he
      · obtain rfl : e = e' := by simpa using he
        exact ⟨hp, fun c hc => bnd_mul by_ (bl c hc), fun j hj => bnd_mul by_ (b8 j hj)⟩
    · rcases List.mem_append.mp he with he | he
      · exact hb.tells e he
      · obtain rfl : e = e' := by simpa using he
        intro c hc
        have s1 := clr_sound (B := B) (v := R i) (u := fun _ => 0) hb.tells c hc
        rw [eL, eU] at s1
        have s2 : (sumR m fun j => (0 : Rat) * R j c) = 0 := (sumR_congr fun j _ => Rat.zero_mul _).trans (sumR_zero m)
        rw [s2] at s1
        show (L p)⁻¹ * L c = _
        have s3 : (sumR m fun j => (L p)⁻¹ * ((if j = i then (1 : Rat) else 0) + -1 * U j) * R j c) = (L p)⁻¹ * ((sumR m fun j => (if j = i then 1 else 0) * R j c) + -1 * sumR m fun j => U j * R j c) := by
          rw [← sumR_lin]
          have s4 := sumR_lin (f := fun _ => 0) (g := fun j => (if j = i then 1 else 0) * R j c + -1 * (U j * R j c)) (a := (L p)⁻¹) m
          rw [sumR_zero, Rat.zero_add] at s4
          rw [← s4]
          exact sumR_congr fun j _ => (alg1 _ _ _ _).trans (Rat.zero_add _).symm
        show _ = (sumR m fun j => (L p)⁻¹ * ((if j = i then (1 : Rat) else 0) + -1 * U j) * R j c)
        rw [s3, sumR_delta, if_pos hi]
        exact alg2 _ _ _ _ s1
    · rw [clrV_app]
      show clrV B (R j) c + -(clrV B (R j) p) * ((L p)⁻¹ * L c) = 0
      by_cases h : j = i
      · subst h
        rw [eL]
        have := Rat.mul_inv_cancel (L p) h0
        exact alg3 _ _ _ this
      · exact alg4 _ _ _ (hb.clears j (by omega) c hc) (hb.clears j (by omega) p hp)
    · have : bits (B ++ [e']) = bits B ++ [(e'.ob, e'.mb)] := by simp [bits]
      rw [this, clrB_app, clrB_app]
      refine stB_mono ⟨?_, ?_⟩ (hb.bits s)
      · show 1 + (clrB (bits B) (fb, 1)).1 + (clrB (bits B) (fb, 1)).1 ≤ 2 * (clrB C (fb, 1)).1 + 1
        have := hbb.1
        omega
      · show 1 + (clrB (bits B) (fb, 1)).1 + (1 + (1 + (clrB (bits B) (fb, 1)).2) + 1) ≤ (clrB C (fb, 1)).1 + (clrB C (fb, 1)).2 + 4
        have := hbb.1
        have := hbb.2
        omega
    · have hl : (B.map (bD w m)).length + 1 ≤ sizeLine := by
        have := hb.len
        unfold sizeLine
        simp
        omega
      have hm1 : D.tup [.int (-1), .int 1] = frD (-1) := rfl
      simp [sizeLine, a1, a2, ha3, Tg.bind, Tg.binds, ix_rowF hp, walk_rg hm', wipeA, a4, e4, hm1, a5, a6, a7, a8, add_lst hl]
      rfl
  · refine ⟨B, ⟨hb.ok, hb.tells, fun j hj c hc => ?_, fun s => ?_, by have := hb.len; omega⟩, ?_⟩
    · by_cases h : j = i
      · subst h
        rw [eL]
        exact h0 c hc
      · exact hb.clears j (by omega) c hc
    · rw [clrB_app]
      exact le2_trans (hb.bits s) (stB_up _ _)
    · simp [a1, a2, Tg.bind, Tg.binds]
end Code

namespace Code
open PySem Ab
variable {S : Store} {k : Nat}
/-- the bits of the basis's elements, row by row -/
def Cs (b : Nat → Nat) : Nat → List (Nat × Nat)
  | 0 => []
  | i + 1 => Cs b i ++ [(2 * (clrB (Cs b i) (b i, 1)).1 + 1, (clrB (Cs b i) (b i, 1)).1 + (clrB (Cs b i) (b i, 1)).2 + 4)]
theorem c_asm {w m fb : Nat} {rb : Nat → Nat} {R : Nat → Nat → Rat} {v : Nat → Rat} (hw : w ≤ sizeLine) (hm : m ≤ 1000) (hR : ∀ i, i < m → bndN w (rb i) (R i)) (hv : bndN w fb v) (h2 : ∀ i, i < m → le2 (clrB (Cs rb i) (rb i, 1)) (2000, 2000)) (h9 : le2 (clrB (Cs rb m) (fb, 1)) (9000, 9000)) :
    (∃ u : Nat → Rat, (∀ c, c < w → v c = sumR m fun j => u j * R j c) ∧ call (tab ts) G (k + 6) 18 [tupF m fun i => rowF w (R i), rowF w v] S = some (rowF m u, S)) ∨
    ((¬ ∃ u : Nat → Rat, ∀ c, c < w → v c = sumR m fun j => u j * R j c) ∧ call (tab ts) G (k + 6) 18 [tupF m fun i => rowF w (R i), rowF w v] S = some (.non, S)) := by
  have hm' : m ≤ sizeLine := by
    unfold sizeLine
    omega
  rw [call_of T18 rfl]
  simp only [f_as_multiples, b_as_multiples, startA]
  obtain ⟨ρ', h1, B, x, hB, rfl⟩ := for_nats (S := S) (body := forF (call (tab ts) G (k + 5)) G (.name 3) [.asg (.name 2) (.call 16 [(.var 2), (.ix (.var 0) (.var 3)), (.var 3), (.bi .len [(.var 0)])])])
    (fun i ρ => ∃ B x, Bas w m R i (Cs rb i) B ∧ ρ = [some (tupF m fun i => rowF w (R i)), some (rowF w v), some (.lst (B.map (bD w m))), x]) (n := m) (ρ := [some (tupF m fun i => rowF w (R i)), some (rowF w v), some (.lst []), none]) ⟨[], none, ⟨by simp, by simp, by omega, fun s => le2_refl _, by simp⟩, rfl⟩ (fun i ρ hi ⟨B, x, hB, hx⟩ => by
      subst hx
      obtain ⟨B', hB', e⟩ := c_bw (S := S) (k := k) hw hm hi hB (hR i hi) (h2 i hi)
      exact ⟨[some (tupF m fun i => rowF w (R i)), some (rowF w v), some (.lst (B'.map (bD w m))), some (.int (i : Int))], by simp [forF, Tg.bind, ix_tupF hi, e], B', _, hB', rfl⟩)
  have a1 := c_clear (S := S) (k := k) (B := B) hw hm hB.ok hv (le2_trans (hB.bits _) h9)
  have sd := clr_sound (B := B) (v := v) (u := fun _ => 0) hB.tells
  have s2 : ∀ c, (sumR m fun j => (0 : Rat) * R j c) = 0 := fun c => (sumR_congr fun j _ => Rat.zero_mul _).trans (sumR_zero m)
  rcases c_first (S := S) (k := k + 3) (n := w) (f := clrV B v) hw with ⟨p, hp, h0, a2⟩ | ⟨h0, a2⟩
  · right
    refine ⟨fun ⟨u, hu⟩ => ?_, ?_⟩
    · apply h0
      rw [clrV_congr B v (fun c => sumR m fun j => u j * R j c) (fun e he => (hB.ok e he).1) hu p hp, clrV_sum]
      exact (sumR_congr fun j hj => by rw [hB.clears j hj p hp, Rat.mul_zero]).trans (sumR_zero m)
    · have a3 : call (tab ts) G (k + 5) 17 [.lst (B.map (bD w m)), rowF w v, .int (m : Int)] S = some (.non, S) := by
        rw [call_of T17 rfl]
        simp only [f_multiples_by, b_multiples_by, startA]
        simp [a1, a2, Tg.bind, Tg.binds]
      simp [sizeLine, Tg.bind, walk_rg hm', h1, a3]
  · left
    refine ⟨clrU B v fun _ => 0, fun c hc => ?_, ?_⟩
    · have := sd c hc
      rw [h0 c hc, s2, Rat.zero_add, Rat.add_zero] at this
      exact this.symm
    · have a3 : call (tab ts) G (k + 5) 17 [.lst (B.map (bD w m)), rowF w v, .int (m : Int)] S = some (rowF m (clrU B v fun _ => 0), S) := by
        rw [call_of T17 rfl]
        simp only [f_multiples_by, b_multiples_by, startA]
        simp [a1, a2, Tg.bind, Tg.binds]
      simp [sizeLine, Tg.bind, walk_rg hm', h1, a3]
/-! ### rows none of which is a sum of the ones ahead -/
/-- functionals: each row told by one, at the first places alone -/
structure Dual (n : Nat) (R : Nat → Nat → Rat) (φ : Nat → (Nat → Rat) → Rat) : Prop where
  lin : ∀ k v v' a, φ k (fun i => v i + a * v' i) = φ k v + a * φ k v'
  near : ∀ k v v', (∀ c, c < n → v c = v' c) → φ k v = φ k v'
  tells : ∀ k i, k < n → i < n → φ k (R i) = if i = k then 1 else 0
theorem Dual.zero {n R φ} (h : Dual n R φ) (k : Nat) : φ k (fun _ => 0) = 0 := by
  have := h.lin k (fun _ => 0) (fun _ => 0) 1
  have e : (fun i : Nat => (0 : Rat) + 1 * 0) = fun _ => 0 := by
    funext i
    grind
  rw [e] at this
  grind
theorem Dual.sum {n R φ} (h : Dual n R φ) (k : Nat) (x : Nat → Rat) (R' : Nat → Nat → Rat) : ∀ m, φ k (fun c => sumR m fun j => x j * R' j c) = sumR m fun j => x j * φ k (R' j)
  | 0 => h.zero k
  | m + 1 => by
    rw [sumR, ← Dual.sum h k x R' m, ← h.lin]
    rfl
/-- one row more -/
theorem Dual.step {n : Nat} {R : Nat → Nat → Rat} {φ} (h : Dual n R φ) {own : Nat → Rat} {x : Nat → Rat} (h0 : ∀ c, c < n → own c = 0) (h1 : own n ≠ 0) (hR : ∀ c, c ≤ n → R n c = own c + sumR n fun j => x j * R j c) : ∃ φ', Dual (n + 1) R φ' := by
  let ψ : (Nat → Rat) → Rat := fun v => (v n + -1 * sumR n fun j => φ j v * R j n) * (own n)⁻¹
  have ψlin : ∀ v v' a, ψ (fun i => v i + a * v' i) = ψ v + a * ψ v' := fun v v' a => by
    simp only [ψ]
    have : (sumR n fun j => φ j (fun i => v i + a * v' i) * R j n) = (sumR n fun j => φ j v * R j n) + a * sumR n fun j => φ j v' * R j n := by
      rw [← sumR_lin]
      exact sumR_congr fun j _ => by
        rw [h.lin]
        grind
    rw [this]
    grind
  have ψnear : ∀ v v', (∀ c, c < n + 1 → v c = v' c) → ψ v = ψ v' := fun v v' e => by
    simp only [ψ]
    rw [e n (by omega), sumR_congr fun j (_ : j < n) => by rw [h.near j v v' fun c hc => e c (by omega)]]
  have φn : ∀ k, k < n → φ k (R n) = x k := fun k hk => by
    rw [h.near k (R n) (fun c => sumR n fun j => x j * R j c) (fun c hc => by rw [hR c (by omega), h0 c hc, Rat.zero_add]), h.sum k]
    have : (sumR n fun j => x j * φ k (R j)) = sumR n fun j => (if j = k then 1 else 0) * x j := sumR_congr fun j hj => by
      rw [h.tells k j hk hj, Rat.mul_comm]
    rw [this, sumR_delta, if_pos hk]
  have ψR : ∀ i, i < n → ψ (R i) = 0 := fun i hi => by
    simp only [ψ]
    have : (sumR n fun j => φ j (R i) * R j n) = sumR n fun j => (if j = i then 1 else 0) * R j n := sumR_congr fun j hj => by
      rw [h.tells j i hj hi]
      by_cases e : i = j
      · rw [if_pos e, if_pos e.symm]
      · rw [if_neg e, if_neg fun z => e z.symm]
    rw [this, sumR_delta, if_pos hi]
    grind
  have ψn : ψ (R n) = 1 := by
    simp only [ψ]
    rw [sumR_congr fun j (hj : j < n) => by rw [φn j hj], hR n (Nat.le_refl _)]
    have := Rat.mul_inv_cancel (own n) h1
    grind
  refine ⟨fun k v => if k < n then φ k v + -(x k) * ψ v else ψ v, fun k v v' a => ?_, fun k v v' e => ?_, fun k i hk hi => ?_⟩
  · split
    · rw [h.lin, ψlin]
      grind
    · exact ψlin _ _ _
  · split
    · rw [h.near k v v' fun c hc => e c (by omega), ψnear v v' e]
    · exact ψnear v v' e
  · by_cases hk' : k < n
    · rw [if_pos hk']
      by_cases hi' : i < n
      · rw [h.tells k i hk' hi', ψR i hi']
        grind
      · obtain rfl : i = n := by omega
        rw [φn k hk', ψn, if_neg (by omega)]
        grind
    · obtain rfl : k = n := by omega
      rw [if_neg hk']
      by_cases hi' : i < k
      · rw [ψR i hi', if_neg (by omega)]
      · obtain rfl : i = k := by omega
        rw [ψn, if_pos rfl]
theorem Dual.none (R) : Dual 0 R fun _ _ => 0 := ⟨fun _ _ _ a => by grind, fun _ _ _ _ => rfl, fun _ _ h => by omega⟩
/-- the multiples are the only ones -/
theorem Dual.only {n m : Nat} {R φ} (h : Dual n R φ) {u x : Nat → Rat} (e : ∀ c, c < n → (sumR n fun j => u j * R j c) = sumR n fun j => x j * R j c) : ∀ k, k < n → u k = x k := fun k hk => by
  have a1 := h.sum k u R n
  have a2 := h.sum k x R n
  rw [h.near k _ _ e] at a1
  have a3 : ∀ u : Nat → Rat, (sumR n fun j => u j * φ k (R j)) = u k := fun u => by
    have : (sumR n fun j => u j * φ k (R j)) = sumR n fun j => (if j = k then 1 else 0) * u j := sumR_congr fun j hj => by
      rw [h.tells k j hk hj, Rat.mul_comm]
    rw [this, sumR_delta, if_pos hk]
  rw [a3] at a1 a2
  rw [← a1, ← a2]
/-- what is altered at the next place is no such sum -/
theorem Dual.not {n : Nat} {R φ} (h : Dual n R φ) {u x : Nat → Rat} {v : Nat → Rat} {t : Rat} (ht : t ≠ 0) (e : ∀ c, c < n → v c = sumR n fun j => x j * R j c) (en : v n = (sumR n fun j => x j * R j n) + t) (eu : ∀ c, c ≤ n → v c = sumR n fun j => u j * R j c) : False := by
  have := h.only (m := 0) (u := u) (x := x) fun c hc => by rw [← eu c (by omega), e c hc]
  have h2 := eu n (Nat.le_refl _)
  rw [en, sumR_congr fun j (hj : j < n) => by rw [← this j hj]] at h2
  apply ht
  grind
end Code

namespace Code
open PySem Ab
variable {k : Nat} {A B : O} {X : List O} {ds : List Nat}
/-! ### the draws -/
def nD (ds : List Nat) : List D := ds.map fun (n : Nat) => D.int (n : Int)
def st (A B : O) (ds : List Nat) (X : List O) : Store := A :: B :: .lst (nD ds) :: X
theorem trunc_eq {n : Nat} {d : D} {S' : Store} (h : S'.length = n) : trunc n d S' = (d, S') := by
  subst h
  exact trunc_len
@[simp] theorem st_len : (st A B ds X).length = X.length + 3 := rfl
@[simp] theorem trunc_st {d : D} : trunc (X.length + 3) d (st A B ds X) = (d, st A B ds X) := trunc_eq rfl
theorem T19 : tab ts 19 = some f__law_draws := rfl
theorem T20 : tab ts 20 = some f__law_take := rfl
theorem T21 : tab ts 21 = some f__law_cell := rfl
theorem T28 : tab ts 28 = some f__law_integer := rfl
theorem T29 : tab ts 29 = some f__law_fraction := rfl
theorem T30 : tab ts 30 = some f__law_row := rfl
theorem T31 : tab ts 31 = some f__law_are_fractions_told := rfl
theorem T32 : tab ts 32 = some f__law_are_rows_told := rfl
theorem T33 : tab ts 33 = some f__law_sum := rfl
theorem T34 : tab ts 34 = some f__law_moved := rfl
theorem T35 : tab ts 35 = some f__law_are_multiples_told := rfl
theorem T36 : tab ts 36 = some f_law := rfl
@[simp] theorem len_st : dBi (st A B ds X) .len [.ref 2] = some (.int (ds.length : Int)) := by
  simp [dBi, items, st, nD]
theorem pop_st {d : Nat} : dMe .pop (.ref 2) [] (st A B (ds ++ [d]) X) = some (.int (d : Int), st A B ds X) := by
  simp [dMe, st, nD]
@[simp] theorem recv_st : recvOk .pop (.ref 2) (st A B ds X) = true := rfl
@[simp] theorem dInt_mod {i : Int} {m : Nat} (h : 0 < m) : dInt .Mod i (m : Int) = some (i % (m : Int)) := by
  simp [dInt, h]
theorem c_take {m : Nat} (h : 0 < m) : ∃ (v : Nat) (ds' : List Nat), v < m ∧ call (tab ts) G (k + 1) 20 [.ref 2, .int (m : Int)] (st A B ds X) = some (.int (v : Int), st A B ds' X) := by
  rw [call_of T20 rfl]
  simp only [f__law_take, b__law_take, startA]
  rcases List.eq_nil_or_concat ds with rfl | ⟨ds', d, rfl⟩
  · exact ⟨0, [], h, by simp⟩
  · refine ⟨d % m, ds', Nat.mod_lt _ h, ?_⟩
    have h2 : ¬ ((ds'.length : Int) + 1 = 0) := by omega
    simp [h2, pop_st, dInt_mod h]
theorem nat_bits {n b : Nat} (h : n < 2 ^ b) {i : Int} (hi : i.natAbs ≤ n) : i.natAbs < 2 ^ b := Nat.lt_of_le_of_lt hi h
theorem c_integer {b : Nat} {cell : Int} (hb : 10 ≤ b) (hc : cell.natAbs < 2 ^ b) : ∃ (i : Int) (ds' : List Nat), i.natAbs < 2 ^ b ∧ call (tab ts) G (k + 2) 28 [.ref 2, .int cell] (st A B ds X) = some (.int i, st A B ds' X) := by
  have hb' : 1024 ≤ 2 ^ b := Nat.pow_le_pow_right (n := 2) (by omega) hb
  obtain ⟨v1, d1, h1, e1⟩ := c_take (k := k) (A := A) (B := B) (X := X) (ds := ds) (m := 9) (by omega)
  obtain ⟨v2, d2, h2, e2⟩ := c_take (k := k) (A := A) (B := B) (X := X) (ds := d1) (m := 2001) (by omega)
  obtain ⟨v3, d3, h3, e3⟩ := c_take (k := k) (A := A) (B := B) (X := X) (ds := d2) (m := 5) (by omega)
  rw [call_of T28 rfl]
  simp only [f__law_integer, b__law_integer, startA]
  have key : ∀ i : Int, dIx (st A B d3 X) (.lst [.int ((v1 : Int) - 4), .int ((v2 : Int) - 1000), .int cell]) (.int i) = (if i = 0 then some (.int ((v1 : Int) - 4)) else if i = 1 then some (.int ((v2 : Int) - 1000)) else if i = 2 then some (.int cell) else dIx (st A B d3 X) (.lst [.int ((v1 : Int) - 4), .int ((v2 : Int) - 1000), .int cell]) (.int i)) := by
    intro i
    split
    · subst_vars; rfl
    · split
      · subst_vars; rfl
      · split
        · subst_vars; rfl
        · rfl
  have k2 : v3 = 0 ∨ v3 = 1 ∨ v3 = 2 ∨ v3 = 3 ∨ v3 = 4 := by omega
  have e1 : call (tab ts) G (k + 1) 20 [.ref 2, .int 9] (st A B ds X) = _ := e1
  have e2 : call (tab ts) G (k + 1) 20 [.ref 2, .int 2001] (st A B d1 X) = _ := e2
  have e3 : call (tab ts) G (k + 1) 20 [.ref 2, .int 5] (st A B d2 X) = _ := e3
  rcases k2 with rfl | rfl | rfl | rfl | rfl
  · exact ⟨(v1 : Int) - 4, d3, by omega, by simp [sizeLine, e1, e2, e3, dIx, items, at_, L2.atI, L2.ixN]⟩
  · exact ⟨(v1 : Int) - 4, d3, by omega, by simp [sizeLine, e1, e2, e3, dIx, items, at_, L2.atI, L2.ixN]⟩
  · exact ⟨(v2 : Int) - 1000, d3, by omega, by simp [sizeLine, e1, e2, e3, dIx, items, at_, L2.atI, L2.ixN]⟩
  · exact ⟨(v1 : Int) - 4, d3, by omega, by simp [sizeLine, e1, e2, e3, dIx, items, at_, L2.atI, L2.ixN]⟩
  · exact ⟨cell, d3, hc, by simp [sizeLine, e1, e2, e3, dIx, items, at_, L2.atI, L2.ixN]⟩
theorem c_fraction {b : Nat} {cell : Int} (hb : 10 ≤ b) (h9 : b ≤ 9000) (hc : cell.natAbs < 2 ^ b) : ∃ (q : Rat) (ds' : List Nat), bnd b q ∧ call (tab ts) G (k + 3) 29 [.ref 2, .int cell] (st A B ds X) = some (frD q, st A B ds' X) := by
  have hb' : 1024 ≤ 2 ^ b := Nat.pow_le_pow_right (n := 2) (by omega) hb
  obtain ⟨i, d1, h1, e1⟩ := c_integer (k := k) (A := A) (B := B) (X := X) (ds := ds) hb hc
  obtain ⟨v2, d2, h2, e2⟩ := c_take (k := k + 1) (A := A) (B := B) (X := X) (ds := d1) (m := 6) (by omega)
  have e2 : call (tab ts) G (k + 1 + 1) 20 [.ref 2, .int 6] (st A B d1 X) = _ := e2
  have e3 := c_lowest (gl := G) (S := st A B d2 X) (k := k + 1) (n := i) (d := 1 + (v2 : Int)) (b := b) (by omega) (by omega) h9
  rw [call_of T29 rfl]
  simp only [f__law_fraction, b__law_fraction, startA]
  refine ⟨Rat.divInt i (1 + (v2 : Int)), d2, ?_, by simp [e1, e2, e3]⟩
  exact bnd_mono (bnd_divInt (a := b) (b := b) h1 (by omega) (by omega)) (by omega)
theorem evLc_st {T : Type} {mk : T → D} {good : T → Prop} {f : D → Store → Option (Option D × Store)} : ∀ {is : List Nat} {acc : List D} {ds : List Nat}, acc.length + is.length ≤ sizeLine →
    (∀ i ∈ is, ∀ ds, ∃ (t : T) (ds' : List Nat), good t ∧ f (.int (i : Int)) (st A B ds X) = some (some (mk t), st A B ds' X)) →
    ∃ (ts : List T) (ds' : List Nat), ts.length = is.length ∧ (∀ t ∈ ts, good t) ∧ evLc (fun _ => true) f (is.map fun (i : Nat) => D.int (i : Int)) acc (st A B ds X) = some (acc ++ ts.map mk, st A B ds' X)
  | [], acc, ds, _, _ => ⟨[], ds, rfl, by simp, by simp [evLc]⟩
  | i :: is, acc, ds, hz, h => by
    obtain ⟨t, d1, g1, e1⟩ := h i (by simp) ds
    simp only [List.length_cons] at hz
    obtain ⟨ts, d2, hl, g2, e2⟩ := evLc_st (is := is) (acc := acc ++ [mk t]) (ds := d1) (by rw [List.length_append]; simp only [List.length_cons, List.length_nil]; omega) fun j hj => h j (by simp [hj])
    refine ⟨t :: ts, d2, by simp [hl], fun t' ht' => ?_, ?_⟩
    · rcases List.mem_cons.mp ht' with rfl | h'
      · exact g1
      · exact g2 _ h'
    · rw [List.map_cons, evLc, if_pos rfl, e1]
      simp only
      rw [if_pos (by omega), e2, List.append_assoc]
      rfl
theorem lc_st {T : Type} [Inhabited T] {mk : T → D} {good : T → Prop} {f : D → Store → Option (Option D × Store)} {n : Nat} (hn : n ≤ sizeLine)
    (h : ∀ i, i < n → ∀ ds, ∃ (t : T) (ds' : List Nat), good t ∧ f (.int (i : Int)) (st A B ds X) = some (some (mk t), st A B ds' X)) :
    ∃ (F : Nat → T) (ds' : List Nat), (∀ i, i < n → good (F i)) ∧ evLc (fun _ => true) f (natsD n) [] (st A B ds X) = some ((List.range n).map (fun i => mk (F i)), st A B ds' X) := by
  obtain ⟨ts, ds', hl, hg, e⟩ := evLc_st (A := A) (B := B) (X := X) (f := f) (is := List.range n) (acc := []) (ds := ds) (mk := mk) (good := good) (by simpa using hn) fun i hi => h i (List.mem_range.mp hi)
  rw [List.length_range] at hl
  refine ⟨fun i => (ts[i]?).getD default, ds', fun i hi => ?_, ?_⟩
  · show good ((ts[i]?).getD default)
    rw [List.getElem?_eq_getElem (show i < ts.length by omega)]
    exact hg _ (List.getElem_mem _)
  · have : (List.range n).map (fun i => mk ((ts[i]?).getD default)) = ts.map mk := by
      apply List.ext_getElem
      · simp [hl]
      · intro i h1 h2
        have h3 : i < ts.length := by simpa using h2
        simp [List.getElem?_eq_getElem h3]
    rw [this]
    exact e
theorem c_row {b n : Nat} {cell : Int} (hn : n ≤ sizeLine) (hb : 10 ≤ b) (h9 : b ≤ 9000) (hc : cell.natAbs < 2 ^ b) : ∃ (f : Nat → Rat) (ds' : List Nat), bndN n b f ∧ call (tab ts) G (k + 4) 30 [.ref 2, .int (n : Int), .int cell] (st A B ds X) = some (rowF n f, st A B ds' X) := by
  rw [call_of T30 rfl]
  simp only [f__law_row, b__law_row, startA]
  obtain ⟨F, d1, hF, e⟩ := lc_st (A := A) (B := B) (X := X) (ds := ds) (mk := frD) (good := bnd b) (f := lcBk (call (tab ts) G (k + 3)) G (.name 3) [] (.call 29 [(.var 0), (.var 2)]) [some (.ref 2), some (.int (n : Int)), some (.int cell), none]) hn fun i hi ds => by
    obtain ⟨q, d1, h1, e1⟩ := c_fraction (k := k) (A := A) (B := B) (X := X) (ds := ds) hb h9 hc
    exact ⟨q, d1, h1, by simp [lcBk, Tg.bind, e1]⟩
  refine ⟨F, d1, hF, ?_⟩
  simp [wipeA, walk_rg hn, e]
  rfl
theorem plain_fr (q : Rat) : plainD 1 (frD q) := by
  have : frD q = tupF 2 fun i => if i = 0 then .int q.num else .int (q.den : Int) := rfl
  rw [this]
  exact .tup (by decide) fun i hi => by
    by_cases h : i = 0
    · rw [if_pos h]
      exact .int _
    · rw [if_neg h]
      exact .int _
theorem plain_row {n : Nat} (f : Nat → Rat) (hn : n ≤ sizeLine) : plainD 2 (rowF n f) := .tup hn fun i hi => plain_fr _
theorem s_fr {S : Store} {q : Rat} : call (tab ts) G (k + 2) 22 [frD q, frD q] S = some (.bl true, S) := c_same (k := k) (plain_fr q)
theorem s_row {S : Store} {n : Nat} {f : Nat → Rat} (hn : n ≤ sizeLine) : call (tab ts) G (k + 3) 22 [rowF n f, rowF n f] S = some (.bl true, S) := c_same (k := k) (plain_row f hn)
theorem s_bl {S : Store} {b : Bool} : call (tab ts) G (k + 1) 22 [.bl b, .bl b] S = some (.bl true, S) := c_same (n := 0) (k := k) (.bl b)
theorem s_non {S : Store} : call (tab ts) G (k + 1) 22 [.non, .non] S = some (.bl true, S) := c_same (n := 0) (k := k) .non
end Code

namespace Code
open PySem Ab
variable {k : Nat} {A B : O} {X : List O} {ds : List Nat}
theorem dv0 {d : Int} : Rat.divInt 0 d = 0 := Rat.zero_divInt d
theorem told_fr {cell : Int} (hc : cell.natAbs < 2 ^ 199) : ∃ ds', call (tab ts) G (k + 6) 31 [.ref 2, .int cell] (st A B ds X) = some (.bl true, st A B ds' X) := by
  have hb' : (1024 : Nat) ≤ 2 ^ 199 := by decide
  have hb2 : (2 : Nat) ^ 200 = 2 * 2 ^ 199 := by decide
  obtain ⟨n, d0, h0, e0⟩ := c_integer (k := k + 3) (A := A) (B := B) (X := X) (ds := ds) (b := 199) (by omega) hc
  obtain ⟨v1, d1, h1, e1⟩ := c_take (k := k + 4) (A := A) (B := B) (X := X) (ds := d0) (m := 12) (by omega)
  obtain ⟨v2, d2, h2, e2⟩ := c_take (k := k + 4) (A := A) (B := B) (X := X) (ds := d1) (m := 12) (by omega)
  obtain ⟨v3, d3, h3, e3⟩ := c_take (k := k + 4) (A := A) (B := B) (X := X) (ds := d2) (m := 4) (by omega)
  have e1 : call (tab ts) G (k + 5) 20 [.ref 2, .int 12] (st A B d0 X) = _ := e1
  have e2 : call (tab ts) G (k + 5) 20 [.ref 2, .int 12] (st A B d1 X) = _ := e2
  have e3 : call (tab ts) G (k + 5) 20 [.ref 2, .int 4] (st A B d2 X) = _ := e3
  obtain ⟨q, d4, hq, e4⟩ := c_fraction (k := k + 2) (A := A) (B := B) (X := X) (ds := d3) (b := 199) (by omega) (by omega) hc
  have e4 : call (tab ts) G (k + 5) 29 [.ref 2, .int cell] (st A B d3 X) = _ := e4
  obtain ⟨d, hd0, hd, ed⟩ : ∃ d : Int, d ≠ 0 ∧ d.natAbs < 2 ^ 200 ∧ dIx (st A B d3 X) (.lst [.int (1 + (v1 : Int)), .int (-1 - (v2 : Int)), .int ((cell.natAbs : Int) + 2), .int (-2 - (cell.natAbs : Int))]) (.int (v3 : Int)) = some (.int d) := by
    have k2 : v3 = 0 ∨ v3 = 1 ∨ v3 = 2 ∨ v3 = 3 := by omega
    rcases k2 with rfl | rfl | rfl | rfl
    · exact ⟨_, by omega, by omega, rfl⟩
    · exact ⟨_, by omega, by omega, rfl⟩
    · exact ⟨_, by omega, by omega, rfl⟩
    · exact ⟨_, by omega, by omega, rfl⟩
  have hp : bnd 200 (Rat.divInt n d) := bnd_mono (bnd_divInt (a := 199) (b := 200) h0 hd hd0) (by omega)
  have l1 := c_lowest (gl := G) (S := st A B d3 X) (k := k + 4) (n := n) hd0 hd (by omega)
  have l2 := c_frac (gl := G) (S := st A B d3 X) (k := k + 4) (n := n) hd0 hd (by omega)
  have l3 := c_frac (gl := G) (S := st A B d3 X) (k := k + 4) (n := 0) hd0 hd (by omega)
  rw [dv0, frD_0] at l3
  generalize Rat.divInt n d = p at *
  have s0 := s_fr (k := k + 3) (S := st A B d3 X) (q := 0)
  rw [frD_0] at s0
  have s1 := s_fr (k := k + 3) (S := st A B d3 X) (q := p)
  have w1 := c_whole (gl := G) (S := st A B d3 X) (k := k + 4) (p := p)
  have w2 := s_bl (k := k + 4) (S := st A B d3 X) (b := decide ((p.den : Int) = 1))
  have p1 := c_plus (gl := G) (S := st A B d4 X) (k := k + 3) hp hq (by omega)
  have p2 := c_lplus (gl := G) (S := st A B d4 X) (k := k + 3) hp hq (by omega)
  have p3 := s_fr (k := k + 3) (S := st A B d4 X) (q := p + q)
  have t1 := c_times (gl := G) (S := st A B d4 X) (k := k + 3) hp hq (by omega)
  have t2 := c_ltimes (gl := G) (S := st A B d4 X) (k := k + 3) hp hq (by omega)
  have t3 := s_fr (k := k + 3) (S := st A B d4 X) (q := p * q)
  have m1 := c_less (gl := G) (S := st A B d4 X) (k := k + 2) hp hq (by omega)
  have m2 := c_lplus (gl := G) (S := st A B d4 X) (k := k + 3) hp (bnd_neg hq) (by omega)
  have m3 := s_fr (k := k + 3) (S := st A B d4 X) (q := p + -q)
  have m4 := c_less (gl := G) (S := st A B d4 X) (k := k + 2) hp hp (by omega)
  rw [show p + -p = 0 by grind, frD_0] at m4
  have m5 := s_fr (k := k + 3) (S := st A B d4 X) (q := 0)
  rw [frD_0] at m5
  have en : D.tup [.int (-q.num), .int (q.den : Int)] = frD (-q) := rfl
  refine ⟨d4, ?_⟩
  rw [call_of T31 rfl]
  simp only [f__law_are_fractions_told, b__law_are_fractions_told, startA]
  by_cases hq0 : q = 0
  · have hz : q.num = 0 := Rat.num_eq_zero.mpr hq0
    have en0 : D.tup [.int 0, .int (q.den : Int)] = frD (-q) := by rw [← en, hz]; rfl
    simp [sizeLine, Tg.bind, isAnd, bi_abs, e0, e1, e2, e3, ed, l1, l2, l3, s0, s1, w1, w2, e4, p1, p2, p3, t1, t2, t3, m1, hz, en0, m2, m3, m4, m5]
  · have o1 := c_over (gl := G) (S := st A B d4 X) (k := k + 3) hp hq (by omega) hq0
    have o2 := c_lover (gl := G) (S := st A B d4 X) (k := k + 4) hp hq (by omega) hq0
    have o3 := s_fr (k := k + 3) (S := st A B d4 X) (q := p * q⁻¹)
    have b1 := mul_int hp.1 (bt hq) (by omega)
    have b2 := mul_int (bt hp) hq.1 (by omega)
    simp [sizeLine, Tg.bind, isAnd, bi_abs, e0, e1, e2, e3, ed, l1, l2, l3, s0, s1, w1, w2, e4, p1, p2, p3, t1, t2, t3, m1, en, m2, m3, m4, m5, num0, hq0, o1, o2, o3, b1, b2]
end Code

namespace Code
open PySem Ab
variable {k : Nat} {A B : O} {X : List O} {ds : List Nat}
theorem told_rows {n : Nat} {cell : Int} (h0 : 0 < n) (h3 : n ≤ 3) (hc : cell.natAbs < 2 ^ 199) : ∃ ds', call (tab ts) G (k + 7) 32 [.ref 2, .int (n : Int), .int cell] (st A B ds X) = some (.bl true, st A B ds' X) := by
  have hn : n ≤ sizeLine := by
    unfold sizeLine
    omega
  have hz : n * (199 + 199 + 1) + 1 ≤ 9000 := by omega
  obtain ⟨f, d1, hf, e1⟩ := c_row (k := k + 2) (A := A) (B := B) (X := X) (ds := ds) (b := 199) hn (by omega) (by omega) hc
  obtain ⟨g, d2, hg, e2⟩ := c_row (k := k + 2) (A := A) (B := B) (X := X) (ds := d1) (b := 199) hn (by omega) (by omega) hc
  obtain ⟨R, d3, hR, e3⟩ := lc_st (A := A) (B := B) (X := X) (ds := d2) (mk := rowF n) (good := bndN n 199) (f := lcBk (call (tab ts) G (k + 6)) G (.name 7) [] (.call 30 [(.var 0), (.var 1), (.var 2)]) [some (.ref 2), some (.int (n : Int)), some (.int cell), some (rowF n f), some (rowF n g), none, none, none, none]) hn fun i hi ds => by
    obtain ⟨q, d1, h1, e1⟩ := c_row (k := k + 2) (A := A) (B := B) (X := X) (ds := ds) (b := 199) hn (by omega) (by omega) hc
    exact ⟨q, d1, h1, by simp [lcBk, Tg.bind, e1]⟩
  obtain ⟨q, d4, hq, e4⟩ := c_fraction (k := k + 3) (A := A) (B := B) (X := X) (ds := d3) (b := 199) (by omega) (by omega) hc
  have eS : (D.tup ((List.range n).map fun i => rowF n (R i))) = tupF n fun i => rowF n (R i) := rfl
  have a1 := c_rts (S := st A B d4 X) (k := k + 2) h0 hn hn hf hR hz
  have a2 := c_through (S := st A B d4 X) (k := k + 2) h0 hn hn hf hR hz
  have a3 := s_row (S := st A B d4 X) (k := k + 3) (f := fun j => sumR n fun i => f i * R i j) hn
  have b1 := c_rtc (S := st A B d4 X) (k := k + 2) hn hf hg hz (by omega)
  have b2 := c_dot (S := st A B d4 X) (k := k + 3) hn hf hg hz
  have b3 := s_fr (S := st A B d4 X) (k := k + 4) (q := sumR n fun i => f i * g i)
  have c1 := c_stc (S := st A B d4 X) (k := k + 1) hn hn hR hg hz (by omega)
  have c2 := lc_fn (S := st A B d4 X) (f := lcBk (call (tab ts) G (k + 6)) G (.name 8) [] (.call 26 [(.var 8), (.var 4)]) [some (.ref 2), some (.int (n : Int)), some (.int cell), some (rowF n f), some (rowF n g), some (tupF n fun i => rowF n (R i)), some (frD q), none, none]) (F := fun i => rowF n (R i)) (G := fun i => frD (sumR n fun j => R i j * g j)) hn fun i hi => by
    have e := c_dot (S := st A B d4 X) (k := k + 3) hn (hR i hi) hg hz
    simp [lcBk, Tg.bind, e]
  have c3 := s_row (S := st A B d4 X) (k := k + 3) (f := fun i => sumR n fun j => R i j * g j) hn
  have c4 : (tupF n fun i => frD (sumR n fun j => R i j * g j)) = rowF n fun i => sumR n fun j => R i j * g j := rfl
  have t1 := c_times_row (S := st A B d4 X) (k := k + 3) hn hq hf (by omega)
  have t2 := lc_fn (S := st A B d4 X) (f := lcBk (call (tab ts) G (k + 6)) G (.name 8) [] (.call 25 [(.var 6), (.var 8)]) [some (.ref 2), some (.int (n : Int)), some (.int cell), some (rowF n f), some (rowF n g), some (tupF n fun i => rowF n (R i)), some (frD q), none, none]) (F := fun i => frD (f i)) (G := fun i => frD (q * f i)) hn fun i hi => by
    have e := c_ltimes (gl := G) (S := st A B d4 X) (k := k + 4) hq (hf i hi) (by omega)
    simp [lcBk, Tg.bind, e]
  have t3 := s_row (S := st A B d4 X) (k := k + 3) (f := fun i => q * f i) hn
  have t4 : (tupF n fun i => frD (q * f i)) = rowF n fun i => q * f i := rfl
  have p1 := c_rows_plus (S := st A B d4 X) (k := k + 3) hn hf hg (by omega)
  have p2 := lc_nats (S := st A B d4 X) (f := lcBk (call (tab ts) G (k + 6)) G (.name 7) [] (.call 24 [(.ix (.var 3) (.var 7)), (.ix (.var 4) (.var 7))]) [some (.ref 2), some (.int (n : Int)), some (.int cell), some (rowF n f), some (rowF n g), some (tupF n fun i => rowF n (R i)), some (frD q), none, none]) (n := n) (G := fun i => frD (f i + g i)) hn fun i hi => by
    have e := c_lplus (gl := G) (S := st A B d4 X) (k := k + 4) (hf i hi) (hg i hi) (by omega)
    simp [lcBk, Tg.bind, ix_rowF hi, e]
  have p3 := s_row (S := st A B d4 X) (k := k + 3) (f := fun i => f i + g i) hn
  have p4 : (tupF n fun i => frD (f i + g i)) = rowF n fun i => f i + g i := rfl
  refine ⟨d4, ?_⟩
  rw [call_of T32 rfl]
  simp only [f__law_are_rows_told, b__law_are_rows_told, startA]
  simp [sizeLine, Tg.bind, Tg.binds, isAnd, wipeA, walk_rg hn, e1, e2, e3, e4, a1, a2, a3, b1, b2, b3, c1, c2, c3, c4, t1, t2, t3, t4, p1, p2, p3, p4]
end Code

namespace Code
open PySem Ab
variable {k : Nat} {A B : O} {X : List O} {ds : List Nat}
/-! ### rows put together -/
theorem range_three {F : Nat → D} (a m : Nat) : (List.range (a + 1 + m)).map F = ((List.range a).map F ++ [F a]) ++ (List.range m).map fun i => F (a + 1 + i) := by
  rw [List.range_add, List.map_append, List.range_succ, List.map_append, List.map_map]
  rfl
/-- a row of three parts -/
def ownF (a : Nat) (t : Rat) (f : Nat → Rat) : Nat → Rat := fun c => if c < a then 0 else if c = a then t else f (c - a - 1)
theorem own_row {a m : Nat} {t : Rat} {f : Nat → Rat} (h : a + 1 + m ≤ sizeLine) : ((List.range a).map (fun _ => frD 0) ++ [frD t]) ++ (List.range m).map (fun i => frD (f i)) = (List.range (a + 1 + m)).map fun c => frD (ownF a t f c) := by
  rw [range_three]
  congr 1
  · congr 1
    · exact List.map_congr_left fun i hi => by
        have := List.mem_range.mp hi
        simp [ownF, this]
    · simp [ownF]
  · exact List.map_congr_left fun i hi => by
      have h1 : ¬ a + 1 + i < a := by omega
      have h2 : ¬ a + 1 + i = a := by omega
      simp only [ownF, h1, h2, if_false]
      rw [show a + 1 + i - a - 1 = i by omega]
theorem add_tup {S : Store} {xs ys : List D} (h : xs.length + ys.length ≤ sizeLine) : dBin S .Add (.tup xs) (.tup ys) = some (.tup (xs ++ ys)) := by
  simp [dBin, h]
/-- one place altered -/
def altF (a : Nat) (t : Rat) (v : Nat → Rat) : Nat → Rat := fun c => if c = a then v c + t else v c
theorem alt_row {a m : Nat} {t : Rat} {v : Nat → Rat} : (((List.range (a + 1 + m)).map fun c => frD (v c)).take a ++ [frD (v a + t)]) ++ ((List.range (a + 1 + m)).map fun c => frD (v c)).drop (a + 1) = (List.range (a + 1 + m)).map fun c => frD (altF a t v c) := by
  rw [range_three, range_three]
  have l1 : ((List.range a).map fun c => frD (v c)).length = a := by simp
  have l2 : ((List.range a).map (fun c => frD (v c)) ++ [frD (v a)]).length = a + 1 := by simp
  rw [List.drop_append_of_le_length (by omega), List.take_append_of_le_length (by omega), List.take_append_of_le_length (by omega), List.take_of_length_le (by omega), List.drop_of_length_le (by omega), List.nil_append]
  congr 1
  · congr 1
    · exact List.map_congr_left fun i hi => by
        have := List.mem_range.mp hi
        have h2 : ¬ i = a := by omega
        simp [altF, h2]
    · simp [altF]
  · exact List.map_congr_left fun i hi => by
      have h2 : ¬ a + 1 + i = a := by omega
      simp [altF, h2]
/-! ### the order -/
theorem pop3 {S : Store} {A B C : O} {ord : List Nat} {Y : List O} {v : Nat} (hv : v < ord.length) (hS : S = A :: B :: C :: .lst (nD ord) :: Y) : dMe .pop (.ref 3) [.int (v : Int)] S = some (.int ((ord[v] : Nat) : Int), A :: B :: C :: .lst (nD (ord.eraseIdx v)) :: Y) := by
  subst hS
  have h1 : L2.ixN (nD ord).length (v : Int) = some v := by
    unfold L2.ixN
    rw [if_pos (by omega), if_pos (by simpa [nD] using hv)]
    simp
  simp [dMe, h1]
  simp [nD, hv, List.eraseIdx_eq_take_drop_succ, List.map_take, List.map_drop]
theorem app3 {A B C : O} {ord : List Nat} {Y : List O} {v : Nat} (hl : ord.length < sizeLine) : dMe .append (.ref 3) [.int (v : Int)] (A :: B :: C :: .lst (nD ord) :: Y) = some (.non, A :: B :: C :: .lst (nD (ord ++ [v])) :: Y) := by
  simp [dMe, nD, hl]
theorem pop_perm {l : List Nat} {i : Nat} (h : i < l.length) : (l[i] :: l.eraseIdx i).Perm l := by
  have e : l.take i ++ l[i] :: l.drop (i + 1) = l := by rw [List.getElem_cons_drop, List.take_append_drop]
  rw [List.eraseIdx_eq_take_drop_succ]
  conv => rhs; rw [← e]
  exact List.perm_middle.symm
def bdyO : List IS := [.ex (.meth .append (.var 4) [(.meth .pop (.var 4) [(.call 20 [(.var 0), (.var 3)])])])]
theorem order_ok {w : Nat} (h0 : 0 < w) (hw : w < sizeLine) {x0 x1 x2 : D} {r : List (Option D)} {ord : List Nat} (hr : r.length = 10) (hp : ord.Perm (List.range w)) :
    ∃ (x : Option D) (ds' : List Nat) (ord' : List Nat), ord'.Perm (List.range w) ∧ evFor (fun _ => true) (forF (call (tab ts) G (k + 7)) G (.name 5) bdyO) (natsD 3) (some (.ref 2) :: some x1 :: some x2 :: some (.int (w : Int)) :: some (.ref 3) :: none :: r) (st A B ds [.lst (nD ord)]) = some (.next, some (.ref 2) :: some x1 :: some x2 :: some (.int (w : Int)) :: some (.ref 3) :: x :: r, st A B ds' [.lst (nD ord')]) := by
  obtain ⟨ρ', S', h1, x, ds', ord', hp', rfl, rfl⟩ := evFor_inv (chk := fun _ => true) (body := forF (call (tab ts) G (k + 7)) G (.name 5) bdyO) (fun i ρ S => ∃ x ds' ord', List.Perm ord' (List.range w) ∧ ρ = some (.ref 2) :: some x1 :: some x2 :: some (.int (w : Int)) :: some (.ref 3) :: x :: r ∧ S = st A B ds' [.lst (nD ord')]) (ds := natsD 3) (n := 0) (ρ := some (.ref 2) :: some x1 :: some x2 :: some (.int (w : Int)) :: some (.ref 3) :: none :: r) (S := st A B ds [.lst (nD ord)]) (fun _ _ _ _ => rfl) ⟨none, ds, ord, hp, rfl, rfl⟩ (fun i hi ρ S ⟨x, ds', ord', hp', hρ, hS⟩ => by
      subst hρ
      subst hS
      obtain ⟨v, d1, hv, e⟩ := c_take (k := k + 6) (A := A) (B := B) (X := [.lst (nD ord')]) (ds := ds') (m := w) h0
      have hl : ord'.length = w := by rw [hp'.length_eq, List.length_range]
      have hv' : v < ord'.length := by omega
      have e2 := pop3 (S := st A B d1 [.lst (nD ord')]) hv' rfl
      have e3 := app3 (A := A) (B := B) (C := .lst (nD d1)) (ord := ord'.eraseIdx v) (Y := []) (v := ord'[v]) (by rw [List.length_eraseIdx_of_lt hv']; omega)
      refine ⟨some (.ref 2) :: some x1 :: some x2 :: some (.int (w : Int)) :: some (.ref 3) :: some (natsD 3)[i] :: r, st A B d1 [.lst (nD (ord'.eraseIdx v ++ [ord'[v]]))], ?_, _, d1, _, ?_, rfl, rfl⟩
      · have q1 : recvOk .append (.ref 3) (st A B ds' [.lst (nD ord')]) = true := rfl
        have q2 : recvOk .pop (.ref 3) (st A B ds' [.lst (nD ord')]) = true := rfl
        simp [forF, bdyO, Tg.bind, q1, q2, e, e2, e3]
        rfl
      · exact (List.perm_append_comm.trans (pop_perm hv')).trans hp')
  exact ⟨x, ds', ord', hp', h1⟩
/-! ### sums of rows, rows moved -/
theorem D.sames_self (xs : List D) : D.sames xs xs = true := D.sames_refl xs
theorem stays_ref {S : Store} {r : Nat} {xs : List D} (h : S[r]? = some (.lst xs)) : stays false [.ref r] xs S = true := by
  simp [stays, h, D.sames_refl]
theorem walk_ref {S : Store} {r : Nat} {xs : List D} (h : S[r]? = some (.lst xs)) : walk false [.ref r] S = some xs := by
  simp [walk, items, h]
theorem lc_ref {S : Store} {r n : Nat} {F G' : Nat → D} {f : D → Store → Option (Option D × Store)} (h : S[r]? = some (.lst ((List.range n).map F))) (hn : n ≤ sizeLine) (hf : ∀ i, i < n → f (F i) S = some (some (G' i), S)) :
    evLc (stays false [.ref r] ((List.range n).map F)) f ((List.range n).map F) [] S = some ((List.range n).map G', S) := by
  refine evLc_map (ys := (List.range n).map G') (stays_ref h) (by simp) (by simpa using hn) fun i hi hj => ?_
  simpa using hf i (by simpa using hi)
theorem c_lsum {S : Store} {r n w a b : Nat} {x : Nat → Rat} {R : Nat → Nat → Rat} (h : S[r]? = some (.lst ((List.range n).map fun i => rowF w (R i)))) (hn : n ≤ sizeLine) (hw : w ≤ sizeLine) (hx : bndN n a x) (hR : ∀ i, i < n → bndN w b (R i)) (h9 : n * (a + b + 1) + 1 ≤ 9000) :
    call (tab ts) G (k + 4) 33 [rowF n x, .ref r, .int (w : Int)] S = some (rowF w fun c => sumR n fun j => x j * R j c, S) := by
  rw [call_of T33 rfl]
  simp only [f__law_sum, b__law_sum, startA]
  have e := lc_nats (S := S) (f := lcBk (call (tab ts) G (k + 3)) G (.name 3) [] (.call 26 [(.var 0), (.bi .tuple [(.lc [4] (.name 4) false [(.var 1)] [] (.ix (.var 4) (.var 3)))])]) [some (rowF n x), some (.ref r), some (.int (w : Int)), none, none]) (n := w) (G := fun c => frD (sumR n fun j => x j * R j c)) hw fun c hc => by
    have e1 := lc_ref (f := lcBk (call (tab ts) G (k + 3)) G (.name 4) [] (.ix (.var 4) (.var 3)) [some (rowF n x), some (.ref r), some (.int (w : Int)), some (.int (c : Int)), none]) (G' := fun i => frD (R i c)) h hn fun i hi => by
      simp [lcBk, Tg.bind, ix_rowF hc]
    have e2 := c_dot (S := S) (k := k) (g := fun i => R i c) hn hx (fun i hi => hR i hi c hc) h9
    have e3 : (tupF n fun i => frD (R i c)) = rowF n fun i => R i c := rfl
    simp [lcBk, Tg.bind, wipeA, walk_ref h, e1, e3, e2]
  simp [wipeA, walk_rg hw, e]
  rfl
theorem nD_range {ord : List Nat} {w : Nat} (hl : ord.length = w) : nD ord = (List.range w).map fun c => D.int (((ord[c]?).getD 0 : Nat) : Int) := by
  subst hl
  apply List.ext_getElem
  · simp [nD]
  · intro i h1 h2
    have h3 : i < ord.length := by simpa [nD] using h1
    simp [nD, List.getElem?_eq_getElem h3]
theorem c_moved {S : Store} {r w : Nat} {f : Nat → Rat} {ord : List Nat} (h : S[r]? = some (.lst (nD ord))) (hp : ord.Perm (List.range w)) (hw : w ≤ sizeLine) :
    call (tab ts) G (k + 1) 34 [rowF w f, .ref r] S = some (rowF w fun c => f ((ord[c]?).getD 0), S) := by
  rw [call_of T34 rfl]
  simp only [f__law_moved, b__law_moved, startA]
  have hl : ord.length = w := by rw [hp.length_eq, List.length_range]
  rw [nD_range hl] at h
  have e := lc_ref (f := lcBk (call (tab ts) G k) G (.name 2) [] (.ix (.var 0) (.var 2)) [some (rowF w f), some (.ref r), none]) (G' := fun c => frD (f ((ord[c]?).getD 0))) h hw fun i hi => by
    have hi' : (ord[i]?).getD 0 < w := by
      rw [List.getElem?_eq_getElem (show i < ord.length by omega)]
      exact List.mem_range.mp (hp.mem_iff.mp (List.getElem_mem _))
    simp [lcBk, Tg.bind, ix_rowF hi']
  simp [wipeA, walk_ref h, e]
  rfl
end Code

namespace Code
open PySem Ab
variable {k : Nat} {A B : O} {X : List O} {ds : List Nat}
def rbm : Nat → Nat
  | 0 => 0
  | k + 1 => k * (10 + rbm k + 1) + 1 + 10 + 1
theorem rbm_le (k : Nat) : rbm k ≤ rbm (k + 1) := by
  cases k with
  | zero => simp [rbm]
  | succ k =>
    rw [show rbm (k + 1 + 1) = (k + 1) * (10 + rbm (k + 1) + 1) + 1 + 10 + 1 from rfl, Nat.succ_mul]
    omega
theorem rbm_mono {i j : Nat} (h : i ≤ j) : rbm i ≤ rbm j := by
  induction h with
  | refl => exact Nat.le_refl _
  | step _ ih => exact Nat.le_trans ih (rbm_le _)
theorem Dual.congr {n : Nat} {R R' : Nat → Nat → Rat} {φ} (h : Dual n R φ) (e : ∀ j, j < n → R' j = R j) : Dual n R' φ := ⟨h.lin, h.near, fun k i hk hi => by rw [e i hi]; exact h.tells k i hk hi⟩
def part2 (i : Nat) (t : Rat) : D := .tup ((List.range i).map (fun _ => frD 0) ++ [frD t])
theorem own1 {S : Store} {i : Nat} {t : Rat} (h : i ≤ 1000) : dBin S .Add (tupF i fun _ => .tup [.int 0, .int 1]) (.tup [frD t]) = some (part2 i t) := by
  unfold tupF
  rw [add_tup (by unfold sizeLine; simp; omega)]
  rfl
theorem own2 {S : Store} {i m : Nat} {t : Rat} {f : Nat → Rat} (h : i + 1 + m ≤ sizeLine) : dBin S .Add (part2 i t) (rowF m f) = some (rowF (i + 1 + m) (ownF i t f)) := by
  unfold part2 rowF tupF
  rw [add_tup (by simpa using h), own_row h]
def sl1 (w n : Nat) (v : Nat → Rat) : D := .tup (((List.range w).map fun c => frD (v c)).take n)
def sl2 (w n : Nat) (v : Nat → Rat) (t : Rat) : D := .tup (((List.range w).map fun c => frD (v c)).take n ++ [frD (v n + t)])
def sl3 (w n : Nat) (v : Nat → Rat) : D := .tup (((List.range w).map fun c => frD (v c)).drop (n + 1))
theorem sl1_ok {S : Store} {w n : Nat} {v : Nat → Rat} (h : n < w) : dSl S (rowF w v) none (some (n : Int)) = some (sl1 w n v) := by
  unfold rowF tupF dSl cut sl1
  simp only [HT.sIx_none, HT.sIx_nat, List.length_map, List.length_range, List.drop_zero, Nat.sub_zero]
  rw [Nat.min_eq_left (by omega)]
theorem sl2_ok {S : Store} {w n : Nat} {v : Nat → Rat} {t : Rat} (h : n < w) (hw : w ≤ 1000) : dBin S .Add (sl1 w n v) (.tup [frD (v n + t)]) = some (sl2 w n v t) := by
  unfold sl1
  rw [add_tup (by unfold sizeLine; simp; omega)]
  rfl
theorem sl3_ok {S : Store} {w n : Nat} {v : Nat → Rat} (h : n < w) : dSl S (rowF w v) (some ((n : Int) + 1)) none = some (sl3 w n v) := by
  unfold rowF tupF dSl cut sl3
  rw [show ((n : Int) + 1) = ((n + 1 : Nat) : Int) by omega]
  simp only [HT.sIx_none, HT.sIx_nat, List.length_map, List.length_range]
  rw [Nat.min_eq_left (by omega), List.take_of_length_le (by simp)]
theorem sl4_ok {S : Store} {w n : Nat} {v : Nat → Rat} {t : Rat} (h : n < w) (hw : w ≤ 1000) : dBin S .Add (sl2 w n v t) (sl3 w n v) = some (rowF w (altF n t v)) := by
  obtain ⟨m, rfl⟩ : ∃ m, w = n + 1 + m := ⟨w - n - 1, by omega⟩
  unfold sl2 sl3
  rw [add_tup (by unfold sizeLine; simp; omega), alt_row]
  rfl
def bdyR : List IS := [.asg (.name 13) (.bin .Add (.bin .Add (.bin .Mult (.tup [(.tup [(.lit (.int 0)), (.lit (.int 1))])]) (.var 7)) (.tup [(.tup [(.bin .Add (.lit (.int 1)) (.call 20 [(.var 0), (.lit (.int 3))])), (.lit (.int 1))])])) (.call 30 [(.var 0), (.bin .Sub (.bin .Sub (.var 3) (.var 7)) (.lit (.int 1))), (.lit (.int 3))])),
    .asg (.name 14) (.call 33 [(.call 30 [(.var 0), (.var 7), (.lit (.int 2))]), (.var 6), (.var 3)]),
    .ex (.meth .append (.var 6) [(.bi .tuple [(.lc [15] (.name 15) true [(.var 3)] [] (.call 24 [(.ix (.var 13) (.var 15)), (.ix (.var 14) (.var 15))]))])])]
theorem app4 {A B C E : O} {xs : List D} {d : D} (hl : xs.length < sizeLine) : dMe .append (.ref 4) [d] (A :: B :: C :: E :: .lst xs :: []) = some (.non, A :: B :: C :: E :: .lst (xs ++ [d]) :: []) := by
  simp [dMe, hl]
theorem bnd_small {i : Int} (h : i.natAbs < 4) : bnd 10 (i : Rat) := ⟨Nat.lt_of_lt_of_le h (by decide), by show 1 < 2 ^ 10; decide⟩
/-- one more row -/
theorem row_step {n w i : Nat} {ord : List Nat} {x1 x2 x7 x13 x14 x15 : Option D} {x5 : Option D} {R : Nat → Nat → Rat} {φ} (hi : i < n) (hn : n ≤ 3) (hnw : n < w) (hw : w ≤ 1000) (hR : ∀ j, j < i → bndN w (rbm (j + 1)) (R j)) (hD : Dual i R φ) :
    ∃ (ds' : List Nat) (R' : Nat → Nat → Rat) (φ' : Nat → (Nat → Rat) → Rat) (y13 y14 : Option D), (∀ j, j < i + 1 → bndN w (rbm (j + 1)) (R' j)) ∧ Dual (i + 1) R' φ' ∧
      forF (call (tab ts) G (k + 7)) G (.name 7) bdyR (.int (i : Int)) [some (.ref 2), x1, x2, some (.int (w : Int)), some (.ref 3), x5, some (.ref 4), x7, none, none, none, none, none, x13, x14, x15] (st A B ds [.lst (nD ord), .lst ((List.range i).map fun j => rowF w (R j))]) =
        some (.next, [some (.ref 2), x1, x2, some (.int (w : Int)), some (.ref 3), x5, some (.ref 4), some (.int (i : Int)), none, none, none, none, none, y13, y14, x15], st A B ds' [.lst (nD ord), .lst ((List.range (i + 1)).map fun j => rowF w (R' j))]) := by
  have hws : w ≤ sizeLine := by
    unfold sizeLine
    omega
  have his : i ≤ sizeLine := by omega
  let Y : List O := [.lst (nD ord), .lst ((List.range i).map fun j => rowF w (R j))]
  obtain ⟨v, d1, hv, e1⟩ := c_take (k := k + 6) (A := A) (B := B) (X := Y) (ds := ds) (m := 3) (by omega)
  have e1 : call (tab ts) G (k + 7) 20 [.ref 2, .int 3] (st A B ds Y) = _ := e1
  obtain ⟨f, d2, hf, e2⟩ := c_row (k := k + 3) (A := A) (B := B) (X := Y) (ds := d1) (b := 10) (n := w - i - 1) (cell := 3) (by omega) (by omega) (by omega) (by decide)
  obtain ⟨x, d3, hx, e3⟩ := c_row (k := k + 3) (A := A) (B := B) (X := Y) (ds := d2) (b := 10) (n := i) (cell := 2) his (by omega) (by omega) (by decide)
  have q1 : (w : Int) - (i : Int) - 1 = ((w - i - 1 : Nat) : Int) := by omega
  have q2 : i + 1 + (w - i - 1) = w := by omega
  have q3 : D.tup [.int (1 + (v : Int)), .int 1] = frD ((1 + (v : Int) : Int) : Rat) := rfl
  generalize ht : ((1 + (v : Int) : Int) : Rat) = t at *
  have ht0 : t ≠ 0 := by
    rw [← ht]
    intro z
    have := Rat.num_eq_zero.mpr z
    rw [Rat.num_intCast] at this
    omega
  have htb : bnd 10 t := by
    rw [← ht]
    exact bnd_small (by omega)
  have o1 := own1 (S := st A B d2 Y) (i := i) (t := t) (by omega)
  have o1' := own1 (S := st A B d1 Y) (i := i) (t := t) (by omega)
  have o2 := own2 (S := st A B d2 Y) (i := i) (m := w - i - 1) (t := t) (f := f) (by omega)
  rw [q2] at o2
  have r1 := rep_tup (S := st A B ds Y) (d := .tup [.int 0, .int 1]) (m := i) (by omega)
  have hb : ∀ j, j < i → bndN w (rbm i) (R j) := fun j hj c hc => bnd_mono (hR j hj c hc) (rbm_mono (by omega))
  have hrb : rbm i ≤ 104 := Nat.le_trans (rbm_mono (show i ≤ 3 by omega)) (by decide)
  have hz : i * (10 + rbm i + 1) + 1 ≤ 2000 := by
    have : i * (10 + rbm i + 1) ≤ 3 * 115 := Nat.mul_le_mul (by omega) (by omega)
    omega
  have l1 := c_lsum (S := st A B d3 Y) (k := k + 3) (r := 4) (n := i) (w := w) (x := x) (R := R) rfl his hws hx hb (by omega)
  have ob : bndN w 10 (ownF i t f) := fun c hc => by
    unfold ownF
    split
    · exact bnd_mono bnd_0 (by omega)
    · split
      · exact htb
      · exact hf _ (by omega)
  have sb : bndN w (i * (10 + rbm i + 1) + 1) fun c => sumR i fun j => x j * R j c := fun c hc => bnd_sum fun j hj => bnd_mul (hx j hj) (hb j hj c hc)
  have c1 := lc_nats (S := st A B d3 Y) (f := lcBk (call (tab ts) G (k + 7)) G (.name 15) [] (.call 24 [(.ix (.var 13) (.var 15)), (.ix (.var 14) (.var 15))]) [some (.ref 2), x1, x2, some (.int (w : Int)), some (.ref 3), x5, some (.ref 4), some (.int (i : Int)), none, none, none, none, none, some (rowF w (ownF i t f)), some (rowF w fun c => sumR i fun j => x j * R j c), none]) (n := w) (G := fun c => frD (ownF i t f c + sumR i fun j => x j * R j c)) hws fun c hc => by
    have e := c_lplus (gl := G) (S := st A B d3 Y) (k := k + 5) (ob c hc) (sb c hc) (by omega)
    simp [lcBk, Tg.bind, ix_rowF hc, e]
  let R' : Nat → Nat → Rat := fun j => if j = i then (fun c => ownF i t f c + sumR i fun j => x j * R j c) else R j
  have eR : ∀ j, j < i → R' j = R j := fun j hj => by
    simp only [R']
    rw [if_neg (by omega)]
  have eRi : R' i = fun c => ownF i t f c + sumR i fun j => x j * R j c := by
    simp [R']
  obtain ⟨φ', hD'⟩ := (hD.congr eR).step (own := ownF i t f) (x := x) (fun c hc => by simp [ownF, hc]) (by simpa [ownF] using ht0) (fun c hc => by
    rw [eRi]
    show ownF i t f c + (sumR i fun j => x j * R j c) = ownF i t f c + sumR i fun j => x j * R' j c
    rw [sumR_congr (f := fun j => x j * R' j c) (g := fun j => x j * R j c) fun j hj => by rw [eR j hj]])
  refine ⟨d3, R', φ', some (rowF w (ownF i t f)), some (rowF w fun c => sumR i fun j => x j * R j c), fun j hj => ?_, hD', ?_⟩
  · by_cases h : j = i
    · subst h
      rw [eRi]
      exact fun c hc => bnd_mono (bnd_add (ob c hc) (sb c hc)) (by rw [rbm]; omega)
    · rw [eR j (by omega)]
      exact hR j (by omega)
  · have hl : ((List.range i).map fun j => rowF w (R j)).length < sizeLine := by
      simp
      omega
    have a4 := app4 (A := A) (B := B) (C := .lst (nD d3)) (E := .lst (nD ord)) (d := tupF w fun c => frD (ownF i t f c + sumR i fun j => x j * R j c)) hl
    have a4 : dMe .append (.ref 4) [tupF w fun c => frD (ownF i t f c + sumR i fun j => x j * R j c)] (st A B d3 Y) = _ := a4
    have eL : (List.range (i + 1)).map (fun j => rowF w (R' j)) = (List.range i).map (fun j => rowF w (R j)) ++ [tupF w fun c => frD (ownF i t f c + sumR i fun j => x j * R j c)] := by
      rw [List.range_succ, List.map_append]
      congr 1
      · exact List.map_congr_left fun j hj => by rw [eR j (List.mem_range.mp hj)]
      · simp only [List.map_cons, List.map_nil, eRi]
        rfl
    have rv : recvOk .append (.ref 4) (st A B ds Y) = true := rfl
    have rv3 : recvOk .append (.ref 4) (st A B d3 Y) = true := rfl
    rw [eL]
    show forF (call (tab ts) G (k + 7)) G (.name 7) bdyR (.int (i : Int)) _ (st A B ds Y) = _
    simp [sizeLine, forF, bdyR, Tg.bind, r1, e1, q3, o1, o1', q1, e2, o2, e3, l1, rv, rv3, wipeA, walk_rg hws, c1, a4]
    rfl
end Code

namespace Code
open PySem Ab
variable {k : Nat} {A B : O} {X : List O} {ds : List Nat}
theorem undr_nD {n : Nat} : ∀ {ds : List Nat}, D.undrs n (nD ds) = true
  | [] => by simp [nD, D.undrs]
  | d :: ds => by
    have := undr_nD (n := n) (ds := ds)
    unfold nD at this
    simp [nD, D.undrs, D.undr, this]
theorem trunc_3 {b : Bool} (hA : O.undr 3 A = true) (hB : O.undr 3 B = true) : trunc 3 (.bl b) (st A B ds X) = (.bl b, st A B ds []) := by
  have h3 : O.undr 3 (.lst (nD ds)) = true := undr_nD
  have : (List.take 3 (st A B ds X)).all (O.undr 3) = true := by
    simp [st, hA, hB, h3]
  unfold trunc
  rw [this]
  rfl
theorem rows_loop {n w : Nat} {ord : List Nat} {x1 x2 x5 : Option D} (hn : n ≤ 3) (hnw : n < w) (hw : w ≤ 1000) :
    ∃ (ds' : List Nat) (R : Nat → Nat → Rat) (φ : Nat → (Nat → Rat) → Rat) (y7 y13 y14 y15 : Option D), (∀ j, j < n → bndN w (rbm (j + 1)) (R j)) ∧ Dual n R φ ∧
      evFor (fun _ => true) (forF (call (tab ts) G (k + 7)) G (.name 7) bdyR) (natsD n) [some (.ref 2), x1, x2, some (.int (w : Int)), some (.ref 3), x5, some (.ref 4), none, none, none, none, none, none, none, none, none] (st A B ds [.lst (nD ord), .lst []]) =
        some (.next, [some (.ref 2), x1, x2, some (.int (w : Int)), some (.ref 3), x5, some (.ref 4), y7, none, none, none, none, none, y13, y14, y15], st A B ds' [.lst (nD ord), .lst ((List.range n).map fun j => rowF w (R j))]) := by
  obtain ⟨ρ', S', h1, h2⟩ := evFor_inv (chk := fun _ => true) (body := forF (call (tab ts) G (k + 7)) G (.name 7) bdyR)
    (fun i ρ S => ∃ ds' R φ y7 y13 y14 y15, (∀ j, j < i → bndN w (rbm (j + 1)) (R j)) ∧ Dual i R φ ∧ ρ = [some (.ref 2), x1, x2, some (.int (w : Int)), some (.ref 3), x5, some (.ref 4), y7, none, none, none, none, none, y13, y14, y15] ∧ S = st A B ds' [.lst (nD ord), .lst ((List.range i).map fun j => rowF w (R j))])
    (ds := natsD n) (n := 0) (ρ := [some (.ref 2), x1, x2, some (.int (w : Int)), some (.ref 3), x5, some (.ref 4), none, none, none, none, none, none, none, none, none]) (S := st A B ds [.lst (nD ord), .lst []]) (fun _ _ _ _ => rfl)
    ⟨ds, fun _ _ => 0, fun _ _ => 0, none, none, none, none, fun j hj => by omega, Dual.none _, rfl, rfl⟩ (fun i hi ρ S ⟨ds', R, φ, y7, y13, y14, y15, hR, hD, hρ, hS⟩ => by
      rw [Nat.zero_add] at hR hD hS
      have hi : i < n := by simpa [natsD] using hi
      obtain ⟨d2, R', φ', z13, z14, hR', hD', e⟩ := row_step (k := k) (A := A) (B := B) (ds := ds') (ord := ord) (x1 := x1) (x2 := x2) (x7 := y7) (x13 := y13) (x14 := y14) (x15 := y15) (x5 := x5) hi hn hnw hw hR hD
      refine ⟨_, st A B d2 [.lst (nD ord), .lst ((List.range (i + 1)).map fun j => rowF w (R' j))], ?_, d2, R', φ', some (.int (i : Int)), z13, z14, y15, ?_, ?_, rfl, ?_⟩
      · rw [hρ, hS, show (natsD n)[i] = .int (i : Int) by simp [natsD]]
        exact e
      · rw [Nat.zero_add]
        exact hR'
      · rw [Nat.zero_add]
        exact hD'
      · rw [Nat.zero_add])
  obtain ⟨ds', R, φ, y7, y13, y14, y15, hR, hD, rfl, rfl⟩ := h2
  rw [show 0 + (natsD n).length = n by simp [natsD]] at hR hD h1
  exact ⟨ds', R, φ, y7, y13, y14, y15, hR, hD, h1⟩
theorem cs_le : ∀ n, n ≤ 3 → (∀ i, i < n → le2 (clrB (Cs (fun i => rbm (i + 1)) i) (rbm (i + 1), 1)) (2000, 2000)) ∧ le2 (clrB (Cs (fun i => rbm (i + 1)) n) (720, 1)) (9000, 9000) := by
  unfold le2
  decide +kernel
theorem pow20 : dInt .Pow 10 20 = some 100000000000000000000 := by decide +kernel
theorem st_app {Z : List O} : st A B ds X ++ Z = st A B ds (X ++ Z) := rfl
theorem told_mult {n : Nat} {cell : Int} (hA : O.undr 3 A = true) (hB : O.undr 3 B = true) (hn : n ≤ 3) (hc : cell.natAbs < 10 ^ 59) : ∃ ds', call (tab ts) G (k + 8) 35 [.ref 2, .int (n : Int), .int cell] (st A B ds []) = some (.bl true, st A B ds' []) := by
  obtain ⟨v, d1, hv, e1⟩ := c_take (k := k + 6) (A := A) (B := B) (X := []) (ds := ds) (m := 2) (by omega)
  have e1 : call (tab ts) G (k + 7) 20 [.ref 2, .int 2] (st A B ds []) = _ := e1
  obtain ⟨w, hwd⟩ : ∃ w, w = n + 1 + v := ⟨_, rfl⟩
  have q0 : (n : Int) + 1 + (v : Int) = (w : Int) := by omega
  have hw : w ≤ 1000 := by omega
  have hws : w ≤ sizeLine := by
    unfold sizeLine
    omega
  have hns : n ≤ sizeLine := by omega
  have hnw : n < w := by omega
  have u1 := lc_nats (S := st A B d1 []) (f := lcBk (call (tab ts) G (k + 7)) G (.name 7) [] (.var 7) [some (.ref 2), some (.int (n : Int)), some (.int cell), some (.int (w : Int)), none, none, none, none, none, none, none, none, none, none, none, none]) (n := w) (G := fun i => .int (i : Int)) hws fun i hi => by
    simp [lcBk, Tg.bind]
  have nr : nD (List.range w) = (List.range w).map fun (i : Nat) => D.int (i : Int) := rfl
  obtain ⟨y5, d2, ord, hp, e2⟩ := order_ok (k := k) (A := A) (B := B) (ds := d1) (w := w) (by omega) (by unfold sizeLine; omega) (x0 := .non) (x1 := .int (n : Int)) (x2 := .int cell) (r := [none, none, none, none, none, none, none, none, none, none]) rfl (List.Perm.refl (List.range w))
  obtain ⟨d3, R, φ, y7, y13, y14, y15, hR, hD, e3⟩ := rows_loop (k := k) (A := A) (B := B) (ds := d2) (ord := ord) (x1 := some (.int (n : Int))) (x2 := some (.int cell)) (x5 := y5) hn hnw hw
  let Y : List O := [.lst (nD ord), .lst ((List.range n).map fun j => rowF w (R j))]
  have e3 : evFor _ _ _ _ _ = some (_, _, st A B d3 Y) := e3
  -- the size
  obtain ⟨sz, hsz⟩ : ∃ sz : Int, sz = (cell.natAbs : Int) / 10 ^ 20 := ⟨_, rfl⟩
  have hs2 : sz.natAbs < 2 ^ 130 := by
    rw [hsz]
    have : (cell.natAbs : Int) / 10 ^ 20 < 10 ^ 39 := by omega
    have : 0 ≤ (cell.natAbs : Int) / 10 ^ 20 := by omega
    have : (10 : Int) ^ 39 < 2 ^ 130 := by decide
    omega
  have f1 : dInt .FloorDiv (cell.natAbs : Int) 100000000000000000000 = some sz := by
    rw [hsz]
    exact floor_int (g := 100000000000000000000) (by decide) (by decide +kernel)
  obtain ⟨s, hsc, hs⟩ : ∃ s : Int, (if cell < 0 then -sz else sz) = s ∧ s.natAbs < 2 ^ 130 := ⟨_, rfl, by split <;> omega⟩
  obtain ⟨x, d4, hx, e4⟩ := c_row (k := k + 3) (A := A) (B := B) (X := Y) (ds := d3) (b := 130) (n := n) (cell := s) hns (by omega) (by omega) hs
  have hb : ∀ j, j < n → bndN w (rbm n) (R j) := fun j hj c hc => bnd_mono (hR j hj c hc) (rbm_mono (by omega))
  have hrb : rbm n ≤ 104 := Nat.le_trans (rbm_mono hn) (by decide)
  have hz : n * (130 + rbm n + 1) + 1 ≤ 706 := by
    have : n * (130 + rbm n + 1) ≤ 3 * 235 := Nat.mul_le_mul (by omega) (by omega)
    omega
  have l1 := c_lsum (S := st A B d4 Y) (k := k + 3) (r := 4) (n := n) (w := w) (x := x) (R := R) rfl hns hws hx hb (by omega)
  obtain ⟨V, hV⟩ : ∃ V : Nat → Rat, V = fun c => sumR n fun j => x j * R j c := ⟨_, rfl⟩
  rw [← hV] at l1
  have bV : bndN w 706 V := fun c hc => by
    rw [hV]
    exact bnd_mono (bnd_sum fun j hj => bnd_mul (hx j hj) (hb j hj c hc)) hz
  let σ : Nat → Nat := fun c => (ord[c]?).getD 0
  have hl : ord.length = w := by rw [hp.length_eq, List.length_range]
  have σlt : ∀ c, c < w → σ c < w := fun c hc => by
    show (ord[c]?).getD 0 < w
    rw [List.getElem?_eq_getElem (show c < ord.length by omega)]
    exact List.mem_range.mp (hp.mem_iff.mp (List.getElem_mem _))
  have σon : ∀ c, c < w → ∃ c', c' < w ∧ σ c' = c := fun c hc => by
    obtain ⟨c', h1, h2⟩ := List.getElem_of_mem (hp.mem_iff.mpr (List.mem_range.mpr hc))
    refine ⟨c', by omega, ?_⟩
    show (ord[c']?).getD 0 = c
    rw [List.getElem?_eq_getElem h1]
    exact h2
  have mv : ∀ (d : List Nat) (f : Nat → Rat), call (tab ts) G (k + 7) 34 [rowF w f, .ref 3] (st A B d Y) = some (rowF w fun c => f (σ c), st A B d Y) := fun d f => c_moved (S := st A B d Y) (k := k + 6) (r := 3) rfl hp hws
  have m1 := lc_ref (S := st A B d4 Y) (r := 4) (f := lcBk (call (tab ts) G (k + 7)) G (.name 13) [] (.call 34 [.var 13, .var 4]) [some (.ref 2), some (.int (n : Int)), some (.int cell), some (.int (w : Int)), some (.ref 3), y5, some (.ref 4), y7, some (.int sz), some (rowF n x), some (rowF w V), none, none, none, y14, y15]) (n := n) (F := fun i => rowF w (R i)) (G' := fun i => rowF w fun c => R i (σ c)) rfl hns fun i hi => by
    simp [lcBk, Tg.bind, mv]
  have wk : walk false [.ref 4] (st A B d4 Y) = some ((List.range n).map fun i => rowF w (R i)) := walk_ref rfl
  obtain ⟨cs1, cs2⟩ := cs_le n hn
  have hR' : ∀ i, i < n → bndN w ((fun i => rbm (i + 1)) i) fun c => R i (σ c) := fun i hi c hc => hR i hi _ (σlt c hc)
  -- the row is told by its multiples
  have A1 : ∀ d, call (tab ts) G (k + 7) 18 [tupF n fun i => rowF w fun c => R i (σ c), rowF w fun c => V (σ c)] (st A B d Y) = some (rowF n x, st A B d Y) := fun d => by
    rcases c_asm (S := st A B d Y) (k := k + 1) (w := w) (m := n) (fb := 720) (rb := fun i => rbm (i + 1)) (R := fun i c => R i (σ c)) (v := fun c => V (σ c)) hws (by omega) hR' (fun c hc => bnd_mono (bV _ (σlt c hc)) (by omega)) cs1 cs2 with ⟨u, h1, h2⟩ | ⟨h1, _⟩
    · have : ∀ j, j < n → u j = x j := hD.only (m := 0) fun c hc => by
        obtain ⟨c', h3, h4⟩ := σon c (by omega)
        have := h1 c' h3
        rw [h4] at this
        rw [← this, hV]
      have e := rowF_congr this
      rw [e] at h2
      exact h2
    · exact absurd ⟨x, fun c hc => by rw [hV]⟩ h1
  obtain ⟨v5, d5, hv5, e5⟩ := c_take (k := k + 6) (A := A) (B := B) (X := Y) (ds := d4) (m := 5) (by omega)
  have e5 : call (tab ts) G (k + 7) 20 [.ref 2, .int 5] (st A B d4 Y) = _ := e5
  have q3 : D.tup [.int (1 + (v5 : Int)), .int 1] = frD ((1 + (v5 : Int) : Int) : Rat) := rfl
  generalize ht : ((1 + (v5 : Int) : Int) : Rat) = t at *
  have ht0 : t ≠ 0 := by
    rw [← ht]
    intro z
    have := Rat.num_eq_zero.mpr z
    rw [Rat.num_intCast] at this
    omega
  have htb : bnd 10 t := by
    rw [← ht]
    refine ⟨Nat.lt_of_lt_of_le (m := 8) ?_ (by decide), by show 1 < 2 ^ 10; decide⟩
    rw [Rat.num_intCast]
    omega
  have p1 := c_lplus (gl := G) (S := st A B d5 Y) (k := k + 5) (bV n hnw) htb (by omega)
  have A2 : ∀ d, call (tab ts) G (k + 7) 18 [tupF n fun i => rowF w fun c => R i (σ c), rowF w fun c => altF n t V (σ c)] (st A B d Y) = some (.non, st A B d Y) := fun d => by
    rcases c_asm (S := st A B d Y) (k := k + 1) (w := w) (m := n) (fb := 720) (rb := fun i => rbm (i + 1)) (R := fun i c => R i (σ c)) (v := fun c => altF n t V (σ c)) hws (by omega) hR' (fun c hc => by
      show bnd 720 (altF n t V (σ c))
      unfold altF
      split
      · exact bnd_mono (bnd_add (bV _ (σlt c hc)) htb) (by omega)
      · exact bnd_mono (bV _ (σlt c hc)) (by omega)) cs1 cs2 with ⟨u, h1, h2⟩ | ⟨_, h2⟩
    · exfalso
      refine hD.not (u := u) (x := x) (v := altF n t V) ht0 (fun c hc => ?_) ?_ fun c hc => ?_
      · unfold altF
        rw [if_neg (by omega), hV]
      · unfold altF
        rw [if_pos rfl, hV]
      · obtain ⟨c', h3, h4⟩ := σon c (by omega)
        have := h1 c' h3
        rw [h4] at this
        exact this
    · exact h2
  have s1 := fun d => s_row (S := st A B d Y) (k := k + 4) (f := x) hns
  have s2 := s_non (S := st A B d5 Y) (k := k + 6)
  have z1 := sl1_ok (S := st A B d4 Y) (v := V) hnw
  have z2 := sl2_ok (S := st A B d5 Y) (v := V) (t := t) hnw hw
  have z3 := sl3_ok (S := st A B d5 Y) (v := V) hnw
  have z4 := sl4_ok (S := st A B d5 Y) (v := V) (t := t) hnw hw
  have iV := ix_rowF (S := st A B d4 Y) (f := V) hnw
  refine ⟨d5, ?_⟩
  rw [call_of T35 rfl]
  simp only [f__law_are_multiples_told, b__law_are_multiples_told, startA]
  unfold bdyO at e2
  unfold bdyR at e3
  rw [← nr] at u1
  have wk3 : ∀ S, walk true [.int 3] S = some (natsD 3) := fun S => walk_rg (S := S) (n := 3) (by decide)
  have m2 : (D.tup ((List.range n).map fun i => rowF w fun c => R i (σ c))) = tupF n fun i => rowF w fun c => R i (σ c) := rfl
  by_cases hneg : cell < 0
  · rw [if_pos hneg] at hsc
    subst hsc
    simp [sizeLine, Tg.bind, isAnd, wipeA, e1, q0, walk_rg hws, u1, st_app, wk3, e2, walk_rg hns, e3, bi_abs, pow20, f1, hneg, e4, l1, wk, m1, mv, A1, s1, z1, iV, e5, q3, p1, z2, z3, z4, A2, s2, trunc_3 hA hB]
  · rw [if_neg hneg] at hsc
    subst hsc
    simp [sizeLine, Tg.bind, isAnd, wipeA, e1, q0, walk_rg hws, u1, st_app, wk3, e2, walk_rg hns, e3, bi_abs, pow20, f1, hneg, e4, l1, wk, m1, mv, A1, s1, z1, iV, e5, q3, p1, z2, z3, z4, A2, s2, trunc_3 hA hB]
end Code

namespace Code
open PySem Ab
variable {k : Nat} {A B : O} {X : List O} {ds : List Nat} {S : Store}
def iD (l : List Int) : List D := l.map .int
theorem undr_iD {n : Nat} : ∀ {l : List Int}, O.undr n (.lst (iD l)) = true
  | [] => by simp [iD, O.undr, D.undrs]
  | d :: l => by
    have := undr_iD (n := n) (l := l)
    unfold iD O.undr at this
    simp [iD, O.undr, D.undrs, D.undr, this]
theorem at_iD {l : List Int} {j : Nat} (h : j < l.length) : at_ (iD l) (j : Int) = some (.int l[j]) := by
  unfold at_ L2.atI L2.ixN
  rw [if_pos (by omega), if_pos (by simpa [iD] using h)]
  simp [iD, h]
theorem mul_small {i j : Int} (h : j.natAbs < 2 ^ 64) : dInt .Mult i j = some (i * j) := by
  have : mulOk i j = true := by
    unfold mulOk
    rw [Bool.or_eq_true, Bool.or_eq_true]
    exact .inr (.inl (decide_eq_true h))
  simp only [dInt, this, if_true]
theorem mod_pos' {i m : Int} (h : 0 < m) : dInt .Mod i m = some (i % m) := by simp [dInt, h]
theorem pow18 : dInt .Pow 10 18 = some 1000000000000000000 := by decide +kernel
theorem pow59 : dInt .Pow 10 59 = some 100000000000000000000000000000000000000000000000000000000000 := by decide +kernel
def sd (cs rs : List Int) (ds : List Nat) : Store := [.lst (iD cs), .lst (iD rs), .lst (nD ds)]
theorem sd_app {cs rs : List Int} {n : Int} (h : 0 ≤ n) (hl : ds.length < sizeLine) : dMe .append (.ref 2) [.int n] (sd cs rs ds) = some (.non, sd cs rs (ds ++ [n.toNat])) := by
  have e : ((n.toNat : Nat) : Int) = n := by omega
  simp [dMe, sd, nD, hl, e]
def bdyD : List IS := [.asg (.name 6) (.bin .Mod (.var 5) (.bi .len [(.var 2)])),
    .ite (.bop .And [(.cmp .GtE (.ix (.var 2) (.var 6)) (.bin .Pow (.lit (.int 10)) (.lit (.int 18)))), (.cmp .Gt (.ix (.var 3) (.var 6)) (.lit (.int 0)))]) [.ex (.meth .append (.var 4) [(.bin .Mod (.bi .int [(.ix (.var 3) (.var 6))]) (.lit (.int 1000)))]),
    .seti (.var 3) (.var 6) (.bin .FloorDiv (.ix (.var 3) (.var 6)) (.lit (.int 1000)))] [.asg (.name 7) (.bin .Mod (.bi .int [(.bin .Add (.bin .Add (.bin .Mult (.ix (.var 2) (.var 6)) (.lit (.int 48271))) (.bin .Mult (.var 5) (.lit (.int 69621)))) (.lit (.int 11)))]) (.lit (.int 2147483647))),
    .ex (.meth .append (.var 4) [(.bin .Mod (.bi .int [(.bin .Add (.bin .Add (.bin .Mult (.var 7) (.var 7)) (.bin .Mult (.lit (.int 3)) (.var 7))) (.var 5))]) (.lit (.int 1000003)))])]]
theorem draw_step {cs rs : List Int} {i : Nat} {x5 x6 x7 : Option D} {x0 x1 x8 : Option D} (h0 : 0 < cs.length) (hr : rs.length = cs.length) (hl : ds.length < sizeLine) :
    ∃ (rs' : List Int) (n : Nat) (y5 y6 y7 : Option D), rs'.length = cs.length ∧ forF (call (tab ts) G k) G (.name 5) bdyD (.int (i : Int)) [x0, x1, some (.ref 0), some (.ref 1), some (.ref 2), x5, x6, x7, x8] (sd cs rs ds) =
      some (.next, [x0, x1, some (.ref 0), some (.ref 1), some (.ref 2), y5, y6, y7, x8], sd cs rs' (ds ++ [n])) := by
  have hj : i % cs.length < cs.length := Nat.mod_lt _ h0
  have q1 : ((i : Int) % (cs.length : Int)) = ((i % cs.length : Nat) : Int) := by omega
  have l1 : dBi (sd cs rs ds) .len [.ref 0] = some (.int (cs.length : Int)) := by simp [dBi, items, sd, iD]
  have m1 : dInt .Mod (i : Int) (cs.length : Int) = some ((i % cs.length : Nat) : Int) := by rw [mod_pos' (by omega), q1]
  generalize i % cs.length = j at *
  have c1 : ∀ ds, dIx (sd cs rs ds) (.ref 0) (.int (j : Int)) = some (.int cs[j]) := fun ds => at_iD hj
  have hj2 : j < rs.length := by omega
  have c2 : ∀ ds, dIx (sd cs rs ds) (.ref 1) (.int (j : Int)) = some (.int rs[j]) := fun ds => at_iD hj2
  have rv : recvOk .append (.ref 2) (sd cs rs ds) = true := rfl
  by_cases h : 1000000000000000000 ≤ cs[j] ∧ 0 < rs[j]
  · have m2 : dInt .Mod rs[j] 1000 = some (rs[j] % 1000) := mod_pos' (by decide)
    have a1 := sd_app (cs := cs) (rs := rs) (ds := ds) (n := rs[j] % 1000) (by omega) hl
    have f1 : dInt .FloorDiv rs[j] 1000 = some (rs[j] / 1000) := floor_int (by decide) (by decide +kernel)
    have xn : L2.ixN (iD rs).length (j : Int) = some j := by
      unfold L2.ixN
      rw [if_pos (by omega), if_pos (by simpa [iD] using hj2)]
      simp
    refine ⟨rs.set j (rs[j] / 1000), (rs[j] % 1000).toNat, some (.int (i : Int)), some (.int (j : Int)), x7, by simp [hr], ?_⟩
    have g1 : (sd cs rs (ds ++ [(rs[j] % 1000).toNat]))[1]? = some (.lst (iD rs)) := rfl
    simp [forF, bdyD, Tg.bind, l1, m1, c1, c2, pow18, isAnd, h.1, h.2, m2, rv, a1, f1, g1, xn]
    simp [sd, iD]
  · obtain ⟨on, ho⟩ : ∃ on, on = (cs[j] * 48271 + (i : Int) * 69621 + 11) % 2147483647 := ⟨_, rfl⟩
    have on1 : 0 ≤ on := by omega
    have on2 : on < 2147483647 := by omega
    have m2 : dInt .Mod (cs[j] * 48271 + (i : Int) * 69621 + 11) 2147483647 = some on := by rw [ho]; exact mod_pos' (by decide)
    have p1 : dInt .Mult cs[j] 48271 = some (cs[j] * 48271) := mul_small (by decide)
    have p2 : dInt .Mult (i : Int) 69621 = some ((i : Int) * 69621) := mul_small (by decide)
    have p3 : dInt .Mult on on = some (on * on) := mul_small (by omega)
    have p4 : dInt .Mult 3 on = some (3 * on) := mul_small (by omega)
    have m3 : dInt .Mod (on * on + 3 * on + (i : Int)) 1000003 = some ((on * on + 3 * on + (i : Int)) % 1000003) := mod_pos' (by decide)
    have a1 := sd_app (cs := cs) (rs := rs) (ds := ds) (n := (on * on + 3 * on + (i : Int)) % 1000003) (Int.emod_nonneg _ (by decide)) hl
    refine ⟨rs, ((on * on + 3 * on + (i : Int)) % 1000003).toNat, some (.int (i : Int)), some (.int (j : Int)), some (.int on), hr, ?_⟩
    by_cases h1 : 1000000000000000000 ≤ cs[j]
    · have h2 : ¬ 0 < rs[j] := fun z => h ⟨h1, z⟩
      simp [forF, bdyD, Tg.bind, l1, m1, c1, c2, pow18, isAnd, h1, h2, m2, p1, p2, p3, p4, m3, rv, a1]
    · simp [forF, bdyD, Tg.bind, l1, m1, c1, c2, pow18, isAnd, h1, m2, p1, p2, p3, p4, m3, rv, a1]
end Code

namespace Code
open PySem Ab
variable {k : Nat} {A B : O} {X : List O} {ds : List Nat} {S : Store}
theorem c_draws {ns : List Int} (hn : ns.length ≤ 63) : ∃ A B ds, O.undr 3 A = true ∧ O.undr 3 B = true ∧ call (tab ts) G (k + 1) 19 [.scr ns, .int 520] [] = some (.ref 2, st A B ds []) := by
  rw [call_of T19 rfl]
  simp only [f__law_draws, b__law_draws, startA]
  obtain ⟨cs, hcs⟩ : ∃ cs : List Int, cs = if ns.length = 0 then [0] else ns := ⟨_, rfl⟩
  have h0 : 0 < cs.length := by
    rw [hcs]
    split
    · decide
    · omega
  have u1 : evLc (fun _ => true) (lcBk (call (tab ts) G k) G (.name 8) [] (.bi .int [.var 8]) [some (.scr ns), some (.int 520), none, none, none, none, none, none, none]) (ns.map .int) [] [] = some (iD ns, []) := by
    refine evLc_map (ys := ns.map .int) (S := []) rfl (by simp) (by unfold sizeLine; simp; omega) fun i hi hj => ?_
    simp [lcBk, Tg.bind]
  obtain ⟨ρ', S', h1, rs', ds', x5, x6, x7, hr, hl, rfl, rfl⟩ := evFor_inv (chk := fun _ => true) (body := forF (call (tab ts) G k) G (.name 5) bdyD)
    (fun i ρ S => ∃ rs ds x5 x6 x7, List.length rs = cs.length ∧ List.length ds = i ∧ ρ = [some (.scr ns), some (.int 520), some (.ref 0), some (.ref 1), some (.ref 2), x5, x6, x7, none] ∧ S = sd cs rs ds)
    (ds := natsD 520) (n := 0) (ρ := [some (.scr ns), some (.int 520), some (.ref 0), some (.ref 1), some (.ref 2), none, none, none, none]) (S := sd cs cs []) (fun _ _ _ _ => rfl) ⟨cs, [], none, none, none, rfl, rfl, rfl, rfl⟩ (fun i hi ρ S ⟨rs, ds, x5, x6, x7, hr, hl, hρ, hS⟩ => by
      have hi : i < 520 := by simpa [natsD] using hi
      obtain ⟨rs', n, y5, y6, y7, h1, h2⟩ := draw_step (k := k) (ds := ds) (i := i) (x5 := x5) (x6 := x6) (x7 := x7) (x0 := some (.scr ns)) (x1 := some (.int 520)) (x8 := none) h0 hr (by unfold sizeLine; omega)
      refine ⟨_, sd cs rs' (ds ++ [n]), ?_, rs', ds ++ [n], y5, y6, y7, h1, by simp; omega, rfl, rfl⟩
      rw [hρ, hS, show (natsD 520)[i] = .int (i : Int) by simp [natsD]]
      exact h2)
  refine ⟨.lst (iD cs), .lst (iD rs'), ds'.reverse, undr_iD, undr_iD, ?_⟩
  unfold bdyD at h1
  have wk : ∀ S, walk true [.int 520] S = some (natsD 520) := fun S => walk_rg (S := S) (n := 520) (by decide)
  have rv1 : ∀ l : List D, recvOk .append (.ref 0) [.lst l] = true := fun _ => rfl
  have rv2 : recvOk .reverse (.ref 2) (sd cs rs' ds') = true := rfl
  have rv3 : dMe .reverse (.ref 2) [] (sd cs rs' ds') = some (.non, st (.lst (iD cs)) (.lst (iD rs')) ds'.reverse []) := by
    simp [dMe, sd, st, nD]
  have tr : ∀ S, trunc 0 (.ref 2) S = (.ref 2, S) := fun S => by
    simp [trunc, D.undr]
  have w0 : walk false [.scr ns] [] = some (ns.map .int) := rfl
  have st0 : stays false [.scr ns] (ns.map .int) = fun _ => true := by
    funext S
    rfl
  have ln : ∀ l : List Int, dBi [.lst (iD l)] .len [.ref 0] = some (.int (l.length : Int)) := fun l => by simp [dBi, items, iD]
  have it : ∀ l : List D, items [.lst l] (.ref 0) = some l := fun _ => rfl
  have fin : ∀ l : List D, l = iD cs → [O.lst l, .lst l, .lst []] = sd cs cs [] := fun l h => by rw [h]; rfl
  by_cases h : ns.length = 0
  · have e : cs = [0] := by rw [hcs, if_pos h]
    have ens : ns = [] := List.eq_nil_of_length_eq_zero h
    have ap : dMe .append (.ref 0) [.int 0] [.lst (iD [])] = some (.non, [.lst (iD [0])]) := by
      simp [dMe, sizeLine, iD]
    rw [ens] at u1 h1 w0 st0 ⊢
    simp only [List.map_nil] at u1 w0 st0
    have f1 := fin (iD [0]) (by rw [e])
    simp [sizeLine, wipeA, Tg.bind, w0, st0, u1, ln, rv1, ap, it, f1, wk, h1, rv2, rv3, tr]
  · have e : cs = ns := by rw [hcs, if_neg h]
    have h' : ¬ ns = [] := fun z => h (by rw [z]; rfl)
    have f1 := fin (iD ns) (by rw [e])
    simp [sizeLine, wipeA, Tg.bind, w0, st0, u1, ln, rv1, it, h', f1, wk, h1, rv2, rv3, tr]
theorem c_cell {ns : List Int} : ∃ c : Int, c.natAbs < 10 ^ 59 ∧ call (tab ts) G (k + 1) 21 [.scr ns] S = some (.int c, S) := by
  rw [call_of T21 rfl]
  simp only [f__law_cell, b__law_cell, startA]
  have ln : dBi S .len [.scr ns] = some (.int (ns.length : Int)) := by simp [dBi, items]
  by_cases h : ns = []
  · have h' : ns.length = 0 := by rw [h]; rfl
    exact ⟨0, by decide, by simp [ln, h']⟩
  · have hl : 0 < ns.length := List.length_pos_iff.mpr h
    obtain ⟨j, hj⟩ : ∃ j : Nat, (((ns.length : Int) - 1) % 7) % (ns.length : Int) = (j : Int) := ⟨((((ns.length : Int) - 1) % 7) % (ns.length : Int)).toNat, by have := Int.emod_nonneg (((ns.length : Int) - 1) % 7) (show (ns.length : Int) ≠ 0 by omega); omega⟩
    have hj2 : j < ns.length := by
      have := Int.emod_lt_of_pos (((ns.length : Int) - 1) % 7) (show (0 : Int) < ns.length by omega)
      omega
    have m1 : dInt .Mod ((ns.length : Int) - 1) 7 = some (((ns.length : Int) - 1) % 7) := mod_pos' (by decide)
    have m2 : dInt .Mod (((ns.length : Int) - 1) % 7) (ns.length : Int) = some (j : Int) := by rw [mod_pos' (by omega), hj]
    have c1 : dIx S (.scr ns) (.int (j : Int)) = some (.int ns[j]) := at_iD hj2
    by_cases hc : ns[j] < 0
    · have m3 : dInt .Mod (-ns[j]) 100000000000000000000000000000000000000000000000000000000000 = some (-ns[j] % 100000000000000000000000000000000000000000000000000000000000) := mod_pos' (by decide)
      exact ⟨-(-ns[j] % 100000000000000000000000000000000000000000000000000000000000), by omega, by simp [Tg.bind, ln, h, m1, m2, c1, hc, pow59, m3]⟩
    · have m3 : dInt .Mod (ns[j]) 100000000000000000000000000000000000000000000000000000000000 = some (ns[j] % 100000000000000000000000000000000000000000000000000000000000) := mod_pos' (by decide)
      exact ⟨ns[j] % 100000000000000000000000000000000000000000000000000000000000, by omega, by simp [Tg.bind, ln, h, m1, m2, c1, hc, pow59, m3]⟩
/-! ### fixed ones -/
def qq (n : Int) (d : Nat) : Rat := Rat.divInt n d
def two (a b : Rat) : Nat → Rat := fun c => if c = 0 then a else b
theorem row2 (a b : Rat) : rowF 2 (two a b) = .tup [frD a, frD b] := rfl
theorem bnd2 {n : Nat} {a b : Rat} (ha : bnd n a) (hb : bnd n b) : bndN 2 n (two a b) := fun c _ => by
  unfold two
  split
  · exact ha
  · exact hb
theorem sumR2 (f : Nat → Rat) : sumR 2 f = f 0 + f 1 := by
  simp only [sumR]
  rw [Rat.zero_add]
theorem fr_of {n d : Int} (hd : d ≠ 0) (x y : Int) (h1 : (if d < 0 then (-n) / ((Nat.gcd n.natAbs d.natAbs : Nat) : Int) else n / ((Nat.gcd n.natAbs d.natAbs : Nat) : Int)) = x) (h2 : (if d < 0 then (-d) / ((Nat.gcd n.natAbs d.natAbs : Nat) : Int) else d / ((Nat.gcd n.natAbs d.natAbs : Nat) : Int)) = y) : frD (Rat.divInt n d) = .tup [.int x, .int y] := by
  unfold frD
  rw [low_num hd, low_den hd, h1, h2]
theorem f12 : frD (1 / 2) = .tup [.int 1, .int 2] := by
  rw [show (1 / 2 : Rat) = Rat.divInt 1 2 from (Rat.divInt_eq_div 1 2).symm]
  exact fr_of (by decide) _ _ (by decide) (by decide)
theorem fm12 : frD (-(1 / 2)) = .tup [.int (-1), .int 2] := by
  have h := f12
  unfold frD at h ⊢
  rw [Rat.neg_num, Rat.neg_den]
  have h1 : (1 / 2 : Rat).num = 1 := by injection h with h; injection h with h _; injection h
  have h2 : (((1 / 2 : Rat).den : Nat) : Int) = 2 := by injection h with h; injection h with _ h; injection h with h _; injection h
  rw [h1, h2]
theorem f_1 : frD 2 = .tup [.int 2, .int 1] := rfl
theorem f_3 : frD 3 = .tup [.int 3, .int 1] := rfl
theorem b12 : bnd 4 (1 / 2) := by
  rw [show (1 / 2 : Rat) = Rat.divInt 1 2 from (Rat.divInt_eq_div 1 2).symm]
  exact bnd_mono (bnd_divInt (a := 4) (b := 4) (by decide) (by decide) (by decide)) (by decide)
theorem b_0 : bnd 4 0 := bnd_mono bnd_0 (by omega)
theorem b_1 : bnd 4 1 := bnd_mono bnd_1 (by omega)
theorem b_2 : bnd 4 2 := ⟨by decide, by decide⟩
theorem b_3 : bnd 4 3 := ⟨by decide, by decide⟩
theorem cs4 : ∀ n, n ≤ 2 → (∀ i, i < n → le2 (clrB (Cs (fun _ => 4) i) (4, 1)) (2000, 2000)) ∧ le2 (clrB (Cs (fun _ => 4) n) (4, 1)) (9000, 9000) := by
  unfold le2
  decide +kernel
theorem fix1 : call (tab ts) G (k + 6) 18 [.tup [], .tup [.tup [.int 0, .int 1], .tup [.int 0, .int 1]]] S = some (.tup [], S) := by
  rcases c_asm (S := S) (k := k) (w := 2) (m := 0) (fb := 4) (rb := fun _ => 4) (R := fun _ _ => 0) (v := two 0 0) (by decide) (by decide) (fun i hi => by omega) (bnd2 b_0 b_0) (cs4 0 (by decide)).1 (cs4 0 (by decide)).2 with ⟨u, h1, h2⟩ | ⟨h1, h2⟩
  · exact h2
  · exact absurd ⟨fun _ => 0, fun c hc => by unfold two; split <;> rfl⟩ h1
theorem fix2 : call (tab ts) G (k + 6) 18 [.tup [], .tup [.tup [.int 0, .int 1], .tup [.int 1, .int 2]]] S = some (.non, S) := by
  rcases c_asm (S := S) (k := k) (w := 2) (m := 0) (fb := 4) (rb := fun _ => 4) (R := fun _ _ => 0) (v := two 0 (1 / 2)) (by decide) (by decide) (fun i hi => by omega) (bnd2 b_0 b12) (cs4 0 (by decide)).1 (cs4 0 (by decide)).2 with ⟨u, h1, h2⟩ | ⟨h1, h2⟩
  · have := h1 1 (by decide)
    have z : (1 / 2 : Rat) = 0 := this
    exfalso
    grind
  · rw [row2, f12] at h2
    exact h2
theorem fix3 : call (tab ts) G (k + 1) 0 [.int 6, .int (-4)] S = some (.tup [.int (-3), .int 2], S) := by
  rw [c_frac (gl := G) (S := S) (k := k) (n := 6) (d := -4) (b := 10) (by decide) (by decide) (by decide), fr_of (n := 6) (d := -4) (by decide) (-3) 2 (by decide) (by decide)]
def RatOf (n : Int) (d : Nat) (h : d ≠ 0) (c : Nat.Coprime n.natAbs d) : Rat := ⟨n, d, h, c⟩
theorem fix4 : call (tab ts) G (k + 2) 5 [.tup [.int 1, .int 2], .tup [.int (-3), .int 4]] S = some (.tup [.int (-2), .int 3], S) := by
  have h := c_over (gl := G) (S := S) (k := k) (p := RatOf 1 2 (by decide) (by decide)) (q := RatOf (-3) 4 (by decide) (by decide)) (a := 4) (b := 4) ⟨by decide, by decide⟩ ⟨by decide, by decide⟩ (by decide) (by intro z; have := Rat.num_eq_zero.mpr z; revert this; decide)
  rw [← over_di _ _ (by intro z; have := Rat.num_eq_zero.mpr z; revert this; decide)] at h
  rw [show frD (Rat.divInt ((RatOf 1 2 (by decide) (by decide)).num * ((RatOf (-3) 4 (by decide) (by decide)).den : Int)) (((RatOf 1 2 (by decide) (by decide)).den : Int) * (RatOf (-3) 4 (by decide) (by decide)).num)) = .tup [.int (-2), .int 3] from fr_of (by decide) _ _ (by decide) (by decide)] at h
  exact h
theorem fix5 : call (tab ts) G (k + 3) 4 [.tup [.int 1, .int 2], .tup [.int 3, .int 4]] S = some (.tup [.int (-1), .int 4], S) := by
  have h := c_less (gl := G) (S := S) (k := k) (p := RatOf 1 2 (by decide) (by decide)) (q := RatOf 3 4 (by decide) (by decide)) (a := 4) (b := 4) ⟨by decide, by decide⟩ ⟨by decide, by decide⟩ (by decide)
  rw [← add_di] at h
  rw [show frD (Rat.divInt ((RatOf 1 2 (by decide) (by decide)).num * ((-RatOf 3 4 (by decide) (by decide)).den : Int) + (-RatOf 3 4 (by decide) (by decide)).num * ((RatOf 1 2 (by decide) (by decide)).den : Int)) (((RatOf 1 2 (by decide) (by decide)).den : Int) * ((-RatOf 3 4 (by decide) (by decide)).den : Int))) = .tup [.int (-1), .int 4] from fr_of (by decide) _ _ (by decide) (by decide)] at h
  exact h
def sqR : Nat → Nat → Rat := fun i => if i = 0 then two 0 1 else two 2 3
theorem fix6 : call (tab ts) G (k + 4) 11 [.tup [.tup [.int 1, .int 1], .tup [.int 0, .int 1]], .tup [.tup [.tup [.int 0, .int 1], .tup [.int 1, .int 1]], .tup [.tup [.int 2, .int 1], .tup [.int 3, .int 1]]]] S = some (.tup [.tup [.int 0, .int 1], .tup [.int 1, .int 1]], S) := by
  have h := c_rts (S := S) (k := k) (n := 2) (m := 2) (a := 4) (b := 4) (f := two 1 0) (R := sqR) (by decide) (by decide) (by decide) (bnd2 b_1 b_0) (fun i _ => by unfold sqR; split; exact bnd2 b_0 b_1; exact bnd2 b_2 b_3) (by decide)
  have e : (rowF 2 fun j => sumR 2 fun i => two 1 0 i * sqR i j) = rowF 2 (two 0 1) := rowF_congr fun j hj => by
    rw [sumR2]
    have : j = 0 ∨ j = 1 := by omega
    rcases this with rfl | rfl <;> simp [two, sqR] <;> grind
  rw [e] at h
  exact h
theorem fix7 : call (tab ts) G (k + 5) 13 [.tup [.tup [.tup [.int 0, .int 1], .tup [.int 1, .int 1]], .tup [.tup [.int 2, .int 1], .tup [.int 3, .int 1]]], .tup [.tup [.int 1, .int 1], .tup [.int 0, .int 1]]] S = some (.tup [.tup [.int 0, .int 1], .tup [.int 2, .int 1]], S) := by
  have h := c_stc (S := S) (k := k) (n := 2) (m := 2) (a := 4) (b := 4) (g := two 1 0) (R := sqR) (by decide) (by decide) (fun i _ => by unfold sqR; split; exact bnd2 b_0 b_1; exact bnd2 b_2 b_3) (bnd2 b_1 b_0) (by decide) (by decide)
  have e : (rowF 2 fun i => sumR 2 fun j => sqR i j * two 1 0 j) = rowF 2 (two 0 2) := rowF_congr fun j hj => by
    rw [sumR2]
    have : j = 0 ∨ j = 1 := by omega
    rcases this with rfl | rfl <;> simp [two, sqR] <;> grind
  rw [e] at h
  exact h
def reR : Nat → Nat → Rat := fun i => if i = 0 then two 1 2 else two 1 3
theorem fix8 : call (tab ts) G (k + 6) 18 [.tup [.tup [.tup [.int 1, .int 1], .tup [.int 2, .int 1]], .tup [.tup [.int 1, .int 1], .tup [.int 3, .int 1]]], .tup [.tup [.int 0, .int 1], .tup [.int 1, .int 2]]] S = some (.tup [.tup [.int (-1), .int 2], .tup [.int 1, .int 2]], S) := by
  rcases c_asm (S := S) (k := k) (w := 2) (m := 2) (fb := 4) (rb := fun _ => 4) (R := reR) (v := two 0 (1 / 2)) (by decide) (by decide) (fun i _ => by unfold reR; split; exact bnd2 b_1 b_2; exact bnd2 b_1 b_3) (bnd2 b_0 b12) (cs4 2 (by decide)).1 (cs4 2 (by decide)).2 with ⟨u, h1, h2⟩ | ⟨h1, h2⟩
  · have a0 := h1 0 (by decide)
    have a1 := h1 1 (by decide)
    rw [sumR2] at a0 a1
    simp [two, reR] at a0 a1
    have e : rowF 2 u = rowF 2 (two (-(1 / 2)) (1 / 2)) := rowF_congr fun j hj => by
      have : j = 0 ∨ j = 1 := by omega
      rcases this with rfl | rfl <;> simp [two] <;> grind
    rw [e, row2 (-(1 / 2)), fm12, f12, row2, f12] at h2
    exact h2
  · exfalso
    refine h1 ⟨two (-(1 / 2)) (1 / 2), fun c hc => ?_⟩
    rw [sumR2]
    have : c = 0 ∨ c = 1 := by omega
    rcases this with rfl | rfl <;> simp [two, reR] <;> grind
end Code

namespace Code
open PySem Ab
variable {k : Nat} {A B : O} {X : List O} {ds : List Nat} {S : Store}
theorem pl2 (x y : Int) : plainD 1 (.tup [.int x, .int y]) := by
  have : D.tup [.int x, .int y] = tupF 2 fun i => if i = 0 then .int x else .int y := rfl
  rw [this]
  exact .tup (by decide) fun i hi => by
    by_cases h : i = 0
    · rw [if_pos h]
      exact .int _
    · rw [if_neg h]
      exact .int _
theorem pl22 {a b : D} (ha : plainD 1 a) (hb : plainD 1 b) : plainD 2 (.tup [a, b]) := by
  have : D.tup [a, b] = tupF 2 fun i => if i = 0 then a else b := rfl
  rw [this]
  exact .tup (by decide) fun i hi => by
    by_cases h : i = 0
    · rw [if_pos h]
      exact ha
    · rw [if_neg h]
      exact hb
theorem sm0 : call (tab ts) G (k + 2) 22 [.tup [], .tup []] S = some (.bl true, S) := c_same (k := k) (show plainD 1 (tupF 0 fun _ => .non) from .tup (by decide) fun i hi => by omega)
theorem sm1 {x y : Int} : call (tab ts) G (k + 2) 22 [.tup [.int x, .int y], .tup [.int x, .int y]] S = some (.bl true, S) := c_same (k := k) (pl2 x y)
theorem sm2 {x y z t : Int} : call (tab ts) G (k + 3) 22 [.tup [.tup [.int x, .int y], .tup [.int z, .int t]], .tup [.tup [.int x, .int y], .tup [.int z, .int t]]] S = some (.bl true, S) := c_same (k := k) (pl22 (pl2 x y) (pl2 z t))
def bdyL : List IS := [.ite (.bop .Or [(.un .Not (.call 31 [(.var 1), (.var 2)])), (.un .Not (.call 32 [(.var 1), (.bin .Add (.lit (.int 1)) (.call 20 [(.var 1), (.lit (.int 3))])), (.var 2)]))]) [.ret (.lit (.bl false))] [],
    .ite (.un .Not (.call 35 [(.var 1), (.bin .Add (.var 3) (.call 20 [(.var 1), (.lit (.int 2))])), (.var 2)])) [.ret (.lit (.bl false))] []]
theorem c_law {ns : List Int} (hn : ns.length ≤ 63) : ∃ S', call (tab ts) G (k + 9) 36 [.scr ns] [] = some (.bl true, S') := by
  obtain ⟨A, B, ds, hA, hB, e1⟩ := c_draws (k := k + 7) hn
  obtain ⟨c, hc, e2⟩ := c_cell (k := k + 7) (S := st A B ds []) (ns := ns)
  have hc199 : c.natAbs < 2 ^ 199 := Nat.lt_trans hc (by decide)
  obtain ⟨ρ', S', h1, ds', x3, rfl, rfl⟩ := evFor_inv (chk := fun _ => true) (body := forF (call (tab ts) G (k + 8)) G (.name 3) bdyL)
    (fun i ρ S => ∃ ds x3, ρ = [some (.scr ns), some (.ref 2), some (.int c), x3, none] ∧ S = st A B ds [])
    (ds := natsD 3) (n := 0) (ρ := [some (.scr ns), some (.ref 2), some (.int c), none, none]) (S := st A B ds []) (fun _ _ _ _ => rfl) ⟨ds, none, rfl, rfl⟩ (fun i hi ρ S ⟨ds, x3, hρ, hS⟩ => by
      have hi : i < 3 := by simpa [natsD] using hi
      obtain ⟨d1, f1⟩ := told_fr (k := k + 2) (A := A) (B := B) (X := []) (ds := ds) hc199
      obtain ⟨v, d2, hv, f2⟩ := c_take (k := k + 7) (A := A) (B := B) (X := []) (ds := d1) (m := 3) (by omega)
      have f2 : call (tab ts) G (k + 8) 20 [.ref 2, .int 3] (st A B d1 []) = _ := f2
      obtain ⟨d3, f3⟩ := told_rows (k := k + 1) (A := A) (B := B) (X := []) (ds := d2) (n := 1 + v) (by omega) (by omega) hc199
      rw [show ((1 + v : Nat) : Int) = 1 + (v : Int) by omega] at f3
      obtain ⟨v2, d4, hv2, f4⟩ := c_take (k := k + 7) (A := A) (B := B) (X := []) (ds := d3) (m := 2) (by omega)
      have f4 : call (tab ts) G (k + 8) 20 [.ref 2, .int 2] (st A B d3 []) = _ := f4
      obtain ⟨d5, f5⟩ := told_mult (k := k) (ds := d4) (n := i + v2) hA hB (by omega) hc
      rw [show ((i + v2 : Nat) : Int) = (i : Int) + (v2 : Int) by omega] at f5
      refine ⟨[some (.scr ns), some (.ref 2), some (.int c), some (.int (i : Int)), none], st A B d5 [], ?_, d5, _, rfl, rfl⟩
      rw [hρ, hS, show (natsD 3)[i] = .int (i : Int) by simp [natsD]]
      simp [forF, bdyL, Tg.bind, isAnd, f1, f2, f3, f4, f5])
  have wk3 : ∀ S, walk true [.int 3] S = some (natsD 3) := fun S => walk_rg (S := S) (n := 3) (by decide)
  unfold bdyL at h1
  have g1 := fix1 (k := k + 2) (S := st A B ds' [])
  have g2 := fix2 (k := k + 2) (S := st A B ds' [])
  have g3 := fix3 (k := k + 7) (S := st A B ds' [])
  have g4 := fix4 (k := k + 6) (S := st A B ds' [])
  have g5 := fix5 (k := k + 5) (S := st A B ds' [])
  have g6 := fix6 (k := k + 4) (S := st A B ds' [])
  have g7 := fix7 (k := k + 3) (S := st A B ds' [])
  have g8 := fix8 (k := k + 2) (S := st A B ds' [])
  have s0 := sm0 (k := k + 6) (S := st A B ds' [])
  have s1 : ∀ x y : Int, call (tab ts) G (k + 8) 22 [.tup [.int x, .int y], .tup [.int x, .int y]] (st A B ds' []) = some (.bl true, st A B ds' []) := fun x y => sm1 (k := k + 6)
  have s2 : ∀ x y z t : Int, call (tab ts) G (k + 8) 22 [.tup [.tup [.int x, .int y], .tup [.int z, .int t]], .tup [.tup [.int x, .int y], .tup [.int z, .int t]]] (st A B ds' []) = some (.bl true, st A B ds' []) := fun x y z t => sm2 (k := k + 5)
  have s3 := s_non (k := k + 7) (S := st A B ds' [])
  refine ⟨(trunc 0 (.bl true) (st A B ds' [])).2, ?_⟩
  have tr : trunc 0 (.bl true) (st A B ds' []) = (.bl true, (trunc 0 (.bl true) (st A B ds' [])).2) := by
    unfold trunc
    split <;> rfl
  rw [call_of T36 rfl]
  simp only [f_law, b_law, startA]
  simp [sizeLine, Tg.bind, isAnd, e1, e2, wk3, h1, g1, g2, g3, g4, g5, g6, g7, g8, s0, s1, s2, s3]
  exact tr
def depth : Nat := 8
theorem math (ns : List Int) (hn : ns.length ≤ 63) : ∃ S', call (tab ts) (glT gls) (depth + 1) 36 [.scr ns] [] = some (.bl true, S') := c_law (k := 0) hn
end Code

namespace Code
open PySem PySem.Spec PyProof.Rows L2 Ab
theorem o_fraction_of : t_fraction_of.Ok gcdB gls ts := ⟨⟨rfl, rfl, rfl, by decide +kernel, rfl, by decide +kernel, by decide +kernel⟩, by kernel_rfl, fun _ _ _ _ _ _ us hl => match us, hl with | [_, _], _ => rfl⟩
theorem o_plus_fraction : t_plus_fraction.Ok gcdB gls ts := ⟨⟨rfl, rfl, rfl, by decide +kernel, rfl, by decide +kernel, by decide +kernel⟩, by kernel_rfl, fun _ _ _ _ _ _ us hl => match us, hl with | [_, _], _ => rfl⟩
theorem o_times_fraction : t_times_fraction.Ok gcdB gls ts := ⟨⟨rfl, rfl, rfl, by decide +kernel, rfl, by decide +kernel, by decide +kernel⟩, by kernel_rfl, fun _ _ _ _ _ _ us hl => match us, hl with | [_, _], _ => rfl⟩
theorem o_turned_fraction : t_turned_fraction.Ok gcdB gls ts := ⟨⟨rfl, rfl, rfl, by decide +kernel, rfl, by decide +kernel, by decide +kernel⟩, by kernel_rfl, fun _ _ _ _ _ _ us hl => match us, hl with | [_], _ => rfl⟩
theorem o_less_fraction : t_less_fraction.Ok gcdB gls ts := ⟨⟨rfl, rfl, rfl, by decide +kernel, rfl, by decide +kernel, by decide +kernel⟩, by kernel_rfl, fun _ _ _ _ _ _ us hl => match us, hl with | [_, _], _ => rfl⟩
theorem o_over_fraction : t_over_fraction.Ok gcdB gls ts := ⟨⟨rfl, rfl, rfl, by decide +kernel, rfl, by decide +kernel, by decide +kernel⟩, by kernel_rfl, fun _ _ _ _ _ _ us hl => match us, hl with | [_, _], _ => rfl⟩
theorem o_is_whole_fraction : t_is_whole_fraction.Ok gcdB gls ts := ⟨⟨rfl, rfl, rfl, by decide +kernel, rfl, by decide +kernel, by decide +kernel⟩, by kernel_rfl, fun _ _ _ _ _ _ us hl => match us, hl with | [_], _ => rfl⟩
theorem o_sum_of_fractions : t_sum_of_fractions.Ok gcdB gls ts := ⟨⟨rfl, rfl, rfl, by decide +kernel, rfl, by decide +kernel, by decide +kernel⟩, by kernel_rfl, fun _ _ _ _ _ _ us hl => match us, hl with | [_], _ => rfl⟩
theorem o_times_row : t_times_row.Ok gcdB gls ts := ⟨⟨rfl, rfl, rfl, by decide +kernel, rfl, by decide +kernel, by decide +kernel⟩, by kernel_rfl, fun _ _ _ _ _ _ us hl => match us, hl with | [_, _], _ => rfl⟩
theorem o_rows_plus : t_rows_plus.Ok gcdB gls ts := ⟨⟨rfl, rfl, rfl, by decide +kernel, rfl, by decide +kernel, by decide +kernel⟩, by kernel_rfl, fun _ _ _ _ _ _ us hl => match us, hl with | [_, _], _ => rfl⟩
theorem o_with_times_row : t_with_times_row.Ok gcdB gls ts := ⟨⟨rfl, rfl, rfl, by decide +kernel, rfl, by decide +kernel, by decide +kernel⟩, by kernel_rfl, fun _ _ _ _ _ _ us hl => match us, hl with | [_, _, _], _ => rfl⟩
theorem o_row_times_square : t_row_times_square.Ok gcdB gls ts := ⟨⟨rfl, rfl, rfl, by decide +kernel, rfl, by decide +kernel, by decide +kernel⟩, by kernel_rfl, fun _ _ _ _ _ _ us hl => match us, hl with | [_, _], _ => rfl⟩
theorem o_row_times_column : t_row_times_column.Ok gcdB gls ts := ⟨⟨rfl, rfl, rfl, by decide +kernel, rfl, by decide +kernel, by decide +kernel⟩, by kernel_rfl, fun _ _ _ _ _ _ us hl => match us, hl with | [_, _], _ => rfl⟩
theorem o_square_times_column : t_square_times_column.Ok gcdB gls ts := ⟨⟨rfl, rfl, rfl, by decide +kernel, rfl, by decide +kernel, by decide +kernel⟩, by kernel_rfl, fun _ _ _ _ _ _ us hl => match us, hl with | [_, _], _ => rfl⟩
theorem o_first_place_not_none : t_first_place_not_none.Ok gcdB gls ts := ⟨⟨rfl, rfl, rfl, by decide +kernel, rfl, by decide +kernel, by decide +kernel⟩, by kernel_rfl, fun _ _ _ _ _ _ us hl => match us, hl with | [_], _ => rfl⟩
theorem o_cleared_row : t_cleared_row.Ok gcdB gls ts := ⟨⟨rfl, rfl, rfl, by decide +kernel, rfl, by decide +kernel, by decide +kernel⟩, by kernel_rfl, fun _ _ _ _ _ _ us hl => match us, hl with | [_, _, _], _ => rfl⟩
theorem o_basis_with : t_basis_with.Ok gcdB gls ts := ⟨⟨rfl, rfl, rfl, by decide +kernel, rfl, by decide +kernel, by decide +kernel⟩, by kernel_rfl, fun _ _ _ _ _ _ us hl => match us, hl with | [_, _, _, _], _ => rfl⟩
theorem o_multiples_by : t_multiples_by.Ok gcdB gls ts := ⟨⟨rfl, rfl, rfl, by decide +kernel, rfl, by decide +kernel, by decide +kernel⟩, by kernel_rfl, fun _ _ _ _ _ _ us hl => match us, hl with | [_, _, _], _ => rfl⟩
theorem o_as_multiples : t_as_multiples.Ok gcdB gls ts := ⟨⟨rfl, rfl, rfl, by decide +kernel, rfl, by decide +kernel, by decide +kernel⟩, by kernel_rfl, fun _ _ _ _ _ _ us hl => match us, hl with | [_, _], _ => rfl⟩
theorem o__law_draws : t__law_draws.Ok gcdB gls ts := ⟨⟨rfl, rfl, rfl, by decide +kernel, rfl, by decide +kernel, by decide +kernel⟩, by kernel_rfl, fun _ _ _ _ _ _ us hl => match us, hl with | [_, _], _ => rfl⟩
theorem o__law_take : t__law_take.Ok gcdB gls ts := ⟨⟨rfl, rfl, rfl, by decide +kernel, rfl, by decide +kernel, by decide +kernel⟩, by kernel_rfl, fun _ _ _ _ _ _ us hl => match us, hl with | [_, _], _ => rfl⟩
theorem o__law_cell : t__law_cell.Ok gcdB gls ts := ⟨⟨rfl, rfl, rfl, by decide +kernel, rfl, by decide +kernel, by decide +kernel⟩, by kernel_rfl, fun _ _ _ _ _ _ us hl => match us, hl with | [_], _ => rfl⟩
theorem o__law_same : t__law_same.Ok gcdB gls ts := ⟨⟨rfl, rfl, rfl, by decide +kernel, rfl, by decide +kernel, by decide +kernel⟩, by kernel_rfl, fun _ _ _ _ _ _ us hl => match us, hl with | [_, _], _ => rfl⟩
theorem o__law_lowest : t__law_lowest.Ok gcdB gls ts := ⟨⟨rfl, rfl, rfl, by decide +kernel, rfl, by decide +kernel, by decide +kernel⟩, by kernel_rfl, fun _ _ _ _ _ _ us hl => match us, hl with | [_, _], _ => rfl⟩
theorem o__law_plus : t__law_plus.Ok gcdB gls ts := ⟨⟨rfl, rfl, rfl, by decide +kernel, rfl, by decide +kernel, by decide +kernel⟩, by kernel_rfl, fun _ _ _ _ _ _ us hl => match us, hl with | [_, _], _ => rfl⟩
theorem o__law_times : t__law_times.Ok gcdB gls ts := ⟨⟨rfl, rfl, rfl, by decide +kernel, rfl, by decide +kernel, by decide +kernel⟩, by kernel_rfl, fun _ _ _ _ _ _ us hl => match us, hl with | [_, _], _ => rfl⟩
theorem o__law_dot : t__law_dot.Ok gcdB gls ts := ⟨⟨rfl, rfl, rfl, by decide +kernel, rfl, by decide +kernel, by decide +kernel⟩, by kernel_rfl, fun _ _ _ _ _ _ us hl => match us, hl with | [_, _], _ => rfl⟩
theorem o__law_through : t__law_through.Ok gcdB gls ts := ⟨⟨rfl, rfl, rfl, by decide +kernel, rfl, by decide +kernel, by decide +kernel⟩, by kernel_rfl, fun _ _ _ _ _ _ us hl => match us, hl with | [_, _], _ => rfl⟩
theorem o__law_integer : t__law_integer.Ok gcdB gls ts := ⟨⟨rfl, rfl, rfl, by decide +kernel, rfl, by decide +kernel, by decide +kernel⟩, by kernel_rfl, fun _ _ _ _ _ _ us hl => match us, hl with | [_, _], _ => rfl⟩
theorem o__law_fraction : t__law_fraction.Ok gcdB gls ts := ⟨⟨rfl, rfl, rfl, by decide +kernel, rfl, by decide +kernel, by decide +kernel⟩, by kernel_rfl, fun _ _ _ _ _ _ us hl => match us, hl with | [_, _], _ => rfl⟩
theorem o__law_row : t__law_row.Ok gcdB gls ts := ⟨⟨rfl, rfl, rfl, by decide +kernel, rfl, by decide +kernel, by decide +kernel⟩, by kernel_rfl, fun _ _ _ _ _ _ us hl => match us, hl with | [_, _, _], _ => rfl⟩
theorem o__law_are_fractions_told : t__law_are_fractions_told.Ok gcdB gls ts := ⟨⟨rfl, rfl, rfl, by decide +kernel, rfl, by decide +kernel, by decide +kernel⟩, by kernel_rfl, fun _ _ _ _ _ _ us hl => match us, hl with | [_, _], _ => rfl⟩
theorem o__law_are_rows_told : t__law_are_rows_told.Ok gcdB gls ts := ⟨⟨rfl, rfl, rfl, by decide +kernel, rfl, by decide +kernel, by decide +kernel⟩, by kernel_rfl, fun _ _ _ _ _ _ us hl => match us, hl with | [_, _, _], _ => rfl⟩
theorem o__law_sum : t__law_sum.Ok gcdB gls ts := ⟨⟨rfl, rfl, rfl, by decide +kernel, rfl, by decide +kernel, by decide +kernel⟩, by kernel_rfl, fun _ _ _ _ _ _ us hl => match us, hl with | [_, _, _], _ => rfl⟩
theorem o__law_moved : t__law_moved.Ok gcdB gls ts := ⟨⟨rfl, rfl, rfl, by decide +kernel, rfl, by decide +kernel, by decide +kernel⟩, by kernel_rfl, fun _ _ _ _ _ _ us hl => match us, hl with | [_, _], _ => rfl⟩
theorem o__law_are_multiples_told : t__law_are_multiples_told.Ok gcdB gls ts := ⟨⟨rfl, rfl, rfl, by decide +kernel, rfl, by decide +kernel, by decide +kernel⟩, by kernel_rfl, fun _ _ _ _ _ _ us hl => match us, hl with | [_, _, _], _ => rfl⟩
theorem o_law : t_law.Ok gcdB gls ts := ⟨⟨rfl, rfl, rfl, by decide +kernel, rfl, by decide +kernel, by decide +kernel⟩, by kernel_rfl, fun _ _ _ _ _ _ us hl => match us, hl with | [_], _ => rfl⟩
theorem ok0 : ∀ t ∈ ts0, t.Ok gcdB gls ts := by
  intro t h
  unfold ts0 at h
  rcases List.mem_cons.mp h with rfl | h
  · exact o_fraction_of
  rcases List.mem_cons.mp h with rfl | h
  · exact o_plus_fraction
  rcases List.mem_cons.mp h with rfl | h
  · exact o_times_fraction
  rcases List.mem_cons.mp h with rfl | h
  · exact o_turned_fraction
  rcases List.mem_cons.mp h with rfl | h
  · exact o_less_fraction
  rcases List.mem_cons.mp h with rfl | h
  · exact o_over_fraction
  rcases List.mem_cons.mp h with rfl | h
  · exact o_is_whole_fraction
  rcases List.mem_cons.mp h with rfl | h
  · exact o_sum_of_fractions
  rcases List.mem_cons.mp h with rfl | h
  · exact o_times_row
  rcases List.mem_cons.mp h with rfl | h
  · exact o_rows_plus
  rcases List.mem_cons.mp h with rfl | h
  · exact o_with_times_row
  rcases List.mem_cons.mp h with rfl | h
  · exact o_row_times_square
  rcases List.mem_cons.mp h with rfl | h
  · exact o_row_times_column
  rcases List.mem_cons.mp h with rfl | h
  · exact o_square_times_column
  rcases List.mem_cons.mp h with rfl | h
  · exact o_first_place_not_none
  rcases List.mem_cons.mp h with rfl | h
  · exact o_cleared_row
  rcases List.mem_cons.mp h with rfl | h
  · exact o_basis_with
  rcases List.mem_cons.mp h with rfl | h
  · exact o_multiples_by
  rcases List.mem_cons.mp h with rfl | h
  · exact o_as_multiples
  rcases List.mem_cons.mp h with rfl | h
  · exact o__law_draws
  rcases List.mem_cons.mp h with rfl | h
  · exact o__law_take
  rcases List.mem_cons.mp h with rfl | h
  · exact o__law_cell
  rcases List.mem_cons.mp h with rfl | h
  · exact o__law_same
  rcases List.mem_cons.mp h with rfl | h
  · exact o__law_lowest
  rcases List.mem_cons.mp h with rfl | h
  · exact o__law_plus
  rcases List.mem_cons.mp h with rfl | h
  · exact o__law_times
  rcases List.mem_cons.mp h with rfl | h
  · exact o__law_dot
  rcases List.mem_cons.mp h with rfl | h
  · exact o__law_through
  rcases List.mem_cons.mp h with rfl | h
  · exact o__law_integer
  rcases List.mem_cons.mp h with rfl | h
  · exact o__law_fraction
  cases h
theorem ok1 : ∀ t ∈ ts1, t.Ok gcdB gls ts := by
  intro t h
  unfold ts1 at h
  rcases List.mem_cons.mp h with rfl | h
  · exact o__law_row
  rcases List.mem_cons.mp h with rfl | h
  · exact o__law_are_fractions_told
  rcases List.mem_cons.mp h with rfl | h
  · exact o__law_are_rows_told
  rcases List.mem_cons.mp h with rfl | h
  · exact o__law_sum
  rcases List.mem_cons.mp h with rfl | h
  · exact o__law_moved
  rcases List.mem_cons.mp h with rfl | h
  · exact o__law_are_multiples_told
  rcases List.mem_cons.mp h with rfl | h
  · exact o_law
  cases h
theorem ok : ∀ t ∈ ts, t.Ok gcdB gls ts := by
  intro t h
  unfold ts at h
  refine (List.mem_append.mp h).elim (fun h => ?_) (fun h => ok1 t h)
  exact ok0 t h
abbrev R : PySem.W.OpenRow := PySem.W.OpenLaw.row PySem.Challenge.rw_everynumber_k81_fractions_rows_and_colum
abbrev hk : PySem.W.Hook := Ab.hookX 4 gcdB gls ts
def ob (s : PySem.W.SharedT) : Ab.AlX := Ab.obsXG 4 gcdB gls ts (HandSHeadRun.getT s)
theorem ob_eq (s : PySem.W.SharedT) : ob s = hk.obs s.abs := Ab.obsX_eq (HandSHeadRun.getT_eq s)
abbrev loose0 : List Str := [("NONE" : Str), ("ONE" : Str), ("fraction_of" : Str), ("plus_fraction" : Str), ("times_fraction" : Str), ("turned_fraction" : Str), ("less_fraction" : Str), ("over_fraction" : Str), ("is_whole_fraction" : Str), ("sum_of_fractions" : Str), ("times_row" : Str), ("rows_plus" : Str), ("with_times_row" : Str), ("row_times_square" : Str), ("row_times_column" : Str), ("square_times_column" : Str), ("first_place_not_none" : Str), ("cleared_row" : Str), ("basis_with" : Str), ("multiples_by" : Str), ("as_multiples" : Str), ("_law_draws" : Str), ("_law_take" : Str), ("_law_cell" : Str), ("_law_same" : Str), ("_law_lowest" : Str), ("_law_plus" : Str), ("_law_times" : Str), ("_law_dot" : Str), ("_law_through" : Str), ("_law_integer" : Str), ("_law_fraction" : Str), ("_law_row" : Str), ("_law_are_fractions_told" : Str), ("_law_are_rows_told" : Str), ("_law_sum" : Str), ("_law_moved" : Str), ("_law_are_multiples_told" : Str)]
abbrev loose : List Str := loose0
set_option maxRecDepth 1000000 in
theorem run (w : World) : HandSHeadRun.RunEqI R (PySem.W.view R.prog [0, 42]) hk ob 6000 loose w := by
  unfold HandSHeadRun.RunEqI
  kernel_rfl
end Code
open PySem PySem.W PySem.Calls PyProof.Rows
theorem PySem.Challenge.cw_everynumber_k81_fractions_rows_and_colum_holds : PySem.Challenge.rw_everynumber_k81_fractions_rows_and_colum.Holds := by
  w_on; o_law
  refine HandSHeadRun.head_imp (r := OpenLaw.row PySem.Challenge.rw_everynumber_k81_fractions_rows_and_colum) (q := view (OpenLaw.row PySem.Challenge.rw_everynumber_k81_fractions_rows_and_colum).prog [0, 42]) (H := Code.hk) (ob := Code.ob) (M := 6000) (loose := Code.loose) (d := HandSHeadRun.topDef (OpenLaw.row PySem.Challenge.rw_everynumber_k81_fractions_rows_and_colum).prog 42) (kwd := []) Code.ob_eq
     Code.run (by kernel_rfl) (by kernel_rfl) (by kernel_rfl) (by rfl) (by first | assumption | decide +kernel) (by decide +kernel) ⟨rfl, rfl, rfl, rfl, rfl, by decide +kernel⟩ ?hw ?hc
  case hw => w_witness2
  case hc =>
    refine L2.walk_ofE (l := PySem.Challenge.rw_everynumber_k81_fractions_rows_and_colum) (n := 63) (k := Code.depth + 1) (x := "script") (CX := L2.CX0) rfl (by decide) (by kernel_rfl) ⟨rfl, by decide, by decide⟩ ?F (fun _ _ _ _ z => z)
    intro w mg fa h Y G hmg0
    obtain ⟨K, KX, c⟩ := Y
    have hmg : mg ("law" : PySem.Str) = some (.ref fa) := by
      have e : (HandSHeadRun.topDef (OpenLaw.row PySem.Challenge.rw_everynumber_k81_fractions_rows_and_colum).prog 42).name = ("law" : PySem.Str) := by kernel_rfl
      rw [← e]
      exact hmg0
    obtain ⟨fd, sp, hb, hp, hF⟩ := Ab.law_of (P := (PySem.Challenge.rw_everynumber_k81_fractions_rows_and_colum).prog) (w := w) KX G c Code.ok Code.depth (t := Code.t_law) (by rfl) rfl hmg Code.math
    exact ⟨K, fd, sp, KX, hb, hp, hF⟩

