import PyProof.Rows.All
import Wide.All
import OpenK.AllK
import Wide.FinOn
import HandS.ForMost
import HandS.SortInts
import HandS.Flow
import HandS.Wide
import HandS.Deep
import HandS.Style
import HandS.Conv
import HandS.Gcd
import PySem.Challenge.RW_presswork_k04_whole_margins_of_greater_p
set_option linter.all false
set_option maxRecDepth 100000
set_option maxHeartbeats 0
set_option Elab.async false
/-! VI, part 1: plain data, small programs, what they compute. -/
namespace VI
open PySem L2

/-- plain data -/
inductive D where
  | non | bl (b : Bool) | int (i : Int) | str (x : Str)
  | list (xs : List D) | tup (xs : List D) | lck (xs : List D)
  | dK (ks : List Key) (xs : List D) | dT (ks : List (List Key)) (xs : List D)

mutual
def D.toP : D → PyData
  | .non => .none
  | .bl b => .bool b
  | .int i => .int i
  | .str x => .str x
  | .list xs => .list (D.toPs xs)
  | .tup xs => .tuple (D.toPs xs)
  | .lck _ => .dict []
  | .dK _ _ => .dict []
  | .dT _ _ => .dict []
def D.toPs : List D → List PyData
  | [] => []
  | d :: ds => d.toP :: D.toPs ds
end
/-- data that == is told of -/
def D.okE (d : D) : Bool := SeqAt.shaped d.toP
def D.eqv (d e : D) : Bool := PyData.eqv d.toP e.toP
def D.imm : D → Bool
  | .non => true
  | .bl _ => true
  | .int _ => true
  | .str _ => true
  | _ => false

/-- what a slot holds, what an expression gives: data that stay; data that are ours alone down to a depth; a look at such -/
inductive SV where
  | fz (d : D) | ow (n : Nat) (d : D) | pk (n : Nat) (d : D)
def SV.d : SV → D
  | .fz d => d
  | .ow _ d => d
  | .pk _ d => d
def SV.stable : SV → Bool
  | .pk _ d => d.imm
  | _ => true
/-- may be kept -/
def SV.keep : SV → Option D
  | .fz d => some d
  | .ow _ d => some d
  | .pk _ d => if d.imm then some d else none
/-- its items may be kept -/
def SV.shal : SV → Bool
  | .pk n _ => Nat.ble n 1
  | _ => true
def isPk : SV → Bool
  | .pk _ _ => true
  | _ => false
abbrev Env := List (Option SV)

inductive Bop where
  | add | sub | mul | fdiv | mod | pow | shl | shr | band | bor | bxor
inductive Cop where
  | eq | ne | lt | le | gt | ge | is | isnot | inn | notin
inductive Bi where
  | len | abs | int | min2 | max2 | minL | maxL | sum | sorted | list | tuple | any | all | gcd
inductive Me where
  | index | count
/-- targets -/
inductive Tg where
  | nm (i : Nat)
  | tup (is : List Nat)
mutual
inductive Ex where
  | bad
  | var (i : Nat) | fzv (i : Nat) | mvv (i : Nat)
  | int (i : Int) | bl (b : Bool) | str (x : Str) | non
  | con (k : Nat)
  | bin (o : Bop) (a b : Ex)
  | neg (a : Ex)
  | cmp (o : Cop) (a b : Ex)
  | chain (o p : Cop) (a b c : Ex)
  | and (a b : Ex) | or (a b : Ex) | not (a : Ex)
  | ite (c a b : Ex)
  | tup (es : Exs) | list (es : Exs)
  | sub (a i : Ex)
  | slice (a : Ex) (lo hi : Oe)
  | call (k : Nat) (es : Exs)
  | bi (b : Bi) (es : Exs)
  | me (m : Me) (o : Ex) (es : Exs)
  | pop (i : Nat)
  | lrange (it : It)
  | lc (n : Nat) (own : List Nat) (tg : Tg) (it : It) (c : Oe) (e : Ex)
  | rev (a : Ex)
inductive Exs where
  | nil
  | cons (e : Ex) (es : Exs)
inductive Oe where
  | no
  | so (e : Ex)
inductive It where
  | rng1 (a : Ex) | rng2 (a b : Ex) | rng3 (a b c : Ex)
  | seq (e : Ex) | enum (e : Ex) | rev (e : Ex) | zip (a b : Ex)
end
mutual
inductive Sm where
  | bad
  | skip
  | expr (e : Ex)
  | set (i : Nat) (e : Ex)
  | unp (is : List Nat) (e : Ex)
  | par (is : List Nat) (es : Exs)
  | aug (i : Nat) (o : Bop) (e : Ex)
  | setix (i : Nat) (ix : Ex) (e : Ex)
  | setix2 (i : Nat) (ix jx : Ex) (e : Ex)
  | append (i : Nat) (e : Ex)
  | extend (i : Nat) (e : Ex)
  | reverse (i : Nat)
  | ret (e : Ex) | retN
  | ite (c : Ex) (a b : Sms)
  | for_ (tg : Tg) (it : It) (b : Sms) (kill : List Nat)
  | while_ (c : Ex) (b : Sms) (kill : List Nat)
  | brk | cont
inductive Sms where
  | nil
  | cons (s : Sm) (r : Sms)
  | kill (is : List Nat) (r : Sms)
end

/-! ### what operators give -/
def mulOk (i j : Int) : Bool := decide (-18446744073709551616 < i ∧ i < 18446744073709551616) || decide (-18446744073709551616 < j ∧ j < 18446744073709551616) || decide (i.natAbs.log2 + j.natAbs.log2 < 1000000)
def divOk (j : Int) : Bool := decide (0 < j ∧ j.natAbs.log2 < 9000)
def powOk (i j : Int) : Bool := decide (0 ≤ j ∧ j ≤ 1000000 ∧ i.natAbs < 18446744073709551616)
def LN : Nat := 16777216
def binI : Bop → Int → Int → Option Int
  | .add, i, j => some (i + j)
  | .sub, i, j => some (i - j)
  | .mul, i, j => if mulOk i j then some (i * j) else none
  | .fdiv, i, j => if divOk j then some (i / j) else none
  | .mod, i, j => if decide (0 < j) then some (i % j) else none
  | .pow, i, j => if powOk i j then some (i ^ j.toNat) else none
  | .shl, i, j => if powOk i j then some (i * 2 ^ j.toNat) else none
  | .shr, i, j => if decide (0 ≤ j) then some (i / 2 ^ j.toNat) else none
  | .band, i, j => some (Builtin.bitAnd i j)
  | .bor, i, j => some (Builtin.bitOr i j)
  | .bxor, i, j => some (Builtin.bitXor i j)
def binD (o : Bop) (x y : SV) : Option SV :=
  match x.d, y.d with
  | .int i, .int j => (binI o i j).map fun k => .fz (.int k)
  | .str a, .str b => match o with
    | .add => if decide (a.length + b.length ≤ LN) then some (.fz (.str (a ++ b))) else none
    | _ => none
  | .list xs, .list ys => match o with
    | .add => if x.shal && y.shal && decide (xs.length + ys.length ≤ LN) then some (.ow 1 (.list (xs ++ ys))) else none
    | _ => none
  | .list xs, .int k => match o with
    | .mul => if x.shal && decide (-9223372036854775808 ≤ k ∧ k < 9223372036854775808 ∧ xs.length * k.toNat ≤ LN) then some (.ow 1 (.list (List.replicate k.toNat xs).flatten)) else none
    | _ => none
  | _, _ => none
def cmpI : Cop → Int → Int → Option Bool
  | .lt, i, j => some (decide (i < j))
  | .le, i, j => some (decide (i ≤ j))
  | .gt, i, j => some (decide (j < i))
  | .ge, i, j => some (decide (j ≤ i))
  | _, _, _ => none
def isNon : D → Bool
  | .non => true
  | _ => false
def memD (d : D) (xs : List D) : Bool := xs.any fun z => D.eqv z d
def itemsOf : D → Option (List D)
  | .list xs => some xs
  | .tup xs => some xs
  | .lck xs => some xs
  | _ => none
/-- what a for walks -/
def iterOf : D → Option (List D)
  | .str a => some (a.cps.toList.map fun c => .str ⟨#[c]⟩)
  | d => itemsOf d
def keyOf : D → Option Key
  | .int i => some (.inl i)
  | .str x => some (.inr x)
  | _ => none
def cmpD (o : Cop) (x y : SV) : Option Bool :=
  match o with
  | .eq => if x.d.okE && y.d.okE then some (D.eqv x.d y.d) else none
  | .ne => if x.d.okE && y.d.okE then some (!D.eqv x.d y.d) else none
  | .is => match y.d with
    | .non => some (isNon x.d)
    | .bl b => (match x.d with | .bl c => some (c == b) | _ => none)
    | _ => none
  | .isnot => match y.d with
    | .non => some (!isNon x.d)
    | .bl b => (match x.d with | .bl c => some (!(c == b)) | _ => none)
    | _ => none
  | .inn => match y.d with
    | .list ys => if x.d.okE && y.d.okE then some (memD x.d ys) else none
    | .tup ys => if x.d.imm && ys.all D.imm then some (memD x.d ys) else none
    | _ => none
  | .notin => match y.d with
    | .list ys => if x.d.okE && y.d.okE then some (!memD x.d ys) else none
    | .tup ys => if x.d.imm && ys.all D.imm then some (!memD x.d ys) else none
    | _ => none
  | o => match x.d, y.d with
    | .int i, .int j => cmpI o i j
    | _, _ => none
def truth : D → Option Bool
  | .non => some false
  | .bl b => some b
  | .int i => some (i != 0)
  | .str a => if decide (a.length ≤ LN) then some ((a.length : Int) != 0) else none
  | .list xs => some (!xs.isEmpty)
  | .tup xs => some (!xs.isEmpty)
  | _ => none
def lookK (k : Key) : List Key → List D → Option D
  | a :: r, d :: ds => if a = k then some d else lookK k r ds
  | _, _ => none
def getD (x : SV) (i : D) : Option SV :=
  match x.d, i with
  | .list xs, .int j => (match x with
    | .pk (n + 2) _ => (atI xs j).map (.pk (n + 1))
    | _ => (atI xs j).map .fz)
  | .tup xs, .int j => (match x with | .pk _ _ => none | _ => (atI xs j).map .fz)
  | .lck xs, .int j => (match x with | .pk _ _ => none | _ => (atI xs j).map .fz)
  | .str a, .int j => if decide (a.length ≤ LN) then (atI a.cps.toList j).map fun c => .fz (.str ⟨#[c]⟩) else none
  | _, _ => none
/-- a slice -/
def cutLo (n : Nat) : Option Int → Nat
  | none => 0
  | some i => if i < 0 then (i + n).toNat else min i.toNat n
def cutHi (n : Nat) : Option Int → Nat
  | none => n
  | some i => if i < 0 then (i + n).toNat else min i.toNat n
def cutL {α : Type} (xs : List α) (lo hi : Option Int) : List α := (xs.drop (HT.sIx xs.length 0 lo)).take (HT.sIx xs.length xs.length hi - HT.sIx xs.length 0 lo)
def sliceD (x : SV) (lo hi : Option Int) : Option SV :=
  match x.d with
  | .list xs => if x.shal then some (.ow 1 (.list (cutL xs lo hi))) else none
  | _ => none
def intsOf : List D → Option (List Int)
  | [] => some []
  | .int i :: r => (intsOf r).map (i :: ·)
  | _ => none
def boolsOf : List D → Option (List Bool)
  | [] => some []
  | .bl i :: r => (boolsOf r).map (i :: ·)
  | _ => none
def minI : Int → List Int → Int
  | m, [] => m
  | m, x :: r => minI (if x < m then x else m) r
def maxI : Int → List Int → Int
  | m, [] => m
  | m, x :: r => maxI (if m < x then x else m) r
def sortI (xs : List Int) : List Int := xs.mergeSort (fun a b => decide (a ≤ b))
def biD (b : Bi) (xs : List SV) : Option SV :=
  match b, xs with
  | .len, [x] => match x.d with
    | .list ys => some (.fz (.int ys.length))
    | .tup ys => some (.fz (.int ys.length))
    | .lck ys => some (.fz (.int ys.length))
    | .str a => if decide (a.length ≤ LN) then some (.fz (.int a.length)) else none
    | _ => none
  | .abs, [x] => match x.d with
    | .int i => some (.fz (.int (if i < 0 then -i else i)))
    | _ => none
  | .int, [x] => match x.d with
    | .int i => some (.fz (.int i))
    | .bl k => some (.fz (.int (if k then 1 else 0)))
    | _ => none
  | .min2, [x, y] => match x.d, y.d with
    | .int i, .int j => some (.fz (.int (if j < i then j else i)))
    | _, _ => none
  | .max2, [x, y] => match x.d, y.d with
    | .int i, .int j => some (.fz (.int (if j > i then j else i)))
    | _, _ => none
  | .gcd, [x, y] => match x.d, y.d with
    | .int i, .int j => some (.fz (.int ((Nat.gcd i.natAbs j.natAbs : Nat) : Int)))
    | _, _ => none
  | .minL, [x] => match x.d with
    | .list ys => match intsOf ys with
      | some (n :: ns) => some (.fz (.int (minI n ns)))
      | _ => none
    | _ => none
  | .maxL, [x] => match x.d with
    | .list ys => match intsOf ys with
      | some (n :: ns) => some (.fz (.int (maxI n ns)))
      | _ => none
    | _ => none
  | .sum, [x] => match x.d with
    | .list ys => (intsOf ys).map fun ns => .fz (.int ns.sum)
    | _ => none
  | .sorted, [x] => match x.d with
    | .list ys => (intsOf ys).map fun ns => .ow 1 (.list ((sortI ns).map .int))
    | _ => none
  | .list, [x] => match itemsOf x.d with
    | some ys => if x.shal then some (.ow 1 (.list ys)) else none
    | none => none
  | .tuple, [x] => match itemsOf x.d with
    | some ys => if x.shal then some (.fz (.tup ys)) else none
    | none => none
  | .any, [x] => match x.d with
    | .list ys => (boolsOf ys).map fun bs => .fz (.bl (bs.any id))
    | _ => none
  | .all, [x] => match x.d with
    | .list ys => (boolsOf ys).map fun bs => .fz (.bl (bs.all id))
    | _ => none
  | _, _ => none
def firstIx (d : D) : List D → Nat → Option Nat
  | [], _ => none
  | x :: xs, i => if D.eqv x d then some i else firstIx d xs (i + 1)
def meD (m : Me) (o : SV) (xs : List SV) : Option SV :=
  match m, xs with
  | .index, [y] => match o.d with
    | .list ys => if y.d.okE && o.d.okE then (firstIx y.d ys 0).map fun k => .fz (.int k) else none
    | _ => none
  | _, _ => none

/-! ### what a def is to its callers -/
/-- its parameters' ways (0: data that stay; n: ours, down to n, changed and handed back), what it gives -/
structure Fn where
  ways : List Nat
  f : List D → Option (SV × List D)
structure Gm where
  fns : List Fn
  cons : List D
  fuel : Nat

def slot (E : Env) (i : Nat) : Option SV := (E[i]?).getD none
/-- the arguments by the ways of the parameters: a changed one is a variable -/
def argsOf (E : Env) : List Nat → Exs → List SV → Option (List D)
  | [], .nil, [] => some []
  | 0 :: ws, .cons _ es, r :: rs => match r.keep, argsOf E ws es rs with
    | some d, some ds => some (d :: ds)
    | _, _ => none
  | (n + 1) :: ws, .cons (.var i) es, _ :: rs => match slot E i, argsOf E ws es rs with
    | some (.ow m d), some ds => if m = n + 1 then some (d :: ds) else none
    | _, _ => none
  | _, _, _ => none
/-- the variables that a call changes -/
def mutVars : List Nat → Exs → List Nat
  | 0 :: ws, .cons _ es => mutVars ws es
  | (_ + 1) :: ws, .cons (.var i) es => i :: mutVars ws es
  | _, _ => []
def putBack (E : Env) : List Nat → Exs → List D → Option Env
  | [], _, [] => some E
  | 0 :: ws, .cons _ es, ms => putBack E ws es ms
  | (n + 1) :: ws, .cons (.var i) es, m :: ms => putBack (E.set i (some (.ow (n + 1) m))) ws es ms
  | _, _, _ => none

/-! changes nothing -/
mutual
def Ex.pure : Ex → Bool
  | .bin _ a b => a.pure && b.pure
  | .neg a => a.pure
  | .cmp _ a b => a.pure && b.pure
  | .chain _ _ a b c => a.pure && b.pure && c.pure
  | .and a b => a.pure && b.pure
  | .or a b => a.pure && b.pure
  | .not a => a.pure
  | .ite c a b => c.pure && a.pure && b.pure
  | .tup es => es.pure
  | .list es => es.pure
  | .sub a i => a.pure && i.pure
  | .slice a lo hi => a.pure && lo.pure && hi.pure
  | .call _ _ => false
  | .bi _ es => es.pure
  | .me _ o es => o.pure && es.pure
  | .pop _ => false
  | .lrange it => it.pure
  | .lc _ _ _ it c e => it.pure && c.pure && e.pure
  | .rev a => a.pure
  | .bad => false
  | _ => true
def Exs.pure : Exs → Bool
  | .nil => true
  | .cons e es => e.pure && es.pure
def Oe.pure : Oe → Bool
  | .no => true
  | .so e => e.pure
def It.pure : It → Bool
  | .rng1 a => a.pure
  | .rng2 a b => a.pure && b.pure
  | .rng3 a b c => a.pure && b.pure && c.pure
  | .seq e => e.pure
  | .enum e => e.pure
  | .rev e => e.pure
  | .zip a b => a.pure && b.pure
end

def setAll (E : Env) : List Nat → List D → Option Env
  | [], [] => some E
  | i :: is, d :: ds => setAll (E.set i (some (.fz d))) is ds
  | _, _ => none
def tgSet (E : Env) : Tg → D → Option Env
  | .nm i, d => some (E.set i (some (.fz d)))
  | .tup is, .tup ds => setAll E is ds
  | _, _ => none
def killE (E : Env) (is : List Nat) : Env := is.foldl (fun E i => E.set i none) E
def rangeD (lo : Int) (step : Int) (n : Nat) : List D := (List.range n).map fun (k : Nat) => .int (lo + (k : Int) * step)
def small (i : Int) : Bool := decide (-4611686018427387904 ≤ i ∧ i < 4611686018427387904)
def enumD : Nat → List D → List D
  | _, [] => []
  | k, d :: ds => .tup [.int k, d] :: enumD (k + 1) ds
def zipD : List D → List D → List D
  | a :: r, b :: s => .tup [a, b] :: zipD r s
  | _, _ => []
/-- items that may be kept -/
def SV.items (x : SV) : Option (List D) :=
  if x.shal then itemsOf x.d else none
def optI : Option SV → Option (Option Int)
  | none => some none
  | some x => match x.d with
    | .int i => some (some i)
    | _ => none

/-- the turns of a comprehension; n: how deep what is made is ours -/
def lcGo (n : Nat) (tg : Tg) (c : Env → Option (Bool × Env)) (f : Env → Option (SV × Env)) (own : List Nat) : List D → List D → Env → Option (List D × Env)
  | [], acc, E => some (acc, E)
  | d :: ds, acc, E => match tgSet (killE E own) tg d with
    | none => none
    | some E1 => match c E1 with
      | none => none
      | some (false, E2) => lcGo n tg c f own ds acc E2
      | some (true, E2) => match f E2 with
        | none => none
        | some (r, E3) => if acc.length < LN then (match n with
          | 0 => (match r.keep with
            | some v => lcGo n tg c f own ds (acc ++ [v]) E3
            | none => none)
          | m + 1 => (match r with
            | .ow k v => if k = m + 1 then lcGo n tg c f own ds (acc ++ [v]) E3 else none
            | _ => none)) else none
/-- back to the slots as they were, for a comprehension's own names -/
def unown (E0 : Env) : List Nat → Env → Env
  | [], E => E
  | i :: is, E => unown E0 is (E.set i (match slot E0 i with | some (.fz d) => some (.fz d) | _ => none))

mutual
def ev (G : Gm) : Ex → Env → Option (SV × Env)
  | .bad, _ => none
  | .var i, E => match slot E i with
    | some (.fz d) => some (.fz d, E)
    | some (.ow n d) => some (.pk n d, E)
    | _ => none
  | .fzv i, E => match slot E i with
    | some (.fz d) => some (.fz d, E)
    | some (.ow _ d) => some (.fz d, E.set i (some (.fz d)))
    | _ => none
  | .mvv i, E => match slot E i with
    | some (.ow n d) => some (.ow n d, E.set i none)
    | some (.fz d) => some (.fz d, E)
    | _ => none
  | .int i, E => some (.fz (.int i), E)
  | .bl b, E => some (.fz (.bl b), E)
  | .str x, E => some (.fz (.str x), E)
  | .non, E => some (.fz .non, E)
  | .con k, E => (G.cons[k]?).map fun d => (.fz d, E)
  | .bin o a b, E => match ev G a E with
    | none => none
    | some (x, E1) => match ev G b E1 with
      | none => none
      | some (y, E2) => if x.stable || b.pure then (binD o x y).map fun z => (z, E2) else none
  | .neg a, E => match ev G a E with
    | some (x, E1) => (match x.d with | .int i => some (.fz (.int (-i)), E1) | _ => none)
    | none => none
  | .cmp o a b, E => match ev G a E with
    | none => none
    | some (x, E1) => match ev G b E1 with
      | none => none
      | some (y, E2) => if x.stable || b.pure then (cmpD o x y).map fun z => (.fz (.bl z), E2) else none
  | .chain o p a b c, E => match ev G a E with
    | none => none
    | some (x, E1) => match ev G b E1 with
      | none => none
      | some (y, E2) => if (x.stable || b.pure) && (y.stable || c.pure) then (match cmpD o x y with
        | none => none
        | some false => some (.fz (.bl false), E2)
        | some true => match ev G c E2 with
          | none => none
          | some (z, E3) => (cmpD p y z).map fun r => (.fz (.bl r), E3)) else none
  | .and a b, E => match ev G a E with
    | none => none
    | some (x, E1) => match x.d with
      | .bl true => ev G b E1
      | .bl false => some (.fz (.bl false), E1)
      | _ => none
  | .or a b, E => match ev G a E with
    | none => none
    | some (x, E1) => match x.d with
      | .bl false => ev G b E1
      | .bl true => some (.fz (.bl true), E1)
      | _ => none
  | .not a, E => match ev G a E with
    | none => none
    | some (x, E1) => (truth x.d).map fun b => (.fz (.bl (!b)), E1)
  | .ite c a b, E => match ev G c E with
    | none => none
    | some (x, E1) => match truth x.d with
      | none => none
      | some true => ev G a E1
      | some false => ev G b E1
  | .tup es, E => match evs G es E with
    | none => none
    | some (rs, E1) => match rs.mapM SV.keep with
      | none => none
      | some ds => if ds.length ≤ LN then some (.fz (.tup ds), E1) else none
  | .list es, E => match evs G es E with
    | none => none
    | some (rs, E1) => match rs.mapM SV.keep with
      | none => none
      | some ds => if ds.length ≤ LN then some (.ow 1 (.list ds), E1) else none
  | .sub a i, E => match ev G a E with
    | none => none
    | some (x, E1) => match ev G i E1 with
      | none => none
      | some (y, E2) => if x.stable || i.pure then (getD x y.d).map fun z => (z, E2) else none
  | .slice a lo hi, E => match ev G a E with
    | none => none
    | some (x, E1) => match evo G lo E1 with
      | none => none
      | some (y, E2) => match evo G hi E2 with
        | none => none
        | some (z, E3) => if x.stable || (lo.pure && hi.pure) then (match optI y, optI z with
          | some i, some j => (sliceD x i j).map fun r => (r, E3)
          | _, _ => none) else none
  | .call k es, E => match evs G es E with
    | none => none
    | some (rs, E1) => match G.fns[k]? with
      | none => none
      | some F => match argsOf E1 F.ways es rs with
        | none => none
        | some ds => match F.f ds with
          | none => none
          | some (r, ms) => if isPk r = false ∧ (mutVars F.ways es).Nodup then (putBack (killE E1 (mutVars F.ways es)) F.ways es ms).map fun E2 => (r, E2) else none
  | .bi b es, E => match evs G es E with
    | none => none
    | some (rs, E1) => (biD b rs).map fun z => (z, E1)
  | .me m o es, E => match ev G o E with
    | none => none
    | some (x, E1) => match evs G es E1 with
      | none => none
      | some (rs, E2) => if x.stable || es.pure then (meD m x rs).map fun z => (z, E2) else none
  | .pop i, E => match slot E i with
    | some (.ow 1 (.list xs)) => match xs.getLast? with
      | some d => some (.fz d, E.set i (some (.ow 1 (.list xs.dropLast))))
      | none => none
    | _ => none
  | .lrange it, E => match it with
    | .rng1 a => (match ev G a E with
      | none => none
      | some (x, E1) => match x.d with
        | .int j => if small j && decide (j ≤ LN) then some (.ow 1 (.list (rangeD 0 1 j.toNat)), E1) else none
        | _ => none)
    | .rng2 a b => (match ev G a E with
      | none => none
      | some (x, E1) => match ev G b E1 with
        | none => none
        | some (y, E2) => match x.d, y.d with
          | .int i, .int j => if small i && small j && decide (j - i ≤ LN) then some (.ow 1 (.list (rangeD i 1 (j - i).toNat)), E2) else none
          | _, _ => none)
    | _ => none
  | .lc n own tg it c e, E => match evI G it E with
    | none => none
    | some (ds, E1) => match lcGo n tg (fun E => evt G c E) (fun E => ev G e E) own ds [] E1 with
      | none => none
      | some (rs, E2) => some (.ow (n + 1) (.list rs), unown E1 own (killE E2 own))
  | .rev a, E => match ev G a E with
    | none => none
    | some (x, E1) => match x.d with
      | .list xs => if x.shal then some (.ow 1 (.list xs.reverse), E1) else none
      | _ => none
def evs (G : Gm) : Exs → Env → Option (List SV × Env)
  | .nil, E => some ([], E)
  | .cons e es, E => match ev G e E with
    | none => none
    | some (x, E1) => match evs G es E1 with
      | none => none
      | some (rs, E2) => if x.stable || es.pure then some (x :: rs, E2) else none
def evo (G : Gm) : Oe → Env → Option (Option SV × Env)
  | .no, E => some (none, E)
  | .so e, E => match ev G e E with
    | none => none
    | some (x, E1) => some (some x, E1)
def evt (G : Gm) : Oe → Env → Option (Bool × Env)
  | .no, E => some (true, E)
  | .so c, E => match ev G c E with
    | none => none
    | some (x, E1) => (truth x.d).map fun b => (b, E1)
def evI (G : Gm) : It → Env → Option (List D × Env)
  | .rng1 a, E => match ev G a E with
    | none => none
    | some (x, E1) => match x.d with
      | .int i => if small i then some (rangeD 0 1 i.toNat, E1) else none
      | _ => none
  | .rng2 a b, E => match ev G a E with
    | none => none
    | some (x, E1) => match ev G b E1 with
      | none => none
      | some (y, E2) => match x.d, y.d with
        | .int i, .int j => if small i && small j then some (rangeD i 1 (j - i).toNat, E2) else none
        | _, _ => none
  | .rng3 a b c, E => match ev G a E with
    | none => none
    | some (x, E1) => match ev G b E1 with
      | none => none
      | some (y, E2) => match ev G c E2 with
        | none => none
        | some (z, E3) => match x.d, y.d, z.d with
          | .int i, .int j, .int k => if decide (k ≠ 0 ∧ k.natAbs < 1073741824 ∧ 0 ≤ Builtin.Range.rangeSize i j k) && Builtin.Range.small i j k && (x.stable || (b.pure && c.pure)) && (y.stable || c.pure) then some (rangeD i k (Builtin.Range.rangeSize i j k).toNat, E3) else none
          | _, _, _ => none
  | .seq e, E => match ev G e E with
    | none => none
    | some (x, E1) => if isPk x then none else (iterOf x.d).map fun ds => (ds, E1)
  | .enum e, E => match ev G e E with
    | none => none
    | some (x, E1) => if isPk x then none else match x.d with
      | .list ds => some (enumD 0 ds, E1)
      | _ => none
  | .rev e, E => match ev G e E with
    | none => none
    | some (x, E1) => if isPk x then none else match x.d with
      | .list ds => some (ds.reverse, E1)
      | _ => none
  | .zip a b, E => match ev G a E with
    | none => none
    | some (x, E1) => match ev G b E1 with
      | none => none
      | some (y, E2) => if isPk x || isPk y then none else match x.d, y.d with
        | .list as, .list bs => some (zipD as bs, E2)
        | _, _ => none
end

inductive Out where
  | nx (E : Env) | rt (r : SV) (E : Env) | bk (E : Env) | ct (E : Env)

def forGo (tg : Tg) (b : Env → Option Out) (kill : List Nat) : List D → Env → Option Out
  | [], E => some (.nx (killE E kill))
  | d :: ds, E => match tgSet E tg d with
    | none => none
    | some E1 => match b E1 with
      | none => none
      | some (.nx E2) => forGo tg b kill ds (killE E2 kill)
      | some (.ct E2) => forGo tg b kill ds (killE E2 kill)
      | some (.bk E2) => some (.nx (killE E2 kill))
      | some (.rt r E2) => some (.rt r E2)
def whileGo (c : Env → Option (Bool × Env)) (b : Env → Option Out) (kill : List Nat) : Nat → Env → Option Out
  | 0, _ => none
  | n + 1, E => match c E with
    | none => none
    | some (false, E1) => some (.nx (killE E1 kill))
    | some (true, E1) => match b E1 with
      | none => none
      | some (.nx E2) => whileGo c b kill n (killE E2 kill)
      | some (.ct E2) => whileGo c b kill n (killE E2 kill)
      | some (.bk E2) => some (.nx (killE E2 kill))
      | some (.rt r E2) => some (.rt r E2)
def augD (o : Bop) : D → D → Option D
  | .int a, .int b => (binI o a b).map .int
  | .str a, .str b => match o with
    | .add => if decide (a.length + b.length ≤ LN) then some (.str (a ++ b)) else none
    | _ => none
  | _, _ => none
def SV.toSlot : SV → Option SV
  | .pk _ d => if d.imm then some (.fz d) else none
  | x => some x

def setSv (E : Env) : List Nat → List SV → Option Env
  | [], [] => some E
  | i :: is, r :: rs => match r.toSlot with
    | some v => setSv (E.set i (some v)) is rs
    | none => none
  | _, _ => none

mutual
def exS (G : Gm) : Sm → Env → Option Out
  | .bad, _ => none
  | .skip, E => some (.nx E)
  | .expr e, E => match ev G e E with
    | none => none
    | some (_, E1) => some (.nx E1)
  | .set i e, E => match ev G e E with
    | none => none
    | some (x, E1) => match x.toSlot with
      | none => none
      | some v => some (.nx (E1.set i (some v)))
  | .unp is e, E => match ev G e E with
    | none => none
    | some (x, E1) => if isPk x then none else (tgSet E1 (.tup is) x.d).map .nx
  | .par is es, E => match evs G es E with
    | none => none
    | some (rs, E1) => (setSv E1 is rs).map .nx
  | .aug i o e, E => match slot E i with
    | some (.fz d) => (match ev G e E with
      | none => none
      | some (y, E1) => (augD o d y.d).map fun z => .nx (E1.set i (some (.fz z))))
    | _ => none
  | .setix i ix e, E => match ev G e E with
    | none => none
    | some (x, E1) => match slot E1 i with
      | none => none
      | some _ => match ev G ix E1 with
        | none => none
        | some (k, E2) => match x.keep, k.d, slot E2 i with
          | some v, .int j, some (.ow 1 (.list xs)) => (match ixN xs.length j with
            | some p => some (.nx (E2.set i (some (.ow 1 (.list (xs.set p v))))))
            | none => none)
          | _, _, _ => none
  | .setix2 i ix jx e, E => match ev G e E with
    | none => none
    | some (x, E1) => match slot E1 i with
      | some (.ow 2 (.list xs)) => (match ev G ix E1 with
        | none => none
        | some (k, E2) => if ix.pure && jx.pure then (match ev G jx E2 with
          | none => none
          | some (l, E3) => match x.keep, k.d, l.d, slot E3 i with
            | some v, .int j, .int h, some (.ow 2 (.list xs')) => (match ixN xs.length j, ixN xs'.length j with
              | some p, some p' => (match xs'[p']? with
                | some (.list ys) => (match ixN ys.length h with
                  | some q => if p = p' ∧ xs.length = xs'.length then some (.nx (E3.set i (some (.ow 2 (.list (xs'.set p' (.list (ys.set q v)))))))) else none
                  | none => none)
                | _ => none)
              | _, _ => none)
            | _, _, _, _ => none) else none)
      | _ => none
  | .append i e, E => match slot E i with
    | some (.ow _ (.list _)) => (match ev G e E with
      | none => none
      | some (x, E1) => match slot E1 i with
        | some (.ow 1 (.list xs)) => (match x.keep with
          | some v => if xs.length < LN then some (.nx (E1.set i (some (.ow 1 (.list (xs ++ [v])))))) else none
          | none => none)
        | some (.ow (n + 2) (.list xs)) => (match x with
          | .ow k v => if k = n + 1 ∧ xs.length < LN then some (.nx (E1.set i (some (.ow (n + 2) (.list (xs ++ [v])))))) else none
          | _ => none)
        | _ => none)
    | _ => none
  | .extend i e, E => match slot E i with
    | some (.ow _ (.list _)) => (match ev G e E with
      | none => none
      | some (x, E1) => match slot E1 i, x.shal, x.d with
        | some (.ow 1 (.list xs)), true, .list ys => if xs.length + ys.length ≤ LN then some (.nx (E1.set i (some (.ow 1 (.list (xs ++ ys)))))) else none
        | _, _, _ => none)
    | _ => none
  | .reverse i, E => match slot E i with
    | some (.ow 1 (.list xs)) => some (.nx (E.set i (some (.ow 1 (.list xs.reverse)))))
    | _ => none
  | .ret e, E => match ev G e E with
    | none => none
    | some (x, E1) => (x.toSlot).map fun v => .rt v E1
  | .retN, E => some (.rt (.fz .non) E)
  | .ite c a b, E => match ev G c E with
    | none => none
    | some (x, E1) => match truth x.d with
      | none => none
      | some true => exB G a E1
      | some false => exB G b E1
  | .for_ tg it b kill, E => match evI G it E with
    | none => none
    | some (ds, E1) => forGo tg (fun E => exB G b E) kill ds E1
  | .while_ c b kill, E => whileGo (fun E => evt G (.so c) E) (fun E => exB G b E) kill G.fuel E
  | .brk, E => some (.bk E)
  | .cont, E => some (.ct E)
def exB (G : Gm) : Sms → Env → Option Out
  | .nil, E => some (.nx E)
  | .cons s r, E => match exS G s E with
    | none => none
    | some (.nx E1) => exB G r E1
    | some o => some o
  | .kill is r, E => exB G r (killE E is)
end
end VI

/-! VI, part 2: how data lie in the abstract heap; what a step leaves. -/
namespace VI
open PySem L2

mutual
def Rp (K : PySem.W.Frag) (R : Hp) : D → V → Prop
  | .non, v => v = .non
  | .bl b, v => v = .bl b
  | .int i, v => v = .int i
  | .str x, v => v = .str x
  | .list ds, v => ∃ a xs, v = .ref a ∧ R a = some (.lst xs) ∧ RpA K R ds xs
  | .lck ds, v => ∃ a xs, v = .ref a ∧ SqL K R a xs ∧ RpA K R ds xs
  | .tup ds, v => ∃ a xs, v = .ref a ∧ SqT K R a xs ∧ RpA K R ds xs
  | .dK ks ds, v => ∃ a xs, v = .ref a ∧ Rd R a (.dK (ks.zip xs)) ∧ ks.length = xs.length ∧ RpA K R ds xs
  | .dT ks ds, v => ∃ a xs, v = .ref a ∧ Rd R a (.dT (ks.zip xs)) ∧ ks.length = xs.length ∧ RpA K R ds xs
def RpA (K : PySem.W.Frag) (R : Hp) : List D → List V → Prop
  | [], vs => vs = []
  | d :: ds, vs => ∃ v r, vs = v :: r ∧ Rp K R d v ∧ RpA K R ds r
end

/-- all that is known stays known -/
def Le (R R' : Hp) : Prop := ∀ a o, R a = some o → R' a = some o
theorem Le.refl (R : Hp) : Le R R := fun _ _ h => h
theorem Le.trans {A B C : Hp} (h : Le A B) (g : Le B C) : Le A C := fun a o e => g a o (h a o e)
theorem Le.none {R R' : Hp} (h : Le R R') {a : Addr} (e : R' a = none) : R a = none := by
  cases q : R a with
  | none => rfl
  | some o => rw [h a o q] at e; cases e
theorem Le.sql {K : PySem.W.Frag} {R R' : Hp} (h : Le R R') {a : Addr} {xs : List V} (q : SqL K R a xs) : SqL K R' a xs := by
  rcases q with (q | ⟨o, q⟩) | q
  · exact .inl (.inl (h _ _ q))
  · exact .inl (.inr ⟨o, h _ _ q⟩)
  · exact .inr q
theorem Le.sqt {K : PySem.W.Frag} {R R' : Hp} (h : Le R R') {a : Addr} {xs : List V} (q : SqT K R a xs) : SqT K R' a xs := by
  rcases q with (q | ⟨o, q⟩) | q
  · exact .inl (.inl (h _ _ q))
  · exact .inl (.inr ⟨o, h _ _ q⟩)
  · exact .inr q
theorem Le.rd {R R' : Hp} (h : Le R R') {a : Addr} {u : HO} (q : Rd R a u) : Rd R' a u := by
  rcases q with q | ⟨o, q⟩
  · exact .inl (h _ _ q)
  · exact .inr ⟨o, h _ _ q⟩
mutual
theorem Rp.mono {K : PySem.W.Frag} {R R' : Hp} (h : Le R R') : ∀ {d : D} {v : V}, Rp K R d v → Rp K R' d v
  | .non, _, q => by unfold Rp at *; exact q
  | .bl b, _, q => by unfold Rp at *; exact q
  | .int i, _, q => by unfold Rp at *; exact q
  | .str x, _, q => by unfold Rp at *; exact q
  | .list ds, v, q => by
    unfold Rp at *
    obtain ⟨a, xs, e, s, r⟩ := q
    exact ⟨a, xs, e, h _ _ s, RpA.mono h r⟩
  | .lck ds, v, q => by
    unfold Rp at *
    obtain ⟨a, xs, e, s, r⟩ := q
    exact ⟨a, xs, e, h.sql s, RpA.mono h r⟩
  | .tup ds, v, q => by
    unfold Rp at *
    obtain ⟨a, xs, e, s, r⟩ := q
    exact ⟨a, xs, e, h.sqt s, RpA.mono h r⟩
  | .dK ks ds, v, q => by
    unfold Rp at *
    obtain ⟨a, xs, e, s, l, r⟩ := q
    exact ⟨a, xs, e, h.rd s, l, RpA.mono h r⟩
  | .dT ks ds, v, q => by
    unfold Rp at *
    obtain ⟨a, xs, e, s, l, r⟩ := q
    exact ⟨a, xs, e, h.rd s, l, RpA.mono h r⟩
theorem RpA.mono {K : PySem.W.Frag} {R R' : Hp} (h : Le R R') : ∀ {ds : List D} {vs : List V}, RpA K R ds vs → RpA K R' ds vs
  | [], _, q => by unfold RpA at *; exact q
  | d :: ds, vs, q => by
    unfold RpA at *
    obtain ⟨v, r, e, s, t⟩ := q
    exact ⟨v, r, e, Rp.mono h s, RpA.mono h t⟩
end
theorem Rp.imm {K : PySem.W.Frag} {R R' : Hp} {d : D} {v : V} (i : d.imm = true) (q : Rp K R d v) : Rp K R' d v := by
  cases d <;> first | (unfold Rp at *; exact q) | (cases i)

section
variable {K : PySem.W.Frag} {R R' H H' : Hp}
theorem RpA.length : ∀ {ds : List D} {vs : List V}, RpA K R ds vs → ds.length = vs.length
  | [], _, q => by unfold RpA at q; subst q; rfl
  | d :: ds, vs, q => by
    unfold RpA at q
    obtain ⟨v, r, rfl, _, t⟩ := q
    rw [List.length_cons, List.length_cons, RpA.length t]
theorem RpA.nil : RpA K R [] [] := by unfold RpA; rfl
theorem RpA.cons {d : D} {ds : List D} {v : V} {vs : List V} (h : Rp K R d v) (t : RpA K R ds vs) : RpA K R (d :: ds) (v :: vs) := by
  unfold RpA; exact ⟨v, vs, rfl, h, t⟩
theorem RpA.uncons {d : D} {ds : List D} {vs : List V} (h : RpA K R (d :: ds) vs) : ∃ v r, vs = v :: r ∧ Rp K R d v ∧ RpA K R ds r := by
  unfold RpA at h; exact h
theorem RpA.get : ∀ {ds : List D} {vs : List V} {i : Nat} {v : V}, RpA K R ds vs → vs[i]? = some v → ∃ d, ds[i]? = some d ∧ Rp K R d v
  | [], _, _, _, q, e => by unfold RpA at q; subst q; simp at e
  | d :: ds, vs, i, w, q, e => by
    obtain ⟨v, r, rfl, h, t⟩ := q.uncons
    cases i with
    | zero => simp at e; subst e; exact ⟨d, rfl, h⟩
    | succ i =>
      obtain ⟨d', e', h'⟩ := RpA.get (i := i) t (by simpa using e)
      exact ⟨d', by simpa using e', h'⟩
theorem RpA.at : ∀ {ds : List D} {vs : List V} {i : Nat} {d : D}, RpA K R ds vs → ds[i]? = some d → ∃ v, vs[i]? = some v ∧ Rp K R d v
  | [], _, _, _, q, e => by simp at e
  | d :: ds, vs, i, w, q, e => by
    obtain ⟨v, r, rfl, h, t⟩ := q.uncons
    cases i with
    | zero => simp at e; subst e; exact ⟨v, rfl, h⟩
    | succ i =>
      obtain ⟨d', e', h'⟩ := RpA.at (i := i) t (by simpa using e)
      exact ⟨d', by simpa using e', h'⟩
theorem RpA.append : ∀ {ds es : List D} {vs ws : List V}, RpA K R ds vs → RpA K R es ws → RpA K R (ds ++ es) (vs ++ ws)
  | [], _, _, _, q, r => by unfold RpA at q; subst q; exact r
  | d :: ds, es, vs, ws, q, r => by
    obtain ⟨v, r', rfl, h, t⟩ := q.uncons
    exact .cons h (RpA.append t r)
theorem RpA.take : ∀ {ds : List D} {vs : List V} (n : Nat), RpA K R ds vs → RpA K R (ds.take n) (vs.take n)
  | _, _, 0, _ => .nil
  | [], _, n + 1, q => by unfold RpA at q; subst q; exact .nil
  | d :: ds, vs, n + 1, q => by
    obtain ⟨v, r, rfl, h, t⟩ := q.uncons
    exact .cons h (RpA.take n t)
theorem RpA.drop : ∀ {ds : List D} {vs : List V} (n : Nat), RpA K R ds vs → RpA K R (ds.drop n) (vs.drop n)
  | _, _, 0, q => q
  | [], _, n + 1, q => by unfold RpA at q; subst q; exact .nil
  | d :: ds, vs, n + 1, q => by
    obtain ⟨v, r, rfl, h, t⟩ := q.uncons
    exact RpA.drop n t
theorem RpA.reverse : ∀ {ds : List D} {vs : List V}, RpA K R ds vs → RpA K R ds.reverse vs.reverse
  | [], _, q => by unfold RpA at q; subst q; exact .nil
  | d :: ds, vs, q => by
    obtain ⟨v, r, rfl, h, t⟩ := q.uncons
    rw [List.reverse_cons, List.reverse_cons]
    exact (RpA.reverse t).append (.cons h .nil)
theorem RpA.set {d : D} {v : V} (h : Rp K R d v) : ∀ {ds : List D} {vs : List V} (i : Nat), RpA K R ds vs → RpA K R (ds.set i d) (vs.set i v)
  | [], _, _, q => by unfold RpA at q; subst q; exact .nil
  | e :: ds, vs, i, q => by
    obtain ⟨w, r, rfl, g, t⟩ := q.uncons
    cases i with
    | zero => exact .cons h t
    | succ i => exact .cons g (RpA.set h i t)
theorem RpA.dropLast {ds : List D} {vs : List V} (q : RpA K R ds vs) : RpA K R ds.dropLast vs.dropLast := by
  rw [List.dropLast_eq_take, List.dropLast_eq_take, q.length]
  exact q.take _
theorem RpA.atI {ds : List D} {vs : List V} {i : Int} {d : D} (q : RpA K R ds vs) (e : L2.atI ds i = some d) : ∃ v, L2.atI vs i = some v ∧ Rp K R d v := by
  unfold L2.atI at *
  rw [← q.length]
  cases h : ixN ds.length i with
  | none => rw [h] at e; cases e
  | some j =>
    rw [h] at e
    exact q.at e
theorem RpA.ints : ∀ {ns : List Int} {vs : List V}, RpA K R (ns.map D.int) vs → vs = ns.map V.int
  | [], _, q => by unfold RpA at q; exact q
  | n :: ns, vs, q => by
    obtain ⟨v, r, rfl, h, t⟩ := q.uncons
    unfold Rp at h
    subst h
    rw [RpA.ints t]
    rfl
theorem RpA.of_ints : ∀ (ns : List Int), RpA K R (ns.map D.int) (ns.map V.int)
  | [] => .nil
  | n :: ns => .cons (by unfold Rp; rfl) (RpA.of_ints ns)
theorem RpA.bls : ∀ {ns : List Bool} {vs : List V}, RpA K R (ns.map D.bl) vs → vs = ns.map V.bl
  | [], _, q => by unfold RpA at q; exact q
  | n :: ns, vs, q => by
    obtain ⟨v, r, rfl, h, t⟩ := q.uncons
    unfold Rp at h
    subst h
    rw [RpA.bls t]
    rfl
theorem intsOf_eq : ∀ {ds : List D} {ns : List Int}, intsOf ds = some ns → ds = ns.map D.int
  | [], ns, h => by simp [intsOf] at h; subst h; rfl
  | d :: ds, ns, h => by
    cases d <;> simp [intsOf] at h
    obtain ⟨ms, h1, rfl⟩ := h
    rw [intsOf_eq h1]
    rfl
theorem boolsOf_eq : ∀ {ds : List D} {ns : List Bool}, boolsOf ds = some ns → ds = ns.map D.bl
  | [], ns, h => by simp [boolsOf] at h; subst h; rfl
  | d :: ds, ns, h => by
    cases d <;> simp [boolsOf] at h
    obtain ⟨ms, h1, rfl⟩ := h
    rw [boolsOf_eq h1]
    rfl

/-! ### data as the hand layer's == knows them -/
mutual
theorem Rp.dp : ∀ {d : D} {v : V}, d.toP.canLay0 = true → Rp K R d v → Dp K R v d.toP
  | .non, v, _, q => by unfold Rp at q; subst q; exact .non
  | .bl b, v, _, q => by unfold Rp at q; subst q; exact .bl b
  | .int i, v, _, q => by unfold Rp at q; subst q; exact .int i
  | .str x, v, _, q => by unfold Rp at q; subst q; exact .str x
  | .list ds, v, c, q => by
    unfold Rp at q
    obtain ⟨a, xs, rfl, s, r⟩ := q
    unfold D.toP at c ⊢
    exact .lst (SqL.of s) (RpA.dp c r)
  | .tup ds, v, c, q => by
    unfold Rp at q
    obtain ⟨a, xs, rfl, s, r⟩ := q
    unfold D.toP at c ⊢
    exact .tup s (RpA.dp c r)
  | .lck ds, v, c, q => by unfold D.toP at c; cases c
  | .dK ks ds, v, c, q => by unfold D.toP at c; cases c
  | .dT ks ds, v, c, q => by unfold D.toP at c; cases c
theorem RpA.dp : ∀ {ds : List D} {vs : List V}, PyData.canLayAll0 (D.toPs ds) = true → RpA K R ds vs → DpAll K R vs (D.toPs ds)
  | [], vs, _, q => by unfold RpA at q; subst q; unfold D.toPs; exact .nil
  | d :: ds, vs, c, q => by
    obtain ⟨v, r, rfl, h, t⟩ := q.uncons
    unfold D.toPs at c ⊢
    unfold PyData.canLayAll0 at c
    obtain ⟨c1, c2⟩ := Bool.and_eq_true_iff.mp c
    exact .cons (Rp.dp c1 h) (RpA.dp c2 t)
end
theorem Rp.dpOk {d : D} {v : V} (o : d.okE = true) (q : Rp K R d v) : Dp K R v d.toP := q.dp (SeqAt.canLay_of_shaped o)

/-! ### ours -/
/-- several, their places one behind the other -/
def RpOs (P : D → V → List Addr → Prop) : List D → List V → List Addr → Prop
  | [], vs, fp => vs = [] ∧ fp = []
  | d :: ds, vs, fp => ∃ v r f g, vs = v :: r ∧ fp = f ++ g ∧ P d v f ∧ RpOs P ds r g
def RpO (K : PySem.W.Frag) (R H : Hp) : Nat → D → V → List Addr → Prop
  | 0, d, v, fp => Rp K R d v ∧ fp = []
  | n + 1, .list ds, v, fp => ∃ a xs f, v = .ref a ∧ H a = some (.lst xs) ∧ fp = a :: f ∧ RpOs (RpO K R H n) ds xs f
  | n + 1, .dK ks ds, v, fp => ∃ a xs f, v = .ref a ∧ H a = some (.dK (ks.zip xs)) ∧ ks.length = xs.length ∧ fp = a :: f ∧ RpOs (RpO K R H n) ds xs f
  | n + 1, .dT ks ds, v, fp => ∃ a xs f, v = .ref a ∧ H a = some (.dT (ks.zip xs)) ∧ ks.length = xs.length ∧ fp = a :: f ∧ RpOs (RpO K R H n) ds xs f
  | _ + 1, _, _, _ => False
theorem RpOs.mono {P Q : D → V → List Addr → Prop} : ∀ {ds : List D} {vs : List V} {fp : List Addr}, (∀ d v f, (∀ a ∈ f, a ∈ fp) → P d v f → Q d v f) → RpOs P ds vs fp → RpOs Q ds vs fp
  | [], _, _, _, q => q
  | d :: ds, vs, fp, h, q => by
    obtain ⟨v, r, f, g, rfl, rfl, p, t⟩ := q
    exact ⟨v, r, f, g, rfl, rfl, h d v f (fun a ha => List.mem_append_left _ ha) p, RpOs.mono (fun d' v' f' hs p' => h d' v' f' (fun a ha => List.mem_append_right _ (hs a ha)) p') t⟩
theorem RpO.mono (hR : Le R R') : ∀ {n : Nat} {d : D} {v : V} {fp : List Addr}, (∀ a ∈ fp, ∀ o, H a = some o → H' a = some o) → RpO K R H n d v fp → RpO K R' H' n d v fp
  | 0, d, v, fp, h, q => by unfold RpO at *; exact ⟨q.1.mono hR, q.2⟩
  | n + 1, d, v, fp, h, q => by
    cases d <;> unfold RpO at * <;> try exact q
    · obtain ⟨a, xs, f, e1, e2, rfl, t⟩ := q
      exact ⟨a, xs, f, e1, h a List.mem_cons_self _ e2, rfl, t.mono fun d' v' f' hs p => RpO.mono hR (fun b hb => h b (List.mem_cons_of_mem _ (hs b hb))) p⟩
    · obtain ⟨a, xs, f, e1, e2, l, rfl, t⟩ := q
      exact ⟨a, xs, f, e1, h a List.mem_cons_self _ e2, l, rfl, t.mono fun d' v' f' hs p => RpO.mono hR (fun b hb => h b (List.mem_cons_of_mem _ (hs b hb))) p⟩
    · obtain ⟨a, xs, f, e1, e2, l, rfl, t⟩ := q
      exact ⟨a, xs, f, e1, h a List.mem_cons_self _ e2, l, rfl, t.mono fun d' v' f' hs p => RpO.mono hR (fun b hb => h b (List.mem_cons_of_mem _ (hs b hb))) p⟩
theorem RpOs.there {P : D → V → List Addr → Prop} : ∀ {ds : List D} {vs : List V} {fp : List Addr}, (∀ d v f, P d v f → ∀ a ∈ f, H a ≠ none) → RpOs P ds vs fp → ∀ a ∈ fp, H a ≠ none
  | [], _, _, _, q, a, ha => by rw [q.2] at ha; cases ha
  | d :: ds, vs, fp, h, q, a, ha => by
    obtain ⟨v, r, f, g, rfl, rfl, p, t⟩ := q
    rcases List.mem_append.mp ha with ha | ha
    · exact h d v f p a ha
    · exact RpOs.there h t a ha
theorem RpO.there : ∀ {n : Nat} {d : D} {v : V} {fp : List Addr}, RpO K R H n d v fp → ∀ a ∈ fp, H a ≠ none
  | 0, d, v, fp, q, a, ha => by unfold RpO at q; rw [q.2] at ha; cases ha
  | n + 1, d, v, fp, q, a, ha => by
    cases d <;> unfold RpO at q <;> try exact q.elim
    · obtain ⟨b, xs, f, e1, e2, rfl, t⟩ := q
      rcases List.mem_cons.mp ha with rfl | ha
      · rw [e2]; exact fun z => nomatch z
      · exact RpOs.there (fun _ _ _ p => RpO.there p) t a ha
    · obtain ⟨b, xs, f, e1, e2, l, rfl, t⟩ := q
      rcases List.mem_cons.mp ha with rfl | ha
      · rw [e2]; exact fun z => nomatch z
      · exact RpOs.there (fun _ _ _ p => RpO.there p) t a ha
    · obtain ⟨b, xs, f, e1, e2, l, rfl, t⟩ := q
      rcases List.mem_cons.mp ha with rfl | ha
      · rw [e2]; exact fun z => nomatch z
      · exact RpOs.there (fun _ _ _ p => RpO.there p) t a ha
theorem RpOs.all {P : D → V → List Addr → Prop} {W : Hp} : ∀ {ds : List D} {vs : List V} {fp : List Addr}, (∀ d v f, (∀ a ∈ f, a ∈ fp) → P d v f → Rp K W d v) → RpOs P ds vs fp → RpA K W ds vs
  | [], _, _, _, q => by rw [q.1]; exact .nil
  | d :: ds, vs, fp, h, q => by
    obtain ⟨v, r, f, g, rfl, rfl, p, t⟩ := q
    exact .cons (h d v f (fun a ha => List.mem_append_left _ ha) p) (RpOs.all (fun d' v' f' hs p' => h d' v' f' (fun a ha => List.mem_append_right _ (hs a ha)) p') t)
/-- what is ours is data of any heap that knows it -/
theorem RpO.rp {W : Hp} (hR : Le R W) : ∀ {n : Nat} {d : D} {v : V} {fp : List Addr}, (∀ a ∈ fp, ∀ o, H a = some o → W a = some o) → RpO K R H n d v fp → Rp K W d v
  | 0, d, v, fp, h, q => by unfold RpO at q; exact q.1.mono hR
  | n + 1, d, v, fp, h, q => by
    cases d <;> unfold RpO at q <;> try exact q.elim
    · obtain ⟨a, xs, f, e1, e2, rfl, t⟩ := q
      unfold Rp
      exact ⟨a, xs, e1, h a List.mem_cons_self _ e2, t.all fun d' v' f' hs p => RpO.rp hR (fun b hb => h b (List.mem_cons_of_mem _ (hs b hb))) p⟩
    · obtain ⟨a, xs, f, e1, e2, l, rfl, t⟩ := q
      unfold Rp
      exact ⟨a, xs, e1, Rd.of (h a List.mem_cons_self _ e2), l, t.all fun d' v' f' hs p => RpO.rp hR (fun b hb => h b (List.mem_cons_of_mem _ (hs b hb))) p⟩
    · obtain ⟨a, xs, f, e1, e2, l, rfl, t⟩ := q
      unfold Rp
      exact ⟨a, xs, e1, Rd.of (h a List.mem_cons_self _ e2), l, t.all fun d' v' f' hs p => RpO.rp hR (fun b hb => h b (List.mem_cons_of_mem _ (hs b hb))) p⟩
theorem RpOs.zero : ∀ {ds : List D} {vs : List V}, RpA K R ds vs → RpOs (RpO K R H 0) ds vs []
  | [], _, q => by unfold RpA at q; exact ⟨q, rfl⟩
  | d :: ds, vs, q => by
    obtain ⟨v, r, rfl, h, t⟩ := q.uncons
    exact ⟨v, r, [], [], rfl, rfl, by unfold RpO; exact ⟨h, rfl⟩, RpOs.zero t⟩
theorem RpOs.zero_nil : ∀ {ds : List D} {vs : List V} {fp : List Addr}, RpOs (RpO K R H 0) ds vs fp → RpA K R ds vs ∧ fp = []
  | [], _, _, q => by rw [q.1, q.2]; exact ⟨.nil, rfl⟩
  | d :: ds, vs, fp, q => by
    obtain ⟨v, r, f, g, rfl, rfl, p, t⟩ := q
    unfold RpO at p
    obtain ⟨t1, t2⟩ := RpOs.zero_nil t
    rw [p.2, t2]
    exact ⟨.cons p.1 t1, rfl⟩
/-- a list of ours whose items stay -/
theorem RpO.one {ds : List D} {a : Addr} {xs : List V} (h : H a = some (.lst xs)) (r : RpA K R ds xs) : RpO K R H 1 (.list ds) (.ref a) [a] := by
  unfold RpO; exact ⟨a, xs, [], rfl, h, rfl, .zero r⟩
theorem RpO.of_one {ds : List D} {v : V} {fp : List Addr} (q : RpO K R H 1 (.list ds) v fp) : ∃ a xs, v = .ref a ∧ H a = some (.lst xs) ∧ fp = [a] ∧ RpA K R ds xs := by
  unfold RpO at q
  obtain ⟨a, xs, f, e1, e2, rfl, t⟩ := q
  obtain ⟨r, rfl⟩ := t.zero_nil
  exact ⟨a, xs, e1, e2, rfl, r⟩

/-! ### a slot's content, an expression's result -/
def SvOk (K : PySem.W.Frag) (R H : Hp) : SV → V → List Addr → Prop
  | .fz d, v, fp => Rp K R d v ∧ fp = []
  | .ow n d, v, fp => RpO K R H n d v fp
  | .pk n d, v, fp => (∃ f, RpO K R H n d v f) ∧ fp = []
theorem SvOk.deep {r : SV} {v : V} {fp : List Addr} (hs : Le R H) (q : SvOk K R H r v fp) : Rp K H r.d v := by
  cases r with
  | fz d => exact q.1.mono hs
  | ow n d => exact RpO.rp hs (fun _ _ _ h => h) q
  | pk n d =>
    obtain ⟨⟨f, q⟩, _⟩ := q
    exact RpO.rp hs (fun _ _ _ h => h) q
/-- an immediate result is data of any heap -/
theorem SvOk.imm {r : SV} {v : V} {fp : List Addr} (hs : Le R H) (q : SvOk K R H r v fp) (i : r.d.imm = true) : Rp K R' r.d v := (q.deep hs).imm i

/-- a state: what stays, the heap, the slots' places -/
structure EnvOk (K : PySem.W.Frag) (R H : Hp) (E : Env) (σ : St) (fp : Nat → List Addr) : Prop where
  sub : Le R H
  len : E.length = σ.length
  slots : ∀ i sv, slot E i = some sv → ∃ v, σ[i]? = some (some v) ∧ SvOk K R H sv v (fp i) ∧ isPk sv = false
  emp : ∀ i, slot E i = none → fp i = []
  nd : ∀ i, (fp i).Nodup
  dis : ∀ i a, a ∈ fp i → R a = none
  sep : ∀ i j a, a ∈ fp i → a ∈ fp j → i = j

structure Goes (R H : Hp) (fp : Nat → List Addr) (R' H' : Hp) (fp' : Nat → List Addr) : Prop where
  ext : Le R R'
  frame : ∀ a o, H a = some o → (∀ i, a ∉ fp i) → H' a = some o
  dom : ∀ a, (R' a ≠ none ∨ ∃ i, a ∈ fp' i) → R a ≠ none ∨ (∃ i, a ∈ fp i) ∨ H a = none
  there : ∀ a, H' a = none → H a = none
  dis : ∀ i a, a ∈ fp' i → R' a = none
variable {fp fp' fp'' : Nat → List Addr} {R'' H'' : Hp}
theorem EnvOk.there {E : Env} {σ : St} (ok : EnvOk K R H E σ fp) {i : Nat} {a : Addr} (h : a ∈ fp i) : H a ≠ none := by
  cases e : slot E i with
  | none => rw [ok.emp i e] at h; cases h
  | some sv =>
    obtain ⟨v, _, q, np⟩ := ok.slots i sv e
    cases sv with
    | fz d => rw [q.2] at h; cases h
    | ow n d => exact RpO.there q a h
    | pk n d => cases np
theorem Goes.refl {E : Env} {σ : St} (ok : EnvOk K R H E σ fp) : Goes R H fp R H fp :=
  ⟨Le.refl R, fun _ _ h _ => h, fun a h => h.elim .inl fun h => .inr (.inl h), fun _ h => h, ok.dis⟩
theorem Goes.trans (g : Goes R H fp R' H' fp') (h : Goes R' H' fp' R'' H'' fp'') : Goes R H fp R'' H'' fp'' where
  ext := g.ext.trans h.ext
  frame := fun a o e n => h.frame a o (g.frame a o e n) fun i hi => by
    rcases g.dom a (.inr ⟨i, hi⟩) with z | ⟨j, z⟩ | z
    · exact z (g.ext.none (g.dis i a hi))
    · exact n j z
    · rw [z] at e; cases e
  dom := fun a z => by
    rcases h.dom a z with z | z | z
    · exact g.dom a (.inl z)
    · exact g.dom a (.inr z)
    · exact .inr (.inr (g.there a z))
  there := fun a z => g.there a (h.there a z)
  dis := h.dis
/-- a place of ours that is no slot's stays ours -/
def Free (R : Hp) (fp : Nat → List Addr) (f : List Addr) : Prop := ∀ a ∈ f, R a = none ∧ ∀ i, a ∉ fp i
theorem Goes.free (g : Goes R H fp R' H' fp') {f : List Addr} (ht : ∀ a ∈ f, H a ≠ none) (h : Free R fp f) : Free R' fp' f := fun a ha => by
  have no : ¬ (R' a ≠ none ∨ ∃ i, a ∈ fp' i) := fun z => by
    rcases g.dom a z with z | ⟨j, z⟩ | z
    · exact z (h a ha).1
    · exact (h a ha).2 j z
    · exact ht a ha z
  constructor
  · cases q : R' a with
    | none => rfl
    | some o => exact (no (.inl (by rw [q]; exact fun z => nomatch z))).elim
  · exact fun i hi => no (.inr ⟨i, hi⟩)
theorem Goes.keepO (g : Goes R H fp R' H' fp') {n : Nat} {d : D} {v : V} {f : List Addr} (q : RpO K R H n d v f) (h : Free R fp f) : RpO K R' H' n d v f :=
  q.mono g.ext fun a ha o e => g.frame a o e fun i => (h a ha).2 i
end
end VI

/-! VI, part 3: states changed, results settled; the judgement of an expression. -/
namespace VI
open PySem L2
section
variable {K : PySem.W.Frag} {R R' R1 H H' H1 : Hp} {E E' : Env} {σ σ' : St} {fp fp' fp1 : Nat → List Addr}

theorem slot_set {i j : Nat} {v : Option SV} (h : i < E.length) : slot (E.set i v) j = if j = i then v else slot E j := by
  unfold slot
  by_cases e : j = i
  · subst e; rw [if_pos rfl, List.getElem?_set_self h]; rfl
  · rw [if_neg e, List.getElem?_set_ne (Ne.symm e)]
theorem set_out {α : Type} {l : List α} {i : Nat} {v : α} (h : ¬ i < l.length) : l.set i v = l := List.set_eq_of_length_le (by omega)
theorem SvOk.mono {r : SV} {v : V} {f : List Addr} (hR : Le R R') (h : ∀ a ∈ f, ∀ o, H a = some o → H' a = some o) (hp : isPk r = false) (q : SvOk K R H r v f) : SvOk K R' H' r v f := by
  cases r with
  | fz d => exact ⟨q.1.mono hR, q.2⟩
  | ow n d => exact RpO.mono hR h q
  | pk n d => cases hp
theorem EnvOk.more (ok : EnvOk K R H E σ fp) (h : Le R R1) (hs : Le R1 H) (hd : ∀ i a, a ∈ fp i → R1 a = none) : EnvOk K R1 H E σ fp :=
  ⟨hs, ok.len, fun i sv e => by
    obtain ⟨v, e1, q, np⟩ := ok.slots i sv e
    exact ⟨v, e1, q.mono h (fun _ _ _ z => z) np, np⟩, ok.emp, ok.nd, hd, ok.sep⟩
theorem EnvOk.heap (ok : EnvOk K R H E σ fp) (h : Le H H') : EnvOk K R H' E σ fp :=
  ⟨ok.sub.trans h, ok.len, fun i sv e => by
    obtain ⟨v, e1, q, np⟩ := ok.slots i sv e
    exact ⟨v, e1, q.mono (Le.refl R) (fun a _ o z => h a o z) np, np⟩, ok.emp, ok.nd, ok.dis, ok.sep⟩
theorem le_upd {H : Hp} {p : Addr} {o : HO} (h : H p = none) : Le H (upd H p o) := fun b x e => by
  rw [upd_ne (ne_of_none e h)]; exact e
/-- a slot gets a content -/
theorem EnvOk.put (ok : EnvOk K R H E σ fp) {i : Nat} {sv : SV} {v : V} {f : List Addr} (hi : i < E.length) (hsub : Le R H') (keep : ∀ j, j ≠ i → ∀ a ∈ fp j, ∀ o, H a = some o → H' a = some o)
    (val : SvOk K R H' sv v f) (np : isPk sv = false) (nd : f.Nodup) (free : ∀ a ∈ f, R a = none ∧ ∀ j, j ≠ i → a ∉ fp j) :
    EnvOk K R H' (E.set i (some sv)) (σ.set i (some v)) (fun j => if j = i then f else fp j) where
  sub := hsub
  len := by rw [List.length_set, List.length_set]; exact ok.len
  slots := fun j w e => by
    rw [slot_set hi] at e
    by_cases h : j = i
    · subst h
      rw [if_pos rfl] at e
      cases e
      refine ⟨v, List.getElem?_set_self (by rw [← ok.len]; exact hi), ?_, np⟩
      rw [if_pos rfl]; exact val
    · rw [if_neg h] at e
      obtain ⟨u, e1, q, np'⟩ := ok.slots j w e
      refine ⟨u, by rw [List.getElem?_set_ne (Ne.symm h)]; exact e1, ?_, np'⟩
      rw [if_neg h]
      exact q.mono (Le.refl R) (keep j h) np'
  emp := fun j e => by
    rw [slot_set hi] at e
    by_cases h : j = i
    · subst h; rw [if_pos rfl] at e; cases e
    · rw [if_neg h] at e ⊢; exact ok.emp j e
  nd := fun j => by
    by_cases h : j = i
    · rw [if_pos h]; exact nd
    · rw [if_neg h]; exact ok.nd j
  dis := fun j a ha => by
    by_cases h : j = i
    · rw [if_pos h] at ha; exact (free a ha).1
    · rw [if_neg h] at ha; exact ok.dis j a ha
  sep := fun j k a ha hb => by
    by_cases h : j = i
    · rw [if_pos h] at ha
      by_cases g : k = i
      · rw [h, g]
      · rw [if_neg g] at hb; exact ((free a ha).2 k g hb).elim
    · rw [if_neg h] at ha
      by_cases g : k = i
      · rw [if_pos g] at hb; exact ((free a hb).2 j h ha).elim
      · rw [if_neg g] at hb; exact ok.sep j k a ha hb
theorem EnvOk.clr (ok : EnvOk K R H E σ fp) (i : Nat) : EnvOk K R H (E.set i none) σ (fun j => if j = i then [] else fp j) := by
  by_cases hi : i < E.length
  · refine ⟨ok.sub, by rw [List.length_set]; exact ok.len, fun j w e => ?_, fun j e => ?_, fun j => ?_, fun j a ha => ?_, fun j k a ha hb => ?_⟩
    · rw [slot_set hi] at e
      by_cases h : j = i
      · rw [if_pos h] at e; cases e
      · rw [if_neg h] at e ⊢; exact ok.slots j w e
    · rw [slot_set hi] at e
      by_cases h : j = i
      · rw [if_pos h]
      · rw [if_neg h] at e ⊢; exact ok.emp j e
    · by_cases h : j = i
      · rw [if_pos h]; exact List.nodup_nil
      · rw [if_neg h]; exact ok.nd j
    · by_cases h : j = i
      · rw [if_pos h] at ha; cases ha
      · rw [if_neg h] at ha; exact ok.dis j a ha
    · by_cases h : j = i
      · rw [if_pos h] at ha; cases ha
      · rw [if_neg h] at ha
        by_cases g : k = i
        · rw [if_pos g] at hb; cases hb
        · rw [if_neg g] at hb; exact ok.sep j k a ha hb
  · rw [set_out hi]
    have hz : fp i = [] := ok.emp i (by unfold slot; rw [List.getElem?_eq_none (by omega)]; rfl)
    have e : (fun j => if j = i then [] else fp j) = fp := by
      funext j
      by_cases h : j = i
      · subst h; rw [if_pos rfl, hz]
      · rw [if_neg h]
    rw [e]; exact ok
theorem Goes.clr (ok : EnvOk K R H E σ fp) (i : Nat) : Goes R H fp R H (fun j => if j = i then [] else fp j) where
  ext := Le.refl R
  frame := fun _ _ e _ => e
  dom := fun a z => by
    rcases z with z | ⟨j, z⟩
    · exact .inl z
    · by_cases h : j = i
      · rw [if_pos h] at z; cases z
      · rw [if_neg h] at z; exact .inr (.inl ⟨j, z⟩)
  there := fun _ e => e
  dis := fun j a ha => by
    by_cases h : j = i
    · rw [if_pos h] at ha; cases ha
    · rw [if_neg h] at ha; exact ok.dis j a ha
/-- new things are laid, nothing else -/
theorem Goes.heap (ok : EnvOk K R H E σ fp) (h : Le H H') : Goes R H fp R H' fp where
  ext := Le.refl R
  frame := fun a o e _ => h a o e
  dom := fun a z => z.elim .inl fun z => .inr (.inl z)
  there := fun a e => h.none e
  dis := ok.dis

/-- behind an expression -/
structure Aft (K : PySem.W.Frag) (R H : Hp) (fp : Nat → List Addr) (E' : Env) (σ : St) (r : SV) (v : V) (R' H' : Hp) (fp' : Nat → List Addr) (fr : List Addr) : Prop where
  env : EnvOk K R' H' E' σ fp'
  goes : Goes R H fp R' H' fp'
  val : SvOk K R' H' r v fr
  free : Free R' fp' fr
  nd : fr.Nodup
  new : ∀ a ∈ fr, R a ≠ none ∨ (∃ i, a ∈ fp i) ∨ H a = none
def SV.settle : SV → SV
  | .ow _ d => .fz d
  | r => r
theorem settle_d (r : SV) : r.settle.d = r.d := by cases r <;> rfl
theorem settle_shal (r : SV) : r.settle.shal = r.shal := by cases r <;> rfl
theorem settle_stable (r : SV) : r.settle.stable = r.stable := by cases r <;> rfl
def frzH (R H : Hp) (f : List Addr) : Hp := fun a => if a ∈ f then H a else R a
variable {r : SV} {v : V} {fr : List Addr}
theorem Aft.there (h : Aft K R H fp E' σ r v R' H' fp' fr) : ∀ a ∈ fr, H' a ≠ none := by
  intro a ha
  cases r with
  | fz d => rw [h.val.2] at ha; cases ha
  | ow n d => exact RpO.there h.val a ha
  | pk n d => rw [h.val.2] at ha; cases ha
theorem frz_le {f : List Addr} (hf : ∀ a ∈ f, R' a = none) : Le R' (frzH R' H' f) := fun a o e => by
  unfold frzH
  by_cases ha : a ∈ f
  · rw [hf a ha] at e; cases e
  · rw [if_neg ha]; exact e
/-- what is ours stays from now on -/
theorem Aft.settle (h : Aft K R H fp E' σ r v R' H' fp' fr) : ∃ R1, Le R' R1 ∧ Aft K R H fp E' σ r.settle v R1 H' fp' [] := by
  have hle : Le R' (frzH R' H' fr) := frz_le fun a ha => (h.free a ha).1
  have hsub : Le (frzH R' H' fr) H' := fun a o e => by
    unfold frzH at e
    by_cases ha : a ∈ fr
    · rw [if_pos ha] at e; exact e
    · rw [if_neg ha] at e; exact h.env.sub a o e
  have hdis : ∀ i a, a ∈ fp' i → frzH R' H' fr a = none := fun i a hi => by
    unfold frzH
    by_cases ha : a ∈ fr
    · exact ((h.free a ha).2 i hi).elim
    · rw [if_neg ha]; exact h.env.dis i a hi
  refine ⟨frzH R' H' fr, hle, h.env.more hle hsub hdis, ⟨h.goes.ext.trans hle, h.goes.frame, fun a z => ?_, h.goes.there, hdis⟩, ?_, (fun _ z => (nomatch z)), List.nodup_nil, (fun _ z => (nomatch z))⟩
  · rcases z with z | z
    · by_cases ha : a ∈ fr
      · exact h.new a ha
      · unfold frzH at z; rw [if_neg ha] at z; exact h.goes.dom a (.inl z)
    · exact h.goes.dom a (.inr z)
  · have hv := h.val
    cases r with
    | fz d => exact ⟨hv.1.mono hle, rfl⟩
    | ow n d => exact ⟨RpO.rp hle (fun a ha o e => by unfold frzH; rw [if_pos ha]; exact e) hv, rfl⟩
    | pk n d =>
      obtain ⟨f, q⟩ := hv.1
      exact ⟨⟨f, q.mono hle fun _ _ _ z => z⟩, rfl⟩
theorem Aft.fz {d : D} (env : EnvOk K R' H' E' σ fp') (goes : Goes R H fp R' H' fp') (q : Rp K R' d v) : Aft K R H fp E' σ (.fz d) v R' H' fp' [] :=
  ⟨env, goes, ⟨q, rfl⟩, fun _ z => (nomatch z), List.nodup_nil, fun _ z => (nomatch z)⟩
theorem Aft.newL {ds : List D} {xs : List V} {p : Addr} (env : EnvOk K R' H' E' σ fp') (goes : Goes R H fp R' H' fp') (hp : H' p = none) (q : RpA K R' ds xs) :
    Aft K R H fp E' σ (.ow 1 (.list ds)) (.ref p) R' (upd H' p (.lst xs)) fp' [p] where
  env := env.heap (le_upd hp)
  goes := goes.trans (Goes.heap env (le_upd hp))
  val := RpO.one upd_same q
  free := fun a ha => by
    rcases List.mem_cons.mp ha with rfl | z
    · exact ⟨env.sub.none hp, fun i hi => env.there hi hp⟩
    · cases z
  nd := List.nodup_cons.mpr ⟨(fun z => (nomatch z)), List.nodup_nil⟩
  new := fun a ha => by
    rcases List.mem_cons.mp ha with rfl | z
    · exact .inr (.inr (goes.there a hp))
    · cases z
theorem Aft.newT {ds : List D} {xs : List V} {p : Addr} (env : EnvOk K R' H' E' σ fp') (goes : Goes R H fp R' H' fp') (hp : H' p = none) (q : RpA K R' ds xs) :
    ∃ R1, Aft K R H fp E' σ (.fz (.tup ds)) (.ref p) R1 (upd H' p (.tup xs)) fp' [] := by
  have hR : R' p = none := env.sub.none hp
  have hle : Le R' (upd R' p (.tup xs)) := le_upd hR
  have ne : ∀ i a, a ∈ fp' i → a ≠ p := fun i a hi z => env.there hi (z ▸ hp)
  refine ⟨upd R' p (.tup xs), Aft.fz ((env.heap (le_upd hp)).more hle (fun a o e => ?_) fun i a hi => ?_) ⟨goes.ext.trans hle, fun a o e n => le_upd hp a o (goes.frame a o e n), fun a z => ?_, fun a e => goes.there a ((le_upd hp).none e), fun i a hi => ?_⟩ ?_⟩
  · by_cases z : a = p
    · subst z; rw [upd_same] at e ⊢; exact e
    · rw [upd_ne z] at e ⊢; exact env.sub a o e
  · rw [upd_ne (ne i a hi)]; exact env.dis i a hi
  · rcases z with z | z
    · by_cases y : a = p
      · subst y; exact .inr (.inr (goes.there a hp))
      · rw [upd_ne y] at z; exact goes.dom a (.inl z)
    · exact goes.dom a (.inr z)
  · rw [upd_ne (ne i a hi)]; exact env.dis i a hi
  · unfold Rp
    exact ⟨p, xs, rfl, SqT.of upd_same, q.mono hle⟩
/-- a settled result behind more steps -/
theorem SvOk.carry (q : SvOk K R H r v []) (hn : ∀ n d, r ≠ .ow n d) (g : Goes R H fp R' H' fp') (h : r.stable = true ∨ Le H H') : SvOk K R' H' r v [] := by
  cases r with
  | fz d => exact ⟨q.1.mono g.ext, rfl⟩
  | ow n d => exact (hn n d rfl).elim
  | pk n d =>
    obtain ⟨f, q⟩ := q.1
    rcases h with h | h
    · refine ⟨⟨[], ?_⟩, rfl⟩
      cases n with
      | zero => unfold RpO at *; exact ⟨q.1.mono g.ext, rfl⟩
      | succ n => cases d <;> first | (exact q.elim) | cases h
    · exact ⟨⟨f, q.mono g.ext fun a _ o e => h a o e⟩, rfl⟩
theorem settle_now (r : SV) : ∀ n d, r.settle ≠ .ow n d := by cases r <;> exact fun _ _ z => nomatch z
end

/-! ### where one stands -/
structure Ct where
  N : List Str
  sc : Scope
  fnB : Str → Bool
  k : Nat
  muts : List Nat
  fnn : List Str
  cnn : List Str
  bl : List Str

/-- the arguments as they lie: those that stay; those that are ours -/
def ArgsOk (K : PySem.W.Frag) (R H : Hp) : List Nat → List D → List V → List (List Addr) → Prop
  | [], [], [], [] => True
  | n :: ws, d :: ds, v :: vs, f :: fs => RpO K R H n d v f ∧ ArgsOk K R H ws ds vs fs
  | _, _, _, _ => False
/-- the changed ones -/
def MutsOk (K : PySem.W.Frag) (R H : Hp) : List Nat → List D → List V → List (List Addr) → Prop
  | [], [], [], [] => True
  | 0 :: ws, ds, _ :: vs, f :: fs => f = [] ∧ MutsOk K R H ws ds vs fs
  | (n + 1) :: ws, d :: ds, v :: vs, f :: fs => RpO K R H (n + 1) d v f ∧ MutsOk K R H ws ds vs fs
  | _, _, _, _ => False
def fpOf (fs : List (List Addr)) : Nat → List Addr := fun i => (fs[i]?).getD []
/-- the promise of a def: what F says -/
def spV (K : PySem.W.Frag) (F : Fn) : Sp := fun vs H Q _ => ∃ (R : Hp) (ds : List D) (r : SV) (ms : List D) (fs : List (List Addr)),
  ArgsOk K R H F.ways ds vs fs ∧ Le R H ∧ (∀ i, (fpOf fs i).Nodup) ∧ (∀ i j a, a ∈ fpOf fs i → a ∈ fpOf fs j → i = j) ∧ (∀ i a, a ∈ fpOf fs i → R a = none) ∧
  F.f ds = some (r, ms) ∧ isPk r = false ∧
  ∀ v R' H' fs' fr, Goes R H (fpOf fs) R' H' (fpOf fs') → Le R' H' → MutsOk K R' H' F.ways ms vs fs' → (∀ i, (fpOf fs' i).Nodup) → (∀ i j a, a ∈ fpOf fs' i → a ∈ fpOf fs' j → i = j) →
    SvOk K R' H' r v fr → Free R' (fpOf fs') fr → fr.Nodup → (∀ a ∈ fr, R a ≠ none ∨ (∃ i, a ∈ fpOf fs i) ∨ H a = none) → Q v H'
/-- what the top has left -/
structure WOk (P : Program) (w : World) (K : PySem.W.Frag) (mg : Str → Option Value) (base : Heap) (G : Gm) (C : Ct) : Prop where
  fns : ∀ (k : Nat) (F : Fn) (x : Str), G.fns[k]? = some F → C.fnn[k]? = some x → ∃ f fd ps, mg x = some (.ref f) ∧ PySem.W.keepIn K (.ref f) = true ∧ FnOk P w K mg base CX0 C.k f fd ps (spV K F) ∧ Binds K fd ps []
  con : ∀ (k : Nat) (d : D) (x : Str), G.cons[k]? = some d → C.cnn[k]? = some x → ∃ u v, mg x = some u ∧ RelV v u ∧ Rp K (fun _ => none) d v
  free : ∀ x ∈ C.bl, x ≠ "gcd" → mg x = none
  gcd : ("gcd" : Str) ∈ C.bl → mg "gcd" = some (.builtin "math.gcd")
structure Good (G : Gm) (C : Ct) (X : Cx) : Prop where
  N : X.N = C.N
  sc : X.env.scope = C.sc
  nd : C.N.Nodup
  calm : X.calm = true
  room : Room C.k X.A
  fn : ∀ x, C.fnB x = true → X.fn x = true
  wok : WOk X.prog X.w X.K X.mg X.base G C
  pass : PassesOwn (model X.prog X.w) X.A X.env X.xe

/-- the expression does what its copy does -/
def JEt (G : Gm) (X : Cx) (x : Ex) (t : TE) : Prop := ∀ (E E' : Env) (r : SV) (σ : St) (R H : Hp) (fp : Nat → List Addr) (Q : VK), ev G x E = some (r, E') → EnvOk X.K R H E σ fp →
  (∀ v R' H' fp' fr, Aft X.K R H fp E' σ r v R' H' fp' fr → (x.pure = true → Le H H') → Q v H') → t σ H Q
def JE (G : Gm) (C : Ct) (e : Expr) (x : Ex) : Prop := ∀ X, Good G C X → ∃ t, PE X e t ∧ JEt G X x t
end VI

/-! VI, part 4: the judgement of expressions, names and operators. -/
namespace VI
open PySem L2
section
variable {K : PySem.W.Frag} {R R' R1 H H' H1 : Hp} {E E' E1 E2 : Env} {σ σ' : St} {fp fp' fp1 : Nat → List Addr} {r x y : SV} {v w : V} {fr : List Addr} {d : D} {ds : List D}

/-! ### what a settled result is -/
theorem res_int {i : Int} (hs : Le R H) (q : SvOk K R H r.settle v []) (e : r.d = .int i) : v = .int i := by
  have h := q.deep hs
  rw [settle_d, e] at h; unfold Rp at h; exact h
theorem res_bl {b : Bool} (hs : Le R H) (q : SvOk K R H r.settle v []) (e : r.d = .bl b) : v = .bl b := by
  have h := q.deep hs
  rw [settle_d, e] at h; unfold Rp at h; exact h
theorem res_str {a : Str} (hs : Le R H) (q : SvOk K R H r.settle v []) (e : r.d = .str a) : v = .str a := by
  have h := q.deep hs
  rw [settle_d, e] at h; unfold Rp at h; exact h
theorem res_non (hs : Le R H) (q : SvOk K R H r.settle v []) (e : r.d = .non) : v = .non := by
  have h := q.deep hs
  rw [settle_d, e] at h; unfold Rp at h; exact h
theorem res_list (hs : Le R H) (q : SvOk K R H r.settle v []) (e : r.d = .list ds) : ∃ a xs, v = .ref a ∧ H a = some (.lst xs) ∧ (r.shal = true → RpA K R ds xs) ∧ RpA K H ds xs := by
  cases r with
  | fz d =>
    have e' : d = .list ds := e
    subst e'
    have h := q.1
    unfold Rp at h
    obtain ⟨a, xs, e1, e2, e3⟩ := h
    exact ⟨a, xs, e1, hs _ _ e2, fun _ => e3, e3.mono hs⟩
  | ow n d =>
    have e' : d = .list ds := e
    subst e'
    have h := q.1
    unfold Rp at h
    obtain ⟨a, xs, e1, e2, e3⟩ := h
    exact ⟨a, xs, e1, hs _ _ e2, fun _ => e3, e3.mono hs⟩
  | pk n d =>
    have e' : d = .list ds := e
    subst e'
    have hq := q
    obtain ⟨⟨f, h⟩, _⟩ := q
    cases n with
    | zero =>
      unfold RpO at h
      have h := h.1
      unfold Rp at h
      obtain ⟨a, xs, e1, e2, e3⟩ := h
      exact ⟨a, xs, e1, hs _ _ e2, fun _ => e3, e3.mono hs⟩
    | succ n =>
      have hd := SvOk.deep hs hq
      unfold SV.settle SV.d at hd
      simp only at hd
      unfold Rp at hd
      obtain ⟨a, xs, e1, e2, e3⟩ := hd
      unfold RpO at h
      obtain ⟨b, ys, g, f1, f2, f3, f4⟩ := h
      rw [e1] at f1
      cases f1
      rw [e2] at f2
      cases f2
      refine ⟨a, xs, e1, e2, fun z => ?_, e3⟩
      cases n with
      | zero => exact f4.zero_nil.1
      | succ n => simp [SV.shal] at z
theorem res_tup (q : SvOk K R H r.settle v []) (e : r.d = .tup ds) : ∃ a xs, v = .ref a ∧ SqT K R a xs ∧ RpA K R ds xs := by
  cases r with
  | fz d =>
    have e' : d = .tup ds := e
    subst e'
    have h := q.1
    unfold Rp at h
    exact h
  | ow n d =>
    have e' : d = .tup ds := e
    subst e'
    have h := q.1
    unfold Rp at h
    exact h
  | pk n d =>
    have e' : d = .tup ds := e
    subst e'
    obtain ⟨⟨f, h⟩, _⟩ := q
    cases n with
    | zero =>
      unfold RpO at h
      have h := h.1
      unfold Rp at h
      exact h
    | succ n => exact h.elim
theorem res_lck (q : SvOk K R H r.settle v []) (e : r.d = .lck ds) : ∃ a xs, v = .ref a ∧ SqL K R a xs ∧ RpA K R ds xs := by
  cases r with
  | fz d =>
    have e' : d = .lck ds := e
    subst e'
    have h := q.1
    unfold Rp at h
    exact h
  | ow n d =>
    have e' : d = .lck ds := e
    subst e'
    have h := q.1
    unfold Rp at h
    exact h
  | pk n d =>
    have e' : d = .lck ds := e
    subst e'
    obtain ⟨⟨f, h⟩, _⟩ := q
    cases n with
    | zero =>
      unfold RpO at h
      have h := h.1
      unfold Rp at h
      exact h
    | succ n => exact h.elim
theorem res_keep (q : SvOk K R H r.settle v []) (e : r.keep = some d) : Rp K R d v := by
  cases r with
  | fz d' => cases e; exact q.1
  | ow n d' => cases e; exact q.1
  | pk n d' =>
    unfold SV.keep at e
    simp only at e
    split at e
    · cases e
      obtain ⟨⟨f, h⟩, _⟩ := q
      cases n with
      | zero => unfold RpO at h; exact h.1
      | succ n =>
        have i : d.imm = true := by assumption
        cases d <;> first | exact h.elim | cases i
    · cases e
/-- items that may be kept -/
theorem res_items (hs : Le R H) (q : SvOk K R H r.settle v []) (e : itemsOf r.d = some ds) : ∃ a xs, v = .ref a ∧ (SqL K H a xs ∨ SqT K H a xs) ∧ (r.shal = true → RpA K R ds xs) ∧ RpA K H ds xs := by
  cases h : r.d <;> rw [h] at e <;> simp only [itemsOf, Option.some.injEq, reduceCtorEq] at e
  · subst e
    obtain ⟨a, xs, e1, e2, e3, e4⟩ := res_list hs q h
    exact ⟨a, xs, e1, .inl (SqL.of e2), e3, e4⟩
  · subst e
    obtain ⟨a, xs, e1, e2, e3⟩ := res_tup q h
    exact ⟨a, xs, e1, .inr (hs.sqt e2), fun _ => e3, e3.mono hs⟩
  · subst e
    obtain ⟨a, xs, e1, e2, e3⟩ := res_lck q h
    exact ⟨a, xs, e1, .inl (hs.sql e2), fun _ => e3, e3.mono hs⟩
/-- several settled results -/
def RsOk (K : PySem.W.Frag) (R H : Hp) : List SV → List V → Prop
  | [], vs => vs = []
  | r :: rs, vs => ∃ v t, vs = v :: t ∧ SvOk K R H r.settle v [] ∧ RsOk K R H rs t
theorem RsOk.keep : ∀ {rs : List SV} {vs : List V} {ds : List D}, RsOk K R H rs vs → rs.mapM SV.keep = some ds → RpA K R ds vs
  | [], vs, ds, q, e => by
    simp at e; subst e
    have q' : vs = [] := q
    subst q'; exact .nil
  | r :: rs, vs, ds, q, e => by
    obtain ⟨v, t, rfl, q1, q2⟩ := q
    rw [List.mapM_cons] at e
    cases h : r.keep with
    | none => rw [h] at e; cases e
    | some d =>
      cases g : rs.mapM SV.keep with
      | none => rw [h, g] at e; cases e
      | some es =>
        rw [h, g] at e
        cases e
        exact .cons (res_keep q1 h) (RsOk.keep q2 g)
end

section
variable {G : Gm} {X : Cx} {C : Ct}
theorem two {xa xb : Ex} {ta tb : TE} {E E1 E2 : Env} {x y : SV} {σ : St} {R H : Hp} {fp : Nat → List Addr} {Kn : V → V → Hp → Prop} (hA : JEt G X xa ta) (hB : JEt G X xb tb) (ea : ev G xa E = some (x, E1)) (eb : ev G xb E1 = some (y, E2)) (st : (x.stable || xb.pure) = true)
    (ok : EnvOk X.K R H E σ fp)
    (k : ∀ v w R' H' fp', EnvOk X.K R' H' E2 σ fp' → Goes R H fp R' H' fp' → SvOk X.K R' H' x.settle v [] → SvOk X.K R' H' y.settle w [] → ((xa.pure && xb.pure) = true → Le H H') → Kn v w H') :
    ta σ H fun v H1 => tb σ H1 fun w H2 => Kn v w H2 := by
  refine hA _ _ _ _ _ _ _ _ ea ok fun v R1 H1 fp1 f1 a1 p1 => ?_
  obtain ⟨R2, l2, a2⟩ := a1.settle
  refine hB _ _ _ _ _ _ _ _ eb a2.env fun w R3 H3 fp3 f3 a3 p3 => ?_
  obtain ⟨R4, l4, a4⟩ := a3.settle
  refine k v w R4 H3 fp3 a4.env (a2.goes.trans a4.goes) (a2.val.carry (settle_now x) a4.goes ?_) a4.val fun h => ?_
  · rcases Bool.or_eq_true_iff.mp st with h | h
    · exact .inl (by rw [settle_stable]; exact h)
    · exact .inr (p3 h)
  · obtain ⟨h1, h2⟩ := Bool.and_eq_true_iff.mp h
    exact (p1 h1).trans (p3 h2)
theorem one {xa : Ex} {ta : TE} {E E1 : Env} {x : SV} {σ : St} {R H : Hp} {fp : Nat → List Addr} {Kn : V → Hp → Prop} (hA : JEt G X xa ta) (ea : ev G xa E = some (x, E1)) (ok : EnvOk X.K R H E σ fp)
    (k : ∀ v R' H' fp', EnvOk X.K R' H' E1 σ fp' → Goes R H fp R' H' fp' → SvOk X.K R' H' x.settle v [] → (xa.pure = true → Le H H') → Kn v H') : ta σ H Kn := by
  refine hA _ _ _ _ _ _ _ _ ea ok fun v R1 H1 fp1 f1 a1 p1 => ?_
  obtain ⟨R2, l2, a2⟩ := a1.settle
  exact k v R2 H1 fp1 a2.env a2.goes a2.val p1

/-! ### names, constants -/
def visB (sc : Scope) (x : Str) : Bool := match sc.names.lookup x with
  | some .local => true
  | some .cell => true
  | some .free => true
  | _ => false
def glB (sc : Scope) (x : Str) : Bool := decide (sc.names.lookup x = some .globalImplicit)
theorem vis_of {sc : Scope} {x : Str} (h : visB sc x = true) : Vis sc x := by
  unfold visB at h
  unfold Vis
  split at h
  · exact .inl (by assumption)
  · exact .inr (.inl (by assumption))
  · exact .inr (.inr (by assumption))
  · cases h
theorem Good.vis (g : Good G C X) {x : Str} (h : visB C.sc x = true) : Vis X.env.scope x := by rw [g.sc]; exact vis_of h
theorem Good.gl (g : Good G C X) {x : Str} (h : glB C.sc x = true) : Gl X x := by
  show X.env.scope.names.lookup x = _
  rw [g.sc]; exact of_decide_eq_true h
def plainName (x : Str) : Bool := !(x == ("__debug__" : Str)) && !(x == ("__classdict__" : Str)) && !(x == ("__name__" : Str))
theorem pn1 {x : Str} (h : plainName x = true) : (x == ("__debug__" : Str)) = false := by
  unfold plainName at h
  simp only [Bool.and_eq_true, Bool.not_eq_true'] at h
  exact h.1.1
theorem pn2 {x : Str} (h : plainName x = true) : (x == ("__classdict__" : Str)) = false := by
  unfold plainName at h
  simp only [Bool.and_eq_true, Bool.not_eq_true'] at h
  exact h.1.2
theorem pn3 {x : Str} (h : plainName x = true) : x ≠ "__name__" := by
  unfold plainName at h
  simp only [Bool.and_eq_true, Bool.not_eq_true'] at h
  intro e
  rw [e] at h
  simp at h
variable {i : Nat} {x : Str} {pos : Pos}
theorem Good.pvar (g : Good G C X) (hN : C.N[i]? = some x) (hv : visB C.sc x = true) (hp : plainName x = true) : PE X (.Name x pos) (tVar i) :=
  pe_var (by rw [g.N]; exact hN) (g.vis hv) (pn1 hp) (pn2 hp)
theorem ev_var {E E' : Env} {r : SV} (h : ev G (.var i) E = some (r, E')) : E' = E ∧ ((∃ d, slot E i = some (.fz d) ∧ r = .fz d) ∨ ∃ n d, slot E i = some (.ow n d) ∧ r = .pk n d) := by
  simp only [ev] at h
  split at h
  · cases h; exact ⟨rfl, .inl ⟨_, by assumption, rfl⟩⟩
  · cases h; exact ⟨rfl, .inr ⟨_, _, by assumption, rfl⟩⟩
  · cases h
theorem J_var (hN : C.N[i]? = some x) (hv : visB C.sc x = true) (hp : plainName x = true) : JE G C (.Name x pos) (.var i) := fun X g => by
  refine ⟨_, g.pvar hN hv hp, fun E E' r σ R H fp Q he ok k => ?_⟩
  obtain ⟨rfl, ⟨d, hs, rfl⟩ | ⟨n, d, hs, rfl⟩⟩ := ev_var he
  · obtain ⟨v, e1, q, _⟩ := ok.slots i _ hs
    exact ⟨v, e1, k v R H fp [] (Aft.fz ok (.refl ok) q.1) fun _ => Le.refl _⟩
  · obtain ⟨v, e1, q, _⟩ := ok.slots i _ hs
    exact ⟨v, e1, k v R H fp [] ⟨ok, .refl ok, ⟨⟨_, q⟩, rfl⟩, (fun _ z => (nomatch z)), List.nodup_nil, (fun _ z => (nomatch z))⟩ fun _ => Le.refl _⟩
theorem aft_mv {K : PySem.W.Frag} {E : Env} {σ : St} {R H : Hp} {fp : Nat → List Addr} {n : Nat} {d : D} (ok : EnvOk K R H E σ fp) (hs : slot E i = some (.ow n d)) :
    ∃ v, σ[i]? = some (some v) ∧ Aft K R H fp (E.set i none) σ (.ow n d) v R H (fun j => if j = i then [] else fp j) (fp i) := by
  obtain ⟨v, e1, q, _⟩ := ok.slots i _ hs
  refine ⟨v, e1, ok.clr i, Goes.clr ok i, q, fun a ha => ⟨ok.dis i a ha, fun j hj => ?_⟩, ok.nd i, fun a ha => .inr (.inl ⟨i, ha⟩)⟩
  by_cases h : j = i
  · simp [h] at hj
  · simp only [h, if_false] at hj
    exact h (ok.sep j i a hj ha)
theorem set_same {α : Type} {l : List α} {v : α} (h : l[i]? = some v) : l.set i v = l := by
  apply List.ext_getElem?
  intro j
  by_cases e : i = j
  · subst e
    have hi : i < l.length := (List.getElem?_eq_some_iff.mp h).1
    rw [List.getElem?_set_self hi, h]
  · rw [List.getElem?_set_ne e]
theorem J_mvv (hN : C.N[i]? = some x) (hv : visB C.sc x = true) (hp : plainName x = true) : JE G C (.Name x pos) (.mvv i) := fun X g => by
  refine ⟨_, g.pvar hN hv hp, fun E E' r σ R H fp Q he ok k => ?_⟩
  simp only [ev] at he
  split at he
  · cases he
    obtain ⟨v, e1, a⟩ := aft_mv ok (by assumption)
    exact ⟨v, e1, k v _ _ _ _ a fun _ => Le.refl _⟩
  · cases he
    obtain ⟨v, e1, q, _⟩ := ok.slots i _ (by assumption)
    exact ⟨v, e1, k v R H fp [] (Aft.fz ok (.refl ok) q.1) fun _ => Le.refl _⟩
  · cases he
/-- the slot stays from now on -/
theorem aft_fz {K : PySem.W.Frag} {E : Env} {σ : St} {R H : Hp} {fp : Nat → List Addr} {n : Nat} {d : D} (ok : EnvOk K R H E σ fp) (hs : slot E i = some (.ow n d)) :
    ∃ v R1, σ[i]? = some (some v) ∧ Aft K R H fp (E.set i (some (.fz d))) σ (.fz d) v R1 H (fun j => if j = i then [] else fp j) [] := by
  obtain ⟨v, e1, a⟩ := aft_mv ok hs
  obtain ⟨R1, l1, b⟩ := a.settle
  have hi : i < E.length := by
    unfold slot at hs
    cases h : E[i]? with
    | none => rw [h] at hs; cases hs
    | some z => exact (List.getElem?_eq_some_iff.mp h).1
  have q := b.val
  have p := b.env.put (sv := .fz d) (v := v) (f := []) (i := i) (by rw [List.length_set]; exact hi) b.env.sub (fun _ _ _ _ _ z => z) q rfl List.nodup_nil (fun _ z => (nomatch z))
  rw [List.set_set, set_same e1] at p
  have ef : (fun j => if j = i then [] else if j = i then [] else fp j) = (fun j => if j = i then ([] : List Addr) else fp j) := by
    funext j; by_cases h : j = i <;> simp [h]
  rw [ef] at p
  exact ⟨v, R1, e1, Aft.fz p b.goes q.1⟩
theorem J_fzv (hN : C.N[i]? = some x) (hv : visB C.sc x = true) (hp : plainName x = true) : JE G C (.Name x pos) (.fzv i) := fun X g => by
  refine ⟨_, g.pvar hN hv hp, fun E E' r σ R H fp Q he ok k => ?_⟩
  simp only [ev] at he
  split at he
  · cases he
    obtain ⟨v, e1, q, _⟩ := ok.slots i _ (by assumption)
    exact ⟨v, e1, k v R H fp [] (Aft.fz ok (.refl ok) q.1) fun _ => Le.refl _⟩
  · cases he
    obtain ⟨v, R1, e1, a⟩ := aft_fz ok (by assumption)
    exact ⟨v, e1, k v _ _ _ _ a fun _ => Le.refl _⟩
  · cases he
theorem J_int {i : Int} {j} : JE G C (.Constant (.int i) j pos) (.int i) := fun X g => ⟨_, pe_int, fun E E' r σ R H fp Q he ok k => by
  simp only [ev] at he; cases he
  exact k _ R H fp [] (Aft.fz ok (.refl ok) (by unfold Rp; rfl)) fun _ => Le.refl _⟩
theorem J_bl {b : Bool} {j} : JE G C (.Constant (.bool b) j pos) (.bl b) := fun X g => ⟨_, pe_bl, fun E E' r σ R H fp Q he ok k => by
  simp only [ev] at he; cases he
  exact k _ R H fp [] (Aft.fz ok (.refl ok) (by unfold Rp; rfl)) fun _ => Le.refl _⟩
theorem J_str {a : Str} {j} : JE G C (.Constant (.str a) j pos) (.str a) := fun X g => ⟨_, pe_str, fun E E' r σ R H fp Q he ok k => by
  simp only [ev] at he; cases he
  exact k _ R H fp [] (Aft.fz ok (.refl ok) (by unfold Rp; rfl)) fun _ => Le.refl _⟩
theorem J_non {j} : JE G C (.Constant .none j pos) .non := fun X g => ⟨_, pe_non, fun E E' r σ R H fp Q he ok k => by
  simp only [ev] at he; cases he
  exact k _ R H fp [] (Aft.fz ok (.refl ok) (by unfold Rp; rfl)) fun _ => Le.refl _⟩
theorem J_bad {e : Expr} : JE G C e .bad := fun X g => ⟨fun _ _ _ => False, ⟨fun _ _ _ _ _ _ h => h.elim⟩, fun E E' r σ R H fp Q he ok k => by simp only [ev] at he; cases he⟩
theorem J_con {k : Nat} (hk : C.cnn[k]? = some x) (hg : glB C.sc x = true) (hp : plainName x = true) : JE G C (.Name x pos) (.con k) := fun X g => by
  cases h : G.cons[k]? with
  | none =>
    refine ⟨fun _ _ _ => False, ⟨fun _ _ _ _ _ _ h => h.elim⟩, fun E E' r σ R H fp Q he ok k => ?_⟩
    simp only [ev, h] at he; cases he
  | some d =>
    obtain ⟨u, v, h1, h2, h3⟩ := g.wok.con k d x h hk
    refine ⟨_, pe_glob (g.gl hg) h1 h2 (pn1 hp), fun E E' r σ R H fp Q he ok kk => ?_⟩
    simp only [ev, h, Option.map_some] at he
    cases he
    exact kk _ R H fp [] (Aft.fz ok (.refl ok) (h3.mono (by intro a o z; cases z))) fun _ => Le.refl _

/-! ### operators -/
def BinOk (K : PySem.W.Frag) (o : Bop) (r : R2) : Prop := ∀ (x y z : SV) (v w : V) (R H : Hp) (E : Env) (σ : St) (fp : Nat → List Addr) (Q : VK), binD o x y = some z → EnvOk K R H E σ fp → SvOk K R H x.settle v [] → SvOk K R H y.settle w [] →
  (∀ u R' H' fr, Aft K R H fp E σ z u R' H' fp fr → Le H H' → Q u H') → r v w H Q
theorem Aft.after {K : PySem.W.Frag} {R R' R1 H H' H1 : Hp} {E' : Env} {σ : St} {r : SV} {v : V} {fp fp' fp1 : Nat → List Addr} {fr : List Addr} (a : Aft K R1 H1 fp1 E' σ r v R' H' fp' fr) (g : Goes R H fp R1 H1 fp1) : Aft K R H fp E' σ r v R' H' fp' fr :=
  ⟨a.env, g.trans a.goes, a.val, a.free, a.nd, fun b hb => by
    rcases a.new b hb with z | z | z
    · exact g.dom b (.inl z)
    · exact g.dom b (.inr z)
    · exact .inr (.inr (g.there b z))⟩
theorem ev_bin {o : Bop} {a b : Ex} {E E' : Env} {r : SV} (h : ev G (.bin o a b) E = some (r, E')) : ∃ x E1 y, ev G a E = some (x, E1) ∧ ev G b E1 = some (y, E') ∧ (x.stable || b.pure) = true ∧ binD o x y = some r := by
  cases ha : ev G a E with
  | none => simp only [ev, ha] at h; cases h
  | some p =>
    obtain ⟨x, E1⟩ := p
    cases hb : ev G b E1 with
    | none => simp only [ev, ha, hb] at h; cases h
    | some q =>
      obtain ⟨y, E2⟩ := q
      simp only [ev, ha, hb] at h
      split at h
      · cases hz : binD o x y with
        | none => rw [hz] at h; cases h
        | some z => rw [hz] at h; cases h; exact ⟨x, E1, y, rfl, hb, by assumption, hz⟩
      · cases h
theorem J_bin {op : Operator} {o : Bop} {a b : Expr} {xa xb : Ex} (hr : ∀ X, Good G C X → ∃ r, OpR X (binaryOp op) r ∧ BinOk X.K o r) (ha : JE G C a xa) (hb : JE G C b xb) : JE G C (.BinOp a op b pos) (.bin o xa xb) := fun X g => by
  obtain ⟨ta, pa, ja⟩ := ha X g
  obtain ⟨tb, pb, jb⟩ := hb X g
  obtain ⟨r, pr, br⟩ := hr X g
  refine ⟨_, pe_op pr pa pb, fun E E' z σ R H fp Q he ok k => ?_⟩
  obtain ⟨x, E1, y, ea, eb, st, hz⟩ := ev_bin he
  exact two ja jb ea eb st ok fun v w R1 H1 fp1 ok1 g1 q1 q2 p => br x y z v w R1 H1 E' σ fp1 Q hz ok1 q1 q2 fun u R' H' fr a l => k u R' H' fp1 fr (a.after g1) fun hp => (p hp).trans l
theorem bin_ints {K : PySem.W.Frag} {o : Bop} {x y z : SV} {v w : V} {R H : Hp} {i j : Int} (h : binD o x y = some z) (hs : Le R H) (q1 : SvOk K R H x.settle v []) (q2 : SvOk K R H y.settle w []) (ex : x.d = .int i) (ey : y.d = .int j) :
    v = .int i ∧ w = .int j ∧ ∃ k, binI o i j = some k ∧ z = .fz (.int k) := by
  refine ⟨res_int hs q1 ex, res_int hs q2 ey, ?_⟩
  unfold binD at h
  rw [ex, ey] at h
  simp only at h
  cases hb : binI o i j with
  | none => rw [hb] at h; cases h
  | some k => rw [hb] at h; cases h; exact ⟨k, rfl, rfl⟩
theorem fin_int {K : PySem.W.Frag} {R H : Hp} {E : Env} {σ : St} {fp : Nat → List Addr} {Q : VK} {i : Int} (ok : EnvOk K R H E σ fp) (k : ∀ u R' H' fr, Aft K R H fp E σ (.fz (.int i)) u R' H' fp fr → Le H H' → Q u H') : Q (.int i) H :=
  k _ R H [] (Aft.fz ok (.refl ok) (by unfold Rp; rfl)) (Le.refl _)
theorem fin_bl {K : PySem.W.Frag} {R H : Hp} {E : Env} {σ : St} {fp : Nat → List Addr} {Q : VK} {i : Bool} (ok : EnvOk K R H E σ fp) (k : ∀ u R' H' fr, Aft K R H fp E σ (.fz (.bl i)) u R' H' fp fr → Le H H' → Q u H') : Q (.bl i) H :=
  k _ R H [] (Aft.fz ok (.refl ok) (by unfold Rp; rfl)) (Le.refl _)
theorem fin_str {K : PySem.W.Frag} {R H : Hp} {E : Env} {σ : St} {fp : Nat → List Addr} {Q : VK} {i : Str} (ok : EnvOk K R H E σ fp) (k : ∀ u R' H' fr, Aft K R H fp E σ (.fz (.str i)) u R' H' fp fr → Le H H' → Q u H') : Q (.str i) H :=
  k _ R H [] (Aft.fz ok (.refl ok) (by unfold Rp; rfl)) (Le.refl _)
theorem fin_rp {K : PySem.W.Frag} {R H : Hp} {E : Env} {σ : St} {fp : Nat → List Addr} {Q : VK} {d : D} {v : V} (ok : EnvOk K R H E σ fp) (q : Rp K R d v) (k : ∀ u R' H' fr, Aft K R H fp E σ (.fz d) u R' H' fp fr → Le H H' → Q u H') : Q v H :=
  k _ R H [] (Aft.fz ok (.refl ok) q) (Le.refl _)
theorem fin_list {K : PySem.W.Frag} {R H : Hp} {E : Env} {σ : St} {fp : Nat → List Addr} {Q : VK} {ds : List D} {xs : List V} {p : Addr} (ok : EnvOk K R H E σ fp) (q : RpA K R ds xs) (hp : H p = none) (k : ∀ u R' H' fr, Aft K R H fp E σ (.ow 1 (.list ds)) u R' H' fp fr → Le H H' → Q u H') : Q (.ref p) (upd H p (.lst xs)) :=
  k _ R _ [p] (Aft.newL ok (.refl ok) hp q) (le_upd hp)
theorem fin_tup {K : PySem.W.Frag} {R H : Hp} {E : Env} {σ : St} {fp : Nat → List Addr} {Q : VK} {ds : List D} {xs : List V} {p : Addr} (ok : EnvOk K R H E σ fp) (q : RpA K R ds xs) (hp : H p = none) (k : ∀ u R' H' fr, Aft K R H fp E σ (.fz (.tup ds)) u R' H' fp fr → Le H H' → Q u H') : Q (.ref p) (upd H p (.tup xs)) := by
  obtain ⟨R1, a⟩ := Aft.newT ok (.refl ok) hp q
  exact k _ R1 _ [] a (le_upd hp)
theorem ln_le {n : Nat} (h : n ≤ LN) : n ≤ sizeLine := by rw [sizeLine_eq]; exact h
theorem ln_lt {n : Nat} (h : n < LN) : n < sizeLine := by rw [sizeLine_eq]; exact h
/-- ints alone -/
theorem bin_only {o : Bop} {f : Value → Value → Sem Value} {X : Cx} {Cc : Int → Int → Prop} {gg : Int → Int → Int} (h : OpR X f (rI Cc fun i j => .int (gg i j))) (hb : ∀ i j k, binI o i j = some k → Cc i j ∧ k = gg i j)
    (hd : ∀ x y z, binD o x y = some z → ∃ i j, x.d = .int i ∧ y.d = .int j) : ∃ r, OpR X f r ∧ BinOk X.K o r := by
  refine ⟨_, h, fun x y z v w R H E σ fp Q e ok q1 q2 k => ?_⟩
  obtain ⟨i, j, ex, ey⟩ := hd x y z e
  obtain ⟨rfl, rfl, n, en, rfl⟩ := bin_ints e ok.sub q1 q2 ex ey
  obtain ⟨c, rfl⟩ := hb i j n en
  exact ⟨i, j, rfl, rfl, c, fin_int ok k⟩
theorem rI_of {f : Value → Value → Sem Value} {X : Cx} {gg : Int → Int → Int} (h : OpR X f (rI0 fun i j => .int (gg i j))) : OpR X f (rI (fun _ _ => True) fun i j => .int (gg i j)) := by
  intro pins s σ H x y v u Q I rx ry q
  obtain ⟨i, j, e1, e2, _, q⟩ := q
  exact h pins s σ H x y v u Q I rx ry ⟨i, j, e1, e2, q⟩
theorem binD_ints {o : Bop} {x y z : SV} (h : binD o x y = some z) (h1 : o ≠ .add) (h2 : o ≠ .mul) : ∃ i j, x.d = .int i ∧ y.d = .int j := by
  unfold binD at h
  split at h
  · exact ⟨_, _, by assumption, by assumption⟩
  · cases o <;> first | contradiction | cases h
  · cases o <;> first | contradiction | cases h
  · cases o <;> first | contradiction | cases h
  · cases h
theorem op_sub_ok (X : Cx) : ∃ r, OpR X (binaryOp .Sub) r ∧ BinOk X.K .sub r :=
  bin_only (rI_of op_sub) (fun i j k e => ⟨trivial, by unfold binI at e; cases e; rfl⟩) fun x y z e => binD_ints e (fun z => nomatch z) (fun z => nomatch z)
theorem op_and_ok (X : Cx) : ∃ r, OpR X (binaryOp .BitAnd) r ∧ BinOk X.K .band r :=
  bin_only (rI_of op_and) (fun i j k e => ⟨trivial, by unfold binI at e; cases e; rfl⟩) fun x y z e => binD_ints e (fun z => nomatch z) (fun z => nomatch z)
theorem op_or_ok (X : Cx) : ∃ r, OpR X (binaryOp .BitOr) r ∧ BinOk X.K .bor r :=
  bin_only (rI_of op_or) (fun i j k e => ⟨trivial, by unfold binI at e; cases e; rfl⟩) fun x y z e => binD_ints e (fun z => nomatch z) (fun z => nomatch z)
theorem op_xor_ok (X : Cx) : ∃ r, OpR X (binaryOp .BitXor) r ∧ BinOk X.K .bxor r :=
  bin_only (rI_of op_xor) (fun i j k e => ⟨trivial, by unfold binI at e; cases e; rfl⟩) fun x y z e => binD_ints e (fun z => nomatch z) (fun z => nomatch z)
theorem op_fdiv_ok (X : Cx) : ∃ r, OpR X (binaryOp .FloorDiv) r ∧ BinOk X.K .fdiv r :=
  bin_only op_fdivW (fun i j k e => by
    unfold binI at e
    simp only at e
    split at e
    · rename_i h
      cases e
      exact ⟨of_decide_eq_true (p := 0 < j ∧ j.natAbs.log2 < 9000) h, rfl⟩
    · cases e) fun x y z e => binD_ints e (fun z => nomatch z) (fun z => nomatch z)
theorem op_mod_ok (X : Cx) : ∃ r, OpR X (binaryOp .Mod) r ∧ BinOk X.K .mod r :=
  bin_only op_mod (fun i j k e => by
    unfold binI at e
    simp only at e
    split at e
    · rename_i h
      cases e
      exact ⟨of_decide_eq_true h, rfl⟩
    · cases e) fun x y z e => binD_ints e (fun z => nomatch z) (fun z => nomatch z)
theorem powOk_of {i j : Int} (h : powOk i j = true) : CPow i j := of_decide_eq_true (p := 0 ≤ j ∧ j ≤ 1000000 ∧ i.natAbs < 18446744073709551616) h
theorem op_pow_ok (X : Cx) : ∃ r, OpR X (binaryOp .Pow) r ∧ BinOk X.K .pow r :=
  bin_only op_pow (fun i j k e => by
    unfold binI at e
    simp only at e
    split at e
    · rename_i h
      cases e
      exact ⟨powOk_of h, rfl⟩
    · cases e) fun x y z e => binD_ints e (fun z => nomatch z) (fun z => nomatch z)
theorem op_shl_ok (X : Cx) : ∃ r, OpR X (binaryOp .LShift) r ∧ BinOk X.K .shl r :=
  bin_only op_shl (fun i j k e => by
    unfold binI at e
    simp only at e
    split at e
    · rename_i h
      cases e
      exact ⟨powOk_of h, rfl⟩
    · cases e) fun x y z e => binD_ints e (fun z => nomatch z) (fun z => nomatch z)
theorem op_shr_ok (X : Cx) : ∃ r, OpR X (binaryOp .RShift) r ∧ BinOk X.K .shr r :=
  bin_only op_shr (fun i j k e => by
    unfold binI at e
    simp only at e
    split at e
    · rename_i h
      cases e
      exact ⟨of_decide_eq_true h, rfl⟩
    · cases e) fun x y z e => binD_ints e (fun z => nomatch z) (fun z => nomatch z)
theorem op_add_ok (X : Cx) : ∃ r, OpR X (binaryOp .Add) r ∧ BinOk X.K .add r := by
  refine ⟨_, op_add.or (op_add_str.or op_cat), fun x y z v w R H E σ fp Q e ok q1 q2 k => ?_⟩
  have e0 := e
  unfold binD at e
  split at e
  · rename_i i j ex ey
    obtain ⟨rfl, rfl, n, en, rfl⟩ := bin_ints e0 ok.sub q1 q2 ex ey
    unfold binI at en
    cases en
    exact .inl ⟨i, j, rfl, rfl, fin_int ok k⟩
  · rename_i a b ex ey
    simp only at e
    split at e
    · rename_i h
      cases e
      rw [res_str ok.sub q1 ex, res_str ok.sub q2 ey]
      exact .inr (.inl ⟨a, b, rfl, rfl, ln_le (of_decide_eq_true h), fin_str ok k⟩)
    · cases e
  · rename_i xs ys ex ey
    simp only at e
    split at e
    · rename_i h
      cases e
      simp only [Bool.and_eq_true, decide_eq_true_eq] at h
      obtain ⟨⟨h1, h2⟩, h3⟩ := h
      obtain ⟨a, vs, rfl, g1, g2, _⟩ := res_list ok.sub q1 ex
      obtain ⟨b, ws, rfl, f1, f2, _⟩ := res_list ok.sub q2 ey
      have l1 := (g2 h1).length
      have l2 := (f2 h2).length
      exact .inr (.inr ⟨a, b, vs, ws, rfl, rfl, g1, f1, ln_le (by omega), fun p hp => fin_list ok ((g2 h1).append (f2 h2)) hp k⟩)
    · cases e
  · cases e
  · cases e
theorem rep_rp {K : PySem.W.Frag} {R : Hp} {ds : List D} {vs : List V} (q : RpA K R ds vs) : ∀ n : Nat, RpA K R (List.replicate n ds).flatten (List.replicate n vs).flatten
  | 0 => .nil
  | n + 1 => by
    rw [List.replicate_succ, List.replicate_succ, List.flatten_cons, List.flatten_cons]
    exact q.append (rep_rp q n)
theorem op_mul_ok (X : Cx) : ∃ r, OpR X (binaryOp .Mult) r ∧ BinOk X.K .mul r := by
  refine ⟨_, op_mul.or (op_mulW.or op_rep), fun x y z v w R H E σ fp Q e ok q1 q2 k => ?_⟩
  have e0 := e
  unfold binD at e
  split at e
  · rename_i i j ex ey
    obtain ⟨rfl, rfl, n, en, rfl⟩ := bin_ints e0 ok.sub q1 q2 ex ey
    unfold binI at en
    simp only at en
    split at en
    · rename_i h
      cases en
      unfold mulOk at h
      simp only [Bool.or_eq_true, decide_eq_true_eq] at h
      rcases h with (h | h) | h
      · exact .inl ⟨i, j, rfl, rfl, .inl h, fin_int ok k⟩
      · exact .inl ⟨i, j, rfl, rfl, .inr h, fin_int ok k⟩
      · exact .inr (.inl ⟨i, j, rfl, rfl, h, fin_int ok k⟩)
    · cases en
  · cases e
  · cases e
  · rename_i xs n ex ey
    simp only at e
    split at e
    · rename_i h
      cases e
      simp only [Bool.and_eq_true, decide_eq_true_eq] at h
      obtain ⟨h1, h2, h3, h4⟩ := h
      obtain ⟨a, vs, rfl, g1, g2, _⟩ := res_list ok.sub q1 ex
      rw [res_int ok.sub q2 ey]
      have l1 := (g2 h1).length
      exact .inr (.inr ⟨a, n, vs, rfl, rfl, g1, h2, h3, ln_le (by rw [← l1]; exact h4), fun p hp => fin_list ok (rep_rp (g2 h1) n.toNat) hp k⟩)
    · cases e
  · cases e
theorem J_neg {a : Expr} {xa : Ex} (ha : JE G C a xa) : JE G C (.UnaryOp .USub a pos) (.neg xa) := fun X g => by
  obtain ⟨ta, pa, ja⟩ := ha X g
  refine ⟨_, pe_un un_neg pa, fun E E' z σ R H fp Q he ok k => ?_⟩
  cases ea : ev G xa E with
  | none => simp only [ev, ea] at he; cases he
  | some p =>
    obtain ⟨x, E1⟩ := p
    simp only [ev, ea] at he
    split at he
    · rename_i i ei
      cases he
      show ta σ H fun x H1 => rU (fun i => .int (-i)) x H1 Q
      refine one ja ea ok fun v R1 H1 fp1 ok1 g1 q1 p => ?_
      rw [res_int ok1.sub q1 ei]
      exact ⟨i, rfl, fin_int ok1 fun u R' H' fr a l => k u R' H' fp1 fr (a.after g1) fun hp => (p hp).trans l⟩
    · cases he
end
end VI

/-! VI, part 5: comparisons, tests, displays, subscripts. -/
namespace VI
open PySem L2
section
variable {G : Gm} {X : Cx} {C : Ct} {pos : Pos}

/-! ### comparisons -/
def CmpOk (K : PySem.W.Frag) (o : Cop) (r : R2) : Prop := ∀ (x y : SV) (z : Bool) (v w : V) (R H : Hp) (E : Env) (σ : St) (fp : Nat → List Addr) (Q : VK), cmpD o x y = some z → EnvOk K R H E σ fp → SvOk K R H x.settle v [] → SvOk K R H y.settle w [] →
  Q (.bl z) H → r v w H Q
theorem ev_cmp {o : Cop} {a b : Ex} {E E' : Env} {r : SV} (h : ev G (.cmp o a b) E = some (r, E')) : ∃ x E1 y z, ev G a E = some (x, E1) ∧ ev G b E1 = some (y, E') ∧ (x.stable || b.pure) = true ∧ cmpD o x y = some z ∧ r = .fz (.bl z) := by
  cases ha : ev G a E with
  | none => simp only [ev, ha] at h; cases h
  | some p =>
    obtain ⟨x, E1⟩ := p
    cases hb : ev G b E1 with
    | none => simp only [ev, ha, hb] at h; cases h
    | some q =>
      obtain ⟨y, E2⟩ := q
      simp only [ev, ha, hb] at h
      split at h
      · cases hz : cmpD o x y with
        | none => rw [hz] at h; cases h
        | some z => rw [hz] at h; cases h; exact ⟨x, E1, y, z, rfl, hb, by assumption, hz, rfl⟩
      · cases h
theorem J_cmp {op : CmpOp} {o : Cop} {a b : Expr} {xa xb : Ex} (hr : ∀ X, Good G C X → ∃ r, OpR X (compareOp op) r ∧ CmpOk X.K o r) (hm : behindInMarks op b = false) (ha : JE G C a xa) (hb : JE G C b xb) : JE G C (.Compare a [op] [b] pos) (.cmp o xa xb) := fun X g => by
  obtain ⟨ta, pa, ja⟩ := ha X g
  obtain ⟨tb, pb, jb⟩ := hb X g
  obtain ⟨r, pr, br⟩ := hr X g
  refine ⟨_, pe_cmpR pr pa pb hm, fun E E' z σ R H fp Q he ok k => ?_⟩
  obtain ⟨x, E1, y, z, ea, eb, st, hz, rfl⟩ := ev_cmp he
  exact two ja jb ea eb st ok fun v w R1 H1 fp1 ok1 g1 q1 q2 p => br x y z v w R1 H1 E' σ fp1 Q hz ok1 q1 q2 (fin_bl ok1 fun u R' H' fr a l => k u R' H' fp1 fr (a.after g1) fun hp => (p hp).trans l)
theorem cmp_ints {K : PySem.W.Frag} {o : Cop} {x y : SV} {z : Bool} {v w : V} {R H : Hp} (h : (match x.d, y.d with | .int i, .int j => cmpI o i j | _, _ => none) = some z) (hs : Le R H) (q1 : SvOk K R H x.settle v []) (q2 : SvOk K R H y.settle w []) :
    ∃ i j, v = .int i ∧ w = .int j ∧ cmpI o i j = some z := by
  split at h
  · rename_i i j ex ey
    exact ⟨i, j, res_int hs q1 ex, res_int hs q2 ey, h⟩
  · cases h
theorem cmp_lt_ok (X : Cx) : ∃ r, OpR X (compareOp .Lt) r ∧ CmpOk X.K .lt r := by
  refine ⟨_, op_lt, fun x y z v w R H E σ fp Q e ok q1 q2 k => ?_⟩
  unfold cmpD at e
  obtain ⟨i, j, rfl, rfl, h⟩ := cmp_ints e ok.sub q1 q2
  unfold cmpI at h; cases h
  exact ⟨i, j, rfl, rfl, k⟩
theorem cmp_le_ok (X : Cx) : ∃ r, OpR X (compareOp .LtE) r ∧ CmpOk X.K .le r := by
  refine ⟨_, op_le, fun x y z v w R H E σ fp Q e ok q1 q2 k => ?_⟩
  unfold cmpD at e
  obtain ⟨i, j, rfl, rfl, h⟩ := cmp_ints e ok.sub q1 q2
  unfold cmpI at h; cases h
  exact ⟨i, j, rfl, rfl, k⟩
theorem cmp_gt_ok (X : Cx) : ∃ r, OpR X (compareOp .Gt) r ∧ CmpOk X.K .gt r := by
  refine ⟨_, op_gt, fun x y z v w R H E σ fp Q e ok q1 q2 k => ?_⟩
  unfold cmpD at e
  obtain ⟨i, j, rfl, rfl, h⟩ := cmp_ints e ok.sub q1 q2
  unfold cmpI at h; cases h
  exact ⟨i, j, rfl, rfl, k⟩
theorem cmp_ge_ok (X : Cx) : ∃ r, OpR X (compareOp .GtE) r ∧ CmpOk X.K .ge r := by
  refine ⟨_, op_ge, fun x y z v w R H E σ fp Q e ok q1 q2 k => ?_⟩
  unfold cmpD at e
  obtain ⟨i, j, rfl, rfl, h⟩ := cmp_ints e ok.sub q1 q2
  unfold cmpI at h; cases h
  exact ⟨i, j, rfl, rfl, k⟩
theorem res_dp {K : PySem.W.Frag} {R H : Hp} {r : SV} {v : V} (hs : Le R H) (q : SvOk K R H r.settle v []) (o : r.d.okE = true) : Dp K H v r.d.toP := by
  have h := q.deep hs
  rw [settle_d] at h
  exact h.dpOk o
theorem cmp_eq_ok (X : Cx) (hu : X.A.units + 64 < cLine) : ∃ r, OpR X (compareOp .Eq) r ∧ CmpOk X.K .eq r := by
  refine ⟨_, op_eqD hu, fun x y z v w R H E σ fp Q e ok q1 q2 k => ?_⟩
  unfold cmpD at e
  simp only at e
  split at e
  · rename_i h
    cases e
    obtain ⟨h1, h2⟩ := Bool.and_eq_true_iff.mp h
    exact ⟨_, _, res_dp ok.sub q1 h1, res_dp ok.sub q2 h2, h1, h2, k⟩
  · cases e
theorem cmp_ne_ok (X : Cx) (hu : X.A.units + 64 < cLine) : ∃ r, OpR X (compareOp .NotEq) r ∧ CmpOk X.K .ne r := by
  refine ⟨_, op_neD hu, fun x y z v w R H E σ fp Q e ok q1 q2 k => ?_⟩
  unfold cmpD at e
  simp only at e
  split at e
  · rename_i h
    cases e
    obtain ⟨h1, h2⟩ := Bool.and_eq_true_iff.mp h
    exact ⟨_, _, res_dp ok.sub q1 h1, res_dp ok.sub q2 h2, h1, h2, k⟩
  · cases e
theorem rp_non {K : PySem.W.Frag} {R : Hp} {d : D} {v : V} (q : Rp K R d v) : decide (v = .non) = isNon d := by
  cases d <;> unfold Rp at q
  · subst q; rfl
  · subst q; rfl
  · subst q; rfl
  · subst q; rfl
  all_goals obtain ⟨a, xs, rfl, _⟩ := q; rfl
theorem bl_dec (a b : Bool) : (a == b) = decide (a = b) := by cases a <;> cases b <;> rfl
theorem cmp_is_ok (X : Cx) : ∃ r, OpR X (compareOp .Is) r ∧ CmpOk X.K .is r := by
  refine ⟨_, op_isN.or op_isBl, fun x y z v w R H E σ fp Q e ok q1 q2 k => ?_⟩
  unfold cmpD at e
  simp only at e
  split at e
  · rename_i ey
    cases e
    refine .inl ⟨res_non ok.sub q2 ey, ?_⟩
    have h := q1.deep ok.sub
    rw [settle_d] at h
    rw [rp_non h]; exact k
  · rename_i b ey
    split at e
    · rename_i c ex
      cases e
      exact .inr ⟨c, b, res_bl ok.sub q1 ex, res_bl ok.sub q2 ey, by rw [← bl_dec]; exact k⟩
    · cases e
  · cases e
theorem cmp_isnot_ok (X : Cx) : ∃ r, OpR X (compareOp .IsNot) r ∧ CmpOk X.K .isnot r := by
  refine ⟨_, op_notN.or op_notBl, fun x y z v w R H E σ fp Q e ok q1 q2 k => ?_⟩
  unfold cmpD at e
  simp only at e
  split at e
  · rename_i ey
    cases e
    refine .inl ⟨res_non ok.sub q2 ey, ?_⟩
    have h := q1.deep ok.sub
    rw [settle_d] at h
    rw [rp_non h]; exact k
  · rename_i b ey
    split at e
    · rename_i c ex
      cases e
      exact .inr ⟨c, b, res_bl ok.sub q1 ex, res_bl ok.sub q2 ey, by rw [← bl_dec]; exact k⟩
    · cases e
  · cases e
theorem eqV_imm {K : PySem.W.Frag} {R S : Hp} {d e : D} {v w : V} (hd : d.imm = true) (he : e.imm = true) (q : Rp K R d v) (p : Rp K S e w) : eqV v w = D.eqv d e := by
  cases d <;> cases hd <;> cases e <;> cases he <;> (unfold Rp at q p; subst q; subst p; unfold D.eqv D.toP PyData.eqv; rfl)
theorem flat_imm {K : PySem.W.Frag} {R : Hp} {d : D} {v : V} (hd : d.imm = true) (q : Rp K R d v) : flatV v = true := by
  cases d <;> cases hd <;> (unfold Rp at q; subst q; rfl)
theorem flats_imm {K : PySem.W.Frag} {R : Hp} : ∀ {ds : List D} {vs : List V}, ds.all D.imm = true → RpA K R ds vs → vs.all flatV = true
  | [], vs, _, q => by
    have q' : vs = [] := by unfold RpA at q; exact q
    subst q'; rfl
  | d :: ds, vs, h, q => by
    obtain ⟨v, r, rfl, q1, q2⟩ := q.uncons
    rw [List.all_cons, Bool.and_eq_true] at h ⊢
    exact ⟨flat_imm h.1 q1, flats_imm h.2 q2⟩
theorem inV_imm {K : PySem.W.Frag} {R S : Hp} {e : D} {w : V} (he : e.imm = true) (p : Rp K S e w) : ∀ {ds : List D} {vs : List V}, ds.all D.imm = true → RpA K R ds vs → inV w vs = memD e ds
  | [], vs, _, q => by
    have q' : vs = [] := by unfold RpA at q; exact q
    subst q'; rfl
  | d :: ds, vs, h, q => by
    obtain ⟨v, r, rfl, q1, q2⟩ := q.uncons
    rw [List.all_cons, Bool.and_eq_true] at h
    have ih := inV_imm he p h.2 q2
    unfold inV memD at *
    rw [List.any_cons, List.any_cons, ih, eqV_imm h.1 he q1 p]
theorem any_toPs (e : D) : ∀ ds : List D, ((D.toPs ds).any fun z => PyData.eqv z e.toP) = memD e ds
  | [] => by unfold D.toPs memD; rfl
  | d :: ds => by
    have ih := any_toPs e ds
    unfold memD at *
    unfold D.toPs
    rw [List.any_cons, List.any_cons, ih]
    rfl
theorem cmp_in_ok (X : Cx) (hu : X.A.units + 65 < cLine) : ∃ r, OpR X (compareOp .In) r ∧ CmpOk X.K .inn r := by
  refine ⟨_, (op_inD hu).or op_in_seq, fun x y z v w R H E σ fp Q e ok q1 q2 k => ?_⟩
  unfold cmpD at e
  simp only at e
  split at e
  · rename_i ys ey
    split at e
    · rename_i h
      cases e
      obtain ⟨h1, h2⟩ := Bool.and_eq_true_iff.mp h
      have p2 := res_dp ok.sub q2 h2
      rw [ey] at p2 h2
      unfold D.okE at h2
      unfold D.toP at p2 h2
      exact .inl ⟨_, _, res_dp ok.sub q1 h1, p2, h1, h2, by rw [any_toPs]; exact k⟩
    · cases e
  · rename_i ys ey
    split at e
    · rename_i h
      cases e
      obtain ⟨h1, h2⟩ := Bool.and_eq_true_iff.mp h
      obtain ⟨a, vs, rfl, g1, g2⟩ := res_tup q2 ey
      have d1 := q1.deep ok.sub
      rw [settle_d] at d1
      exact .inr ⟨a, vs, rfl, .inr (ok.sub.sqt g1), flat_imm h1 d1, flats_imm h2 g2, by
        rw [if_neg Bool.false_ne_true, inV_imm h1 d1 h2 g2]; exact k⟩
    · cases e
  · cases e
theorem cmp_notin_ok (X : Cx) (hu : X.A.units + 65 < cLine) : ∃ r, OpR X (compareOp .NotIn) r ∧ CmpOk X.K .notin r := by
  refine ⟨_, (op_notInD hu).or op_notIn_seq, fun x y z v w R H E σ fp Q e ok q1 q2 k => ?_⟩
  unfold cmpD at e
  simp only at e
  split at e
  · rename_i ys ey
    split at e
    · rename_i h
      cases e
      obtain ⟨h1, h2⟩ := Bool.and_eq_true_iff.mp h
      have p2 := res_dp ok.sub q2 h2
      rw [ey] at p2 h2
      unfold D.okE at h2
      unfold D.toP at p2 h2
      exact .inl ⟨_, _, res_dp ok.sub q1 h1, p2, h1, h2, by rw [any_toPs]; exact k⟩
    · cases e
  · rename_i ys ey
    split at e
    · rename_i h
      cases e
      obtain ⟨h1, h2⟩ := Bool.and_eq_true_iff.mp h
      obtain ⟨a, vs, rfl, g1, g2⟩ := res_tup q2 ey
      have d1 := q1.deep ok.sub
      rw [settle_d] at d1
      exact .inr ⟨a, vs, rfl, .inr (ok.sub.sqt g1), flat_imm h1 d1, flats_imm h2 g2, by
        rw [if_pos rfl, inV_imm h1 d1 h2 g2]; exact k⟩
    · cases e
  · cases e
theorem ev_chain {o p : Cop} {a b c : Ex} {E E' : Env} {r : SV} (h : ev G (.chain o p a b c) E = some (r, E')) : ∃ x E1 y E2 z, ev G a E = some (x, E1) ∧ ev G b E1 = some (y, E2) ∧ (x.stable || b.pure) = true ∧ (y.stable || c.pure) = true ∧ cmpD o x y = some z ∧
    ((z = false ∧ r = .fz (.bl false) ∧ E' = E2) ∨ (z = true ∧ ∃ u s, ev G c E2 = some (u, E') ∧ cmpD p y u = some s ∧ r = .fz (.bl s))) := by
  cases ha : ev G a E with
  | none => simp only [ev, ha] at h; cases h
  | some q1 =>
    obtain ⟨x, E1⟩ := q1
    cases hb : ev G b E1 with
    | none => simp only [ev, ha, hb] at h; cases h
    | some q2 =>
      obtain ⟨y, E2⟩ := q2
      simp only [ev, ha, hb] at h
      split at h
      · rename_i st
        obtain ⟨s1, s2⟩ := Bool.and_eq_true_iff.mp st
        cases hz : cmpD o x y with
        | none => rw [hz] at h; cases h
        | some z =>
          rw [hz] at h
          cases z with
          | false => cases h; exact ⟨x, E1, y, _, false, rfl, hb, s1, s2, hz, .inl ⟨rfl, rfl, rfl⟩⟩
          | true =>
            simp only at h
            cases hc : ev G c E2 with
            | none => rw [hc] at h; cases h
            | some q3 =>
              obtain ⟨u, E3⟩ := q3
              rw [hc] at h
              simp only at h
              cases hs : cmpD p y u with
              | none => rw [hs] at h; cases h
              | some s => rw [hs] at h; cases h; exact ⟨x, E1, y, E2, true, rfl, hb, s1, s2, hz, .inr ⟨rfl, u, s, hc, hs, rfl⟩⟩
      · cases h
theorem J_chain {op op' : CmpOp} {o p : Cop} {a b c : Expr} {xa xb xc : Ex} (hr : ∀ X, Good G C X → ∃ r, OpR X (compareOp op) r ∧ CmpOk X.K o r) (hr' : ∀ X, Good G C X → ∃ r, OpR X (compareOp op') r ∧ CmpOk X.K p r) (hm : lastMarks [op, op'] [b, c] = false)
    (ha : JE G C a xa) (hb : JE G C b xb) (hc : JE G C c xc) : JE G C (.Compare a [op, op'] [b, c] pos) (.chain o p xa xb xc) := fun X g => by
  obtain ⟨ta, pa, ja⟩ := ha X g
  obtain ⟨tb, pb, jb⟩ := hb X g
  obtain ⟨tc, pc, jc⟩ := hc X g
  obtain ⟨r, pr, br⟩ := hr X g
  obtain ⟨r', pr', br'⟩ := hr' X g
  refine ⟨_, pe_chain pr pr' pa pb pc hm, fun E E' z σ R H fp Q he ok k => ?_⟩
  obtain ⟨x, E1, y, E2, z, ea, eb, st, st', hz, h⟩ := ev_chain he
  refine two ja jb ea eb st ok fun v w R1 H1 fp1 ok1 g1 q1 q2 pp => br x y z v w R1 H1 _ σ fp1 _ hz ok1 q1 q2 ⟨z, rfl, ?_⟩
  rcases h with ⟨rfl, rfl, rfl⟩ | ⟨rfl, u, s, hc', hs, rfl⟩
  · rw [if_neg Bool.false_ne_true]
    exact fin_bl ok1 fun u R' H' fr a l => k u R' H' fp1 fr (a.after g1) fun hp => by
      have hp' : (xa.pure && xb.pure && xc.pure) = true := hp
      exact (pp (Bool.and_eq_true_iff.mp hp').1).trans l
  · rw [if_pos rfl]
    refine one jc hc' ok1 fun t R2 H2 fp2 ok2 g2 q3 p3 => ?_
    have q2' := q2.carry (settle_now y) g2 (by
      rcases Bool.or_eq_true_iff.mp st' with z | z
      · exact .inl (by rw [settle_stable]; exact z)
      · exact .inr (p3 z))
    exact br' y u s w t R2 H2 E' σ fp2 Q hs ok2 q2' q3 (fin_bl ok2 fun u R' H' fr a l => k u R' H' fp2 fr (a.after (g1.trans g2)) fun hp => by
      have hp' : (xa.pure && xb.pure && xc.pure) = true := hp
      obtain ⟨z1, z2⟩ := Bool.and_eq_true_iff.mp hp'
      exact ((pp z1).trans (p3 z2)).trans l)

/-! ### tests -/
def JTt (G : Gm) (X : Cx) (x : Ex) (t : TT) : Prop := ∀ (E E' : Env) (b : Bool) (σ : St) (R H : Hp) (fp : Nat → List Addr) (Q : Bool → Hp → Prop), evt G (.so x) E = some (b, E') → EnvOk X.K R H E σ fp →
  (∀ R' H' fp', EnvOk X.K R' H' E' σ fp' → Goes R H fp R' H' fp' → (x.pure = true → Le H H') → Q b H') → t σ H Q
def JT (G : Gm) (C : Ct) (e : Expr) (x : Ex) : Prop := ∀ X, Good G C X → ∃ t, PT X e t ∧ JTt G X x t
def JW (G : Gm) (C : Ct) (e : Expr) (x : Ex) : Prop := ∀ X, Good G C X → ∃ t, PW X e t ∧ JTt G X x t
theorem JW.t {e : Expr} {x : Ex} (h : JW G C e x) : JT G C e x := fun X g => by
  obtain ⟨t, p, j⟩ := h X g
  exact ⟨t, p.pt, j⟩
theorem evt_so {a : Ex} {E E' : Env} {b : Bool} (h : evt G (.so a) E = some (b, E')) : ∃ x, ev G a E = some (x, E') ∧ truth x.d = some b := by
  cases ha : ev G a E with
  | none => simp only [evt, ha] at h; cases h
  | some p =>
    obtain ⟨x, E1⟩ := p
    simp only [evt, ha] at h
    cases ht : truth x.d with
    | none => rw [ht] at h; cases h
    | some c => rw [ht] at h; cases h; exact ⟨x, rfl, ht⟩
theorem evt_mk {a : Ex} {E E' : Env} {b : Bool} {x : SV} (h : ev G a E = some (x, E')) (ht : truth x.d = some b) : evt G (.so a) E = some (b, E') := by
  simp only [evt, h, ht]; rfl
def plainT : Expr → Bool
  | .UnaryOp .Not _ _ => false
  | .BoolOp _ _ _ => false
  | .IfExp _ _ _ _ => false
  | .Compare _ _ _ _ => false
  | _ => true
theorem plainT_is {e : Expr} {env : PySem.Env} (h : plainT e = true) (whole : Sem Value) : isTrue e env whole = (do let v ← whole; standAt e.pos; holding [v] (truthy v)) := by
  cases e <;> first | rfl | cases h | skip
  rename_i op x p
  cases op <;> first | rfl | cases h
theorem empty_len {α β : Type} {as : List α} {bs : List β} (l : as.length = bs.length) : (!as.isEmpty) = !bs.isEmpty := by
  cases as <;> cases bs <;> first | rfl | (simp at l)
theorem truV_of {K : PySem.W.Frag} {R H : Hp} {r : SV} {v : V} {b : Bool} (hs : Le R H) (q : SvOk K R H r.settle v []) (e : truth r.d = some b) : TruV K v H b := by
  cases h : r.d <;> rw [h] at e <;> simp only [truth, Option.some.injEq, reduceCtorEq] at e
  · subst e; rw [res_non hs q h]; rfl
  · subst e; rw [res_bl hs q h]; rfl
  · subst e; rw [res_int hs q h]; rfl
  · split at e
    · rename_i l
      cases e; rw [res_str hs q h]
      exact ⟨ln_le (of_decide_eq_true l), rfl⟩
    · cases e
  · subst e
    obtain ⟨a, xs, rfl, e2, _, e4⟩ := res_list hs q h
    refine .inl ⟨xs, SqL.of e2, ?_⟩
    exact empty_len e4.length
  · subst e
    obtain ⟨a, xs, rfl, e2, e4⟩ := res_tup q h
    refine .inr (.inl ⟨xs, hs.sqt e2, ?_⟩)
    exact empty_len e4.length
theorem JT_plain {e : Expr} {x : Ex} (h : JE G C e x) (hp : plainT e = true) : JT G C e x := fun X g => by
  obtain ⟨t, p, j⟩ := h X g
  refine ⟨_, pt_truth p (plainT_is hp), fun E E' b σ R H fp Q he ok k => ?_⟩
  obtain ⟨x, ea, ht⟩ := evt_so he
  show t σ H fun x H' => ∃ k, TruV X.K x H' k ∧ Q k H'
  exact one j ea ok fun v R1 H1 fp1 ok1 g1 q1 p1 => ⟨b, truV_of ok1.sub q1 ht, k R1 H1 fp1 ok1 g1 p1⟩
theorem JT_cmp {op : CmpOp} {o : Cop} {a b : Expr} {xa xb : Ex} (hr : ∀ X, Good G C X → ∃ r, OpR X (compareOp op) r ∧ CmpOk X.K o r) (hm : behindInMarks op b = false) (ha : JE G C a xa) (hb : JE G C b xb) : JT G C (.Compare a [op] [b] pos) (.cmp o xa xb) := fun X g => by
  obtain ⟨ta, pa, ja⟩ := ha X g
  obtain ⟨tb, pb, jb⟩ := hb X g
  obtain ⟨r, pr, br⟩ := hr X g
  refine ⟨_, pt_cmpR pr pa pb hm, fun E E' z σ R H fp Q he ok k => ?_⟩
  obtain ⟨x0, h0, t0⟩ := evt_so he
  obtain ⟨x, E1, y, z', ea, eb, st, hz, rfl⟩ := ev_cmp h0
  cases t0
  exact two (Kn := fun v w H1 => r v w H1 fun x H' => ∃ k, x = .bl k ∧ Q k H') ja jb ea eb st ok fun v w R1 H1 fp1 ok1 g1 q1 q2 p => br x y z v w R1 H1 E' σ fp1 _ hz ok1 q1 q2 ⟨z, rfl, k R1 H1 fp1 ok1 g1 p⟩
theorem JT_chain {op op' : CmpOp} {o p : Cop} {a b c : Expr} {xa xb xc : Ex} (hr : ∀ X, Good G C X → ∃ r, OpR X (compareOp op) r ∧ CmpOk X.K o r) (hr' : ∀ X, Good G C X → ∃ r, OpR X (compareOp op') r ∧ CmpOk X.K p r) (hm : lastMarks [op, op'] [b, c] = false)
    (ha : JE G C a xa) (hb : JE G C b xb) (hc : JE G C c xc) : JT G C (.Compare a [op, op'] [b, c] pos) (.chain o p xa xb xc) := fun X g => by
  obtain ⟨ta, pa, ja⟩ := ha X g
  obtain ⟨tb, pb, jb⟩ := hb X g
  obtain ⟨tc, pc, jc⟩ := hc X g
  obtain ⟨r, pr, br⟩ := hr X g
  obtain ⟨r', pr', br'⟩ := hr' X g
  refine ⟨_, pt_chain pr pr' pa pb pc hm, fun E E' z σ R H fp Q he ok k => ?_⟩
  obtain ⟨x0, h0, t0⟩ := evt_so he
  obtain ⟨x, E1, y, E2, z, ea, eb, st, st', hz, h⟩ := ev_chain h0
  refine two (Kn := fun v w H1 => r v w H1 fun z H3 => ∃ k, z = V.bl k ∧ (if k = true then tc σ H3 fun w' H4 => r' w w' H4 (fun x H' => ∃ k, x = V.bl k ∧ Q k H') else ∃ k, V.bl false = .bl k ∧ Q k H3)) ja jb ea eb st ok fun v w R1 H1 fp1 ok1 g1 q1 q2 pp => br x y z v w R1 H1 _ σ fp1 _ hz ok1 q1 q2 ⟨z, rfl, ?_⟩
  rcases h with ⟨rfl, rfl, rfl⟩ | ⟨rfl, u, s, hc', hs, rfl⟩
  · rw [if_neg Bool.false_ne_true]
    cases t0
    exact ⟨false, rfl, k R1 H1 fp1 ok1 g1 fun hp => by
      have hp' : (xa.pure && xb.pure && xc.pure) = true := hp
      exact pp (Bool.and_eq_true_iff.mp hp').1⟩
  · rw [if_pos rfl]
    cases t0
    refine one jc hc' ok1 fun t R2 H2 fp2 ok2 g2 q3 p3 => ?_
    have q2' := q2.carry (settle_now y) g2 (by
      rcases Bool.or_eq_true_iff.mp st' with z | z
      · exact .inl (by rw [settle_stable]; exact z)
      · exact .inr (p3 z))
    exact br' y u _ w t R2 H2 E' σ fp2 _ hs ok2 q2' q3 ⟨_, rfl, k R2 H2 fp2 ok2 (g1.trans g2) fun hp => by
      have hp' : (xa.pure && xb.pure && xc.pure) = true := hp
      obtain ⟨z1, z2⟩ := Bool.and_eq_true_iff.mp hp'
      exact (pp z1).trans (p3 z2)⟩
theorem ev_and {a b : Ex} {E E' : Env} {r : SV} (h : ev G (.and a b) E = some (r, E')) : ∃ x E1, ev G a E = some (x, E1) ∧ ((x.d = .bl true ∧ ev G b E1 = some (r, E')) ∨ (x.d = .bl false ∧ r = .fz (.bl false) ∧ E' = E1)) := by
  cases ha : ev G a E with
  | none => simp only [ev, ha] at h; cases h
  | some p =>
    obtain ⟨x, E1⟩ := p
    simp only [ev, ha] at h
    split at h
    · exact ⟨x, E1, rfl, .inl ⟨by assumption, h⟩⟩
    · cases h; exact ⟨x, _, rfl, .inr ⟨by assumption, rfl, rfl⟩⟩
    · cases h
theorem ev_or {a b : Ex} {E E' : Env} {r : SV} (h : ev G (.or a b) E = some (r, E')) : ∃ x E1, ev G a E = some (x, E1) ∧ ((x.d = .bl false ∧ ev G b E1 = some (r, E')) ∨ (x.d = .bl true ∧ r = .fz (.bl true) ∧ E' = E1)) := by
  cases ha : ev G a E with
  | none => simp only [ev, ha] at h; cases h
  | some p =>
    obtain ⟨x, E1⟩ := p
    simp only [ev, ha] at h
    split at h
    · exact ⟨x, E1, rfl, .inl ⟨by assumption, h⟩⟩
    · cases h; exact ⟨x, _, rfl, .inr ⟨by assumption, rfl, rfl⟩⟩
    · cases h
theorem pand {a b : Ex} {H H' H'' : Hp} (h : (a.pure && b.pure) = true) (h1 : a.pure = true → Le H H') (h2 : b.pure = true → Le H' H'') : Le H H'' := by
  obtain ⟨z1, z2⟩ := Bool.and_eq_true_iff.mp h
  exact (h1 z1).trans (h2 z2)
theorem J_one {a : Expr} {op} {xa : Ex} (ha : JE G C a xa) : JE G C (.BoolOp op [a] pos) xa := fun X g => by
  obtain ⟨t, p, j⟩ := ha X g
  exact ⟨t, pe_one p, j⟩
theorem J_and {a b : Expr} {rest : List Expr} {xa xb : Ex} (ha : JE G C a xa) (hb : JE G C (.BoolOp .And (b :: rest) pos) xb) : JE G C (.BoolOp .And (a :: b :: rest) pos) (.and xa xb) := fun X g => by
  obtain ⟨ta, pa, ja⟩ := ha X g
  obtain ⟨tb, pb, jb⟩ := hb X g
  refine ⟨_, pe_and pa pb, fun E E' z σ R H fp Q he ok k => ?_⟩
  obtain ⟨x, E1, ea, h⟩ := ev_and he
  refine one (Kn := fun x H1 => ∃ c, x = .bl c ∧ if c = true then tb σ H1 Q else Q (.bl false) H1) ja ea ok fun v R1 H1 fp1 ok1 g1 q1 p1 => ?_
  rcases h with ⟨ex, eb⟩ | ⟨ex, rfl, rfl⟩
  · refine ⟨true, res_bl ok1.sub q1 ex, ?_⟩
    rw [if_pos rfl]
    exact jb _ _ _ _ _ _ _ _ eb ok1 fun w R2 H2 fp2 f2 a2 p2 => k w R2 H2 fp2 f2 (a2.after g1) fun hp => pand hp p1 p2
  · refine ⟨false, res_bl ok1.sub q1 ex, ?_⟩
    rw [if_neg Bool.false_ne_true]
    exact fin_bl ok1 fun u R' H' fr a l => k u R' H' fp1 fr (a.after g1) fun hp => (p1 (Bool.and_eq_true_iff.mp hp).1).trans l
theorem J_or {a b : Expr} {rest : List Expr} {xa xb : Ex} (ha : JE G C a xa) (hb : JE G C (.BoolOp .Or (b :: rest) pos) xb) : JE G C (.BoolOp .Or (a :: b :: rest) pos) (.or xa xb) := fun X g => by
  obtain ⟨ta, pa, ja⟩ := ha X g
  obtain ⟨tb, pb, jb⟩ := hb X g
  refine ⟨_, pe_or pa pb, fun E E' z σ R H fp Q he ok k => ?_⟩
  obtain ⟨x, E1, ea, h⟩ := ev_or he
  refine one (Kn := fun x H1 => ∃ c, x = .bl c ∧ if c = true then Q (.bl true) H1 else tb σ H1 Q) ja ea ok fun v R1 H1 fp1 ok1 g1 q1 p1 => ?_
  rcases h with ⟨ex, eb⟩ | ⟨ex, rfl, rfl⟩
  · refine ⟨false, res_bl ok1.sub q1 ex, ?_⟩
    rw [if_neg Bool.false_ne_true]
    exact jb _ _ _ _ _ _ _ _ eb ok1 fun w R2 H2 fp2 f2 a2 p2 => k w R2 H2 fp2 f2 (a2.after g1) fun hp => pand hp p1 p2
  · refine ⟨true, res_bl ok1.sub q1 ex, ?_⟩
    rw [if_pos rfl]
    exact fin_bl ok1 fun u R' H' fr a l => k u R' H' fp1 fr (a.after g1) fun hp => (p1 (Bool.and_eq_true_iff.mp hp).1).trans l
theorem JW_one_and {a : Expr} {xa : Ex} (ha : JT G C a xa) : JW G C (.BoolOp .And [a] pos) xa := fun X g => by
  obtain ⟨t, p, j⟩ := ha X g
  exact ⟨t, pw_and1 p, j⟩
theorem JW_one_or {a : Expr} {xa : Ex} (ha : JT G C a xa) : JW G C (.BoolOp .Or [a] pos) xa := fun X g => by
  obtain ⟨t, p, j⟩ := ha X g
  exact ⟨t, pw_or1 p, j⟩
theorem JW_and {a b : Expr} {rest : List Expr} {xa xb : Ex} (ha : JT G C a xa) (hb : JW G C (.BoolOp .And (b :: rest) pos) xb) : JW G C (.BoolOp .And (a :: b :: rest) pos) (.and xa xb) := fun X g => by
  obtain ⟨ta, pa, ja⟩ := ha X g
  obtain ⟨tb, pb, jb⟩ := hb X g
  refine ⟨_, pw_and pa pb, fun E E' z σ R H fp Q he ok k => ?_⟩
  obtain ⟨x0, h0, t0⟩ := evt_so he
  obtain ⟨x, E1, ea, h⟩ := ev_and h0
  rcases h with ⟨ex, eb⟩ | ⟨ex, rfl, rfl⟩
  · refine ja _ _ _ _ _ _ _ _ (evt_mk ea (by rw [ex]; rfl)) ok fun R1 H1 fp1 ok1 g1 p1 => ?_
    rw [if_pos rfl]
    exact jb _ _ _ _ _ _ _ _ (evt_mk eb t0) ok1 fun R2 H2 fp2 ok2 g2 p2 => k R2 H2 fp2 ok2 (g1.trans g2) fun hp => pand hp p1 p2
  · cases t0
    refine ja _ _ _ _ _ _ _ _ (evt_mk ea (by rw [ex]; rfl)) ok fun R1 H1 fp1 ok1 g1 p1 => ?_
    rw [if_neg Bool.false_ne_true]
    exact k R1 H1 fp1 ok1 g1 fun hp => p1 (Bool.and_eq_true_iff.mp hp).1
theorem JW_or {a b : Expr} {rest : List Expr} {xa xb : Ex} (ha : JT G C a xa) (hb : JW G C (.BoolOp .Or (b :: rest) pos) xb) : JW G C (.BoolOp .Or (a :: b :: rest) pos) (.or xa xb) := fun X g => by
  obtain ⟨ta, pa, ja⟩ := ha X g
  obtain ⟨tb, pb, jb⟩ := hb X g
  refine ⟨_, pw_or pa pb, fun E E' z σ R H fp Q he ok k => ?_⟩
  obtain ⟨x0, h0, t0⟩ := evt_so he
  obtain ⟨x, E1, ea, h⟩ := ev_or h0
  rcases h with ⟨ex, eb⟩ | ⟨ex, rfl, rfl⟩
  · refine ja _ _ _ _ _ _ _ _ (evt_mk ea (by rw [ex]; rfl)) ok fun R1 H1 fp1 ok1 g1 p1 => ?_
    rw [if_neg Bool.false_ne_true]
    exact jb _ _ _ _ _ _ _ _ (evt_mk eb t0) ok1 fun R2 H2 fp2 ok2 g2 p2 => k R2 H2 fp2 ok2 (g1.trans g2) fun hp => pand hp p1 p2
  · cases t0
    refine ja _ _ _ _ _ _ _ _ (evt_mk ea (by rw [ex]; rfl)) ok fun R1 H1 fp1 ok1 g1 p1 => ?_
    rw [if_pos rfl]
    exact k R1 H1 fp1 ok1 g1 fun hp => p1 (Bool.and_eq_true_iff.mp hp).1
theorem ev_not {a : Ex} {E E' : Env} {r : SV} (h : ev G (.not a) E = some (r, E')) : ∃ b, evt G (.so a) E = some (b, E') ∧ r = .fz (.bl (!b)) := by
  cases ha : ev G a E with
  | none => simp only [ev, ha] at h; cases h
  | some p =>
    obtain ⟨x, E1⟩ := p
    simp only [ev, ha] at h
    cases ht : truth x.d with
    | none => rw [ht] at h; cases h
    | some c => rw [ht] at h; cases h; exact ⟨c, evt_mk ha ht, rfl⟩
theorem JT_not {a : Expr} {xa : Ex} (ha : JT G C a xa) : JT G C (.UnaryOp .Not a pos) (.not xa) := fun X g => by
  obtain ⟨ta, pa, ja⟩ := ha X g
  refine ⟨_, pt_not pa, fun E E' z σ R H fp Q he ok k => ?_⟩
  obtain ⟨x0, h0, t0⟩ := evt_so he
  obtain ⟨b, hb, rfl⟩ := ev_not h0
  cases t0
  exact ja _ _ _ _ _ _ _ _ hb ok fun R1 H1 fp1 ok1 g1 p1 => k R1 H1 fp1 ok1 g1 p1
/-- not e, as a value -/
theorem J_not {a : Expr} {xa : Ex} (ha : JE G C a xa) : JE G C (.UnaryOp .Not a pos) (.not xa) := fun X g => by
  obtain ⟨ta, pa, ja⟩ := ha X g
  refine ⟨_, pe_notT pa, fun E E' z σ R H fp Q he ok k => ?_⟩
  obtain ⟨b, hb, rfl⟩ := ev_not he
  obtain ⟨x, ea, ht⟩ := evt_so hb
  show ta σ H fun v H1 => ∃ k, TruV X.K v H1 k ∧ Q (.bl (!k)) H1
  refine one ja ea ok fun v R1 H1 fp1 ok1 g1 q1 p1 => ?_
  exact ⟨b, truV_of ok1.sub q1 ht, fin_bl ok1 fun u R' H' fr a l => k u R' H' fp1 fr (a.after g1) fun hp => (p1 hp).trans l⟩
theorem ev_ite {c a b : Ex} {E E' : Env} {r : SV} (h : ev G (.ite c a b) E = some (r, E')) : ∃ t E1, evt G (.so c) E = some (t, E1) ∧ ev G (if t = true then a else b) E1 = some (r, E') := by
  cases ha : ev G c E with
  | none => simp only [ev, ha] at h; cases h
  | some p =>
    obtain ⟨x, E1⟩ := p
    simp only [ev, ha] at h
    cases ht : truth x.d with
    | none => rw [ht] at h; cases h
    | some c =>
      rw [ht] at h
      refine ⟨c, E1, evt_mk ha ht, ?_⟩
      cases c
      · exact h
      · exact h
theorem J_ite {c a b : Expr} {xc xa xb : Ex} (hc : JT G C c xc) (ha : JE G C a xa) (hb : JE G C b xb) : JE G C (.IfExp c a b pos) (.ite xc xa xb) := fun X g => by
  obtain ⟨tc, pc, jc⟩ := hc X g
  obtain ⟨ta, pa, ja⟩ := ha X g
  obtain ⟨tb, pb, jb⟩ := hb X g
  refine ⟨_, pe_ifExp pc pa pb, fun E E' z σ R H fp Q he ok k => ?_⟩
  obtain ⟨t, E1, h1, h2⟩ := ev_ite he
  refine jc _ _ _ _ _ _ _ _ h1 ok fun R1 H1 fp1 ok1 g1 p1 => ?_
  have pp : ∀ {q : Bool} {H2 : Hp}, (q = true → Le H1 H2) → (xc.pure && xa.pure && xb.pure) = true → (xa.pure = true → xb.pure = true → q = true) → Le H H2 := fun {q H2} l h z => by
    obtain ⟨h12, h3⟩ := Bool.and_eq_true_iff.mp h
    obtain ⟨h1, h2⟩ := Bool.and_eq_true_iff.mp h12
    exact (p1 h1).trans (l (z h2 h3))
  cases t with
  | true =>
    rw [if_pos rfl] at h2 ⊢
    exact ja _ _ _ _ _ _ _ _ h2 ok1 fun w R2 H2 fp2 f2 a2 p2 => k w R2 H2 fp2 f2 (a2.after g1) fun hp => pp p2 hp fun z _ => z
  | false =>
    rw [if_neg Bool.false_ne_true] at h2 ⊢
    exact jb _ _ _ _ _ _ _ _ h2 ok1 fun w R2 H2 fp2 f2 a2 p2 => k w R2 H2 fp2 f2 (a2.after g1) fun hp => pp p2 hp fun _ z => z
theorem pt_ifExp {c a b : Expr} {tc ta tb : TT} (hc : PT X c tc) (ha : PT X a ta) (hb : PT X b tb) : PT X (.IfExp c a b pos) (fun σ H Q => tc σ H fun k H1 => if k = true then ta σ H1 Q else tb σ H1 Q) := by
  refine ⟨fun pins s σ H Q I h => ?_⟩
  refine PyProof.Rows.isTrue_IfExp (thn (hc.run pins s σ H _ I h) fun d s1 ⟨H1, I1, q1⟩ => ?_)
  cases d with
  | true => exact ha.run pins s1 σ H1 Q I1 q1
  | false => exact hb.run pins s1 σ H1 Q I1 q1
theorem JT_ite {c a b : Expr} {xc xa xb : Ex} (hc : JT G C c xc) (ha : JT G C a xa) (hb : JT G C b xb) : JT G C (.IfExp c a b pos) (.ite xc xa xb) := fun X g => by
  obtain ⟨tc, pc, jc⟩ := hc X g
  obtain ⟨ta, pa, ja⟩ := ha X g
  obtain ⟨tb, pb, jb⟩ := hb X g
  refine ⟨_, pt_ifExp pc pa pb, fun E E' z σ R H fp Q he ok k => ?_⟩
  obtain ⟨x0, h0, t0⟩ := evt_so he
  obtain ⟨t, E1, h1, h2⟩ := ev_ite h0
  refine jc _ _ _ _ _ _ _ _ h1 ok fun R1 H1 fp1 ok1 g1 p1 => ?_
  have pp : ∀ {q : Bool} {H2 : Hp}, (q = true → Le H1 H2) → (xc.pure && xa.pure && xb.pure) = true → (xa.pure = true → xb.pure = true → q = true) → Le H H2 := fun {q H2} l h z => by
    obtain ⟨h12, h3⟩ := Bool.and_eq_true_iff.mp h
    obtain ⟨h1, h2⟩ := Bool.and_eq_true_iff.mp h12
    exact (p1 h1).trans (l (z h2 h3))
  cases t with
  | true =>
    rw [if_pos rfl] at h2 ⊢
    exact ja _ _ _ _ _ _ _ _ (evt_mk h2 t0) ok1 fun R2 H2 fp2 ok2 g2 p2 => k R2 H2 fp2 ok2 (g1.trans g2) fun hp => pp p2 hp fun z _ => z
  | false =>
    rw [if_neg Bool.false_ne_true] at h2 ⊢
    exact jb _ _ _ _ _ _ _ _ (evt_mk h2 t0) ok1 fun R2 H2 fp2 ok2 g2 p2 => k R2 H2 fp2 ok2 (g1.trans g2) fun hp => pp p2 hp fun _ z => z
end
end VI

/-! VI, part 6: arguments, displays, subscripts, calls. -/
namespace VI
open PySem L2
section
variable {G : Gm} {X : Cx} {C : Ct} {pos : Pos}

/-! ### arguments -/
def noStar : Expr → Bool
  | .Starred _ _ => false
  | _ => true
theorem noStar_is {e : Expr} (h : noStar e = true) (es : List Expr) (env : PySem.Env) : starEach (e :: es) env = (false, eval e env) :: starEach es env := by
  cases e <;> first | rfl | cases h
theorem noStars_any {p : Pos} {env : PySem.Env} : ∀ {es : List Expr}, es.all noStar = true → (backTo p (starEach es env)).any (·.1) = false
  | [], _ => rfl
  | e :: es, h => by
    rw [List.all_cons, Bool.and_eq_true] at h
    rw [noStar_is h.1]
    have ih := noStars_any (p := p) (env := env) h.2
    unfold backTo at *
    rw [List.map_cons, List.any_cons, ih]
    rfl
def ArgVars (σ : St) : Exs → List V → Prop
  | .cons (.var i) es, v :: vs => σ[i]? = some (some v) ∧ ArgVars σ es vs
  | .cons _ es, _ :: vs => ArgVars σ es vs
  | _, _ => True
def JAt (G : Gm) (X : Cx) (x : Exs) (t : TA) : Prop := ∀ (E E' : Env) (rs : List SV) (σ : St) (R H : Hp) (fp : Nat → List Addr) (Q : List V → Hp → Prop), evs G x E = some (rs, E') → EnvOk X.K R H E σ fp →
  (∀ vs R' H' fp', EnvOk X.K R' H' E' σ fp' → Goes R H fp R' H' fp' → RsOk X.K R' H' rs vs → ArgVars σ x vs → (x.pure = true → Le H H') → Q vs H') → t σ H Q
def JA (G : Gm) (C : Ct) (es : List Expr) (x : Exs) : Prop := ∀ X, Good G C X → ∃ t, PA X es t ∧ JAt G X x t
theorem JA_nil : JA G C [] .nil := fun X g => ⟨_, pa_nil, fun E E' rs σ R H fp Q he ok k => by
  simp only [evs] at he; cases he
  exact k [] R H fp ok (.refl ok) rfl trivial fun _ => Le.refl _⟩
theorem evs_cons {e : Ex} {es : Exs} {E E' : Env} {rs : List SV} (h : evs G (.cons e es) E = some (rs, E')) : ∃ x E1 ts, ev G e E = some (x, E1) ∧ evs G es E1 = some (ts, E') ∧ (x.stable || es.pure) = true ∧ rs = x :: ts := by
  cases ha : ev G e E with
  | none => simp only [evs, ha] at h; cases h
  | some p =>
    obtain ⟨x, E1⟩ := p
    cases hb : evs G es E1 with
    | none => simp only [evs, ha, hb] at h; cases h
    | some q =>
      obtain ⟨ts, E2⟩ := q
      simp only [evs, ha, hb] at h
      split at h
      · cases h; exact ⟨x, E1, ts, rfl, hb, by assumption, rfl⟩
      · cases h
def notVar : Ex → Bool
  | .var _ => false
  | _ => true
theorem argVars_cons {σ : St} {e : Ex} {es : Exs} {v : V} {vs : List V} (h : notVar e = true) (t : ArgVars σ es vs) : ArgVars σ (.cons e es) (v :: vs) := by
  cases e <;> first | exact t | cases h
theorem JA_cons {e : Expr} {es : List Expr} {x : Ex} {xs : Exs} (hs : noStar e = true) (hv : notVar x = true) (h : JE G C e x) (t : JA G C es xs) : JA G C (e :: es) (.cons x xs) := fun X g => by
  obtain ⟨te, pe, je⟩ := h X g
  obtain ⟨ta, pa, ja⟩ := t X g
  refine ⟨_, pa_cons pe pa (noStar_is hs es X.env), fun E E' rs σ R H fp Q he ok k => ?_⟩
  obtain ⟨r, E1, ts, ea, eb, st, rfl⟩ := evs_cons he
  show te σ H fun x H1 => ta σ H1 fun xs H2 => Q (x :: xs) H2
  refine one je ea ok fun v R1 H1 fp1 ok1 g1 q1 p1 => ?_
  refine ja _ _ _ _ _ _ _ _ eb ok1 fun vs R2 H2 fp2 ok2 g2 q2 av p2 => k (v :: vs) R2 H2 fp2 ok2 (g1.trans g2) ⟨v, vs, rfl, q1.carry (settle_now r) g2 ?_, q2⟩ (argVars_cons hv av) fun hp => ?_
  · rcases Bool.or_eq_true_iff.mp st with z | z
    · exact .inl (by rw [settle_stable]; exact z)
    · exact .inr (p2 z)
  · have hp' : (x.pure && xs.pure) = true := hp
    obtain ⟨z1, z2⟩ := Bool.and_eq_true_iff.mp hp'
    exact (p1 z1).trans (p2 z2)
theorem JA_var {y : Str} {p : Pos} {i : Nat} {es : List Expr} {xs : Exs} (hN : C.N[i]? = some y) (hv : visB C.sc y = true) (hp : plainName y = true) (t : JA G C es xs) : JA G C (.Name y p :: es) (.cons (.var i) xs) := fun X g => by
  obtain ⟨ta, pa, ja⟩ := t X g
  refine ⟨_, pa_cons (g.pvar hN hv hp) pa rfl, fun E E' rs σ R H fp Q he ok k => ?_⟩
  obtain ⟨r, E1, ts, ea, eb, st, rfl⟩ := evs_cons he
  show ∃ v, σ[i]? = some (some v) ∧ ta σ H fun xs H2 => Q (v :: xs) H2
  obtain ⟨rfl, h⟩ := ev_var ea
  have fin : ∀ v, σ[i]? = some (some v) → SvOk X.K R H r.settle v [] → ∃ v, σ[i]? = some (some v) ∧ ta σ H fun xs H2 => Q (v :: xs) H2 := fun v e1 q1 =>
    ⟨v, e1, ja _ _ _ _ _ _ _ _ eb ok fun vs R2 H2 fp2 ok2 g2 q2 av p2 => k (v :: vs) R2 H2 fp2 ok2 g2 ⟨v, vs, rfl, q1.carry (settle_now r) g2 (by
      rcases Bool.or_eq_true_iff.mp st with z | z
      · exact .inl (by rw [settle_stable]; exact z)
      · exact .inr (p2 z)), q2⟩ ⟨e1, av⟩ fun hp => p2 (by
        have hp' : (true && xs.pure) = true := hp
        exact (Bool.and_eq_true_iff.mp hp').2)⟩
  rcases h with ⟨d, hs, rfl⟩ | ⟨n, d, hs, rfl⟩
  · obtain ⟨v, e1, q, _⟩ := ok.slots i _ hs
    exact fin v e1 ⟨q.1, rfl⟩
  · obtain ⟨v, e1, q, _⟩ := ok.slots i _ hs
    exact fin v e1 ⟨⟨_, q⟩, rfl⟩

/-! ### displays -/
theorem ev_tup {es : Exs} {E E' : Env} {r : SV} (h : ev G (.tup es) E = some (r, E')) : ∃ rs ds, evs G es E = some (rs, E') ∧ rs.mapM SV.keep = some ds ∧ ds.length ≤ LN ∧ r = .fz (.tup ds) := by
  cases ha : evs G es E with
  | none => simp only [ev, ha] at h; cases h
  | some p =>
    obtain ⟨rs, E1⟩ := p
    simp only [ev, ha] at h
    split at h
    · cases h
    · split at h
      · cases h; exact ⟨rs, _, rfl, by assumption, by assumption, rfl⟩
      · cases h
theorem ev_list {es : Exs} {E E' : Env} {r : SV} (h : ev G (.list es) E = some (r, E')) : ∃ rs ds, evs G es E = some (rs, E') ∧ rs.mapM SV.keep = some ds ∧ ds.length ≤ LN ∧ r = .ow 1 (.list ds) := by
  cases ha : evs G es E with
  | none => simp only [ev, ha] at h; cases h
  | some p =>
    obtain ⟨rs, E1⟩ := p
    simp only [ev, ha] at h
    split at h
    · cases h
    · split at h
      · cases h; exact ⟨rs, _, rfl, by assumption, by assumption, rfl⟩
      · cases h
theorem J_tup {es : List Expr} {k} {xs : Exs} (h : JA G C es xs) : JE G C (.Tuple es k pos) (.tup xs) := fun X g => by
  obtain ⟨t, p, j⟩ := h X g
  refine ⟨_, pe_tup p, fun E E' z σ R H fp Q he ok k => ?_⟩
  obtain ⟨rs, ds, h1, h2, h3, rfl⟩ := ev_tup he
  refine j _ _ _ _ _ _ _ _ h1 ok fun vs R1 H1 fp1 ok1 g1 q1 _ p1 => ?_
  have q := q1.keep h2
  exact ⟨ln_le (by rw [← q.length]; exact h3), fun a ha => fin_tup ok1 q ha fun u R' H' fr a l => k u R' H' fp1 fr (a.after g1) fun hp => (p1 hp).trans l⟩
theorem J_list {es : List Expr} {xs : Exs} (h : JA G C es xs) : JE G C (.List es pos) (.list xs) := fun X g => by
  obtain ⟨t, p, j⟩ := h X g
  refine ⟨_, pe_lst p, fun E E' z σ R H fp Q he ok k => ?_⟩
  obtain ⟨rs, ds, h1, h2, h3, rfl⟩ := ev_list he
  refine j _ _ _ _ _ _ _ _ h1 ok fun vs R1 H1 fp1 ok1 g1 q1 _ p1 => ?_
  have q := q1.keep h2
  exact ⟨ln_le (by rw [← q.length]; exact h3), fun a ha => fin_list ok1 q ha fun u R' H' fr a l => k u R' H' fp1 fr (a.after g1) fun hp => (p1 hp).trans l⟩

/-! ### a[i] -/
def plainIx : Expr → Bool
  | .Slice _ _ _ _ => false
  | _ => true
theorem plainIx_is {b : Expr} (h : plainIx b = true) : PlainIx b := fun o i => by
  cases b <;> first | rfl | cases h
theorem RpOs.at {P : D → V → List Addr → Prop} : ∀ {ds : List D} {vs : List V} {fp : List Addr} {i : Nat} {d : D}, RpOs P ds vs fp → ds[i]? = some d → ∃ v f, vs[i]? = some v ∧ P d v f
  | [], _, _, _, _, _, e => by simp at e
  | d :: ds, vs, fp, i, e, q, h => by
    obtain ⟨v, r, f, g, rfl, rfl, p, t⟩ := q
    cases i with
    | zero => simp at h; subst h; exact ⟨v, f, rfl, p⟩
    | succ i =>
      obtain ⟨v', f', e', p'⟩ := RpOs.at (i := i) t (by simpa using h)
      exact ⟨v', f', by simpa using e', p'⟩
theorem RpOs.length {P : D → V → List Addr → Prop} : ∀ {ds : List D} {vs : List V} {fp : List Addr}, RpOs P ds vs fp → ds.length = vs.length
  | [], _, _, q => by rw [q.1]; rfl
  | d :: ds, vs, fp, q => by
    obtain ⟨v, r, f, g, rfl, rfl, p, t⟩ := q
    rw [List.length_cons, List.length_cons, RpOs.length t]
theorem atI_some {α : Type} {xs : List α} {j : Int} {d : α} (h : atI xs j = some d) : ∃ k, ixN xs.length j = some k ∧ xs[k]? = some d := by
  unfold atI at h
  cases e : ixN xs.length j with
  | none => rw [e] at h; cases h
  | some k => rw [e] at h; exact ⟨k, rfl, h⟩
theorem atI_of {α : Type} {xs : List α} {j : Int} {d : α} {k : Nat} (h : ixN xs.length j = some k) (e : xs[k]? = some d) : atI xs j = some d := by
  unfold atI; rw [h]; exact e
theorem getD_ok {K : PySem.W.Frag} {x : SV} {d : D} {z : SV} {v w : V} {R H : Hp} {E : Env} {σ : St} {fp : Nat → List Addr} {Q : VK} (h : getD x d = some z) (ok : EnvOk K R H E σ fp) (q : SvOk K R H x.settle v []) (p : Rp K H d w)
    (k : ∀ u, SvOk K R H z u [] → isPk z = true ∨ (∃ e, z = .fz e) → Q u H) : rIx K v w H Q := by
  unfold getD at h
  split at h
  · rename_i xs j ex
    have ew : w = .int j := by unfold Rp at p; exact p
    subst ew
    obtain ⟨a, vs, rfl, g1, g2, _⟩ := res_list ok.sub q ex
    split at h
    · rename_i n d'
      have e' : d' = .list xs := ex
      subst e'
      obtain ⟨⟨f, q⟩, _⟩ := q
      unfold RpO at q
      obtain ⟨b, ys, f', e1, e2, _, t⟩ := q
      cases e1
      rw [g1] at e2
      cases e2
      cases ha : atI xs j with
      | none => rw [ha] at h; cases h
      | some d =>
        rw [ha] at h
        cases h
        obtain ⟨i, h1, h2⟩ := atI_some ha
        obtain ⟨u, f, h3, h4⟩ := t.at h2
        exact .inl ⟨a, vs, j, u, rfl, rfl, SqL.of g1, atI_of (by rw [← t.length]; exact h1) h3, k u ⟨⟨f, h4⟩, rfl⟩ (.inl rfl)⟩
    · rename_i hn
      have sh : x.shal = true := by
        cases x with
        | fz _ => rfl
        | ow _ _ => rfl
        | pk n d' =>
          have e' : d' = .list xs := ex
          subst e'
          match n, hn with
          | 0, _ => rfl
          | 1, _ => rfl
          | n + 2, hn => exact (hn n (.list xs) rfl).elim
      cases ha : atI xs j with
      | none => rw [ha] at h; cases h
      | some d =>
        rw [ha] at h
        cases h
        obtain ⟨u, h3, h4⟩ := (g2 sh).atI ha
        exact .inl ⟨a, vs, j, u, rfl, rfl, SqL.of g1, h3, k u ⟨h4, rfl⟩ (.inr ⟨_, rfl⟩)⟩
  · rename_i xs j ex
    have ew : w = .int j := by unfold Rp at p; exact p
    subst ew
    obtain ⟨a, vs, rfl, g1, g2⟩ := res_tup q ex
    split at h
    · cases h
    · cases ha : atI xs j with
      | none => rw [ha] at h; cases h
      | some d =>
        rw [ha] at h
        cases h
        obtain ⟨u, h3, h4⟩ := g2.atI ha
        exact .inr (.inl ⟨a, vs, j, u, rfl, rfl, ok.sub.sqt g1, h3, k u ⟨h4, rfl⟩ (.inr ⟨_, rfl⟩)⟩)
  · rename_i xs j ex
    have ew : w = .int j := by unfold Rp at p; exact p
    subst ew
    obtain ⟨a, vs, rfl, g1, g2⟩ := res_lck q ex
    split at h
    · cases h
    · cases ha : atI xs j with
      | none => rw [ha] at h; cases h
      | some d =>
        rw [ha] at h
        cases h
        obtain ⟨u, h3, h4⟩ := g2.atI ha
        exact .inl ⟨a, vs, j, u, rfl, rfl, ok.sub.sql g1, h3, k u ⟨h4, rfl⟩ (.inr ⟨_, rfl⟩)⟩
  · rename_i a j ex
    have ew : w = .int j := by unfold Rp at p; exact p
    subst ew
    split at h
    · rename_i l
      cases ha : atI a.cps.toList j with
      | none => rw [ha] at h; cases h
      | some c =>
        rw [ha] at h
        cases h
        exact .inr (.inr ⟨a, j, c, res_str ok.sub q ex, rfl, ln_le (of_decide_eq_true l), ha, k _ ⟨by unfold Rp; rfl, rfl⟩ (.inr ⟨_, rfl⟩)⟩)
    · cases h
  · cases h
theorem ev_sub {a i : Ex} {E E' : Env} {r : SV} (h : ev G (.sub a i) E = some (r, E')) : ∃ x E1 y, ev G a E = some (x, E1) ∧ ev G i E1 = some (y, E') ∧ (x.stable || i.pure) = true ∧ getD x y.d = some r := by
  cases ha : ev G a E with
  | none => simp only [ev, ha] at h; cases h
  | some p =>
    obtain ⟨x, E1⟩ := p
    cases hb : ev G i E1 with
    | none => simp only [ev, ha, hb] at h; cases h
    | some q =>
      obtain ⟨y, E2⟩ := q
      simp only [ev, ha, hb] at h
      split at h
      · cases hz : getD x y.d with
        | none => rw [hz] at h; cases h
        | some z => rw [hz] at h; cases h; exact ⟨x, E1, y, rfl, hb, by assumption, hz⟩
      · cases h
theorem aft_sv {K : PySem.W.Frag} {R R' H H' : Hp} {E' : Env} {σ : St} {fp fp' : Nat → List Addr} {z : SV} {u : V} (ok : EnvOk K R' H' E' σ fp') (g : Goes R H fp R' H' fp') (q : SvOk K R' H' z u []) : Aft K R H fp E' σ z u R' H' fp' [] :=
  ⟨ok, g, q, (fun _ z => (nomatch z)), List.nodup_nil, (fun _ z => (nomatch z))⟩
theorem J_sub {a i : Expr} {xa xi : Ex} (ha : JE G C a xa) (hi : JE G C i xi) (hx : plainIx i = true) : JE G C (.Subscript a i pos) (.sub xa xi) := fun X g => by
  obtain ⟨ta, pa, ja⟩ := ha X g
  obtain ⟨tb, pb, jb⟩ := hi X g
  refine ⟨_, pe_ix ix_seq pa pb (plainIx_is hx), fun E E' z σ R H fp Q he ok k => ?_⟩
  obtain ⟨x, E1, y, ea, eb, st, hz⟩ := ev_sub he
  refine two (Kn := fun v w H2 => rIx X.K v w H2 Q) ja jb ea eb st ok fun v w R1 H1 fp1 ok1 g1 q1 q2 p => ?_
  have h2 := q2.deep ok1.sub
  rw [settle_d] at h2
  exact getD_ok hz ok1 q1 h2 fun u qu _ => k u R1 H1 fp1 [] (aft_sv ok1 g1 qu) p

/-! ### slices -/
def JOt (G : Gm) (X : Cx) (x : Oe) (t : TO) : Prop := ∀ (E E' : Env) (r : Option SV) (σ : St) (R H : Hp) (fp : Nat → List Addr) (Q : Option Int → Hp → Prop), evo G x E = some (r, E') → EnvOk X.K R H E σ fp →
  (∀ o R' H' fp', EnvOk X.K R' H' E' σ fp' → Goes R H fp R' H' fp' → optI r = some o → (x.pure = true → Le H H') → Q o H') → (∃ o, optI r = some o) → t σ H Q
def JO (G : Gm) (C : Ct) (e : Option Expr) (x : Oe) : Prop := ∀ X, Good G C X → ∃ t, PO X e t ∧ JOt G X x t
theorem JO_no : JO G C none .no := fun X g => ⟨_, po_none, fun E E' r σ R H fp Q he ok k _ => by
  simp only [evo] at he; cases he
  exact k none R H fp ok (.refl ok) rfl fun _ => Le.refl _⟩
theorem JO_so {e : Expr} {x : Ex} (h : JE G C e x) : JO G C (some e) (.so x) := fun X g => by
  obtain ⟨t, p, j⟩ := h X g
  refine ⟨_, po_some p, fun E E' r σ R H fp Q he ok k hi => ?_⟩
  cases ha : ev G x E with
  | none => simp only [evo, ha] at he; cases he
  | some q =>
    obtain ⟨y, E1⟩ := q
    simp only [evo, ha] at he
    cases he
    obtain ⟨o, ho⟩ := hi
    show t σ H fun x H1 => ∃ i, x = .int i ∧ Q (some i) H1
    refine one j ha ok fun v R1 H1 fp1 ok1 g1 q1 p1 => ?_
    have ho' := ho
    unfold optI at ho'
    simp only at ho'
    split at ho'
    · rename_i i ei
      cases ho'
      exact ⟨i, res_int ok1.sub q1 ei, k (some i) R1 H1 fp1 ok1 g1 ho p1⟩
    · cases ho'
theorem ev_slice {a : Ex} {lo hi : Oe} {E E' : Env} {r : SV} (h : ev G (.slice a lo hi) E = some (r, E')) : ∃ x E1 y E2 z i j, ev G a E = some (x, E1) ∧ evo G lo E1 = some (y, E2) ∧ evo G hi E2 = some (z, E') ∧ (x.stable || (lo.pure && hi.pure)) = true ∧
    optI y = some i ∧ optI z = some j ∧ sliceD x i j = some r := by
  cases ha : ev G a E with
  | none => simp only [ev, ha] at h; cases h
  | some p =>
    obtain ⟨x, E1⟩ := p
    cases hb : evo G lo E1 with
    | none => simp only [ev, ha, hb] at h; cases h
    | some q =>
      obtain ⟨y, E2⟩ := q
      cases hc : evo G hi E2 with
      | none => simp only [ev, ha, hb, hc] at h; cases h
      | some s =>
        obtain ⟨z, E3⟩ := s
        simp only [ev, ha, hb, hc] at h
        split at h
        · split at h
          · rename_i i j hi hj
            cases hr : sliceD x i j with
            | none => rw [hr] at h; cases h
            | some r' => rw [hr] at h; cases h; exact ⟨x, E1, y, E2, z, i, j, rfl, hb, hc, by assumption, hi, hj, hr⟩
          · cases h
        · cases h
theorem cut_rp {K : PySem.W.Frag} {R : Hp} {ds : List D} {vs : List V} (q : RpA K R ds vs) (lo hi : Option Int) : RpA K R (cutL ds lo hi) (cutV vs lo hi) := by
  unfold cutL cutV
  rw [← q.length]
  exact (q.drop _).take _
theorem J_slice {a : Expr} {lo hi : Option Expr} {xa : Ex} {xl xh : Oe} {p2 : Pos} (ha : JE G C a xa) (hl : JO G C lo xl) (hh : JO G C hi xh) : JE G C (.Subscript a (.Slice lo hi none p2) pos) (.slice xa xl xh) := fun X g => by
  obtain ⟨ta, pa, ja⟩ := ha X g
  obtain ⟨tl, pl, jl⟩ := hl X g
  obtain ⟨th, ph, jh⟩ := hh X g
  refine ⟨_, pe_slice sl_list pa pl ph, fun E E' z σ R H fp Q he ok k => ?_⟩
  obtain ⟨x, E1, y, E2, y2, i, j, ea, eb, ec, st, hi, hj, hz⟩ := ev_slice he
  show ta σ H fun x H1 => tl σ H1 fun l H2 => th σ H2 fun u H3 => rSlL X.K x l u H3 Q
  refine one ja ea ok fun v R1 H1 fp1 ok1 g1 q1 p1 => ?_
  refine jl _ _ _ _ _ _ _ _ eb ok1 (fun o R2 H2 fp2 ok2 g2 ho p2 => ?_) ⟨i, hi⟩
  refine jh _ _ _ _ _ _ _ _ ec ok2 (fun o' R3 H3 fp3 ok3 g3 ho' p3 => ?_) ⟨j, hj⟩
  rw [hi] at ho; cases ho
  rw [hj] at ho'; cases ho'
  have q3 := q1.carry (settle_now x) (g2.trans g3) (by
    rcases Bool.or_eq_true_iff.mp st with z | z
    · exact .inl (by rw [settle_stable]; exact z)
    · obtain ⟨z1, z2⟩ := Bool.and_eq_true_iff.mp z
      exact .inr ((p2 z1).trans (p3 z2)))
  unfold sliceD at hz
  split at hz
  · rename_i xs ex
    split at hz
    · rename_i sh
      cases hz
      obtain ⟨a, vs, rfl, e1, e2, _⟩ := res_list ok3.sub q3 ex
      exact ⟨a, vs, rfl, SqL.of e1, fun p hp => fin_list ok3 (cut_rp (e2 sh) i j) hp fun u R' H' fr a l => k u R' H' fp3 fr (a.after ((g1.trans g2).trans g3)) fun hp => by
        have hp' : (xa.pure && xl.pure && xh.pure) = true := hp
        obtain ⟨z12, z3⟩ := Bool.and_eq_true_iff.mp hp'
        obtain ⟨z1, z2⟩ := Bool.and_eq_true_iff.mp z12
        exact (((p1 z1).trans (p2 z2)).trans (p3 z3)).trans l⟩
    · cases hz
  · cases hz
theorem J_rev {a : Expr} {xa : Ex} {k : Nat} {p1 p2 p3 : Pos} (ha : JE G C a xa) : JE G C (.Subscript a (.Slice none none (some (.UnaryOp .USub (.Constant (.int 1) k p1) p2)) p3) pos) (.rev xa) := fun X g => by
  obtain ⟨ta, pa, ja⟩ := ha X g
  refine ⟨_, pe_revL pa, fun E E' z σ R H fp Q he ok k => ?_⟩
  cases ea : ev G xa E with
  | none => simp only [ev, ea] at he; cases he
  | some q =>
    obtain ⟨x, E1⟩ := q
    simp only [ev, ea] at he
    split at he
    · rename_i xs ex
      split at he
      · rename_i sh
        cases he
        show ta σ H fun x H1 => ∃ a xs, x = .ref a ∧ SqL X.K H1 a xs ∧ ∀ p, H1 p = none → Q (.ref p) (upd H1 p (.lst xs.reverse))
        refine one ja ea ok fun v R1 H1 fp1 ok1 g1 q1 p1 => ?_
        obtain ⟨a, vs, rfl, e1, e2, _⟩ := res_list ok1.sub q1 ex
        exact ⟨a, vs, rfl, SqL.of e1, fun p hp => fin_list ok1 (e2 sh).reverse hp fun u R' H' fr a l => k u R' H' fp1 fr (a.after g1) fun hp => (p1 hp).trans l⟩
      · cases he
    · cases he

/-! ### a slot of ours, changed in place -/
theorem EnvOk.mut {K : PySem.W.Frag} {R H H' : Hp} {E : Env} {σ : St} {fp : Nat → List Addr} {i n n' : Nat} {d d' : D} {v : V} {f : List Addr} (ok : EnvOk K R H E σ fp) (hs : slot E i = some (.ow n d)) (hv : σ[i]? = some (some v)) (keep : ∀ a o, H a = some o → a ∉ fp i → H' a = some o)
    (there : ∀ a, H' a = none → H a = none) (q : RpO K R H' n' d' v f) (nd : f.Nodup) (fr : ∀ a ∈ f, a ∈ fp i ∨ H a = none) :
    EnvOk K R H' (E.set i (some (.ow n' d'))) σ (fun j => if j = i then f else fp j) ∧ Goes R H fp R H' (fun j => if j = i then f else fp j) := by
  have hi : i < E.length := by
    unfold slot at hs
    cases h : E[i]? with
    | none => rw [h] at hs; cases hs
    | some z => exact (List.getElem?_eq_some_iff.mp h).1
  have hsub : Le R H' := fun a o e => keep a o (ok.sub a o e) fun hm => by
    rw [ok.dis i a hm] at e; cases e
  have free : ∀ a ∈ f, R a = none ∧ ∀ j, j ≠ i → a ∉ fp j := fun a ha => by
    rcases fr a ha with h | h
    · exact ⟨ok.dis i a h, fun j hj hm => hj (ok.sep j i a hm h)⟩
    · exact ⟨ok.sub.none h, fun j _ hm => ok.there hm h⟩
  have p := ok.put (sv := .ow n' d') (v := v) (f := f) (i := i) (H' := H') hi hsub (fun j hj a ha o e => keep a o e fun hm => hj (ok.sep j i a ha hm)) q rfl nd free
  rw [set_same hv] at p
  refine ⟨p, Le.refl R, fun a o e n => keep a o e (n i), fun a z => ?_, there, p.dis⟩
  rcases z with z | ⟨j, z⟩
  · exact .inl z
  · by_cases h : j = i
    · rw [if_pos h] at z
      rcases fr a z with h | h
      · exact .inr (.inl ⟨i, h⟩)
      · exact .inr (.inr h)
    · rw [if_neg h] at z; exact .inr (.inl ⟨j, z⟩)
/-- one list of ours gets other items -/
theorem EnvOk.mutL {K : PySem.W.Frag} {R H : Hp} {E : Env} {σ : St} {fp : Nat → List Addr} {i : Nat} {ds es : List D} {v : V} (ok : EnvOk K R H E σ fp) (hs : slot E i = some (.ow 1 (.list ds))) (hv : σ[i]? = some (some v)) :
    ∃ a xs, v = .ref a ∧ H a = some (.lst xs) ∧ RpA K R ds xs ∧ ∀ ys, RpA K R es ys →
      EnvOk K R (upd H a (.lst ys)) (E.set i (some (.ow 1 (.list es)))) σ (fun j => if j = i then [a] else fp j) ∧ Goes R H fp R (upd H a (.lst ys)) (fun j => if j = i then [a] else fp j) := by
  obtain ⟨w, e1, q, _⟩ := ok.slots i _ hs
  rw [hv] at e1
  cases e1
  obtain ⟨a, xs, rfl, ha, ef, r⟩ := RpO.of_one q
  refine ⟨a, xs, rfl, ha, r, fun ys hy => ok.mut hs hv (fun b o e hb => ?_) (fun b e => ?_) (RpO.one upd_same hy) (List.nodup_cons.mpr ⟨(fun z => (nomatch z)), List.nodup_nil⟩) fun b hb => .inl (by rw [ef]; exact hb)⟩
  · rw [ef] at hb
    rw [upd_ne (fun z => hb (by rw [z]; exact List.mem_singleton.mpr rfl))]; exact e
  · by_cases h : b = a
    · subst h; rw [upd_same] at e; cases e
    · rw [upd_ne h] at e; exact e
theorem slot_at {K : PySem.W.Frag} {R H : Hp} {E : Env} {σ : St} {fp : Nat → List Addr} {i : Nat} {sv : SV} (ok : EnvOk K R H E σ fp) (hs : slot E i = some sv) : ∃ v, σ[i]? = some (some v) := by
  obtain ⟨w, e1, _, _⟩ := ok.slots i _ hs
  exact ⟨w, e1⟩
theorem getLast_at {α : Type} {xs : List α} {d : α} (h : xs.getLast? = some d) : xs[xs.length - 1]? = some d := by
  rw [List.getLast?_eq_getElem?] at h; exact h
theorem J_pop {x : Str} {i : Nat} {p apos : Pos} (hN : C.N[i]? = some x) (hv : visB C.sc x = true) (hp : plainName x = true) (hline : (apos.endLine == pos.line) = true) : JE G C (.Call (.Attribute (.Name x p) "pop" apos) [] [] pos) (.pop i) := fun X g => by
  refine ⟨_, pe_bm0 PySem.F.plainAttrs_list PySem.F.slot_list_pop PySem.F.type_list_pop mt_pop (g.pvar hN hv hp) rfl hline, fun E E' z σ R H fp Q he ok k => ?_⟩
  simp only [ev] at he
  split at he
  · rename_i xs hs
    split at he
    · rename_i d hd
      cases he
      obtain ⟨v, e1⟩ := slot_at ok hs
      obtain ⟨a, vs, rfl, ha, r, m⟩ := ok.mutL (es := xs.dropLast) hs e1
      obtain ⟨u, hu, ru⟩ := r.at (getLast_at hd)
      have m' := m _ r.dropLast
      refine ⟨.ref a, e1, .inl ⟨rfl, vs, SqL.of ha⟩, a, vs, u, rfl, rfl, ha, by rw [← r.length]; exact hu, k u _ _ _ [] (aft_sv m'.1 m'.2 ⟨ru, rfl⟩) fun z => ?_⟩
      cases z
    · cases he
  · cases he
end
end VI

/-! VI, part 7: calls of the text's own defs. -/
namespace VI
open PySem L2
section
variable {K : PySem.W.Frag} {R R' H H' : Hp} {E E' : Env} {σ : St} {fp fp' : Nat → List Addr}
theorem EnvOk.kill : ∀ (is : List Nat) {E : Env} {fp : Nat → List Addr}, EnvOk K R H E σ fp → ∃ fp', EnvOk K R H (killE E is) σ fp' ∧ Goes R H fp R H fp' ∧ (∀ j, j ∉ is → fp' j = fp j) ∧ ∀ j, j ∈ is → fp' j = []
  | [], E, fp, ok => ⟨fp, ok, .refl ok, fun _ _ => rfl, fun _ z => (nomatch z)⟩
  | i :: is, E, fp, ok => by
    obtain ⟨fp', ok', g', h1, h2⟩ := EnvOk.kill is (ok.clr i)
    refine ⟨fp', ok', (Goes.clr ok i).trans g', fun j hj => ?_, fun j hj => ?_⟩
    · rw [h1 j fun z => hj (List.mem_cons_of_mem _ z), if_neg (fun z : j = i => hj (by rw [z]; exact List.mem_cons_self))]
    · by_cases h : j ∈ is
      · exact h2 j h
      · rcases List.mem_cons.mp hj with e | e
        · rw [h1 j h, if_pos e]
        · exact (h e).elim
theorem EnvOk.callee {g g' : Nat → List Addr} (ok : EnvOk K R H E σ fp) (gs : Goes R H g R' H' g') (hs : Le R' H') (no : ∀ i a, a ∈ fp i → ∀ j, a ∉ g j) : EnvOk K R' H' E σ fp where
  sub := hs
  len := ok.len
  slots := fun i sv e => by
    obtain ⟨v, e1, q, np⟩ := ok.slots i sv e
    exact ⟨v, e1, q.mono gs.ext (fun a ha o z => gs.frame a o z (no i a ha)) np, np⟩
  emp := ok.emp
  nd := ok.nd
  dis := fun i a ha => by
    cases q : R' a with
    | none => rfl
    | some o =>
      rcases gs.dom a (.inl (by rw [q]; exact fun z => nomatch z)) with z | ⟨j, z⟩ | z
      · exact (z (ok.dis i a ha)).elim
      · exact (no i a ha j z).elim
      · exact (ok.there ha z).elim
  sep := ok.sep
def fsOf (fp : Nat → List Addr) : List Nat → Exs → List (List Addr)
  | 0 :: ws, .cons _ es => [] :: fsOf fp ws es
  | (_ + 1) :: ws, .cons (.var i) es => fp i :: fsOf fp ws es
  | _, _ => []
theorem fpOf_nil (j : Nat) : fpOf [] j = [] := rfl
theorem fpOf_zero (f : List Addr) (fs : List (List Addr)) : fpOf (f :: fs) 0 = f := rfl
theorem fpOf_succ (f : List Addr) (fs : List (List Addr)) (j : Nat) : fpOf (f :: fs) (j + 1) = fpOf fs j := rfl
theorem fs_mem : ∀ (ws : List Nat) (es : Exs) (j : Nat) (a : Addr), a ∈ fpOf (fsOf fp ws es) j → ∃ i ∈ mutVars ws es, a ∈ fp i
  | [], _, j, a, h => by unfold fsOf at h; rw [fpOf_nil] at h; cases h
  | 0 :: ws, .nil, j, a, h => by unfold fsOf at h; rw [fpOf_nil] at h; cases h
  | 0 :: ws, .cons e es, j, a, h => by
    unfold fsOf at h
    unfold mutVars
    cases j with
    | zero => rw [fpOf_zero] at h; cases h
    | succ j => rw [fpOf_succ] at h; exact fs_mem ws es j a h
  | (n + 1) :: ws, .nil, j, a, h => by unfold fsOf at h; rw [fpOf_nil] at h; cases h
  | (n + 1) :: ws, .cons e es, j, a, h => by
    cases e <;> (unfold fsOf at h; first | (rw [fpOf_nil] at h; cases h) | skip)
    unfold mutVars
    cases j with
    | zero => rw [fpOf_zero] at h; exact ⟨_, List.mem_cons_self, h⟩
    | succ j =>
      rw [fpOf_succ] at h
      obtain ⟨i, h1, h2⟩ := fs_mem ws es j a h
      exact ⟨i, List.mem_cons_of_mem _ h1, h2⟩
theorem fs_nd (nd : ∀ i, (fp i).Nodup) : ∀ (ws : List Nat) (es : Exs) (j : Nat), (fpOf (fsOf fp ws es) j).Nodup
  | [], _, j => by unfold fsOf; rw [fpOf_nil]; exact List.nodup_nil
  | 0 :: ws, .nil, j => by unfold fsOf; rw [fpOf_nil]; exact List.nodup_nil
  | 0 :: ws, .cons e es, j => by
    unfold fsOf
    cases j with
    | zero => rw [fpOf_zero]; exact List.nodup_nil
    | succ j => rw [fpOf_succ]; exact fs_nd nd ws es j
  | (n + 1) :: ws, .nil, j => by unfold fsOf; rw [fpOf_nil]; exact List.nodup_nil
  | (n + 1) :: ws, .cons e es, j => by
    cases e <;> (unfold fsOf; first | (rw [fpOf_nil]; exact List.nodup_nil) | skip)
    cases j with
    | zero => rw [fpOf_zero]; exact nd _
    | succ j => rw [fpOf_succ]; exact fs_nd nd ws es j
theorem fs_sep (sep : ∀ i j a, a ∈ fp i → a ∈ fp j → i = j) : ∀ (ws : List Nat) (es : Exs), (mutVars ws es).Nodup → ∀ (j k : Nat) (a : Addr), a ∈ fpOf (fsOf fp ws es) j → a ∈ fpOf (fsOf fp ws es) k → j = k
  | [], _, _, j, k, a, h, _ => by unfold fsOf at h; rw [fpOf_nil] at h; cases h
  | 0 :: ws, .nil, _, j, k, a, h, _ => by unfold fsOf at h; rw [fpOf_nil] at h; cases h
  | 0 :: ws, .cons e es, nd, j, k, a, h, g => by
    unfold fsOf at h g
    unfold mutVars at nd
    cases j with
    | zero => rw [fpOf_zero] at h; cases h
    | succ j =>
      cases k with
      | zero => rw [fpOf_zero] at g; cases g
      | succ k => rw [fpOf_succ] at h g; rw [fs_sep sep ws es nd j k a h g]
  | (n + 1) :: ws, .nil, _, j, k, a, h, _ => by unfold fsOf at h; rw [fpOf_nil] at h; cases h
  | (n + 1) :: ws, .cons e es, nd, j, k, a, h, g => by
    cases e <;> (unfold fsOf at h g; first | (rw [fpOf_nil] at h; cases h) | skip)
    unfold mutVars at nd
    obtain ⟨nd1, nd2⟩ := List.nodup_cons.mp nd
    cases j with
    | zero =>
      cases k with
      | zero => rfl
      | succ k =>
        rw [fpOf_zero] at h
        rw [fpOf_succ] at g
        obtain ⟨i', m, g'⟩ := fs_mem ws es k a g
        exact (nd1 (sep _ _ a h g' ▸ m)).elim
    | succ j =>
      cases k with
      | zero =>
        rw [fpOf_succ] at h
        rw [fpOf_zero] at g
        obtain ⟨i', m, h'⟩ := fs_mem ws es j a h
        exact (nd1 (sep _ _ a g h' ▸ m)).elim
      | succ k => rw [fpOf_succ] at h g; rw [fs_sep sep ws es nd2 j k a h g]
theorem args_ok (ok : EnvOk K R H E σ fp) : ∀ (ws : List Nat) (es : Exs) (rs : List SV) (ds : List D) (vs : List V), argsOf E ws es rs = some ds → RsOk K R H rs vs → ArgVars σ es vs → ArgsOk K R H ws ds vs (fsOf fp ws es)
  | [], .nil, [], ds, vs, h, q, av => by
    unfold argsOf at h; cases h
    have q' : vs = [] := q
    subst q'
    unfold fsOf ArgsOk; trivial
  | 0 :: ws, .cons e es, r :: rs, ds, vs, h, q, av => by
    unfold argsOf at h
    obtain ⟨v, t, rfl, q1, q2⟩ := q
    split at h
    · cases h
      rename_i d ds' h1 h2
      unfold fsOf ArgsOk
      refine ⟨by unfold RpO; exact ⟨res_keep q1 h1, rfl⟩, args_ok ok ws es rs ds' t h2 q2 ?_⟩
      cases e <;> first | exact av | exact av.2
    · cases h
  | (n + 1) :: ws, .cons e es, r :: rs, ds, vs, h, q, av => by
    cases e <;> (unfold argsOf at h; first | (cases h; done) | skip)
    rename_i i
    obtain ⟨v, t, rfl, q1, q2⟩ := q
    split at h
    · split at h
      · cases h
        rename_i hm
        subst hm
        unfold fsOf ArgsOk
        rename_i m d ds' h2 h1
        obtain ⟨w, e1, qq, _⟩ := ok.slots i _ h1
        rw [av.1] at e1
        cases e1
        exact ⟨qq, args_ok ok ws es rs ds' t h2 q2 av.2⟩
      · cases h
    · cases h
  | [], .cons _ _, _, _, _, h, _, _ => by unfold argsOf at h; cases h
  | [], .nil, _ :: _, _, _, h, _, _ => by unfold argsOf at h; cases h
  | 0 :: _, .nil, _, _, _, h, _, _ => by unfold argsOf at h; cases h
  | 0 :: _, .cons _ _, [], _, _, h, _, _ => by unfold argsOf at h; cases h
  | (_ + 1) :: _, .nil, _, _, _, h, _, _ => by unfold argsOf at h; cases h
  | (_ + 1) :: _, .cons e _, [], _, _, h, _, _ => by cases e <;> (unfold argsOf at h; cases h)
theorem put_ok : ∀ (ws : List Nat) (es : Exs) (ms : List D) (vs : List V) (fs : List (List Addr)) (E E2 : Env) (fp : Nat → List Addr), putBack E ws es ms = some E2 → MutsOk K R H ws ms vs fs → ArgVars σ es vs → EnvOk K R H E σ fp →
    (∀ i ∈ mutVars ws es, i < E.length) → (∀ j, (fpOf fs j).Nodup) → (∀ j k a, a ∈ fpOf fs j → a ∈ fpOf fs k → j = k) → (∀ j a, a ∈ fpOf fs j → R a = none ∧ ∀ i, a ∉ fp i) →
    ∃ fp2, EnvOk K R H E2 σ fp2 ∧ ∀ i a, a ∈ fp2 i → a ∈ fp i ∨ ∃ j, a ∈ fpOf fs j
  | [], es, [], vs, fs, E, E2, fp, h, m, av, ok, hi, nd, sep, free => by
    unfold putBack at h; cases h
    exact ⟨fp, ok, fun i a z => .inl z⟩
  | [], es, _ :: _, vs, fs, E, E2, fp, h, m, av, ok, hi, nd, sep, free => by unfold putBack at h; cases h
  | 0 :: ws, .nil, ms, vs, fs, E, E2, fp, h, m, av, ok, hi, nd, sep, free => by unfold putBack at h; cases h
  | 0 :: ws, .cons e es, ms, [], fs, E, E2, fp, h, m, av, ok, hi, nd, sep, free => by unfold MutsOk at m; exact m.elim
  | 0 :: ws, .cons e es, ms, v :: vs, [], E, E2, fp, h, m, av, ok, hi, nd, sep, free => by unfold MutsOk at m; exact m.elim
  | 0 :: ws, .cons e es, ms, v :: vs, f :: fs, E, E2, fp, h, m, av, ok, hi, nd, sep, free => by
    unfold putBack at h
    unfold MutsOk at m
    unfold mutVars at hi
    have av' : ArgVars σ es vs := by cases e <;> first | exact av | exact av.2
    obtain ⟨fp2, o2, w⟩ := put_ok ws es ms vs fs E E2 fp h m.2 av' ok hi (fun j => nd (j + 1)) (fun j k a h1 h2 => Nat.succ.inj (sep (j + 1) (k + 1) a h1 h2)) (fun j a ha => free (j + 1) a ha)
    exact ⟨fp2, o2, fun i a z => (w i a z).imp id fun ⟨j, q⟩ => ⟨j + 1, q⟩⟩
  | (n + 1) :: ws, .nil, ms, vs, fs, E, E2, fp, h, m, av, ok, hi, nd, sep, free => by unfold putBack at h; cases h
  | (n + 1) :: ws, .cons e es, [], vs, fs, E, E2, fp, h, m, av, ok, hi, nd, sep, free => by cases e <;> (unfold putBack at h; cases h)
  | (n + 1) :: ws, .cons e es, d :: ms, [], fs, E, E2, fp, h, m, av, ok, hi, nd, sep, free => by unfold MutsOk at m; exact m.elim
  | (n + 1) :: ws, .cons e es, d :: ms, v :: vs, [], E, E2, fp, h, m, av, ok, hi, nd, sep, free => by unfold MutsOk at m; exact m.elim
  | (n + 1) :: ws, .cons e es, d :: ms, v :: vs, f :: fs, E, E2, fp, h, m, av, ok, hi, nd, sep, free => by
    cases e <;> (unfold putBack at h; first | (cases h; done) | skip)
    rename_i i
    unfold MutsOk at m
    unfold mutVars at hi
    have p := ok.put (sv := .ow (n + 1) d) (v := v) (f := f) (i := i) (hi i List.mem_cons_self) ok.sub (fun _ _ _ _ _ z => z) m.1 rfl (nd 0) fun a ha => ⟨(free 0 a ha).1, fun j _ => (free 0 a ha).2 j⟩
    rw [set_same av.1] at p
    obtain ⟨fp2, o2, w⟩ := put_ok ws es ms vs fs _ E2 _ h m.2 av.2 p (fun i hi' => by rw [List.length_set]; exact hi i (List.mem_cons_of_mem _ hi')) (fun j => nd (j + 1)) (fun j k a h1 h2 => Nat.succ.inj (sep (j + 1) (k + 1) a h1 h2))
      (fun j a ha => ⟨(free (j + 1) a ha).1, fun k hk => by
        by_cases e : k = i
        · rw [if_pos e] at hk
          have := sep (j + 1) 0 a ha hk
          cases this
        · rw [if_neg e] at hk; exact (free (j + 1) a ha).2 k hk⟩)
    refine ⟨fp2, o2, fun k a z => ?_⟩
    rcases w k a z with q | ⟨j, q⟩
    · by_cases e : k = i
      · rw [if_pos e] at q; exact .inr ⟨0, q⟩
      · rw [if_neg e] at q; exact .inl q
    · exact .inr ⟨j + 1, q⟩
end
section
variable {G : Gm} {X : Cx} {C : Ct} {pos : Pos}
theorem ev_call {k : Nat} {es : Exs} {E E' : Env} {r : SV} (h : ev G (.call k es) E = some (r, E')) : ∃ rs E1 F ds ms, evs G es E = some (rs, E1) ∧ G.fns[k]? = some F ∧ argsOf E1 F.ways es rs = some ds ∧ F.f ds = some (r, ms) ∧ isPk r = false ∧ (mutVars F.ways es).Nodup ∧
    putBack (killE E1 (mutVars F.ways es)) F.ways es ms = some E' := by
  cases ha : evs G es E with
  | none => simp only [ev, ha] at h; cases h
  | some p =>
    obtain ⟨rs, E1⟩ := p
    cases hF : G.fns[k]? with
    | none => simp only [ev, ha, hF] at h; cases h
    | some F =>
      cases hd : argsOf E1 F.ways es rs with
      | none => simp only [ev, ha, hF, hd] at h; cases h
      | some ds =>
        cases hf : F.f ds with
        | none => simp only [ev, ha, hF, hd, hf] at h; cases h
        | some q =>
          obtain ⟨r', ms⟩ := q
          simp only [ev, ha, hF, hd, hf] at h
          split at h
          · rename_i c
            cases hp : putBack (killE E1 (mutVars F.ways es)) F.ways es ms with
            | none => rw [hp] at h; cases h
            | some E2 => rw [hp] at h; cases h; exact ⟨rs, E1, F, ds, ms, rfl, rfl, hd, hf, c.1, c.2, hp⟩
          · cases h
theorem killE_length : ∀ (is : List Nat) (E : Env), (killE E is).length = E.length
  | [], _ => rfl
  | i :: is, E => by
    show (killE (E.set i none) is).length = _
    rw [killE_length is, List.length_set]
theorem argsOf_in {E : Env} : ∀ (ws : List Nat) (es : Exs) (rs : List SV) (ds : List D), argsOf E ws es rs = some ds → ∀ i ∈ mutVars ws es, i < E.length
  | [], _, _, _, _, i, m => by unfold mutVars at m; cases m
  | 0 :: ws, .nil, _, _, _, i, m => by unfold mutVars at m; cases m
  | 0 :: ws, .cons e es, [], _, h, i, m => by unfold argsOf at h; cases h
  | 0 :: ws, .cons e es, r :: rs, _, h, i, m => by
    unfold argsOf at h
    unfold mutVars at m
    split at h
    · exact argsOf_in ws es rs _ (by assumption) i m
    · cases h
  | (n + 1) :: ws, .nil, _, _, _, i, m => by unfold mutVars at m; cases m
  | (n + 1) :: ws, .cons e es, [], _, h, i, m => by cases e <;> (unfold argsOf at h; cases h)
  | (n + 1) :: ws, .cons e es, r :: rs, _, h, i, m => by
    cases e <;> (unfold argsOf at h; first | (cases h; done) | skip)
    unfold mutVars at m
    split at h
    · rename_i h1 h2
      rcases List.mem_cons.mp m with rfl | m
      · unfold slot at h1
        cases q : E[i]? with
        | none => rw [q] at h1; cases h1
        | some z => exact (List.getElem?_eq_some_iff.mp q).1
      · exact argsOf_in ws es rs _ h2 i m
    · cases h
theorem J_call {x : Str} {p : Pos} {k : Nat} {e : Expr} {es : List Expr} {xs : Exs} (hk : C.fnn[k]? = some x) (hg : glB C.sc x = true) (hp : plainName x = true) (hs : (e :: es).all noStar = true) (ha : JA G C (e :: es) xs) : JE G C (.Call (.Name x p) (e :: es) [] pos) (.call k xs) := fun X g => by
  obtain ⟨t, pa, ja⟩ := ha X g
  cases hF : G.fns[k]? with
  | none =>
    refine ⟨fun _ _ _ => False, ⟨fun _ _ _ _ _ _ h => h.elim⟩, fun E E' r σ R H fp Q he ok kk => ?_⟩
    obtain ⟨rs, E1, F, ds, ms, h1, h2, _⟩ := ev_call he
    rw [hF] at h2; cases h2
  | some F =>
    obtain ⟨f, fd, ps, hm, hkp, hok, hb⟩ := g.wok.fns k F x hF hk
    rw [List.all_cons, Bool.and_eq_true] at hs
    refine ⟨_, pe_call hok g.room (g.gl hg) hm hkp hb .nil pass0 pa (pn1 hp) (noStar_is hs.1 es X.env) (noStars_any hs.2), fun E E' r σ R H fp Q he ok kk => ?_⟩
    obtain ⟨rs, E1, F', ds, ms, h1, h2, h3, h4, h5, h6, h7⟩ := ev_call he
    rw [hF] at h2
    cases h2
    show t σ H fun vs H1 => spV X.K F (vs ++ []) H1 Q E0
    refine ja _ _ _ _ _ _ _ _ h1 ok fun vs R1 H1 fp1 ok1 g1 q1 av p1 => ?_
    rw [List.append_nil]
    refine ⟨R1, ds, r, ms, fsOf fp1 F.ways xs, args_ok ok1 _ _ _ _ _ h3 q1 av, ok1.sub, fs_nd ok1.nd _ _, fs_sep ok1.sep _ _ h6, fun i a ha => ?_, h4, h5, fun v R2 H2 fs2 fr gs l2 mo nd2 sep2 qv ff fnd fnew => ?_⟩
    · obtain ⟨j, _, hj⟩ := fs_mem _ _ _ _ ha
      exact ok1.dis j a hj
    · obtain ⟨fpk, okk, gk, hk1, hk2⟩ := ok1.kill (mutVars F.ways xs)
      have no : ∀ i a, a ∈ fpk i → ∀ j, a ∉ fpOf (fsOf fp1 F.ways xs) j := fun i a hi j hj => by
        obtain ⟨i', m, h⟩ := fs_mem _ _ _ _ hj
        by_cases z : i ∈ mutVars F.ways xs
        · rw [hk2 i z] at hi; cases hi
        · rw [hk1 i z] at hi
          exact z (ok1.sep i i' a hi h ▸ m)
      have okc := okk.callee gs l2 no
      have bad : ∀ a, (R1 a ≠ none ∨ (∃ i, a ∈ fpOf (fsOf fp1 F.ways xs) i) ∨ H1 a = none) → ∀ i, a ∉ fpk i := fun a z i hi => by
        rcases z with z | ⟨j, z⟩ | z
        · exact z (okk.dis i a hi)
        · exact no i a hi j z
        · exact okk.there hi z
      obtain ⟨fp2, ok2, w2⟩ := put_ok F.ways xs ms vs fs2 _ _ fpk h7 mo av okc (fun i hi => by rw [killE_length]; exact argsOf_in _ _ _ _ h3 i hi) nd2 sep2 fun j a ha => ⟨gs.dis j a ha, bad a (gs.dom a (.inr ⟨j, ha⟩))⟩
      have big : ∀ a, (R1 a ≠ none ∨ (∃ i, a ∈ fpOf (fsOf fp1 F.ways xs) i) ∨ H1 a = none) → R1 a ≠ none ∨ (∃ i, a ∈ fp1 i) ∨ H1 a = none := fun a z => by
        rcases z with z | ⟨j, z⟩ | z
        · exact .inl z
        · obtain ⟨i', m, h⟩ := fs_mem _ _ _ _ z
          exact .inr (.inl ⟨i', h⟩)
        · exact .inr (.inr z)
      have fpk_sub : ∀ i a, a ∈ fpk i → a ∈ fp1 i := fun i a hi => by
        by_cases z : i ∈ mutVars F.ways xs
        · rw [hk2 i z] at hi; cases hi
        · rw [hk1 i z] at hi; exact hi
      have gg : Goes R1 H1 fp1 R2 H2 fp2 := ⟨gs.ext, fun a o e n => gs.frame a o e fun i hi => by
          obtain ⟨i', m, h⟩ := fs_mem _ _ _ _ hi
          exact n i' h, fun a z => by
          rcases z with z | ⟨i, z⟩
          · exact big a (gs.dom a (.inl z))
          · rcases w2 i a z with z | ⟨j, z⟩
            · exact .inr (.inl ⟨i, fpk_sub i a z⟩)
            · exact big a (gs.dom a (.inr ⟨j, z⟩)), gs.there, ok2.dis⟩
      refine kk v R2 H2 fp2 fr ⟨ok2, g1.trans gg, qv, fun a ha => ⟨(ff a ha).1, fun i hi => ?_⟩, fnd, fun a ha => ?_⟩ fun z => by cases z
      · rcases w2 i a hi with z | ⟨j, z⟩
        · exact bad a (fnew a ha) i z
        · exact (ff a ha).2 j z
      · rcases big a (fnew a ha) with z | z | z
        · exact g1.dom a (.inl z)
        · exact g1.dom a (.inr z)
        · exact .inr (.inr (g1.there a z))
end
end VI

/-! VI, part 8: built-in functions, range as a list, index. -/
namespace VI
open PySem L2
section
variable {G : Gm} {X : Cx} {C : Ct} {pos : Pos}
def BiOk (K : PySem.W.Frag) (b : Bi) (r : List V → Hp → VK → Prop) : Prop := ∀ (xs : List SV) (z : SV) (vs : List V) (R H : Hp) (E : Env) (σ : St) (fp : Nat → List Addr) (Q : VK), biD b xs = some z → EnvOk K R H E σ fp → RsOk K R H xs vs →
  (∀ u R' H' fr, Aft K R H fp E σ z u R' H' fp fr → Le H H' → Q u H') → r vs H Q
theorem ev_bi {b : Bi} {es : Exs} {E E' : Env} {r : SV} (h : ev G (.bi b es) E = some (r, E')) : ∃ rs, evs G es E = some (rs, E') ∧ biD b rs = some r := by
  cases ha : evs G es E with
  | none => simp only [ev, ha] at h; cases h
  | some p =>
    obtain ⟨rs, E1⟩ := p
    simp only [ev, ha] at h
    cases hz : biD b rs with
    | none => rw [hz] at h; cases h
    | some z => rw [hz] at h; cases h; exact ⟨rs, rfl, hz⟩
theorem J_biB {b : Bi} {x : Str} {id : String} {p : Pos} {e : Expr} {es : List Expr} {xs : Exs} (hr : ∀ X, Good G C X → ∃ r, CallR X (.builtin id) r ∧ BiOk X.K b r) (hv : bootBuiltins x = some (.builtin id)) (hx : x ≠ "gcd") (hm : x ∈ C.bl) (hg : glB C.sc x = true) (hp : plainName x = true)
    (hs : (e :: es).all noStar = true) (ha : JA G C (e :: es) xs) : JE G C (.Call (.Name x p) (e :: es) [] pos) (.bi b xs) := fun X g => by
  obtain ⟨t, pa, ja⟩ := ha X g
  obtain ⟨r, hc, br⟩ := hr X g
  rw [List.all_cons, Bool.and_eq_true] at hs
  refine ⟨_, pe_callB hc (g.gl hg) (g.wok.free x hm hx) hv pa (pn3 hp) (pn1 hp) (noStar_is hs.1 es X.env) (noStars_any hs.2), fun E E' z σ R H fp Q he ok k => ?_⟩
  obtain ⟨rs, h1, h2⟩ := ev_bi he
  show t σ H fun vs H1 => r vs H1 Q
  exact ja _ _ _ _ _ _ _ _ h1 ok fun vs R1 H1 fp1 ok1 g1 q1 _ p1 => br rs z vs R1 H1 E' σ fp1 Q h2 ok1 q1 fun u R' H' fr a l => k u R' H' fp1 fr (a.after g1) fun hp => (p1 hp).trans l
theorem J_biT {b : Bi} {x : Str} {id : String} {p : Pos} {e : Expr} {es : List Expr} {xs : Exs} (hr : ∀ X, Good G C X → ∃ r, CallR X (.type id) r ∧ BiOk X.K b r) (hv : bootBuiltins x = some (.type id)) (hx : x ≠ "gcd") (hm : x ∈ C.bl) (hg : glB C.sc x = true) (hp : plainName x = true)
    (hs : (e :: es).all noStar = true) (ha : JA G C (e :: es) xs) : JE G C (.Call (.Name x p) (e :: es) [] pos) (.bi b xs) := fun X g => by
  obtain ⟨t, pa, ja⟩ := ha X g
  obtain ⟨r, hc, br⟩ := hr X g
  rw [List.all_cons, Bool.and_eq_true] at hs
  refine ⟨_, pe_callTy hc (g.gl hg) (g.wok.free x hm hx) hv pa (pn3 hp) (pn1 hp) (noStar_is hs.1 es X.env) (noStars_any hs.2), fun E E' z σ R H fp Q he ok k => ?_⟩
  obtain ⟨rs, h1, h2⟩ := ev_bi he
  show t σ H fun vs H1 => r vs H1 Q
  exact ja _ _ _ _ _ _ _ _ h1 ok fun vs R1 H1 fp1 ok1 g1 q1 _ p1 => br rs z vs R1 H1 E' σ fp1 Q h2 ok1 q1 fun u R' H' fr a l => k u R' H' fp1 fr (a.after g1) fun hp => (p1 hp).trans l
theorem J_biM {b : Bi} {x : Str} {id : String} {p : Pos} {e : Expr} {es : List Expr} {xs : Exs} (hr : ∀ X, Good G C X → ∃ r, CallR X (.builtin id) r ∧ BiOk X.K b r) (hm : ∀ X, Good G C X → X.mg x = some (.builtin id)) (hg : glB C.sc x = true) (hp : plainName x = true)
    (hs : (e :: es).all noStar = true) (ha : JA G C (e :: es) xs) : JE G C (.Call (.Name x p) (e :: es) [] pos) (.bi b xs) := fun X g => by
  obtain ⟨t, pa, ja⟩ := ha X g
  obtain ⟨r, hc, br⟩ := hr X g
  rw [List.all_cons, Bool.and_eq_true] at hs
  refine ⟨_, pe_callBfun hc (g.gl hg) (hm X g) pa (pn1 hp) (noStar_is hs.1 es X.env) (noStars_any hs.2), fun E E' z σ R H fp Q he ok k => ?_⟩
  obtain ⟨rs, h1, h2⟩ := ev_bi he
  show t σ H fun vs H1 => r vs H1 Q
  exact ja _ _ _ _ _ _ _ _ h1 ok fun vs R1 H1 fp1 ok1 g1 q1 _ p1 => br rs z vs R1 H1 E' σ fp1 Q h2 ok1 q1 fun u R' H' fr a l => k u R' H' fp1 fr (a.after g1) fun hp => (p1 hp).trans l
theorem CallR.or {X : Cx} {f : Value} {r r' : List V → Hp → VK → Prop} (h : CallR X f r) (h' : CallR X f r') : CallR X f (fun xs H Q => r xs H Q ∨ r' xs H Q) := by
  intro pins s σ H xs us Q I rx q
  rcases q with q | q
  · exact h pins s σ H xs us Q I rx q
  · exact h' pins s σ H xs us Q I rx q
theorem rs1 {K : PySem.W.Frag} {R H : Hp} {x : SV} {vs : List V} (q : RsOk K R H [x] vs) : ∃ v, vs = [v] ∧ SvOk K R H x.settle v [] := by
  obtain ⟨v, t, rfl, q1, q2⟩ := q
  have e : t = [] := q2
  subst e
  exact ⟨v, rfl, q1⟩
theorem rs2 {K : PySem.W.Frag} {R H : Hp} {x y : SV} {vs : List V} (q : RsOk K R H [x, y] vs) : ∃ v w, vs = [v, w] ∧ SvOk K R H x.settle v [] ∧ SvOk K R H y.settle w [] := by
  obtain ⟨v, t, rfl, q1, q2⟩ := q
  obtain ⟨w, rfl, q3⟩ := rs1 q2
  exact ⟨v, w, rfl, q1, q3⟩
theorem bi_len (X : Cx) : ∃ r, CallR X (.builtin "len") r ∧ BiOk X.K .len r := by
  refine ⟨_, call_len, fun xs z vs R H E σ fp Q h ok q k => ?_⟩
  match xs, h, q with
  | [x], h, q =>
    obtain ⟨v, rfl, q1⟩ := rs1 q
    unfold biD at h
    simp only at h
    split at h
    · rename_i ys ex
      cases h
      obtain ⟨a, us, rfl, e1, _, e2⟩ := res_list ok.sub q1 ex
      exact ⟨_, _, rfl, .inl ⟨us, SqL.of e1, e2.length⟩, fin_int ok k⟩
    · rename_i ys ex
      cases h
      obtain ⟨a, us, rfl, e1, e2⟩ := res_tup q1 ex
      exact ⟨_, _, rfl, .inr ⟨us, ok.sub.sqt e1, e2.length⟩, fin_int ok k⟩
    · rename_i ys ex
      cases h
      obtain ⟨a, us, rfl, e1, e2⟩ := res_lck q1 ex
      exact ⟨_, _, rfl, .inl ⟨us, ok.sub.sql e1, e2.length⟩, fin_int ok k⟩
    · rename_i a ex
      split at h
      · rename_i l
        cases h
        rw [res_str ok.sub q1 ex]
        exact ⟨_, _, rfl, ⟨ln_le (of_decide_eq_true l), rfl⟩, fin_int ok k⟩
      · cases h
    · cases h
theorem bi_abs (X : Cx) : ∃ r, CallR X (.builtin "abs") r ∧ BiOk X.K .abs r := by
  refine ⟨_, call_abs, fun xs z vs R H E σ fp Q h ok q k => ?_⟩
  match xs, h, q with
  | [x], h, q =>
    obtain ⟨v, rfl, q1⟩ := rs1 q
    unfold biD at h
    simp only at h
    split at h
    · rename_i i ex
      cases h
      rw [res_int ok.sub q1 ex]
      exact ⟨i, rfl, fin_int ok k⟩
    · cases h
theorem bi_int (X : Cx) : ∃ r, CallR X (.type "int") r ∧ BiOk X.K .int r := by
  refine ⟨_, call_int1, fun xs z vs R H E σ fp Q h ok q k => ?_⟩
  match xs, h, q with
  | [x], h, q =>
    obtain ⟨v, rfl, q1⟩ := rs1 q
    unfold biD at h
    simp only at h
    split at h
    · rename_i i ex
      cases h
      rw [res_int ok.sub q1 ex]
      exact .inl ⟨i, rfl, fin_int ok k⟩
    · rename_i i ex
      cases h
      rw [res_bl ok.sub q1 ex]
      exact .inr ⟨i, rfl, fin_int ok k⟩
    · cases h
theorem bi_min2 (X : Cx) (hc : X.calm = true) : ∃ r, CallR X (.builtin "min") r ∧ BiOk X.K .min2 r := by
  refine ⟨_, call_min2 hc, fun xs z vs R H E σ fp Q h ok q k => ?_⟩
  match xs, h, q with
  | [x, y], h, q =>
    obtain ⟨v, w, rfl, q1, q2⟩ := rs2 q
    unfold biD at h
    simp only at h
    split at h
    · rename_i i j ex ey
      cases h
      rw [res_int ok.sub q1 ex, res_int ok.sub q2 ey]
      exact ⟨i, j, rfl, fin_int ok k⟩
    · cases h
theorem bi_gcd (X : Cx) : ∃ r, CallR X (.builtin "math.gcd") r ∧ BiOk X.K .gcd r := by
  refine ⟨_, cr_gcd, fun xs z vs R H E σ fp Q h ok q k => ?_⟩
  match xs, h, q with
  | [x, y], h, q =>
    obtain ⟨v, w, rfl, q1, q2⟩ := rs2 q
    unfold biD at h
    simp only at h
    split at h
    · rename_i i j ex ey
      cases h
      rw [res_int ok.sub q1 ex, res_int ok.sub q2 ey]
      exact ⟨i, j, rfl, fin_int ok k⟩
    · cases h
theorem bi_max2 (X : Cx) (hc : X.calm = true) : ∃ r, CallR X (.builtin "max") r ∧ BiOk X.K .max2 r := by
  refine ⟨_, call_max2 hc, fun xs z vs R H E σ fp Q h ok q k => ?_⟩
  match xs, h, q with
  | [x, y], h, q =>
    obtain ⟨v, w, rfl, q1, q2⟩ := rs2 q
    unfold biD at h
    simp only at h
    split at h
    · rename_i i j ex ey
      cases h
      rw [res_int ok.sub q1 ex, res_int ok.sub q2 ey]
      exact ⟨i, j, rfl, fin_int ok k⟩
    · cases h
theorem minI_mem : ∀ (ns : List Int) (m : Int), minI m ns ∈ m :: ns ∧ ∀ y ∈ m :: ns, minI m ns ≤ y
  | [], m => by unfold minI; simp
  | x :: r, m => by
    unfold minI
    obtain ⟨h1, h2⟩ := minI_mem r (if x < m then x else m)
    refine ⟨?_, fun y hy => ?_⟩
    · rcases List.mem_cons.mp h1 with h | h
      · rw [h]; split <;> simp
      · simp [h]
    · have h3 := h2 _ List.mem_cons_self
      have h4 : (if x < m then x else m) ≤ x ∧ (if x < m then x else m) ≤ m := by split <;> omega
      rcases List.mem_cons.mp hy with rfl | hy
      · omega
      · rcases List.mem_cons.mp hy with rfl | hy
        · omega
        · exact h2 y (List.mem_cons_of_mem _ hy)
theorem maxI_mem : ∀ (ns : List Int) (m : Int), maxI m ns ∈ m :: ns ∧ ∀ y ∈ m :: ns, y ≤ maxI m ns
  | [], m => by unfold maxI; simp
  | x :: r, m => by
    unfold maxI
    obtain ⟨h1, h2⟩ := maxI_mem r (if m < x then x else m)
    refine ⟨?_, fun y hy => ?_⟩
    · rcases List.mem_cons.mp h1 with h | h
      · rw [h]; split <;> simp
      · simp [h]
    · have h3 := h2 _ List.mem_cons_self
      have h4 : x ≤ (if m < x then x else m) ∧ m ≤ (if m < x then x else m) := by split <;> omega
      rcases List.mem_cons.mp hy with rfl | hy
      · omega
      · rcases List.mem_cons.mp hy with rfl | hy
        · omega
        · exact h2 y (List.mem_cons_of_mem _ hy)
theorem res_ints {K : PySem.W.Frag} {R H : Hp} {r : SV} {v : V} {ds : List D} {ns : List Int} (hs : Le R H) (q : SvOk K R H r.settle v []) (e : r.d = .list ds) (hn : intsOf ds = some ns) : ∃ a, v = .ref a ∧ SqL K H a (ns.map V.int) := by
  obtain ⟨a, xs, rfl, e1, _, e2⟩ := res_list hs q e
  rw [intsOf_eq hn] at e2
  rw [e2.ints] at e1
  exact ⟨a, rfl, SqL.of e1⟩
theorem bi_minL (X : Cx) (hc : X.calm = true) : ∃ r, CallR X (.builtin "min") r ∧ BiOk X.K .minL r := by
  refine ⟨_, cr_min hc, fun xs z vs R H E σ fp Q h ok q k => ?_⟩
  match xs, h, q with
  | [x], h, q =>
    obtain ⟨v, rfl, q1⟩ := rs1 q
    unfold biD at h
    simp only at h
    split at h
    · rename_i ys ex
      split at h
      · rename_i n ns hn
        cases h
        obtain ⟨a, rfl, e1⟩ := res_ints ok.sub q1 ex hn
        refine ⟨a, n :: ns, rfl, e1, by simp, fun m hm hle => ?_⟩
        obtain ⟨h1, h2⟩ := minI_mem ns n
        have : m = minI n ns := Int.le_antisymm (hle _ h1) (h2 _ hm)
        rw [this]; exact fin_int ok k
      · cases h
    · cases h
theorem bi_maxL (X : Cx) (hc : X.calm = true) : ∃ r, CallR X (.builtin "max") r ∧ BiOk X.K .maxL r := by
  refine ⟨_, cr_max hc, fun xs z vs R H E σ fp Q h ok q k => ?_⟩
  match xs, h, q with
  | [x], h, q =>
    obtain ⟨v, rfl, q1⟩ := rs1 q
    unfold biD at h
    simp only at h
    split at h
    · rename_i ys ex
      split at h
      · rename_i n ns hn
        cases h
        obtain ⟨a, rfl, e1⟩ := res_ints ok.sub q1 ex hn
        refine ⟨a, n :: ns, rfl, e1, by simp, fun m hm hle => ?_⟩
        obtain ⟨h1, h2⟩ := maxI_mem ns n
        have : m = maxI n ns := Int.le_antisymm (h2 _ hm) (hle _ h1)
        rw [this]; exact fin_int ok k
      · cases h
    · cases h
theorem bi_sum (X : Cx) (hc : X.calm = true) : ∃ r, CallR X (.builtin "sum") r ∧ BiOk X.K .sum r := by
  refine ⟨_, cr_sum hc, fun xs z vs R H E σ fp Q h ok q k => ?_⟩
  match xs, h, q with
  | [x], h, q =>
    obtain ⟨v, rfl, q1⟩ := rs1 q
    unfold biD at h
    simp only at h
    split at h
    · rename_i ys ex
      cases hn : intsOf ys with
      | none => rw [hn] at h; cases h
      | some ns =>
        rw [hn] at h
        cases h
        obtain ⟨a, rfl, e1⟩ := res_ints ok.sub q1 ex hn
        exact ⟨a, ns, rfl, e1, fin_int ok k⟩
    · cases h
theorem sortI_is {ns ms : List Int} (hp : ms.Perm ns) (ho : ms.Pairwise (· ≤ ·)) : ms = sortI ns := by
  unfold sortI
  have h1 : (ns.mergeSort fun a b => decide (a ≤ b)).Perm ns := List.mergeSort_perm ns _
  have h2 := List.pairwise_mergeSort (le := fun (a b : Int) => decide (a ≤ b)) (fun a b c h g => by simp only [decide_eq_true_eq] at *; omega) (fun a b => by simp only [Bool.or_eq_true, decide_eq_true_eq]; omega) ns
  have h3 : (ns.mergeSort fun a b => decide (a ≤ b)).Pairwise (· ≤ ·) := h2.imp fun h => by simpa using h
  exact (hp.trans h1.symm).eq_of_pairwise (fun x y _ _ h1 h2 => Int.le_antisymm h1 h2) ho h3
theorem bi_sorted (X : Cx) : ∃ r, CallR X (.builtin "sorted") r ∧ BiOk X.K .sorted r := by
  refine ⟨_, cr_sortedI, fun xs z vs R H E σ fp Q h ok q k => ?_⟩
  match xs, h, q with
  | [x], h, q =>
    obtain ⟨v, rfl, q1⟩ := rs1 q
    unfold biD at h
    simp only at h
    split at h
    · rename_i ys ex
      cases hn : intsOf ys with
      | none => rw [hn] at h; cases h
      | some ns =>
        rw [hn] at h
        cases h
        obtain ⟨a, rfl, e1⟩ := res_ints ok.sub q1 ex hn
        refine ⟨a, ns, rfl, e1, fun ms p hp ho hf => ?_⟩
        rw [sortI_is hp ho]
        exact fin_list ok (RpA.of_ints _) hf k
    · cases h
theorem bi_list (X : Cx) : ∃ r, CallR X (.type "list") r ∧ BiOk X.K .list r := by
  refine ⟨_, call_list_of, fun xs z vs R H E σ fp Q h ok q k => ?_⟩
  match xs, h, q with
  | [x], h, q =>
    obtain ⟨v, rfl, q1⟩ := rs1 q
    unfold biD at h
    simp only at h
    split at h
    · rename_i ys ex
      split at h
      · rename_i sh
        cases h
        obtain ⟨a, us, rfl, e1, e2, _⟩ := res_items ok.sub q1 ex
        exact ⟨a, us, rfl, e1, fun l hl => fin_list ok (e2 sh) hl k⟩
      · cases h
    · cases h
theorem bi_tuple (X : Cx) : ∃ r, CallR X (.type "tuple") r ∧ BiOk X.K .tuple r := by
  refine ⟨_, call_tuple_of, fun xs z vs R H E σ fp Q h ok q k => ?_⟩
  match xs, h, q with
  | [x], h, q =>
    obtain ⟨v, rfl, q1⟩ := rs1 q
    unfold biD at h
    simp only at h
    split at h
    · rename_i ys ex
      split at h
      · rename_i sh
        cases h
        cases hx : x.d <;> rw [hx] at ex <;> simp only [itemsOf, Option.some.injEq, reduceCtorEq] at ex
        · subst ex
          obtain ⟨a, us, rfl, e1, e2, _⟩ := res_list ok.sub q1 hx
          exact ⟨a, us, rfl, .inl ⟨SqL.of e1, fun l hl => fin_tup ok (e2 sh) hl k⟩⟩
        · subst ex
          obtain ⟨a, us, rfl, e1, e2⟩ := res_tup q1 hx
          exact ⟨a, us, rfl, .inr ⟨ok.sub.sqt e1, fin_rp ok (by unfold Rp; exact ⟨a, us, rfl, e1, e2⟩) k⟩⟩
        · subst ex
          obtain ⟨a, us, rfl, e1, e2⟩ := res_lck q1 hx
          exact ⟨a, us, rfl, .inl ⟨ok.sub.sql e1, fun l hl => fin_tup ok e2 hl k⟩⟩
      · cases h
    · cases h
theorem res_bls {K : PySem.W.Frag} {R H : Hp} {r : SV} {v : V} {ds : List D} {ns : List Bool} (hs : Le R H) (q : SvOk K R H r.settle v []) (e : r.d = .list ds) (hn : boolsOf ds = some ns) : ∃ a, v = .ref a ∧ SqL K H a (ns.map V.bl) := by
  obtain ⟨a, xs, rfl, e1, _, e2⟩ := res_list hs q e
  rw [boolsOf_eq hn] at e2
  rw [e2.bls] at e1
  exact ⟨a, rfl, SqL.of e1⟩
theorem bi_any (X : Cx) (hc : X.calm = true) : ∃ r, CallR X (.builtin "any") r ∧ BiOk X.K .any r := by
  refine ⟨_, cr_any hc, fun xs z vs R H E σ fp Q h ok q k => ?_⟩
  match xs, h, q with
  | [x], h, q =>
    obtain ⟨v, rfl, q1⟩ := rs1 q
    unfold biD at h
    simp only at h
    split at h
    · rename_i ys ex
      cases hn : boolsOf ys with
      | none => rw [hn] at h; cases h
      | some ns =>
        rw [hn] at h
        cases h
        obtain ⟨a, rfl, e1⟩ := res_bls ok.sub q1 ex hn
        exact ⟨a, ns, rfl, e1, fin_bl ok k⟩
    · cases h
theorem bi_all (X : Cx) (hc : X.calm = true) : ∃ r, CallR X (.builtin "all") r ∧ BiOk X.K .all r := by
  refine ⟨_, cr_all hc, fun xs z vs R H E σ fp Q h ok q k => ?_⟩
  match xs, h, q with
  | [x], h, q =>
    obtain ⟨v, rfl, q1⟩ := rs1 q
    unfold biD at h
    simp only at h
    split at h
    · rename_i ys ex
      cases hn : boolsOf ys with
      | none => rw [hn] at h; cases h
      | some ns =>
        rw [hn] at h
        cases h
        obtain ⟨a, rfl, e1⟩ := res_bls ok.sub q1 ex hn
        exact ⟨a, ns, rfl, e1, fin_bl ok k⟩
    · cases h

/-! ### list(range(..)) -/
theorem rg_rp {K : PySem.W.Frag} {R : Hp} (a b : Int) : RpA K R (rangeD a 1 (b - a).toNat) (rgV a b) := by
  unfold rangeD rgV
  induction List.range (b - a).toNat with
  | nil => exact .nil
  | cons i r ih =>
    rw [List.map_cons, List.map_cons]
    refine .cons ?_ ih
    unfold Rp
    rw [Int.mul_one]
theorem small_is {i : Int} (h : small i = true) : -4611686018427387904 ≤ i ∧ i < 4611686018427387904 := of_decide_eq_true (p := -4611686018427387904 ≤ i ∧ i < 4611686018427387904) h
theorem J_lrange1 {p p' pos' : Pos} {a : Expr} {xa : Ex} (hm : ("list" : Str) ∈ C.bl) (hm' : ("range" : Str) ∈ C.bl) (hg : glB C.sc "list" = true) (hg' : glB C.sc "range" = true) (hs : noStar a = true) (ha : JE G C a xa) :
    JE G C (.Call (.Name "list" p) [.Call (.Name "range" p') [a] [] pos'] [] pos) (.lrange (.rng1 xa)) := fun X g => by
  obtain ⟨ta, pa, ja⟩ := ha X g
  refine ⟨_, pe_listRg g.calm (g.gl hg) (g.wok.free _ hm (by decide)) (prg_1 (g.gl hg') (g.wok.free _ hm' (by decide)) pa (noStar_is hs [] X.env)), fun E E' z σ R H fp Q he ok k => ?_⟩
  cases ea : ev G xa E with
  | none => simp only [ev, ea] at he; cases he
  | some q =>
    obtain ⟨x, E1⟩ := q
    simp only [ev, ea] at he
    split at he
    · rename_i j ej
      split at he
      · rename_i c
        cases he
        obtain ⟨c1, c2⟩ := Bool.and_eq_true_iff.mp c
        have c3 := small_is c1
        have c4 : j ≤ (LN : Int) := of_decide_eq_true c2
        show ta σ H fun x H1 => ∃ n, x = .int n ∧ RgOk 0 n ∧ ∀ q, H1 q = none → Q (.ref q) (upd H1 q (.lst (rgV 0 n)))
        refine one ja ea ok fun v R1 H1 fp1 ok1 g1 q1 p1 => ?_
        rw [res_int ok1.sub q1 ej]
        unfold LN at c4
        have e : rangeD 0 1 j.toNat = rangeD 0 1 (j - 0).toNat := by rw [Int.sub_zero]
        refine ⟨j, rfl, ⟨by omega, by omega, by omega, by omega, by omega⟩, fun p hp => fin_list ok1 (rg_rp 0 j) hp fun u R' H' fr a l => k u R' H' fp1 fr (Aft.after (by rw [e]; exact a) g1) fun hp => (p1 hp).trans l⟩
      · cases he
    · cases he
theorem J_lrange2 {p p' pos' : Pos} {a b : Expr} {xa xb : Ex} (hm : ("list" : Str) ∈ C.bl) (hm' : ("range" : Str) ∈ C.bl) (hg : glB C.sc "list" = true) (hg' : glB C.sc "range" = true) (hs : noStar a = true) (hs' : noStar b = true) (ha : JE G C a xa) (hb : JE G C b xb) :
    JE G C (.Call (.Name "list" p) [.Call (.Name "range" p') [a, b] [] pos'] [] pos) (.lrange (.rng2 xa xb)) := fun X g => by
  obtain ⟨ta, pa, ja⟩ := ha X g
  obtain ⟨tb, pb, jb⟩ := hb X g
  refine ⟨_, pe_listRg g.calm (g.gl hg) (g.wok.free _ hm (by decide)) (prg_2 (g.gl hg') (g.wok.free _ hm' (by decide)) pa pb (noStar_is hs [b] X.env) (noStar_is hs' [] X.env) (noStars_any (by rw [List.all_cons, hs']; rfl))), fun E E' z σ R H fp Q he ok k => ?_⟩
  cases ea : ev G xa E with
  | none => simp only [ev, ea] at he; cases he
  | some q =>
    obtain ⟨x, E1⟩ := q
    cases eb : ev G xb E1 with
    | none => simp only [ev, ea, eb] at he; cases he
    | some q' =>
      obtain ⟨y, E2⟩ := q'
      simp only [ev, ea, eb] at he
      split at he
      · rename_i i j ei ej
        split at he
        · rename_i c
          cases he
          simp only [Bool.and_eq_true, decide_eq_true_eq] at c
          obtain ⟨⟨c1, c1'⟩, c4⟩ := c
          have c3 := small_is c1
          have c3' := small_is c1'
          show ta σ H fun x H1 => tb σ H1 fun y H2 => ∃ i j, x = .int i ∧ y = .int j ∧ RgOk i j ∧ ∀ q, H2 q = none → Q (.ref q) (upd H2 q (.lst (rgV i j)))
          refine two (Kn := fun x y H2 => ∃ i j, x = .int i ∧ y = .int j ∧ RgOk i j ∧ ∀ q, H2 q = none → Q (.ref q) (upd H2 q (.lst (rgV i j)))) ja jb ea eb (Bool.or_eq_true_iff.mpr (.inl ?_)) ok fun v w R1 H1 fp1 ok1 g1 q1 q2 p1 => ?_
          · unfold SV.stable
            cases x with
            | fz _ => rfl
            | ow _ _ => rfl
            | pk n d =>
              have e' : d = .int i := ei
              subst e'; rfl
          rw [res_int ok1.sub q1 ei, res_int ok1.sub q2 ej]
          unfold LN at c4
          refine ⟨i, j, rfl, rfl, ⟨by omega, by omega, by omega, by omega, by omega⟩, fun p hp => fin_list ok1 (rg_rp i j) hp fun u R' H' fr a l => k u R' H' fp1 fr (a.after g1) fun hp => (p1 hp).trans l⟩
        · cases he
      · cases he

/-! ### xs.index(e) -/
theorem firstIx_is {d : D} : ∀ {ds : List D} {i k : Nat}, firstIx d ds i = some k → ∃ j, k = i + j ∧ (∃ z, (D.toPs ds)[j]? = some z ∧ PyData.eqv z d.toP = true) ∧ ∀ (m : Nat) (z : PyData), m < j → (D.toPs ds)[m]? = some z → PyData.eqv z d.toP = false
  | [], i, k, h => by unfold firstIx at h; cases h
  | x :: ds, i, k, h => by
    unfold firstIx at h
    split at h
    · rename_i e
      cases h
      refine ⟨0, rfl, ⟨x.toP, by unfold D.toPs; rfl, e⟩, fun m z hm => by omega⟩
    · rename_i e
      obtain ⟨j, e1, ⟨z, e2, e3⟩, e4⟩ := firstIx_is h
      refine ⟨j + 1, by omega, ⟨z, by unfold D.toPs; simpa using e2, e3⟩, fun m z hm hz => ?_⟩
      unfold D.toPs at hz
      cases m with
      | zero =>
        simp at hz
        subst hz
        simpa [D.eqv] using e
      | succ m => exact e4 m z (by omega) (by simpa using hz)
theorem ev_me {m : Me} {o : Ex} {es : Exs} {E E' : Env} {r : SV} (h : ev G (.me m o es) E = some (r, E')) : ∃ x E1 rs, ev G o E = some (x, E1) ∧ evs G es E1 = some (rs, E') ∧ (x.stable || es.pure) = true ∧ meD m x rs = some r := by
  cases ha : ev G o E with
  | none => simp only [ev, ha] at h; cases h
  | some p =>
    obtain ⟨x, E1⟩ := p
    cases hb : evs G es E1 with
    | none => simp only [ev, ha, hb] at h; cases h
    | some q =>
      obtain ⟨rs, E2⟩ := q
      simp only [ev, ha, hb] at h
      split at h
      · cases hz : meD m x rs with
        | none => rw [hz] at h; cases h
        | some z => rw [hz] at h; cases h; exact ⟨x, E1, rs, rfl, hb, by assumption, hz⟩
      · cases h
def plainBase : Expr → Bool
  | .Call _ _ _ _ => false
  | _ => true
theorem plainBase_is {o : Expr} {a : Str} {env : PySem.Env} (h : plainBase o = true) : attributeBase o a env (eval o env) = eval o env := by
  cases o <;> first | rfl | cases h
theorem few_args {p : Pos} {e : Expr} {es : List Expr} {env : PySem.Env} (hs : (e :: es).all noStar = true) (hl : (e :: es).length < 30) :
    ((backTo p (starEach (e :: es) env)).all (fun x => !x.1) && (backToKw p (keywordEach [] env)).all (fun x => x.1.isSome) && decide ((e :: es).length + ([] : List Keyword).length + (if ([] : List Keyword).isEmpty then 0 else 1) < 30)) = true := by
  have h := noStars_any (p := p) (env := env) hs
  have h1 : (backTo p (starEach (e :: es) env)).all (fun x => !x.1) = true := by
    rw [List.all_eq_true]
    intro x hx
    rw [List.any_eq_false] at h
    simpa using h x hx
  have h2 : (backToKw p (keywordEach [] env)).all (fun x => x.1.isSome) = true := rfl
  rw [h1, h2, Bool.and_self, Bool.true_and, decide_eq_true_eq]
  simpa using hl
theorem J_index {o e : Expr} {xo : Ex} {xs : Exs} {apos : Pos} (ho : JE G C o xo) (hs : noStar e = true) (hb : plainBase o = true) (ha : JA G C [e] xs) (hline : (apos.endLine == pos.line) = true) : JE G C (.Call (.Attribute o "index" apos) [e] [] pos) (.me .index xo xs) := fun X g => by
  obtain ⟨to, po, jo⟩ := ho X g
  obtain ⟨t, pa, ja⟩ := ha X g
  have hs' : [e].all noStar = true := by rw [List.all_cons, hs]; rfl
  have hu : X.A.units + 65 < cLine := by have := g.room.un; omega
  refine ⟨_, pe_bm PySem.F.plainAttrs_list PySem.F.slot_list_index PySem.F.type_list_index (mt_indexD hu) po pa (plainBase_is hb) (few_args hs' (by simp)) hline (noStar_is hs [] X.env) rfl, fun E E' z σ R H fp Q he ok k => ?_⟩
  obtain ⟨x, E1, rs, ea, eb, st, hz⟩ := ev_me he
  show to σ H fun x H1 => tyV X.K "list" x H1 ∧ t σ H1 fun xs H2 => rIndexD X.K x xs H2 Q
  refine one jo ea ok fun v R1 H1 fp1 ok1 g1 q1 p1 => ?_
  unfold meD at hz
  split at hz
  · rename_i y _
    split at hz
    · rename_i ys ex
      split at hz
      · rename_i c
        obtain ⟨c1, c2⟩ := Bool.and_eq_true_iff.mp c
        obtain ⟨a, us, rfl, e1, _, _⟩ := res_list ok1.sub q1 ex
        refine ⟨.inl ⟨rfl, us, SqL.of e1⟩, ?_⟩
        refine ja _ _ _ _ _ _ _ _ eb ok1 fun vs R2 H2 fp2 ok2 g2 q2 _ p2 => ?_
        obtain ⟨w, rfl, qw⟩ := rs1 q2
        have q1' := q1.carry (settle_now x) g2 (by
          rcases Bool.or_eq_true_iff.mp st with z | z
          · exact .inl (by rw [settle_stable]; exact z)
          · exact .inr (p2 z))
        cases hf : firstIx y.d ys 0 with
        | none => rw [hf] at hz; cases hz
        | some j =>
          rw [hf] at hz
          cases hz
          obtain ⟨j', e2, ⟨z, e3, e4⟩, e5⟩ := firstIx_is hf
          have ej : j' = j := by omega
          subst ej
          have d1 := res_dp ok2.sub q1' c2
          rw [ex] at d1 c2
          unfold D.okE at c2
          unfold D.toP at d1 c2
          exact ⟨a, w, y.d.toP, D.toPs ys, j', z, rfl, rfl, d1, res_dp ok2.sub qw c1, c2, c1, e3, e4, e5, fin_int ok2 fun u R' H' fr a l => k u R' H' fp2 fr (a.after (g1.trans g2)) fun hp => by
            have hp' : (xo.pure && xs.pure) = true := hp
            obtain ⟨z1, z2⟩ := Bool.and_eq_true_iff.mp hp'
            exact ((p1 z1).trans (p2 z2)).trans l⟩
      · cases hz
    · cases hz
  · cases hz
end
end VI

/-! VI, part 9: what loops walk; targets; comprehensions. -/
namespace VI
open PySem L2

/-! ### what is walked -/
structure ItOk (K : PySem.W.Frag) (J : L2.It) (ds : List D) (R : Hp) : Prop where
  go : ∀ (i : Nat) (H Ri : Hp), i < ds.length → Le R Ri → Le Ri H → J.go i H
  stop : ∀ (H Ri : Hp), Le R Ri → Le Ri H → J.stop ds.length H
  yld : ∀ (i : Nat) (H : Hp) (x : V) (H' Ri : Hp) (E : Env) (σ : St) (fp : Nat → List Addr) (d : D), J.yld i H x H' → EnvOk K Ri H E σ fp → Le R Ri → ds[i]? = some d →
    ∃ R', EnvOk K R' H' E σ fp ∧ Goes Ri H fp R' H' fp ∧ Le H H' ∧ Rp K R' d x
theorem ItOk.more {K : PySem.W.Frag} {J : L2.It} {ds : List D} {R R' : Hp} (h : ItOk K J ds R) (l : Le R R') : ItOk K J ds R' :=
  ⟨fun i H Ri hi a b => h.go i H Ri hi (l.trans a) b, fun H Ri a b => h.stop H Ri (l.trans a) b, fun i H x H' Ri E σ fp d y ok a e => h.yld i H x H' Ri E σ fp d y ok (l.trans a) e⟩
section
variable {K : PySem.W.Frag} {R : Hp}
theorem it_list {a : Addr} {ds : List D} {xs : List V} (h : R a = some (.lst xs)) (q : RpA K R ds xs) : ItOk K (Itl K a) ds R where
  go := fun i H Ri hi l1 l2 => ⟨xs, xs[i]'(by rw [← q.length]; exact hi), SqL.of (l2 _ _ (l1 _ _ h)), by simp⟩
  stop := fun H Ri l1 l2 => ⟨xs, SqL.of (l2 _ _ (l1 _ _ h)), by rw [q.length]; exact Nat.le_refl _⟩
  yld := fun i H x H' Ri E σ fp d y ok l e => by
    obtain ⟨rfl, y⟩ := y
    obtain ⟨v, e1, e2⟩ := q.at e
    have := y xs (SqL.of (ok.sub _ _ (l _ _ h)))
    rw [e1] at this
    cases this
    exact ⟨Ri, ok, .refl ok, Le.refl _, e2.mono l⟩
theorem it_lck {a : Addr} {ds : List D} {xs : List V} (h : SqL K R a xs) (q : RpA K R ds xs) : ItOk K (Itl K a) ds R where
  go := fun i H Ri hi l1 l2 => ⟨xs, xs[i]'(by rw [← q.length]; exact hi), (l1.trans l2).sql h, by simp⟩
  stop := fun H Ri l1 l2 => ⟨xs, (l1.trans l2).sql h, by rw [q.length]; exact Nat.le_refl _⟩
  yld := fun i H x H' Ri E σ fp d y ok l e => by
    obtain ⟨rfl, y⟩ := y
    obtain ⟨v, e1, e2⟩ := q.at e
    have := y xs ((l.trans ok.sub).sql h)
    rw [e1] at this
    cases this
    exact ⟨Ri, ok, .refl ok, Le.refl _, e2.mono l⟩
theorem it_tup {a : Addr} {ds : List D} {xs : List V} (h : SqT K R a xs) (q : RpA K R ds xs) : ItOk K (Itt K a) ds R where
  go := fun i H Ri hi l1 l2 => ⟨xs, xs[i]'(by rw [← q.length]; exact hi), (l1.trans l2).sqt h, by simp⟩
  stop := fun H Ri l1 l2 => ⟨xs, (l1.trans l2).sqt h, by rw [q.length]; exact Nat.le_refl _⟩
  yld := fun i H x H' Ri E σ fp d y ok l e => by
    obtain ⟨rfl, y⟩ := y
    obtain ⟨v, e1, e2⟩ := q.at e
    have := y xs ((l.trans ok.sub).sqt h)
    rw [e1] at this
    cases this
    exact ⟨Ri, ok, .refl ok, Le.refl _, e2.mono l⟩
theorem it_str (a : Str) : ItOk K (Its a) (a.cps.toList.map fun c => .str ⟨#[c]⟩) R where
  go := fun i H Ri hi _ _ => by
    show i < a.cps.size
    simpa using hi
  stop := fun H Ri _ _ => by
    show a.cps.size ≤ _
    simp
  yld := fun i H x H' Ri E σ fp d y ok l e => by
    obtain ⟨rfl, c, e1, rfl⟩ := y
    refine ⟨Ri, ok, .refl ok, Le.refl _, ?_⟩
    rw [List.getElem?_map, Array.getElem?_toList, e1] at e
    cases e
    unfold Rp; rfl
theorem it_rev {a : Addr} {ds : List D} {xs : List V} (h : R a = some (.lst xs)) (q : RpA K R ds xs) : ItOk K (Itv K a xs.length) ds.reverse R where
  go := fun i H Ri hi l1 l2 => by
    rw [List.length_reverse, q.length] at hi
    exact ⟨hi, xs, xs[xs.length - 1 - i]'(by omega), SqL.of (l2 _ _ (l1 _ _ h)), by simp⟩
  stop := fun H Ri l1 l2 => by
    show xs.length ≤ _
    rw [List.length_reverse, q.length]; exact Nat.le_refl _
  yld := fun i H x H' Ri E σ fp d y ok l e => by
    obtain ⟨rfl, y⟩ := y
    have hi : i < ds.length := by
      have := (List.getElem?_eq_some_iff.mp e).1
      rwa [List.length_reverse] at this
    rw [List.getElem?_reverse hi] at e
    obtain ⟨v, e1, e2⟩ := q.at e
    have := y xs (SqL.of (ok.sub _ _ (l _ _ h)))
    rw [← q.length, e1] at this
    cases this
    exact ⟨Ri, ok, .refl ok, Le.refl _, e2.mono l⟩
theorem rangeD_at {lo step : Int} {n i : Nat} {d : D} (e : (rangeD lo step n)[i]? = some d) : i < n ∧ d = .int (lo + (i : Nat) * step) := by
  unfold rangeD at e
  rw [List.getElem?_map] at e
  cases h : (List.range n)[i]? with
  | none => rw [h] at e; cases e
  | some j =>
    rw [h] at e
    cases e
    obtain ⟨h1, h2⟩ := List.getElem?_eq_some_iff.mp h
    rw [List.length_range] at h1
    rw [List.getElem_range] at h2
    subst h2
    exact ⟨h1, rfl⟩
theorem rangeD_len (lo step : Int) (n : Nat) : (rangeD lo step n).length = n := by
  unfold rangeD; rw [List.length_map, List.length_range]
theorem it_range (lo : Int) (n : Nat) : ItOk K (Itr lo n) (rangeD lo 1 n) R where
  go := fun i H Ri hi _ _ => by rw [rangeD_len] at hi; exact hi
  stop := fun H Ri _ _ => by
    show n ≤ _
    rw [rangeD_len]; exact Nat.le_refl _
  yld := fun i H x H' Ri E σ fp d y ok l e => by
    obtain ⟨rfl, rfl⟩ := y
    obtain ⟨_, rfl⟩ := rangeD_at e
    exact ⟨Ri, ok, .refl ok, Le.refl _, by unfold Rp; rw [Int.mul_one]⟩
theorem it_rangeC (lo c : Int) (n : Nat) : ItOk K (Itc lo c n) (rangeD lo c n) R where
  go := fun i H Ri hi _ _ => by rw [rangeD_len] at hi; exact hi
  stop := fun H Ri _ _ => by
    show n ≤ _
    rw [rangeD_len]; exact Nat.le_refl _
  yld := fun i H x H' Ri E σ fp d y ok l e => by
    obtain ⟨rfl, rfl⟩ := y
    obtain ⟨_, rfl⟩ := rangeD_at e
    exact ⟨Ri, ok, .refl ok, Le.refl _, by unfold Rp; rfl⟩
theorem enumD_at : ∀ {ds : List D} {k i : Nat} {d : D}, (enumD k ds)[i]? = some d → ∃ e, ds[i]? = some e ∧ d = .tup [.int ((k + i : Nat) : Int), e]
  | [], k, i, d, h => by unfold enumD at h; simp at h
  | x :: ds, k, 0, d, h => by
    unfold enumD at h
    simp at h
    exact ⟨x, rfl, h.symm⟩
  | x :: ds, k, i + 1, d, h => by
    unfold enumD at h
    obtain ⟨e, h1, h2⟩ := enumD_at (ds := ds) (k := k + 1) (i := i) (by simpa using h)
    refine ⟨e, by simpa using h1, ?_⟩
    rw [h2]
    have : k + 1 + i = k + (i + 1) := by omega
    rw [this]
theorem enumD_len : ∀ (ds : List D) (k : Nat), (enumD k ds).length = ds.length
  | [], _ => rfl
  | _ :: ds, k => by unfold enumD; rw [List.length_cons, List.length_cons, enumD_len ds]
theorem new_tup {Ri H : Hp} {E : Env} {σ : St} {fp : Nat → List Addr} {ds : List D} {xs : List V} {T : Addr} (ok : EnvOk K Ri H E σ fp) (hT : H T = none) (q : RpA K Ri ds xs) :
    ∃ R', EnvOk K R' (upd H T (.tup xs)) E σ fp ∧ Goes Ri H fp R' (upd H T (.tup xs)) fp ∧ Le H (upd H T (.tup xs)) ∧ Rp K R' (.tup ds) (.ref T) := by
  obtain ⟨R1, a⟩ := Aft.newT ok (.refl ok) hT q
  exact ⟨R1, a.env, a.goes, le_upd hT, a.val.1⟩
theorem it_enum {a : Addr} {ds : List D} {xs : List V} (h : R a = some (.lst xs)) (q : RpA K R ds xs) : ItOk K (Ite K a) (enumD 0 ds) R where
  go := fun i H Ri hi l1 l2 => by
    rw [enumD_len] at hi
    exact ⟨xs, xs[i]'(by rw [← q.length]; exact hi), SqL.of (l2 _ _ (l1 _ _ h)), by simp⟩
  stop := fun H Ri l1 l2 => ⟨xs, SqL.of (l2 _ _ (l1 _ _ h)), by rw [enumD_len, q.length]; exact Nat.le_refl _⟩
  yld := fun i H x H' Ri E σ fp d y ok l e => by
    obtain ⟨T, v, rfl, hT, rfl, y⟩ := y
    obtain ⟨e', h1, rfl⟩ := enumD_at e
    obtain ⟨w, e1, e2⟩ := q.at h1
    have := y xs (SqL.of (ok.sub _ _ (l _ _ h)))
    rw [e1] at this
    cases this
    exact new_tup ok hT (.cons (by unfold Rp; rw [Nat.zero_add]) (.cons (e2.mono l) .nil))
theorem zipD_at : ∀ {as bs : List D} {i : Nat} {d : D}, (zipD as bs)[i]? = some d → ∃ x y, as[i]? = some x ∧ bs[i]? = some y ∧ d = .tup [x, y]
  | [], _, i, d, h => by unfold zipD at h; simp at h
  | _ :: _, [], i, d, h => by unfold zipD at h; simp at h
  | x :: as, y :: bs, 0, d, h => by
    unfold zipD at h
    simp at h
    exact ⟨x, y, rfl, rfl, h.symm⟩
  | x :: as, y :: bs, i + 1, d, h => by
    unfold zipD at h
    obtain ⟨a, b, h1, h2, h3⟩ := zipD_at (as := as) (bs := bs) (i := i) (by simpa using h)
    exact ⟨a, b, by simpa using h1, by simpa using h2, h3⟩
theorem zipD_len : ∀ (as bs : List D), (zipD as bs).length = min as.length bs.length
  | [], _ => by unfold zipD; simp
  | _ :: _, [] => by unfold zipD; simp
  | _ :: as, _ :: bs => by unfold zipD; rw [List.length_cons, List.length_cons, List.length_cons, zipD_len as bs]; omega
theorem it_zip {a b : Addr} {ds es : List D} {xs ys : List V} (h : R a = some (.lst xs)) (q : RpA K R ds xs) (h' : R b = some (.lst ys)) (q' : RpA K R es ys) : ItOk K (Itz K a b) (zipD ds es) R where
  go := fun i H Ri hi l1 l2 => by
    rw [zipD_len, q.length, q'.length] at hi
    exact ⟨xs, ys, xs[i]'(by omega), ys[i]'(by omega), SqL.of (l2 _ _ (l1 _ _ h)), SqL.of (l2 _ _ (l1 _ _ h')), by simp, by simp⟩
  stop := fun H Ri l1 l2 => ⟨xs, ys, SqL.of (l2 _ _ (l1 _ _ h)), SqL.of (l2 _ _ (l1 _ _ h')), by rw [zipD_len, q.length, q'.length]; omega⟩
  yld := fun i H x H' Ri E σ fp d y ok l e => by
    obtain ⟨T, v, w, rfl, hT, rfl, y, y'⟩ := y
    obtain ⟨e1, e2, h1, h2, rfl⟩ := zipD_at e
    obtain ⟨u, f1, f2⟩ := q.at h1
    obtain ⟨u', f1', f2'⟩ := q'.at h2
    have := y xs (SqL.of (ok.sub _ _ (l _ _ h)))
    rw [f1] at this
    cases this
    have := y' ys (SqL.of (ok.sub _ _ (l _ _ h')))
    rw [f1'] at this
    cases this
    exact new_tup ok hT (.cons (f2.mono l) (.cons (f2'.mono l) .nil))
end
section
variable {G : Gm} {X : Cx} {C : Ct} {pos : Pos}
def JIt (G : Gm) (X : Cx) (x : It) (w : TI) : Prop := ∀ (E E' : Env) (ds : List D) (σ : St) (R H : Hp) (fp : Nat → List Addr) (Q : L2.It → Hp → Prop), evI G x E = some (ds, E') → EnvOk X.K R H E σ fp →
  (∀ J R' H' fp', EnvOk X.K R' H' E' σ fp' → Goes R H fp R' H' fp' → ItOk X.K J ds R' → (x.pure = true → Le H H') → Q J H') → w σ H Q
def JI (G : Gm) (C : Ct) (tg e : Expr) (x : It) : Prop := ∀ X, Good G C X → ∃ w, PI X tg e w ∧ JIt G X x w
theorem ev_one {α : Type} {xa : Ex} {E : Env} {f : SV → Env → Option α} {r : α} (h : (match ev G xa E with | none => none | some (x, E1) => f x E1) = some r) : ∃ x E1, ev G xa E = some (x, E1) ∧ f x E1 = some r := by
  cases ha : ev G xa E with
  | none => rw [ha] at h; cases h
  | some p =>
    obtain ⟨x, E1⟩ := p
    rw [ha] at h
    exact ⟨x, E1, rfl, h⟩
theorem res_fz {K : PySem.W.Frag} {R H : Hp} {x : SV} {v : V} (hp : ¬ isPk x = true) (q : SvOk K R H x.settle v []) : Rp K R x.d v := by
  cases x with
  | fz d => exact q.1
  | ow n d => exact q.1
  | pk n d => exact (hp rfl).elim
theorem JI_rng1 {tg a : Expr} {xa : Ex} {p : Pos} (hm : ("range" : Str) ∈ C.bl) (hg : glB C.sc "range" = true) (hs : noStar a = true) (ha : JE G C a xa) : JI G C tg (.Call (.Name "range" p) [a] [] pos) (.rng1 xa) := fun X g => by
  obtain ⟨ta, pa, ja⟩ := ha X g
  refine ⟨_, pi_range1 (g.gl hg) (g.wok.free _ hm (by decide)) (pa_cons pa pa_nil (noStar_is hs [] X.env)) (noStar_is hs [] X.env), fun E E' ds σ R H fp Q he ok k => ?_⟩
  unfold evI at he
  obtain ⟨x, E1, ea, h⟩ := ev_one he
  split at h
  · rename_i i ei
    split at h
    · rename_i c
      cases h
      have c := small_is c
      show ta σ H fun x H1 => ∃ j : Int, [x] = [.int j] ∧ -(2 ^ 62) ≤ j ∧ j < 2 ^ 62 ∧ Q (Itr 0 j.toNat) H1
      refine one ja ea ok fun v R1 H1 fp1 ok1 g1 q1 p1 => ?_
      rw [res_int ok1.sub q1 ei]
      exact ⟨i, rfl, by omega, by omega, k _ R1 H1 fp1 ok1 g1 (it_range 0 i.toNat) p1⟩
    · cases h
  · cases h
theorem stable_int {x : SV} {i : Int} (e : x.d = .int i) : x.stable = true := by
  cases x with
  | fz _ => rfl
  | ow _ _ => rfl
  | pk n d =>
    have e' : d = .int i := e
    subst e'; rfl
theorem JI_rng2 {tg a b : Expr} {xa xb : Ex} {p : Pos} (hm : ("range" : Str) ∈ C.bl) (hg : glB C.sc "range" = true) (hs : noStar a = true) (hs' : noStar b = true) (ha : JE G C a xa) (hb : JE G C b xb) : JI G C tg (.Call (.Name "range" p) [a, b] [] pos) (.rng2 xa xb) := fun X g => by
  obtain ⟨ta, pa, ja⟩ := ha X g
  obtain ⟨tb, pb, jb⟩ := hb X g
  refine ⟨_, pi_range2 (g.gl hg) (g.wok.free _ hm (by decide)) (pa_cons pa (pa_cons pb pa_nil (noStar_is hs' [] X.env)) (noStar_is hs [b] X.env)) (by rw [noStar_is hs, noStar_is hs']; rfl) (noStar_is hs' [] X.env), fun E E' ds σ R H fp Q he ok k => ?_⟩
  unfold evI at he
  obtain ⟨x, E1, ea, h⟩ := ev_one he
  obtain ⟨y, E2, eb, h⟩ := ev_one h
  split at h
  · rename_i i j ei ej
    split at h
    · rename_i c
      cases h
      obtain ⟨c1, c2⟩ := Bool.and_eq_true_iff.mp c
      have c1 := small_is c1
      have c2 := small_is c2
      show ta σ H fun x H1 => tb σ H1 fun y H2 => ∃ i j : Int, [x, y] = [.int i, .int j] ∧ (-(2 ^ 62) ≤ i ∧ i < 2 ^ 62 ∧ -(2 ^ 62) ≤ j ∧ j < 2 ^ 62) ∧ Q (Itr i (j - i).toNat) H2
      refine two (Kn := fun x y H2 => ∃ i j : Int, [x, y] = [.int i, .int j] ∧ (-(2 ^ 62) ≤ i ∧ i < 2 ^ 62 ∧ -(2 ^ 62) ≤ j ∧ j < 2 ^ 62) ∧ Q (Itr i (j - i).toNat) H2) ja jb ea eb (by rw [stable_int ei]; rfl) ok fun v w R1 H1 fp1 ok1 g1 q1 q2 p1 => ?_
      rw [res_int ok1.sub q1 ei, res_int ok1.sub q2 ej]
      exact ⟨i, j, rfl, ⟨by omega, by omega, by omega, by omega⟩, k _ R1 H1 fp1 ok1 g1 (it_range i (j - i).toNat) p1⟩
    · cases h
  · cases h
theorem JI_rng3 {tg a b c : Expr} {xa xb xc : Ex} {p : Pos} (hm : ("range" : Str) ∈ C.bl) (hg : glB C.sc "range" = true) (hs : noStar a = true) (hs' : noStar b = true) (hs'' : noStar c = true) (ha : JE G C a xa) (hb : JE G C b xb) (hc : JE G C c xc) :
    JI G C tg (.Call (.Name "range" p) [a, b, c] [] pos) (.rng3 xa xb xc) := fun X g => by
  obtain ⟨ta, pa, ja⟩ := ha X g
  obtain ⟨tb, pb, jb⟩ := hb X g
  obtain ⟨tc, pc, jc⟩ := hc X g
  refine ⟨_, pi_range3 (g.gl hg) (g.wok.free _ hm (by decide)) (pa_cons pa (pa_cons pb (pa_cons pc pa_nil (noStar_is hs'' [] X.env)) (noStar_is hs' [c] X.env)) (noStar_is hs [b, c] X.env)) (noStar_is hs [b, c] X.env) (noStars_any (by rw [List.all_cons, List.all_cons, hs', hs'']; rfl)), fun E E' ds σ R H fp Q he ok k => ?_⟩
  unfold evI at he
  obtain ⟨x, E1, ea, h⟩ := ev_one he
  obtain ⟨y, E2, eb, h⟩ := ev_one h
  obtain ⟨z, E3, ec, h⟩ := ev_one h
  split at h
  · rename_i i j c ei ej ek
    split at h
    · rename_i cc
      cases h
      simp only [Bool.and_eq_true, decide_eq_true_eq] at cc
      obtain ⟨⟨⟨⟨c1, c2, c3⟩, c4⟩, c5⟩, c6⟩ := cc
      show ta σ H fun x H1 => tb σ H1 fun y H2 => tc σ H2 fun z H3 => ∃ (i j c : Int) (n : Nat), [x, y, z] = [.int i, .int j, .int c] ∧ RgC i j c n ∧ Q (Itc i c n) H3
      refine two (Kn := fun x y H2 => tc σ H2 fun z H3 => ∃ (i j c : Int) (n : Nat), [x, y, z] = [.int i, .int j, .int c] ∧ RgC i j c n ∧ Q (Itc i c n) H3) ja jb ea eb (by rw [stable_int ei]; rfl) ok fun v w R1 H1 fp1 ok1 g1 q1 q2 p1 => ?_
      refine one jc ec ok1 fun u R2 H2 fp2 ok2 g2 q3 p3 => ?_
      rw [res_int ok1.sub q1 ei, res_int ok1.sub q2 ej, res_int ok2.sub q3 ek]
      exact ⟨i, j, c, _, rfl, ⟨c1, c2, c4, by omega⟩, k _ R2 H2 fp2 ok2 (g1.trans g2) (it_rangeC i c _) fun hp => by
        have hp' : (xa.pure && xb.pure && xc.pure) = true := hp
        obtain ⟨z1, z2⟩ := Bool.and_eq_true_iff.mp hp'
        exact (p1 z1).trans (p3 z2)⟩
    · cases h
  · cases h
theorem pi_or {X : Cx} {tg e : Expr} {w w' : TI} (h : PI X tg e w) (h' : PI X tg e w') : PI X tg e (fun σ H R => w σ H R ∨ w' σ H R) := ⟨fun pins s σ H R I q => by
  rcases q with q | q
  · exact h.run pins s σ H R I q
  · exact h'.run pins s σ H R I q⟩
theorem JI_seq {tg e : Expr} {xe : Ex} (h : JE G C e xe) : JI G C tg e (.seq xe) := fun X g => by
  obtain ⟨te, pe, je⟩ := h X g
  refine ⟨_, pi_or (pi_list pe) (pi_or (pi_tup pe) (pi_str pe)), fun E E' ds σ R H fp Q he ok k => ?_⟩
  unfold evI at he
  obtain ⟨x, E1, ea, h⟩ := ev_one he
  split at h
  · cases h
  · rename_i hp
    cases hi : iterOf x.d with
    | none => rw [hi] at h; cases h
    | some es =>
      rw [hi] at h
      cases h
      cases hd : x.d <;> rw [hd] at hi <;> simp only [iterOf, itemsOf, Option.some.injEq, reduceCtorEq] at hi
      · subst hi
        refine .inr (.inr (one (Kn := fun v H1 => ∃ x, v = .str x ∧ Q (Its x) H1) je ea ok fun v R1 H1 fp1 ok1 g1 q1 p1 => ?_))
        exact ⟨_, res_str ok1.sub q1 hd, k _ R1 H1 fp1 ok1 g1 (it_str _) p1⟩
      · subst hi
        refine .inl (one (Kn := fun v H1 => ∃ a, v = .ref a ∧ (∃ xs, SqL X.K H1 a xs) ∧ Q (Itl X.K a) H1) je ea ok fun v R1 H1 fp1 ok1 g1 q1 p1 => ?_)
        have q := res_fz hp q1
        rw [hd] at q
        unfold Rp at q
        obtain ⟨a, xs, rfl, e1, e2⟩ := q
        exact ⟨a, rfl, ⟨xs, SqL.of (ok1.sub _ _ e1)⟩, k _ R1 H1 fp1 ok1 g1 (it_list e1 e2) p1⟩
      · subst hi
        refine .inr (.inl (one (Kn := fun v H1 => ∃ a, v = .ref a ∧ (∃ xs, SqT X.K H1 a xs) ∧ Q (Itt X.K a) H1) je ea ok fun v R1 H1 fp1 ok1 g1 q1 p1 => ?_))
        have q := res_fz hp q1
        rw [hd] at q
        unfold Rp at q
        obtain ⟨a, xs, rfl, e1, e2⟩ := q
        exact ⟨a, rfl, ⟨xs, ok1.sub.sqt e1⟩, k _ R1 H1 fp1 ok1 g1 (it_tup e1 e2) p1⟩
      · subst hi
        refine .inl (one (Kn := fun v H1 => ∃ a, v = .ref a ∧ (∃ xs, SqL X.K H1 a xs) ∧ Q (Itl X.K a) H1) je ea ok fun v R1 H1 fp1 ok1 g1 q1 p1 => ?_)
        have q := res_fz hp q1
        rw [hd] at q
        unfold Rp at q
        obtain ⟨a, xs, rfl, e1, e2⟩ := q
        exact ⟨a, rfl, ⟨xs, ok1.sub.sql e1⟩, k _ R1 H1 fp1 ok1 g1 (it_lck e1 e2) p1⟩
theorem JI_enum {elts : List Expr} {kk : Nat} {tpos p : Pos} {e : Expr} {xe : Ex} (hm : ("enumerate" : Str) ∈ C.bl) (hg : glB C.sc "enumerate" = true) (hs : noStar e = true) (h : JE G C e xe) : JI G C (.Tuple elts kk tpos) (.Call (.Name "enumerate" p) [e] [] pos) (.enum xe) := fun X g => by
  obtain ⟨te, pe, je⟩ := h X g
  refine ⟨_, pi_enum (g.gl hg) (g.wok.free _ hm (by decide)) (pa_cons pe pa_nil (noStar_is hs [] X.env)) (noStar_is hs [] X.env), fun E E' ds σ R H fp Q he ok k => ?_⟩
  unfold evI at he
  obtain ⟨x, E1, ea, h⟩ := ev_one he
  split at h
  · cases h
  · rename_i hp
    split at h
    · rename_i es hd
      cases h
      show te σ H fun v H1 => ∃ a xs, [v] = [.ref a] ∧ SqL X.K H1 a xs ∧ Q (Ite X.K a) H1
      refine one je ea ok fun v R1 H1 fp1 ok1 g1 q1 p1 => ?_
      have q := res_fz hp q1
      rw [hd] at q
      unfold Rp at q
      obtain ⟨a, xs, rfl, e1, e2⟩ := q
      exact ⟨a, xs, rfl, SqL.of (ok1.sub _ _ e1), k _ R1 H1 fp1 ok1 g1 (it_enum e1 e2) p1⟩
    · cases h
theorem JI_rev {tg : Expr} {p : Pos} {e : Expr} {xe : Ex} (hm : ("reversed" : Str) ∈ C.bl) (hg : glB C.sc "reversed" = true) (hs : noStar e = true) (h : JE G C e xe) : JI G C tg (.Call (.Name "reversed" p) [e] [] pos) (.rev xe) := fun X g => by
  obtain ⟨te, pe, je⟩ := h X g
  refine ⟨_, pi_reversed (g.gl hg) (g.wok.free _ hm (by decide)) (pa_cons pe pa_nil (noStar_is hs [] X.env)) (noStar_is hs [] X.env), fun E E' ds σ R H fp Q he ok k => ?_⟩
  unfold evI at he
  obtain ⟨x, E1, ea, h⟩ := ev_one he
  split at h
  · cases h
  · rename_i hp
    split at h
    · rename_i es hd
      cases h
      show te σ H fun v H1 => ∃ (a : Addr) (xs : List V), [v] = [.ref a] ∧ SqL X.K H1 a xs ∧ Q (Itv X.K a xs.length) H1
      refine one je ea ok fun v R1 H1 fp1 ok1 g1 q1 p1 => ?_
      have q := res_fz hp q1
      rw [hd] at q
      unfold Rp at q
      obtain ⟨a, xs, rfl, e1, e2⟩ := q
      exact ⟨a, xs, rfl, SqL.of (ok1.sub _ _ e1), k _ R1 H1 fp1 ok1 g1 (it_rev e1 e2) p1⟩
    · cases h
theorem JI_zip {elts : List Expr} {kk : Nat} {tpos p : Pos} {a b : Expr} {xa xb : Ex} (hm : ("zip" : Str) ∈ C.bl) (hg : glB C.sc "zip" = true) (hs : noStar a = true) (hs' : noStar b = true) (ha : JE G C a xa) (hb : JE G C b xb) :
    JI G C (.Tuple elts kk tpos) (.Call (.Name "zip" p) [a, b] [] pos) (.zip xa xb) := fun X g => by
  obtain ⟨ta, pa, ja⟩ := ha X g
  obtain ⟨tb, pb, jb⟩ := hb X g
  refine ⟨_, pi_zip (g.gl hg) (g.wok.free _ hm (by decide)) (pa_cons pa (pa_cons pb pa_nil (noStar_is hs' [] X.env)) (noStar_is hs [b] X.env)) (noStar_is hs [b] X.env) (noStars_any (by rw [List.all_cons, hs']; rfl)), fun E E' ds σ R H fp Q he ok k => ?_⟩
  unfold evI at he
  obtain ⟨x, E1, ea, h⟩ := ev_one he
  obtain ⟨y, E2, eb, h⟩ := ev_one h
  split at h
  · cases h
  · rename_i hp
    have hp1 : ¬ isPk x = true := fun z => hp (by rw [z]; rfl)
    have hp2 : ¬ isPk y = true := fun z => hp (by rw [z, Bool.or_true])
    split at h
    · rename_i es fs hd hd'
      cases h
      show ta σ H fun v H1 => tb σ H1 fun w H2 => ∃ a b xs ys, [v, w] = [.ref a, .ref b] ∧ SqL X.K H2 a xs ∧ SqL X.K H2 b ys ∧ Q (Itz X.K a b) H2
      refine two (Kn := fun v w H2 => ∃ a b xs ys, [v, w] = [.ref a, .ref b] ∧ SqL X.K H2 a xs ∧ SqL X.K H2 b ys ∧ Q (Itz X.K a b) H2) ja jb ea eb ?_ ok fun v w R1 H1 fp1 ok1 g1 q1 q2 p1 => ?_
      · cases x with
        | fz _ => rfl
        | ow _ _ => rfl
        | pk _ _ => exact (hp1 rfl).elim
      have q := res_fz hp1 q1
      rw [hd] at q
      unfold Rp at q
      obtain ⟨a, xs, rfl, e1, e2⟩ := q
      have q' := res_fz hp2 q2
      rw [hd'] at q'
      unfold Rp at q'
      obtain ⟨b, ys, rfl, e1', e2'⟩ := q'
      exact ⟨a, b, xs, ys, rfl, SqL.of (ok1.sub _ _ e1), SqL.of (ok1.sub _ _ e1'), k _ R1 H1 fp1 ok1 g1 (it_zip e1 e2 e1' e2') p1⟩
    · cases h

/-! ### targets -/
def SameBut (is : List Nat) (σ σ' : St) : Prop := σ'.length = σ.length ∧ ∀ j, j ∉ is → σ'[j]? = σ[j]?
theorem SameBut.refl (is : List Nat) (σ : St) : SameBut is σ σ := ⟨rfl, fun _ _ => rfl⟩
theorem SameBut.trans {is : List Nat} {a b c : St} (h : SameBut is a b) (g : SameBut is b c) : SameBut is a c := ⟨g.1.trans h.1, fun j n => (g.2 j n).trans (h.2 j n)⟩
theorem SameBut.mono {is js : List Nat} {a b : St} (h : SameBut is a b) (s : ∀ i ∈ is, i ∈ js) : SameBut js a b := ⟨h.1, fun j n => h.2 j fun z => n (s j z)⟩
theorem sameBut_set {σ : St} {i : Nat} {v : Option V} : SameBut [i] σ (σ.set i v) := ⟨List.length_set, fun j n => List.getElem?_set_ne (fun z => n (by rw [z]; exact List.mem_singleton.mpr rfl))⟩
def Tg.slots : Tg → List Nat
  | .nm i => [i]
  | .tup is => is
def locB (C : Ct) (x : Str) : Bool := decide (C.sc.names.lookup x = some .local) || (decide (C.sc.names.lookup x = some .cell) && C.fnB x)
theorem Good.loc (g : Good G C X) {x : Str} (h : locB C x = true) : Loc X.env.scope x ∧ (X.fn x = true ∨ X.env.scope.names.lookup x = some .local) := by
  rw [g.sc]
  unfold locB at h
  simp only [Bool.or_eq_true, Bool.and_eq_true, decide_eq_true_eq] at h
  rcases h with h | ⟨h, h'⟩
  · exact ⟨.inl h, .inr h⟩
  · exact ⟨.inr h, .inl (g.fn x h')⟩
theorem Good.tgt (g : Good G C X) {x : Str} {i : Nat} (hN : C.N[i]? = some x) (h : locB C x = true) : PG X (.Name x pos) (gName i) :=
  pg_name (by rw [g.N]; exact g.nd) (by rw [g.N]; exact hN) (g.loc h).1 (g.loc h).2
def JGt (K : PySem.W.Frag) (t : Tg) (gg : TG) : Prop := ∀ (E E1 : Env) (d : D) (v : V) (σ : St) (R H : Hp) (fp : Nat → List Addr) (Q : St → Hp → Prop), tgSet E t d = some E1 → EnvOk K R H E σ fp → Rp K R d v →
  (∀ σ' fp', EnvOk K R H E1 σ' fp' → Goes R H fp R H fp' → SameBut t.slots σ σ' → Q σ' H) → gg v σ H Q
def JG (G : Gm) (C : Ct) (e : Expr) (t : Tg) : Prop := ∀ X, Good G C X → ∃ gg, PG X e gg ∧ JGt X.K t gg
/-- a slot gets data that stay -/
theorem put_fz {K : PySem.W.Frag} {R H : Hp} {E : Env} {σ : St} {fp : Nat → List Addr} {d : D} {v : V} (i : Nat) (ok : EnvOk K R H E σ fp) (q : Rp K R d v) : ∃ fp', EnvOk K R H (E.set i (some (.fz d))) (σ.set i (some v)) fp' ∧ Goes R H fp R H fp' := by
  by_cases hi : i < E.length
  · have p := ok.put (sv := .fz d) (v := v) (f := []) (i := i) hi ok.sub (fun _ _ _ _ _ z => z) ⟨q, rfl⟩ rfl List.nodup_nil (fun _ z => (nomatch z))
    refine ⟨_, p, Le.refl R, fun _ _ e _ => e, fun a z => ?_, fun _ e => e, p.dis⟩
    rcases z with z | ⟨j, z⟩
    · exact .inl z
    · by_cases h : j = i
      · rw [if_pos h] at z; cases z
      · rw [if_neg h] at z; exact .inr (.inl ⟨j, z⟩)
  · refine ⟨fp, ?_, .refl ok⟩
    rw [set_out hi, set_out (by rw [← ok.len]; exact hi)]
    exact ok
theorem JG_nm {x : Str} {i : Nat} (hN : C.N[i]? = some x) (h : locB C x = true) : JG G C (.Name x pos) (.nm i) := fun X g => by
  refine ⟨_, g.tgt hN h, fun E E1 d v σ R H fp Q he ok q k => ?_⟩
  unfold tgSet at he
  cases he
  obtain ⟨fp', ok', g'⟩ := put_fz i ok q
  exact k _ fp' ok' g' sameBut_set
def JGs (G : Gm) (C : Ct) (es : List Expr) (is : List Nat) : Prop := ∀ X, Good G C X → (assignEach es X.env).length = is.length ∧ (assignEach es X.env).findIdx? (·.1) = none ∧ ∃ gg, PGs X es gg ∧ ∀ (E E1 : Env) (ds : List D) (vs : List V) (σ : St) (R H : Hp) (fp : Nat → List Addr) (Q : St → Hp → Prop), setAll E is ds = some E1 → EnvOk X.K R H E σ fp → RpA X.K R ds vs →
  (∀ σ' fp', EnvOk X.K R H E1 σ' fp' → Goes R H fp R H fp' → SameBut is σ σ' → Q σ' H) → gg vs σ H Q
theorem JGs_nil : JGs G C [] [] := fun X g => ⟨rfl, rfl, _, pgs_nil, fun E E1 ds vs σ R H fp Q he ok q k => by
  cases ds with
  | nil =>
    unfold setAll at he
    cases he
    have q' : vs = [] := by unfold RpA at q; exact q
    exact ⟨q', k σ fp ok (.refl ok) (.refl _ _)⟩
  | cons _ _ => unfold setAll at he; cases he⟩
theorem JGs_cons {x : Str} {i : Nat} {es : List Expr} {is : List Nat} (hN : C.N[i]? = some x) (h : locB C x = true) (t : JGs G C es is) : JGs G C (.Name x pos :: es) (i :: is) := fun X g => by
  obtain ⟨l1, l2, gg, pg, jg⟩ := t X g
  refine ⟨?_, ?_, _, pgs_cons (g.tgt hN h) pg rfl, fun E E1 ds vs σ R H fp Q he ok q k => ?_⟩
  · show (_ :: assignEach es X.env).length = _
    rw [List.length_cons, l1]; rfl
  · show (((false, _) :: assignEach es X.env).findIdx? (·.1)) = none
    rw [List.findIdx?_cons, l2]; rfl
  · cases ds with
    | nil => unfold setAll at he; cases he
    | cons d ds =>
      obtain ⟨v, r, rfl, q1, q2⟩ := q.uncons
      unfold setAll at he
      obtain ⟨fp', ok', g'⟩ := put_fz i ok q1
      refine ⟨v, r, rfl, jg _ _ _ _ _ _ _ _ _ he ok' q2 fun σ' fp2 ok2 g2 sb => k σ' fp2 ok2 (g'.trans g2) ?_⟩
      exact (sameBut_set.mono (by simp)).trans (sb.mono fun i hi => List.mem_cons_of_mem _ hi)
theorem JG_tup {es : List Expr} {k : Nat} {is : List Nat} (h : JGs G C es is) : JG G C (.Tuple es k pos) (.tup is) := fun X g => by
  obtain ⟨l1, l2, gg, pg, jg⟩ := h X g
  refine ⟨_, pg_tup g.calm pg l1 l2, fun E E1 d v σ R H fp Q he ok q kk => ?_⟩
  cases d with
  | tup ds =>
    unfold tgSet at he
    unfold Rp at q
    obtain ⟨a, xs, rfl, e1, e2⟩ := q
    have hl : ∀ (is : List Nat) (ds : List D) (E E1 : Env), setAll E is ds = some E1 → ds.length = is.length := by
      intro is
      induction is with
      | nil => intro ds E E1 h; cases ds <;> first | rfl | (unfold setAll at h; cases h)
      | cons i is ih =>
        intro ds E E1 h
        cases ds with
        | nil => unfold setAll at h; cases h
        | cons d ds => unfold setAll at h; rw [List.length_cons, List.length_cons, ih _ _ _ h]
    exact ⟨a, xs, rfl, ok.sub.sqt e1, by rw [← e2.length]; exact hl _ _ _ _ he, jg _ _ _ _ _ _ _ _ _ he ok e2 kk⟩
  | _ => unfold tgSet at he; cases he
end
end VI

/-! VI, part 10: list comprehensions. -/
namespace VI
open PySem L2
section
variable {K : PySem.W.Frag} {R R' H H' R1 H1 : Hp} {E E' : Env} {σ σ' : St} {fp fp' fp1 : Nat → List Addr}
theorem EnvOk.sig (ok : EnvOk K R H E σ fp) (hl : σ'.length = σ.length) (h : ∀ i sv, slot E i = some sv → σ'[i]? = σ[i]?) : EnvOk K R H E σ' fp :=
  ⟨ok.sub, by rw [hl]; exact ok.len, fun i sv e => by
    obtain ⟨v, e1, q⟩ := ok.slots i sv e
    exact ⟨v, by rw [h i sv e]; exact e1, q⟩, ok.emp, ok.nd, ok.dis, ok.sep⟩
theorem slot_none (E : Env) (i : Nat) : slot (E.set i none) i = none := by
  unfold slot
  by_cases h : i < E.length
  · rw [List.getElem?_set_self h]; rfl
  · rw [List.getElem?_eq_none (by rw [List.length_set]; omega)]; rfl
theorem slot_other (E : Env) {i j : Nat} (v : Option SV) (h : j ≠ i) : slot (E.set i v) j = slot E j := by
  unfold slot; rw [List.getElem?_set_ne (Ne.symm h)]
theorem slot_kill : ∀ (is : List Nat) (E : Env) (j : Nat), slot (killE E is) j = if j ∈ is then none else slot E j
  | [], E, j => by rw [if_neg (fun z => (nomatch z))]; rfl
  | i :: is, E, j => by
    show slot (killE (E.set i none) is) j = _
    rw [slot_kill is]
    by_cases h : j ∈ is
    · rw [if_pos h, if_pos (List.mem_cons_of_mem _ h)]
    · rw [if_neg h]
      by_cases e : j = i
      · subst e; rw [slot_none, if_pos List.mem_cons_self]
      · rw [slot_other _ _ e, if_neg]
        intro z
        rcases List.mem_cons.mp z with z | z
        · exact e z
        · exact h z
theorem wipe_get : ∀ (is : List Nat) (σ : St) (j : Nat), (wipe σ is)[j]? = if j ∈ is then (σ[j]?).map (fun _ => none) else σ[j]?
  | [], σ, j => by rw [if_neg (fun z => (nomatch z))]; rfl
  | i :: is, σ, j => by
    unfold wipe
    by_cases e : j = i
    · subst e
      rw [if_pos List.mem_cons_self]
      by_cases h : j < σ.length
      · rw [List.getElem?_set_self (by rw [wipe_length]; exact h), List.getElem?_eq_getElem h]; rfl
      · rw [List.getElem?_eq_none (by rw [List.length_set, wipe_length]; omega), List.getElem?_eq_none (by omega)]; rfl
    · rw [List.getElem?_set_ne (Ne.symm e), wipe_get is]
      by_cases h : j ∈ is
      · rw [if_pos h, if_pos (List.mem_cons_of_mem _ h)]
      · rw [if_neg h, if_neg]
        intro z
        rcases List.mem_cons.mp z with z | z
        · exact e z
        · exact h z
theorem wipe_same {is : List Nat} {a b : St} (h : SameBut is a b) : wipe b is = wipe a is := by
  apply List.ext_getElem?
  intro j
  rw [wipe_get, wipe_get]
  by_cases m : j ∈ is
  · rw [if_pos m, if_pos m]
    by_cases l : j < a.length
    · rw [List.getElem?_eq_getElem l, List.getElem?_eq_getElem (show j < b.length by rw [h.1]; exact l)]; rfl
    · have l' : b.length ≤ j := by rw [h.1]; omega
      rw [List.getElem?_eq_none (show a.length ≤ j by omega), List.getElem?_eq_none l']
  · rw [if_neg m, if_neg m, h.2 j m]
theorem sameBut_wipe (is : List Nat) (σ : St) : SameBut is σ (wipe σ is) := ⟨wipe_length σ is, fun j n => by rw [wipe_get, if_neg n]⟩
theorem SameBut.symm {is : List Nat} {a b : St} (h : SameBut is a b) : SameBut is b a := ⟨h.1.symm, fun j n => (h.2 j n).symm⟩
theorem EnvOk.off (ok : EnvOk K R H E σ fp) {D : Addr} (o : HO) (h1 : R D = none) (h2 : ∀ i, D ∉ fp i) : EnvOk K R (upd H D o) E σ fp where
  sub := fun a u e => by
    have : a ≠ D := fun z => by rw [z, h1] at e; cases e
    rw [upd_ne this]; exact ok.sub a u e
  len := ok.len
  slots := fun i sv e => by
    obtain ⟨v, e1, q, np⟩ := ok.slots i sv e
    exact ⟨v, e1, q.mono (Le.refl R) (fun a ha u z => by
      have : a ≠ D := fun y => h2 i (y ▸ ha)
      rw [upd_ne this]; exact z) np, np⟩
  emp := ok.emp
  nd := ok.nd
  dis := ok.dis
  sep := ok.sep
theorem Goes.off (g : Goes R1 H1 fp1 R H fp) {D : Addr} (o : HO) (h : H1 D = none) : Goes R1 H1 fp1 R (upd H D o) fp where
  ext := g.ext
  frame := fun a u e n => by
    rw [upd_ne (ne_of_none e h)]; exact g.frame a u e n
  dom := g.dom
  there := fun a e => by
    by_cases z : a = D
    · subst z; exact h
    · rw [upd_ne z] at e; exact g.there a e
  dis := g.dis
theorem RpOs.append {P : D → V → List Addr → Prop} : ∀ {ds : List D} {vs : List V} {f : List Addr} {d : D} {v : V} {g : List Addr}, RpOs P ds vs f → P d v g → RpOs P (ds ++ [d]) (vs ++ [v]) (f ++ g)
  | [], vs, f, d, v, g, q, p => by
    rw [q.1, q.2]
    exact ⟨v, [], g, [], rfl, by simp, p, rfl, rfl⟩
  | e :: ds, vs, f, d, v, g, q, p => by
    obtain ⟨w, r, f1, f2, rfl, rfl, p1, t⟩ := q
    exact ⟨w, r ++ [v], f1, f2 ++ g, rfl, by rw [List.append_assoc], p1, RpOs.append t p⟩
/-- a growing list of ours, not yet a slot's -/
structure Grow (K : PySem.W.Frag) (n : Nat) (R H : Hp) (fp : Nat → List Addr) (D : Addr) (acc : List VI.D) (vs : List V) (f : List Addr) : Prop where
  at_ : H D = some (.lst vs)
  its : RpOs (RpO K R H n) acc vs f
  free : Free R fp (D :: f)
  nd : (D :: f).Nodup
theorem Grow.there {n : Nat} {D : Addr} {acc : List VI.D} {vs : List V} {f : List Addr} (w : Grow K n R H fp D acc vs f) : ∀ a ∈ D :: f, H a ≠ none := fun a ha => by
  rcases List.mem_cons.mp ha with rfl | ha
  · rw [w.at_]; exact fun z => nomatch z
  · exact RpOs.there (fun _ _ _ p => RpO.there p) w.its a ha
theorem Grow.go {n : Nat} {D : Addr} {acc : List VI.D} {vs : List V} {f : List Addr} (w : Grow K n R H fp D acc vs f) (g : Goes R H fp R' H' fp') : Grow K n R' H' fp' D acc vs f where
  at_ := g.frame D _ w.at_ fun i => (w.free D List.mem_cons_self).2 i
  its := w.its.mono fun d v f' hs p => p.mono g.ext fun a ha o e => g.frame a o e fun i => (w.free a (List.mem_cons_of_mem _ (hs a ha))).2 i
  free := g.free w.there w.free
  nd := w.nd
theorem unown_ok {E0 : Env} (h0 : ∀ i d, slot E0 i = some (.fz d) → ∃ v, σ[i]? = some (some v) ∧ Rp K R d v) : ∀ (is : List Nat) (E : Env) (fp : Nat → List Addr), EnvOk K R H E σ fp → ∃ fp', EnvOk K R H (unown E0 is E) σ fp' ∧ Goes R H fp R H fp'
  | [], E, fp, ok => ⟨fp, ok, .refl ok⟩
  | i :: is, E, fp, ok => by
    unfold unown
    split
    · rename_i d hd
      obtain ⟨v, e1, q⟩ := h0 i d hd
      obtain ⟨fp', ok', g'⟩ := put_fz i ok q
      rw [set_same e1] at ok'
      obtain ⟨fp2, ok2, g2⟩ := unown_ok h0 is _ fp' ok'
      exact ⟨fp2, ok2, g'.trans g2⟩
    · obtain ⟨fp2, ok2, g2⟩ := unown_ok h0 is _ _ (ok.clr i)
      exact ⟨fp2, ok2, (Goes.clr ok i).trans g2⟩
theorem restart (ok : EnvOk K R H E σ' fp) {own : List Nat} (sb : SameBut own (wipe σ own) σ') : ∃ fp', EnvOk K R H (killE E own) (wipe σ own) fp' ∧ Goes R H fp R H fp' := by
  obtain ⟨fp', ok', g', _⟩ := ok.kill own
  refine ⟨fp', ok'.sig sb.1.symm fun i sv e => ?_, g'⟩
  rw [slot_kill] at e
  split at e
  · cases e
  · rename_i n
    exact (sb.2 i n).symm
end
section
variable {G : Gm} {X : Cx} {C : Ct} {pos : Pos}
def JOT (G : Gm) (X : Cx) (c : Oe) (t : TT) : Prop := ∀ (E E' : Env) (b : Bool) (σ : St) (R H : Hp) (fp : Nat → List Addr) (Q : Bool → Hp → Prop), evt G c E = some (b, E') → EnvOk X.K R H E σ fp →
  (∀ R' H' fp', EnvOk X.K R' H' E' σ fp' → Goes R H fp R' H' fp' → (c.pure = true → Le H H') → Q b H') → t σ H Q
theorem ev_lc {n : Nat} {own : List Nat} {tg : Tg} {it : It} {c : Oe} {e : Ex} {E E' : Env} {r : SV} (h : ev G (.lc n own tg it c e) E = some (r, E')) : ∃ ds E1 rs E2, evI G it E = some (ds, E1) ∧ lcGo n tg (fun E => evt G c E) (fun E => ev G e E) own ds [] E1 = some (rs, E2) ∧
    r = .ow (n + 1) (.list rs) ∧ E' = unown E1 own (killE E2 own) := by
  cases ha : evI G it E with
  | none => simp only [ev, ha] at h; cases h
  | some p =>
    obtain ⟨ds, E1⟩ := p
    simp only [ev, ha] at h
    cases hb : lcGo n tg (fun E => evt G c E) (fun E => ev G e E) own ds [] E1 with
    | none => rw [hb] at h; cases h
    | some q =>
      obtain ⟨rs, E2⟩ := q
      rw [hb] at h
      cases h
      exact ⟨ds, E1, rs, E2, rfl, hb, rfl, rfl⟩
theorem lc_cons {n : Nat} {tg : Tg} {c : Env → Option (Bool × Env)} {f : Env → Option (SV × Env)} {own : List Nat} {d : D} {ds acc rs : List D} {E E' : Env} (h : lcGo n tg c f own (d :: ds) acc E = some (rs, E')) : ∃ E1 b E2, tgSet (killE E own) tg d = some E1 ∧ c E1 = some (b, E2) ∧
    ((b = false ∧ lcGo n tg c f own ds acc E2 = some (rs, E')) ∨ (b = true ∧ acc.length < LN ∧ ∃ r E3 v, f E2 = some (r, E3) ∧ ((n = 0 ∧ r.keep = some v) ∨ (∃ m, n = m + 1 ∧ r = .ow (m + 1) v)) ∧ lcGo n tg c f own ds (acc ++ [v]) E3 = some (rs, E'))) := by
  unfold lcGo at h
  cases h1 : tgSet (killE E own) tg d with
  | none => rw [h1] at h; cases h
  | some E1 =>
    rw [h1] at h
    simp only at h
    cases h2 : c E1 with
    | none => rw [h2] at h; cases h
    | some p =>
      obtain ⟨b, E2⟩ := p
      rw [h2] at h
      cases b with
      | false => exact ⟨E1, false, E2, rfl, h2, .inl ⟨rfl, h⟩⟩
      | true =>
        simp only at h
        cases h3 : f E2 with
        | none => rw [h3] at h; cases h
        | some q =>
          obtain ⟨r, E3⟩ := q
          rw [h3] at h
          simp only at h
          split at h
          · rename_i hl
            cases n with
            | zero =>
              simp only at h
              cases h4 : r.keep with
              | none => rw [h4] at h; cases h
              | some v => rw [h4] at h; exact ⟨E1, true, E2, rfl, h2, .inr ⟨rfl, hl, r, E3, v, h3, .inl ⟨rfl, h4⟩, h⟩⟩
            | succ m =>
              simp only at h
              split at h
              · split at h
                · rename_i hk
                  subst hk
                  exact ⟨E1, true, E2, rfl, h2, .inr ⟨rfl, hl, _, E3, _, h3, .inr ⟨m, rfl, rfl⟩, h⟩⟩
                · cases h
              · cases h
          · cases h
theorem lc_ok {wi : TI} {g : TG} {tt : TT} {te : TE} {n : Nat} {own : List Nat} {tg : Tg} {it : It} {c : Oe} {e : Ex} (hi : JIt G X it wi) (hg : JGt X.K tg g) (hsl : ∀ i ∈ tg.slots, i ∈ own) (ht : JOT G X c tt) (he : JEt G X e te) :
    JEt G X (.lc n own tg it c e) (tLc wi g tt te own) := fun E0 E' r σ R0 H0 fp0 Q hev ok0 k => by
  obtain ⟨ds, E1, rs, E2, h1, h2, rfl, rfl⟩ := ev_lc hev
  refine hi _ _ _ _ _ _ _ _ h1 ok0 fun J R1 H1 fp1 ok1 g1 iok p1 => fun D hD => ?_
  refine ⟨fun i m H => m = ds.length - i ∧ i ≤ ds.length ∧ ∃ Ei R fp acc vs f, lcGo n tg (fun E => evt G c E) (fun E => ev G e E) own (ds.drop i) acc Ei = some (rs, E2) ∧ EnvOk X.K R H (killE Ei own) (wipe σ own) fp ∧ Goes R1 H1 fp1 R H fp ∧
    ((c.pure && e.pure) = true → Le H1 H) ∧ Grow X.K n R H fp D acc vs f ∧ ∀ a ∈ D :: f, R1 a ≠ none ∨ (∃ i, a ∈ fp1 i) ∨ H1 a = none, ⟨ds.length, by simp, Nat.zero_le _, ?_⟩, ?_⟩
  · obtain ⟨fpk, okk, gk⟩ := restart ok1 (SameBut.symm (sameBut_wipe own σ))
    have hR : R1 D = none := ok1.sub.none hD
    refine ⟨E1, R1, fpk, [], [], [], h2, okk.off _ hR fun i hi => okk.there hi hD, gk.off _ hD, fun _ => le_upd hD, ⟨upd_same, ⟨rfl, rfl⟩, fun a ha => ?_, List.nodup_cons.mpr ⟨(fun z => (nomatch z)), List.nodup_nil⟩⟩, fun a ha => ?_⟩
    · rcases List.mem_cons.mp ha with rfl | z
      · exact ⟨hR, fun i hi => okk.there hi hD⟩
      · cases z
    · rcases List.mem_cons.mp ha with rfl | z
      · exact .inr (.inr hD)
      · cases z
  · rintro i m H ⟨rfl, hi, Ei, R, fp, acc, vs, f, h, ok, gs, pp, gr, new⟩
    by_cases hlt : i < ds.length
    · right
      refine ⟨iok.go i H R hlt gs.ext ok.sub, _, fun H' w => ⟨ds.length - (i + 1), by omega, w⟩, fun x H' y => ?_⟩
      have hdi : ds[i]? = some ds[i] := by simp [hlt]
      rw [List.drop_eq_getElem_cons hlt] at h
      obtain ⟨Ea, b, Eb, t1, t2, t3⟩ := lc_cons h
      obtain ⟨R2, ok2, g2, l2, q2⟩ := iok.yld i H x H' R _ _ fp _ y ok gs.ext hdi
      have gr2 := gr.go g2
      refine hg _ _ _ _ _ _ _ _ _ t1 ok2 q2 fun σ2 fp3 ok3 g3 sb => ⟨wipe_same (SameBut.mono sb hsl) |>.trans (wipe_same (sameBut_wipe own σ)), ?_⟩
      have gr3 := gr2.go g3
      have sb' : SameBut own (wipe σ own) σ2 := sb.mono hsl
      refine ht _ _ _ _ _ _ _ _ t2 ok3 fun R4 H4 fp4 ok4 g4 p4 => ?_
      have gr4 := gr3.go g4
      have gs4 := ((gs.trans g2).trans g3).trans g4
      have pp4 : (c.pure && e.pure) = true → Le H1 H4 := fun hp => ((pp hp).trans l2).trans (p4 (Bool.and_eq_true_iff.mp hp).1)
      rcases t3 with ⟨rfl, t3⟩ | ⟨rfl, hl, r, E3, v, t4, t5, t6⟩
      · rw [if_neg Bool.false_ne_true]
        obtain ⟨fp5, ok5, g5⟩ := restart ok4 sb'
        exact ⟨rfl, by omega, Eb, R4, fp5, acc, vs, f, t3, ok5, gs4.trans g5, pp4, gr4.go g5, new⟩
      · rw [if_pos rfl]
        refine he _ _ _ _ _ _ _ _ t4 ok4 fun u R5 H5 fp5 fr a5 p5 => ?_
        have gr5 := gr4.go a5.goes
        have dj : ∀ a ∈ fr, a ∉ D :: f := fun a ha hm => by
          rcases a5.new a ha with z | ⟨j, z⟩ | z
          · exact z (gr4.free a hm).1
          · exact (gr4.free a hm).2 j z
          · exact gr4.there a hm z
        have fin : ∀ (R6 : Hp) (f6 : List Addr), EnvOk X.K R6 H5 E3 σ2 fp5 → Goes R1 H1 fp1 R6 H5 fp5 → Grow X.K n R6 H5 fp5 D acc vs f → RpO X.K R6 H5 n v u f6 → Free R6 fp5 f6 → f6.Nodup → (∀ a ∈ f6, a ∉ D :: f) → (∀ a ∈ f6, R1 a ≠ none ∨ (∃ i, a ∈ fp1 i) ∨ H1 a = none) →
            ∃ acc', H5 D = some (.lst acc') ∧ acc'.length < sizeLine ∧ ∃ Ei R fp acc2 vs2 f2, lcGo n tg (fun E => evt G c E) (fun E => ev G e E) own (ds.drop (i + 1)) acc2 Ei = some (rs, E2) ∧ EnvOk X.K R (upd H5 D (.lst (acc' ++ [u]))) (killE Ei own) (wipe σ own) fp ∧ Goes R1 H1 fp1 R (upd H5 D (.lst (acc' ++ [u]))) fp ∧
              ((c.pure && e.pure) = true → Le H1 (upd H5 D (.lst (acc' ++ [u])))) ∧ Grow X.K n R (upd H5 D (.lst (acc' ++ [u]))) fp D acc2 vs2 f2 ∧ ∀ a ∈ D :: f2, R1 a ≠ none ∨ (∃ i, a ∈ fp1 i) ∨ H1 a = none := fun R6 f6 ok6 g6 gr6 q6 fr6 nd6 dj6 new6 => by
          obtain ⟨fp7, ok7, g7⟩ := restart ok6 sb'
          have gr7 := gr6.go g7
          have dD : R6 D = none := (gr7.free D List.mem_cons_self).1
          have dF : ∀ j, D ∉ fp7 j := (gr7.free D List.mem_cons_self).2
          have cell : ∀ a, a ≠ D → ∀ o, H5 a = some o → upd H5 D (.lst (vs ++ [u])) a = some o := fun a ha o e => by rw [upd_ne ha]; exact e
          have neD : ∀ a ∈ f, a ≠ D := fun a ha z => (List.nodup_cons.mp gr.nd).1 (z ▸ ha)
          have neD6 : ∀ a ∈ f6, a ≠ D := fun a ha z => dj6 a ha (z ▸ List.mem_cons_self)
          have fr7 : Free R6 fp7 f6 := g7.free (fun a ha => RpO.there q6 a ha) fr6
          refine ⟨vs, gr7.at_, ln_lt (by rw [← gr7.its.length]; exact hl), E3, R6, fp7, acc ++ [v], vs ++ [u], f ++ f6, t6, ok7.off _ dD dF, (g6.trans g7).off _ hD, fun hp => ?_, ⟨upd_same, ?_, ?_, ?_⟩, ?_⟩
          · intro a o z
            rw [upd_ne (ne_of_none z hD)]
            exact ((pp4 hp).trans (p5 (Bool.and_eq_true_iff.mp hp).2)) a o z
          · refine RpOs.append (gr7.its.mono fun d w f' hs p => p.mono (Le.refl _) fun a ha o z => cell a (neD a (hs a ha)) o z) (q6.mono (Le.refl _) fun a ha o z => cell a (neD6 a ha) o z)
          · intro a ha
            rcases List.mem_cons.mp ha with rfl | ha
            · exact ⟨dD, dF⟩
            · rcases List.mem_append.mp ha with ha | ha
              · exact gr7.free a (List.mem_cons_of_mem _ ha)
              · exact fr7 a ha
          · have nd := List.nodup_cons.mp gr.nd
            refine List.nodup_cons.mpr ⟨fun z => ?_, List.nodup_append.mpr ⟨nd.2, nd6, fun a ha b hb z => dj6 b hb (z ▸ List.mem_cons_of_mem _ ha)⟩⟩
            rcases List.mem_append.mp z with z | z
            · exact nd.1 z
            · exact neD6 D z rfl
          · intro a ha
            rcases List.mem_cons.mp ha with rfl | ha
            · exact new a List.mem_cons_self
            · rcases List.mem_append.mp ha with ha | ha
              · exact new a (List.mem_cons_of_mem _ ha)
              · exact new6 a ha
        have main : ∃ acc', H5 D = some (.lst acc') ∧ acc'.length < sizeLine ∧ ∃ Ei R fp acc2 vs2 f2, lcGo n tg (fun E => evt G c E) (fun E => ev G e E) own (ds.drop (i + 1)) acc2 Ei = some (rs, E2) ∧ EnvOk X.K R (upd H5 D (.lst (acc' ++ [u]))) (killE Ei own) (wipe σ own) fp ∧ Goes R1 H1 fp1 R (upd H5 D (.lst (acc' ++ [u]))) fp ∧
              ((c.pure && e.pure) = true → Le H1 (upd H5 D (.lst (acc' ++ [u])))) ∧ Grow X.K n R (upd H5 D (.lst (acc' ++ [u]))) fp D acc2 vs2 f2 ∧ ∀ a ∈ D :: f2, R1 a ≠ none ∨ (∃ i, a ∈ fp1 i) ∨ H1 a = none := by
          rcases t5 with ⟨rfl, hk⟩ | ⟨m, rfl, rfl⟩
          · obtain ⟨R6, l6, a6⟩ := a5.settle
            have q6 := res_keep a6.val hk
            exact fin R6 [] a6.env (gs4.trans a6.goes) (gr4.go a6.goes) (by unfold RpO; exact ⟨q6, rfl⟩) (fun _ z => (nomatch z)) List.nodup_nil (fun _ z => (nomatch z)) (fun _ z => (nomatch z))
          · exact fin R5 fr a5.env (gs4.trans a5.goes) gr5 a5.val a5.free a5.nd dj fun a ha => by
              rcases a5.new a ha with z | z | z
              · exact gs4.dom a (.inl z)
              · exact gs4.dom a (.inr z)
              · exact .inr (.inr (gs4.there a z))
        obtain ⟨acc', m1, m2, m3⟩ := main
        exact ⟨acc', m1, m2, rfl, by omega, m3⟩
    · left
      have e : i = ds.length := by omega
      subst e
      rw [List.drop_length] at h
      unfold lcGo at h
      cases h
      refine ⟨iok.stop H R gs.ext ok.sub, ?_⟩
      have ok' := ok.sig (σ' := σ) (wipe_length σ own).symm fun i sv e => by
        rw [slot_kill] at e
        split at e
        · cases e
        · rename_i hn
          rw [wipe_get, if_neg hn]
      obtain ⟨fp2, ok2, g2⟩ := unown_ok (E0 := E1) (fun j d hd => by
        obtain ⟨v, e1, q, _⟩ := ok1.slots j _ hd
        exact ⟨v, e1, q.1.mono gs.ext⟩) own _ fp ok'
      have gr2 := gr.go g2
      refine k (.ref D) R H fp2 (D :: f) ⟨ok2, (g1.trans gs).trans g2, ?_, gr2.free, gr2.nd, fun a ha => ?_⟩ fun hp => ?_
      · show RpO X.K R H (n + 1) (.list rs) (.ref D) (D :: f)
        unfold RpO
        exact ⟨D, vs, f, rfl, gr2.at_, rfl, gr2.its⟩
      · rcases new a ha with z | z | z
        · exact g1.dom a (.inl z)
        · exact g1.dom a (.inr z)
        · exact .inr (.inr (g1.there a z))
      · have hp' : (it.pure && c.pure && e.pure) = true := hp
        simp only [Bool.and_eq_true] at hp'
        exact (p1 hp'.1.1).trans (pp (by rw [hp'.1.2, hp'.2]; rfl))
end
end VI

/-! VI, part 11: comprehensions as expressions; small statements. -/
namespace VI
open PySem L2
section
variable {G : Gm} {X : Cx} {C : Ct} {pos : Pos}
def Ct.blk (C : Ct) (scope : Scope) : Ct := { C with sc := relS scope C.sc, fnB := fun x => scope.names.lookup x == some .cell }
theorem Good.blk (g : Good G C X) (s : Shared) (H : Hp) (scope : Scope) (c : Addr) (cl : List (Str × Addr)) (fp : List Addr) : Good G (C.blk scope) (X.blk s H scope (compEnvC scope cl c X.env) fp) where
  N := g.N
  sc := by
    show relS scope X.env.scope = relS scope C.sc
    rw [g.sc]
  nd := g.nd
  calm := g.calm
  room := g.room
  fn := fun _ h => h
  wok := ⟨g.wok.fns, g.wok.con, g.wok.free, g.wok.gcd⟩
  pass := PassesOwn.never
def plainIt : Expr → Bool
  | .Set _ _ _ => false
  | _ => true
theorem plainIt_is {e : Expr} {env : PySem.Env} (h : plainIt e = true) (x : Value) : foldedSetIterable e env x = pure x := by
  cases e <;> first | rfl | cases h
/-- the parts of a comprehension -/
theorem lc_parts {elt tg iter : Expr} {ifs : List Expr} {scope : Scope} {own : List (Str × Nat)} {it : It} {t : Tg} {c : Oe} {e : Ex} (ok : blkC C.N C.sc scope own = true) (hi : JI G C tg iter it) (hg : JG G (C.blk scope) tg t) (he : JE G (C.blk scope) elt e)
    (hc : (ifs = [] ∧ c = .no) ∨ ∃ ce cx, ifs = [ce] ∧ c = .so cx ∧ JT G (C.blk scope) ce cx) (hsl : t.slots.all (fun i => (own.map (·.2)).contains i) = true) (X : Cx) (g : Good G C X) :
    ∃ wi gg tt te, PI X tg iter wi ∧ BlkOk X.N X.env.scope scope own ∧ (∀ (s : Shared) (H : Hp) (C : Addr) (cl : List (Str × Addr)) (fp : List Addr), PG (X.blk s H scope (compEnvC scope cl C X.env) fp) tg gg) ∧
      (∀ (s : Shared) (H : Hp) (C : Addr) (cl : List (Str × Addr)) (fp : List Addr), PTs (X.blk s H scope (compEnvC scope cl C X.env) fp) ifs tt) ∧ (∀ (s : Shared) (H : Hp) (C : Addr) (cl : List (Str × Addr)) (fp : List Addr), PE (X.blk s H scope (compEnvC scope cl C X.env) fp) elt te) ∧
      ∀ n, JEt G X (.lc n (own.map (·.2)) t it c e) (tLc wi gg tt te (own.map (·.2))) := by
  obtain ⟨wi, pi, ji⟩ := hi X g
  obtain ⟨fg, pg⟩ := Classical.axiomOfChoice fun i : Shared × Hp × Addr × List (Str × Addr) × List Addr => hg (X.blk i.1 i.2.1 scope (compEnvC scope i.2.2.2.1 i.2.2.1 X.env) i.2.2.2.2) (g.blk _ _ _ _ _ _)
  obtain ⟨fe, pe⟩ := Classical.axiomOfChoice fun i : Shared × Hp × Addr × List (Str × Addr) × List Addr => he (X.blk i.1 i.2.1 scope (compEnvC scope i.2.2.2.1 i.2.2.1 X.env) i.2.2.2.2) (g.blk _ _ _ _ _ _)
  have hc' : ∃ tt : TT, (∀ (s : Shared) (H : Hp) (C : Addr) (cl : List (Str × Addr)) (fp : List Addr), PTs (X.blk s H scope (compEnvC scope cl C X.env) fp) ifs tt) ∧ JOT G X c tt := by
    rcases hc with ⟨rfl, rfl⟩ | ⟨ce, cx, rfl, rfl, hc⟩
    · refine ⟨tYes, fun _ _ _ _ _ => pts_nil, fun E E' b σ R H fp Q he ok k => ?_⟩
      simp only [evt] at he
      cases he
      exact k R H fp ok (.refl ok) fun _ => Le.refl _
    · obtain ⟨fc, pc⟩ := Classical.axiomOfChoice fun i : Shared × Hp × Addr × List (Str × Addr) × List Addr => hc (X.blk i.1 i.2.1 scope (compEnvC scope i.2.2.2.1 i.2.2.1 X.env) i.2.2.2.2) (g.blk _ _ _ _ _ _)
      refine ⟨fun σ H Q => ∀ i, fc i σ H Q, fun s H c cl fp => pts_one ⟨fun pins s' σ H' Q I h => (pc (s, H, c, cl, fp)).1.run pins s' σ H' Q I (h _)⟩, fun E E' b σ R H fp Q he ok k i => ?_⟩
      exact (pc i).2 E E' b σ R H fp Q he ok k
  obtain ⟨tt, pt, jt⟩ := hc'
  refine ⟨wi, fun v σ H Q => ∀ i, fg i v σ H Q, tt, fun σ H Q => ∀ i, fe i σ H Q, pi, ?_, fun s H c cl fp => ⟨fun pins s' σ H' v u Q I r h => (pg (s, H, c, cl, fp)).1.run pins s' σ H' v u Q I r (h _)⟩, pt, fun s H c cl fp => ⟨fun pins s' σ H' Q I h => (pe (s, H, c, cl, fp)).1.run pins s' σ H' Q I (h _)⟩, fun n => lc_ok ji ?_ ?_ jt ?_⟩
  · rw [g.N, g.sc]; exact blkOk_by ok
  · exact fun E E1 d v σ R H fp Q he ok q k i => (pg i).2 E E1 d v σ R H fp Q he ok q k
  · intro i hi
    rw [List.all_eq_true] at hsl
    simpa using hsl i hi
  · exact fun E E' r σ R H fp Q he ok k i => (pe i).2 E E' r σ R H fp Q he ok k
theorem J_lc {elt tg iter : Expr} {ifs : List Expr} {scope : Scope} {own : List (Str × Nat)} {it : It} {t : Tg} {c : Oe} {e : Ex} {n : Nat} (ok : blkC C.N C.sc scope own = true) (hi : JI G C tg iter it) (hg : JG G (C.blk scope) tg t) (he : JE G (C.blk scope) elt e)
    (hc : (ifs = [] ∧ c = .no) ∨ ∃ ce cx, ifs = [ce] ∧ c = .so cx ∧ JT G (C.blk scope) ce cx) (hsl : t.slots.all (fun i => (own.map (·.2)).contains i) = true) (hpi : plainIt iter = true) : JE G C (.ListComp elt [⟨tg, iter, ifs, 0⟩] scope pos) (.lc n (own.map (·.2)) t it c e) := fun X g => by
  obtain ⟨wi, gg, tt, te, p1, p2, p3, p4, p5, p6⟩ := lc_parts ok hi hg he hc hsl X g
  exact ⟨_, pe_lc g.calm (by rw [g.N]; exact g.nd) p1 p2 p3 p4 p5 (plainIt_is hpi), p6 n⟩

/-! ### statements -/
def Pin (is : List Nat) (σ σ' : St) : Prop := ∀ i ∈ is, σ'[i]? = σ[i]?
theorem Pin.refl (is : List Nat) (σ : St) : Pin is σ σ := fun _ _ => rfl
theorem Pin.trans {is : List Nat} {a b c : St} (h : Pin is a b) (g : Pin is b c) : Pin is a c := fun i hi => (g i hi).trans (h i hi)
def Post (K : PySem.W.Frag) (mu : List Nat) (R H : Hp) (fp : Nat → List Addr) (σ : St) (D : Ends) : Out → Prop
  | .nx E' => ∀ σ' R' H' fp', EnvOk K R' H' E' σ' fp' → Goes R H fp R' H' fp' → Pin mu σ σ' → D.nx σ' H'
  | .bk E' => ∀ σ' R' H' fp', EnvOk K R' H' E' σ' fp' → Goes R H fp R' H' fp' → Pin mu σ σ' → D.bk σ' H'
  | .ct E' => ∀ σ' R' H' fp', EnvOk K R' H' E' σ' fp' → Goes R H fp R' H' fp' → Pin mu σ σ' → D.ct σ' H'
  | .rt r E' => ∀ v σ' R' H' fp' fr, Aft K R H fp E' σ' r v R' H' fp' fr → isPk r = false → Pin mu σ σ' → D.rt v H'
/-- the same end from a later state -/
theorem Post.later {K : PySem.W.Frag} {mu : List Nat} {R H R1 H1 : Hp} {fp fp1 : Nat → List Addr} {σ σ1 : St} {D : Ends} {o : Out} (h : Post K mu R H fp σ D o) (g : Goes R H fp R1 H1 fp1) (p : Pin mu σ σ1) : Post K mu R1 H1 fp1 σ1 D o := by
  cases o with
  | nx E' => exact fun σ' R' H' fp' ok g' p' => h σ' R' H' fp' ok (g.trans g') (p.trans p')
  | bk E' => exact fun σ' R' H' fp' ok g' p' => h σ' R' H' fp' ok (g.trans g') (p.trans p')
  | ct E' => exact fun σ' R' H' fp' ok g' p' => h σ' R' H' fp' ok (g.trans g') (p.trans p')
  | rt r E' => exact fun v σ' R' H' fp' fr a np p' => h v σ' R' H' fp' fr (a.after g) np (p.trans p')
def JSt (G : Gm) (C : Ct) (K : PySem.W.Frag) (x : Sm) (t : TS) : Prop := ∀ (E : Env) (o : Out) (σ : St) (R H : Hp) (fp : Nat → List Addr) (D : Ends), exS G x E = some o → EnvOk K R H E σ fp → Post K C.muts R H fp σ D o → t D σ H
def JS (G : Gm) (C : Ct) (st : Stmt) (x : Sm) : Prop := ∀ X, Good G C X → ∃ t, PS X st t ∧ JSt G C X.K x t
def JBt (G : Gm) (C : Ct) (K : PySem.W.Frag) (x : Sms) (t : TS) : Prop := ∀ (E : Env) (o : Out) (σ : St) (R H : Hp) (fp : Nat → List Addr) (D : Ends), exB G x E = some o → EnvOk K R H E σ fp → Post K C.muts R H fp σ D o → t D σ H
def JB (G : Gm) (C : Ct) (st : List Stmt) (x : Sms) : Prop := ∀ X, Good G C X → ∃ t, PSs X st t ∧ JBt G C X.K x t
theorem JB_nil : JB G C [] .nil := fun X g => ⟨_, pss_nil, fun E o σ R H fp D he ok k => by
  simp only [exB] at he; cases he
  exact k σ R H fp ok (.refl ok) (.refl _ _)⟩
theorem JB_cons {st : Stmt} {rest : List Stmt} {x : Sm} {r : Sms} (h : JS G C st x) (t : JB G C rest r) : JB G C (st :: rest) (.cons x r) := fun X g => by
  obtain ⟨t1, p1, j1⟩ := h X g
  obtain ⟨t2, p2, j2⟩ := t X g
  refine ⟨_, pss_cons p1 p2, fun E o σ R H fp D he ok k => ?_⟩
  show t1 { D with nx := t2 D } σ H
  cases h1 : exS G x E with
  | none => simp only [exB, h1] at he; cases he
  | some o1 =>
    refine j1 _ _ _ _ _ _ _ h1 ok ?_
    cases o1 with
    | nx E1 =>
      simp only [exB, h1] at he
      exact fun σ' R' H' fp' ok' g' p' => j2 _ _ _ _ _ _ _ he ok' (k.later g' p')
    | bk E1 => simp only [exB, h1] at he; cases he; exact k
    | ct E1 => simp only [exB, h1] at he; cases he; exact k
    | rt r E1 => simp only [exB, h1] at he; cases he; exact k
theorem JB_kill {sts : List Stmt} {r : Sms} (is : List Nat) (t : JB G C sts r) : JB G C sts (.kill is r) := fun X g => by
  obtain ⟨t2, p2, j2⟩ := t X g
  refine ⟨_, p2, fun E o σ R H fp D he ok k => ?_⟩
  simp only [exB] at he
  obtain ⟨fp', ok', g', _⟩ := ok.kill is
  exact j2 _ _ _ _ _ _ _ he ok' (k.later g' (.refl _ _))
theorem JS_bad {st : Stmt} : JS G C st .bad := fun X g => ⟨_, ps_never, fun E o σ R H fp D he ok k => by simp only [exS] at he; cases he⟩
theorem JS_pass : JS G C (.Pass pos) .skip := fun X g => ⟨_, ps_pass, fun E o σ R H fp D he ok k => by
  simp only [exS] at he; cases he
  exact k σ R H fp ok (.refl ok) (.refl _ _)⟩
theorem JS_doc {x j pos'} : JS G C (.Expr (.Constant (.str x) j pos) pos') .skip := fun X g => ⟨_, ps_doc, fun E o σ R H fp D he ok k => by
  simp only [exS] at he; cases he
  exact k σ R H fp ok (.refl ok) (.refl _ _)⟩
theorem JS_brk : JS G C (.Break pos) .brk := fun X g => ⟨_, ps_break, fun E o σ R H fp D he ok k => by
  simp only [exS] at he; cases he
  exact k σ R H fp ok (.refl ok) (.refl _ _)⟩
theorem JS_cont : JS G C (.Continue pos) .cont := fun X g => ⟨_, ps_continue, fun E o σ R H fp D he ok k => by
  simp only [exS] at he; cases he
  exact k σ R H fp ok (.refl ok) (.refl _ _)⟩
def notComp : Expr → Bool
  | .ListComp _ _ _ _ => false
  | .SetComp _ _ _ _ => false
  | .DictComp _ _ _ _ _ => false
  | _ => true
theorem notComp_is {e : Expr} {t : Option Expr} {l : Nat} {env : PySem.Env} (h : notComp e = true) : swapsWith e t l env = pure false := by
  cases e <;> first | rfl | cases h
theorem JS_expr {e : Expr} {x : Ex} (h : JE G C e x) (hn : notComp e = true) : JS G C (.Expr e pos) (.expr x) := fun X g => by
  obtain ⟨t, p, j⟩ := h X g
  refine ⟨_, ps_expr p (notComp_is hn), fun E o σ R H fp D he ok k => ?_⟩
  cases ha : ev G x E with
  | none => simp only [exS, ha] at he; cases he
  | some q =>
    obtain ⟨r, E1⟩ := q
    simp only [exS, ha] at he
    cases he
    show t σ H fun _ H1 => D.nx σ H1
    exact one j ha ok fun v R1 H1 fp1 ok1 g1 _ _ => k σ R1 H1 fp1 ok1 g1 (.refl _ _)

/-! ### results that are kept as ours -/
theorem toSlot_ok {K : PySem.W.Frag} {R H : Hp} {r sv : SV} {v : V} {fr : List Addr} (hs : r.toSlot = some sv) (q : SvOk K R H r v fr) : SvOk K R H sv v fr ∧ isPk sv = false := by
  cases r with
  | fz d => cases hs; exact ⟨q, rfl⟩
  | ow n d => cases hs; exact ⟨q, rfl⟩
  | pk n d =>
    unfold SV.toSlot at hs
    simp only at hs
    split at hs
    · rename_i i
      cases hs
      obtain ⟨⟨f, h⟩, e⟩ := q
      refine ⟨⟨?_, e⟩, rfl⟩
      cases n with
      | zero => unfold RpO at h; exact h.1
      | succ n => cases d <;> first | exact h.elim | cases i
    · cases hs
theorem Aft.toSlot {K : PySem.W.Frag} {R H R' H' : Hp} {fp fp' : Nat → List Addr} {E' : Env} {σ : St} {r sv : SV} {v : V} {fr : List Addr} (a : Aft K R H fp E' σ r v R' H' fp' fr) (hs : r.toSlot = some sv) : Aft K R H fp E' σ sv v R' H' fp' fr ∧ isPk sv = false :=
  ⟨⟨a.env, a.goes, (toSlot_ok hs a.val).1, a.free, a.nd, a.new⟩, (toSlot_ok hs a.val).2⟩
/-- a slot gets a result -/
theorem Aft.store {K : PySem.W.Frag} {R H R' H' : Hp} {fp fp' : Nat → List Addr} {E' : Env} {σ : St} {sv : SV} {v : V} {fr : List Addr} (a : Aft K R H fp E' σ sv v R' H' fp' fr) (np : isPk sv = false) (i : Nat) : ∃ fp2, EnvOk K R' H' (E'.set i (some sv)) (σ.set i (some v)) fp2 ∧ Goes R H fp R' H' fp2 ∧ ∀ j b, b ∈ fp2 j → b ∈ fp' j ∨ b ∈ fr := by
  by_cases hi : i < E'.length
  · have p := a.env.put (sv := sv) (v := v) (f := fr) (i := i) hi a.env.sub (fun _ _ _ _ _ z => z) a.val np a.nd fun b hb => ⟨(a.free b hb).1, fun j _ => (a.free b hb).2 j⟩
    refine ⟨_, p, ⟨a.goes.ext, a.goes.frame, fun b z => ?_, a.goes.there, p.dis⟩, fun j b hb => ?_⟩
    · rcases z with z | ⟨j, z⟩
      · exact a.goes.dom b (.inl z)
      · by_cases h : j = i
        · rw [if_pos h] at z; exact a.new b z
        · rw [if_neg h] at z; exact a.goes.dom b (.inr ⟨j, z⟩)
    · by_cases h : j = i
      · rw [if_pos h] at hb; exact .inr hb
      · rw [if_neg h] at hb; exact .inl hb
  · refine ⟨fp', ?_, a.goes, fun j b hb => .inl hb⟩
    rw [set_out hi, set_out (by rw [← a.env.len]; exact hi)]
    exact a.env
theorem pin_set {mu : List Nat} {σ : St} {i : Nat} {v : Option V} (h : mu.contains i = false) : Pin mu σ (σ.set i v) := fun j hj => by
  have : i ≠ j := fun z => by
    subst z
    rw [Bool.eq_false_iff] at h
    exact h (by simpa using hj)
  rw [List.getElem?_set_ne this]
theorem set_end {x : Ex} {t : TE} {i : Nat} (j : JEt G X x t) (hm : C.muts.contains i = false) : JSt G C X.K (.set i x) (tAsg t (gName i)) := fun E o σ R H fp D he ok k => by
  cases ha : ev G x E with
  | none => simp only [exS, ha] at he; cases he
  | some q =>
    obtain ⟨r, E1⟩ := q
    simp only [exS, ha] at he
    split at he
    · cases he
    · rename_i sv hs
      cases he
      show t σ H fun x H1 => D.nx (σ.set i (some x)) H1
      refine j _ _ _ _ _ _ _ _ ha ok fun v R1 H1 fp1 fr a _ => ?_
      obtain ⟨a', np⟩ := a.toSlot hs
      obtain ⟨fp2, ok2, g2, _⟩ := a'.store np i
      exact k _ R1 H1 fp2 ok2 g2 (pin_set hm)
theorem JS_set {e : Expr} {x : Ex} {y : Str} {i : Nat} {p : Pos} (hN : C.N[i]? = some y) (hl : locB C y = true) (hm : C.muts.contains i = false) (h : JE G C e x) (hn : notComp e = true) : JS G C (.Assign [.Name y p] e pos) (.set i x) := fun X g => by
  obtain ⟨t, pe, j⟩ := h X g
  exact ⟨_, ps_set (by rw [g.N]; exact g.nd) (by rw [g.N]; exact hN) (g.loc hl).1 pe (notComp_is hn) (g.loc hl).2, set_end j hm⟩
/-- y = [..] -/
def swapB (C : Ct) (y : Str) (p vp : Pos) (scope : Scope) : Bool := (if C.sc.kind.isAnnotationScope then ScopeKind.function else C.sc.kind) == .function && C.sc.names.lookup y == some .local && p.line == vp.line && !(scope.names.any fun (n, k) => n == y && (k == .local || k == .cell))
theorem swap_is (g : Good G C X) {elt : Expr} {gs : List Comprehension} {scope : Scope} {y : Str} {p vp : Pos} {l : Nat} {b : Bool} (h : swapB C y p vp scope = b) : swapsWith (.ListComp elt gs scope vp) (some (.Name y p)) l X.env = pure b := by
  rw [← h]
  unfold swapB
  rw [← g.sc]
  rfl
theorem JS_setLc {elt tg iter : Expr} {ifs : List Expr} {scope : Scope} {own : List (Str × Nat)} {it : It} {t : Tg} {c : Oe} {e : Ex} {n : Nat} {y : Str} {i : Nat} {p vp : Pos} (hN : C.N[i]? = some y) (hl : locB C y = true) (hm : C.muts.contains i = false)
    (ok : blkC C.N C.sc scope own = true) (hi : JI G C tg iter it) (hg : JG G (C.blk scope) tg t) (he : JE G (C.blk scope) elt e)
    (hc : (ifs = [] ∧ c = .no) ∨ ∃ ce cx, ifs = [ce] ∧ c = .so cx ∧ JT G (C.blk scope) ce cx) (hsl : t.slots.all (fun i => (own.map (·.2)).contains i) = true) (hpi : plainIt iter = true) : JS G C (.Assign [.Name y p] (.ListComp elt [⟨tg, iter, ifs, 0⟩] scope vp) pos) (.set i (.lc n (own.map (·.2)) t it c e)) := fun X g => by
  obtain ⟨wi, gg, tt, te, p1, p2, p3, p4, p5, p6⟩ := lc_parts ok hi hg he hc hsl X g
  cases hb : swapB C y p vp scope with
  | false => exact ⟨_, ps_set (by rw [g.N]; exact g.nd) (by rw [g.N]; exact hN) (g.loc hl).1 (pe_lc g.calm (by rw [g.N]; exact g.nd) p1 p2 p3 p4 p5 (plainIt_is hpi)) (swap_is g hb) (g.loc hl).2, set_end (p6 n) hm⟩
  | true =>
    have hy : X.env.scope.names.lookup y = some .local := by
      unfold swapB at hb
      simp only [Bool.and_eq_true, beq_iff_eq] at hb
      rw [g.sc]; exact hb.1.1.2
    exact ⟨_, ps_setLc g.calm (by rw [g.N]; exact g.nd) (by rw [g.N]; exact hN) hy (swap_is g hb) p1 p2 p3 p4 p5 (plainIt_is hpi), set_end (p6 n) hm⟩
end
end VI

/-! VI, part 12: the other statements. -/
namespace VI
open PySem L2
section
variable {G : Gm} {X : Cx} {C : Ct} {pos : Pos}
theorem pin_sb {mu is : List Nat} {σ σ' : St} (h : SameBut is σ σ') (hm : is.all (fun i => !mu.contains i) = true) : Pin mu σ σ' := fun j hj => h.2 j fun z => by
  rw [List.all_eq_true] at hm
  have := hm j z
  simp at this
  exact this hj
theorem sole_name {t e : Expr} {l : Nat} {env : PySem.Env} (h : notComp e = true) : swapsWithSole [t] e l env = pure false := notComp_is h
def notTup : Expr → Bool
  | .Tuple _ _ _ => false
  | _ => true
theorem stores_none {t e : Expr} {env : PySem.Env} (h : notTup e = true) : swappedStores [t] e env = pure none := by
  cases e <;> first | (cases t <;> rfl) | cases h
theorem JS_unp {es : List Expr} {k : Nat} {p : Pos} {is : List Nat} {e : Expr} {x : Ex} (hg : JGs G C es is) (hm : is.all (fun i => !C.muts.contains i) = true) (h : JE G C e x) (hn : notComp e = true) (ht : notTup e = true) : JS G C (.Assign [.Tuple es k p] e pos) (.unp is x) := fun X g => by
  obtain ⟨t, pe, j⟩ := h X g
  obtain ⟨gg, pg, jg⟩ := JG_tup (k := k) (pos := p) hg X g
  refine ⟨_, ps_asg pe pg (sole_name hn) (stores_none ht) rfl, fun E o σ R H fp D he ok kk => ?_⟩
  cases ha : ev G x E with
  | none => simp only [exS, ha] at he; cases he
  | some q =>
    obtain ⟨r, E1⟩ := q
    simp only [exS, ha] at he
    split at he
    · cases he
    · rename_i hp
      cases hs : tgSet E1 (.tup is) r.d with
      | none => rw [hs] at he; cases he
      | some E2 =>
        rw [hs] at he
        cases he
        show t σ H fun x H1 => gg x σ H1 D.nx
        refine one j ha ok fun v R1 H1 fp1 ok1 g1 q1 _ => ?_
        exact jg _ _ _ _ _ _ _ _ _ hs ok1 (res_fz hp q1) fun σ' fp' ok' g' sb => kk σ' R1 H1 fp' ok' (g1.trans g') (pin_sb sb hm)
/-! ### several at once -/
/-- results that are still ours, apart from each other -/
def RsOwn (K : PySem.W.Frag) (R H : Hp) (fp : Nat → List Addr) : List SV → List V → List Addr → Prop
  | [], vs, f => vs = [] ∧ f = []
  | r :: rs, vs, f => ∃ v t f1 f2, vs = v :: t ∧ f = f1 ++ f2 ∧ SvOk K R H r v f1 ∧ RsOwn K R H fp rs t f2
theorem RsOwn.there {K : PySem.W.Frag} {R H : Hp} {fp : Nat → List Addr} : ∀ {rs : List SV} {vs : List V} {f : List Addr}, RsOwn K R H fp rs vs f → ∀ a ∈ f, H a ≠ none
  | [], _, _, q, a, ha => by rw [q.2] at ha; cases ha
  | r :: rs, vs, f, q, a, ha => by
    obtain ⟨v, t, f1, f2, rfl, rfl, q1, q2⟩ := q
    rcases List.mem_append.mp ha with ha | ha
    · cases r with
      | fz d => rw [q1.2] at ha; cases ha
      | ow n d => exact RpO.there q1 a ha
      | pk n d => rw [q1.2] at ha; cases ha
    · exact RsOwn.there q2 a ha
def JAOt (G : Gm) (X : Cx) (x : Exs) (t : TA) : Prop := ∀ (E E' : Env) (rs : List SV) (σ : St) (R H : Hp) (fp : Nat → List Addr) (Q : List V → Hp → Prop), evs G x E = some (rs, E') → EnvOk X.K R H E σ fp →
  (∀ vs R' H' fp' f, EnvOk X.K R' H' E' σ fp' → Goes R H fp R' H' fp' → RsOwn X.K R' H' fp' rs vs f → Free R' fp' f → f.Nodup → (∀ a ∈ f, R a ≠ none ∨ (∃ i, a ∈ fp i) ∨ H a = none) → (x.pure = true → Le H H') → Q vs H') → t σ H Q
def JAO (G : Gm) (C : Ct) (es : List Expr) (x : Exs) : Prop := ∀ X, Good G C X → ∃ t, PA X es t ∧ JAOt G X x t
theorem JAO_nil : JAO G C [] .nil := fun X g => ⟨_, pa_nil, fun E E' rs σ R H fp Q he ok k => by
  simp only [evs] at he; cases he
  exact k [] R H fp [] ok (.refl ok) ⟨rfl, rfl⟩ (fun _ z => (nomatch z)) List.nodup_nil (fun _ z => (nomatch z)) fun _ => Le.refl _⟩
theorem carryO {K : PySem.W.Frag} {R R' H H' : Hp} {fp fp' : Nat → List Addr} {r : SV} {v : V} {f : List Addr} (q : SvOk K R H r v f) (fr : Free R fp f) (g : Goes R H fp R' H' fp') (h : r.stable = true ∨ Le H H') : SvOk K R' H' r v f := by
  cases r with
  | fz d => exact ⟨q.1.mono g.ext, q.2⟩
  | ow n d => exact g.keepO q fr
  | pk n d =>
    obtain ⟨q, e⟩ := q
    have := SvOk.carry (r := .pk n d) (v := v) ⟨q, rfl⟩ (fun _ _ z => nomatch z) g h
    exact ⟨this.1, e⟩
theorem JAO_cons {e : Expr} {es : List Expr} {x : Ex} {xs : Exs} (hs : noStar e = true) (h : JE G C e x) (t : JAO G C es xs) : JAO G C (e :: es) (.cons x xs) := fun X g => by
  obtain ⟨te, pe, je⟩ := h X g
  obtain ⟨ta, pa, ja⟩ := t X g
  refine ⟨_, pa_cons pe pa (noStar_is hs es X.env), fun E E' rs σ R H fp Q he ok k => ?_⟩
  obtain ⟨r, E1, ts, ea, eb, st, rfl⟩ := evs_cons he
  show te σ H fun x H1 => ta σ H1 fun xs H2 => Q (x :: xs) H2
  refine je _ _ _ _ _ _ _ _ ea ok fun v R1 H1 fp1 f1 a1 p1 => ?_
  refine ja _ _ _ _ _ _ _ _ eb a1.env fun vs R2 H2 fp2 f2 ok2 g2 q2 fr2 nd2 new2 p2 => ?_
  have fr1 : Free R2 fp2 f1 := g2.free a1.there a1.free
  refine k (v :: vs) R2 H2 fp2 (f1 ++ f2) ok2 (a1.goes.trans g2) ⟨v, vs, f1, f2, rfl, rfl, carryO a1.val a1.free g2 ?_, q2⟩ (fun a ha => ?_) (List.nodup_append.mpr ⟨a1.nd, nd2, fun a ha b hb z => ?_⟩) (fun a ha => ?_) fun hp => ?_
  · rcases Bool.or_eq_true_iff.mp st with z | z
    · exact .inl z
    · exact .inr (p2 z)
  · rcases List.mem_append.mp ha with ha | ha
    · exact fr1 a ha
    · exact fr2 a ha
  · subst z
    rcases new2 a hb with z | ⟨j, z⟩ | z
    · exact z (a1.free a ha).1
    · exact (a1.free a ha).2 j z
    · exact a1.there a ha z
  · rcases List.mem_append.mp ha with ha | ha
    · exact a1.new a ha
    · rcases new2 a ha with z | z | z
      · exact a1.goes.dom a (.inl z)
      · exact a1.goes.dom a (.inr z)
      · exact .inr (.inr (a1.goes.there a z))
  · have hp' : (x.pure && xs.pure) = true := hp
    obtain ⟨z1, z2⟩ := Bool.and_eq_true_iff.mp hp'
    exact (p1 z1).trans (p2 z2)
def sets (σ : St) : List Nat → List V → St
  | i :: is, v :: vs => sets (σ.set i (some v)) is vs
  | _, _ => σ
theorem setSv_ok {K : PySem.W.Frag} {R0 H0 R H : Hp} {fp0 : Nat → List Addr} : ∀ {is : List Nat} {rs : List SV} {vs : List V} {f : List Addr} {E E' : Env} {σ : St} {fp : Nat → List Addr}, setSv E is rs = some E' → EnvOk K R H E σ fp → Goes R0 H0 fp0 R H fp → RsOwn K R H fp rs vs f → Free R fp f → f.Nodup →
    (∀ a ∈ f, R0 a ≠ none ∨ (∃ i, a ∈ fp0 i) ∨ H0 a = none) → ∃ fp', EnvOk K R H E' (sets σ is vs) fp' ∧ Goes R0 H0 fp0 R H fp' ∧ SameBut is σ (sets σ is vs) ∧ vs.length = is.length
  | [], [], vs, f, E, E', σ, fp, h, ok, g, q, fr, nd, new => by
    unfold setSv at h; cases h
    rw [q.1]
    exact ⟨fp, ok, g, .refl _ _, rfl⟩
  | [], _ :: _, _, _, _, _, _, _, h, _, _, _, _, _, _ => by unfold setSv at h; cases h
  | _ :: _, [], _, _, _, _, _, _, h, _, _, _, _, _, _ => by unfold setSv at h; cases h
  | i :: is, r :: rs, vs, f, E, E', σ, fp, h, ok, g, q, fr, nd, new => by
    unfold setSv at h
    obtain ⟨v, t, f1, f2, rfl, rfl, q1, q2⟩ := q
    obtain ⟨n1, n2, n3⟩ := List.nodup_append.mp nd
    split at h
    · rename_i sv hs
      obtain ⟨qs, np⟩ := toSlot_ok hs q1
      have a : Aft K R0 H0 fp0 E σ sv v R H fp f1 := ⟨ok, g, qs, fun a ha => fr a (List.mem_append_left _ ha), n1, fun a ha => new a (List.mem_append_left _ ha)⟩
      obtain ⟨fp2, ok2, g2, sub2⟩ := a.store np i
      obtain ⟨fp3, ok3, g3, sb, hl⟩ := setSv_ok h ok2 g2 (vs := t) (f := f2) (by
        have : ∀ {rs : List SV} {vs : List V} {f : List Addr}, RsOwn K R H fp rs vs f → RsOwn K R H fp2 rs vs f := by
          intro rs
          induction rs with
          | nil => intro vs f q; exact q
          | cons r rs ih =>
            intro vs f q
            obtain ⟨v, t, f1, f2, e1, e2, q1, q2⟩ := q
            exact ⟨v, t, f1, f2, e1, e2, q1, ih q2⟩
        exact this q2) (fun a ha => ⟨(fr a (List.mem_append_right _ ha)).1, fun j hj => by
          rcases sub2 j a hj with z | z
          · exact (fr a (List.mem_append_right _ ha)).2 j z
          · exact n3 a z a ha rfl⟩) n2 fun a ha => new a (List.mem_append_right _ ha)
      refine ⟨fp3, ok3, g3, (sameBut_set.mono (by simp)).trans (sb.mono fun k hk => List.mem_cons_of_mem _ hk), by rw [List.length_cons, List.length_cons, hl]⟩
    · cases h
theorem ex_par {is : List Nat} {es : Exs} {E : Env} {o : Out} (h : exS G (.par is es) E = some o) : ∃ rs E1 E2, evs G es E = some (rs, E1) ∧ setSv E1 is rs = some E2 ∧ o = .nx E2 := by
  cases ha : evs G es E with
  | none => simp only [exS, ha] at h; cases h
  | some q =>
    obtain ⟨rs, E1⟩ := q
    simp only [exS, ha] at h
    cases hs : setSv E1 is rs with
    | none => rw [hs] at h; cases h
    | some E2 => rw [hs] at h; cases h; exact ⟨rs, E1, E2, rfl, hs, rfl⟩
def swN (C : Ct) (p : Pos) (l : Nat) (x : Str) : Bool := C.sc.names.lookup x == some .local && p.line == l
theorem JS_par2 {i j : Nat} {x y : Str} {a b : Expr} {px py pt pt2 : Pos} {kt k2 : Nat} {xs : Exs} (hi : C.N[i]? = some x) (hj : C.N[j]? = some y) (hij : i ≠ j) (hx : C.sc.names.lookup x = some .local) (hy : C.sc.names.lookup y = some .local) (hm : [i, j].all (fun i => !C.muts.contains i) = true)
    (hw : ∀ X, Good G C X → swappedStores [.Tuple [.Name x px, .Name y py] kt pt] (.Tuple [a, b] k2 pt2) X.env = pure (some [x, y])) (h : JAO G C [a, b] xs) : JS G C (.Assign [.Tuple [.Name x px, .Name y py] kt pt] (.Tuple [a, b] k2 pt2) pos) (.par [i, j] xs) := fun X g => by
  obtain ⟨t, pa, ja⟩ := h X g
  refine ⟨_, ps_par g.calm (by rw [g.N]; exact g.nd) (by rw [g.N]; exact hi) (by rw [g.N]; exact hj) hij (by rw [g.sc]; exact hx) (by rw [g.sc]; exact hy) pa (hw X g) rfl, fun E o σ R H fp D he ok kk => ?_⟩
  obtain ⟨rs, E1, E2, h1, h2, rfl⟩ := ex_par he
  refine ja _ _ _ _ _ _ _ _ h1 ok fun vs R1 H1 fp1 f ok1 g1 q fr nd new _ => ?_
  obtain ⟨fp2, ok2, g2, sb, hl⟩ := setSv_ok h2 ok1 g1 q fr nd new
  match vs, hl with
  | [v, w], _ => exact ⟨v, w, rfl, kk _ R1 H1 fp2 ok2 g2 (pin_sb sb hm)⟩
theorem JS_par3 {i j l : Nat} {x y z : Str} {a b c : Expr} {px py pz pt pt2 : Pos} {kt k2 : Nat} {xs : Exs} (hi : C.N[i]? = some x) (hj : C.N[j]? = some y) (hl : C.N[l]? = some z) (hij : i ≠ j) (hil : i ≠ l) (hjl : j ≠ l) (hx : C.sc.names.lookup x = some .local) (hy : C.sc.names.lookup y = some .local) (hz : C.sc.names.lookup z = some .local)
    (hm : [i, j, l].all (fun i => !C.muts.contains i) = true)
    (hw : ∀ X, Good G C X → swappedStores [.Tuple [.Name x px, .Name y py, .Name z pz] kt pt] (.Tuple [a, b, c] k2 pt2) X.env = pure (some [x, y, z])) (h : JAO G C [a, b, c] xs) : JS G C (.Assign [.Tuple [.Name x px, .Name y py, .Name z pz] kt pt] (.Tuple [a, b, c] k2 pt2) pos) (.par [i, j, l] xs) := fun X g => by
  obtain ⟨t, pa, ja⟩ := h X g
  refine ⟨_, ps_par3 g.calm (by rw [g.N]; exact g.nd) (by rw [g.N]; exact hi) (by rw [g.N]; exact hj) (by rw [g.N]; exact hl) hij hil hjl (by rw [g.sc]; exact hx) (by rw [g.sc]; exact hy) (by rw [g.sc]; exact hz) pa (hw X g) rfl, fun E o σ R H fp D he ok kk => ?_⟩
  obtain ⟨rs, E1, E2, h1, h2, rfl⟩ := ex_par he
  refine ja _ _ _ _ _ _ _ _ h1 ok fun vs R1 H1 fp1 f ok1 g1 q fr nd new _ => ?_
  obtain ⟨fp2, ok2, g2, sb, hl⟩ := setSv_ok h2 ok1 g1 q fr nd new
  match vs, hl with
  | [v, w, u], _ => exact ⟨v, w, u, rfl, kk _ R1 H1 fp2 ok2 g2 (pin_sb sb hm)⟩
/-- names alone as targets, by their slots -/
inductive Nms (C : Ct) : List Expr → List Nat → Prop
  | nil : Nms C [] []
  | cons {x : Str} {p : Pos} {i : Nat} {es : List Expr} {is : List Nat} : C.N[i]? = some x → locB C x = true → Nms C es is → Nms C (.Name x p :: es) (i :: is)
theorem nms_pgs (g : Good G C X) : ∀ {es : List Expr} {is : List Nat}, Nms C es is → (assignEach es X.env).length = is.length ∧ (assignEach es X.env).findIdx? (·.1) = none ∧ ∃ gg, PGs X es gg ∧ ∀ (vs : List V) (σ : St) (H : Hp) (Q : St → Hp → Prop), vs.length = is.length → Q (sets σ is vs) H → gg vs σ H Q
  | _, _, .nil => ⟨rfl, rfl, _, pgs_nil, fun vs σ H Q hl q => by
    cases vs with
    | nil => exact ⟨rfl, q⟩
    | cons _ _ => cases hl⟩
  | _, _, .cons hN hl t => by
    obtain ⟨l1, l2, gg, pg, j⟩ := nms_pgs g t
    refine ⟨?_, ?_, _, pgs_cons (g.tgt hN hl) pg rfl, fun vs σ H Q hl q => ?_⟩
    · show (_ :: assignEach _ X.env).length = _
      rw [List.length_cons, l1]; rfl
    · show (((false, _) :: assignEach _ X.env).findIdx? (·.1)) = none
      rw [List.findIdx?_cons, l2]; rfl
    · cases vs with
      | nil => cases hl
      | cons v vs => exact ⟨v, vs, rfl, j vs _ H Q (Nat.succ.inj hl) q⟩
theorem JS_parN {ts es : List Expr} {is : List Nat} {kt k2 : Nat} {pt pt2 : Pos} {xs : Exs} (hn : Nms C ts is) (hm : is.all (fun i => !C.muts.contains i) = true) (hw : ∀ X, Good G C X → swappedStores [.Tuple ts kt pt] (.Tuple es k2 pt2) X.env = pure none) (h : JAO G C es xs) (hlen : is.length ≤ LN) :
    JS G C (.Assign [.Tuple ts kt pt] (.Tuple es k2 pt2) pos) (.par is xs) := fun X g => by
  obtain ⟨t, pa, ja⟩ := h X g
  obtain ⟨l1, l2, gg, pg, jg⟩ := nms_pgs g hn
  refine ⟨_, ps_asg (pe_tup pa) (pg_tup g.calm pg l1 l2) rfl (hw X g) rfl, fun E o σ R H fp D he ok kk => ?_⟩
  obtain ⟨rs, E1, E2, h1, h2, rfl⟩ := ex_par he
  refine ja _ _ _ _ _ _ _ _ h1 ok fun vs R1 H1 fp1 f ok1 g1 q fr nd new _ => ?_
  obtain ⟨fp2, ok2, g2, sb, hl⟩ := setSv_ok h2 ok1 g1 q fr nd new
  refine ⟨ln_le (by rw [hl]; exact hlen), fun p hp => ⟨p, vs, rfl, SqT.of upd_same, hl, jg vs σ _ _ hl ?_⟩⟩
  have le := le_upd (o := HO.tup vs) hp
  exact kk _ R1 _ fp2 (ok2.heap le) (g2.trans (Goes.heap ok2 le)) (pin_sb sb hm)

/-! ### x op= e -/
def AugOk (K : PySem.W.Frag) (o : Bop) (r : R2) : Prop := ∀ (x y z : D) (v w : V) (R H : Hp) (Q : VK), augD o x y = some z → Rp K R x v → Rp K H y w → (∀ u, Rp K R z u → Q u H) → r v w H Q
theorem ex_aug {i : Nat} {o : Bop} {e : Ex} {E : Env} {t : Out} (h : exS G (.aug i o e) E = some t) : ∃ y E1 d z, slot E i = some (.fz d) ∧ ev G e E = some (y, E1) ∧ augD o d y.d = some z ∧ t = .nx (E1.set i (some (.fz z))) := by
  simp only [exS] at h
  split at h
  · rename_i d hs
    cases ha : ev G e E with
    | none => rw [ha] at h; cases h
    | some q =>
      obtain ⟨y, E1⟩ := q
      rw [ha] at h
      simp only at h
      cases hz : augD o d y.d with
      | none => rw [hz] at h; cases h
      | some z => rw [hz] at h; cases h; exact ⟨y, E1, d, z, hs, rfl, hz, rfl⟩
  · cases h
theorem JS_aug {op : Operator} {o : Bop} {e : Expr} {x : Ex} {y : Str} {i : Nat} {p : Pos} (hr : ∀ X, Good G C X → ∃ r, PIp X op r ∧ AugOk X.K o r) (hN : C.N[i]? = some y) (hl : locB C y = true) (hm : C.muts.contains i = false) (h : JE G C e x) : JS G C (.AugAssign (.Name y p) op e pos) (.aug i o x) := fun X g => by
  obtain ⟨t, pe, j⟩ := h X g
  obtain ⟨r, pr, jr⟩ := hr X g
  refine ⟨_, ps_aug (by rw [g.N]; exact g.nd) (by rw [g.N]; exact hN) (g.loc hl).1 pe pr (g.loc hl).2, fun E out σ R H fp D he ok kk => ?_⟩
  obtain ⟨yv, E1, d, z, hs, ha, hz, rfl⟩ := ex_aug he
  obtain ⟨u, hu, qd, _⟩ := ok.slots i _ hs
  refine ⟨u, hu, one (Kn := fun y H1 => r u y H1 fun z H2 => D.nx (σ.set i (some z)) H2) j ha ok fun w R1 H1 fp1 ok1 g1 q1 _ => ?_⟩
  have hw := q1.deep ok1.sub
  rw [settle_d] at hw
  refine jr d yv.d z u w R1 H1 _ hz (qd.1.mono g1.ext) hw fun u2 q2 => ?_
  obtain ⟨fp', ok', g'⟩ := put_fz i ok1 q2
  exact kk _ R1 H1 fp' ok' (g1.trans g') (pin_set hm)
theorem aug_ints {o : Bop} {x y z : D} {i j : Int} (ex : x = .int i) (ey : y = .int j) (h : augD o x y = some z) : ∃ k, binI o i j = some k ∧ z = .int k := by
  subst ex; subst ey
  unfold augD at h
  simp only at h
  cases hb : binI o i j with
  | none => rw [hb] at h; cases h
  | some k => rw [hb] at h; cases h; exact ⟨k, rfl, rfl⟩
theorem aug_only {K : PySem.W.Frag} {o : Bop} {Cc : Int → Int → Prop} {gg : Int → Int → Int} (hb : ∀ i j k, binI o i j = some k → Cc i j ∧ k = gg i j) (ho : o ≠ .add) : AugOk K o (rI Cc fun i j => .int (gg i j)) := fun x y z v w R H Q h q p k => by
  unfold augD at h
  split at h
  · rename_i a b
    cases hb' : binI o a b with
    | none => rw [hb'] at h; cases h
    | some n =>
      rw [hb'] at h
      cases h
      obtain ⟨c, rfl⟩ := hb a b n hb'
      unfold Rp at q p
      exact ⟨a, b, q, p, c, k _ (by unfold Rp; rfl)⟩
  · cases o <;> first | contradiction | cases h
  · cases h
theorem aug_add_ok (X : Cx) : ∃ r, PIp X .Add r ∧ AugOk X.K .add r := by
  refine ⟨_, OpR.or iop_add iop_add_str, fun x y z v w R H Q h q p k => ?_⟩
  unfold augD at h
  split at h
  · rename_i a b
    unfold binI at h
    cases h
    unfold Rp at q p
    exact .inl ⟨a, b, q, p, k _ (by unfold Rp; rfl)⟩
  · rename_i a b
    simp only at h
    split at h
    · rename_i l
      cases h
      unfold Rp at q p
      exact .inr ⟨a, b, q, p, ln_le (of_decide_eq_true l), k _ (by unfold Rp; rfl)⟩
    · cases h
  · cases h
theorem aug_sub_ok (X : Cx) : ∃ r, PIp X .Sub r ∧ AugOk X.K .sub r :=
  ⟨_, rI_of iop_sub, aug_only (fun i j k e => ⟨trivial, by unfold binI at e; cases e; rfl⟩) (fun z => nomatch z)⟩
theorem aug_mul_ok (X : Cx) : ∃ r, PIp X .Mult r ∧ AugOk X.K .mul r := by
  refine ⟨_, (fun pins s σ H x y v u Q I rx ry (h : rI (fun i j => CMul i j ∨ CMulW i j) (fun i j => .int (i * j)) x y H Q) => ?_ : OpR X (inplaceOp .Mult) (rI (fun i j => CMul i j ∨ CMulW i j) fun i j => .int (i * j))), aug_only (fun i j k e => ?_) (fun z => nomatch z)⟩
  · obtain ⟨i, j, rfl, rfl, c, q⟩ := h
    obtain ⟨t, rfl⟩ := rx
    obtain ⟨t', rfl⟩ := ry
    refine PyProof.Rows.imul_int ⟨.int _, H, I.tok _, ⟨_, rfl⟩, q⟩ ?_
    rcases c with c | c
    · exact c.ok
    · exact c.ok
  · unfold binI at e
    simp only at e
    split at e
    · rename_i h
      cases e
      refine ⟨?_, rfl⟩
      unfold mulOk at h
      simp only [Bool.or_eq_true, decide_eq_true_eq] at h
      rcases h with (h | h) | h
      · exact .inl (.inl h)
      · exact .inl (.inr h)
      · exact .inr h
    · cases e

/-! ### stores into what is ours -/
theorem stores_none' {o i e : Expr} {p : Pos} {env : PySem.Env} : swappedStores [.Subscript o i p] e env = pure none := by
  cases e <;> rfl
theorem sole_sub {o i e : Expr} {p : Pos} {l : Nat} {env : PySem.Env} : swapsWithSole [.Subscript o i p] e l env = pure false := by
  cases e <;> rfl
theorem sub_assign {o i : Expr} {p : Pos} {env : PySem.Env} (h : plainIx i = true) (v : Value) : assign (.Subscript o i p) env v = (do
      let ov ← holding [v] (eval o env)
      let iv ← holding [v, ov] (eval i env)
      standAt p
      holding [v, ov, iv] (setItem ov iv v)
      release [v, ov, iv] []) := by
  cases i <;> first | rfl | cases h
theorem JS_setix {y : Str} {i : Nat} {p sp : Pos} {ix e : Expr} {xi x : Ex} (hN : C.N[i]? = some y) (hv : visB C.sc y = true) (hp : plainName y = true) (hx : plainIx ix = true) (hi : JE G C ix xi) (h : JE G C e x) : JS G C (.Assign [.Subscript (.Name y p) ix sp] e pos) (.setix i xi x) := fun X g => by
  obtain ⟨t, pe, j⟩ := h X g
  obtain ⟨ti, pi, ji⟩ := hi X g
  refine ⟨_, ps_asg pe (pg_sub (g.pvar hN hv hp) pi set_list (sub_assign hx)) sole_sub stores_none' rfl, fun E o σ R H fp D he ok kk => ?_⟩
  cases ha : ev G x E with
  | none => simp only [exS, ha] at he; cases he
  | some q1 =>
    obtain ⟨r, E1⟩ := q1
    simp only [exS, ha] at he
    split at he
    · cases he
    · rename_i sv hs
      cases hb : ev G xi E1 with
      | none => rw [hb] at he; cases he
      | some q2 =>
        obtain ⟨k, E2⟩ := q2
        rw [hb] at he
        simp only at he
        split at he
        · rename_i v j' xs h1 h2 h3
          split at he
          · rename_i q hq
            cases he
            show t σ H fun x H1 => ∃ w, σ[i]? = some (some w) ∧ ti σ H1 fun k H2 => rSetL w k x H2 fun H3 => D.nx σ H3
            refine j _ _ _ _ _ _ _ _ ha ok fun u R1 H1 fp1 f1 a1 _ => ?_
            obtain ⟨R1', l1, a1'⟩ := a1.settle
            have qk := res_keep a1'.val h1
            obtain ⟨w, hw⟩ := slot_at a1'.env hs
            refine ⟨w, hw, one (Kn := fun k H2 => rSetL w k u H2 fun H3 => D.nx σ H3) ji hb a1'.env fun w2 R2 H2 fp2 ok2 g2 q2 _ => ?_⟩
            rw [res_int ok2.sub q2 h2]
            obtain ⟨a, vs, rfl, ea, er, m⟩ := ok2.mutL (es := xs.set q v) h3 hw
            have m' := m _ (er.set (qk.mono g2.ext) q)
            exact ⟨a, vs, j', q, rfl, rfl, ea, by rw [← er.length]; exact hq, kk σ R2 _ _ m'.1 ((a1'.goes.trans g2).trans m'.2) (.refl _ _)⟩
          · cases he
        · cases he
theorem EnvOk.put0 {K : PySem.W.Frag} {R H H' : Hp} {E : Env} {σ : St} {fp : Nat → List Addr} {i n n' : Nat} {d d' : D} {v : V} {f : List Addr} (ok : EnvOk K R H E σ fp) (hs : slot E i = some (.ow n d)) (hv : σ[i]? = some (some v)) (keep : ∀ a o, H a = some o → a ∉ fp i → H' a = some o)
    (q : RpO K R H' n' d' v f) (nd : f.Nodup) (fr : ∀ a ∈ f, a ∈ fp i ∨ (R a = none ∧ ∀ j, a ∉ fp j)) : EnvOk K R H' (E.set i (some (.ow n' d'))) σ (fun j => if j = i then f else fp j) := by
  have hi : i < E.length := by
    unfold slot at hs
    cases h : E[i]? with
    | none => rw [h] at hs; cases hs
    | some z => exact (List.getElem?_eq_some_iff.mp h).1
  have hsub : Le R H' := fun a o e => keep a o (ok.sub a o e) fun hm => by
    rw [ok.dis i a hm] at e; cases e
  have free : ∀ a ∈ f, R a = none ∧ ∀ j, j ≠ i → a ∉ fp j := fun a ha => by
    rcases fr a ha with h | h
    · exact ⟨ok.dis i a h, fun j hj hm => hj (ok.sep j i a hm h)⟩
    · exact ⟨h.1, fun j _ => h.2 j⟩
  have p := ok.put (sv := .ow n' d') (v := v) (f := f) (i := i) (H' := H') hi hsub (fun j hj a ha o e => keep a o e fun hm => hj (ok.sep j i a ha hm)) q rfl nd free
  rw [set_same hv] at p
  exact p
theorem JS_append {y : Str} {i : Nat} {p apos p2 : Pos} {e : Expr} {x : Ex} (hN : C.N[i]? = some y) (hv : visB C.sc y = true) (hp : plainName y = true) (hs : noStar e = true) (hline : (apos.endLine == p2.line) = true) (h : JE G C e x) : JS G C (.Expr (.Call (.Attribute (.Name y p) "append" apos) [e] [] p2) pos) (.append i x) := fun X g => by
  obtain ⟨t, pe, j⟩ := h X g
  have hs' : [e].all noStar = true := by rw [List.all_cons, hs]; rfl
  refine ⟨_, ps_expr (pe_bm PySem.F.plainAttrs_list PySem.F.slot_list_append PySem.F.type_list_append mt_append (g.pvar hN hv hp) (pa_cons pe pa_nil (noStar_is hs [] X.env)) rfl (few_args hs' (by simp)) hline (noStar_is hs [] X.env) rfl) rfl, fun E o σ R H fp D he ok kk => ?_⟩
  simp only [exS] at he
  split at he
  · rename_i n0 ds0 h0
    cases ha : ev G x E with
    | none => rw [ha] at he; cases he
    | some q1 =>
      obtain ⟨r, E1⟩ := q1
      rw [ha] at he
      simp only at he
      obtain ⟨w, hw⟩ := slot_at ok h0
      show ∃ v, σ[i]? = some (some v) ∧ tyV X.K "list" v H ∧ t σ H fun x H1 => rAppend v [x] H1 fun _ H2 => D.nx σ H2
      have hty : tyV X.K "list" w H := by
        obtain ⟨w', e1, q, _⟩ := ok.slots i _ h0
        rw [hw] at e1
        cases e1
        cases n0 with
        | zero =>
          have q' : RpO X.K R H 0 (.list ds0) w (fp i) := q
          unfold RpO at q'
          have q'' := q'.1
          unfold Rp at q''
          obtain ⟨a, xs, rfl, ea, _⟩ := q''
          exact .inl ⟨rfl, xs, SqL.of (ok.sub _ _ ea)⟩
        | succ n0 =>
          have q' : RpO X.K R H (n0 + 1) (.list ds0) w (fp i) := q
          unfold RpO at q'
          obtain ⟨a, xs, f, rfl, ea, _⟩ := q'
          exact .inl ⟨rfl, xs, SqL.of ea⟩
      refine ⟨w, hw, hty, ?_⟩
      split at he
      · rename_i xs h1
        split at he
        · rename_i v hk
          split at he
          · rename_i hl
            cases he
            refine one (Kn := fun x H1 => rAppend w [x] H1 fun _ H2 => D.nx σ H2) j ha ok fun u R1 H1 fp1 ok1 g1 q1 _ => ?_
            have qk := res_keep q1 hk
            obtain ⟨a, vs, rfl, ea, er, m⟩ := ok1.mutL (es := xs ++ [v]) h1 hw
            have m' := m _ (er.append (.cons qk .nil))
            exact ⟨a, vs, u, rfl, rfl, ea, ln_lt (by rw [← er.length]; exact hl), kk σ R1 _ _ m'.1 (g1.trans m'.2) (.refl _ _)⟩
          · cases he
        · cases he
      · rename_i n xs h1
        split at he
        · split at he
          · rename_i k v hk
            cases he
            obtain ⟨rfl, hl⟩ := hk
            refine j _ _ _ _ _ _ _ _ ha ok fun u R1 H1 fp1 f1 a1 _ => ?_
            obtain ⟨w', e1, q, _⟩ := a1.env.slots i _ h1
            rw [hw] at e1
            cases e1
            have q' : RpO X.K R1 H1 (n + 2) (.list xs) w (fp1 i) := q
            unfold RpO at q'
            obtain ⟨a, vs, f, rfl, ea, ef, it⟩ := q'
            have nd := a1.env.nd i
            rw [ef] at nd
            obtain ⟨nd1, nd2⟩ := List.nodup_cons.mp nd
            have dj : ∀ b ∈ f1, b ∉ fp1 i := fun b hb => (a1.free b hb).2 i
            have cell : ∀ b, b ≠ a → ∀ o, H1 b = some o → upd H1 a (.lst (vs ++ [u])) b = some o := fun b hb o z => by rw [upd_ne hb]; exact z
            have nf : ∀ b ∈ f1, b ≠ a := fun b hb z => dj b hb (by rw [ef, z]; exact List.mem_cons_self)
            have qn : RpO X.K R1 (upd H1 a (.lst (vs ++ [u]))) (n + 2) (.list (xs ++ [v])) (.ref a) (a :: (f ++ f1)) := by
              unfold RpO
              refine ⟨a, vs ++ [u], f ++ f1, rfl, upd_same, rfl, RpOs.append (it.mono fun d w f' hs p => p.mono (Le.refl _) fun b hb o z => cell b (fun y => nd1 (y ▸ hs b hb)) o z) ?_⟩
              exact RpO.mono (Le.refl _) (fun b hb o z => cell b (nf b hb) o z) a1.val
            have m := a1.env.put0 h1 hw (H' := upd H1 a (.lst (vs ++ [u]))) (fun b o z hb => cell b (fun y => hb (by rw [ef, y]; exact List.mem_cons_self)) o z) qn (List.nodup_cons.mpr ⟨fun z => ?_, List.nodup_append.mpr ⟨nd2, a1.nd, fun b hb c hc z => dj c hc (by rw [ef, ← z]; exact List.mem_cons_of_mem _ hb)⟩⟩) (fun b hb => ?_)
            · have gg : Goes R H fp R1 (upd H1 a (.lst (vs ++ [u]))) (fun j => if j = i then a :: (f ++ f1) else fp1 j) := by
                refine ⟨a1.goes.ext, fun b o z nn => ?_, fun b z => ?_, fun b z => a1.goes.there b ?_, m.dis⟩
                · refine cell b (fun y => ?_) o (a1.goes.frame b o z nn)
                  have : b ∈ fp1 i := by rw [ef, y]; exact List.mem_cons_self
                  rcases a1.goes.dom b (.inr ⟨i, this⟩) with w | ⟨k, w⟩ | w
                  · exact w (a1.goes.ext.none (a1.goes.dis i b this))
                  · exact nn k w
                  · rw [w] at z; cases z
                · rcases z with z | ⟨k, z⟩
                  · exact a1.goes.dom b (.inl z)
                  · by_cases y : k = i
                    · rw [if_pos y] at z
                      rcases List.mem_cons.mp z with z | z
                      · exact a1.goes.dom b (.inr ⟨i, by rw [ef, z]; exact List.mem_cons_self⟩)
                      · rcases List.mem_append.mp z with z | z
                        · exact a1.goes.dom b (.inr ⟨i, by rw [ef]; exact List.mem_cons_of_mem _ z⟩)
                        · exact a1.new b z
                    · rw [if_neg y] at z; exact a1.goes.dom b (.inr ⟨k, z⟩)
                · by_cases y : b = a
                  · subst y; rw [upd_same] at z; cases z
                  · rw [upd_ne y] at z; exact z
              exact ⟨a, vs, u, rfl, rfl, ea, ln_lt (by rw [← it.length]; exact hl), kk σ R1 _ _ m gg (.refl _ _)⟩
            · rcases List.mem_append.mp z with z | z
              · exact nd1 z
              · exact nf a z rfl
            · rcases List.mem_cons.mp hb with z | hb
              · exact .inl (by rw [ef, z]; exact List.mem_cons_self)
              · rcases List.mem_append.mp hb with hb | hb
                · exact .inl (by rw [ef]; exact List.mem_cons_of_mem _ hb)
                · exact .inr (a1.free b hb)
          · cases he
        · cases he
      · cases he
  · cases he
theorem list_ty {K : PySem.W.Frag} {R H : Hp} {E : Env} {σ : St} {fp : Nat → List Addr} {i n : Nat} {ds : List D} {w : V} (ok : EnvOk K R H E σ fp) (h0 : slot E i = some (.ow n (.list ds))) (hw : σ[i]? = some (some w)) : tyV K "list" w H := by
  obtain ⟨w', e1, q, _⟩ := ok.slots i _ h0
  rw [hw] at e1
  cases e1
  cases n with
  | zero =>
    have q' : RpO K R H 0 (.list ds) w (fp i) := q
    unfold RpO at q'
    have q'' := q'.1
    unfold Rp at q''
    obtain ⟨a, xs, rfl, ea, _⟩ := q''
    exact .inl ⟨rfl, xs, SqL.of (ok.sub _ _ ea)⟩
  | succ n =>
    have q' : RpO K R H (n + 1) (.list ds) w (fp i) := q
    unfold RpO at q'
    obtain ⟨a, xs, f, rfl, ea, _⟩ := q'
    exact .inl ⟨rfl, xs, SqL.of ea⟩
theorem JS_extend {y : Str} {i : Nat} {p apos p2 : Pos} {e : Expr} {x : Ex} (hN : C.N[i]? = some y) (hv : visB C.sc y = true) (hp : plainName y = true) (hs : noStar e = true) (hline : (apos.endLine == p2.line) = true) (h : JE G C e x) : JS G C (.Expr (.Call (.Attribute (.Name y p) "extend" apos) [e] [] p2) pos) (.extend i x) := fun X g => by
  obtain ⟨t, pe, j⟩ := h X g
  have hs' : [e].all noStar = true := by rw [List.all_cons, hs]; rfl
  refine ⟨_, ps_expr (pe_bm PySem.F.plainAttrs_list PySem.F.slot_list_extend PySem.F.type_list_extend mt_extend (g.pvar hN hv hp) (pa_cons pe pa_nil (noStar_is hs [] X.env)) rfl (few_args hs' (by simp)) hline (noStar_is hs [] X.env) rfl) rfl, fun E o σ R H fp D he ok kk => ?_⟩
  simp only [exS] at he
  split at he
  · rename_i n0 ds0 h0
    cases ha : ev G x E with
    | none => rw [ha] at he; cases he
    | some q1 =>
      obtain ⟨r, E1⟩ := q1
      rw [ha] at he
      simp only at he
      obtain ⟨w, hw⟩ := slot_at ok h0
      show ∃ v, σ[i]? = some (some v) ∧ tyV X.K "list" v H ∧ t σ H fun x H1 => rExtend v [x] H1 fun _ H2 => D.nx σ H2
      refine ⟨w, hw, list_ty ok h0 hw, ?_⟩
      split at he
      · rename_i xs ys h1 h2 h3
        split at he
        · rename_i hl
          cases he
          refine one (Kn := fun x H1 => rExtend w [x] H1 fun _ H2 => D.nx σ H2) j ha ok fun u R1 H1 fp1 ok1 g1 q1 _ => ?_
          obtain ⟨b, zs, rfl, eb, er', _⟩ := res_list ok1.sub q1 h3
          obtain ⟨a, vs, rfl, ea, er, m⟩ := ok1.mutL (es := xs ++ ys) h1 hw
          have m' := m _ (er.append (er' h2))
          have l1 := er.length
          have l2 := (er' h2).length
          exact ⟨a, b, vs, zs, rfl, rfl, ea, eb, ln_le (by omega), kk σ R1 _ _ m'.1 (g1.trans m'.2) (.refl _ _)⟩
        · cases he
      · cases he
  · cases he
theorem JS_reverse {y : Str} {i : Nat} {p apos p2 : Pos} (hN : C.N[i]? = some y) (hv : visB C.sc y = true) (hp : plainName y = true) (hline : (apos.endLine == p2.line) = true) : JS G C (.Expr (.Call (.Attribute (.Name y p) "reverse" apos) [] [] p2) pos) (.reverse i) := fun X g => by
  refine ⟨_, ps_expr (pe_bm0 PySem.F.plainAttrs_list PySem.F.slot_list_reverse PySem.F.type_list_reverse mt_reverse (g.pvar hN hv hp) rfl hline) rfl, fun E o σ R H fp D he ok kk => ?_⟩
  simp only [exS] at he
  split at he
  · rename_i xs h0
    cases he
    obtain ⟨w, hw⟩ := slot_at ok h0
    obtain ⟨a, vs, rfl, ea, er, m⟩ := ok.mutL (es := xs.reverse) h0 hw
    have m' := m _ er.reverse
    exact ⟨.ref a, hw, .inl ⟨rfl, vs, SqL.of ea⟩, a, vs, rfl, rfl, ea, kk σ R _ _ m'.1 m'.2 (.refl _ _)⟩
  · cases he

/-! ### ends, branches, loops -/
theorem JS_ret {e : Expr} {x : Ex} (h : JE G C e x) : JS G C (.Return (some e) pos) (.ret x) := fun X g => by
  obtain ⟨t, pe, j⟩ := h X g
  refine ⟨_, ps_ret pe, fun E o σ R H fp D he ok kk => ?_⟩
  cases ha : ev G x E with
  | none => simp only [exS, ha] at he; cases he
  | some q =>
    obtain ⟨r, E1⟩ := q
    simp only [exS, ha] at he
    cases hs : r.toSlot with
    | none => rw [hs] at he; cases he
    | some sv =>
      rw [hs] at he
      cases he
      refine j _ _ _ _ _ _ _ _ ha ok fun v R1 H1 fp1 fr a _ => ?_
      obtain ⟨a', np⟩ := a.toSlot hs
      exact kk v σ R1 H1 fp1 fr a' np (.refl _ _)
theorem JS_retN : JS G C (.Return none pos) .retN := fun X g => ⟨_, ps_retN, fun E o σ R H fp D he ok k => by
  simp only [exS] at he; cases he
  exact k .non σ R H fp [] (Aft.fz ok (.refl ok) (by unfold Rp; rfl)) rfl (.refl _ _)⟩
theorem JS_ite {c : Expr} {a b : List Stmt} {xc : Ex} {xa xb : Sms} (hc : JT G C c xc) (ha : JB G C a xa) (hb : JB G C b xb) : JS G C (.If c a b pos) (.ite xc xa xb) := fun X g => by
  obtain ⟨tc, pc, jc⟩ := hc X g
  obtain ⟨ta, pa, ja⟩ := ha X g
  obtain ⟨tb, pb, jb⟩ := hb X g
  refine ⟨_, ps_if pc pa pb, fun E o σ R H fp D he ok kk => ?_⟩
  cases h1 : ev G xc E with
  | none => simp only [exS, h1] at he; cases he
  | some q =>
    obtain ⟨x, E1⟩ := q
    simp only [exS, h1] at he
    split at he
    · cases he
    · rename_i ht
      refine jc _ _ _ _ _ _ _ _ (evt_mk h1 ht) ok fun R1 H1 fp1 ok1 g1 _ => ?_
      rw [if_pos rfl]
      exact ja _ _ _ _ _ _ _ he ok1 (kk.later g1 (.refl _ _))
    · rename_i ht
      refine jc _ _ _ _ _ _ _ _ (evt_mk h1 ht) ok fun R1 H1 fp1 ok1 g1 _ => ?_
      rw [if_neg Bool.false_ne_true]
      exact jb _ _ _ _ _ _ _ he ok1 (kk.later g1 (.refl _ _))
theorem for_cons {tg : Tg} {b : Env → Option Out} {kill : List Nat} {d : D} {ds : List D} {E : Env} {o : Out} (h : forGo tg b kill (d :: ds) E = some o) : ∃ E1 o1, tgSet E tg d = some E1 ∧ b E1 = some o1 ∧
    ((∃ E2, (o1 = .nx E2 ∨ o1 = .ct E2) ∧ forGo tg b kill ds (killE E2 kill) = some o) ∨ (∃ E2, o1 = .bk E2 ∧ o = .nx (killE E2 kill)) ∨ ∃ r E2, o1 = .rt r E2 ∧ o = .rt r E2) := by
  unfold forGo at h
  cases h1 : tgSet E tg d with
  | none => rw [h1] at h; cases h
  | some E1 =>
    rw [h1] at h
    simp only at h
    cases h2 : b E1 with
    | none => rw [h2] at h; cases h
    | some o1 =>
      rw [h2] at h
      cases o1 with
      | nx E2 => exact ⟨E1, _, rfl, h2, .inl ⟨E2, .inl rfl, h⟩⟩
      | ct E2 => exact ⟨E1, _, rfl, h2, .inl ⟨E2, .inr rfl, h⟩⟩
      | bk E2 => cases h; exact ⟨E1, _, rfl, h2, .inr (.inl ⟨E2, rfl, rfl⟩)⟩
      | rt r E2 => cases h; exact ⟨E1, _, rfl, h2, .inr (.inr ⟨r, E2, rfl, rfl⟩)⟩
theorem JS_for {tg iter : Expr} {body : List Stmt} {t : Tg} {it : It} {xb : Sms} {kill : List Nat} (hi : JI G C tg iter it) (hg : JG G C tg t) (hb : JB G C body xb) (hm : t.slots.all (fun i => !C.muts.contains i) = true) (hpi : plainIt iter = true) : JS G C (.For tg iter body [] pos) (.for_ t it xb kill) := fun X g => by
  obtain ⟨wi, pi, ji⟩ := hi X g
  obtain ⟨gg, pg, jg⟩ := hg X g
  obtain ⟨tb, pb, jb⟩ := hb X g
  refine ⟨_, ps_for g.pass g.calm pi pg pb (plainIt_is hpi), fun E o σ0 R0 H0 fp0 D he ok0 kk => ?_⟩
  cases h1 : evI G it E with
  | none => simp only [exS, h1] at he; cases he
  | some q =>
    obtain ⟨ds, E1⟩ := q
    simp only [exS, h1] at he
    refine ji _ _ _ _ _ _ _ _ h1 ok0 fun J R1 H1 fp1 ok1 g1 iok _ => ?_
    refine ⟨fun i m σ H => m = ds.length - i ∧ i ≤ ds.length ∧ ∃ Ei R fp, forGo t (fun E => exB G xb E) kill (ds.drop i) Ei = some o ∧ EnvOk X.K R H Ei σ fp ∧ Goes R0 H0 fp0 R H fp ∧ Le R1 R ∧ Pin C.muts σ0 σ, ⟨ds.length, by simp, Nat.zero_le _, E1, R1, fp1, he, ok1, g1, Le.refl _, .refl _ _⟩, ?_⟩
    rintro i m σ H ⟨rfl, hi, Ei, R, fp, h, ok, gs, lr, pn⟩
    by_cases hlt : i < ds.length
    · right
      refine ⟨iok.go i H R hlt lr ok.sub, _, fun σ' H' w => ⟨ds.length - (i + 1), by omega, w⟩, fun x H' y => ?_⟩
      have hdi : ds[i]? = some ds[i] := by simp [hlt]
      rw [List.drop_eq_getElem_cons hlt] at h
      obtain ⟨Ea, o1, t1, t2, t3⟩ := for_cons h
      obtain ⟨R2, ok2, g2, l2, q2⟩ := iok.yld i H x H' R _ _ fp _ y ok lr hdi
      refine jg _ _ _ _ _ _ _ _ _ t1 ok2 q2 fun σ2 fp3 ok3 g3 sb => ?_
      have gs3 := (gs.trans g2).trans g3
      have pn3 := pn.trans (pin_sb sb hm)
      have lr3 : Le R1 R2 := lr.trans g2.ext
      have nxt : ∀ E2, forGo t (fun E => exB G xb E) kill (ds.drop (i + 1)) (killE E2 kill) = some o → ∀ σ' R' H2 fp', EnvOk X.K R' H2 E2 σ' fp' → Goes R2 H' fp3 R' H2 fp' → Pin C.muts σ2 σ' →
          ds.length - (i + 1) = ds.length - (i + 1) ∧ i + 1 ≤ ds.length ∧ ∃ Ei R fp, forGo t (fun E => exB G xb E) kill (ds.drop (i + 1)) Ei = some o ∧ EnvOk X.K R H2 Ei σ' fp ∧ Goes R0 H0 fp0 R H2 fp ∧ Le R1 R ∧ Pin C.muts σ0 σ' := fun E2 hf σ' R' H2 fp' ok' g' p' => by
        obtain ⟨fpk, okk, gk, _⟩ := ok'.kill kill
        exact ⟨rfl, by omega, _, R', fpk, hf, okk, (gs3.trans g').trans gk, lr3.trans g'.ext, pn3.trans p'⟩
      refine jb _ _ _ _ _ _ _ t2 ok3 ?_
      rcases t3 with ⟨E2, rfl | rfl, hf⟩ | ⟨E2, rfl, rfl⟩ | ⟨r, E2, rfl, rfl⟩
      · exact nxt E2 hf
      · exact nxt E2 hf
      · intro σ' R' H2 fp' ok' g' p'
        obtain ⟨fpk, okk, gk, _⟩ := ok'.kill kill
        exact kk σ' R' H2 fpk okk ((gs3.trans g').trans gk) (pn3.trans p')
      · intro v σ' R' H2 fp' fr a np p'
        exact kk v σ' R' H2 fp' fr (a.after gs3) np (pn3.trans p')
    · left
      have e : i = ds.length := by omega
      subst e
      rw [List.drop_length] at h
      unfold forGo at h
      cases h
      obtain ⟨fpk, okk, gk, _⟩ := ok.kill kill
      exact ⟨iok.stop H R lr ok.sub, kk σ R H fpk okk (gs.trans gk) pn⟩
theorem while_succ {c : Env → Option (Bool × Env)} {b : Env → Option Out} {kill : List Nat} {n : Nat} {E : Env} {o : Out} (h : whileGo c b kill n E = some o) : ∃ m t E1, n = m + 1 ∧ c E = some (t, E1) ∧ ((t = false ∧ o = .nx (killE E1 kill)) ∨ (t = true ∧ ∃ o1, b E1 = some o1 ∧
    ((∃ E2, (o1 = .nx E2 ∨ o1 = .ct E2) ∧ whileGo c b kill m (killE E2 kill) = some o) ∨ (∃ E2, o1 = .bk E2 ∧ o = .nx (killE E2 kill)) ∨ ∃ r E2, o1 = .rt r E2 ∧ o = .rt r E2))) := by
  cases n with
  | zero => unfold whileGo at h; cases h
  | succ m =>
    unfold whileGo at h
    cases h1 : c E with
    | none => rw [h1] at h; cases h
    | some q =>
      obtain ⟨t, E1⟩ := q
      rw [h1] at h
      cases t with
      | false => cases h; exact ⟨m, false, E1, rfl, rfl, .inl ⟨rfl, rfl⟩⟩
      | true =>
        simp only at h
        cases h2 : b E1 with
        | none => rw [h2] at h; cases h
        | some o1 =>
          rw [h2] at h
          cases o1 with
          | nx E2 => exact ⟨m, true, E1, rfl, rfl, .inr ⟨rfl, _, h2, .inl ⟨E2, .inl rfl, h⟩⟩⟩
          | ct E2 => exact ⟨m, true, E1, rfl, rfl, .inr ⟨rfl, _, h2, .inl ⟨E2, .inr rfl, h⟩⟩⟩
          | bk E2 => cases h; exact ⟨m, true, E1, rfl, rfl, .inr ⟨rfl, _, h2, .inr (.inl ⟨E2, rfl, rfl⟩)⟩⟩
          | rt r E2 => cases h; exact ⟨m, true, E1, rfl, rfl, .inr ⟨rfl, _, h2, .inr (.inr ⟨r, E2, rfl, rfl⟩)⟩⟩
theorem JS_while {c : Expr} {body : List Stmt} {xc : Ex} {xb : Sms} {kill : List Nat} (hc : JT G C c xc) (hb : JB G C body xb) : JS G C (.While c body [] pos) (.while_ xc xb kill) := fun X g => by
  obtain ⟨tc, pc, jc⟩ := hc X g
  obtain ⟨tb, pb, jb⟩ := hb X g
  refine ⟨_, ps_while g.pass pc pb, fun E o σ0 R0 H0 fp0 D he ok0 kk => ?_⟩
  simp only [exS] at he
  refine ⟨fun m σ H => ∃ Ei R fp, whileGo (fun E => evt G (.so xc) E) (fun E => exB G xb E) kill m Ei = some o ∧ EnvOk X.K R H Ei σ fp ∧ Goes R0 H0 fp0 R H fp ∧ Pin C.muts σ0 σ, ⟨G.fuel, E, R0, fp0, he, ok0, .refl ok0, .refl _ _⟩, ?_⟩
  rintro m σ H ⟨Ei, R, fp, h, ok, gs, pn⟩
  obtain ⟨n, t, E1, rfl, h1, h2⟩ := while_succ h
  refine jc _ _ _ _ _ _ _ _ h1 ok fun R1 H1 fp1 ok1 g1 _ => ?_
  have gs1 := gs.trans g1
  rcases h2 with ⟨rfl, rfl⟩ | ⟨rfl, o1, h2, h3⟩
  · rw [if_neg Bool.false_ne_true]
    obtain ⟨fpk, okk, gk, _⟩ := ok1.kill kill
    exact kk σ R1 H1 fpk okk (gs1.trans gk) pn
  · rw [if_pos rfl]
    refine ⟨_, fun σ' H' w => ⟨n, Nat.lt_succ_self n, w⟩, ?_⟩
    have nxt : ∀ E2, whileGo (fun E => evt G (.so xc) E) (fun E => exB G xb E) kill n (killE E2 kill) = some o → ∀ σ' R' H2 fp', EnvOk X.K R' H2 E2 σ' fp' → Goes R1 H1 fp1 R' H2 fp' → Pin C.muts σ σ' →
        ∃ Ei R fp, whileGo (fun E => evt G (.so xc) E) (fun E => exB G xb E) kill n Ei = some o ∧ EnvOk X.K R H2 Ei σ' fp ∧ Goes R0 H0 fp0 R H2 fp ∧ Pin C.muts σ0 σ' := fun E2 hf σ' R' H2 fp' ok' g' p' => by
      obtain ⟨fpk, okk, gk, _⟩ := ok'.kill kill
      exact ⟨_, R', fpk, hf, okk, (gs1.trans g').trans gk, pn.trans p'⟩
    refine jb _ _ _ _ _ _ _ h2 ok1 ?_
    rcases h3 with ⟨E2, rfl | rfl, hf⟩ | ⟨E2, rfl, rfl⟩ | ⟨r, E2, rfl, rfl⟩
    · exact nxt E2 hf
    · exact nxt E2 hf
    · intro σ' R' H2 fp' ok' g' p'
      obtain ⟨fpk, okk, gk, _⟩ := ok'.kill kill
      exact kk σ' R' H2 fpk okk ((gs1.trans g').trans gk) (pn.trans p')
    · intro v σ' R' H2 fp' fr a np p'
      exact kk v σ' R' H2 fp' fr (a.after gs1) np (pn.trans p')
end
end VI

/-! VI, part 13: a def keeps its promise; a law's end. -/
namespace VI
open PySem L2
/-- the slots at a def's entry -/
def startE : List Nat → List D → Nat → Env
  | 0 :: ws, d :: ds, n => some (.fz d) :: startE ws ds (n - 1)
  | (k + 1) :: ws, d :: ds, n => some (.ow (k + 1) d) :: startE ws ds (n - 1)
  | _, _, n => List.replicate n none
/-- what the changed parameters hold at the end -/
def mutsOf (E : Env) : Nat → List Nat → Option (List D)
  | _, [] => some []
  | i, 0 :: ws => mutsOf E (i + 1) ws
  | i, (k + 1) :: ws => match slot E i, mutsOf E (i + 1) ws with
    | some (.ow m d), some ds => if m = k + 1 then some (d :: ds) else none
    | _, _ => none
def runBody (G : Gm) (ways : List Nat) (n : Nat) (x : Sms) (ds : List D) : Option (SV × List D) :=
  if ds.length = ways.length then match exB G x (startE ways ds n) with
    | some (.rt r E') => (mutsOf E' 0 ways).map fun ms => (r, ms)
    | some (.nx E') => (mutsOf E' 0 ways).map fun ms => (.fz .non, ms)
    | _ => none
  else none
def mutIx : Nat → List Nat → List Nat
  | _, [] => []
  | i, 0 :: ws => mutIx (i + 1) ws
  | i, (_ + 1) :: ws => i :: mutIx (i + 1) ws
section
variable {K : PySem.W.Frag} {R H : Hp}
theorem args_len : ∀ {ws : List Nat} {ds : List D} {vs : List V} {fs : List (List Addr)}, ArgsOk K R H ws ds vs fs → ds.length = ws.length ∧ vs.length = ws.length
  | [], [], [], [], _ => ⟨rfl, rfl⟩
  | n :: ws, d :: ds, v :: vs, f :: fs, h => by
    unfold ArgsOk at h
    obtain ⟨h1, h2⟩ := args_len h.2
    exact ⟨by rw [List.length_cons, List.length_cons, h1], by rw [List.length_cons, List.length_cons, h2]⟩
  | [], [], [], _ :: _, h => by unfold ArgsOk at h; exact h.elim
  | [], [], _ :: _, _, h => by unfold ArgsOk at h; exact h.elim
  | [], _ :: _, _, _, h => by unfold ArgsOk at h; exact h.elim
  | _ :: _, [], _, _, h => by unfold ArgsOk at h; exact h.elim
  | _ :: _, _ :: _, [], _, h => by unfold ArgsOk at h; exact h.elim
  | _ :: _, _ :: _, _ :: _, [], h => by unfold ArgsOk at h; exact h.elim
theorem start_len : ∀ (ws : List Nat) (ds : List D) (n : Nat), ds.length = ws.length → ws.length ≤ n → (startE ws ds n).length = n
  | [], [], n, _, _ => by unfold startE; rw [List.length_replicate]
  | 0 :: ws, d :: ds, n, h, l => by
    unfold startE
    rw [List.length_cons] at l
    rw [List.length_cons, start_len ws ds (n - 1) (by simpa using h) (by omega)]
    omega
  | (k + 1) :: ws, d :: ds, n, h, l => by
    unfold startE
    rw [List.length_cons] at l
    rw [List.length_cons, start_len ws ds (n - 1) (by simpa using h) (by omega)]
    omega
  | [], _ :: _, _, h, _ => by simp at h
  | _ :: _, [], _, h, _ => by simp at h
theorem slot_nil {n i : Nat} : slot (List.replicate n none) i = none := by
  unfold slot
  by_cases h : i < n
  · rw [List.getElem?_replicate, if_pos h]; rfl
  · rw [List.getElem?_replicate, if_neg h]; rfl
theorem start_slots : ∀ {ws : List Nat} {ds : List D} {vs : List V} {fs : List (List Addr)}, ArgsOk K R H ws ds vs fs → ∀ (n i : Nat), (∀ sv, slot (startE ws ds n) i = some sv → ∃ v, vs[i]? = some v ∧ SvOk K R H sv v (fpOf fs i) ∧ isPk sv = false) ∧ (slot (startE ws ds n) i = none → fpOf fs i = [])
  | [], [], [], [], _, n, i => by
    unfold startE
    rw [slot_nil]
    exact ⟨fun sv z => (nomatch z), fun _ => rfl⟩
  | 0 :: ws, d :: ds, v :: vs, f :: fs, h, n, i => by
    unfold ArgsOk at h
    unfold startE
    cases i with
    | zero =>
      refine ⟨fun sv e => ?_, fun e => by cases e⟩
      cases e
      have q := h.1
      unfold RpO at q
      exact ⟨v, rfl, q, rfl⟩
    | succ i => exact start_slots h.2 (n - 1) i
  | (k + 1) :: ws, d :: ds, v :: vs, f :: fs, h, n, i => by
    unfold ArgsOk at h
    unfold startE
    cases i with
    | zero =>
      refine ⟨fun sv e => ?_, fun e => by cases e⟩
      cases e
      exact ⟨v, rfl, h.1, rfl⟩
    | succ i => exact start_slots h.2 (n - 1) i
  | [], [], [], _ :: _, h, _, _ => by unfold ArgsOk at h; exact h.elim
  | [], [], _ :: _, _, h, _, _ => by unfold ArgsOk at h; exact h.elim
  | [], _ :: _, _, _, h, _, _ => by unfold ArgsOk at h; exact h.elim
  | _ :: _, [], _, _, h, _, _ => by unfold ArgsOk at h; exact h.elim
  | _ :: _, _ :: _, [], _, h, _, _ => by unfold ArgsOk at h; exact h.elim
  | _ :: _, _ :: _, _ :: _, [], h, _, _ => by unfold ArgsOk at h; exact h.elim
/-- the changed parameters' places at the end -/
def fsAt (fp : Nat → List Addr) : Nat → List Nat → List (List Addr)
  | _, [] => []
  | i, 0 :: ws => [] :: fsAt fp (i + 1) ws
  | i, (_ + 1) :: ws => fp i :: fsAt fp (i + 1) ws
theorem fsAt_get (fp : Nat → List Addr) : ∀ (ws : List Nat) (i j : Nat), fpOf (fsAt fp i ws) j = [] ∨ fpOf (fsAt fp i ws) j = fp (i + j)
  | [], i, j => .inl rfl
  | 0 :: ws, i, 0 => .inl rfl
  | (_ + 1) :: ws, i, 0 => .inr rfl
  | 0 :: ws, i, j + 1 => by
    have := fsAt_get fp ws (i + 1) j
    rw [show i + 1 + j = i + (j + 1) by omega] at this
    exact this
  | (_ + 1) :: ws, i, j + 1 => by
    have := fsAt_get fp ws (i + 1) j
    rw [show i + 1 + j = i + (j + 1) by omega] at this
    exact this
theorem muts_ok {R' H' : Hp} {E' : Env} {σ' : St} {fp' : Nat → List Addr} (ok : EnvOk K R' H' E' σ' fp') : ∀ (ws : List Nat) (i : Nat) (ms : List D) (vs : List V), mutsOf E' i ws = some ms → vs.length = ws.length → (∀ j ∈ mutIx i ws, ∀ v, vs[j - i]? = some v → σ'[j]? = some (some v)) → MutsOk K R' H' ws ms vs (fsAt fp' i ws)
  | [], i, ms, vs, h, l, p => by
    unfold mutsOf at h; cases h
    have : vs = [] := List.length_eq_zero_iff.mp l
    subst this
    unfold fsAt MutsOk; trivial
  | 0 :: ws, i, ms, [], h, l, p => by cases l
  | 0 :: ws, i, ms, v :: vs, h, l, p => by
    unfold mutsOf at h
    unfold fsAt MutsOk
    refine ⟨rfl, muts_ok ok ws (i + 1) ms vs h (by simpa using l) fun j hj w hw => ?_⟩
    unfold mutIx at p
    have ge : ∀ (ws : List Nat) (i : Nat), ∀ j ∈ mutIx i ws, i ≤ j := by
      intro ws
      induction ws with
      | nil => intro i j h; unfold mutIx at h; cases h
      | cons a ws ih =>
        intro i j h
        cases a with
        | zero => unfold mutIx at h; have := ih (i + 1) j h; omega
        | succ a =>
          unfold mutIx at h
          rcases List.mem_cons.mp h with h | h
          · omega
          · have := ih (i + 1) j h; omega
    have := ge ws (i + 1) j hj
    exact p j hj w (by rw [show j - i = (j - (i + 1)) + 1 by omega]; exact hw)
  | (k + 1) :: ws, i, ms, [], h, l, p => by cases l
  | (k + 1) :: ws, i, ms, v :: vs, h, l, p => by
    unfold mutsOf at h
    split at h
    · split at h
      · rename_i h1 h2 hm
        cases h
        subst hm
        have ge : ∀ (ws : List Nat) (i : Nat), ∀ j ∈ mutIx i ws, i ≤ j := by
          intro ws
          induction ws with
          | nil => intro i j h; unfold mutIx at h; cases h
          | cons a ws ih =>
            intro i j h
            cases a with
            | zero => unfold mutIx at h; have := ih (i + 1) j h; omega
            | succ a =>
              unfold mutIx at h
              rcases List.mem_cons.mp h with h | h
              · omega
              · have := ih (i + 1) j h; omega
        unfold fsAt MutsOk
        unfold mutIx at p
        obtain ⟨w, e1, q, _⟩ := ok.slots i _ h1
        have e2 := p i List.mem_cons_self v (by rw [Nat.sub_self]; rfl)
        rw [e2] at e1
        cases e1
        refine ⟨q, muts_ok ok ws (i + 1) _ vs h2 (by simpa using l) fun j hj w hw => ?_⟩
        have := ge ws (i + 1) j hj
        exact p j (List.mem_cons_of_mem _ hj) w (by rw [show j - i = (j - (i + 1)) + 1 by omega]; exact hw)
      · cases h
    · cases h
end
section
variable {P : Program} {w : World} {K : PySem.W.Frag} {mg : Str → Option Value} {base : Heap} {G : Gm}
def Ct.of (C : Ct) (ways : List Nat) : Ct := { C with muts := mutIx 0 ways, fnB := fun _ => true }
/-- THE RULE for a def -/
theorem fn_ok {x qual : Str} {st : Stmt} {f : Addr} {fd : FuncData} {ps : List Str} {C : Ct} {ways : List Nat} {b : Sms} {F : Fn} (FF : Fun K x qual st f fd) (S : FnScope C.N ps (defScope st)) (hsc : C.sc = defScope st) (hl : ways.length = ps.length) (hn : ways.length ≤ C.N.length)
    (wok : WOk P w K mg base G (C.of ways)) (hb : JB G (C.of ways) (defBody st) b) (hw : F.ways = ways) (hF : ∀ ds r, F.f ds = some r → runBody G ways C.N.length b ds = some r) : FnOk P w K mg base CX0 (C.k + 1) f fd ps (spV K F) := by
  refine FF.ok S (fun vs H Q E h => ?_) (fun cdv A outer s H vs Q E hr h => ?_)
  · obtain ⟨R, ds, r, ms, fs, ha, _⟩ := h
    rw [(args_len ha).2, hw, hl]
  · obtain ⟨R, ds, r, ms, fs, ha, hR, nd, sep, dis, hf, np, kk⟩ := h
    rw [hw] at ha kk
    have good : Good G (C.of ways) (cxOf CX0 P w K mg base C.N qual (defScope st) f cdv A outer s H E).nox :=
      { N := rfl, sc := hsc.symm, nd := S.nd, calm := rfl, room := hr, fn := fun _ _ => rfl, wok := wok, pass := PassesOwn.never }
    obtain ⟨t, pt, jt⟩ := hb _ good
    refine ⟨t, pt, ?_⟩
    have run := hF ds _ hf
    unfold runBody at run
    rw [if_pos (args_len ha).1] at run
    have lv := (args_len ha).2
    have ok : EnvOk K R H (startE ways ds C.N.length) (L2.start C.N vs) (fpOf fs) := by
      refine ⟨hR, ?_, fun i sv e => ?_, fun i e => (start_slots ha C.N.length i).2 e, nd, dis, sep⟩
      · rw [start_len _ _ _ (args_len ha).1 hn]
        unfold L2.start
        rw [List.length_append, List.length_map, List.length_replicate, lv]
        omega
      · obtain ⟨v, e1, q, np⟩ := (start_slots ha C.N.length i).1 sv e
        refine ⟨v, ?_, q, np⟩
        unfold L2.start
        have hi : i < vs.length := (List.getElem?_eq_some_iff.mp e1).1
        rw [List.getElem?_append_left (by rw [List.length_map]; exact hi), List.getElem?_map, e1]; rfl
    have fin : ∀ (E' : Env) (ms' : List D) (r' : SV), mutsOf E' 0 ways = some ms' → r' = r → ms' = ms → ∀ v σ' R' H' fp' fr, Aft K R H (fpOf fs) E' σ' r' v R' H' fp' fr → Pin (mutIx 0 ways) (L2.start C.N vs) σ' → Q v H' := fun E' ms' r' hm e1 e2 v σ' R' H' fp' fr a pin => by
      subst e1; subst e2
      have g : ∀ j, fpOf (fsAt fp' 0 ways) j = [] ∨ fpOf (fsAt fp' 0 ways) j = fp' j := fun j => by
        have := fsAt_get fp' ways 0 j
        rwa [Nat.zero_add] at this
      have sub : ∀ j b, b ∈ fpOf (fsAt fp' 0 ways) j → b ∈ fp' j := fun j b hb => by
        rcases g j with z | z
        · rw [z] at hb; cases hb
        · rw [z] at hb; exact hb
      refine kk v R' H' (fsAt fp' 0 ways) fr ⟨a.goes.ext, a.goes.frame, fun b z => ?_, a.goes.there, fun j b hb => a.env.dis j b (sub j b hb)⟩ a.env.sub (muts_ok a.env ways 0 _ vs hm lv fun j hj v' hv => ?_) (fun j => ?_) (fun i j b h1 h2 => a.env.sep i j b (sub i b h1) (sub j b h2)) a.val (fun b hb => ⟨(a.free b hb).1, fun j hj => (a.free b hb).2 j (sub j b hj)⟩) a.nd a.new
      · rcases z with z | ⟨j, z⟩
        · exact a.goes.dom b (.inl z)
        · exact a.goes.dom b (.inr ⟨j, sub j b z⟩)
      · rw [pin j hj]
        rw [Nat.sub_zero] at hv
        unfold L2.start
        have hi : j < vs.length := (List.getElem?_eq_some_iff.mp hv).1
        rw [List.getElem?_append_left (by rw [List.length_map]; exact hi), List.getElem?_map, hv]; rfl
      · rcases g j with z | z
        · rw [z]; exact List.nodup_nil
        · rw [z]; exact a.env.nd j
    cases ho : exB G b (startE ways ds C.N.length) with
    | none => rw [ho] at run; cases run
    | some o =>
      rw [ho] at run
      refine jt _ o _ R H (fpOf fs) _ ho ok ?_
      cases o with
      | nx E' =>
        simp only at run
        cases hm : mutsOf E' 0 ways with
        | none => rw [hm] at run; cases run
        | some ms' =>
          rw [hm] at run
          cases run
          exact fun σ' R' H' fp' ok' g' p' => fin E' _ _ hm rfl rfl .non σ' R' H' fp' [] (Aft.fz ok' g' (by unfold Rp; rfl)) p'
      | bk E' => cases run
      | ct E' => cases run
      | rt r' E' =>
        simp only at run
        cases hm : mutsOf E' 0 ways with
        | none => rw [hm] at run; cases run
        | some ms' =>
          rw [hm] at run
          cases run
          exact fun v σ' R' H' fp' fr a _ p' => fin E' _ _ hm rfl rfl v σ' R' H' fp' fr a p'
/-- the law's own promise -/
theorem law_sp {F : Fn} {H : Hp} {a : Addr} {ns : List Int} (hw : F.ways = [0]) (hF : F.f [.lck (ns.map .int)] = some (.fz (.bl true), [])) (hS : SqL K H a (ns.map V.int)) : spV K F [.ref a] H (fun v _ => v = .bl true) fun _ _ _ => False := by
  refine ⟨H, [.lck (ns.map .int)], _, _, [[]], ?_, Le.refl H, fun i => ?_, fun i j b h => ?_, fun i b h => ?_, hF, rfl, fun v R' H' fs' fr g l m nd sep q _ _ _ => ?_⟩
  · rw [hw]
    unfold ArgsOk ArgsOk RpO Rp
    exact ⟨⟨⟨a, ns.map V.int, rfl, hS, .of_ints ns⟩, rfl⟩, trivial⟩
  · cases i <;> exact List.nodup_nil
  · cases i <;> cases h
  · cases i <;> cases h
  · have q' := q.1
    unfold Rp at q'
    exact q'
end
end VI

/-! VI, part 14: does a small program copy a def? By computation. -/
namespace VI
open PySem L2
def bopK : Bop → Operator
  | .add => .Add | .sub => .Sub | .mul => .Mult | .fdiv => .FloorDiv | .mod => .Mod | .pow => .Pow | .shl => .LShift | .shr => .RShift | .band => .BitAnd | .bor => .BitOr | .bxor => .BitXor
def copK : Cop → CmpOp
  | .eq => .Eq | .ne => .NotEq | .lt => .Lt | .le => .LtE | .gt => .Gt | .ge => .GtE | .is => .Is | .isnot => .IsNot | .inn => .In | .notin => .NotIn
def opEq (a b : Operator) : Bool := match a, b with
  | .Add, .Add => true | .Sub, .Sub => true | .Mult, .Mult => true | .FloorDiv, .FloorDiv => true | .Mod, .Mod => true | .Pow, .Pow => true | .LShift, .LShift => true | .RShift, .RShift => true | .BitAnd, .BitAnd => true | .BitOr, .BitOr => true | .BitXor, .BitXor => true
  | _, _ => false
theorem opEq_is {a b : Operator} (h : opEq a b = true) : a = b := by cases a <;> cases b <;> first | rfl | cases h
def coEq (a b : CmpOp) : Bool := match a, b with
  | .Eq, .Eq => true | .NotEq, .NotEq => true | .Lt, .Lt => true | .LtE, .LtE => true | .Gt, .Gt => true | .GtE, .GtE => true | .Is, .Is => true | .IsNot, .IsNot => true | .In, .In => true | .NotIn, .NotIn => true
  | _, _ => false
theorem coEq_is {a b : CmpOp} (h : coEq a b = true) : a = b := by cases a <;> cases b <;> first | rfl | cases h
theorem bop_ok (o : Bop) (X : Cx) : ∃ r, OpR X (binaryOp (bopK o)) r ∧ BinOk X.K o r := by
  cases o
  · exact op_add_ok X
  · exact op_sub_ok X
  · exact op_mul_ok X
  · exact op_fdiv_ok X
  · exact op_mod_ok X
  · exact op_pow_ok X
  · exact op_shl_ok X
  · exact op_shr_ok X
  · exact op_and_ok X
  · exact op_or_ok X
  · exact op_xor_ok X
theorem cop_ok {G : Gm} {C : Ct} (o : Cop) (X : Cx) (g : Good G C X) : ∃ r, OpR X (compareOp (copK o)) r ∧ CmpOk X.K o r := by
  have h1 := g.room.units
  have h2 : X.A.units + 65 < cLine := by have := g.room.un; omega
  cases o
  · exact cmp_eq_ok X h1
  · exact cmp_ne_ok X h1
  · exact cmp_lt_ok X
  · exact cmp_le_ok X
  · exact cmp_gt_ok X
  · exact cmp_ge_ok X
  · exact cmp_is_ok X
  · exact cmp_isnot_ok X
  · exact cmp_in_ok X h2
  · exact cmp_notin_ok X h2
def augB : Bop → Bool
  | .add => true | .sub => true | .mul => true
  | _ => false
theorem aug_ok {o : Bop} (h : augB o = true) (X : Cx) : ∃ r, PIp X (bopK o) r ∧ AugOk X.K o r := by
  cases o <;> first | exact aug_add_ok X | exact aug_sub_ok X | exact aug_mul_ok X | cases h
/-- a built-in's name; is it a type? -/
def biN : Bi → Str × Bool
  | .len => ("len", false) | .abs => ("abs", false) | .int => ("int", true) | .min2 => ("min", false) | .max2 => ("max", false) | .minL => ("min", false) | .maxL => ("max", false) | .sum => ("sum", false)
  | .sorted => ("sorted", false) | .list => ("list", true) | .tuple => ("tuple", true) | .any => ("any", false) | .all => ("all", false) | .gcd => ("gcd", false)
def ownN (C : Ct) (own : List Nat) : List (Str × Nat) := own.filterMap fun i => (C.N[i]?).map fun x => (x, i)
def bkB (sc : Scope) : ScopeKind := if sc.kind.isAnnotationScope then .function else sc.kind
def isStar : Expr → Bool
  | .Starred .. => true
  | _ => false
def swNames (sc : Scope) (ts : List Expr) : List Str := ts.filterMap fun
  | .Name id pos => if sc.names.lookup id == some .local && pos.line == (ts.head?.map (·.pos.line)).getD 0 then some id else none
  | _ => none
def swF (sc : Scope) (ts vs : List Expr) : Option (Option (List Str)) :=
  if !(ts.length == 2 || ts.length == 3) || vs.length != ts.length || bkB sc != .function then some none
  else if vs.any isStar then some none
  else if (swNames sc ts).length != ts.length || (swNames sc ts).eraseDups.length != (swNames sc ts).length then some none
  else if vs.all (foldedForSure 8) then some none
  else if vs.all (constantsAlone 8) then none
  else some (some (swNames sc ts))
theorem swF_is {env : PySem.Env} {ts vs : List Expr} {k k2 : Nat} {p p2 : Pos} {r : Option (List Str)} (h : swF env.scope ts vs = some r) : swappedStores [.Tuple ts k p] (.Tuple vs k2 p2) env = pure r := by
  unfold swF at h
  show (if (!(ts.length == 2 || ts.length == 3) || vs.length != ts.length || bkB env.scope != .function) = true then pure none else
    if (vs.any isStar) = true then pure none else
    if ((swNames env.scope ts).length != ts.length || (swNames env.scope ts).eraseDups.length != (swNames env.scope ts).length) = true then pure none else
    if vs.all (foldedForSure 8) = true then pure none else
    if vs.all (constantsAlone 8) = true then (do let _ ← (unsupported "assign.tuple-of-constant-expressions:order-of-the-stores" : Sem PUnit); pure (some (swNames env.scope ts))) else pure (some (swNames env.scope ts)) : Sem (Option (List Str))) = pure r
  split at h
  · rename_i c
    cases h
    rw [if_pos c]
  · rename_i c
    rw [if_neg c]
    split at h
    · rename_i c2
      cases h
      rw [if_pos c2]
    · rename_i c2
      rw [if_neg c2]
      split at h
      · rename_i c3
        cases h
        rw [if_pos c3]
      · rename_i c3
        rw [if_neg c3]
        split at h
        · rename_i c4
          cases h
          rw [if_pos c4]
        · rename_i c4
          rw [if_neg c4]
          split at h
          · cases h
          · rename_i c5
            cases h
            rw [if_neg c5]

def lineOk (a p : Pos) : Bool := a.endLine == p.line
def callOk (C : Ct) (y : Str) : Bool := glB C.sc y && plainName y
def nmsB (C : Ct) : List Expr → List Nat → Bool
  | [], [] => true
  | .Name x _ :: es, i :: is => decide (C.N[i]? = some x) && locB C x && nmsB C es is
  | _, _ => false
def varOk (C : Ct) (x : Str) (i : Nat) : Bool := decide (C.N[i]? = some x) && visB C.sc x && plainName x
def isVar : Ex → Option Nat
  | .var i => some i
  | _ => none
def ckG (C : Ct) (e : Expr) (t : Tg) : Bool := match t with
  | .nm i => (match e with
    | .Name x _ => decide (C.N[i]? = some x) && locB C x
    | _ => false)
  | .tup is => (match e with
    | .Tuple es _ _ => nmsB C es is
    | _ => false)
mutual
def ckE : Nat → Ct → Expr → Ex → Bool
  | 0, _, _, _ => false
  | n + 1, C, e, x => match x with
    | .bad => true
    | .var i => (match e with | .Name y _ => varOk C y i | _ => false)
    | .fzv i => (match e with | .Name y _ => varOk C y i | _ => false)
    | .mvv i => (match e with | .Name y _ => varOk C y i | _ => false)
    | .int i => (match e with | .Constant (.int j) _ _ => decide (i = j) | _ => false)
    | .bl b => (match e with | .Constant (.bool c) _ _ => b == c | _ => false)
    | .str a => (match e with | .Constant (.str b) _ _ => decide (a = b) | _ => false)
    | .non => (match e with | .Constant .none _ _ => true | _ => false)
    | .con k => (match e with | .Name y _ => decide (C.cnn[k]? = some y) && callOk C y | _ => false)
    | .bin o a b => (match e with | .BinOp ea op eb _ => opEq op (bopK o) && ckE n C ea a && ckE n C eb b | _ => false)
    | .neg a => (match e with | .UnaryOp .USub ea _ => ckE n C ea a | _ => false)
    | .cmp o a b => (match e with | .Compare ea [op] [eb] _ => coEq op (copK o) && !(behindInMarks op eb) && ckE n C ea a && ckE n C eb b | _ => false)
    | .chain o p a b c => (match e with | .Compare ea [op, op'] [eb, ec] _ => coEq op (copK o) && coEq op' (copK p) && !(lastMarks [op, op'] [eb, ec]) && ckE n C ea a && ckE n C eb b && ckE n C ec c | _ => false)
    | .and a b => (match e with
      | .BoolOp .And [ea, eb] _ => ckE n C ea a && ckE n C eb b
      | .BoolOp .And (ea :: eb :: ec :: r) p => ckE n C ea a && ckE n C (.BoolOp .And (eb :: ec :: r) p) b
      | _ => false)
    | .or a b => (match e with
      | .BoolOp .Or [ea, eb] _ => ckE n C ea a && ckE n C eb b
      | .BoolOp .Or (ea :: eb :: ec :: r) p => ckE n C ea a && ckE n C (.BoolOp .Or (eb :: ec :: r) p) b
      | _ => false)
    | .not a => (match e with | .UnaryOp .Not ea _ => ckE n C ea a | _ => false)
    | .ite c a b => (match e with | .IfExp ec ea eb _ => ckT n C ec c && ckE n C ea a && ckE n C eb b | _ => false)
    | .tup es => (match e with | .Tuple el _ _ => ckA n C el es | _ => false)
    | .list es => (match e with | .List el _ => ckA n C el es | _ => false)
    | .sub a i => (match e with | .Subscript ea ei _ => plainIx ei && ckE n C ea a && ckE n C ei i | _ => false)
    | .slice a lo hi => (match e with | .Subscript ea (.Slice el eh none _) _ => ckE n C ea a && ckO n C el lo && ckO n C eh hi | _ => false)
    | .rev a => (match e with | .Subscript ea (.Slice none none (some (.UnaryOp .USub (.Constant (.int 1) _ _) _)) _) _ => ckE n C ea a | _ => false)
    | .call k es => (match e with | .Call (.Name y _) (e1 :: er) [] _ => decide (C.fnn[k]? = some y) && callOk C y && (e1 :: er).all noStar && ckA n C (e1 :: er) es | _ => false)
    | .bi b es => (match e with | .Call (.Name y _) (e1 :: er) [] _ => decide (y = (biN b).1) && C.bl.contains y && callOk C y && (e1 :: er).all noStar && ckA n C (e1 :: er) es | _ => false)
    | .me m o es => (match m with
      | .index => (match e with | .Call (.Attribute eo nm ap) [e1] [] p => decide (nm = "index") && plainBase eo && noStar e1 && lineOk ap p && ckE n C eo o && ckA n C [e1] es | _ => false)
      | .count => false)
    | .pop i => (match e with | .Call (.Attribute (.Name y _) nm ap) [] [] p => decide (nm = "pop") && varOk C y i && lineOk ap p | _ => false)
    | .lrange it => (match it with
      | .rng1 a => (match e with | .Call (.Name l _) [.Call (.Name r _) [ea] [] _] [] _ => decide (l = "list") && decide (r = "range") && C.bl.contains "list" && C.bl.contains "range" && glB C.sc "list" && glB C.sc "range" && noStar ea && ckE n C ea a | _ => false)
      | .rng2 a b => (match e with | .Call (.Name l _) [.Call (.Name r _) [ea, eb] [] _] [] _ => decide (l = "list") && decide (r = "range") && C.bl.contains "list" && C.bl.contains "range" && glB C.sc "list" && glB C.sc "range" && noStar ea && noStar eb && ckE n C ea a && ckE n C eb b | _ => false)
      | _ => false)
    | .lc _ own tg it c el => (match e with
      | .ListComp elt [⟨tge, iter, ifs, 0⟩] scope _ => blkC C.N C.sc scope (ownN C own) && decide ((ownN C own).map (·.2) = own) && ckI n C tge iter it && ckG (C.blk scope) tge tg && ckE n (C.blk scope) elt el && ckC n (C.blk scope) ifs c && tg.slots.all (fun i => own.contains i) && plainIt iter
      | _ => false)
def ckT : Nat → Ct → Expr → Ex → Bool
  | 0, _, _, _ => false
  | n + 1, C, e, x => if plainT e then ckE n C e x else match x with
    | .cmp o a b => (match e with | .Compare ea [op] [eb] _ => coEq op (copK o) && !(behindInMarks op eb) && ckE n C ea a && ckE n C eb b | _ => false)
    | .chain o p a b c => (match e with | .Compare ea [op, op'] [eb, ec] _ => coEq op (copK o) && coEq op' (copK p) && !(lastMarks [op, op'] [eb, ec]) && ckE n C ea a && ckE n C eb b && ckE n C ec c | _ => false)
    | .and a b => (match e with
      | .BoolOp .And [ea, eb] _ => ckT n C ea a && ckT n C eb b
      | .BoolOp .And (ea :: eb :: ec :: r) p => ckT n C ea a && ckW n C (.BoolOp .And (eb :: ec :: r) p) b
      | _ => false)
    | .or a b => (match e with
      | .BoolOp .Or [ea, eb] _ => ckT n C ea a && ckT n C eb b
      | .BoolOp .Or (ea :: eb :: ec :: r) p => ckT n C ea a && ckW n C (.BoolOp .Or (eb :: ec :: r) p) b
      | _ => false)
    | .not a => (match e with | .UnaryOp .Not ea _ => ckT n C ea a | _ => false)
    | .ite c a b => (match e with | .IfExp ec ea eb _ => ckT n C ec c && ckT n C ea a && ckT n C eb b | _ => false)
    | _ => false
def ckW : Nat → Ct → Expr → Ex → Bool
  | 0, _, _, _ => false
  | n + 1, C, e, x => match x with
    | .and a b => (match e with
      | .BoolOp .And [ea, eb] _ => ckT n C ea a && ckT n C eb b
      | .BoolOp .And (ea :: eb :: ec :: r) p => ckT n C ea a && ckW n C (.BoolOp .And (eb :: ec :: r) p) b
      | _ => false)
    | .or a b => (match e with
      | .BoolOp .Or [ea, eb] _ => ckT n C ea a && ckT n C eb b
      | .BoolOp .Or (ea :: eb :: ec :: r) p => ckT n C ea a && ckW n C (.BoolOp .Or (eb :: ec :: r) p) b
      | _ => false)
    | _ => false
def ckA : Nat → Ct → List Expr → Exs → Bool
  | 0, _, _, _ => false
  | n + 1, C, es, x => match es, x with
    | [], .nil => true
    | e :: er, .cons xe xs => (match isVar xe with
      | some i => (match e with | .Name y _ => varOk C y i && ckA n C er xs | _ => false)
      | none => noStar e && notVar xe && ckE n C e xe && ckA n C er xs)
    | _, _ => false
def ckAO : Nat → Ct → List Expr → Exs → Bool
  | 0, _, _, _ => false
  | n + 1, C, es, x => match es, x with
    | [], .nil => true
    | e :: er, .cons xe xs => noStar e && ckE n C e xe && ckAO n C er xs
    | _, _ => false
def ckO : Nat → Ct → Option Expr → Oe → Bool
  | 0, _, _, _ => false
  | n + 1, C, e, x => match e, x with
    | none, .no => true
    | some e, .so x => ckE n C e x
    | _, _ => false
def ckC : Nat → Ct → List Expr → Oe → Bool
  | 0, _, _, _ => false
  | n + 1, C, e, x => match e, x with
    | [], .no => true
    | [e], .so x => ckT n C e x
    | _, _ => false
def ckI : Nat → Ct → Expr → Expr → It → Bool
  | 0, _, _, _, _ => false
  | n + 1, C, tg, e, x => match x with
    | .rng1 a => (match e with | .Call (.Name r _) [ea] [] _ => decide (r = "range") && C.bl.contains "range" && glB C.sc "range" && noStar ea && ckE n C ea a | _ => false)
    | .rng2 a b => (match e with | .Call (.Name r _) [ea, eb] [] _ => decide (r = "range") && C.bl.contains "range" && glB C.sc "range" && noStar ea && noStar eb && ckE n C ea a && ckE n C eb b | _ => false)
    | .rng3 a b c => (match e with | .Call (.Name r _) [ea, eb, ec] [] _ => decide (r = "range") && C.bl.contains "range" && glB C.sc "range" && noStar ea && noStar eb && noStar ec && ckE n C ea a && ckE n C eb b && ckE n C ec c | _ => false)
    | .seq a => ckE n C e a
    | .enum a => (match tg with | .Tuple _ _ _ => (match e with | .Call (.Name r _) [ea] [] _ => decide (r = "enumerate") && C.bl.contains "enumerate" && glB C.sc "enumerate" && noStar ea && ckE n C ea a | _ => false) | _ => false)
    | .rev a => (match e with | .Call (.Name r _) [ea] [] _ => decide (r = "reversed") && C.bl.contains "reversed" && glB C.sc "reversed" && noStar ea && ckE n C ea a | _ => false)
    | .zip a b => (match tg with | .Tuple _ _ _ => (match e with | .Call (.Name r _) [ea, eb] [] _ => decide (r = "zip") && C.bl.contains "zip" && glB C.sc "zip" && noStar ea && noStar eb && ckE n C ea a && ckE n C eb b | _ => false) | _ => false)
end
def noMut (C : Ct) (is : List Nat) : Bool := is.all fun i => !C.muts.contains i
mutual
def ckS : Nat → Ct → Stmt → Sm → Bool
  | 0, _, _, _ => false
  | n + 1, C, s, x => match x with
    | .bad => true
    | .skip => (match s with | .Pass _ => true | .Expr (.Constant (.str _) _ _) _ => true | _ => false)
    | .expr a => (match s with | .Expr e _ => notComp e && ckE n C e a | _ => false)
    | .set i a => (match s with
      | .Assign [.Name y _] e _ => decide (C.N[i]? = some y) && locB C y && !(C.muts.contains i) && (match e, a with
        | .ListComp elt [⟨tge, iter, ifs, 0⟩] scope _, .lc _ own tg it c el => blkC C.N C.sc scope (ownN C own) && decide ((ownN C own).map (·.2) = own) && ckI n C tge iter it && ckG (C.blk scope) tge tg && ckE n (C.blk scope) elt el && ckC n (C.blk scope) ifs c && tg.slots.all (fun i => own.contains i) && plainIt iter
        | e, a => notComp e && ckE n C e a)
      | _ => false)
    | .unp is a => (match s with | .Assign [.Tuple es _ _] e _ => nmsB C es is && noMut C is && notComp e && notTup e && ckE n C e a | _ => false)
    | .par is xs => (match s with
      | .Assign [.Tuple ts _ _] (.Tuple es _ _) _ => nmsB C ts is && noMut C is && decide (is.length ≤ LN) && ckAO n C es xs && (match swF C.sc ts es with
        | some none => true
        | some (some ys) => (match ts, es, is with
          | [.Name x _, .Name y _], [_, _], [i, j] => decide (i ≠ j) && decide (C.sc.names.lookup x = some .local) && decide (C.sc.names.lookup y = some .local) && decide (ys = [x, y])
          | [.Name x _, .Name y _, .Name z _], [_, _, _], [i, j, l] => decide (i ≠ j) && decide (i ≠ l) && decide (j ≠ l) && decide (C.sc.names.lookup x = some .local) && decide (C.sc.names.lookup y = some .local) && decide (C.sc.names.lookup z = some .local) && decide (ys = [x, y, z])
          | _, _, _ => false)
        | none => false)
      | _ => false)
    | .aug i o a => (match s with | .AugAssign (.Name y _) op e _ => opEq op (bopK o) && augB o && decide (C.N[i]? = some y) && locB C y && !(C.muts.contains i) && ckE n C e a | _ => false)
    | .setix i ix a => (match s with | .Assign [.Subscript (.Name y _) ei _] e _ => varOk C y i && plainIx ei && ckE n C ei ix && ckE n C e a | _ => false)
    | .setix2 _ _ _ _ => false
    | .append i a => (match s with | .Expr (.Call (.Attribute (.Name y _) nm ap) [e] [] p) _ => decide (nm = "append") && varOk C y i && noStar e && lineOk ap p && ckE n C e a | _ => false)
    | .extend i a => (match s with | .Expr (.Call (.Attribute (.Name y _) nm ap) [e] [] p) _ => decide (nm = "extend") && varOk C y i && noStar e && lineOk ap p && ckE n C e a | _ => false)
    | .reverse i => (match s with | .Expr (.Call (.Attribute (.Name y _) nm ap) [] [] p) _ => decide (nm = "reverse") && varOk C y i && lineOk ap p | _ => false)
    | .ret a => (match s with | .Return (some e) _ => ckE n C e a | _ => false)
    | .retN => (match s with | .Return none _ => true | _ => false)
    | .ite c a b => (match s with | .If ec ea eb _ => ckT n C ec c && ckB n C ea a && ckB n C eb b | _ => false)
    | .for_ tg it b _ => (match s with | .For tge iter body [] _ => ckI n C tge iter it && ckG C tge tg && ckB n C body b && noMut C tg.slots && plainIt iter | _ => false)
    | .while_ c b _ => (match s with | .While ec body [] _ => ckT n C ec c && ckB n C body b | _ => false)
    | .brk => (match s with | .Break _ => true | _ => false)
    | .cont => (match s with | .Continue _ => true | _ => false)
def ckB : Nat → Ct → List Stmt → Sms → Bool
  | 0, _, _, _ => false
  | n + 1, C, ss, x => match x with
    | .nil => (match ss with | [] => true | _ => false)
    | .cons s r => (match ss with | st :: rest => ckS n C st s && ckB n C rest r | _ => false)
    | .kill _ r => ckB n C ss r
end
end VI

/-! VI, part 15: the checker is sound. -/
namespace VI
open PySem L2
section
variable {G : Gm} {C : Ct}
theorem ckG_ok {e : Expr} {t : Tg} (h : ckG C e t = true) : JG G C e t := by
  have nm : ∀ {es : List Expr} {is : List Nat}, nmsB C es is = true → JGs G C es is := by
    intro es
    induction es with
    | nil =>
      intro is h
      cases is with
      | nil => exact JGs_nil
      | cons _ _ => unfold nmsB at h; cases h
    | cons e es ih =>
      intro is h
      cases is with
      | nil => cases e <;> (unfold nmsB at h; cases h)
      | cons i is =>
        cases e <;> (unfold nmsB at h; first | (cases h; done) | skip)
        simp only [Bool.and_eq_true, decide_eq_true_eq] at h
        exact JGs_cons h.1.1 h.1.2 (ih h.2)
  unfold ckG at h
  split at h
  · split at h
    · simp only [Bool.and_eq_true, decide_eq_true_eq] at h
      exact JG_nm h.1 h.2
    · cases h
  · split at h
    · exact JG_tup (nm h)
    · cases h
theorem nms_ok : ∀ {es : List Expr} {is : List Nat}, nmsB C es is = true → Nms C es is
  | [], [], _ => .nil
  | [], _ :: _, h => by unfold nmsB at h; cases h
  | e :: es, [], h => by cases e <;> (unfold nmsB at h; cases h)
  | e :: es, i :: is, h => by
    cases e <;> (unfold nmsB at h; first | (cases h; done) | skip)
    simp only [Bool.and_eq_true, decide_eq_true_eq] at h
    exact .cons h.1.1 h.1.2 (nms_ok h.2)
theorem nms_jgs : ∀ {es : List Expr} {is : List Nat}, Nms C es is → JGs G C es is
  | _, _, .nil => JGs_nil
  | _, _, .cons a b t => JGs_cons a b (nms_jgs t)
theorem bi_ok (b : Bi) {e : Expr} {es : List Expr} {xs : Exs} {p pos : Pos} (hm : (biN b).1 ∈ C.bl) (hg : glB C.sc (biN b).1 = true) (hp : plainName (biN b).1 = true) (hs : (e :: es).all noStar = true) (ha : JA G C (e :: es) xs) : JE G C (.Call (.Name (biN b).1 p) (e :: es) [] pos) (.bi b xs) := by
  cases b
  · exact J_biB (fun X g => bi_len X) PySem.boot_len (by decide) hm hg hp hs ha
  · exact J_biB (fun X g => bi_abs X) PyProof.Rows.boot_abs (by decide) hm hg hp hs ha
  · exact J_biT (fun X g => bi_int X) PyProof.Rows.boot_int (by decide) hm hg hp hs ha
  · exact J_biB (fun X g => bi_min2 X g.calm) PyProof.Rows.boot_min (by decide) hm hg hp hs ha
  · exact J_biB (fun X g => bi_max2 X g.calm) PyProof.Rows.boot_max (by decide) hm hg hp hs ha
  · exact J_biB (fun X g => bi_minL X g.calm) PyProof.Rows.boot_min (by decide) hm hg hp hs ha
  · exact J_biB (fun X g => bi_maxL X g.calm) PyProof.Rows.boot_max (by decide) hm hg hp hs ha
  · exact J_biB (fun X g => bi_sum X g.calm) PyProof.Rows.boot_sum (by decide) hm hg hp hs ha
  · exact J_biB (fun X g => bi_sorted X) PyProof.Rows.boot_sorted (by decide) hm hg hp hs ha
  · exact J_biT (fun X g => bi_list X) PyProof.Rows.boot_list (by decide) hm hg hp hs ha
  · exact J_biT (fun X g => bi_tuple X) PyProof.Rows.boot_tuple (by decide) hm hg hp hs ha
  · exact J_biB (fun X g => bi_any X g.calm) PyProof.Rows.boot_any (by decide) hm hg hp hs ha
  · exact J_biB (fun X g => bi_all X g.calm) PyProof.Rows.boot_all (by decide) hm hg hp hs ha
  · exact J_biM (fun X g => bi_gcd X) (fun X g => g.wok.gcd hm) hg hp hs ha
theorem varOk_is {x : Str} {i : Nat} (h : varOk C x i = true) : C.N[i]? = some x ∧ visB C.sc x = true ∧ plainName x = true := by
  unfold varOk at h
  simp only [Bool.and_eq_true, decide_eq_true_eq] at h
  exact ⟨h.1.1, h.1.2, h.2⟩
structure Snd (G : Gm) (n : Nat) : Prop where
  e : ∀ C e x, ckE n C e x = true → JE G C e x
  t : ∀ C e x, ckT n C e x = true → JT G C e x
  w : ∀ C e x, ckW n C e x = true → JW G C e x
  a : ∀ C e x, ckA n C e x = true → JA G C e x
  ao : ∀ C e x, ckAO n C e x = true → JAO G C e x
  o : ∀ C e x, ckO n C e x = true → JO G C e x
  c : ∀ C e x, ckC n C e x = true → ((e = [] ∧ x = .no) ∨ ∃ ce cx, e = [ce] ∧ x = .so cx ∧ JT G C ce cx)
  i : ∀ C tg e x, ckI n C tg e x = true → JI G C tg e x
theorem snd_zero : Snd G 0 := by
  constructor <;> intros <;> rename_i h <;> first | (unfold ckE at h; cases h) | (unfold ckT at h; cases h) | (unfold ckW at h; cases h) | (unfold ckA at h; cases h) | (unfold ckAO at h; cases h) | (unfold ckO at h; cases h) | (unfold ckC at h; cases h) | (unfold ckI at h; cases h)
variable {n : Nat} (S : Snd G n)
include S
theorem sndE (C : Ct) (e : Expr) (x : Ex) (h : ckE (n + 1) C e x = true) : JE G C e x := by
  cases x with
  | bad => exact J_bad
  | var i =>
    simp only [ckE] at h
    split at h
    · obtain ⟨a, b, c⟩ := varOk_is h
      exact J_var a b c
    · cases h
  | fzv i =>
    simp only [ckE] at h
    split at h
    · obtain ⟨a, b, c⟩ := varOk_is h
      exact J_fzv a b c
    · cases h
  | mvv i =>
    simp only [ckE] at h
    split at h
    · obtain ⟨a, b, c⟩ := varOk_is h
      exact J_mvv a b c
    · cases h
  | int i =>
    simp only [ckE] at h
    split at h
    · rw [of_decide_eq_true h]; exact J_int
    · cases h
  | bl b =>
    simp only [ckE] at h
    split at h
    · rw [eq_of_beq h]; exact J_bl
    · cases h
  | str a =>
    simp only [ckE] at h
    split at h
    · rw [of_decide_eq_true h]; exact J_str
    · cases h
  | non =>
    simp only [ckE] at h
    split at h
    · exact J_non
    · cases h
  | con k =>
    simp only [ckE] at h
    split at h
    · simp only [Bool.and_eq_true, decide_eq_true_eq, callOk] at h
      exact J_con h.1 h.2.1 h.2.2
    · cases h
  | bin o a b =>
    simp only [ckE] at h
    split at h
    · simp only [Bool.and_eq_true] at h
      rw [opEq_is h.1.1]
      exact J_bin (fun X _ => bop_ok o X) (S.e _ _ _ h.1.2) (S.e _ _ _ h.2)
    · cases h
  | neg a =>
    simp only [ckE] at h
    split at h
    · exact J_neg (S.e _ _ _ h)
    · cases h
  | cmp o a b =>
    simp only [ckE] at h
    split at h
    · simp only [Bool.and_eq_true, Bool.not_eq_true'] at h
      obtain ⟨⟨⟨h1, h2⟩, h3⟩, h4⟩ := h
      rw [coEq_is h1] at h2 ⊢
      exact J_cmp (fun X g => cop_ok o X g) h2 (S.e _ _ _ h3) (S.e _ _ _ h4)
    · cases h
  | chain o p a b c =>
    simp only [ckE] at h
    split at h
    · simp only [Bool.and_eq_true, Bool.not_eq_true'] at h
      obtain ⟨⟨⟨⟨⟨h1, h2⟩, h3⟩, h4⟩, h5⟩, h6⟩ := h
      rw [coEq_is h1, coEq_is h2] at h3 ⊢
      exact J_chain (fun X g => cop_ok o X g) (fun X g => cop_ok p X g) h3 (S.e _ _ _ h4) (S.e _ _ _ h5) (S.e _ _ _ h6)
    · cases h
  | and a b =>
    simp only [ckE] at h
    split at h
    · simp only [Bool.and_eq_true] at h
      exact J_and (S.e _ _ _ h.1) (J_one (S.e _ _ _ h.2))
    · simp only [Bool.and_eq_true] at h
      exact J_and (S.e _ _ _ h.1) (S.e _ _ _ h.2)
    · cases h
  | or a b =>
    simp only [ckE] at h
    split at h
    · simp only [Bool.and_eq_true] at h
      exact J_or (S.e _ _ _ h.1) (J_one (S.e _ _ _ h.2))
    · simp only [Bool.and_eq_true] at h
      exact J_or (S.e _ _ _ h.1) (S.e _ _ _ h.2)
    · cases h
  | not a =>
    simp only [ckE] at h
    split at h
    · exact J_not (S.e _ _ _ h)
    · cases h
  | ite c a b =>
    simp only [ckE] at h
    split at h
    · simp only [Bool.and_eq_true] at h
      exact J_ite (S.t _ _ _ h.1.1) (S.e _ _ _ h.1.2) (S.e _ _ _ h.2)
    · cases h
  | tup es =>
    simp only [ckE] at h
    split at h
    · exact J_tup (S.a _ _ _ h)
    · cases h
  | list es =>
    simp only [ckE] at h
    split at h
    · exact J_list (S.a _ _ _ h)
    · cases h
  | sub a i =>
    simp only [ckE] at h
    split at h
    · simp only [Bool.and_eq_true] at h
      exact J_sub (S.e _ _ _ h.1.2) (S.e _ _ _ h.2) h.1.1
    · cases h
  | slice a lo hi =>
    simp only [ckE] at h
    split at h
    · simp only [Bool.and_eq_true] at h
      exact J_slice (S.e _ _ _ h.1.1) (S.o _ _ _ h.1.2) (S.o _ _ _ h.2)
    · cases h
  | rev a =>
    simp only [ckE] at h
    split at h
    · exact J_rev (S.e _ _ _ h)
    · cases h
  | call k es =>
    simp only [ckE] at h
    split at h
    · simp only [Bool.and_eq_true, decide_eq_true_eq, callOk] at h
      obtain ⟨⟨⟨h1, h2, h3⟩, h4⟩, h5⟩ := h
      exact J_call h1 h2 h3 h4 (S.a _ _ _ h5)
    · cases h
  | bi b es =>
    simp only [ckE] at h
    split at h
    · simp only [Bool.and_eq_true, decide_eq_true_eq, callOk] at h
      obtain ⟨⟨⟨⟨h1, h0⟩, h2, h3⟩, h4⟩, h5⟩ := h
      subst h1
      exact bi_ok b (by simpa using h0) h2 h3 h4 (S.a _ _ _ h5)
    · cases h
  | me m o es =>
    simp only [ckE] at h
    split at h
    · split at h
      · simp only [Bool.and_eq_true, decide_eq_true_eq, lineOk] at h
        obtain ⟨⟨⟨⟨⟨h1, h2⟩, h3⟩, h4⟩, h5⟩, h6⟩ := h
        subst h1
        exact J_index (S.e _ _ _ h5) h3 h2 (S.a _ _ _ h6) h4
      · cases h
    · cases h
  | pop i =>
    simp only [ckE] at h
    split at h
    · simp only [Bool.and_eq_true, decide_eq_true_eq, lineOk] at h
      obtain ⟨⟨h1, h2⟩, h3⟩ := h
      subst h1
      obtain ⟨a, b, c⟩ := varOk_is h2
      exact J_pop a b c h3
    · cases h
  | lrange it =>
    cases it <;> simp only [ckE] at h
    · split at h
      · simp only [Bool.and_eq_true, decide_eq_true_eq] at h
        obtain ⟨⟨⟨⟨⟨⟨⟨h1, h2⟩, h3⟩, h4⟩, h5⟩, h6⟩, h7⟩, h8⟩ := h
        subst h1; subst h2
        exact J_lrange1 (by simpa using h3) (by simpa using h4) h5 h6 h7 (S.e _ _ _ h8)
      · cases h
    · split at h
      · simp only [Bool.and_eq_true, decide_eq_true_eq] at h
        obtain ⟨⟨⟨⟨⟨⟨⟨⟨⟨h1, h2⟩, h3⟩, h4⟩, h5⟩, h6⟩, h7⟩, h7'⟩, h8⟩, h9⟩ := h
        subst h1; subst h2
        exact J_lrange2 (by simpa using h3) (by simpa using h4) h5 h6 h7 h7' (S.e _ _ _ h8) (S.e _ _ _ h9)
      · cases h
    all_goals cases h
  | lc m own tg it c el =>
    simp only [ckE] at h
    split at h
    · simp only [Bool.and_eq_true, decide_eq_true_eq] at h
      obtain ⟨⟨⟨⟨⟨⟨⟨h1, h2⟩, h3⟩, h4⟩, h5⟩, h6⟩, h7⟩, h8⟩ := h
      have key := J_lc (n := m) (pos := by assumption) h1 (S.i _ _ _ _ h3) (ckG_ok h4) (S.e _ _ _ h5) (S.c _ _ _ h6) (by rw [h2]; exact h7) h8
      rw [h2] at key
      exact key
    · cases h
theorem sndT (C : Ct) (e : Expr) (x : Ex) (h : ckT (n + 1) C e x = true) : JT G C e x := by
  simp only [ckT] at h
  split at h
  · rename_i hp
    exact JT_plain (S.e _ _ _ h) hp
  · split at h
    · split at h
      · simp only [Bool.and_eq_true, Bool.not_eq_true'] at h
        obtain ⟨⟨⟨h1, h2⟩, h3⟩, h4⟩ := h
        rw [coEq_is h1] at h2 ⊢
        exact JT_cmp (fun X g => cop_ok _ X g) h2 (S.e _ _ _ h3) (S.e _ _ _ h4)
      · cases h
    · split at h
      · simp only [Bool.and_eq_true, Bool.not_eq_true'] at h
        obtain ⟨⟨⟨⟨⟨h1, h2⟩, h3⟩, h4⟩, h5⟩, h6⟩ := h
        rw [coEq_is h1, coEq_is h2] at h3 ⊢
        exact JT_chain (fun X g => cop_ok _ X g) (fun X g => cop_ok _ X g) h3 (S.e _ _ _ h4) (S.e _ _ _ h5) (S.e _ _ _ h6)
      · cases h
    · split at h
      · simp only [Bool.and_eq_true] at h
        exact (JW_and (S.t _ _ _ h.1) (JW_one_and (S.t _ _ _ h.2))).t
      · simp only [Bool.and_eq_true] at h
        exact (JW_and (S.t _ _ _ h.1) (S.w _ _ _ h.2)).t
      · cases h
    · split at h
      · simp only [Bool.and_eq_true] at h
        exact (JW_or (S.t _ _ _ h.1) (JW_one_or (S.t _ _ _ h.2))).t
      · simp only [Bool.and_eq_true] at h
        exact (JW_or (S.t _ _ _ h.1) (S.w _ _ _ h.2)).t
      · cases h
    · split at h
      · exact JT_not (S.t _ _ _ h)
      · cases h
    · split at h
      · simp only [Bool.and_eq_true] at h
        exact JT_ite (S.t _ _ _ h.1.1) (S.t _ _ _ h.1.2) (S.t _ _ _ h.2)
      · cases h
    · cases h
theorem sndW (C : Ct) (e : Expr) (x : Ex) (h : ckW (n + 1) C e x = true) : JW G C e x := by
  simp only [ckW] at h
  split at h
  · split at h
    · simp only [Bool.and_eq_true] at h
      exact JW_and (S.t _ _ _ h.1) (JW_one_and (S.t _ _ _ h.2))
    · simp only [Bool.and_eq_true] at h
      exact JW_and (S.t _ _ _ h.1) (S.w _ _ _ h.2)
    · cases h
  · split at h
    · simp only [Bool.and_eq_true] at h
      exact JW_or (S.t _ _ _ h.1) (JW_one_or (S.t _ _ _ h.2))
    · simp only [Bool.and_eq_true] at h
      exact JW_or (S.t _ _ _ h.1) (S.w _ _ _ h.2)
    · cases h
  · cases h
theorem isVar_some {x : Ex} {i : Nat} (h : isVar x = some i) : x = .var i := by
  cases x <;> simp [isVar] at h
  rw [h]
theorem sndA (C : Ct) (e : List Expr) (x : Exs) (h : ckA (n + 1) C e x = true) : JA G C e x := by
  simp only [ckA] at h
  split at h
  · exact JA_nil
  · split at h
    · rename_i i hv
      rw [isVar_some S hv]
      split at h
      · simp only [Bool.and_eq_true] at h
        obtain ⟨a, b, c⟩ := varOk_is h.1
        exact JA_var a b c (S.a _ _ _ h.2)
      · cases h
    · simp only [Bool.and_eq_true] at h
      obtain ⟨⟨⟨h1, h2⟩, h3⟩, h4⟩ := h
      exact JA_cons h1 h2 (S.e _ _ _ h3) (S.a _ _ _ h4)
  · cases h
theorem sndAO (C : Ct) (e : List Expr) (x : Exs) (h : ckAO (n + 1) C e x = true) : JAO G C e x := by
  simp only [ckAO] at h
  split at h
  · exact JAO_nil
  · simp only [Bool.and_eq_true] at h
    exact JAO_cons h.1.1 (S.e _ _ _ h.1.2) (S.ao _ _ _ h.2)
  · cases h
theorem sndO (C : Ct) (e : Option Expr) (x : Oe) (h : ckO (n + 1) C e x = true) : JO G C e x := by
  simp only [ckO] at h
  split at h
  · exact JO_no
  · exact JO_so (S.e _ _ _ h)
  · cases h
theorem sndC (C : Ct) (e : List Expr) (x : Oe) (h : ckC (n + 1) C e x = true) : (e = [] ∧ x = .no) ∨ ∃ ce cx, e = [ce] ∧ x = .so cx ∧ JT G C ce cx := by
  simp only [ckC] at h
  split at h
  · exact .inl ⟨rfl, rfl⟩
  · exact .inr ⟨_, _, rfl, rfl, S.t _ _ _ h⟩
  · cases h
theorem sndI (C : Ct) (tg e : Expr) (x : It) (h : ckI (n + 1) C tg e x = true) : JI G C tg e x := by
  cases x with
  | rng1 a =>
    simp only [ckI] at h
    split at h
    · simp only [Bool.and_eq_true, decide_eq_true_eq] at h
      obtain ⟨⟨⟨⟨h1, h2⟩, h3⟩, h4⟩, h5⟩ := h
      subst h1
      exact JI_rng1 (by simpa using h2) h3 h4 (S.e _ _ _ h5)
    · cases h
  | rng2 a b =>
    simp only [ckI] at h
    split at h
    · simp only [Bool.and_eq_true, decide_eq_true_eq] at h
      obtain ⟨⟨⟨⟨⟨⟨h1, h2⟩, h3⟩, h4⟩, h4'⟩, h5⟩, h6⟩ := h
      subst h1
      exact JI_rng2 (by simpa using h2) h3 h4 h4' (S.e _ _ _ h5) (S.e _ _ _ h6)
    · cases h
  | rng3 a b c =>
    simp only [ckI] at h
    split at h
    · simp only [Bool.and_eq_true, decide_eq_true_eq] at h
      obtain ⟨⟨⟨⟨⟨⟨⟨⟨h1, h2⟩, h3⟩, h4⟩, h4'⟩, h4''⟩, h5⟩, h6⟩, h7⟩ := h
      subst h1
      exact JI_rng3 (by simpa using h2) h3 h4 h4' h4'' (S.e _ _ _ h5) (S.e _ _ _ h6) (S.e _ _ _ h7)
    · cases h
  | seq a =>
    simp only [ckI] at h
    exact JI_seq (S.e _ _ _ h)
  | enum a =>
    simp only [ckI] at h
    split at h
    · split at h
      · simp only [Bool.and_eq_true, decide_eq_true_eq] at h
        obtain ⟨⟨⟨⟨h1, h2⟩, h3⟩, h4⟩, h5⟩ := h
        subst h1
        exact JI_enum (by simpa using h2) h3 h4 (S.e _ _ _ h5)
      · cases h
    · cases h
  | rev a =>
    simp only [ckI] at h
    split at h
    · simp only [Bool.and_eq_true, decide_eq_true_eq] at h
      obtain ⟨⟨⟨⟨h1, h2⟩, h3⟩, h4⟩, h5⟩ := h
      subst h1
      exact JI_rev (by simpa using h2) h3 h4 (S.e _ _ _ h5)
    · cases h
  | zip a b =>
    simp only [ckI] at h
    split at h
    · split at h
      · simp only [Bool.and_eq_true, decide_eq_true_eq] at h
        obtain ⟨⟨⟨⟨⟨⟨h1, h2⟩, h3⟩, h4⟩, h4'⟩, h5⟩, h6⟩ := h
        subst h1
        exact JI_zip (by simpa using h2) h3 h4 h4' (S.e _ _ _ h5) (S.e _ _ _ h6)
      · cases h
    · cases h
omit S in
theorem snd : ∀ n, Snd G n
  | 0 => snd_zero
  | n + 1 => ⟨sndE (snd n), sndT (snd n), sndW (snd n), sndA (snd n), sndAO (snd n), sndO (snd n), sndC (snd n), sndI (snd n)⟩
omit S in
theorem noMut_is {is : List Nat} (h : noMut C is = true) : is.all (fun i => !C.muts.contains i) = true := h
omit S in
theorem sndSB : ∀ n, (∀ C s x, ckS n C s x = true → JS G C s x) ∧ (∀ C s x, ckB n C s x = true → JB G C s x)
  | 0 => ⟨(fun C s x h => by unfold ckS at h; cases h), (fun C s x h => by unfold ckB at h; cases h)⟩
  | n + 1 => by
    have S := snd (G := G) n
    obtain ⟨ihS, ihB⟩ := sndSB n
    refine ⟨fun C s x h => ?_, fun C s x h => ?_⟩
    · cases x with
      | bad => exact JS_bad
      | skip =>
        simp only [ckS] at h
        split at h
        · exact JS_pass
        · exact JS_doc
        · cases h
      | expr a =>
        simp only [ckS] at h
        split at h
        · simp only [Bool.and_eq_true] at h
          exact JS_expr (S.e _ _ _ h.2) h.1
        · cases h
      | set i a =>
        simp only [ckS] at h
        split at h
        · simp only [Bool.and_eq_true, decide_eq_true_eq, Bool.not_eq_true'] at h
          obtain ⟨⟨⟨h1, h2⟩, h3⟩, h⟩ := h
          split at h
          · simp only [Bool.and_eq_true, decide_eq_true_eq] at h
            obtain ⟨⟨⟨⟨⟨⟨⟨g1, g2⟩, g3⟩, g4⟩, g5⟩, g6⟩, g7⟩, g8⟩ := h
            have key := fun (m : Nat) (p vp pos : Pos) => JS_setLc (n := m) (p := p) (vp := vp) (pos := pos) h1 h2 h3 g1 (S.i _ _ _ _ g3) (ckG_ok g4) (S.e _ _ _ g5) (S.c _ _ _ g6) (by rw [g2]; exact g7) g8
            rw [g2] at key
            exact key _ _ _ _
          · simp only [Bool.and_eq_true] at h
            exact JS_set h1 h2 h3 (S.e _ _ _ h.2) h.1
        · cases h
      | unp is a =>
        simp only [ckS] at h
        split at h
        · simp only [Bool.and_eq_true] at h
          obtain ⟨⟨⟨⟨h1, h2⟩, h3⟩, h4⟩, h5⟩ := h
          exact JS_unp (nms_jgs (nms_ok h1)) (noMut_is h2) (S.e _ _ _ h5) h3 h4
        · cases h
      | par is xs =>
        simp only [ckS] at h
        split at h
        · simp only [Bool.and_eq_true, decide_eq_true_eq] at h
          obtain ⟨⟨⟨⟨h1, h2⟩, h3⟩, h4⟩, h5⟩ := h
          split at h5
          · rename_i hs
            exact JS_parN (nms_ok h1) (noMut_is h2) (fun X g => swF_is (by rw [g.sc]; exact hs)) (S.ao _ _ _ h4) h3
          · rename_i ys hs
            split at h5
            · simp only [Bool.and_eq_true, decide_eq_true_eq] at h5
              obtain ⟨⟨⟨c1, c2⟩, c3⟩, c4⟩ := h5
              simp only [nmsB, Bool.and_eq_true, decide_eq_true_eq] at h1
              subst c4
              exact JS_par2 h1.1.1 h1.2.1.1 c1 c2 c3 (noMut_is h2) (fun X g => swF_is (by rw [g.sc]; exact hs)) (S.ao _ _ _ h4)
            · simp only [Bool.and_eq_true, decide_eq_true_eq] at h5
              obtain ⟨⟨⟨⟨⟨⟨c1, c2⟩, c3⟩, c4⟩, c5⟩, c6⟩, c7⟩ := h5
              simp only [nmsB, Bool.and_eq_true, decide_eq_true_eq] at h1
              subst c7
              exact JS_par3 h1.1.1 h1.2.1.1 h1.2.2.1.1 c1 c2 c3 c4 c5 c6 (noMut_is h2) (fun X g => swF_is (by rw [g.sc]; exact hs)) (S.ao _ _ _ h4)
            · cases h5
          · cases h5
        · cases h
      | aug i o a =>
        simp only [ckS] at h
        split at h
        · simp only [Bool.and_eq_true, decide_eq_true_eq, Bool.not_eq_true'] at h
          obtain ⟨⟨⟨⟨⟨h1, h2⟩, h3⟩, h4⟩, h5⟩, h6⟩ := h
          rw [opEq_is h1]
          exact JS_aug (fun X _ => aug_ok h2 X) h3 h4 h5 (S.e _ _ _ h6)
        · cases h
      | setix i ix a =>
        simp only [ckS] at h
        split at h
        · simp only [Bool.and_eq_true] at h
          obtain ⟨⟨⟨h1, h2⟩, h3⟩, h4⟩ := h
          obtain ⟨b1, b2, b3⟩ := varOk_is h1
          exact JS_setix b1 b2 b3 h2 (S.e _ _ _ h3) (S.e _ _ _ h4)
        · cases h
      | setix2 i ix jx a => simp only [ckS] at h; cases h
      | append i a =>
        simp only [ckS] at h
        split at h
        · simp only [Bool.and_eq_true, decide_eq_true_eq, lineOk] at h
          obtain ⟨⟨⟨⟨h1, h2⟩, h3⟩, h4⟩, h5⟩ := h
          subst h1
          obtain ⟨b1, b2, b3⟩ := varOk_is h2
          exact JS_append b1 b2 b3 h3 h4 (S.e _ _ _ h5)
        · cases h
      | extend i a =>
        simp only [ckS] at h
        split at h
        · simp only [Bool.and_eq_true, decide_eq_true_eq, lineOk] at h
          obtain ⟨⟨⟨⟨h1, h2⟩, h3⟩, h4⟩, h5⟩ := h
          subst h1
          obtain ⟨b1, b2, b3⟩ := varOk_is h2
          exact JS_extend b1 b2 b3 h3 h4 (S.e _ _ _ h5)
        · cases h
      | reverse i =>
        simp only [ckS] at h
        split at h
        · simp only [Bool.and_eq_true, decide_eq_true_eq, lineOk] at h
          obtain ⟨⟨h1, h2⟩, h4⟩ := h
          subst h1
          obtain ⟨b1, b2, b3⟩ := varOk_is h2
          exact JS_reverse b1 b2 b3 h4
        · cases h
      | ret a =>
        simp only [ckS] at h
        split at h
        · exact JS_ret (S.e _ _ _ h)
        · cases h
      | retN =>
        simp only [ckS] at h
        split at h
        · exact JS_retN
        · cases h
      | ite c a b =>
        simp only [ckS] at h
        split at h
        · simp only [Bool.and_eq_true] at h
          exact JS_ite (S.t _ _ _ h.1.1) (ihB _ _ _ h.1.2) (ihB _ _ _ h.2)
        · cases h
      | for_ tg it b kill =>
        simp only [ckS] at h
        split at h
        · simp only [Bool.and_eq_true] at h
          obtain ⟨⟨⟨⟨h1, h2⟩, h3⟩, h4⟩, h5⟩ := h
          exact JS_for (S.i _ _ _ _ h1) (ckG_ok h2) (ihB _ _ _ h3) (noMut_is h4) h5
        · cases h
      | while_ c b kill =>
        simp only [ckS] at h
        split at h
        · simp only [Bool.and_eq_true] at h
          exact JS_while (S.t _ _ _ h.1) (ihB _ _ _ h.2)
        · cases h
      | brk =>
        simp only [ckS] at h
        split at h
        · exact JS_brk
        · cases h
      | cont =>
        simp only [ckS] at h
        split at h
        · exact JS_cont
        · cases h
    · cases x with
      | nil =>
        simp only [ckB] at h
        split at h
        · exact JB_nil
        · cases h
      | cons s r =>
        simp only [ckB] at h
        split at h
        · simp only [Bool.and_eq_true] at h
          exact JB_cons (ihS _ _ _ h.1) (ihB _ _ _ h.2)
        · cases h
      | kill is r =>
        simp only [ckB] at h
        exact JB_kill is (ihB _ _ _ h)
end
end VI

/-! VI, part 16: the table of defs. -/
namespace VI
open PySem L2
def DefAt (K : PySem.W.Frag) (mg : Str → Option Value) (x : Str) (st : Stmt) : Prop := ∃ f fd, mg x = some (.ref f) ∧ Fun K x x st f fd
theorem def_mk {K : PySem.W.Frag} {h : Heap} {mg : Str → Option Value} {x : Str} {st : Stmt} {f : Addr} {oc : Value} {od an : Option Addr} {osl : Array (Option Value)} {kV doc pm cdv ct : Value} (X : K.In h) (G : h.Ns mainGlobals mg) (a : PySem.W.nsIn K mainGlobals x = some (some (.ref f)))
    (l : K.lookup f = some ⟨oc, od, .func (PySem.W.fnOf x x (defArgs st) (defBody st) (defScope st) .none kV doc pm an cdv ct), osl⟩) (c : PySem.W.codeIn K cdv x = true) (k : PySem.W.keepIn K (.ref f) = true) : DefAt K mg x st :=
  ⟨f, _, PySem.W.mg_of X G a, fun_mk l c k⟩
def FnAt (P : Program) (w : World) (K : PySem.W.Frag) (mg : Str → Option Value) (base : Heap) (k : Nat) (x : Str) (F : Fn) : Prop :=
  ∃ f fd ps, mg x = some (.ref f) ∧ PySem.W.keepIn K (.ref f) = true ∧ FnOk P w K mg base CX0 k f fd ps (spV K F) ∧ Binds K fd ps []
def ConAt (K : PySem.W.Frag) (mg : Str → Option Value) (x : Str) (d : D) : Prop := ∃ u v, mg x = some u ∧ RelV v u ∧ Rp K (fun _ => none) d v
def Tab (P : Program) (w : World) (K : PySem.W.Frag) (mg : Str → Option Value) (base : Heap) (k : Nat) (fs : List (Str × Fn)) : Prop := ∀ p ∈ fs, FnAt P w K mg base k p.1 p.2
def Cons (K : PySem.W.Frag) (mg : Str → Option Value) (cs : List (Str × D)) : Prop := ∀ p ∈ cs, ConAt K mg p.1 p.2
structure Frees (mg : Str → Option Value) (bl : List Str) : Prop where
  free : ∀ x ∈ bl, x ≠ "gcd" → mg x = none
  gcd : ("gcd" : Str) ∈ bl → mg "gcd" = some (.builtin "math.gcd")
section
variable {P : Program} {w : World} {K : PySem.W.Frag} {mg : Str → Option Value} {base : Heap}
theorem Cons.nil : Cons K mg [] := fun _ h => (nomatch h)
theorem Cons.cons {x : Str} {d : D} {cs : List (Str × D)} (a : ConAt K mg x d) (h : Cons K mg cs) : Cons K mg ((x, d) :: cs) := fun p hp => by
  rcases List.mem_cons.mp hp with rfl | z
  · exact a
  · exact h p z
theorem Frees.nil : Frees mg [] := ⟨fun _ h => (nomatch h), fun h => (nomatch h)⟩
theorem Frees.cons {x : Str} {bl : List Str} (a : mg x = none) (hx : x ≠ "gcd") (h : Frees mg bl) : Frees mg (x :: bl) := ⟨fun y hy hn => by
  rcases List.mem_cons.mp hy with rfl | z
  · exact a
  · exact h.free y z hn, fun hy => by
  rcases List.mem_cons.mp hy with z | z
  · exact (hx z.symm).elim
  · exact h.gcd z⟩
theorem Frees.gcdc {bl : List Str} (a : mg "gcd" = some (.builtin "math.gcd")) (h : Frees mg bl) : Frees mg (("gcd" : Str) :: bl) := ⟨fun y hy hn => by
  rcases List.mem_cons.mp hy with rfl | z
  · exact (hn rfl).elim
  · exact h.free y z hn, fun _ => a⟩
theorem con_int {x : Str} {i : Int} {t : Tok} (h : mg x = some (.int i t)) : ConAt K mg x (.int i) := ⟨_, .int i, h, ⟨t, rfl⟩, by unfold Rp; rfl⟩
theorem Tab.nil {k : Nat} : Tab P w K mg base k [] := fun _ h => (nomatch h)
theorem Tab.snoc {k : Nat} {fs : List (Str × Fn)} {x : Str} {F : Fn} (h : Tab P w K mg base k fs) (a : FnAt P w K mg base (k + 1) x F) : Tab P w K mg base (k + 1) (fs ++ [(x, F)]) := fun p hp => by
  rcases List.mem_append.mp hp with z | z
  · obtain ⟨f, fd, ps, h1, h2, h3, h4⟩ := h p z
    exact ⟨f, fd, ps, h1, h2, h3.mono (Nat.le_succ k), h4⟩
  · cases List.mem_singleton.mp z
    exact a
/-- what a def is, in full -/
structure Dd where
  N : List Str
  ps : List Str
  ways : List Nat
  st : Stmt
  b : Sms
def Dd.ct (d : Dd) (k : Nat) (fs : List (Str × Fn)) (cs : List (Str × D)) (bl : List Str) : Ct := { N := d.N, sc := defScope d.st, fnB := fun _ => true, k := k, muts := mutIx 0 d.ways, fnn := fs.map (·.1), cnn := cs.map (·.1), bl := bl }
def gmOf (fs : List (Str × Fn)) (cs : List (Str × D)) (fuel : Nat) : Gm := { fns := fs.map (·.2), cons := cs.map (·.2), fuel := fuel }
def Dd.fn (d : Dd) (fs : List (Str × Fn)) (cs : List (Str × D)) (fuel : Nat) : Fn := ⟨d.ways, runBody (gmOf fs cs fuel) d.ways d.N.length d.b⟩
theorem map_get {α β γ : Type} {fs : List (α × β)} {f : α × β → γ} {k : Nat} {y : γ} (h : (fs.map f)[k]? = some y) : ∃ p, fs[k]? = some p ∧ f p = y := by
  rw [List.getElem?_map] at h
  cases e : fs[k]? with
  | none => rw [e] at h; cases h
  | some p => rw [e] at h; cases h; exact ⟨p, rfl, rfl⟩
theorem wok_of {d : Dd} {k : Nat} {fs : List (Str × Fn)} {cs : List (Str × D)} {bl : List Str} (fuel : Nat) (tab : Tab P w K mg base k fs) (con : Cons K mg cs) (fr : Frees mg bl) : WOk P w K mg base (gmOf fs cs fuel) (d.ct k fs cs bl) where
  fns := fun j F x h1 h2 => by
    obtain ⟨p, e1, rfl⟩ := map_get h1
    obtain ⟨q, e2, rfl⟩ := map_get h2
    rw [e1] at e2; cases e2
    obtain ⟨f, fd, ps, a, b, c, e⟩ := tab p (List.mem_of_getElem? e1)
    exact ⟨f, fd, ps, a, b, c, e⟩
  con := fun j F x h1 h2 => by
    obtain ⟨p, e1, rfl⟩ := map_get h1
    obtain ⟨q, e2, rfl⟩ := map_get h2
    rw [e1] at e2; cases e2
    exact con p (List.mem_of_getElem? e1)
  free := fr.free
  gcd := fr.gcd
/-- the def's bind -/
def BindOk (st : Stmt) (x : Str) (ps : List Str) : Prop := ∀ (kV doc pm : Value) (an : Option Addr) (cdv ct : Value) (us : List Value), us.length = ps.length → bindArgs (PySem.W.fnOf x x (defArgs st) (defBody st) (defScope st) .none kV doc pm an cdv ct) ⟨us, []⟩ = pure (ps.zip us)
theorem def_core {x : Str} {d : Dd} {k : Nat} {fs : List (Str × Fn)} {cs : List (Str × D)} {bl : List Str} {f : Addr} {fd : FuncData} (fuel : Nat) (FF : Fun K x x d.st f fd) (S : FnScope d.N d.ps (defScope d.st)) (hl : d.ways.length = d.ps.length) (hn : d.ways.length ≤ d.N.length)
    (ck : ckB 400 (d.ct k fs cs bl) (defBody d.st) d.b = true) (tab : Tab P w K mg base k fs) (con : Cons K mg cs) (fr : Frees mg bl) : FnOk P w K mg base CX0 (k + 1) f fd d.ps (spV K (d.fn fs cs fuel)) :=
  fn_ok (C := d.ct k fs cs bl) (ways := d.ways) (b := d.b) FF S rfl hl hn (wok_of fuel tab con fr) ((sndSB 400).2 _ _ _ ck) rfl (fun ds r h => h)
theorem def_at {x : Str} {d : Dd} {k : Nat} {fs : List (Str × Fn)} {cs : List (Str × D)} {bl : List Str} (fuel : Nat) (A : DefAt K mg x d.st) (S : FnScope d.N d.ps (defScope d.st)) (hb : BindOk d.st x d.ps) (hl : d.ways.length = d.ps.length) (hn : d.ways.length ≤ d.N.length)
    (ck : ckB 400 (d.ct k fs cs bl) (defBody d.st) d.b = true) (tab : Tab P w K mg base k fs) (con : Cons K mg cs) (fr : Frees mg bl) : FnAt P w K mg base (k + 1) x (d.fn fs cs fuel) := by
  obtain ⟨f, fd, h1, FF⟩ := A
  exact ⟨f, fd, d.ps, h1, FF.kp, def_core fuel FF S hl hn ck tab con fr, FF.binds hb⟩
theorem law_at {d : Dd} {k : Nat} {fs : List (Str × Fn)} {cs : List (Str × D)} {bl : List Str} {fa : Addr} (fuel : Nat) (hfa : mg "law" = some (.ref fa)) (A : DefAt K mg "law" d.st) (S : FnScope d.N d.ps (defScope d.st)) (hb : BindOk d.st "law" (["script"] : List Str)) (hps : d.ps = (["script"] : List Str)) (hl : d.ways.length = d.ps.length) (hn : d.ways.length ≤ d.N.length)
    (ck : ckB 400 (d.ct k fs cs bl) (defBody d.st) d.b = true) (tab : ∀ base : Heap, Tab P w K mg base k fs) (con : Cons K mg cs) (fr : Frees mg bl) :
    ∃ fd : FuncData, (∀ (s : Shared) (v : Value), BindsTo s fd ⟨[v], []⟩ [("script", v)]) ∧ ∀ base : Heap, K.In base → base.Ns mainGlobals mg → FnOk P w K mg base CX0 (k + 1) fa fd ["script"] (spV K (d.fn fs cs fuel)) := by
  obtain ⟨f, fd, h1, FF⟩ := A
  have e := hfa.symm.trans h1
  cases e
  refine ⟨fd, fun s v => ?_, fun base _ _ => ?_⟩
  · obtain ⟨oc, od, kV, doc, pm, an, cdv, ct, osl, rfl, lk, hcd⟩ := FF.ex
    exact .of_eq (hb kV doc pm an cdv ct [v] rfl)
  · have := def_core (P := P) (w := w) (base := base) fuel FF S hl hn ck (tab base) con fr
    rw [hps] at this
    exact this
end
end VI

/-! VI, part 17: what a small program gives, read forwards. -/
namespace VI
open PySem L2
section
variable {G : Gm}
def WE (G : Gm) (e : Ex) (E : Env) (Q : SV → Env → Prop) : Prop := ∃ r E', ev G e E = some (r, E') ∧ Q r E'
def WEs (G : Gm) (e : Exs) (E : Env) (Q : List SV → Env → Prop) : Prop := ∃ r E', evs G e E = some (r, E') ∧ Q r E'
def WO (G : Gm) (e : Oe) (E : Env) (Q : Option SV → Env → Prop) : Prop := ∃ r E', evo G e E = some (r, E') ∧ Q r E'
def WT (G : Gm) (e : Oe) (E : Env) (Q : Bool → Env → Prop) : Prop := ∃ r E', evt G e E = some (r, E') ∧ Q r E'
def WI (G : Gm) (e : It) (E : Env) (Q : List D → Env → Prop) : Prop := ∃ r E', evI G e E = some (r, E') ∧ Q r E'
def PostP (n : Env → Prop) (r : SV → Env → Prop) (b c : Env → Prop) : Out → Prop
  | .nx E => n E
  | .rt v E => r v E
  | .bk E => b E
  | .ct E => c E
def WS (G : Gm) (s : Sm) (E : Env) (n : Env → Prop) (r : SV → Env → Prop) (b c : Env → Prop) : Prop := ∃ o, exS G s E = some o ∧ PostP n r b c o
def WB (G : Gm) (s : Sms) (E : Env) (n : Env → Prop) (r : SV → Env → Prop) (b c : Env → Prop) : Prop := ∃ o, exB G s E = some o ∧ PostP n r b c o
/-! side conditions, with names -/
def StP (c : Bool) (p : Prop) : Prop := c = true ∧ p
theorem StP.mk {c : Bool} {p : Prop} (h : c = true) (k : p) : StP c p := ⟨h, k⟩
def BinP (o : Bop) (x y : SV) (k : SV → Prop) : Prop := ∃ z, binD o x y = some z ∧ k z
def CmpP (o : Cop) (x y : SV) (k : Bool → Prop) : Prop := ∃ z, cmpD o x y = some z ∧ k z
def TruP (d : D) (k : Bool → Prop) : Prop := ∃ z, truth d = some z ∧ k z
def BlP (d : D) (k : Bool → Prop) : Prop := ∃ z, d = .bl z ∧ k z
def IntP (d : D) (k : Int → Prop) : Prop := ∃ z, d = .int z ∧ k z
def SlP (x : SV) (k : SV → Prop) : Prop := ∃ v, x.toSlot = some v ∧ k v
def KpP (x : SV) (k : D → Prop) : Prop := ∃ v, x.keep = some v ∧ k v
def BiP (b : Bi) (xs : List SV) (k : SV → Prop) : Prop := ∃ v, biD b xs = some v ∧ k v
def GetP (x : SV) (i : D) (k : SV → Prop) : Prop := ∃ v, getD x i = some v ∧ k v
def IfP (z : Bool) (p q : Prop) : Prop := (z = true → p) ∧ (z = false → q)
theorem IfP.dec {p : Prop} [Decidable p] {a b : Prop} (h1 : p → a) (h2 : ¬ p → b) : IfP (decide p) a b := ⟨fun z => h1 (of_decide_eq_true z), fun z => h2 (of_decide_eq_false z)⟩
theorem IfP.yes {p : Prop} [Decidable p] {a b : Prop} (h : p) (h1 : a) : IfP (decide p) a b := ⟨fun _ => h1, fun z => absurd h (of_decide_eq_false z)⟩
theorem IfP.no {p : Prop} [Decidable p] {a b : Prop} (h : ¬ p) (h1 : b) : IfP (decide p) a b := ⟨fun z => absurd (of_decide_eq_true z) h, fun _ => h1⟩
theorem IfP.nr {α : Type} {x : α} {d : Decidable (x ≠ x)} {a b : Prop} (h : b) : IfP (@decide (x ≠ x) d) a b := ⟨fun z => absurd rfl (of_decide_eq_true z), fun _ => h⟩
theorem IfP.t {a b : Prop} (h1 : a) : IfP true a b := ⟨fun _ => h1, fun z => nomatch z⟩
theorem IfP.f {a b : Prop} (h1 : b) : IfP false a b := ⟨fun z => (nomatch z), fun _ => h1⟩
theorem IfP.tt {z : Bool} {a b : Prop} (h : z = true) (h1 : a) : IfP z a b := by subst h; exact IfP.t h1
theorem IfP.ff {z : Bool} {a b : Prop} (h : z = false) (h1 : b) : IfP z a b := by subst h; exact IfP.f h1
theorem IfP.nt {z : Bool} {a b : Prop} (h : IfP z b a) : IfP (!z) a b := by
  cases z with
  | false => exact ⟨fun _ => h.2 rfl, fun e => nomatch e⟩
  | true => exact ⟨fun e => (nomatch e), fun _ => h.1 rfl⟩
/-! ### expressions -/
variable {E : Env} {Q : SV → Env → Prop}
theorem WE.var {i : Nat} {d : D} (h : slot E i = some (.fz d)) (k : Q (.fz d) E) : WE G (.var i) E Q := ⟨_, _, by simp only [ev, h], k⟩
theorem WE.varO {i n : Nat} {d : D} (h : slot E i = some (.ow n d)) (k : Q (.pk n d) E) : WE G (.var i) E Q := ⟨_, _, by simp only [ev, h], k⟩
theorem WE.fzv {i : Nat} {d : D} (h : slot E i = some (.fz d)) (k : Q (.fz d) E) : WE G (.fzv i) E Q := ⟨_, _, by simp only [ev, h], k⟩
theorem WE.fzvO {i n : Nat} {d : D} (h : slot E i = some (.ow n d)) (k : Q (.fz d) (E.set i (some (.fz d)))) : WE G (.fzv i) E Q := ⟨_, _, by simp only [ev, h], k⟩
theorem WE.mvv {i : Nat} {d : D} (h : slot E i = some (.fz d)) (k : Q (.fz d) E) : WE G (.mvv i) E Q := ⟨_, _, by simp only [ev, h], k⟩
theorem WE.mvvO {i n : Nat} {d : D} (h : slot E i = some (.ow n d)) (k : Q (.ow n d) (E.set i none)) : WE G (.mvv i) E Q := ⟨_, _, by simp only [ev, h], k⟩
theorem WE.int {i : Int} (k : Q (.fz (.int i)) E) : WE G (.int i) E Q := ⟨_, _, by simp only [ev], k⟩
theorem WE.bl {i : Bool} (k : Q (.fz (.bl i)) E) : WE G (.bl i) E Q := ⟨_, _, by simp only [ev], k⟩
theorem WE.str {i : Str} (k : Q (.fz (.str i)) E) : WE G (.str i) E Q := ⟨_, _, by simp only [ev], k⟩
theorem WE.non (k : Q (.fz .non) E) : WE G .non E Q := ⟨_, _, by simp only [ev], k⟩
theorem WE.con {i : Nat} {d : D} (h : G.cons[i]? = some d) (k : Q (.fz d) E) : WE G (.con i) E Q := ⟨_, _, by simp only [ev, h, Option.map_some], k⟩
theorem WE.bin {o : Bop} {a b : Ex} (h : WE G a E fun x E1 => WE G b E1 fun y E2 => StP (x.stable || b.pure) (BinP o x y fun z => Q z E2)) : WE G (.bin o a b) E Q := by
  obtain ⟨x, E1, e1, y, E2, e2, s, z, e3, k⟩ := h
  exact ⟨z, E2, by simp only [ev, e1, e2, s, if_true, e3, Option.map_some], k⟩
theorem WE.neg {a : Ex} (h : WE G a E fun x E1 => IntP x.d fun i => Q (.fz (.int (-i))) E1) : WE G (.neg a) E Q := by
  obtain ⟨x, E1, e1, i, e2, k⟩ := h
  exact ⟨_, E1, by simp only [ev, e1, e2], k⟩
theorem WE.cmp {o : Cop} {a b : Ex} (h : WE G a E fun x E1 => WE G b E1 fun y E2 => StP (x.stable || b.pure) (CmpP o x y fun z => Q (.fz (.bl z)) E2)) : WE G (.cmp o a b) E Q := by
  obtain ⟨x, E1, e1, y, E2, e2, s, z, e3, k⟩ := h
  exact ⟨_, E2, by simp only [ev, e1, e2, s, if_true, e3, Option.map_some], k⟩
theorem WE.chain {o p : Cop} {a b c : Ex} (h : WE G a E fun x E1 => WE G b E1 fun y E2 => StP ((x.stable || b.pure) && (y.stable || c.pure)) (CmpP o x y fun t => IfP t (WE G c E2 fun z E3 => CmpP p y z fun r => Q (.fz (.bl r)) E3) (Q (.fz (.bl false)) E2))) : WE G (.chain o p a b c) E Q := by
  obtain ⟨x, E1, e1, y, E2, e2, s, z, e3, k⟩ := h
  cases z with
  | false => exact ⟨_, E2, by simp only [ev, e1, e2, s, if_true, e3], k.2 rfl⟩
  | true =>
    obtain ⟨w, E3, e4, r, e5, k⟩ := k.1 rfl
    exact ⟨_, E3, by simp only [ev, e1, e2, s, if_true, e3, e4, e5, Option.map_some], k⟩
theorem WE.and {a b : Ex} (h : WE G a E fun x E1 => BlP x.d fun t => IfP t (WE G b E1 Q) (Q (.fz (.bl false)) E1)) : WE G (.and a b) E Q := by
  obtain ⟨x, E1, e1, z, e2, k⟩ := h
  cases z with
  | false => exact ⟨_, E1, by simp only [ev, e1, e2], k.2 rfl⟩
  | true =>
    obtain ⟨w, E3, e4, k⟩ := k.1 rfl
    exact ⟨_, E3, by simp only [ev, e1, e2, e4], k⟩
theorem WE.or {a b : Ex} (h : WE G a E fun x E1 => BlP x.d fun t => IfP t (Q (.fz (.bl true)) E1) (WE G b E1 Q)) : WE G (.or a b) E Q := by
  obtain ⟨x, E1, e1, z, e2, k⟩ := h
  cases z with
  | true => exact ⟨_, E1, by simp only [ev, e1, e2], k.1 rfl⟩
  | false =>
    obtain ⟨w, E3, e4, k⟩ := k.2 rfl
    exact ⟨_, E3, by simp only [ev, e1, e2, e4], k⟩
theorem WE.not {a : Ex} (h : WE G a E fun x E1 => TruP x.d fun t => Q (.fz (.bl (!t))) E1) : WE G (.not a) E Q := by
  obtain ⟨x, E1, e1, z, e2, k⟩ := h
  exact ⟨_, E1, by simp only [ev, e1, e2, Option.map_some], k⟩
theorem WE.ite {c a b : Ex} (h : WE G c E fun x E1 => TruP x.d fun t => IfP t (WE G a E1 Q) (WE G b E1 Q)) : WE G (.ite c a b) E Q := by
  obtain ⟨x, E1, e1, z, e2, k⟩ := h
  cases z with
  | true =>
    obtain ⟨w, E3, e4, k⟩ := k.1 rfl
    exact ⟨_, E3, by simp only [ev, e1, e2, e4], k⟩
  | false =>
    obtain ⟨w, E3, e4, k⟩ := k.2 rfl
    exact ⟨_, E3, by simp only [ev, e1, e2, e4], k⟩
def KsP (xs : List SV) (k : List D → Prop) : Prop := ∃ ds, xs.mapM SV.keep = some ds ∧ ds.length ≤ LN ∧ k ds
def keepL : List SV → Option (List D)
  | [] => some []
  | x :: xs => match x.keep, keepL xs with
    | some d, some ds => some (d :: ds)
    | _, _ => none
theorem keepL_is : ∀ {xs : List SV} {ds : List D}, keepL xs = some ds → xs.mapM SV.keep = some ds
  | [], ds, h => by cases h; rfl
  | x :: xs, ds, h => by
    unfold keepL at h
    split at h
    · rename_i d ds' h1 h2
      cases h
      rw [List.mapM_cons, h1, keepL_is h2]; rfl
    · cases h
theorem KsP.mk {xs : List SV} {ds : List D} {k : List D → Prop} (h : keepL xs = some ds) (hl : Nat.ble ds.length 1000 = true) (q : k ds) : KsP xs k := ⟨ds, keepL_is h, Nat.le_trans (Nat.le_of_ble_eq_true hl) (by decide), q⟩
theorem WE.tup {es : Exs} (h : WEs G es E fun xs E1 => KsP xs fun ds => Q (.fz (.tup ds)) E1) : WE G (.tup es) E Q := by
  obtain ⟨x, E1, e1, z, e2, e3, k⟩ := h
  exact ⟨_, E1, by simp only [ev, e1, e2, e3, if_true], k⟩
theorem WE.list {es : Exs} (h : WEs G es E fun xs E1 => KsP xs fun ds => Q (.ow 1 (.list ds)) E1) : WE G (.list es) E Q := by
  obtain ⟨x, E1, e1, z, e2, e3, k⟩ := h
  exact ⟨_, E1, by simp only [ev, e1, e2, e3, if_true], k⟩
theorem WE.sub {a i : Ex} (h : WE G a E fun x E1 => WE G i E1 fun y E2 => StP (x.stable || i.pure) (GetP x y.d fun z => Q z E2)) : WE G (.sub a i) E Q := by
  obtain ⟨x, E1, e1, y, E2, e2, s, z, e3, k⟩ := h
  exact ⟨z, E2, by simp only [ev, e1, e2, s, if_true, e3, Option.map_some], k⟩
def SlcP (x : SV) (y z : Option SV) (k : SV → Prop) : Prop := ∃ i j r, optI y = some i ∧ optI z = some j ∧ sliceD x i j = some r ∧ k r
theorem WE.slice {a : Ex} {lo hi : Oe} (h : WE G a E fun x E1 => WO G lo E1 fun y E2 => WO G hi E2 fun z E3 => StP (x.stable || (lo.pure && hi.pure)) (SlcP x y z fun r => Q r E3)) : WE G (.slice a lo hi) E Q := by
  obtain ⟨x, E1, e1, y, E2, e2, z, E3, e3, s, i, j, r, e4, e5, e6, k⟩ := h
  exact ⟨r, E3, by simp only [ev, e1, e2, e3, s, if_true, e4, e5, e6, Option.map_some], k⟩
theorem WO.no {Q : Option SV → Env → Prop} (k : Q none E) : WO G .no E Q := ⟨_, _, by simp only [evo], k⟩
theorem WO.so {e : Ex} {Q : Option SV → Env → Prop} (h : WE G e E fun x E1 => Q (some x) E1) : WO G (.so e) E Q := by
  obtain ⟨x, E1, e1, k⟩ := h
  exact ⟨_, _, by simp only [evo, e1], k⟩
theorem WT.no {Q : Bool → Env → Prop} (k : Q true E) : WT G .no E Q := ⟨_, _, by simp only [evt], k⟩
theorem WT.so {e : Ex} {Q : Bool → Env → Prop} (h : WE G e E fun x E1 => TruP x.d fun t => Q t E1) : WT G (.so e) E Q := by
  obtain ⟨x, E1, e1, z, e2, k⟩ := h
  exact ⟨_, _, by simp only [evt, e1, e2, Option.map_some], k⟩
theorem WEs.nil {Q : List SV → Env → Prop} (k : Q [] E) : WEs G .nil E Q := ⟨_, _, by simp only [evs], k⟩
theorem WEs.cons {e : Ex} {es : Exs} {Q : List SV → Env → Prop} (h : WE G e E fun x E1 => WEs G es E1 fun rs E2 => StP (x.stable || es.pure) (Q (x :: rs) E2)) : WEs G (.cons e es) E Q := by
  obtain ⟨x, E1, e1, y, E2, e2, s, k⟩ := h
  exact ⟨_, E2, by simp only [evs, e1, e2, s, if_true], k⟩
def CallP (G : Gm) (k : Nat) (es : Exs) (E1 : Env) (rs : List SV) (Q : SV → Env → Prop) : Prop := ∃ F ds r ms E2, G.fns[k]? = some F ∧ argsOf E1 F.ways es rs = some ds ∧ F.f ds = some (r, ms) ∧ (isPk r = false ∧ (mutVars F.ways es).Nodup) ∧ putBack (killE E1 (mutVars F.ways es)) F.ways es ms = some E2 ∧ Q r E2
theorem WE.call {k : Nat} {es : Exs} (h : WEs G es E fun rs E1 => CallP G k es E1 rs Q) : WE G (.call k es) E Q := by
  obtain ⟨rs, E1, e1, F, ds, r, ms, E2, h1, h2, h3, h4, h5, k⟩ := h
  refine ⟨r, E2, ?_, k⟩
  simp only [ev, e1, h1, h2, h3]
  rw [if_pos h4, h5]
  rfl
theorem CallP.mk {k : Nat} {es : Exs} {rs : List SV} {F : Fn} {ds ms : List D} {r : SV} {E2 : Env} (h1 : G.fns[k]? = some F) (h2 : argsOf E F.ways es rs = some ds) (h3 : F.f ds = some (r, ms)) (h4 : isPk r = false) (h5 : (mutVars F.ways es).Nodup) (h6 : putBack (killE E (mutVars F.ways es)) F.ways es ms = some E2) (q : Q r E2) : CallP G k es E rs Q :=
  ⟨F, ds, r, ms, E2, h1, h2, h3, ⟨h4, h5⟩, h6, q⟩
theorem WE.bi {b : Bi} {es : Exs} (h : WEs G es E fun rs E1 => BiP b rs fun z => Q z E1) : WE G (.bi b es) E Q := by
  obtain ⟨rs, E1, e1, z, e2, k⟩ := h
  exact ⟨z, E1, by simp only [ev, e1, e2, Option.map_some], k⟩
theorem WE.me {m : Me} {o : Ex} {es : Exs} (h : WE G o E fun x E1 => WEs G es E1 fun rs E2 => StP (x.stable || es.pure) (∃ z, meD m x rs = some z ∧ Q z E2)) : WE G (.me m o es) E Q := by
  obtain ⟨x, E1, e1, rs, E2, e2, s, z, e3, k⟩ := h
  exact ⟨z, E2, by simp only [ev, e1, e2, s, if_true, e3, Option.map_some], k⟩
theorem WE.pop {i : Nat} {xs : List D} {d : D} (h : slot E i = some (.ow 1 (.list xs))) (h2 : xs.getLast? = some d) (k : Q (.fz d) (E.set i (some (.ow 1 (.list xs.dropLast))))) : WE G (.pop i) E Q := ⟨_, _, by simp only [ev, h, h2], k⟩
def LrP (i j : Int) (k : SV → Prop) : Prop := small i = true ∧ small j = true ∧ j - i ≤ LN ∧ k (.ow 1 (.list (rangeD i 1 (j - i).toNat)))
theorem WE.lrange2 {a b : Ex} (h : WE G a E fun x E1 => WE G b E1 fun y E2 => IntP x.d fun i => IntP y.d fun j => LrP i j fun z => Q z E2) : WE G (.lrange (.rng2 a b)) E Q := by
  obtain ⟨x, E1, e1, y, E2, e2, i, e3, j, e4, h1, h2, h3, k⟩ := h
  exact ⟨_, E2, by simp only [ev, e1, e2, e3, e4, h1, h2, Bool.true_and, decide_eq_true h3, if_true], k⟩
theorem WE.lrange1 {a : Ex} (h : WE G a E fun x E1 => IntP x.d fun i => LrP 0 i fun z => Q z E1) : WE G (.lrange (.rng1 a)) E Q := by
  obtain ⟨x, E1, e1, i, e3, h1, h2, h3, k⟩ := h
  rw [Int.sub_zero] at h3 k
  exact ⟨_, E1, by simp only [ev, e1, e3, h2, Bool.true_and, decide_eq_true h3, if_true], k⟩
theorem WE.rev {a : Ex} (h : WE G a E fun x E1 => ∃ xs, x.d = .list xs ∧ x.shal = true ∧ Q (.ow 1 (.list xs.reverse)) E1) : WE G (.rev a) E Q := by
  obtain ⟨x, E1, e1, xs, e2, e3, k⟩ := h
  exact ⟨_, E1, by simp only [ev, e1, e2, e3, if_true], k⟩
/-! ### comprehensions -/
def LcP (G : Gm) (n : Nat) (own : List Nat) (tg : Tg) (c : Oe) (e : Ex) (ds : List D) (E : Env) (Q : SV → Env → Prop) : Prop := ∃ rs E2, lcGo n tg (fun E => evt G c E) (fun E => ev G e E) own ds [] E = some (rs, E2) ∧ Q (.ow (n + 1) (.list rs)) (unown E own (killE E2 own))
theorem WE.lc {n : Nat} {own : List Nat} {tg : Tg} {it : It} {c : Oe} {e : Ex} (h : WI G it E fun ds E1 => LcP G n own tg c e ds E1 Q) : WE G (.lc n own tg it c e) E Q := by
  obtain ⟨ds, E1, e1, rs, E2, e2, k⟩ := h
  exact ⟨_, _, by simp only [ev, e1, e2], k⟩
/-- each turn begins with the same slots Ek; a kept item gives g, by p -/
theorem lc_go {α : Type} {n : Nat} {own : List Nat} {tg : Tg} {c : Oe} {e : Ex} {Ek : Env} (en : α → D) (g : α → D) (p : α → Bool) : ∀ (xs : List α) (acc : List D) (E : Env), killE E own = Ek → acc.length + xs.length ≤ LN →
    (∀ x ∈ xs, ∃ E1, tgSet Ek tg (en x) = some E1 ∧ WT G c E1 fun t E2 => t = p x ∧ killE E2 own = Ek ∧ (t = true → WE G e E2 fun r E3 => killE E3 own = Ek ∧ (match n with | 0 => r.keep = some (g x) | m + 1 => r = .ow (m + 1) (g x)))) →
    ∃ E2, lcGo n tg (fun E => evt G c E) (fun E => ev G e E) own (xs.map en) acc E = some (acc ++ (xs.filter p).map g, E2) ∧ killE E2 own = Ek
  | [], acc, E, hE, _, _ => ⟨E, by simp only [List.map_nil, lcGo, List.filter_nil, List.append_nil], hE⟩
  | x :: xs, acc, E, hE, hl, h => by
    obtain ⟨E1, h1, t, E2, h2, h3, h4, h5⟩ := h x List.mem_cons_self
    rw [List.length_cons] at hl
    cases t with
    | false =>
      obtain ⟨E3, q1, q2⟩ := lc_go en g p xs acc E2 h4 (by omega) fun y hy => h y (List.mem_cons_of_mem _ hy)
      refine ⟨E3, ?_, q2⟩
      rw [List.map_cons, lcGo, hE, h1]
      simp only [h2]
      rw [q1, List.filter_cons, if_neg (by rw [← h3]; simp)]
    | true =>
      obtain ⟨r, E4, h6, h7, h8⟩ := h5 rfl
      obtain ⟨E3, q1, q2⟩ := lc_go en g p xs (acc ++ [g x]) E4 h7 (by rw [List.length_append]; simp only [List.length_cons, List.length_nil]; omega) fun y hy => h y (List.mem_cons_of_mem _ hy)
      refine ⟨E3, ?_, q2⟩
      rw [List.map_cons, lcGo, hE, h1]
      simp only [h2, h6]
      rw [if_pos (by omega), List.filter_cons, if_pos (by rw [← h3])]
      cases n with
      | zero =>
        simp only at h8
        simp only [h8]
        rw [q1, List.append_assoc]; rfl
      | succ m =>
        simp only at h8
        subst h8
        simp only [if_true]
        rw [q1, List.append_assoc]; rfl
theorem LcP.mk {α : Type} {n : Nat} {own : List Nat} {tg : Tg} {c : Oe} {e : Ex} {ds : List D} (xs : List α) (en : α → D) (g : α → D) (p : α → Bool) (hds : ds = xs.map en) (hl : xs.length ≤ LN)
    (h : ∀ x ∈ xs, ∃ E1, tgSet (killE E own) tg (en x) = some E1 ∧ WT G c E1 fun t E2 => t = p x ∧ killE E2 own = killE E own ∧ (t = true → WE G e E2 fun r E3 => killE E3 own = killE E own ∧ (match n with | 0 => r.keep = some (g x) | m + 1 => r = .ow (m + 1) (g x))))
    (k : Q (.ow (n + 1) (.list ((xs.filter p).map g))) (unown E own (killE E own))) : LcP G n own tg c e ds E Q := by
  subst hds
  obtain ⟨E2, h1, h2⟩ := lc_go en g p xs [] E rfl (by simpa using hl) h
  refine ⟨_, E2, h1, ?_⟩
  rw [h2]
  exact k
/-! ### what a for walks -/
variable {QI : List D → Env → Prop}
theorem WI.rng1 {a : Ex} (h : WE G a E fun x E1 => IntP x.d fun i => small i = true ∧ QI (rangeD 0 1 i.toNat) E1) : WI G (.rng1 a) E QI := by
  obtain ⟨x, E1, e1, i, e2, s, k⟩ := h
  exact ⟨_, E1, by simp only [evI, e1, e2, s, if_true], k⟩
theorem WI.rng2 {a b : Ex} (h : WE G a E fun x E1 => WE G b E1 fun y E2 => IntP x.d fun i => IntP y.d fun j => (small i && small j) = true ∧ QI (rangeD i 1 (j - i).toNat) E2) : WI G (.rng2 a b) E QI := by
  obtain ⟨x, E1, e1, y, E2, e3, i, e2, j, e4, s, k⟩ := h
  exact ⟨_, E2, by simp only [evI, e1, e3, e2, e4, s, if_true], k⟩
def ItP (x : SV) (k : List D → Prop) : Prop := isPk x = false ∧ ∃ ds, iterOf x.d = some ds ∧ k ds
theorem WI.seq {a : Ex} (h : WE G a E fun x E1 => ItP x fun ds => QI ds E1) : WI G (.seq a) E QI := by
  obtain ⟨x, E1, e1, s, ds, e2, k⟩ := h
  exact ⟨_, E1, by simp only [evI, e1, s, Bool.false_eq_true, if_false, e2, Option.map_some], k⟩
def LsP (x : SV) (k : List D → Prop) : Prop := isPk x = false ∧ ∃ ds, x.d = .list ds ∧ k ds
theorem WI.enum {a : Ex} (h : WE G a E fun x E1 => LsP x fun ds => QI (enumD 0 ds) E1) : WI G (.enum a) E QI := by
  obtain ⟨x, E1, e1, s, ds, e2, k⟩ := h
  exact ⟨_, E1, by simp only [evI, e1, s, Bool.false_eq_true, if_false, e2], k⟩
theorem WI.rev {a : Ex} (h : WE G a E fun x E1 => LsP x fun ds => QI ds.reverse E1) : WI G (.rev a) E QI := by
  obtain ⟨x, E1, e1, s, ds, e2, k⟩ := h
  exact ⟨_, E1, by simp only [evI, e1, s, Bool.false_eq_true, if_false, e2], k⟩
theorem WI.zip {a b : Ex} (h : WE G a E fun x E1 => WE G b E1 fun y E2 => LsP x fun ds => LsP y fun es => QI (zipD ds es) E2) : WI G (.zip a b) E QI := by
  obtain ⟨x, E1, e1, y, E2, e3, s, ds, e2, s', es, e4, k⟩ := h
  exact ⟨_, E2, by simp only [evI, e1, e3, s, s', Bool.or_self, Bool.false_eq_true, if_false, e2, e4], k⟩
/-! ### statements -/
variable {n : Env → Prop} {r : SV → Env → Prop} {b c : Env → Prop}
theorem WB.nil (k : n E) : WB G .nil E n r b c := ⟨.nx _, by simp only [exB], k⟩
theorem WB.cons0 {s : Sm} {rest : Sms} (h : WS G s E (fun E1 => WB G rest E1 n r b c) r b c) : WB G (.cons s rest) E n r b c := by
  obtain ⟨o, e, k⟩ := h
  cases o with
  | nx E1 =>
    obtain ⟨o2, e2, k2⟩ := k
    exact ⟨o2, by simp only [exB, e, e2], k2⟩
  | rt v E1 => exact ⟨.rt _ _, by simp only [exB, e], k⟩
  | bk E1 => exact ⟨.bk _, by simp only [exB, e], k⟩
  | ct E1 => exact ⟨.ct _, by simp only [exB, e], k⟩
class SetAt (E : Env) (i : Nat) (v : Option SV) (E' : outParam Env) : Prop where
  eq : E.set i v = E'
instance {x v : Option SV} {E : Env} : SetAt (x :: E) 0 v (v :: E) := ⟨rfl⟩
instance {x v : Option SV} {E E' : Env} {n : Nat} [h : SetAt E n v E'] : SetAt (x :: E) (n + 1) v (x :: E') := ⟨by rw [List.set_cons_succ, h.eq]⟩
class NormE (E : Env) (E' : outParam Env) : Prop where
  eq : E = E'
instance (priority := low) {E : Env} : NormE E E := ⟨rfl⟩
instance {E E1 E2 : Env} {i : Nat} {v : Option SV} [h : NormE E E1] [k : SetAt E1 i v E2] : NormE (E.set i v) E2 := ⟨by rw [h.eq, k.eq]⟩
instance {E E1 : Env} [h : NormE E E1] : NormE (killE E []) E1 := ⟨h.eq⟩
instance {E E1 E2 E3 : Env} {i : Nat} {is : List Nat} [h : NormE E E1] [k : SetAt E1 i none E2] [l : NormE (killE E2 is) E3] : NormE (killE E (i :: is)) E3 := ⟨by
  rw [← l.eq]
  unfold killE
  rw [List.foldl_cons, h.eq, k.eq]⟩
theorem WB.cons {s : Sm} {rest : Sms} {E0 : Env} [ne : NormE E0 E] (h : WS G s E (fun E1 => WB G rest E1 n r b c) r b c) : WB G (.cons s rest) E0 n r b c := by
  rw [ne.eq]
  exact WB.cons0 h
theorem CallP.pure {k : Nat} {es : Exs} {rs : List SV} {F : Fn} {ds : List D} {v : SV} (h1 : G.fns[k]? = some F) (h2 : argsOf E F.ways es rs = some ds) (h3 : F.f ds = some (v, [])) (h4 : isPk v = false) (h5 : mutVars F.ways es = []) (h6 : putBack E F.ways es [] = some E) (q : Q v E) : CallP G k es E rs Q :=
  ⟨F, ds, v, [], E, h1, h2, h3, ⟨h4, by rw [h5]; exact List.nodup_nil⟩, by rw [h5]; exact h6, q⟩
theorem WB.kill {is : List Nat} {rest : Sms} (h : WB G rest (killE E is) n r b c) : WB G (.kill is rest) E n r b c := by
  obtain ⟨o, e, k⟩ := h
  exact ⟨o, by simp only [exB, e], k⟩
theorem WS.skip (k : n E) : WS G .skip E n r b c := ⟨.nx _, by simp only [exS], k⟩
theorem WS.expr {e : Ex} (h : WE G e E fun _ E1 => n E1) : WS G (.expr e) E n r b c := by
  obtain ⟨x, E1, e1, k⟩ := h
  exact ⟨.nx _, by simp only [exS, e1], k⟩
theorem WS.set {i : Nat} {e : Ex} (h : WE G e E fun x E1 => SlP x fun v => n (E1.set i (some v))) : WS G (.set i e) E n r b c := by
  obtain ⟨x, E1, e1, v, e2, k⟩ := h
  exact ⟨.nx _, by simp only [exS, e1, e2], k⟩
def UnP (x : SV) (E1 : Env) (is : List Nat) (n : Env → Prop) : Prop := isPk x = false ∧ ∃ E2, tgSet E1 (.tup is) x.d = some E2 ∧ n E2
theorem WS.unp {is : List Nat} {e : Ex} (h : WE G e E fun x E1 => UnP x E1 is n) : WS G (.unp is e) E n r b c := by
  obtain ⟨x, E1, e1, s, E2, e2, k⟩ := h
  exact ⟨.nx _, by simp only [exS, e1, s, Bool.false_eq_true, if_false, e2, Option.map_some], k⟩
def ParP (E1 : Env) (is : List Nat) (rs : List SV) (n : Env → Prop) : Prop := ∃ E2, setSv E1 is rs = some E2 ∧ n E2
theorem WS.par {is : List Nat} {es : Exs} (h : WEs G es E fun rs E1 => ParP E1 is rs n) : WS G (.par is es) E n r b c := by
  obtain ⟨x, E1, e1, E2, e2, k⟩ := h
  exact ⟨.nx _, by simp only [exS, e1, e2, Option.map_some], k⟩
def AugP (o : Bop) (d e : D) (k : D → Prop) : Prop := ∃ z, augD o d e = some z ∧ k z
theorem WS.aug {i : Nat} {o : Bop} {e : Ex} {d : D} (hs : slot E i = some (.fz d)) (h : WE G e E fun y E1 => AugP o d y.d fun z => n (E1.set i (some (.fz z)))) : WS G (.aug i o e) E n r b c := by
  obtain ⟨x, E1, e1, v, e2, k⟩ := h
  exact ⟨.nx _, by simp only [exS, hs, e1, e2, Option.map_some], k⟩
def SixP (E1 E2 : Env) (i : Nat) (x k : SV) (n : Env → Prop) : Prop := ∃ v j xs p, (slot E1 i).isSome = true ∧ x.keep = some v ∧ k.d = .int j ∧ slot E2 i = some (.ow 1 (.list xs)) ∧ ixN xs.length j = some p ∧ n (E2.set i (some (.ow 1 (.list (xs.set p v)))))
theorem WS.setix {i : Nat} {ix e : Ex} (h : WE G e E fun x E1 => WE G ix E1 fun k E2 => SixP E1 E2 i x k n) : WS G (.setix i ix e) E n r b c := by
  obtain ⟨x, E1, e1, k, E2, e2, v, j, xs, p, s, h1, h2, h3, h4, q⟩ := h
  obtain ⟨w, hw⟩ := Option.isSome_iff_exists.mp s
  exact ⟨.nx _, by simp only [exS, e1, hw, e2, h1, h2, h3, h4], q⟩
theorem SixP.mk {E1 E2 : Env} {i : Nat} {x k : SV} {v : D} {j : Int} {xs : List D} {p : Nat} (s : (slot E1 i).isSome = true) (h1 : x.keep = some v) (h2 : k.d = .int j) (h3 : slot E2 i = some (.ow 1 (.list xs))) (h4 : ixN xs.length j = some p) (q : n (E2.set i (some (.ow 1 (.list (xs.set p v)))))) : SixP E1 E2 i x k n := ⟨v, j, xs, p, s, h1, h2, h3, h4, q⟩
def AppP (E1 : Env) (i : Nat) (x : SV) (n : Env → Prop) : Prop := ∃ m xs v, slot E1 i = some (.ow (m + 1) (.list xs)) ∧ (match m with | 0 => x.keep = some v | m + 1 => x = .ow (m + 1) v) ∧ xs.length < LN ∧ n (E1.set i (some (.ow (m + 1) (.list (xs ++ [v])))))
theorem WS.append {i m : Nat} {e : Ex} {xs : List D} (hs : slot E i = some (.ow m (.list xs))) (h : WE G e E fun x E1 => AppP E1 i x n) : WS G (.append i e) E n r b c := by
  obtain ⟨x, E1, e1, m, ys, v, e2, e3, e4, k⟩ := h
  cases m with
  | zero => exact ⟨.nx _, by simp only [exS, hs, e1, e2]; simp only at e3; rw [e3]; simp only [if_pos e4], k⟩
  | succ m =>
    simp only at e3
    subst e3
    exact ⟨.nx _, by simp only [exS, hs, e1, e2]; rw [if_pos ⟨trivial, e4⟩], k⟩
theorem AppP.one {E1 : Env} {i : Nat} {x : SV} {xs : List D} {v : D} (h : slot E1 i = some (.ow 1 (.list xs))) (h2 : x.keep = some v) (h3 : xs.length < LN) (k : n (E1.set i (some (.ow 1 (.list (xs ++ [v])))))) : AppP E1 i x n := ⟨0, xs, v, h, h2, h3, k⟩
theorem AppP.deep {E1 : Env} {i m : Nat} {xs : List D} {v : D} (h : slot E1 i = some (.ow (m + 2) (.list xs))) (h3 : xs.length < LN) (k : n (E1.set i (some (.ow (m + 2) (.list (xs ++ [v])))))) : AppP E1 i (.ow (m + 1) v) n := ⟨m + 1, xs, v, h, rfl, h3, k⟩
def ExtP (E1 : Env) (i : Nat) (x : SV) (n : Env → Prop) : Prop := ∃ xs ys, slot E1 i = some (.ow 1 (.list xs)) ∧ x.shal = true ∧ x.d = .list ys ∧ xs.length + ys.length ≤ LN ∧ n (E1.set i (some (.ow 1 (.list (xs ++ ys)))))
theorem WS.extend {i m : Nat} {e : Ex} {xs : List D} (hs : slot E i = some (.ow m (.list xs))) (h : WE G e E fun x E1 => ExtP E1 i x n) : WS G (.extend i e) E n r b c := by
  obtain ⟨x, E1, e1, xs, ys, e2, e3, e4, e5, k⟩ := h
  exact ⟨.nx _, by simp only [exS, hs, e1, e2, e3, e4, if_pos e5], k⟩
theorem WS.reverse {i : Nat} {xs : List D} (hs : slot E i = some (.ow 1 (.list xs))) (k : n (E.set i (some (.ow 1 (.list xs.reverse))))) : WS G (.reverse i) E n r b c := ⟨.nx _, by simp only [exS, hs], k⟩
theorem WS.ret {e : Ex} (h : WE G e E fun x E1 => SlP x fun v => r v E1) : WS G (.ret e) E n r b c := by
  obtain ⟨x, E1, e1, v, e2, k⟩ := h
  exact ⟨.rt _ _, by simp only [exS, e1, e2, Option.map_some], k⟩
theorem WS.retN (k : r (.fz .non) E) : WS G .retN E n r b c := ⟨.rt _ _, by simp only [exS], k⟩
theorem WS.brk (k : b E) : WS G .brk E n r b c := ⟨.bk _, by simp only [exS], k⟩
theorem WS.cont (k : c E) : WS G .cont E n r b c := ⟨.ct _, by simp only [exS], k⟩
theorem WS.ite {e : Ex} {x y : Sms} (h : WE G e E fun v E1 => TruP v.d fun t => IfP t (WB G x E1 n r b c) (WB G y E1 n r b c)) : WS G (.ite e x y) E n r b c := by
  obtain ⟨x, E1, e1, z, e2, k⟩ := h
  cases z with
  | true =>
    obtain ⟨o, e3, k⟩ := k.1 rfl
    exact ⟨o, by simp only [exS, e1, e2, e3], k⟩
  | false =>
    obtain ⟨o, e3, k⟩ := k.2 rfl
    exact ⟨o, by simp only [exS, e1, e2, e3], k⟩
def ForP (G : Gm) (tg : Tg) (x : Sms) (kill : List Nat) (ds : List D) (E : Env) (n : Env → Prop) (r : SV → Env → Prop) : Prop := ∃ o, forGo tg (fun E => exB G x E) kill ds E = some o ∧ PostP n r (fun _ => False) (fun _ => False) o
theorem post_fls {n : Env → Prop} {r : SV → Env → Prop} {b c : Env → Prop} : ∀ {o : Out}, PostP n r (fun _ => False) (fun _ => False) o → PostP n r b c o
  | .nx _, h => h
  | .rt _ _, h => h
  | .bk _, h => h.elim
  | .ct _, h => h.elim
theorem WS.for_ {tg : Tg} {it : It} {x : Sms} {kill : List Nat} (h : WI G it E fun ds E1 => ForP G tg x kill ds E1 n r) : WS G (.for_ tg it x kill) E n r b c := by
  obtain ⟨ds, E1, e1, o, e2, k⟩ := h
  exact ⟨o, by simp only [exS, e1, e2], post_fls k⟩
theorem ForP.inv {tg : Tg} {x : Sms} {kill : List Nat} (I : List D → Env → Prop) (fin : ∀ E, I [] E → n (killE E kill))
    (step : ∀ d ds E, I (d :: ds) E → ∃ E1, tgSet E tg d = some E1 ∧ WB G x E1 (fun E2 => I ds (killE E2 kill)) r (fun E2 => n (killE E2 kill)) (fun E2 => I ds (killE E2 kill))) : ∀ (ds : List D) (E : Env), I ds E → ForP G tg x kill ds E n r
  | [], E, h => ⟨.nx _, by simp only [forGo], fin E h⟩
  | d :: ds, E, h => by
    obtain ⟨E1, h1, o, h2, h3⟩ := step d ds E h
    cases o with
    | nx E2 =>
      obtain ⟨o2, q1, q2⟩ := ForP.inv I fin step ds _ h3
      exact ⟨o2, by simp only [forGo, h1, h2, q1], q2⟩
    | ct E2 =>
      obtain ⟨o2, q1, q2⟩ := ForP.inv I fin step ds _ h3
      exact ⟨o2, by simp only [forGo, h1, h2, q1], q2⟩
    | bk E2 => exact ⟨.nx _, by simp only [forGo, h1, h2], h3⟩
    | rt v E2 => exact ⟨.rt _ _, by simp only [forGo, h1, h2], h3⟩
/-- by the items walked, typed -/
theorem ForP.list {α : Type} {tg : Tg} {x : Sms} {kill : List Nat} {ds : List D} (xs : List α) (en : α → D) (I : List α → List α → Env → Prop) (hds : ds = xs.map en) (h0 : I [] xs E)
    (step : ∀ p a q E, xs = p ++ a :: q → I p (a :: q) E → ∃ E1, tgSet E tg (en a) = some E1 ∧ WB G x E1 (fun E2 => I (p ++ [a]) q (killE E2 kill)) r (fun E2 => n (killE E2 kill)) (fun E2 => I (p ++ [a]) q (killE E2 kill)))
    (fin : ∀ E, I xs [] E → n (killE E kill)) : ForP G tg x kill ds E n r := by
  subst hds
  refine ForP.inv (fun ds E => ∃ p q, xs = p ++ q ∧ ds = q.map en ∧ I p q E) (fun E h => ?_) (fun d ds E h => ?_) _ _ ⟨[], xs, rfl, rfl, h0⟩
  · obtain ⟨p, q, e1, e2, h⟩ := h
    cases q with
    | nil => rw [List.append_nil] at e1; subst e1; exact fin E h
    | cons a q => cases e2
  · obtain ⟨p, q, e1, e2, h⟩ := h
    cases q with
    | nil => cases e2
    | cons a q =>
      rw [List.map_cons] at e2
      injection e2 with e3 e4
      subst e3; subst e4
      obtain ⟨E1, h1, o, h2, h3⟩ := step p a q E e1 h
      refine ⟨E1, h1, o, h2, ?_⟩
      cases o with
      | nx E2 => exact ⟨p ++ [a], q, by rw [List.append_assoc]; exact e1, rfl, h3⟩
      | ct E2 => exact ⟨p ++ [a], q, by rw [List.append_assoc]; exact e1, rfl, h3⟩
      | bk E2 => exact h3
      | rt v E2 => exact h3
/-- nothing is changed by a turn -/
theorem ForP.same {tg : Tg} {x : Sms} {kill : List Nat} {ds : List D} {E : Env} (fin : n (killE E kill))
    (step : ∀ d ∈ ds, ∃ E1, tgSet E tg d = some E1 ∧ WB G x E1 (fun E2 => killE E2 kill = E) r (fun _ => False) (fun E2 => killE E2 kill = E)) : ForP G tg x kill ds E n r := by
  refine ForP.inv (fun ds' E' => (∀ d ∈ ds', d ∈ ds) ∧ E' = E) (fun E' h => by rw [h.2]; exact fin) (fun d ds' E' h => ?_) _ _ ⟨fun _ h => h, rfl⟩
  obtain ⟨h1, rfl⟩ := h
  obtain ⟨E1, e1, o, e2, k⟩ := step d (h1 d List.mem_cons_self)
  refine ⟨E1, e1, o, e2, ?_⟩
  cases o with
  | nx E2 => exact ⟨fun y hy => h1 y (List.mem_cons_of_mem _ hy), k⟩
  | ct E2 => exact ⟨fun y hy => h1 y (List.mem_cons_of_mem _ hy), k⟩
  | bk E2 => exact k.elim
  | rt v E2 => exact k
theorem WS.while_ {ce : Ex} {x : Sms} {kill : List Nat} (I : Nat → Env → Prop) (m : Nat) (hm : m < G.fuel) (h0 : I m E)
    (step : ∀ m E, I m E → WT G (.so ce) E fun t E1 => IfP t (∃ m', m = m' + 1 ∧ WB G x E1 (fun E2 => I m' (killE E2 kill)) r (fun E2 => n (killE E2 kill)) (fun E2 => I m' (killE E2 kill))) (n (killE E1 kill))) : WS G (.while_ ce x kill) E n r b c := by
  have go : ∀ (f m : Nat) (E : Env), m < f → I m E → ∃ o, whileGo (fun E => evt G (.so ce) E) (fun E => exB G x E) kill f E = some o ∧ PostP n r (fun _ => False) (fun _ => False) o := by
    intro f
    induction f with
    | zero => intro m E h; omega
    | succ f ih =>
      intro m E hf h
      obtain ⟨t, E1, e1, k⟩ := step m E h
      cases t with
      | false => exact ⟨.nx _, by simp only [whileGo, e1], k.2 rfl⟩
      | true =>
        obtain ⟨m', hm', o, e2, k⟩ := k.1 rfl
        cases o with
        | nx E2 =>
          obtain ⟨o2, q1, q2⟩ := ih m' _ (by omega) k
          exact ⟨o2, by simp only [whileGo, e1, e2, q1], q2⟩
        | ct E2 =>
          obtain ⟨o2, q1, q2⟩ := ih m' _ (by omega) k
          exact ⟨o2, by simp only [whileGo, e1, e2, q1], q2⟩
        | bk E2 => exact ⟨.nx _, by simp only [whileGo, e1, e2], k⟩
        | rt v E2 => exact ⟨.rt _ _, by simp only [whileGo, e1, e2], k⟩
  obtain ⟨o, e, k⟩ := go G.fuel m E hm h0
  exact ⟨o, by simp only [exS, e], post_fls k⟩
/-! ### a def -/
theorem run_mk {ways : List Nat} {m : Nat} {x : Sms} {ds : List D} {P : SV → List D → Prop} (hl : ds.length = ways.length)
    (h : WB G x (startE ways ds m) (fun E => ∃ ms, mutsOf E 0 ways = some ms ∧ P (.fz .non) ms) (fun v E => ∃ ms, mutsOf E 0 ways = some ms ∧ P v ms) (fun _ => False) (fun _ => False)) : ∃ v ms, runBody G ways m x ds = some (v, ms) ∧ P v ms := by
  obtain ⟨o, e, k⟩ := h
  cases o with
  | nx E1 =>
    obtain ⟨ms, e2, k⟩ := k
    exact ⟨_, ms, by unfold runBody; rw [if_pos hl, e]; simp only [e2, Option.map_some], k⟩
  | rt v E1 =>
    obtain ⟨ms, e2, k⟩ := k
    exact ⟨_, ms, by unfold runBody; rw [if_pos hl, e]; simp only [e2, Option.map_some], k⟩
  | bk E1 => exact k.elim
  | ct E1 => exact k.elim
theorem run_is {ways : List Nat} {m : Nat} {x : Sms} {ds : List D} {v : SV} {ms : List D} (hl : ds.length = ways.length)
    (h : WB G x (startE ways ds m) (fun E => mutsOf E 0 ways = some ms ∧ SV.fz .non = v) (fun u E => mutsOf E 0 ways = some ms ∧ u = v) (fun _ => False) (fun _ => False)) : runBody G ways m x ds = some (v, ms) := by
  obtain ⟨o, e, k⟩ := h
  cases o with
  | nx E1 =>
    obtain ⟨e2, rfl⟩ := k
    unfold runBody; rw [if_pos hl, e]; simp only [e2, Option.map_some]
  | rt v E1 =>
    obtain ⟨e2, rfl⟩ := k
    unfold runBody; rw [if_pos hl, e]; simp only [e2, Option.map_some]
  | bk E1 => exact k.elim
  | ct E1 => exact k.elim
/-! ### the side conditions, one form each -/
variable {k : SV → Prop} {kb : Bool → Prop} {i j : Int}
theorem BinP.add (h : k (.fz (.int (i + j)))) : BinP .add (.fz (.int i)) (.fz (.int j)) k := ⟨_, rfl, h⟩
theorem BinP.sub (h : k (.fz (.int (i - j)))) : BinP .sub (.fz (.int i)) (.fz (.int j)) k := ⟨_, rfl, h⟩
theorem BinP.mul (g : mulOk i j = true) (h : k (.fz (.int (i * j)))) : BinP .mul (.fz (.int i)) (.fz (.int j)) k := ⟨_, by unfold binD; simp only [SV.d, binI, g, if_true, Option.map_some], h⟩
theorem BinP.fdiv (g : divOk j = true) (h : k (.fz (.int (i / j)))) : BinP .fdiv (.fz (.int i)) (.fz (.int j)) k := ⟨_, by unfold binD; simp only [SV.d, binI, g, if_true, Option.map_some], h⟩
theorem BinP.mod (g : 0 < j) (h : k (.fz (.int (i % j)))) : BinP .mod (.fz (.int i)) (.fz (.int j)) k := ⟨_, by unfold binD; simp only [SV.d, binI, decide_eq_true g, if_true, Option.map_some], h⟩
theorem BinP.pow (g : powOk i j = true) (h : k (.fz (.int (i ^ j.toNat)))) : BinP .pow (.fz (.int i)) (.fz (.int j)) k := ⟨_, by unfold binD; simp only [SV.d, binI, g, if_true, Option.map_some], h⟩
theorem BinP.addL {x y : SV} {xs ys : List D} (e1 : x.d = .list xs) (e2 : y.d = .list ys) (s : (x.shal && y.shal) = true) (l : xs.length + ys.length ≤ LN) (h : k (.ow 1 (.list (xs ++ ys)))) : BinP .add x y k := ⟨_, by unfold binD; simp only [e1, e2, s, decide_eq_true l, Bool.true_and, if_true], h⟩
theorem CmpP.lt (h : kb (decide (i < j))) : CmpP .lt (.fz (.int i)) (.fz (.int j)) kb := ⟨_, rfl, h⟩
theorem CmpP.le (h : kb (decide (i ≤ j))) : CmpP .le (.fz (.int i)) (.fz (.int j)) kb := ⟨_, rfl, h⟩
theorem CmpP.gt (h : kb (decide (i > j))) : CmpP .gt (.fz (.int i)) (.fz (.int j)) kb := ⟨_, rfl, h⟩
theorem CmpP.ge (h : kb (decide (i ≥ j))) : CmpP .ge (.fz (.int i)) (.fz (.int j)) kb := ⟨_, rfl, h⟩
theorem CmpP.eqI (h : kb (decide (i = j))) : CmpP .eq (.fz (.int i)) (.fz (.int j)) kb := ⟨_, rfl, by
  have e : D.eqv (.int i) (.int j) = decide (i = j) := by
    show PyData.eqv (.int i) (.int j) = _
    by_cases hi : i = j
    · subst hi; rw [decide_eq_true rfl]; simp [PyData.eqv]
    · rw [decide_eq_false hi]; simp [PyData.eqv, hi]
  show kb (D.eqv (.int i) (.int j))
  rw [e]; exact h⟩
theorem CmpP.neI (h : kb (decide (i ≠ j))) : CmpP .ne (.fz (.int i)) (.fz (.int j)) kb := ⟨_, rfl, by
  have e : (!D.eqv (.int i) (.int j)) = decide (i ≠ j) := by
    show (!PyData.eqv (.int i) (.int j)) = _
    by_cases hi : i = j
    · subst hi; simp [PyData.eqv]
    · simp [PyData.eqv, hi]
  show kb (!D.eqv (.int i) (.int j))
  rw [e]; exact h⟩
theorem UnP.mk {x : SV} {E1 E2 : Env} {is : List Nat} {n : Env → Prop} (h : isPk x = false) (h2 : tgSet E1 (.tup is) x.d = some E2) (q : n E2) : UnP x E1 is n := ⟨h, E2, h2, q⟩
theorem ParP.mk {E1 E2 : Env} {is : List Nat} {rs : List SV} {n : Env → Prop} (h2 : setSv E1 is rs = some E2) (q : n E2) : ParP E1 is rs n := ⟨E2, h2, q⟩
theorem ItP.mk {x : SV} {ds : List D} {kd : List D → Prop} (h : isPk x = false) (h2 : iterOf x.d = some ds) (q : kd ds) : ItP x kd := ⟨h, ds, h2, q⟩
theorem LsP.mk {x : SV} {ds : List D} {kd : List D → Prop} (h : isPk x = false) (h2 : x.d = .list ds) (q : kd ds) : LsP x kd := ⟨h, ds, h2, q⟩
theorem TruP.bl {z : Bool} (h : kb z) : TruP (.bl z) kb := ⟨_, rfl, h⟩
theorem TruP.int (h : kb (decide (i ≠ 0))) : TruP (.int i) kb := ⟨_, rfl, by
  have e : decide (i ≠ 0) = (i != 0) := by
    by_cases hi : i = 0
    · subst hi; rfl
    · rw [decide_eq_true hi, bne_iff_ne.mpr hi]
  rw [← e]; exact h⟩
theorem BlP.mk {z : Bool} (h : kb z) : BlP (.bl z) kb := ⟨_, rfl, h⟩
theorem IntP.mk {ki : Int → Prop} (h : ki i) : IntP (.int i) ki := ⟨_, rfl, h⟩
theorem SlP.fz {d : D} (h : k (.fz d)) : SlP (.fz d) k := ⟨_, rfl, h⟩
theorem SlP.ow {d : D} {m : Nat} (h : k (.ow m d)) : SlP (.ow m d) k := ⟨_, rfl, h⟩
theorem BiP.int (h : k (.fz (.int i))) : BiP .int [.fz (.int i)] k := ⟨_, rfl, h⟩
theorem BiP.intB {z : Bool} (h : k (.fz (.int (if z then 1 else 0)))) : BiP .int [.fz (.bl z)] k := ⟨_, rfl, h⟩
theorem BiP.abs (h : k (.fz (.int (if i < 0 then -i else i)))) : BiP .abs [.fz (.int i)] k := ⟨_, rfl, h⟩
theorem BiP.min2 (h : k (.fz (.int (if j < i then j else i)))) : BiP .min2 [.fz (.int i), .fz (.int j)] k := ⟨_, rfl, h⟩
theorem BiP.max2 (h : k (.fz (.int (if j > i then j else i)))) : BiP .max2 [.fz (.int i), .fz (.int j)] k := ⟨_, rfl, h⟩
theorem BiP.gcd (h : k (.fz (.int ((Nat.gcd i.natAbs j.natAbs : Nat) : Int)))) : BiP .gcd [.fz (.int i), .fz (.int j)] k := ⟨_, rfl, h⟩
theorem BiP.len {x : SV} {xs : List D} (e : x.d = .list xs) (h : k (.fz (.int xs.length))) : BiP .len [x] k := ⟨_, by unfold biD; simp only [e], h⟩
theorem BiP.lenT {x : SV} {xs : List D} (e : x.d = .tup xs) (h : k (.fz (.int xs.length))) : BiP .len [x] k := ⟨_, by unfold biD; simp only [e], h⟩
theorem BiP.lenK {x : SV} {xs : List D} (e : x.d = .lck xs) (h : k (.fz (.int xs.length))) : BiP .len [x] k := ⟨_, by unfold biD; simp only [e], h⟩
theorem GetP.tup {xs : List D} {d : D} (e : L2.atI xs j = some d) (h : k (.fz d)) : GetP (.fz (.tup xs)) (.int j) k := ⟨_, by unfold getD; simp only [SV.d, e, Option.map_some], h⟩
theorem GetP.list {xs : List D} {d : D} (e : L2.atI xs j = some d) (h : k (.fz d)) : GetP (.fz (.list xs)) (.int j) k := ⟨_, by unfold getD; simp only [SV.d, e, Option.map_some], h⟩
theorem GetP.lck {xs : List D} {d : D} (e : L2.atI xs j = some d) (h : k (.fz d)) : GetP (.fz (.lck xs)) (.int j) k := ⟨_, by unfold getD; simp only [SV.d, e, Option.map_some], h⟩
theorem GetP.pk1 {xs : List D} {d : D} (e : L2.atI xs j = some d) (h : k (.fz d)) : GetP (.pk 1 (.list xs)) (.int j) k := ⟨_, by unfold getD; simp only [SV.d, e, Option.map_some], h⟩
theorem GetP.pk2 {xs : List D} {d : D} {m : Nat} (e : L2.atI xs j = some d) (h : k (.pk (m + 1) d)) : GetP (.pk (m + 2) (.list xs)) (.int j) k := ⟨_, by unfold getD; simp only [SV.d, e, Option.map_some], h⟩
theorem mulS (h : -18446744073709551616 < i ∧ i < 18446744073709551616) : mulOk i j = true := by unfold mulOk; rw [decide_eq_true h]; rfl
theorem mulR (h : -18446744073709551616 < j ∧ j < 18446744073709551616) : mulOk i j = true := by unfold mulOk; rw [decide_eq_true h, Bool.or_true]; rfl
theorem divS (h : 0 < j ∧ j < 18446744073709551616) : divOk j = true := by
  unfold divOk
  refine decide_eq_true ⟨h.1, ?_⟩
  have : j.natAbs < 2 ^ 64 := by omega
  have := (Nat.log2_lt (by omega)).mpr this
  omega
end
end VI

/-! VI, part 18: the deck and the draws. -/
namespace VI
open PySem L2
local macro_rules | `(tactic| walk_at "side") => `(tactic| first | assumption | omega | decide | rfl)
local macro_rules | `(tactic| walk_at "mulok") => `(tactic| first | assumption | decide | (refine mulR ?_; omega) | (refine mulS ?_; omega))
local macro_rules | `(tactic| walk_at "divok") => `(tactic| first | assumption | decide | (refine divS ?_; omega))
local macro_rules | `(tactic| walk_at "wcall") => `(tactic| fail)
local macro_rules | `(tactic| walk_at "wmore") => `(tactic| fail)
local macro_rules | `(tactic| walk_at "wif") => `(tactic| first
  | with_reducible exact fun h => (nomatch h)
  | with_reducible refine' IfP.t ?_
  | with_reducible refine' IfP.f ?_
  | with_reducible refine' IfP.nt ?_
  | with_reducible refine' IfP.nr ?_
  | ((with_reducible refine' IfP.no ?h ?_); (case h => walk_at "side"))
  | ((with_reducible refine' IfP.yes ?h ?_); (case h => walk_at "side")))
local macro_rules | `(tactic| walk_at "we") => `(tactic| first
  | ((with_reducible refine' WE.var ?h ?_); (case h => exact rfl))
  | ((with_reducible refine' WE.varO ?h ?_); (case h => exact rfl))
  | ((with_reducible refine' WE.fzv ?h ?_); (case h => exact rfl))
  | ((with_reducible refine' WE.fzvO ?h ?_); (case h => exact rfl))
  | ((with_reducible refine' WE.mvv ?h ?_); (case h => exact rfl))
  | ((with_reducible refine' WE.mvvO ?h ?_); (case h => exact rfl))
  | with_reducible refine' WE.int ?_
  | with_reducible refine' WE.bin ?_
  | with_reducible refine' WE.call ?_
  | with_reducible refine' WE.cmp ?_
  | with_reducible refine' WE.sub ?_
  | with_reducible refine' WE.bi ?_
  | with_reducible refine' WE.or ?_
  | with_reducible refine' WE.and ?_
  | with_reducible refine' WE.not ?_
  | with_reducible refine' WE.neg ?_
  | with_reducible refine' WE.tup ?_
  | with_reducible refine' WE.list ?_
  | with_reducible refine' WE.bl ?_
  | with_reducible refine' WE.str ?_
  | with_reducible refine' WE.non ?_
  | with_reducible refine' WE.ite ?_
  | with_reducible refine' WE.chain ?_
  | ((with_reducible refine' WE.con ?h ?_); (case h => exact rfl))
  | with_reducible refine' WE.slice ?_
  | with_reducible refine' WE.lc ?_
  | with_reducible refine' WE.lrange1 ?_
  | with_reducible refine' WE.lrange2 ?_
  | with_reducible refine' WE.rev ?_
  | with_reducible refine' WE.me ?_
  | walk_at "wmore")
local macro_rules | `(tactic| walk_at "ws") => `(tactic| first
  | with_reducible refine' WS.set ?_
  | with_reducible refine' WS.ite ?_
  | with_reducible refine' WS.ret ?_
  | with_reducible refine' WS.par ?_
  | with_reducible refine' WS.unp ?_
  | with_reducible refine' WS.expr ?_
  | with_reducible refine' WS.for_ ?_
  | ((with_reducible refine' WS.aug ?h ?_); (case h => exact rfl))
  | ((with_reducible refine' WS.append ?h ?_); (case h => exact rfl))
  | ((with_reducible refine' WS.extend ?h ?_); (case h => exact rfl))
  | ((with_reducible refine' WS.reverse ?h ?_); (case h => exact rfl))
  | with_reducible refine' WS.setix ?_
  | with_reducible refine' WS.skip ?_
  | with_reducible refine' WS.retN ?_
  | with_reducible refine' WS.brk ?_
  | with_reducible refine' WS.cont ?_
  | walk_at "wmore")
local macro_rules | `(tactic| walk_at "wp") => `(tactic| first
  | ((with_reducible refine' StP.mk ?h ?_); (case h => exact rfl))
  | with_reducible refine' BinP.add ?_
  | with_reducible refine' BinP.sub ?_
  | ((with_reducible refine' BinP.mul ?h ?_); (case h => walk_at "mulok"))
  | ((with_reducible refine' BinP.mod ?h ?_); (case h => walk_at "side"))
  | ((with_reducible refine' BinP.fdiv ?h ?_); (case h => walk_at "divok"))
  | with_reducible refine' CmpP.lt ?_
  | with_reducible refine' CmpP.le ?_
  | with_reducible refine' CmpP.gt ?_
  | with_reducible refine' CmpP.ge ?_
  | with_reducible refine' CmpP.eqI ?_
  | with_reducible refine' CmpP.neI ?_
  | ((with_reducible show TruP _ _); first | refine' TruP.bl ?_ | refine' TruP.int ?_ | walk_at "wmore")
  | ((with_reducible show BlP _ _); refine' BlP.mk ?_)
  | ((with_reducible show IntP _ _); refine' IntP.mk ?_)
  | with_reducible refine' SlP.fz ?_
  | with_reducible refine' SlP.ow ?_
  | ((with_reducible refine' KsP.mk ?h ?l ?_); (case h => exact rfl); (case l => exact rfl))
  | with_reducible refine' BiP.int ?_
  | with_reducible refine' BiP.intB ?_
  | with_reducible refine' BiP.abs ?_
  | with_reducible refine' BiP.min2 ?_
  | with_reducible refine' BiP.max2 ?_
  | with_reducible refine' BiP.gcd ?_
  | ((with_reducible refine' BiP.len ?h ?_); (case h => exact rfl))
  | ((with_reducible refine' BiP.lenK ?h ?_); (case h => exact rfl))
  | ((with_reducible refine' BiP.lenT ?h ?_); (case h => exact rfl))
  | ((with_reducible show GetP _ _ _); first | ((refine' GetP.tup ?h ?_); (case h => exact rfl)) | ((refine' GetP.list ?h ?_); (case h => exact rfl)) | ((refine' GetP.pk1 ?h ?_); (case h => exact rfl)) | ((refine' GetP.pk2 ?h ?_); (case h => exact rfl)) | walk_at "wmore")
  | ((with_reducible refine' UnP.mk ?l ?h ?_); (case l => exact rfl); (case h => exact rfl))
  | ((with_reducible refine' ParP.mk ?h ?_); (case h => exact rfl))
  | ((with_reducible refine' ItP.mk ?l ?h ?_); (case l => exact rfl); (case h => exact rfl))
  | ((with_reducible refine' LsP.mk ?l ?h ?_); (case l => exact rfl); (case h => exact rfl))
  | with_reducible refine' CmpP.eqP ?_
  | with_reducible refine' CmpP.isB ?_
  | with_reducible refine' CmpP.isnotB ?_
  | with_reducible refine' CmpP.isN ?_
  | with_reducible refine' CmpP.isnotN ?_
  | ((with_reducible refine' BiP.tuple ?h ?l ?_); (case h => exact rfl); (case l => exact rfl))
  | ((with_reducible refine' BiP.listL ?h ?l ?_); (case h => exact rfl); (case l => exact rfl))
  | with_reducible refine' CmpP.neP ?_
  | ((with_reducible refine' BinP.pow ?h ?_); (case h => decide))
  | walk_at "wmore")
local macro_rules | `(tactic| walk_at "w1") => `(tactic| first
  | ((with_reducible show WE _ _ _ _); walk_at "we")
  | ((with_reducible show WEs _ _ _ _); first | with_reducible refine' WEs.cons ?_ | with_reducible refine' WEs.nil ?_)
  | ((with_reducible show WB _ _ _ _ _ _ _); first | with_reducible refine' WB.cons ?_ | with_reducible refine' WB.nil ?_ | with_reducible refine' WB.kill ?_)
  | ((with_reducible show WS _ _ _ _ _ _ _); walk_at "ws")
  | ((with_reducible show IfP _ _ _); walk_at "wif")
  | ((with_reducible show CallP _ _ _ _ _ _); walk_at "wcall")
  | ((with_reducible show WI _ _ _ _); first | with_reducible refine' WI.seq ?_ | with_reducible refine' WI.rng1 ?_ | with_reducible refine' WI.rng2 ?_ | with_reducible refine' WI.enum ?_ | with_reducible refine' WI.zip ?_ | with_reducible refine' WI.rev ?_)
  | ((with_reducible show WO _ _ _ _); first | with_reducible refine' WO.no ?_ | with_reducible refine' WO.so ?_)
  | ((with_reducible show WT _ _ _ _); first | with_reducible refine' WT.no ?_ | with_reducible refine' WT.so ?_)
  | walk_at "wp")
local macro_rules | `(tactic| walk_at "w") => `(tactic| repeat' walk_at "w1")
/-- lists of whole numbers -/
abbrev LI (xs : List Int) : D := .list (xs.map .int)
def deckI : Sms := .cons (.append 3 (.bin .mod (.bi .int (.cons (.var 7) .nil)) (.int 1000003))) (.cons (.set 7 (.bin .fdiv (.var 7) (.int 1000003))) .nil)
def deckJ : Sms := .cons (.set 4 (.bin .mod (.bi .int (.cons (.bin .add (.bin .add (.bin .mul (.var 4) (.int 69621)) (.var 8)) (.int 1)) .nil)) (.int 2147483629)))
  (.cons (.append 3 (.bin .mod (.bi .int (.cons (.bin .fdiv (.var 4) (.int 5)) .nil)) (.int 1000003))) .nil)
def deckR : Sms := .cons (.set 7 (.bi .abs (.cons (.var 6) .nil)))
  (.cons (.ite (.cmp .ge (.var 7) (.bin .pow (.int 10) (.int 30))) (.cons (.for_ (.nm 8) (.rng1 (.var 2)) deckI [8]) .nil)
    (.cons (.set 4 (.bin .mod (.bi .int (.cons (.bin .add (.bin .add (.bin .add (.bin .mul (.var 4) (.int 48271)) (.bin .mul (.int 2) (.var 7))) (.bi .int (.cons (.cmp .lt (.var 6) (.int 0)) .nil))) (.var 5)) .nil)) (.int 2147483647)))
    (.cons (.for_ (.nm 8) (.rng1 (.var 2)) deckJ [8]) .nil))) .nil)
def deckM : Sms := .cons (.set 6 (.int 0)) (.cons (.ite (.cmp .lt (.var 5) (.bi .len (.cons (.var 0) .nil))) (.cons (.set 6 (.sub (.var 0) (.var 5))) .nil) .nil) deckR)
def deckB : Sms := .cons (.set 3 (.list .nil))
  (.cons (.set 4 (.bin .add (.int 7) (.bi .len (.cons (.var 0) .nil))))
  (.cons (.for_ (.nm 5) (.rng1 (.var 1)) deckM [5, 6, 7, 8])
  (.cons (.reverse 3)
  (.cons (.ret (.mvv 3)) .nil))))
def takeB : Sms := .cons (.ite (.cmp .eq (.bi .len (.cons (.var 0) .nil)) (.int 0)) (.cons (.ret (.int 0)) .nil) .nil)
  (.cons (.ret (.bin .mod (.bi .int (.cons (.pop 0) .nil)) (.var 1))) .nil)
theorem len_rangeD (a s : Int) (n : Nat) : (rangeD a s n).length = n := by unfold rangeD; rw [List.length_map, List.length_range]
theorem rangeD_map (a : Int) (n : Nat) : rangeD a 1 n = ((List.range n).map fun k : Nat => a + (k : Int)).map D.int := by
  unfold rangeD
  rw [List.map_map]
  refine List.map_congr_left fun k _ => ?_
  show D.int (a + k * 1) = D.int (a + k)
  rw [Int.mul_one]
theorem small_of {i : Int} (h : -4611686018427387904 ≤ i ∧ i < 4611686018427387904) : small i = true := decide_eq_true h
theorem LI_last {xs : List Int} {x : Int} : (xs ++ [x]).map D.int = xs.map D.int ++ [.int x] := by rw [List.map_append]; rfl
section
variable {G : Gm}
theorem take_ok (xs : List Int) (m : Int) (hm : 0 < m) : ∃ (w : Int) (ys : List Int), runBody G [1, 0] 2 takeB [LI xs, .int m] = some (.fz (.int w), [LI ys]) ∧ 0 ≤ w ∧ w < m := by
  by_cases h : xs = []
  · subst h
    refine ⟨0, [], run_is rfl ?_, Int.le_refl 0, hm⟩
    unfold takeB
    walk_at "w"
    exact ⟨rfl, rfl⟩
  · obtain ⟨ys, y, rfl⟩ : ∃ ys y, xs = ys ++ [y] := ⟨xs.dropLast, xs.getLast h, (List.dropLast_concat_getLast h).symm⟩
    refine ⟨y % m, ys, run_is rfl ?_, Int.emod_nonneg _ (by omega), Int.emod_lt_of_pos _ hm⟩
    unfold takeB
    walk_at "w"
    refine IfP.no (by rw [List.length_map, List.length_append]; simp only [List.length_cons, List.length_nil]; omega) ?_
    walk_at "w"
    refine WE.pop (xs := (ys ++ [y]).map D.int) (d := .int y) rfl (by rw [LI_last]; exact List.getLast?_concat) ?_
    walk_at "w"
    refine ⟨?_, rfl⟩
    show some [D.list (((ys ++ [y]).map D.int).dropLast)] = _
    rw [LI_last, List.dropLast_concat]
theorem deckI_ok {ds : List Int} {m : Nat} {n : Env → Prop} {r : SV → Env → Prop} {s0 s1 s2 : Option SV} {seed k x rest : Int} {a8 : Option SV} (hl : ds.length + m ≤ 20000)
    (fin : ∀ (ds' : List Int) (rest' : Int), ds'.length ≤ ds.length + m → n [s0, s1, s2, some (.ow 1 (LI ds')), some (.fz (.int seed)), some (.fz (.int k)), some (.fz (.int x)), some (.fz (.int rest')), none]) :
    ForP G (.nm 8) deckI [8] (rangeD 0 1 m) [s0, s1, s2, some (.ow 1 (LI ds)), some (.fz (.int seed)), some (.fz (.int k)), some (.fz (.int x)), some (.fz (.int rest)), a8] n r := by
  refine ForP.list ((List.range m).map fun k : Nat => (0 : Int) + k) D.int (fun p _ E => ∃ (ds' : List Int) (rest' : Int) (a8 : Option SV), ds'.length = ds.length + p.length ∧ E = [s0, s1, s2, some (.ow 1 (LI ds')), some (.fz (.int seed)), some (.fz (.int k)), some (.fz (.int x)), some (.fz (.int rest')), a8]) (rangeD_map 0 m) ⟨ds, rest, a8, rfl, rfl⟩ ?_ ?_
  · rintro p a q E e ⟨ds', rest', a8, h1, rfl⟩
    have hp : p.length < m := by
      have := congrArg List.length e
      rw [List.length_append, List.length_map, List.length_range, List.length_cons] at this
      omega
    refine ⟨_, rfl, ?_⟩
    unfold deckI
    walk_at "w"
    refine AppP.one rfl rfl (by rw [List.length_map]; unfold LN; omega) ?_
    walk_at "w"
    refine ⟨ds' ++ [rest' % 1000003], rest' / 1000003, none, ?_, ?_⟩
    · rw [List.length_append, List.length_append, h1]; simp only [List.length_cons, List.length_nil]; omega
    · simp only [LI, LI_last]; rfl
  · rintro E ⟨ds', rest', a8, h1, rfl⟩
    rw [List.length_map, List.length_range] at h1
    exact fin ds' rest' (by omega)
theorem deckJ_ok {ds : List Int} {m : Nat} {n : Env → Prop} {r : SV → Env → Prop} {s0 s1 s2 : Option SV} {seed k x rest : Int} {a8 : Option SV} (hl : ds.length + m ≤ 20000)
    (fin : ∀ (ds' : List Int) (seed' : Int), ds'.length ≤ ds.length + m → n [s0, s1, s2, some (.ow 1 (LI ds')), some (.fz (.int seed')), some (.fz (.int k)), some (.fz (.int x)), some (.fz (.int rest)), none]) :
    ForP G (.nm 8) deckJ [8] (rangeD 0 1 m) [s0, s1, s2, some (.ow 1 (LI ds)), some (.fz (.int seed)), some (.fz (.int k)), some (.fz (.int x)), some (.fz (.int rest)), a8] n r := by
  refine ForP.list ((List.range m).map fun k : Nat => (0 : Int) + k) D.int (fun p _ E => ∃ (ds' : List Int) (seed' : Int) (a8 : Option SV), ds'.length = ds.length + p.length ∧ E = [s0, s1, s2, some (.ow 1 (LI ds')), some (.fz (.int seed')), some (.fz (.int k)), some (.fz (.int x)), some (.fz (.int rest)), a8]) (rangeD_map 0 m) ⟨ds, seed, a8, rfl, rfl⟩ ?_ ?_
  · rintro p a q E e ⟨ds', seed', a8, h1, rfl⟩
    have hp : p.length < m := by
      have := congrArg List.length e
      rw [List.length_append, List.length_map, List.length_range, List.length_cons] at this
      omega
    refine ⟨_, rfl, ?_⟩
    unfold deckJ
    walk_at "w"
    refine AppP.one rfl rfl (by rw [List.length_map]; unfold LN; omega) ?_
    walk_at "w"
    refine ⟨ds' ++ [(seed' * 69621 + a + 1) % 2147483629 / 5 % 1000003], (seed' * 69621 + a + 1) % 2147483629, none, ?_, ?_⟩
    · rw [List.length_append, List.length_append, h1]; simp only [List.length_cons, List.length_nil]; omega
    · simp only [LI, LI_last]; rfl
  · rintro E ⟨ds', seed', a8, h1, rfl⟩
    rw [List.length_map, List.length_range] at h1
    exact fin ds' seed' (by omega)
theorem deckM_ok {ns ds : List Int} {e seed : Int} {k : Nat} {nx : Env → Prop} {r : SV → Env → Prop} {b c : Env → Prop} (he : 0 ≤ e ∧ e ≤ 100) (hl : ds.length ≤ 10000) {s6 s7 s8 : Option SV} {ce : Int}
    (fin : ∀ (ds' : List Int) (seed' : Int), ds'.length ≤ ds.length + e.toNat → nx [some (.fz (.lck (ns.map .int))), some (.fz (.int ce)), some (.fz (.int e)), some (.ow 1 (LI ds')), some (.fz (.int seed')), none, none, none, none]) :
    WB G deckM [some (.fz (.lck (ns.map .int))), some (.fz (.int ce)), some (.fz (.int e)), some (.ow 1 (LI ds)), some (.fz (.int seed)), some (.fz (.int k)), s6, s7, s8] (fun E => nx (killE E [5, 6, 7, 8])) r b c := by
  have tail : ∀ (x : Int) (s7 s8 : Option SV), WB G deckR [some (.fz (.lck (ns.map .int))), some (.fz (.int ce)), some (.fz (.int e)), some (.ow 1 (LI ds)), some (.fz (.int seed)), some (.fz (.int k)), some (.fz (.int x)), s7, s8] (fun E => nx (killE E [5, 6, 7, 8])) r b c := by
    intro x s7 s8
    unfold deckR
    walk_at "w"
    refine IfP.dec (fun _ => ?_) (fun _ => ?_)
    · walk_at "w"
      refine ⟨small_of (by omega), ?_⟩
      refine deckI_ok (m := e.toNat) ?_ fun ds' rest' h => ?_
      · omega
      walk_at "w"
      exact fin ds' seed (by omega)
    · walk_at "w"
      refine ⟨small_of (by omega), ?_⟩
      refine deckJ_ok (m := e.toNat) ?_ fun ds' seed' h => ?_
      · omega
      walk_at "w"
      exact fin ds' seed' (by omega)
  unfold deckM
  walk_at "w"
  refine IfP.dec (fun h => ?_) (fun h => ?_)
  · rw [List.length_map] at h
    walk_at "w"
    refine GetP.lck (d := .int (ns[k]'(by omega))) ?_ ?_
    · refine L2.atI_nat (j := k) ?_
      rw [List.getElem?_map, List.getElem?_eq_getElem (by omega)]; rfl
    walk_at "w"
    exact tail _ _ _
  · walk_at "w"
    exact tail 0 _ _
theorem deck_ok (ns : List Int) (c e : Int) (hc : 0 ≤ c ∧ c ≤ 100) (he : 0 ≤ e ∧ e ≤ 100) : ∃ ds : List Int, runBody G [0, 0, 0] 9 deckB [.lck (ns.map .int), .int c, .int e] = some (.ow 1 (LI ds), []) := by
  suffices h : ∃ v ms, runBody G [0, 0, 0] 9 deckB [.lck (ns.map .int), .int c, .int e] = some (v, ms) ∧ (∃ ds : List Int, v = .ow 1 (LI ds)) ∧ ms = [] by
    obtain ⟨v, ms, h1, ⟨ds, rfl⟩, rfl⟩ := h
    exact ⟨ds, h1⟩
  refine run_mk rfl ?_
  unfold deckB
  walk_at "w"
  refine ⟨small_of (by omega), ?_⟩
  refine ForP.list ((List.range c.toNat).map fun k : Nat => (0 : Int) + k) D.int (fun p _ E => ∃ (ds' : List Int) (seed' : Int), ds'.length ≤ p.length * 100 ∧ E = [some (.fz (.lck (ns.map .int))), some (.fz (.int c)), some (.fz (.int e)), some (.ow 1 (LI ds')), some (.fz (.int seed')), none, none, none, none]) (rangeD_map 0 _) ⟨[], _, Nat.zero_le _, rfl⟩ ?_ ?_
  · rintro p a q E e1 ⟨ds', seed', h1, rfl⟩
    have hp : p.length < c.toNat := by
      have := congrArg List.length e1
      rw [List.length_append, List.length_map, List.length_range, List.length_cons] at this
      omega
    have ha : a = ((p.length : Nat) : Int) := by
      have h2 : (((List.range c.toNat).map fun k : Nat => (0 : Int) + k))[p.length]? = some a := by rw [e1, List.getElem?_append_right (Nat.le_refl _), Nat.sub_self]; rfl
      rw [List.getElem?_map, List.getElem?_range hp] at h2
      cases h2
      exact Int.zero_add _
    subst ha
    refine ⟨_, rfl, ?_⟩
    refine deckM_ok (ds := ds') (nx := fun E => ∃ (ds' : List Int) (seed' : Int), ds'.length ≤ (p ++ [((p.length : Nat) : Int)]).length * 100 ∧ E = [some (.fz (.lck (ns.map .int))), some (.fz (.int c)), some (.fz (.int e)), some (.ow 1 (LI ds')), some (.fz (.int seed')), none, none, none, none]) he (by omega) fun ds'' seed'' h2 => ⟨ds'', seed'', ?_, rfl⟩
    rw [List.length_append]
    simp only [List.length_cons, List.length_nil]
    omega
  · rintro E ⟨ds', seed', h1, rfl⟩
    walk_at "w"
    exact ⟨[], rfl, ⟨ds'.reverse, by rw [LI, List.map_reverse]⟩, rfl⟩
end
end VI

/-! VI, part 19: typed data as plain data. -/
namespace VI
open PySem L2
theorem le_LN {n : Nat} (h : Nat.ble n 1000 = true) : n ≤ LN := Nat.le_trans (Nat.le_of_ble_eq_true h) (by decide)
class Enc (α : Type) where
  enc : α → D
  dep : Nat
  can : ∀ a, (enc a).toP.canLay0 = true
  dp : ∀ a, (enc a).toP.depth ≤ dep
  eq : ∀ a b, D.eqv (enc a) (enc b) = true ↔ a = b
open Enc
theorem toPs_eq : ∀ xs : List D, D.toPs xs = xs.map D.toP
  | [] => rfl
  | x :: xs => by rw [D.toPs, toPs_eq xs]; rfl
theorem can_all {α : Type} [Enc α] : ∀ xs : List α, PyData.canLayAll0 (D.toPs (xs.map enc)) = true
  | [] => rfl
  | x :: xs => by
    rw [List.map_cons, D.toPs, PyData.canLayAll0, can x, can_all xs]; rfl
theorem dep_all {α : Type} [Enc α] : ∀ xs : List α, PyData.depthAll (D.toPs (xs.map enc)) ≤ dep α
  | [] => Nat.zero_le _
  | x :: xs => by
    rw [List.map_cons, D.toPs, PyData.depthAll]
    exact Nat.max_le.mpr ⟨dp x, dep_all xs⟩
theorem eqv_all {α : Type} [Enc α] : ∀ xs ys : List α, PyData.eqvAll (D.toPs (xs.map enc)) (D.toPs (ys.map enc)) = true ↔ xs = ys
  | [], [] => by simp [D.toPs, PyData.eqvAll]
  | x :: xs, [] => by simp [D.toPs, PyData.eqvAll]
  | [], y :: ys => by simp [D.toPs, PyData.eqvAll]
  | x :: xs, y :: ys => by
    rw [List.map_cons, List.map_cons, D.toPs, D.toPs, PyData.eqvAll, Bool.and_eq_true, eqv_all xs ys, List.cons.injEq]
    have := eq x y
    unfold D.eqv at this
    rw [this]
instance : Enc Int where
  enc := D.int
  dep := 0
  can _ := rfl
  dp _ := Nat.le_refl 0
  eq a b := by unfold D.eqv D.toP; simp [PyData.eqv]
instance : Enc Bool where
  enc := D.bl
  dep := 0
  can _ := rfl
  dp _ := Nat.le_refl 0
  eq a b := by unfold D.eqv D.toP; simp [PyData.eqv]
instance {α : Type} [Enc α] : Enc (List α) where
  enc xs := .list (xs.map enc)
  dep := dep α + 1
  can xs := by unfold D.toP; simp only [PyData.canLay0]; exact can_all xs
  dp xs := by unfold D.toP; simp only [PyData.depth]; exact Nat.succ_le_succ (dep_all xs)
  eq xs ys := by unfold D.eqv D.toP; simp only [PyData.eqv]; exact eqv_all xs ys
instance {α β : Type} [Enc α] [Enc β] : Enc (α × β) where
  enc p := .tup [enc p.1, enc p.2]
  dep := max (dep α) (dep β) + 1
  can p := by
    unfold D.toP; simp only [D.toPs, PyData.canLay0, PyData.canLayAll0, Bool.and_true, Bool.and_eq_true]; exact ⟨can p.1, can p.2⟩
  dp p := by
    unfold D.toP; simp only [D.toPs, PyData.depth, PyData.depthAll]
    have h1 := dp p.1
    have h2 := dp p.2
    omega
  eq p q := by
    unfold D.eqv D.toP; simp only [D.toPs, PyData.eqv, PyData.eqvAll, Bool.and_true, Bool.and_eq_true]
    have h1 := eq p.1 q.1
    have h2 := eq p.2 q.2
    unfold D.eqv at h1 h2
    rw [h1, h2]
    exact Prod.ext_iff.symm
/-- a tuple of three and more -/
structure T3 (α β γ : Type) where
  a : α
  b : β
  c : γ
  deriving DecidableEq
instance {α β γ : Type} [Enc α] [Enc β] [Enc γ] : Enc (T3 α β γ) where
  enc p := .tup [enc p.a, enc p.b, enc p.c]
  dep := max (dep α) (max (dep β) (dep γ)) + 1
  can p := by
    unfold D.toP; simp only [D.toPs, PyData.canLay0, PyData.canLayAll0, Bool.and_true, Bool.and_eq_true]; exact ⟨can p.a, can p.b, can p.c⟩
  dp p := by
    unfold D.toP; simp only [D.toPs, PyData.depth, PyData.depthAll]
    have h1 := dp p.a
    have h2 := dp p.b
    have h3 := dp p.c
    omega
  eq p q := by
    unfold D.eqv D.toP; simp only [D.toPs, PyData.eqv, PyData.eqvAll, Bool.and_true, Bool.and_eq_true]
    have h1 := eq p.a q.a
    have h2 := eq p.b q.b
    have h3 := eq p.c q.c
    unfold D.eqv at h1 h2 h3
    rw [h1, h2, h3]
    cases p; cases q
    simp
/-- a tuple of things of one kind -/
structure Tp (α : Type) where
  l : List α
  deriving DecidableEq
instance {α : Type} [Enc α] : Enc (Tp α) where
  enc t := .tup (t.l.map enc)
  dep := dep α + 1
  can t := by unfold D.toP; simp only [PyData.canLay0]; exact can_all t.l
  dp t := by unfold D.toP; simp only [PyData.depth]; exact Nat.succ_le_succ (dep_all t.l)
  eq t u := by
    unfold D.eqv D.toP; simp only [PyData.eqv]
    rw [eqv_all t.l u.l]
    cases t; cases u; simp
theorem okE_enc {α : Type} [Enc α] (hd : Nat.ble (dep α) 64 = true) (a : α) : (enc a).okE = true := by
  unfold D.okE SeqAt.shaped
  rw [can a, Bool.true_and]
  exact decide_eq_true (Nat.le_trans (dp a) (Nat.le_of_ble_eq_true hd))
theorem eqv_enc {α : Type} [Enc α] [DecidableEq α] (a b : α) : D.eqv (enc a) (enc b) = decide (a = b) := by
  by_cases h : a = b
  · rw [decide_eq_true h]; exact (eq a b).mpr h
  · rw [decide_eq_false h]
    cases e : D.eqv (enc a) (enc b) with
    | false => rfl
    | true => exact (h ((eq a b).mp e)).elim
section
variable {α : Type} [Enc α] [DecidableEq α] {x y : SV} {kb : Bool → Prop}
theorem CmpP.eq (a b : α) (hx : x.d = enc a) (hy : y.d = enc b) (hd : Nat.ble (dep α) 64 = true) (h : kb (decide (a = b))) : CmpP .eq x y kb := by
  refine ⟨_, ?_, h⟩
  unfold cmpD
  simp only [hx, hy, okE_enc hd, Bool.and_self, if_true, eqv_enc]
theorem CmpP.ne (a b : α) (hx : x.d = enc a) (hy : y.d = enc b) (hd : Nat.ble (dep α) 64 = true) (h : kb (decide (a ≠ b))) : CmpP .ne x y kb := by
  refine ⟨_, ?_, h⟩
  unfold cmpD
  simp only [hx, hy, okE_enc hd, Bool.and_self, if_true, eqv_enc, decide_not]
end
theorem CmpP.eqT {α : Type} [Enc α] [DecidableEq α] {x y : SV} {kb : Bool → Prop} (a b : List α) (hx : x.d = .tup (a.map enc)) (hy : y.d = .tup (b.map enc)) (hd : Nat.ble (dep α + 1) 64 = true) (h : kb (decide (a = b))) : CmpP .eq x y kb :=
  CmpP.eq (Tp.mk a) (Tp.mk b) hx hy hd (by simpa using h)
theorem CmpP.neT {α : Type} [Enc α] [DecidableEq α] {x y : SV} {kb : Bool → Prop} (a b : List α) (hx : x.d = .tup (a.map enc)) (hy : y.d = .tup (b.map enc)) (hd : Nat.ble (dep α + 1) 64 = true) (h : kb (decide (a ≠ b))) : CmpP .ne x y kb :=
  CmpP.ne (Tp.mk a) (Tp.mk b) hx hy hd (by simpa using h)
theorem CmpP.eqP {a b c d : Int} {kb : Bool → Prop} (h : kb (decide ((a, b) = (c, d)))) : CmpP .eq (.fz (.tup [.int a, .int b])) (.fz (.tup [.int c, .int d])) kb := CmpP.eq (a, b) (c, d) rfl rfl rfl h
theorem CmpP.neP {a b c d : Int} {kb : Bool → Prop} (h : kb (decide ((a, b) ≠ (c, d)))) : CmpP .ne (.fz (.tup [.int a, .int b])) (.fz (.tup [.int c, .int d])) kb := CmpP.ne (a, b) (c, d) rfl rfl rfl h
section
variable {G : Gm} {E : Env} {Q : SV → Env → Prop}
theorem take_call {i : Nat} {e : Ex} {k : Nat} {x : SV} {xs : List Int} {m : Int} {G' : Gm} (hG : G.fns[k]? = some ⟨[1, 0], runBody G' [1, 0] 2 takeB⟩) (hs : slot E i = some (.ow 1 (LI xs))) (hm : 0 < m)
    (q : ∀ w ys, 0 ≤ w → w < m → Q (.fz (.int w)) (E.set i (some (.ow 1 (LI ys))))) : CallP G k (.cons (.var i) (.cons e .nil)) E [x, .fz (.int m)] Q := by
  obtain ⟨w, ys, h, h0, h1⟩ := take_ok (G := G') xs m hm
  refine CallP.mk (r := .fz (.int w)) (ms := [LI ys]) (ds := [LI xs, .int m]) hG ?_ h rfl ?_ (E2 := E.set i (some (.ow 1 (LI ys)))) ?_ (q w ys h0 h1)
  · simp only [argsOf, SV.keep, hs, if_true]
  · simp only [mutVars]; exact List.nodup_cons.mpr ⟨fun z => (nomatch z), List.nodup_nil⟩
  · simp only [mutVars, killE, List.foldl_cons, List.foldl_nil, putBack, List.set_set]
end
theorem divL {j : Int} (h : 0 < j) (h2 : j < 1606938044258990275541962092341162602522202993782792835301376) : divOk j = true := by
  unfold divOk
  refine decide_eq_true ⟨h, ?_⟩
  have : j.natAbs < 2 ^ 200 := by
    have e : (2 : Nat) ^ 200 = 1606938044258990275541962092341162602522202993782792835301376 := by decide
    omega
  have := (Nat.log2_lt (by omega)).mpr this
  omega
section
variable {G : Gm} {E : Env} {Q : SV → Env → Prop} {k : SV → Prop} {kb : Bool → Prop}
theorem kill_get (E : Env) : ∀ (is : List Nat) (j : Nat), (killE E is)[j]? = if j ∈ is ∧ j < E.length then some none else E[j]? := by
  intro is
  induction is generalizing E with
  | nil => intro j; simp [killE]
  | cons i is ih =>
    intro j
    have e : killE E (i :: is) = killE (E.set i none) is := rfl
    rw [e, ih, List.length_set]
    by_cases h1 : j ∈ is ∧ j < E.length
    · rw [if_pos h1, if_pos ⟨List.mem_cons_of_mem _ h1.1, h1.2⟩]
    · rw [if_neg h1, List.getElem?_set]
      by_cases h2 : i = j
      · subst h2
        by_cases h3 : i < E.length
        · rw [if_pos rfl, if_pos h3, if_pos ⟨List.mem_cons_self, h3⟩]
        · rw [if_pos rfl, if_neg h3, if_neg (fun z => h3 z.2), List.getElem?_eq_none (by omega)]
      · rw [if_neg h2, if_neg (fun z => h1 ⟨(List.mem_cons.mp z.1).resolve_left (fun y => h2 y.symm), z.2⟩)]
theorem kill_len (E : Env) : ∀ is : List Nat, (killE E is).length = E.length := by
  intro is
  induction is generalizing E with
  | nil => rfl
  | cons i is ih => rw [show killE E (i :: is) = killE (E.set i none) is from rfl, ih, List.length_set]
theorem kill_set {E : Env} {i : Nat} {v : Option SV} {is : List Nat} (h : i ∈ is) : killE (E.set i v) is = killE E is := by
  refine List.ext_getElem? fun j => ?_
  rw [kill_get, kill_get, List.length_set, List.getElem?_set]
  by_cases h1 : j ∈ is ∧ j < E.length
  · rw [if_pos h1, if_pos h1]
  · rw [if_neg h1, if_neg h1]
    by_cases h2 : i = j
    · subst h2
      have h3 : ¬ i < E.length := fun z => h1 ⟨h, z⟩
      rw [if_pos rfl, if_neg h3, List.getElem?_eq_none (by omega)]
    · rw [if_neg h2]
theorem kill_kill {E : Env} {is : List Nat} : killE (killE E is) is = killE E is := by
  refine List.ext_getElem? fun j => ?_
  rw [kill_get, kill_len]
  by_cases h1 : j ∈ is ∧ j < E.length
  · rw [if_pos h1, kill_get, if_pos h1]
  · rw [if_neg h1]
/-- a comprehension without a test, whose slots stay -/
theorem LcP.map1 {α : Type} {n : Nat} {own : List Nat} {tg : Tg} {e : Ex} {ds : List D} (xs : List α) (en : α → D) (g : α → D) (hds : ds = xs.map en) (hl : xs.length ≤ LN) (hE : unown E own (killE E own) = E)
    (h : ∀ x ∈ xs, ∃ E1, tgSet (killE E own) tg (en x) = some E1 ∧ killE E1 own = killE E own ∧ WE G e E1 fun r E3 => killE E3 own = killE E own ∧ (match n with | 0 => r.keep = some (g x) | m + 1 => r = .ow (m + 1) (g x)))
    (q : Q (.ow (n + 1) (.list (xs.map g))) E) : LcP G n own tg .no e ds E Q := by
  refine LcP.mk xs en g (fun _ => true) hds hl (fun x hx => ?_) ?_
  · obtain ⟨E1, h1, h3, h2⟩ := h x hx
    exact ⟨E1, h1, WT.no ⟨rfl, h3, fun _ => h2⟩⟩
  · rw [hE, List.filter_eq_self.mpr (fun _ _ => rfl)]
    exact q
theorem boolsOf_map {α : Type} (p : α → Bool) : ∀ xs : List α, boolsOf (xs.map fun a => .bl (p a)) = some (xs.map p)
  | [] => rfl
  | x :: xs => by rw [List.map_cons, boolsOf, boolsOf_map p xs]; rfl
theorem intsOf_map {α : Type} (p : α → Int) : ∀ xs : List α, intsOf (xs.map fun a => .int (p a)) = some (xs.map p)
  | [] => rfl
  | x :: xs => by rw [List.map_cons, intsOf, intsOf_map p xs]; rfl
theorem intsOf_int (xs : List Int) : intsOf (xs.map .int) = some xs := by
  rw [intsOf_map (fun i => i) xs, List.map_id']
theorem BiP.any {α : Type} {x : SV} (xs : List α) (p : α → Bool) (e : x.d = .list (xs.map fun a => .bl (p a))) (h : k (.fz (.bl (xs.any p)))) : BiP .any [x] k := ⟨.fz (.bl ((xs.map p).any id)), by unfold biD; simp only [e, boolsOf_map, Option.map_some], by rw [List.any_map]; exact h⟩
theorem BiP.all {α : Type} {x : SV} (xs : List α) (p : α → Bool) (e : x.d = .list (xs.map fun a => .bl (p a))) (h : k (.fz (.bl (xs.all p)))) : BiP .all [x] k := ⟨.fz (.bl ((xs.map p).all id)), by unfold biD; simp only [e, boolsOf_map, Option.map_some], by rw [List.all_map]; exact h⟩
theorem BiP.tuple {x : SV} {xs : List D} (e : itemsOf x.d = some xs) (s : x.shal = true) (h : k (.fz (.tup xs))) : BiP .tuple [x] k := ⟨_, by unfold biD; simp only [e, s, if_true], h⟩
theorem BiP.listL {x : SV} {xs : List D} (e : itemsOf x.d = some xs) (s : x.shal = true) (h : k (.ow 1 (.list xs))) : BiP .list [x] k := ⟨_, by unfold biD; simp only [e, s, if_true], h⟩
theorem BiP.sum {x : SV} (xs : List Int) (e : x.d = LI xs) (h : k (.fz (.int xs.sum))) : BiP .sum [x] k := ⟨_, by unfold biD; simp only [e, intsOf_int, Option.map_some], h⟩
theorem BiP.sorted {x : SV} (xs : List Int) (e : x.d = LI xs) (h : k (.ow 1 (LI (sortI xs)))) : BiP .sorted [x] k := ⟨_, by unfold biD; simp only [e, intsOf_int, Option.map_some], h⟩
theorem CmpP.isB {b c : Bool} (h : kb (c == b)) : CmpP .is (.fz (.bl c)) (.fz (.bl b)) kb := ⟨_, rfl, h⟩
theorem CmpP.isnotB {b c : Bool} (h : kb (!(c == b))) : CmpP .isnot (.fz (.bl c)) (.fz (.bl b)) kb := ⟨_, rfl, h⟩
theorem CmpP.isN {x : SV} (h : kb (isNon x.d)) : CmpP .is x (.fz .non) kb := ⟨_, rfl, h⟩
theorem CmpP.isnotN {x : SV} (h : kb (!isNon x.d)) : CmpP .isnot x (.fz .non) kb := ⟨_, rfl, h⟩
end
end VI

/-! VI, part 20: fractions told in least numbers. -/
namespace VI
open PySem L2
local macro_rules | `(tactic| walk_at "side") => `(tactic| first | assumption | omega | decide | rfl)
local macro_rules | `(tactic| walk_at "mulok") => `(tactic| first | assumption | decide | (refine mulR ?_; omega) | (refine mulS ?_; omega))
local macro_rules | `(tactic| walk_at "divok") => `(tactic| first | assumption | decide | (refine divS ?_; omega))
local macro_rules | `(tactic| walk_at "wcall") => `(tactic| fail)
local macro_rules | `(tactic| walk_at "wmore") => `(tactic| fail)
local macro_rules | `(tactic| walk_at "wif") => `(tactic| first
  | with_reducible exact fun h => (nomatch h)
  | with_reducible refine' IfP.t ?_
  | with_reducible refine' IfP.f ?_
  | with_reducible refine' IfP.nt ?_
  | with_reducible refine' IfP.nr ?_
  | ((with_reducible refine' IfP.no ?h ?_); (case h => walk_at "side"))
  | ((with_reducible refine' IfP.yes ?h ?_); (case h => walk_at "side")))
local macro_rules | `(tactic| walk_at "we") => `(tactic| first
  | ((with_reducible refine' WE.var ?h ?_); (case h => exact rfl))
  | ((with_reducible refine' WE.varO ?h ?_); (case h => exact rfl))
  | ((with_reducible refine' WE.fzv ?h ?_); (case h => exact rfl))
  | ((with_reducible refine' WE.fzvO ?h ?_); (case h => exact rfl))
  | ((with_reducible refine' WE.mvv ?h ?_); (case h => exact rfl))
  | ((with_reducible refine' WE.mvvO ?h ?_); (case h => exact rfl))
  | with_reducible refine' WE.int ?_
  | with_reducible refine' WE.bin ?_
  | with_reducible refine' WE.call ?_
  | with_reducible refine' WE.cmp ?_
  | with_reducible refine' WE.sub ?_
  | with_reducible refine' WE.bi ?_
  | with_reducible refine' WE.or ?_
  | with_reducible refine' WE.and ?_
  | with_reducible refine' WE.not ?_
  | with_reducible refine' WE.neg ?_
  | with_reducible refine' WE.tup ?_
  | with_reducible refine' WE.list ?_
  | with_reducible refine' WE.bl ?_
  | with_reducible refine' WE.str ?_
  | with_reducible refine' WE.non ?_
  | with_reducible refine' WE.ite ?_
  | with_reducible refine' WE.chain ?_
  | ((with_reducible refine' WE.con ?h ?_); (case h => exact rfl))
  | with_reducible refine' WE.slice ?_
  | with_reducible refine' WE.lc ?_
  | with_reducible refine' WE.lrange1 ?_
  | with_reducible refine' WE.lrange2 ?_
  | with_reducible refine' WE.rev ?_
  | with_reducible refine' WE.me ?_
  | walk_at "wmore")
local macro_rules | `(tactic| walk_at "ws") => `(tactic| first
  | with_reducible refine' WS.set ?_
  | with_reducible refine' WS.ite ?_
  | with_reducible refine' WS.ret ?_
  | with_reducible refine' WS.par ?_
  | with_reducible refine' WS.unp ?_
  | with_reducible refine' WS.expr ?_
  | with_reducible refine' WS.for_ ?_
  | ((with_reducible refine' WS.aug ?h ?_); (case h => exact rfl))
  | ((with_reducible refine' WS.append ?h ?_); (case h => exact rfl))
  | ((with_reducible refine' WS.extend ?h ?_); (case h => exact rfl))
  | ((with_reducible refine' WS.reverse ?h ?_); (case h => exact rfl))
  | with_reducible refine' WS.setix ?_
  | with_reducible refine' WS.skip ?_
  | with_reducible refine' WS.retN ?_
  | with_reducible refine' WS.brk ?_
  | with_reducible refine' WS.cont ?_
  | walk_at "wmore")
local macro_rules | `(tactic| walk_at "wp") => `(tactic| first
  | ((with_reducible refine' StP.mk ?h ?_); (case h => exact rfl))
  | with_reducible refine' BinP.add ?_
  | with_reducible refine' BinP.sub ?_
  | ((with_reducible refine' BinP.mul ?h ?_); (case h => walk_at "mulok"))
  | ((with_reducible refine' BinP.mod ?h ?_); (case h => walk_at "side"))
  | ((with_reducible refine' BinP.fdiv ?h ?_); (case h => walk_at "divok"))
  | with_reducible refine' CmpP.lt ?_
  | with_reducible refine' CmpP.le ?_
  | with_reducible refine' CmpP.gt ?_
  | with_reducible refine' CmpP.ge ?_
  | with_reducible refine' CmpP.eqI ?_
  | with_reducible refine' CmpP.neI ?_
  | ((with_reducible show TruP _ _); first | refine' TruP.bl ?_ | refine' TruP.int ?_ | walk_at "wmore")
  | ((with_reducible show BlP _ _); refine' BlP.mk ?_)
  | ((with_reducible show IntP _ _); refine' IntP.mk ?_)
  | with_reducible refine' SlP.fz ?_
  | with_reducible refine' SlP.ow ?_
  | ((with_reducible refine' KsP.mk ?h ?l ?_); (case h => exact rfl); (case l => exact rfl))
  | with_reducible refine' BiP.int ?_
  | with_reducible refine' BiP.intB ?_
  | with_reducible refine' BiP.abs ?_
  | with_reducible refine' BiP.min2 ?_
  | with_reducible refine' BiP.max2 ?_
  | with_reducible refine' BiP.gcd ?_
  | ((with_reducible refine' BiP.len ?h ?_); (case h => exact rfl))
  | ((with_reducible refine' BiP.lenK ?h ?_); (case h => exact rfl))
  | ((with_reducible refine' BiP.lenT ?h ?_); (case h => exact rfl))
  | ((with_reducible show GetP _ _ _); first | ((refine' GetP.tup ?h ?_); (case h => exact rfl)) | ((refine' GetP.list ?h ?_); (case h => exact rfl)) | ((refine' GetP.pk1 ?h ?_); (case h => exact rfl)) | ((refine' GetP.pk2 ?h ?_); (case h => exact rfl)) | walk_at "wmore")
  | ((with_reducible refine' UnP.mk ?l ?h ?_); (case l => exact rfl); (case h => exact rfl))
  | ((with_reducible refine' ParP.mk ?h ?_); (case h => exact rfl))
  | ((with_reducible refine' ItP.mk ?l ?h ?_); (case l => exact rfl); (case h => exact rfl))
  | ((with_reducible refine' LsP.mk ?l ?h ?_); (case l => exact rfl); (case h => exact rfl))
  | with_reducible refine' CmpP.eqP ?_
  | with_reducible refine' CmpP.isB ?_
  | with_reducible refine' CmpP.isnotB ?_
  | with_reducible refine' CmpP.isN ?_
  | with_reducible refine' CmpP.isnotN ?_
  | ((with_reducible refine' BiP.tuple ?h ?l ?_); (case h => exact rfl); (case l => exact rfl))
  | ((with_reducible refine' BiP.listL ?h ?l ?_); (case h => exact rfl); (case l => exact rfl))
  | with_reducible refine' CmpP.neP ?_
  | ((with_reducible refine' BinP.pow ?h ?_); (case h => decide))
  | walk_at "wmore")
local macro_rules | `(tactic| walk_at "w1") => `(tactic| first
  | ((with_reducible show WE _ _ _ _); walk_at "we")
  | ((with_reducible show WEs _ _ _ _); first | with_reducible refine' WEs.cons ?_ | with_reducible refine' WEs.nil ?_)
  | ((with_reducible show WB _ _ _ _ _ _ _); first | with_reducible refine' WB.cons ?_ | with_reducible refine' WB.nil ?_ | with_reducible refine' WB.kill ?_)
  | ((with_reducible show WS _ _ _ _ _ _ _); walk_at "ws")
  | ((with_reducible show IfP _ _ _); walk_at "wif")
  | ((with_reducible show CallP _ _ _ _ _ _); walk_at "wcall")
  | ((with_reducible show WI _ _ _ _); first | with_reducible refine' WI.seq ?_ | with_reducible refine' WI.rng1 ?_ | with_reducible refine' WI.rng2 ?_ | with_reducible refine' WI.enum ?_ | with_reducible refine' WI.zip ?_ | with_reducible refine' WI.rev ?_)
  | ((with_reducible show WO _ _ _ _); first | with_reducible refine' WO.no ?_ | with_reducible refine' WO.so ?_)
  | ((with_reducible show WT _ _ _ _); first | with_reducible refine' WT.no ?_ | with_reducible refine' WT.so ?_)
  | walk_at "wp")
local macro_rules | `(tactic| walk_at "w") => `(tactic| repeat' walk_at "w1")
/-! ### fractions -/
def gI (n d : Int) : Int := ((Nat.gcd n.natAbs d.natAbs : Nat) : Int)
def fr (n d : Int) : Int × Int := (n / gI n d, d / gI n d)
abbrev en (p : Int × Int) : D := .tup [.int p.1, .int p.2]
theorem g_pos {n d : Int} (h : 0 < d) : 0 < gI n d := by
  unfold gI
  have : 0 < Nat.gcd n.natAbs d.natAbs := Nat.gcd_pos_of_pos_right _ (by omega)
  omega
theorem g_le {n d : Int} (h : 0 < d) : gI n d ≤ d := by
  unfold gI
  have : Nat.gcd n.natAbs d.natAbs ≤ d.natAbs := Nat.gcd_le_right _ (by omega)
  omega
theorem g_dl (n d : Int) : gI n d ∣ n := by
  exact Int.dvd_natAbs.mp (Int.natCast_dvd_natCast.mpr (Nat.gcd_dvd_left _ _))
theorem g_dr (n d : Int) : gI n d ∣ d := by
  exact Int.dvd_natAbs.mp (Int.natCast_dvd_natCast.mpr (Nat.gcd_dvd_right _ _))
theorem g_mul (k n d : Int) (hk : 0 < k) : gI (k * n) (k * d) = k * gI n d := by
  unfold gI
  rw [Int.natAbs_mul, Int.natAbs_mul, Nat.gcd_mul_left, Int.natCast_mul]
  congr 1
  omega
theorem fr_mul (k n d : Int) (hk : 0 < k) : fr (k * n) (k * d) = fr n d := by
  unfold fr
  rw [g_mul k n d hk, Int.mul_ediv_mul_of_pos _ _ hk, Int.mul_ediv_mul_of_pos _ _ hk]
/-- a fraction told -/
theorem fr_of {n d : Int} (h : 0 < d) : ∃ k, 0 < k ∧ n = k * (fr n d).1 ∧ d = k * (fr n d).2 :=
  ⟨gI n d, g_pos h, (Int.mul_ediv_cancel' (g_dl n d)).symm, (Int.mul_ediv_cancel' (g_dr n d)).symm⟩
theorem fr_pos {n d : Int} (h : 0 < d) : 0 < (fr n d).2 := by
  obtain ⟨k, hk, _, e⟩ := fr_of (n := n) h
  have : 0 < k * (fr n d).2 := by omega
  exact Int.pos_of_mul_pos_right this hk
theorem fr_le {n d : Int} (h : 0 < d) : (fr n d).2 ≤ d := by
  obtain ⟨k, hk, _, e⟩ := fr_of (n := n) h
  have h2 := fr_pos (n := n) h
  have := Int.mul_le_mul_of_nonneg_right (show 1 ≤ k by omega) (Int.le_of_lt h2)
  omega
theorem fr_plus {n m d : Int} (h : 0 < d) : fr ((fr n d).1 * (fr m d).2 + (fr m d).1 * (fr n d).2) ((fr n d).2 * (fr m d).2) = fr (n + m) d := by
  obtain ⟨k, hk, e1, e2⟩ := fr_of (n := n) h
  obtain ⟨l, hl, e3, e4⟩ := fr_of (n := m) h
  have p1 := fr_pos (n := n) h
  have p2 := fr_pos (n := m) h
  generalize (fr n d).1 = a at *
  generalize (fr n d).2 = b at *
  generalize (fr m d).1 = a' at *
  generalize (fr m d).2 = b' at *
  rw [← fr_mul (k * l) _ _ (Int.mul_pos hk hl)]
  rw [show k * l * (a * b' + a' * b) = d * (n + m) by
    rw [e1, e3, Int.mul_add, Int.mul_add]
    conv => rhs; rw [show d * (k * a) = (l * b') * (k * a) by rw [← e4], show d * (l * a') = (k * b) * (l * a') by rw [← e2]]
    simp only [Int.mul_assoc, Int.mul_comm, Int.mul_left_comm]]
  rw [show k * l * (b * b') = d * d by
    conv => rhs; rw [show d * d = (k * b) * (l * b') by rw [← e2, ← e4]]
    simp only [Int.mul_assoc, Int.mul_comm, Int.mul_left_comm]]
  exact fr_mul d _ _ h
theorem fr_times {n d k : Int} (h : 0 < d) : fr ((fr n d).1 * k) ((fr n d).2 * 1) = fr (k * n) d := by
  obtain ⟨l, hl, e1, e2⟩ := fr_of (n := n) h
  rw [← fr_mul l _ _ hl]
  congr 1
  · rw [← Int.mul_assoc, ← e1, Int.mul_comm]
  · rw [Int.mul_one, ← e2]
theorem fr_cmp {n d l : Int} (h : 0 < d) : (fr n d).1 ≤ l * (fr n d).2 ↔ n ≤ l * d := by
  obtain ⟨k, hk, e1, e2⟩ := fr_of (n := n) h
  generalize (fr n d).1 = a at *
  generalize (fr n d).2 = b at *
  rw [show l * d = k * (l * b) by rw [e2]; simp only [Int.mul_assoc, Int.mul_comm, Int.mul_left_comm], e1]
  exact ⟨fun z => Int.mul_le_mul_of_nonneg_left z (Int.le_of_lt hk), fun z => Int.le_of_mul_le_mul_left z hk⟩
/-! ### the greatest common divisor by turns -/
def euc : Nat → Int → Int → Int
  | 0, a, _ => a
  | m + 1, a, b => if b = 0 then a else euc m b (a % b)
theorem g_zero {a : Int} (h : 0 ≤ a) : gI a 0 = a := by unfold gI; rw [Int.natAbs_zero, Nat.gcd_zero_right]; omega
theorem g_step {a b : Int} (ha : 0 ≤ a) (hb : 0 < b) : gI b (a % b) = gI a b := by
  unfold gI
  have e : (a % b).natAbs = a.natAbs % b.natAbs := by
    have h1 : ((a.natAbs : Nat) : Int) = a := by omega
    have h2 : ((b.natAbs : Nat) : Int) = b := by omega
    conv => lhs; rw [← h1, ← h2, ← Int.natCast_emod, Int.natAbs_natCast]
  rw [e, Nat.gcd_comm a.natAbs b.natAbs, Nat.gcd_rec b.natAbs a.natAbs, Nat.gcd_comm]
theorem euc_g : ∀ (k m : Nat) (a b : Int), 0 ≤ b → b < a → a < (2 : Int) ^ k → 2 * k ≤ m → euc m a b = gI a b
  | 0, m, a, b, h1, h2, h3, _ => by rw [Int.pow_zero] at h3; omega
  | k + 1, m, a, b, h1, h2, h3, h4 => by
    obtain ⟨m', rfl⟩ : ∃ m', m = m' + 2 := ⟨m - 2, by omega⟩
    by_cases hb : b = 0
    · subst hb
      rw [g_zero (by omega)]
      unfold euc
      rw [if_pos rfl]
    · have hb' : 0 < b := by omega
      have r0 := Int.emod_nonneg a (show b ≠ 0 by omega)
      have r1 := Int.emod_lt_of_pos a hb'
      have e1 : euc (m' + 2) a b = euc (m' + 1) b (a % b) := by
        show (if b = 0 then a else euc (m' + 1) b (a % b)) = _
        rw [if_neg hb]
      rw [e1, ← g_step (by omega) hb']
      by_cases hc : a % b = 0
      · rw [hc, g_zero (by omega)]
        show (if (0 : Int) = 0 then b else _) = b
        rw [if_pos rfl]
      · have e2 : euc (m' + 1) b (a % b) = euc m' (a % b) (b % (a % b)) := by
          show (if a % b = 0 then b else euc m' (a % b) (b % (a % b))) = _
          rw [if_neg hc]
        have hc' : 0 < a % b := by omega
        rw [e2, ← g_step (by omega) hc']
        refine euc_g k m' _ _ (Int.emod_nonneg _ (by omega)) (Int.emod_lt_of_pos _ hc') ?_ (by omega)
        have e3 := Int.mul_ediv_add_emod a b
        have hq : 1 ≤ a / b := (Int.le_ediv_iff_mul_le hb').mpr (by omega)
        have := Int.mul_le_mul_of_nonneg_left hq (Int.le_of_lt hb')
        rw [Int.pow_succ] at h3
        omega

theorem fr_eq {n d m e : Int} (hd : 0 < d) (he : 0 < e) (h : n * e = m * d) : fr n d = fr m e := by
  rw [← fr_mul e n d he, ← fr_mul d m e hd]
  congr 1
  · rw [Int.mul_comm, h, Int.mul_comm]
  · exact Int.mul_comm _ _
/-- what a fraction is worth, told crosswise -/
theorem fr_x {n d : Int} (h : 0 < d) : (fr n d).1 * d = n * (fr n d).2 := by
  obtain ⟨k, hk, e1, e2⟩ := fr_of (n := n) h
  generalize (fr n d).1 = a at *
  generalize (fr n d).2 = b at *
  grind
theorem fr_add {n d m e : Int} (hd : 0 < d) (he : 0 < e) : fr ((fr n d).1 * (fr m e).2 + (fr m e).1 * (fr n d).2) ((fr n d).2 * (fr m e).2) = fr (n * e + m * d) (d * e) := by
  have h1 := fr_x (n := n) hd
  have h2 := fr_x (n := m) he
  refine fr_eq (Int.mul_pos (fr_pos hd) (fr_pos he)) (Int.mul_pos hd he) ?_
  generalize (fr n d).1 = a at *
  generalize (fr n d).2 = b at *
  generalize (fr m e).1 = a' at *
  generalize (fr m e).2 = b' at *
  grind
theorem fr_tms {n d m e : Int} (hd : 0 < d) (he : 0 < e) : fr ((fr n d).1 * (fr m e).1) ((fr n d).2 * (fr m e).2) = fr (n * m) (d * e) := by
  have h1 := fr_x (n := n) hd
  have h2 := fr_x (n := m) he
  refine fr_eq (Int.mul_pos (fr_pos hd) (fr_pos he)) (Int.mul_pos hd he) ?_
  generalize (fr n d).1 = a at *
  generalize (fr n d).2 = b at *
  generalize (fr m e).1 = a' at *
  generalize (fr m e).2 = b' at *
  grind
theorem fr_one (n : Int) : fr n 1 = (n, 1) := by
  have : gI n 1 = 1 := by unfold gI; rw [show (1 : Int).natAbs = 1 from rfl, Nat.gcd_one_right]; rfl
  unfold fr
  rw [this, Int.ediv_one]; rfl
def lgcdB : Sms := .cons (.for_ (.nm 2) (.rng1 (.int 400)) (.cons (.ite (.cmp .eq (.var 1) (.int 0)) (.cons .brk .nil) .nil) (.cons (.par [0, 1] (.cons (.fzv 1) (.cons (.bin .mod (.var 0) (.var 1)) .nil))) .nil)) [2])
  (.cons (.ret (.mvv 0)) .nil)
def fracB (k : Nat) : Sms := .cons (.set 2 (.call k (.cons (.bi .abs (.cons (.var 0) .nil)) (.cons (.fzv 1) .nil)))) (.cons (.ret (.tup (.cons (.bin .fdiv (.var 0) (.var 2)) (.cons (.bin .fdiv (.var 1) (.var 2)) .nil)))) .nil)
def fractionB : Sms := .cons (.set 2 (.bi .gcd (.cons (.var 0) (.cons (.var 1) .nil)))) (.cons (.ite (.cmp .lt (.var 1) (.int 0)) (.cons (.set 2 (.neg (.var 2))) .nil) .nil)
  (.cons (.ret (.tup (.cons (.bin .fdiv (.var 0) (.var 2)) (.cons (.bin .fdiv (.var 1) (.var 2)) .nil)))) .nil))
section
variable {G : Gm}
theorem fraction_run (n d : Int) (h : 0 < d ∧ d < 803469022129495137770981046170581301261101496891396417650688) : runBody G [0, 0] 3 fractionB [.int n, .int d] = some (.fz (en (fr n d)), []) := by
  refine run_is rfl ?_
  show WB G fractionB [some (.fz (.int n)), some (.fz (.int d)), none] _ _ _ _
  have h1 := g_pos (n := n) h.1
  have h2 := g_le (n := n) h.1
  have h3 : divOk (gI n d) = true := divL h1 (by omega)
  unfold fractionB
  walk_at "w"
  exact ⟨rfl, rfl⟩
theorem lgcd_run (a b : Int) (ha : 0 ≤ a) (hb : 0 < b ∧ b < 803469022129495137770981046170581301261101496891396417650688) : runBody G [0, 0] 3 lgcdB [.int a, .int b] = some (.fz (.int (gI a b)), []) := by
  refine run_is rfl ?_
  show WB G lgcdB [some (.fz (.int a)), some (.fz (.int b)), none] _ _ _ _
  unfold lgcdB
  walk_at "w"
  refine ⟨rfl, ?_⟩
  have e : euc 400 a b = gI a b := by
    show (if b = 0 then a else euc 399 b (a % b)) = _
    rw [if_neg (by omega), ← g_step ha hb.1]
    refine euc_g 199 399 _ _ (Int.emod_nonneg _ (by omega)) (Int.emod_lt_of_pos _ hb.1) ?_ (by omega)
    have e : (2 : Int) ^ 199 = 803469022129495137770981046170581301261101496891396417650688 := by decide
    rw [e]; exact hb.2
  refine ForP.inv (fun ds E => ∃ (a' b' : Int) (x : Option SV), E = [some (.fz (.int a')), some (.fz (.int b')), x] ∧ 0 ≤ a' ∧ 0 ≤ b' ∧ euc ds.length a' b' = gI a b) ?_ ?_ _ _ ⟨a, b, none, rfl, ha, by omega, e⟩
  · rintro E ⟨a', b', x, rfl, h1, h2, h3⟩
    walk_at "w"
    exact ⟨rfl, by rw [← h3]; rfl⟩
  · rintro d ds E ⟨a', b', x, rfl, h1, h2, h3⟩
    refine ⟨_, rfl, ?_⟩
    rw [List.length_cons] at h3
    walk_at "w"
    refine IfP.dec (fun h => ?_) (fun h => ?_)
    · walk_at "w"
      refine ⟨rfl, ?_⟩
      rw [← h3, h]
      show SV.fz (.int a') = SV.fz (.int (if (0 : Int) = 0 then a' else _))
      rw [if_pos rfl]
    · walk_at "w"
      refine ⟨b', a' % b', none, rfl, h2, Int.emod_nonneg _ h, ?_⟩
      rw [← h3]
      show _ = if b' = 0 then a' else euc ds.length b' (a' % b')
      rw [if_neg h]
theorem frac_run {k : Nat} {G' : Gm} (hG : G.fns[k]? = some ⟨[0, 0], runBody G' [0, 0] 3 lgcdB⟩) (a b : Int) (hb : 0 < b ∧ b < 803469022129495137770981046170581301261101496891396417650688) : runBody G [0, 0] 3 (fracB k) [.int a, .int b] = some (.fz (en (fr a b)), []) := by
  refine run_is rfl ?_
  show WB G (fracB k) [some (.fz (.int a)), some (.fz (.int b)), none] _ _ _ _
  have h1 := g_pos (n := a) hb.1
  have h2 := g_le (n := a) hb.1
  have h3 : divOk (gI a b) = true := divL h1 (by omega)
  have e : gI (if a < 0 then -a else a) b = gI a b := by
    unfold gI
    congr 2
    split <;> omega
  unfold fracB
  walk_at "w"
  refine CallP.pure hG rfl (lgcd_run _ _ (by split <;> omega) hb) rfl rfl rfl ?_
  rw [e]
  walk_at "w"
  exact ⟨rfl, rfl⟩
end
end VI

namespace CK04
open PySem L2 VI
def topS (i : Nat) : Stmt := PySem.Challenge.pw_presswork_k04_whole_margins_of_greater_p.main.body.getD i (.Pass ⟨0, 0, 0, 0⟩)
def cs : List (Str × D) := []
def bl : List Str := ["abs", "any", "gcd", "int", "len", "range", "tuple"]
/-! ### _law_deck -/
def b0 : Sms := (.cons (.set 3 (.list .nil))
  (.cons (.set 4 (.bin .add (.int 7) (.bi .len (.cons (.var 0) .nil))))
  (.cons (.for_ (.nm 5) (.rng1 (.var 1)) (.cons (.set 6 (.int 0))
  (.cons (.ite (.cmp .lt (.var 5) (.bi .len (.cons (.var 0) .nil))) (.cons (.set 6 (.sub (.var 0) (.var 5)))
  .nil) .nil)
  (.cons (.set 7 (.bi .abs (.cons (.var 6) .nil)))
  (.cons (.ite (.cmp .ge (.var 7) (.bin .pow (.int 10) (.int 30))) (.cons (.for_ (.nm 8) (.rng1 (.var 2)) (.cons (.append 3 (.bin .mod (.bi .int (.cons (.var 7) .nil)) (.int 1000003)))
  (.cons (.set 7 (.bin .fdiv (.var 7) (.int 1000003)))
  .nil)) [8])
  .nil) (.cons (.set 4 (.bin .mod (.bi .int (.cons (.bin .add (.bin .add (.bin .add (.bin .mul (.var 4) (.int 48271)) (.bin .mul (.int 2) (.var 7))) (.bi .int (.cons (.cmp .lt (.var 6) (.int 0)) .nil))) (.var 5)) .nil)) (.int 2147483647)))
  (.cons (.for_ (.nm 8) (.rng1 (.var 2)) (.cons (.set 4 (.bin .mod (.bi .int (.cons (.bin .add (.bin .add (.bin .mul (.var 4) (.int 69621)) (.var 8)) (.int 1)) .nil)) (.int 2147483629)))
  (.cons (.append 3 (.bin .mod (.bi .int (.cons (.bin .fdiv (.var 4) (.int 5)) .nil)) (.int 1000003)))
  .nil)) [8])
  .nil)))
  .nil)))) [5, 6, 7, 8])
  (.cons (.reverse 3)
  (.cons (.ret (.mvv 3))
  .nil)))))
def d0 : Dd := { N := ["script", "cells", "each", "deck", "seed", "k", "cell", "rest", "at"], ps := ["script", "cells", "each"], ways := [0, 0, 0], st := topS 18, b := b0 }
def fs0 : List (Str × Fn) := []
def F0 : Fn := d0.fn fs0 cs 1000
theorem is0 {x0 x1 x2 : D} {ms : List D} {v : SV} (h : WB (gmOf fs0 cs 1000) b0 [some (.fz x0), some (.fz x1), some (.fz x2), none, none, none, none, none, none] (fun E => mutsOf E 0 [0, 0, 0] = some ms ∧ SV.fz .non = v) (fun u E => mutsOf E 0 [0, 0, 0] = some ms ∧ u = v) (fun _ => False) (fun _ => False)) : F0.f [x0, x1, x2] = some (v, ms) := run_is (G := gmOf fs0 cs 1000) (ways := [0, 0, 0]) (m := 9) (x := b0) (ds := [x0, x1, x2]) rfl h
theorem mk0 {x0 x1 x2 : D} {P : SV → List D → Prop} (h : WB (gmOf fs0 cs 1000) b0 [some (.fz x0), some (.fz x1), some (.fz x2), none, none, none, none, none, none] (fun E => ∃ ms, mutsOf E 0 [0, 0, 0] = some ms ∧ P (.fz .non) ms) (fun v E => ∃ ms, mutsOf E 0 [0, 0, 0] = some ms ∧ P v ms) (fun _ => False) (fun _ => False)) : ∃ v ms, F0.f [x0, x1, x2] = some (v, ms) ∧ P v ms := run_mk (G := gmOf fs0 cs 1000) (ways := [0, 0, 0]) (m := 9) (x := b0) (ds := [x0, x1, x2]) rfl h
theorem sc0 : FnScope d0.N d0.ps (defScope d0.st) := ⟨rfl, rfl, rfl, by decide +kernel, rfl, by decide +kernel, by decide +kernel⟩
theorem bi0 : BindOk d0.st "_law_deck" d0.ps := fun _ _ _ _ _ _ us hl => match us, hl with | [_, _, _], _ => rfl
theorem ck0 : ckB 400 (d0.ct 0 fs0 cs bl) (defBody d0.st) d0.b = true := by decide +kernel
/-! ### check_size -/
def b1 : Sms := (.cons (.ite (.or (.cmp .lt (.var 0) (.int 1)) (.cmp .lt (.var 1) (.int 1))) (.cons .bad
  .nil) .nil)
  .nil)
def d1 : Dd := { N := ["width", "height"], ps := ["width", "height"], ways := [0, 0], st := topS 5, b := b1 }
def fs1 : List (Str × Fn) := [("_law_deck", F0)]
def F1 : Fn := d1.fn fs1 cs 1000
theorem is1 {x0 x1 : D} {ms : List D} {v : SV} (h : WB (gmOf fs1 cs 1000) b1 [some (.fz x0), some (.fz x1)] (fun E => mutsOf E 0 [0, 0] = some ms ∧ SV.fz .non = v) (fun u E => mutsOf E 0 [0, 0] = some ms ∧ u = v) (fun _ => False) (fun _ => False)) : F1.f [x0, x1] = some (v, ms) := run_is (G := gmOf fs1 cs 1000) (ways := [0, 0]) (m := 2) (x := b1) (ds := [x0, x1]) rfl h
theorem mk1 {x0 x1 : D} {P : SV → List D → Prop} (h : WB (gmOf fs1 cs 1000) b1 [some (.fz x0), some (.fz x1)] (fun E => ∃ ms, mutsOf E 0 [0, 0] = some ms ∧ P (.fz .non) ms) (fun v E => ∃ ms, mutsOf E 0 [0, 0] = some ms ∧ P v ms) (fun _ => False) (fun _ => False)) : ∃ v ms, F1.f [x0, x1] = some (v, ms) ∧ P v ms := run_mk (G := gmOf fs1 cs 1000) (ways := [0, 0]) (m := 2) (x := b1) (ds := [x0, x1]) rfl h
theorem sc1 : FnScope d1.N d1.ps (defScope d1.st) := ⟨rfl, rfl, rfl, by decide +kernel, rfl, by decide +kernel, by decide +kernel⟩
theorem bi1 : BindOk d1.st "check_size" d1.ps := fun _ _ _ _ _ _ us hl => match us, hl with | [_, _], _ => rfl
theorem ck1 : ckB 400 (d1.ct 1 fs1 cs bl) (defBody d1.st) d1.b = true := by decide +kernel
/-! ### fraction -/
def b2 : Sms := (.cons (.set 2 (.bi .gcd (.cons (.var 0) (.cons (.var 1) .nil))))
  (.cons (.ite (.cmp .lt (.var 1) (.int 0)) (.cons (.set 2 (.neg (.var 2)))
  .nil) .nil)
  (.cons (.ret (.tup (.cons (.bin .fdiv (.var 0) (.var 2)) (.cons (.bin .fdiv (.var 1) (.var 2)) .nil))))
  .nil)))
def d2 : Dd := { N := ["above", "below", "common"], ps := ["above", "below"], ways := [0, 0], st := topS 7, b := b2 }
def fs2 : List (Str × Fn) := [("_law_deck", F0), ("check_size", F1)]
def F2 : Fn := d2.fn fs2 cs 1000
theorem is2 {x0 x1 : D} {ms : List D} {v : SV} (h : WB (gmOf fs2 cs 1000) b2 [some (.fz x0), some (.fz x1), none] (fun E => mutsOf E 0 [0, 0] = some ms ∧ SV.fz .non = v) (fun u E => mutsOf E 0 [0, 0] = some ms ∧ u = v) (fun _ => False) (fun _ => False)) : F2.f [x0, x1] = some (v, ms) := run_is (G := gmOf fs2 cs 1000) (ways := [0, 0]) (m := 3) (x := b2) (ds := [x0, x1]) rfl h
theorem mk2 {x0 x1 : D} {P : SV → List D → Prop} (h : WB (gmOf fs2 cs 1000) b2 [some (.fz x0), some (.fz x1), none] (fun E => ∃ ms, mutsOf E 0 [0, 0] = some ms ∧ P (.fz .non) ms) (fun v E => ∃ ms, mutsOf E 0 [0, 0] = some ms ∧ P v ms) (fun _ => False) (fun _ => False)) : ∃ v ms, F2.f [x0, x1] = some (v, ms) ∧ P v ms := run_mk (G := gmOf fs2 cs 1000) (ways := [0, 0]) (m := 3) (x := b2) (ds := [x0, x1]) rfl h
theorem sc2 : FnScope d2.N d2.ps (defScope d2.st) := ⟨rfl, rfl, rfl, by decide +kernel, rfl, by decide +kernel, by decide +kernel⟩
theorem bi2 : BindOk d2.st "fraction" d2.ps := fun _ _ _ _ _ _ us hl => match us, hl with | [_, _], _ => rfl
theorem ck2 : ckB 400 (d2.ct 2 fs2 cs bl) (defBody d2.st) d2.b = true := by decide +kernel
/-! ### canon -/
def b3 : Sms := (.cons (.expr (.call 1 (.cons (.fzv 0) (.cons (.fzv 1) .nil))))
  (.cons (.ite (.cmp .lt (.var 2) (.int 4)) (.cons .bad
  .nil) .nil)
  (.cons (.ret (.tup (.cons (.call 2 (.cons (.fzv 0) (.cons (.fzv 2) .nil))) (.cons (.call 2 (.cons (.fzv 1) (.cons (.fzv 2) .nil))) (.cons (.call 2 (.cons (.bin .mul (.int 2) (.var 0)) (.cons (.fzv 2) .nil))) (.cons (.call 2 (.cons (.bin .mul (.int 2) (.var 1)) (.cons (.fzv 2) .nil))) .nil))))))
  .nil)))
def d3 : Dd := { N := ["width", "height", "parts"], ps := ["width", "height", "parts"], ways := [0, 0, 0], st := topS 9, b := b3 }
def fs3 : List (Str × Fn) := [("_law_deck", F0), ("check_size", F1), ("fraction", F2)]
def F3 : Fn := d3.fn fs3 cs 1000
theorem is3 {x0 x1 x2 : D} {ms : List D} {v : SV} (h : WB (gmOf fs3 cs 1000) b3 [some (.fz x0), some (.fz x1), some (.fz x2)] (fun E => mutsOf E 0 [0, 0, 0] = some ms ∧ SV.fz .non = v) (fun u E => mutsOf E 0 [0, 0, 0] = some ms ∧ u = v) (fun _ => False) (fun _ => False)) : F3.f [x0, x1, x2] = some (v, ms) := run_is (G := gmOf fs3 cs 1000) (ways := [0, 0, 0]) (m := 3) (x := b3) (ds := [x0, x1, x2]) rfl h
theorem mk3 {x0 x1 x2 : D} {P : SV → List D → Prop} (h : WB (gmOf fs3 cs 1000) b3 [some (.fz x0), some (.fz x1), some (.fz x2)] (fun E => ∃ ms, mutsOf E 0 [0, 0, 0] = some ms ∧ P (.fz .non) ms) (fun v E => ∃ ms, mutsOf E 0 [0, 0, 0] = some ms ∧ P v ms) (fun _ => False) (fun _ => False)) : ∃ v ms, F3.f [x0, x1, x2] = some (v, ms) ∧ P v ms := run_mk (G := gmOf fs3 cs 1000) (ways := [0, 0, 0]) (m := 3) (x := b3) (ds := [x0, x1, x2]) rfl h
theorem sc3 : FnScope d3.N d3.ps (defScope d3.st) := ⟨rfl, rfl, rfl, by decide +kernel, rfl, by decide +kernel, by decide +kernel⟩
theorem bi3 : BindOk d3.st "canon" d3.ps := fun _ _ _ _ _ _ us hl => match us, hl with | [_, _, _], _ => rfl
theorem ck3 : ckB 400 (d3.ct 3 fs3 cs bl) (defBody d3.st) d3.b = true := by decide +kernel
/-! ### plus -/
def b4 : Sms := (.cons (.ret (.call 2 (.cons (.bin .add (.bin .mul (.sub (.var 0) (.int 0)) (.sub (.var 1) (.int 1))) (.bin .mul (.sub (.var 1) (.int 0)) (.sub (.var 0) (.int 1)))) (.cons (.bin .mul (.sub (.var 0) (.int 1)) (.sub (.var 1) (.int 1))) .nil))))
  .nil)
def d4 : Dd := { N := ["first", "second"], ps := ["first", "second"], ways := [0, 0], st := topS 11, b := b4 }
def fs4 : List (Str × Fn) := [("_law_deck", F0), ("check_size", F1), ("fraction", F2), ("canon", F3)]
def F4 : Fn := d4.fn fs4 cs 1000
theorem is4 {x0 x1 : D} {ms : List D} {v : SV} (h : WB (gmOf fs4 cs 1000) b4 [some (.fz x0), some (.fz x1)] (fun E => mutsOf E 0 [0, 0] = some ms ∧ SV.fz .non = v) (fun u E => mutsOf E 0 [0, 0] = some ms ∧ u = v) (fun _ => False) (fun _ => False)) : F4.f [x0, x1] = some (v, ms) := run_is (G := gmOf fs4 cs 1000) (ways := [0, 0]) (m := 2) (x := b4) (ds := [x0, x1]) rfl h
theorem mk4 {x0 x1 : D} {P : SV → List D → Prop} (h : WB (gmOf fs4 cs 1000) b4 [some (.fz x0), some (.fz x1)] (fun E => ∃ ms, mutsOf E 0 [0, 0] = some ms ∧ P (.fz .non) ms) (fun v E => ∃ ms, mutsOf E 0 [0, 0] = some ms ∧ P v ms) (fun _ => False) (fun _ => False)) : ∃ v ms, F4.f [x0, x1] = some (v, ms) ∧ P v ms := run_mk (G := gmOf fs4 cs 1000) (ways := [0, 0]) (m := 2) (x := b4) (ds := [x0, x1]) rfl h
theorem sc4 : FnScope d4.N d4.ps (defScope d4.st) := ⟨rfl, rfl, rfl, by decide +kernel, rfl, by decide +kernel, by decide +kernel⟩
theorem bi4 : BindOk d4.st "plus" d4.ps := fun _ _ _ _ _ _ us hl => match us, hl with | [_, _], _ => rfl
theorem ck4 : ckB 400 (d4.ct 4 fs4 cs bl) (defBody d4.st) d4.b = true := by decide +kernel
/-! ### check_margins -/
def b5 : Sms := (.cons (.ite (.or (.cmp .ne (.bi .len (.cons (.var 2) .nil)) (.int 4)) (.bi .any (.cons (.lc 0 [3] (.nm 3) (.seq (.fzv 2)) .no (.or (.cmp .lt (.sub (.var 3) (.int 0)) (.int 0)) (.cmp .lt (.sub (.var 3) (.int 1)) (.int 1)))) .nil))) (.cons .bad
  .nil) .nil)
  (.cons (.set 4 (.call 4 (.cons (.sub (.var 2) (.int 0)) (.cons (.sub (.var 2) (.int 2)) .nil))))
  (.cons (.set 5 (.call 4 (.cons (.sub (.var 2) (.int 1)) (.cons (.sub (.var 2) (.int 3)) .nil))))
  (.cons (.ite (.or (.cmp .ge (.sub (.var 4) (.int 0)) (.bin .mul (.var 0) (.sub (.var 4) (.int 1)))) (.cmp .ge (.sub (.var 5) (.int 0)) (.bin .mul (.var 1) (.sub (.var 5) (.int 1))))) (.cons .bad
  .nil) .nil)
  .nil))))
def d5 : Dd := { N := ["width", "height", "margins", "margin", "across", "along"], ps := ["width", "height", "margins"], ways := [0, 0, 0], st := topS 12, b := b5 }
def fs5 : List (Str × Fn) := [("_law_deck", F0), ("check_size", F1), ("fraction", F2), ("canon", F3), ("plus", F4)]
def F5 : Fn := d5.fn fs5 cs 1000
theorem is5 {x0 x1 x2 : D} {ms : List D} {v : SV} (h : WB (gmOf fs5 cs 1000) b5 [some (.fz x0), some (.fz x1), some (.fz x2), none, none, none] (fun E => mutsOf E 0 [0, 0, 0] = some ms ∧ SV.fz .non = v) (fun u E => mutsOf E 0 [0, 0, 0] = some ms ∧ u = v) (fun _ => False) (fun _ => False)) : F5.f [x0, x1, x2] = some (v, ms) := run_is (G := gmOf fs5 cs 1000) (ways := [0, 0, 0]) (m := 6) (x := b5) (ds := [x0, x1, x2]) rfl h
theorem mk5 {x0 x1 x2 : D} {P : SV → List D → Prop} (h : WB (gmOf fs5 cs 1000) b5 [some (.fz x0), some (.fz x1), some (.fz x2), none, none, none] (fun E => ∃ ms, mutsOf E 0 [0, 0, 0] = some ms ∧ P (.fz .non) ms) (fun v E => ∃ ms, mutsOf E 0 [0, 0, 0] = some ms ∧ P v ms) (fun _ => False) (fun _ => False)) : ∃ v ms, F5.f [x0, x1, x2] = some (v, ms) ∧ P v ms := run_mk (G := gmOf fs5 cs 1000) (ways := [0, 0, 0]) (m := 6) (x := b5) (ds := [x0, x1, x2]) rfl h
theorem sc5 : FnScope d5.N d5.ps (defScope d5.st) := ⟨rfl, rfl, rfl, by decide +kernel, rfl, by decide +kernel, by decide +kernel⟩
theorem bi5 : BindOk d5.st "check_margins" d5.ps := fun _ _ _ _ _ _ us hl => match us, hl with | [_, _, _], _ => rfl
theorem ck5 : ckB 400 (d5.ct 5 fs5 cs bl) (defBody d5.st) d5.b = true := by decide +kernel
/-! ### text_block -/
def b6 : Sms := (.cons (.expr (.call 1 (.cons (.fzv 0) (.cons (.fzv 1) .nil))))
  (.cons (.expr (.call 5 (.cons (.fzv 0) (.cons (.fzv 1) (.cons (.fzv 2) .nil)))))
  (.cons (.set 3 (.call 4 (.cons (.sub (.var 2) (.int 0)) (.cons (.sub (.var 2) (.int 2)) .nil))))
  (.cons (.set 4 (.call 4 (.cons (.sub (.var 2) (.int 1)) (.cons (.sub (.var 2) (.int 3)) .nil))))
  (.cons (.ret (.tup (.cons (.call 4 (.cons (.tup (.cons (.fzv 0) (.cons (.int 1) .nil))) (.cons (.tup (.cons (.neg (.sub (.var 3) (.int 0))) (.cons (.sub (.var 3) (.int 1)) .nil))) .nil))) (.cons (.call 4 (.cons (.tup (.cons (.fzv 1) (.cons (.int 1) .nil))) (.cons (.tup (.cons (.neg (.sub (.var 4) (.int 0))) (.cons (.sub (.var 4) (.int 1)) .nil))) .nil))) .nil))))
  .nil)))))
def d6 : Dd := { N := ["width", "height", "margins", "across", "along"], ps := ["width", "height", "margins"], ways := [0, 0, 0], st := topS 13, b := b6 }
def fs6 : List (Str × Fn) := [("_law_deck", F0), ("check_size", F1), ("fraction", F2), ("canon", F3), ("plus", F4), ("check_margins", F5)]
def F6 : Fn := d6.fn fs6 cs 1000
theorem is6 {x0 x1 x2 : D} {ms : List D} {v : SV} (h : WB (gmOf fs6 cs 1000) b6 [some (.fz x0), some (.fz x1), some (.fz x2), none, none] (fun E => mutsOf E 0 [0, 0, 0] = some ms ∧ SV.fz .non = v) (fun u E => mutsOf E 0 [0, 0, 0] = some ms ∧ u = v) (fun _ => False) (fun _ => False)) : F6.f [x0, x1, x2] = some (v, ms) := run_is (G := gmOf fs6 cs 1000) (ways := [0, 0, 0]) (m := 5) (x := b6) (ds := [x0, x1, x2]) rfl h
theorem mk6 {x0 x1 x2 : D} {P : SV → List D → Prop} (h : WB (gmOf fs6 cs 1000) b6 [some (.fz x0), some (.fz x1), some (.fz x2), none, none] (fun E => ∃ ms, mutsOf E 0 [0, 0, 0] = some ms ∧ P (.fz .non) ms) (fun v E => ∃ ms, mutsOf E 0 [0, 0, 0] = some ms ∧ P v ms) (fun _ => False) (fun _ => False)) : ∃ v ms, F6.f [x0, x1, x2] = some (v, ms) ∧ P v ms := run_mk (G := gmOf fs6 cs 1000) (ways := [0, 0, 0]) (m := 5) (x := b6) (ds := [x0, x1, x2]) rfl h
theorem sc6 : FnScope d6.N d6.ps (defScope d6.st) := ⟨rfl, rfl, rfl, by decide +kernel, rfl, by decide +kernel, by decide +kernel⟩
theorem bi6 : BindOk d6.st "text_block" d6.ps := fun _ _ _ _ _ _ us hl => match us, hl with | [_, _, _], _ => rfl
theorem ck6 : ckB 400 (d6.ct 6 fs6 cs bl) (defBody d6.st) d6.b = true := by decide +kernel
/-! ### _law_gcd -/
def b7 : Sms := (.cons (.for_ (.nm 2) (.rng1 (.int 400)) (.cons (.ite (.cmp .eq (.var 1) (.int 0)) (.cons .brk
  .nil) .nil)
  (.cons (.par [0, 1] (.cons (.fzv 1) (.cons (.bin .mod (.var 0) (.var 1)) .nil)))
  .nil)) [2])
  (.cons (.ret (.mvv 0))
  .nil))
def d7 : Dd := { N := ["a", "b", "turn"], ps := ["a", "b"], ways := [0, 0], st := topS 20, b := b7 }
def fs7 : List (Str × Fn) := [("_law_deck", F0), ("check_size", F1), ("fraction", F2), ("canon", F3), ("plus", F4), ("check_margins", F5), ("text_block", F6)]
def F7 : Fn := d7.fn fs7 cs 1000
theorem is7 {x0 x1 : D} {ms : List D} {v : SV} (h : WB (gmOf fs7 cs 1000) b7 [some (.fz x0), some (.fz x1), none] (fun E => mutsOf E 0 [0, 0] = some ms ∧ SV.fz .non = v) (fun u E => mutsOf E 0 [0, 0] = some ms ∧ u = v) (fun _ => False) (fun _ => False)) : F7.f [x0, x1] = some (v, ms) := run_is (G := gmOf fs7 cs 1000) (ways := [0, 0]) (m := 3) (x := b7) (ds := [x0, x1]) rfl h
theorem mk7 {x0 x1 : D} {P : SV → List D → Prop} (h : WB (gmOf fs7 cs 1000) b7 [some (.fz x0), some (.fz x1), none] (fun E => ∃ ms, mutsOf E 0 [0, 0] = some ms ∧ P (.fz .non) ms) (fun v E => ∃ ms, mutsOf E 0 [0, 0] = some ms ∧ P v ms) (fun _ => False) (fun _ => False)) : ∃ v ms, F7.f [x0, x1] = some (v, ms) ∧ P v ms := run_mk (G := gmOf fs7 cs 1000) (ways := [0, 0]) (m := 3) (x := b7) (ds := [x0, x1]) rfl h
theorem sc7 : FnScope d7.N d7.ps (defScope d7.st) := ⟨rfl, rfl, rfl, by decide +kernel, rfl, by decide +kernel, by decide +kernel⟩
theorem bi7 : BindOk d7.st "_law_gcd" d7.ps := fun _ _ _ _ _ _ us hl => match us, hl with | [_, _], _ => rfl
theorem ck7 : ckB 400 (d7.ct 7 fs7 cs bl) (defBody d7.st) d7.b = true := by decide +kernel
/-! ### _law_frac -/
def b8 : Sms := (.cons (.set 2 (.call 7 (.cons (.bi .abs (.cons (.var 0) .nil)) (.cons (.fzv 1) .nil))))
  (.cons (.ret (.tup (.cons (.bin .fdiv (.var 0) (.var 2)) (.cons (.bin .fdiv (.var 1) (.var 2)) .nil))))
  .nil))
def d8 : Dd := { N := ["top", "bottom", "both"], ps := ["top", "bottom"], ways := [0, 0], st := topS 21, b := b8 }
def fs8 : List (Str × Fn) := [("_law_deck", F0), ("check_size", F1), ("fraction", F2), ("canon", F3), ("plus", F4), ("check_margins", F5), ("text_block", F6), ("_law_gcd", F7)]
def F8 : Fn := d8.fn fs8 cs 1000
theorem is8 {x0 x1 : D} {ms : List D} {v : SV} (h : WB (gmOf fs8 cs 1000) b8 [some (.fz x0), some (.fz x1), none] (fun E => mutsOf E 0 [0, 0] = some ms ∧ SV.fz .non = v) (fun u E => mutsOf E 0 [0, 0] = some ms ∧ u = v) (fun _ => False) (fun _ => False)) : F8.f [x0, x1] = some (v, ms) := run_is (G := gmOf fs8 cs 1000) (ways := [0, 0]) (m := 3) (x := b8) (ds := [x0, x1]) rfl h
theorem mk8 {x0 x1 : D} {P : SV → List D → Prop} (h : WB (gmOf fs8 cs 1000) b8 [some (.fz x0), some (.fz x1), none] (fun E => ∃ ms, mutsOf E 0 [0, 0] = some ms ∧ P (.fz .non) ms) (fun v E => ∃ ms, mutsOf E 0 [0, 0] = some ms ∧ P v ms) (fun _ => False) (fun _ => False)) : ∃ v ms, F8.f [x0, x1] = some (v, ms) ∧ P v ms := run_mk (G := gmOf fs8 cs 1000) (ways := [0, 0]) (m := 3) (x := b8) (ds := [x0, x1]) rfl h
theorem sc8 : FnScope d8.N d8.ps (defScope d8.st) := ⟨rfl, rfl, rfl, by decide +kernel, rfl, by decide +kernel, by decide +kernel⟩
theorem bi8 : BindOk d8.st "_law_frac" d8.ps := fun _ _ _ _ _ _ us hl => match us, hl with | [_, _], _ => rfl
theorem ck8 : ckB 400 (d8.ct 8 fs8 cs bl) (defBody d8.st) d8.b = true := by decide +kernel
/-! ### _law_plus -/
def b9 : Sms := (.cons (.ret (.call 8 (.cons (.bin .add (.bin .mul (.sub (.var 0) (.int 0)) (.sub (.var 1) (.int 1))) (.bin .mul (.sub (.var 1) (.int 0)) (.sub (.var 0) (.int 1)))) (.cons (.bin .mul (.sub (.var 0) (.int 1)) (.sub (.var 1) (.int 1))) .nil))))
  .nil)
def d9 : Dd := { N := ["one", "two"], ps := ["one", "two"], ways := [0, 0], st := topS 22, b := b9 }
def fs9 : List (Str × Fn) := [("_law_deck", F0), ("check_size", F1), ("fraction", F2), ("canon", F3), ("plus", F4), ("check_margins", F5), ("text_block", F6), ("_law_gcd", F7), ("_law_frac", F8)]
def F9 : Fn := d9.fn fs9 cs 1000
theorem is9 {x0 x1 : D} {ms : List D} {v : SV} (h : WB (gmOf fs9 cs 1000) b9 [some (.fz x0), some (.fz x1)] (fun E => mutsOf E 0 [0, 0] = some ms ∧ SV.fz .non = v) (fun u E => mutsOf E 0 [0, 0] = some ms ∧ u = v) (fun _ => False) (fun _ => False)) : F9.f [x0, x1] = some (v, ms) := run_is (G := gmOf fs9 cs 1000) (ways := [0, 0]) (m := 2) (x := b9) (ds := [x0, x1]) rfl h
theorem mk9 {x0 x1 : D} {P : SV → List D → Prop} (h : WB (gmOf fs9 cs 1000) b9 [some (.fz x0), some (.fz x1)] (fun E => ∃ ms, mutsOf E 0 [0, 0] = some ms ∧ P (.fz .non) ms) (fun v E => ∃ ms, mutsOf E 0 [0, 0] = some ms ∧ P v ms) (fun _ => False) (fun _ => False)) : ∃ v ms, F9.f [x0, x1] = some (v, ms) ∧ P v ms := run_mk (G := gmOf fs9 cs 1000) (ways := [0, 0]) (m := 2) (x := b9) (ds := [x0, x1]) rfl h
theorem sc9 : FnScope d9.N d9.ps (defScope d9.st) := ⟨rfl, rfl, rfl, by decide +kernel, rfl, by decide +kernel, by decide +kernel⟩
theorem bi9 : BindOk d9.st "_law_plus" d9.ps := fun _ _ _ _ _ _ us hl => match us, hl with | [_, _], _ => rfl
theorem ck9 : ckB 400 (d9.ct 9 fs9 cs bl) (defBody d9.st) d9.b = true := by decide +kernel
/-! ### area_share -/
def b10 : Sms := (.cons (.unp [3, 4] (.call 6 (.cons (.fzv 0) (.cons (.fzv 1) (.cons (.fzv 2) .nil)))))
  (.cons (.ret (.call 2 (.cons (.bin .mul (.sub (.var 3) (.int 0)) (.sub (.var 4) (.int 0))) (.cons (.bin .mul (.bin .mul (.bin .mul (.sub (.var 3) (.int 1)) (.sub (.var 4) (.int 1))) (.var 0)) (.var 1)) .nil))))
  .nil))
def d10 : Dd := { N := ["width", "height", "margins", "one", "two"], ps := ["width", "height", "margins"], ways := [0, 0, 0], st := topS 14, b := b10 }
def fs10 : List (Str × Fn) := [("_law_deck", F0), ("check_size", F1), ("fraction", F2), ("canon", F3), ("plus", F4), ("check_margins", F5), ("text_block", F6), ("_law_gcd", F7), ("_law_frac", F8), ("_law_plus", F9)]
def F10 : Fn := d10.fn fs10 cs 1000
theorem is10 {x0 x1 x2 : D} {ms : List D} {v : SV} (h : WB (gmOf fs10 cs 1000) b10 [some (.fz x0), some (.fz x1), some (.fz x2), none, none] (fun E => mutsOf E 0 [0, 0, 0] = some ms ∧ SV.fz .non = v) (fun u E => mutsOf E 0 [0, 0, 0] = some ms ∧ u = v) (fun _ => False) (fun _ => False)) : F10.f [x0, x1, x2] = some (v, ms) := run_is (G := gmOf fs10 cs 1000) (ways := [0, 0, 0]) (m := 5) (x := b10) (ds := [x0, x1, x2]) rfl h
theorem mk10 {x0 x1 x2 : D} {P : SV → List D → Prop} (h : WB (gmOf fs10 cs 1000) b10 [some (.fz x0), some (.fz x1), some (.fz x2), none, none] (fun E => ∃ ms, mutsOf E 0 [0, 0, 0] = some ms ∧ P (.fz .non) ms) (fun v E => ∃ ms, mutsOf E 0 [0, 0, 0] = some ms ∧ P v ms) (fun _ => False) (fun _ => False)) : ∃ v ms, F10.f [x0, x1, x2] = some (v, ms) ∧ P v ms := run_mk (G := gmOf fs10 cs 1000) (ways := [0, 0, 0]) (m := 5) (x := b10) (ds := [x0, x1, x2]) rfl h
theorem sc10 : FnScope d10.N d10.ps (defScope d10.st) := ⟨rfl, rfl, rfl, by decide +kernel, rfl, by decide +kernel, by decide +kernel⟩
theorem bi10 : BindOk d10.st "area_share" d10.ps := fun _ _ _ _ _ _ us hl => match us, hl with | [_, _, _], _ => rfl
theorem ck10 : ckB 400 (d10.ct 10 fs10 cs bl) (defBody d10.st) d10.b = true := by decide +kernel
/-! ### by_ratios -/
def b11 : Sms := (.cons (.expr (.call 1 (.cons (.fzv 0) (.cons (.fzv 1) .nil))))
  (.cons (.ite (.or (.cmp .ne (.bi .len (.cons (.var 2) .nil)) (.int 4)) (.bi .any (.cons (.lc 0 [4] (.nm 4) (.seq (.fzv 2)) .no (.cmp .lt (.var 4) (.int 1))) .nil))) (.cons .bad
  .nil) .nil)
  (.cons (.ite (.not (.chain .lt .lt (.int 0) (.var 3) (.var 0))) (.cons .bad
  .nil) .nil)
  (.cons (.set 5 (.bin .add (.sub (.var 2) (.int 0)) (.sub (.var 2) (.int 2))))
  (.cons (.set 6 (.bi .tuple (.cons (.lc 0 [4] (.nm 4) (.seq (.fzv 2)) .no (.call 2 (.cons (.bin .mul (.var 4) (.bin .sub (.var 0) (.var 3))) (.cons (.fzv 5) .nil)))) .nil)))
  (.cons (.expr (.call 5 (.cons (.fzv 0) (.cons (.fzv 1) (.cons (.fzv 6) .nil)))))
  (.cons (.ret (.mvv 6))
  .nil)))))))
def d11 : Dd := { N := ["width", "height", "ratios", "text", "ratio", "below", "margins"], ps := ["width", "height", "ratios", "text"], ways := [0, 0, 0, 0], st := topS 10, b := b11 }
def fs11 : List (Str × Fn) := [("_law_deck", F0), ("check_size", F1), ("fraction", F2), ("canon", F3), ("plus", F4), ("check_margins", F5), ("text_block", F6), ("_law_gcd", F7), ("_law_frac", F8), ("_law_plus", F9), ("area_share", F10)]
def F11 : Fn := d11.fn fs11 cs 1000
theorem is11 {x0 x1 x2 x3 : D} {ms : List D} {v : SV} (h : WB (gmOf fs11 cs 1000) b11 [some (.fz x0), some (.fz x1), some (.fz x2), some (.fz x3), none, none, none] (fun E => mutsOf E 0 [0, 0, 0, 0] = some ms ∧ SV.fz .non = v) (fun u E => mutsOf E 0 [0, 0, 0, 0] = some ms ∧ u = v) (fun _ => False) (fun _ => False)) : F11.f [x0, x1, x2, x3] = some (v, ms) := run_is (G := gmOf fs11 cs 1000) (ways := [0, 0, 0, 0]) (m := 7) (x := b11) (ds := [x0, x1, x2, x3]) rfl h
theorem mk11 {x0 x1 x2 x3 : D} {P : SV → List D → Prop} (h : WB (gmOf fs11 cs 1000) b11 [some (.fz x0), some (.fz x1), some (.fz x2), some (.fz x3), none, none, none] (fun E => ∃ ms, mutsOf E 0 [0, 0, 0, 0] = some ms ∧ P (.fz .non) ms) (fun v E => ∃ ms, mutsOf E 0 [0, 0, 0, 0] = some ms ∧ P v ms) (fun _ => False) (fun _ => False)) : ∃ v ms, F11.f [x0, x1, x2, x3] = some (v, ms) ∧ P v ms := run_mk (G := gmOf fs11 cs 1000) (ways := [0, 0, 0, 0]) (m := 7) (x := b11) (ds := [x0, x1, x2, x3]) rfl h
theorem sc11 : FnScope d11.N d11.ps (defScope d11.st) := ⟨rfl, rfl, rfl, by decide +kernel, rfl, by decide +kernel, by decide +kernel⟩
theorem bi11 : BindOk d11.st "by_ratios" d11.ps := fun _ _ _ _ _ _ us hl => match us, hl with | [_, _, _, _], _ => rfl
theorem ck11 : ckB 400 (d11.ct 11 fs11 cs bl) (defBody d11.st) d11.b = true := by decide +kernel
/-! ### facing -/
def b12 : Sms := (.cons (.ite (.cmp .ne (.bi .len (.cons (.var 1) .nil)) (.int 4)) (.cons .bad
  .nil) .nil)
  (.cons (.ret (.tup (.cons (.sub (.var 1) (.int 2)) (.cons (.sub (.var 1) (.int 0)) .nil))))
  .nil))
def d12 : Dd := { N := ["width", "margins"], ps := ["width", "margins"], ways := [0, 0], st := topS 16, b := b12 }
def fs12 : List (Str × Fn) := [("_law_deck", F0), ("check_size", F1), ("fraction", F2), ("canon", F3), ("plus", F4), ("check_margins", F5), ("text_block", F6), ("_law_gcd", F7), ("_law_frac", F8), ("_law_plus", F9), ("area_share", F10), ("by_ratios", F11)]
def F12 : Fn := d12.fn fs12 cs 1000
theorem is12 {x0 x1 : D} {ms : List D} {v : SV} (h : WB (gmOf fs12 cs 1000) b12 [some (.fz x0), some (.fz x1)] (fun E => mutsOf E 0 [0, 0] = some ms ∧ SV.fz .non = v) (fun u E => mutsOf E 0 [0, 0] = some ms ∧ u = v) (fun _ => False) (fun _ => False)) : F12.f [x0, x1] = some (v, ms) := run_is (G := gmOf fs12 cs 1000) (ways := [0, 0]) (m := 2) (x := b12) (ds := [x0, x1]) rfl h
theorem mk12 {x0 x1 : D} {P : SV → List D → Prop} (h : WB (gmOf fs12 cs 1000) b12 [some (.fz x0), some (.fz x1)] (fun E => ∃ ms, mutsOf E 0 [0, 0] = some ms ∧ P (.fz .non) ms) (fun v E => ∃ ms, mutsOf E 0 [0, 0] = some ms ∧ P v ms) (fun _ => False) (fun _ => False)) : ∃ v ms, F12.f [x0, x1] = some (v, ms) ∧ P v ms := run_mk (G := gmOf fs12 cs 1000) (ways := [0, 0]) (m := 2) (x := b12) (ds := [x0, x1]) rfl h
theorem sc12 : FnScope d12.N d12.ps (defScope d12.st) := ⟨rfl, rfl, rfl, by decide +kernel, rfl, by decide +kernel, by decide +kernel⟩
theorem bi12 : BindOk d12.st "facing" d12.ps := fun _ _ _ _ _ _ us hl => match us, hl with | [_, _], _ => rfl
theorem ck12 : ckB 400 (d12.ct 12 fs12 cs bl) (defBody d12.st) d12.b = true := by decide +kernel
/-! ### _law_take -/
def b13 : Sms := (.cons (.ite (.cmp .eq (.bi .len (.cons (.var 0) .nil)) (.int 0)) (.cons (.ret (.int 0))
  .nil) .nil)
  (.cons (.ret (.bin .mod (.bi .int (.cons (.pop 0) .nil)) (.var 1)))
  .nil))
def d13 : Dd := { N := ["deck", "many"], ps := ["deck", "many"], ways := [1, 0], st := topS 19, b := b13 }
def fs13 : List (Str × Fn) := [("_law_deck", F0), ("check_size", F1), ("fraction", F2), ("canon", F3), ("plus", F4), ("check_margins", F5), ("text_block", F6), ("_law_gcd", F7), ("_law_frac", F8), ("_law_plus", F9), ("area_share", F10), ("by_ratios", F11), ("facing", F12)]
def F13 : Fn := d13.fn fs13 cs 1000
theorem is13 {x0 x1 : D} {ms : List D} {v : SV} (h : WB (gmOf fs13 cs 1000) b13 [some (.ow 1 x0), some (.fz x1)] (fun E => mutsOf E 0 [1, 0] = some ms ∧ SV.fz .non = v) (fun u E => mutsOf E 0 [1, 0] = some ms ∧ u = v) (fun _ => False) (fun _ => False)) : F13.f [x0, x1] = some (v, ms) := run_is (G := gmOf fs13 cs 1000) (ways := [1, 0]) (m := 2) (x := b13) (ds := [x0, x1]) rfl h
theorem mk13 {x0 x1 : D} {P : SV → List D → Prop} (h : WB (gmOf fs13 cs 1000) b13 [some (.ow 1 x0), some (.fz x1)] (fun E => ∃ ms, mutsOf E 0 [1, 0] = some ms ∧ P (.fz .non) ms) (fun v E => ∃ ms, mutsOf E 0 [1, 0] = some ms ∧ P v ms) (fun _ => False) (fun _ => False)) : ∃ v ms, F13.f [x0, x1] = some (v, ms) ∧ P v ms := run_mk (G := gmOf fs13 cs 1000) (ways := [1, 0]) (m := 2) (x := b13) (ds := [x0, x1]) rfl h
theorem sc13 : FnScope d13.N d13.ps (defScope d13.st) := ⟨rfl, rfl, rfl, by decide +kernel, rfl, by decide +kernel, by decide +kernel⟩
theorem bi13 : BindOk d13.st "_law_take" d13.ps := fun _ _ _ _ _ _ us hl => match us, hl with | [_, _], _ => rfl
theorem ck13 : ckB 400 (d13.ct 13 fs13 cs bl) (defBody d13.st) d13.b = true := by decide +kernel
/-! ### _law_times -/
def b14 : Sms := (.cons (.ret (.call 8 (.cons (.bin .mul (.sub (.var 0) (.int 0)) (.sub (.var 1) (.int 0))) (.cons (.bin .mul (.sub (.var 0) (.int 1)) (.sub (.var 1) (.int 1))) .nil))))
  .nil)
def d14 : Dd := { N := ["one", "two"], ps := ["one", "two"], ways := [0, 0], st := topS 23, b := b14 }
def fs14 : List (Str × Fn) := [("_law_deck", F0), ("check_size", F1), ("fraction", F2), ("canon", F3), ("plus", F4), ("check_margins", F5), ("text_block", F6), ("_law_gcd", F7), ("_law_frac", F8), ("_law_plus", F9), ("area_share", F10), ("by_ratios", F11), ("facing", F12), ("_law_take", F13)]
def F14 : Fn := d14.fn fs14 cs 1000
theorem is14 {x0 x1 : D} {ms : List D} {v : SV} (h : WB (gmOf fs14 cs 1000) b14 [some (.fz x0), some (.fz x1)] (fun E => mutsOf E 0 [0, 0] = some ms ∧ SV.fz .non = v) (fun u E => mutsOf E 0 [0, 0] = some ms ∧ u = v) (fun _ => False) (fun _ => False)) : F14.f [x0, x1] = some (v, ms) := run_is (G := gmOf fs14 cs 1000) (ways := [0, 0]) (m := 2) (x := b14) (ds := [x0, x1]) rfl h
theorem mk14 {x0 x1 : D} {P : SV → List D → Prop} (h : WB (gmOf fs14 cs 1000) b14 [some (.fz x0), some (.fz x1)] (fun E => ∃ ms, mutsOf E 0 [0, 0] = some ms ∧ P (.fz .non) ms) (fun v E => ∃ ms, mutsOf E 0 [0, 0] = some ms ∧ P v ms) (fun _ => False) (fun _ => False)) : ∃ v ms, F14.f [x0, x1] = some (v, ms) ∧ P v ms := run_mk (G := gmOf fs14 cs 1000) (ways := [0, 0]) (m := 2) (x := b14) (ds := [x0, x1]) rfl h
theorem sc14 : FnScope d14.N d14.ps (defScope d14.st) := ⟨rfl, rfl, rfl, by decide +kernel, rfl, by decide +kernel, by decide +kernel⟩
theorem bi14 : BindOk d14.st "_law_times" d14.ps := fun _ _ _ _ _ _ us hl => match us, hl with | [_, _], _ => rfl
theorem ck14 : ckB 400 (d14.ct 14 fs14 cs bl) (defBody d14.st) d14.b = true := by decide +kernel
/-! ### _law_grown -/
def b15 : Sms := (.cons (.ret (.bi .tuple (.cons (.lc 0 [2] (.nm 2) (.seq (.fzv 0)) .no (.call 14 (.cons (.fzv 2) (.cons (.tup (.cons (.fzv 1) (.cons (.int 1) .nil))) .nil)))) .nil)))
  .nil)
def d15 : Dd := { N := ["margins", "by", "number"], ps := ["margins", "by"], ways := [0, 0], st := topS 24, b := b15 }
def fs15 : List (Str × Fn) := [("_law_deck", F0), ("check_size", F1), ("fraction", F2), ("canon", F3), ("plus", F4), ("check_margins", F5), ("text_block", F6), ("_law_gcd", F7), ("_law_frac", F8), ("_law_plus", F9), ("area_share", F10), ("by_ratios", F11), ("facing", F12), ("_law_take", F13), ("_law_times", F14)]
def F15 : Fn := d15.fn fs15 cs 1000
theorem is15 {x0 x1 : D} {ms : List D} {v : SV} (h : WB (gmOf fs15 cs 1000) b15 [some (.fz x0), some (.fz x1), none] (fun E => mutsOf E 0 [0, 0] = some ms ∧ SV.fz .non = v) (fun u E => mutsOf E 0 [0, 0] = some ms ∧ u = v) (fun _ => False) (fun _ => False)) : F15.f [x0, x1] = some (v, ms) := run_is (G := gmOf fs15 cs 1000) (ways := [0, 0]) (m := 3) (x := b15) (ds := [x0, x1]) rfl h
theorem mk15 {x0 x1 : D} {P : SV → List D → Prop} (h : WB (gmOf fs15 cs 1000) b15 [some (.fz x0), some (.fz x1), none] (fun E => ∃ ms, mutsOf E 0 [0, 0] = some ms ∧ P (.fz .non) ms) (fun v E => ∃ ms, mutsOf E 0 [0, 0] = some ms ∧ P v ms) (fun _ => False) (fun _ => False)) : ∃ v ms, F15.f [x0, x1] = some (v, ms) ∧ P v ms := run_mk (G := gmOf fs15 cs 1000) (ways := [0, 0]) (m := 3) (x := b15) (ds := [x0, x1]) rfl h
theorem sc15 : FnScope d15.N d15.ps (defScope d15.st) := ⟨rfl, rfl, rfl, by decide +kernel, rfl, by decide +kernel, by decide +kernel⟩
theorem bi15 : BindOk d15.st "_law_grown" d15.ps := fun _ _ _ _ _ _ us hl => match us, hl with | [_, _], _ => rfl
theorem ck15 : ckB 400 (d15.ct 15 fs15 cs bl) (defBody d15.st) d15.b = true := by decide +kernel
/-! ### has_page_ratio -/
def b16 : Sms := (.cons (.unp [3, 4] (.call 6 (.cons (.fzv 0) (.cons (.fzv 1) (.cons (.fzv 2) .nil)))))
  (.cons (.ret (.cmp .eq (.bin .mul (.bin .mul (.sub (.var 3) (.int 0)) (.sub (.var 4) (.int 1))) (.var 1)) (.bin .mul (.bin .mul (.sub (.var 4) (.int 0)) (.sub (.var 3) (.int 1))) (.var 0))))
  .nil))
def d16 : Dd := { N := ["width", "height", "margins", "one", "two"], ps := ["width", "height", "margins"], ways := [0, 0, 0], st := topS 15, b := b16 }
def fs16 : List (Str × Fn) := [("_law_deck", F0), ("check_size", F1), ("fraction", F2), ("canon", F3), ("plus", F4), ("check_margins", F5), ("text_block", F6), ("_law_gcd", F7), ("_law_frac", F8), ("_law_plus", F9), ("area_share", F10), ("by_ratios", F11), ("facing", F12), ("_law_take", F13), ("_law_times", F14), ("_law_grown", F15)]
def F16 : Fn := d16.fn fs16 cs 1000
theorem is16 {x0 x1 x2 : D} {ms : List D} {v : SV} (h : WB (gmOf fs16 cs 1000) b16 [some (.fz x0), some (.fz x1), some (.fz x2), none, none] (fun E => mutsOf E 0 [0, 0, 0] = some ms ∧ SV.fz .non = v) (fun u E => mutsOf E 0 [0, 0, 0] = some ms ∧ u = v) (fun _ => False) (fun _ => False)) : F16.f [x0, x1, x2] = some (v, ms) := run_is (G := gmOf fs16 cs 1000) (ways := [0, 0, 0]) (m := 5) (x := b16) (ds := [x0, x1, x2]) rfl h
theorem mk16 {x0 x1 x2 : D} {P : SV → List D → Prop} (h : WB (gmOf fs16 cs 1000) b16 [some (.fz x0), some (.fz x1), some (.fz x2), none, none] (fun E => ∃ ms, mutsOf E 0 [0, 0, 0] = some ms ∧ P (.fz .non) ms) (fun v E => ∃ ms, mutsOf E 0 [0, 0, 0] = some ms ∧ P v ms) (fun _ => False) (fun _ => False)) : ∃ v ms, F16.f [x0, x1, x2] = some (v, ms) ∧ P v ms := run_mk (G := gmOf fs16 cs 1000) (ways := [0, 0, 0]) (m := 5) (x := b16) (ds := [x0, x1, x2]) rfl h
theorem sc16 : FnScope d16.N d16.ps (defScope d16.st) := ⟨rfl, rfl, rfl, by decide +kernel, rfl, by decide +kernel, by decide +kernel⟩
theorem bi16 : BindOk d16.st "has_page_ratio" d16.ps := fun _ _ _ _ _ _ us hl => match us, hl with | [_, _, _], _ => rfl
theorem ck16 : ckB 400 (d16.ct 16 fs16 cs bl) (defBody d16.st) d16.b = true := by decide +kernel
/-! ### law -/
def b17 : Sms := (.cons (.set 1 (.call 0 (.cons (.fzv 0) (.cons (.int 20) (.cons (.int 8) .nil)))))
  (.cons (.par [2, 3, 4, 5] (.cons (.bin .add (.int 1) (.call 13 (.cons (.var 1) (.cons (.int 900) .nil)))) (.cons (.bin .add (.int 1) (.call 13 (.cons (.var 1) (.cons (.int 900) .nil)))) (.cons (.bin .add (.int 4) (.call 13 (.cons (.var 1) (.cons (.int 20) .nil)))) (.cons (.bin .add (.int 1) (.call 13 (.cons (.var 1) (.cons (.int 12) .nil)))) .nil)))))
  (.cons (.set 6 (.call 3 (.cons (.fzv 2) (.cons (.fzv 3) (.cons (.fzv 4) .nil)))))
  (.cons (.ite (.cmp .ne (.var 6) (.tup (.cons (.call 8 (.cons (.fzv 2) (.cons (.fzv 4) .nil))) (.cons (.call 8 (.cons (.fzv 3) (.cons (.fzv 4) .nil))) (.cons (.call 8 (.cons (.bin .mul (.int 2) (.var 2)) (.cons (.fzv 4) .nil))) (.cons (.call 8 (.cons (.bin .mul (.int 2) (.var 3)) (.cons (.fzv 4) .nil))) .nil)))))) (.cons (.ret (.bl false))
  .nil) .nil)
  (.cons (.ite (.or (.cmp .ne (.call 3 (.cons (.bin .mul (.var 5) (.var 2)) (.cons (.bin .mul (.var 5) (.var 3)) (.cons (.fzv 4) .nil)))) (.call 15 (.cons (.fzv 6) (.cons (.fzv 5) .nil)))) (.cmp .isnot (.call 16 (.cons (.fzv 2) (.cons (.fzv 3) (.cons (.fzv 6) .nil)))) (.bl true))) (.cons (.ret (.bl false))
  .nil) .nil)
  (.cons (.set 7 (.call 6 (.cons (.fzv 2) (.cons (.fzv 3) (.cons (.fzv 6) .nil)))))
  (.cons (.ite (.or (.cmp .ne (.var 7) (.tup (.cons (.call 8 (.cons (.bin .mul (.var 2) (.bin .sub (.var 4) (.int 3))) (.cons (.fzv 4) .nil))) (.cons (.call 8 (.cons (.bin .mul (.var 3) (.bin .sub (.var 4) (.int 3))) (.cons (.fzv 4) .nil))) .nil)))) (.cmp .ne (.call 10 (.cons (.fzv 2) (.cons (.fzv 3) (.cons (.fzv 6) .nil)))) (.call 8 (.cons (.bin .mul (.bin .sub (.var 4) (.int 3)) (.bin .sub (.var 4) (.int 3))) (.cons (.bin .mul (.var 4) (.var 4)) .nil))))) (.cons (.ret (.bl false))
  .nil) .nil)
  (.cons (.ite (.cmp .ne (.call 12 (.cons (.fzv 2) (.cons (.fzv 6) .nil))) (.tup (.cons (.sub (.var 6) (.int 2)) (.cons (.sub (.var 6) (.int 0)) .nil)))) (.cons (.ret (.bl false))
  .nil) .nil)
  (.cons (.set 8 (.list (.cons (.call 8 (.cons (.call 13 (.cons (.var 1) (.cons (.bin .mul (.int 50) (.var 2)) .nil))) (.cons (.int 100) .nil))) (.cons (.call 8 (.cons (.call 13 (.cons (.var 1) (.cons (.bin .mul (.int 50) (.var 3)) .nil))) (.cons (.int 100) .nil))) (.cons (.call 8 (.cons (.call 13 (.cons (.var 1) (.cons (.bin .mul (.int 50) (.var 2)) .nil))) (.cons (.int 100) .nil))) (.cons (.call 8 (.cons (.call 13 (.cons (.var 1) (.cons (.bin .mul (.int 50) (.var 3)) .nil))) (.cons (.int 100) .nil))) .nil))))))
  (.cons (.set 9 (.call 6 (.cons (.fzv 2) (.cons (.fzv 3) (.cons (.fzv 8) .nil)))))
  (.cons (.set 10 (.call 9 (.cons (.call 9 (.cons (.sub (.var 8) (.int 0)) (.cons (.sub (.var 8) (.int 2)) .nil))) (.cons (.sub (.var 9) (.int 0)) .nil))))
  (.cons (.set 11 (.call 9 (.cons (.call 9 (.cons (.sub (.var 8) (.int 1)) (.cons (.sub (.var 8) (.int 3)) .nil))) (.cons (.sub (.var 9) (.int 1)) .nil))))
  (.cons (.ite (.or (.cmp .ne (.var 10) (.tup (.cons (.fzv 2) (.cons (.int 1) .nil)))) (.or (.cmp .ne (.var 11) (.tup (.cons (.fzv 3) (.cons (.int 1) .nil)))) (.cmp .ne (.call 6 (.cons (.bin .mul (.var 5) (.var 2)) (.cons (.bin .mul (.var 5) (.var 3)) (.cons (.call 15 (.cons (.fzv 8) (.cons (.fzv 5) .nil))) .nil)))) (.call 15 (.cons (.fzv 9) (.cons (.fzv 5) .nil)))))) (.cons (.ret (.bl false))
  .nil) .nil)
  (.cons (.set 12 (.call 10 (.cons (.fzv 2) (.cons (.fzv 3) (.cons (.fzv 8) .nil)))))
  (.cons (.ite (.or (.cmp .ne (.var 12) (.call 14 (.cons (.call 14 (.cons (.sub (.var 9) (.int 0)) (.cons (.sub (.var 9) (.int 1)) .nil))) (.cons (.tup (.cons (.int 1) (.cons (.bin .mul (.var 2) (.var 3)) .nil))) .nil)))) (.cmp .ne (.call 10 (.cons (.bin .mul (.var 5) (.var 2)) (.cons (.bin .mul (.var 5) (.var 3)) (.cons (.call 15 (.cons (.fzv 8) (.cons (.fzv 5) .nil))) .nil)))) (.var 12))) (.cons (.ret (.bl false))
  .nil) .nil)
  (.cons (.set 13 (.list (.cons (.sub (.var 8) (.int 2)) (.cons (.sub (.var 8) (.int 3)) (.cons (.sub (.var 8) (.int 0)) (.cons (.sub (.var 8) (.int 1)) .nil))))))
  (.cons (.ite (.or (.cmp .ne (.call 6 (.cons (.fzv 2) (.cons (.fzv 3) (.cons (.fzv 13) .nil)))) (.var 9)) (.cmp .ne (.call 16 (.cons (.fzv 2) (.cons (.fzv 3) (.cons (.fzv 8) .nil)))) (.cmp .eq (.bin .mul (.bin .mul (.sub (.sub (.var 9) (.int 0)) (.int 0)) (.sub (.sub (.var 9) (.int 1)) (.int 1))) (.var 3)) (.bin .mul (.bin .mul (.sub (.sub (.var 9) (.int 1)) (.int 0)) (.sub (.sub (.var 9) (.int 0)) (.int 1))) (.var 2))))) (.cons (.ret (.bl false))
  .nil) .nil)
  (.cons (.ite (.or (.cmp .ne (.call 16 (.cons (.fzv 2) (.cons (.fzv 3) (.cons (.fzv 13) .nil)))) (.call 16 (.cons (.fzv 2) (.cons (.fzv 3) (.cons (.fzv 8) .nil))))) (.cmp .ne (.call 12 (.cons (.fzv 2) (.cons (.fzv 13) .nil))) (.tup (.cons (.sub (.var 8) (.int 0)) (.cons (.sub (.var 8) (.int 2)) .nil))))) (.cons (.ret (.bl false))
  .nil) .nil)
  (.cons (.set 14 (.list (.cons (.bin .add (.int 1) (.call 13 (.cons (.var 1) (.cons (.int 4) .nil)))) (.cons (.bin .add (.int 1) (.call 13 (.cons (.var 1) (.cons (.int 4) .nil)))) (.cons (.bin .add (.int 1) (.call 13 (.cons (.var 1) (.cons (.int 4) .nil)))) (.cons (.bin .add (.int 1) (.call 13 (.cons (.var 1) (.cons (.int 4) .nil)))) .nil))))))
  (.cons (.par [15, 16] (.cons (.bin .add (.int 20) (.var 2)) (.cons (.bin .mul (.int 40) (.bin .add (.int 20) (.var 2))) .nil)))
  (.cons (.set 17 (.bin .fdiv (.bin .add (.var 15) (.int 1)) (.int 2)))
  (.cons (.set 18 (.call 11 (.cons (.fzv 15) (.cons (.fzv 16) (.cons (.fzv 14) (.cons (.fzv 17) .nil))))))
  (.cons (.set 19 (.call 8 (.cons (.bin .sub (.var 15) (.var 17)) (.cons (.bin .add (.sub (.var 14) (.int 0)) (.sub (.var 14) (.int 2))) .nil))))
  (.cons (.ite (.or (.cmp .ne (.var 18) (.bi .tuple (.cons (.lc 0 [20] (.nm 20) (.seq (.fzv 14)) .no (.call 14 (.cons (.fzv 19) (.cons (.tup (.cons (.fzv 20) (.cons (.int 1) .nil))) .nil)))) .nil))) (.cmp .ne (.sub (.call 6 (.cons (.fzv 15) (.cons (.fzv 16) (.cons (.fzv 18) .nil)))) (.int 0)) (.tup (.cons (.fzv 17) (.cons (.int 1) .nil))))) (.cons (.ret (.bl false))
  .nil) .nil)
  (.cons (.ret (.and (.cmp .eq (.call 11 (.cons (.fzv 15) (.cons (.fzv 16) (.cons (.lc 0 [20] (.nm 20) (.seq (.fzv 14)) .no (.bin .mul (.var 5) (.var 20))) (.cons (.fzv 17) .nil))))) (.var 18)) (.cmp .eq (.call 11 (.cons (.bin .mul (.var 5) (.var 15)) (.cons (.bin .mul (.var 5) (.var 16)) (.cons (.fzv 14) (.cons (.bin .mul (.var 5) (.var 17)) .nil))))) (.call 15 (.cons (.fzv 18) (.cons (.fzv 5) .nil))))))
  .nil)))))))))))))))))))))))))
def d17 : Dd := { N := ["script", "deck", "width", "height", "parts", "by", "told", "block", "drawn", "left", "wide", "high", "share", "other", "ratios", "broad", "tall", "text", "made", "unit", "number"], ps := ["script"], ways := [0], st := topS 25, b := b17 }
def fs17 : List (Str × Fn) := [("_law_deck", F0), ("check_size", F1), ("fraction", F2), ("canon", F3), ("plus", F4), ("check_margins", F5), ("text_block", F6), ("_law_gcd", F7), ("_law_frac", F8), ("_law_plus", F9), ("area_share", F10), ("by_ratios", F11), ("facing", F12), ("_law_take", F13), ("_law_times", F14), ("_law_grown", F15), ("has_page_ratio", F16)]
def F17 : Fn := d17.fn fs17 cs 1000
theorem is17 {x0 : D} {ms : List D} {v : SV} (h : WB (gmOf fs17 cs 1000) b17 [some (.fz x0), none, none, none, none, none, none, none, none, none, none, none, none, none, none, none, none, none, none, none, none] (fun E => mutsOf E 0 [0] = some ms ∧ SV.fz .non = v) (fun u E => mutsOf E 0 [0] = some ms ∧ u = v) (fun _ => False) (fun _ => False)) : F17.f [x0] = some (v, ms) := run_is (G := gmOf fs17 cs 1000) (ways := [0]) (m := 21) (x := b17) (ds := [x0]) rfl h
theorem mk17 {x0 : D} {P : SV → List D → Prop} (h : WB (gmOf fs17 cs 1000) b17 [some (.fz x0), none, none, none, none, none, none, none, none, none, none, none, none, none, none, none, none, none, none, none, none] (fun E => ∃ ms, mutsOf E 0 [0] = some ms ∧ P (.fz .non) ms) (fun v E => ∃ ms, mutsOf E 0 [0] = some ms ∧ P v ms) (fun _ => False) (fun _ => False)) : ∃ v ms, F17.f [x0] = some (v, ms) ∧ P v ms := run_mk (G := gmOf fs17 cs 1000) (ways := [0]) (m := 21) (x := b17) (ds := [x0]) rfl h
theorem sc17 : FnScope d17.N d17.ps (defScope d17.st) := ⟨rfl, rfl, rfl, by decide +kernel, rfl, by decide +kernel, by decide +kernel⟩
theorem bi17 : BindOk d17.st "law" d17.ps := fun _ _ _ _ _ _ us hl => match us, hl with | [_], _ => rfl
theorem ck17 : ckB 400 (d17.ct 17 fs17 cs bl) (defBody d17.st) d17.b = true := by decide +kernel
def G : Gm := gmOf fs17 cs 1000
section
variable {P : Program} {w : World} {K : PySem.W.Frag} {mg : Str → Option Value}
theorem tab (A0 : DefAt K mg "_law_deck" (topS 18)) (A1 : DefAt K mg "check_size" (topS 5)) (A2 : DefAt K mg "fraction" (topS 7)) (A3 : DefAt K mg "canon" (topS 9)) (A4 : DefAt K mg "plus" (topS 11)) (A5 : DefAt K mg "check_margins" (topS 12)) (A6 : DefAt K mg "text_block" (topS 13)) (A7 : DefAt K mg "_law_gcd" (topS 20)) (A8 : DefAt K mg "_law_frac" (topS 21)) (A9 : DefAt K mg "_law_plus" (topS 22)) (A10 : DefAt K mg "area_share" (topS 14)) (A11 : DefAt K mg "by_ratios" (topS 10)) (A12 : DefAt K mg "facing" (topS 16)) (A13 : DefAt K mg "_law_take" (topS 19)) (A14 : DefAt K mg "_law_times" (topS 23)) (A15 : DefAt K mg "_law_grown" (topS 24)) (A16 : DefAt K mg "has_page_ratio" (topS 15)) (con : Cons K mg cs) (fr : Frees mg bl) (base : Heap) : Tab P w K mg base 17 fs17 := by
  have t0 : Tab P w K mg base 0 fs0 := Tab.nil
  have t1 : Tab P w K mg base 1 fs1 := t0.snoc (def_at 1000 A0 sc0 bi0 rfl (by decide) ck0 t0 con fr)
  have t2 : Tab P w K mg base 2 fs2 := t1.snoc (def_at 1000 A1 sc1 bi1 rfl (by decide) ck1 t1 con fr)
  have t3 : Tab P w K mg base 3 fs3 := t2.snoc (def_at 1000 A2 sc2 bi2 rfl (by decide) ck2 t2 con fr)
  have t4 : Tab P w K mg base 4 fs4 := t3.snoc (def_at 1000 A3 sc3 bi3 rfl (by decide) ck3 t3 con fr)
  have t5 : Tab P w K mg base 5 fs5 := t4.snoc (def_at 1000 A4 sc4 bi4 rfl (by decide) ck4 t4 con fr)
  have t6 : Tab P w K mg base 6 fs6 := t5.snoc (def_at 1000 A5 sc5 bi5 rfl (by decide) ck5 t5 con fr)
  have t7 : Tab P w K mg base 7 fs7 := t6.snoc (def_at 1000 A6 sc6 bi6 rfl (by decide) ck6 t6 con fr)
  have t8 : Tab P w K mg base 8 fs8 := t7.snoc (def_at 1000 A7 sc7 bi7 rfl (by decide) ck7 t7 con fr)
  have t9 : Tab P w K mg base 9 fs9 := t8.snoc (def_at 1000 A8 sc8 bi8 rfl (by decide) ck8 t8 con fr)
  have t10 : Tab P w K mg base 10 fs10 := t9.snoc (def_at 1000 A9 sc9 bi9 rfl (by decide) ck9 t9 con fr)
  have t11 : Tab P w K mg base 11 fs11 := t10.snoc (def_at 1000 A10 sc10 bi10 rfl (by decide) ck10 t10 con fr)
  have t12 : Tab P w K mg base 12 fs12 := t11.snoc (def_at 1000 A11 sc11 bi11 rfl (by decide) ck11 t11 con fr)
  have t13 : Tab P w K mg base 13 fs13 := t12.snoc (def_at 1000 A12 sc12 bi12 rfl (by decide) ck12 t12 con fr)
  have t14 : Tab P w K mg base 14 fs14 := t13.snoc (def_at 1000 A13 sc13 bi13 rfl (by decide) ck13 t13 con fr)
  have t15 : Tab P w K mg base 15 fs15 := t14.snoc (def_at 1000 A14 sc14 bi14 rfl (by decide) ck14 t14 con fr)
  have t16 : Tab P w K mg base 16 fs16 := t15.snoc (def_at 1000 A15 sc15 bi15 rfl (by decide) ck15 t15 con fr)
  have t17 : Tab P w K mg base 17 fs17 := t16.snoc (def_at 1000 A16 sc16 bi16 rfl (by decide) ck16 t16 con fr)
  exact t17
end
end CK04

namespace CK04
open PySem L2 VI
local macro_rules | `(tactic| walk_at "side") => `(tactic| first | assumption | omega | decide | rfl)
local macro_rules | `(tactic| walk_at "mulok") => `(tactic| first | assumption | decide | (refine mulR ?_; omega) | (refine mulS ?_; omega))
local macro_rules | `(tactic| walk_at "divok") => `(tactic| first | assumption | decide | (refine divS ?_; omega))
local macro_rules | `(tactic| walk_at "wcall") => `(tactic| fail)
local macro_rules | `(tactic| walk_at "wmore") => `(tactic| fail)
local macro_rules | `(tactic| walk_at "wif") => `(tactic| first
  | with_reducible exact fun h => (nomatch h)
  | with_reducible refine' IfP.t ?_
  | with_reducible refine' IfP.f ?_
  | with_reducible refine' IfP.nt ?_
  | with_reducible refine' IfP.nr ?_
  | ((with_reducible refine' IfP.no ?h ?_); (case h => walk_at "side"))
  | ((with_reducible refine' IfP.yes ?h ?_); (case h => walk_at "side")))
local macro_rules | `(tactic| walk_at "we") => `(tactic| first
  | ((with_reducible refine' WE.var ?h ?_); (case h => exact rfl))
  | ((with_reducible refine' WE.varO ?h ?_); (case h => exact rfl))
  | ((with_reducible refine' WE.fzv ?h ?_); (case h => exact rfl))
  | ((with_reducible refine' WE.fzvO ?h ?_); (case h => exact rfl))
  | ((with_reducible refine' WE.mvv ?h ?_); (case h => exact rfl))
  | ((with_reducible refine' WE.mvvO ?h ?_); (case h => exact rfl))
  | with_reducible refine' WE.int ?_
  | with_reducible refine' WE.bin ?_
  | with_reducible refine' WE.call ?_
  | with_reducible refine' WE.cmp ?_
  | with_reducible refine' WE.sub ?_
  | with_reducible refine' WE.bi ?_
  | with_reducible refine' WE.or ?_
  | with_reducible refine' WE.and ?_
  | with_reducible refine' WE.not ?_
  | with_reducible refine' WE.neg ?_
  | with_reducible refine' WE.tup ?_
  | with_reducible refine' WE.list ?_
  | with_reducible refine' WE.bl ?_
  | with_reducible refine' WE.str ?_
  | with_reducible refine' WE.non ?_
  | with_reducible refine' WE.ite ?_
  | with_reducible refine' WE.chain ?_
  | ((with_reducible refine' WE.con ?h ?_); (case h => exact rfl))
  | with_reducible refine' WE.slice ?_
  | with_reducible refine' WE.lc ?_
  | with_reducible refine' WE.lrange1 ?_
  | with_reducible refine' WE.lrange2 ?_
  | with_reducible refine' WE.rev ?_
  | with_reducible refine' WE.me ?_
  | walk_at "wmore")
local macro_rules | `(tactic| walk_at "ws") => `(tactic| first
  | with_reducible refine' WS.set ?_
  | with_reducible refine' WS.ite ?_
  | with_reducible refine' WS.ret ?_
  | with_reducible refine' WS.par ?_
  | with_reducible refine' WS.unp ?_
  | with_reducible refine' WS.expr ?_
  | with_reducible refine' WS.for_ ?_
  | ((with_reducible refine' WS.aug ?h ?_); (case h => exact rfl))
  | ((with_reducible refine' WS.append ?h ?_); (case h => exact rfl))
  | ((with_reducible refine' WS.extend ?h ?_); (case h => exact rfl))
  | ((with_reducible refine' WS.reverse ?h ?_); (case h => exact rfl))
  | with_reducible refine' WS.setix ?_
  | with_reducible refine' WS.skip ?_
  | with_reducible refine' WS.retN ?_
  | with_reducible refine' WS.brk ?_
  | with_reducible refine' WS.cont ?_
  | walk_at "wmore")
local macro_rules | `(tactic| walk_at "wp") => `(tactic| first
  | ((with_reducible refine' StP.mk ?h ?_); (case h => exact rfl))
  | with_reducible refine' BinP.add ?_
  | with_reducible refine' BinP.sub ?_
  | ((with_reducible refine' BinP.mul ?h ?_); (case h => walk_at "mulok"))
  | ((with_reducible refine' BinP.mod ?h ?_); (case h => walk_at "side"))
  | ((with_reducible refine' BinP.fdiv ?h ?_); (case h => walk_at "divok"))
  | with_reducible refine' CmpP.lt ?_
  | with_reducible refine' CmpP.le ?_
  | with_reducible refine' CmpP.gt ?_
  | with_reducible refine' CmpP.ge ?_
  | with_reducible refine' CmpP.eqI ?_
  | with_reducible refine' CmpP.neI ?_
  | ((with_reducible show TruP _ _); first | refine' TruP.bl ?_ | refine' TruP.int ?_ | walk_at "wmore")
  | ((with_reducible show BlP _ _); refine' BlP.mk ?_)
  | ((with_reducible show IntP _ _); refine' IntP.mk ?_)
  | with_reducible refine' SlP.fz ?_
  | with_reducible refine' SlP.ow ?_
  | ((with_reducible refine' KsP.mk ?h ?l ?_); (case h => exact rfl); (case l => exact rfl))
  | with_reducible refine' BiP.int ?_
  | with_reducible refine' BiP.intB ?_
  | with_reducible refine' BiP.abs ?_
  | with_reducible refine' BiP.min2 ?_
  | with_reducible refine' BiP.max2 ?_
  | with_reducible refine' BiP.gcd ?_
  | ((with_reducible refine' BiP.len ?h ?_); (case h => exact rfl))
  | ((with_reducible refine' BiP.lenK ?h ?_); (case h => exact rfl))
  | ((with_reducible refine' BiP.lenT ?h ?_); (case h => exact rfl))
  | ((with_reducible show GetP _ _ _); first | ((refine' GetP.tup ?h ?_); (case h => exact rfl)) | ((refine' GetP.list ?h ?_); (case h => exact rfl)) | ((refine' GetP.pk1 ?h ?_); (case h => exact rfl)) | ((refine' GetP.pk2 ?h ?_); (case h => exact rfl)) | walk_at "wmore")
  | ((with_reducible refine' UnP.mk ?l ?h ?_); (case l => exact rfl); (case h => exact rfl))
  | ((with_reducible refine' ParP.mk ?h ?_); (case h => exact rfl))
  | ((with_reducible refine' ItP.mk ?l ?h ?_); (case l => exact rfl); (case h => exact rfl))
  | ((with_reducible refine' LsP.mk ?l ?h ?_); (case l => exact rfl); (case h => exact rfl))
  | with_reducible refine' CmpP.eqP ?_
  | with_reducible refine' CmpP.isB ?_
  | with_reducible refine' CmpP.isnotB ?_
  | with_reducible refine' CmpP.isN ?_
  | with_reducible refine' CmpP.isnotN ?_
  | ((with_reducible refine' BiP.tuple ?h ?l ?_); (case h => exact rfl); (case l => exact rfl))
  | ((with_reducible refine' BiP.listL ?h ?l ?_); (case h => exact rfl); (case l => exact rfl))
  | with_reducible refine' CmpP.neP ?_
  | ((with_reducible refine' BinP.pow ?h ?_); (case h => decide))
  | walk_at "wmore")
local macro_rules | `(tactic| walk_at "w1") => `(tactic| first
  | ((with_reducible show WE _ _ _ _); walk_at "we")
  | ((with_reducible show WEs _ _ _ _); first | with_reducible refine' WEs.cons ?_ | with_reducible refine' WEs.nil ?_)
  | ((with_reducible show WB _ _ _ _ _ _ _); first | with_reducible refine' WB.cons ?_ | with_reducible refine' WB.nil ?_ | with_reducible refine' WB.kill ?_)
  | ((with_reducible show WS _ _ _ _ _ _ _); walk_at "ws")
  | ((with_reducible show IfP _ _ _); walk_at "wif")
  | ((with_reducible show CallP _ _ _ _ _ _); walk_at "wcall")
  | ((with_reducible show WI _ _ _ _); first | with_reducible refine' WI.seq ?_ | with_reducible refine' WI.rng1 ?_ | with_reducible refine' WI.rng2 ?_ | with_reducible refine' WI.enum ?_ | with_reducible refine' WI.zip ?_ | with_reducible refine' WI.rev ?_)
  | ((with_reducible show WO _ _ _ _); first | with_reducible refine' WO.no ?_ | with_reducible refine' WO.so ?_)
  | ((with_reducible show WT _ _ _ _); first | with_reducible refine' WT.no ?_ | with_reducible refine' WT.so ?_)
  | walk_at "wp")
local macro_rules | `(tactic| walk_at "w") => `(tactic| repeat' walk_at "w1")
local macro_rules | `(tactic| walk_at "side2") => `(tactic| first | assumption | exact ⟨by omega, by omega⟩)
/-! ### more on fractions -/
theorem fr_lt {n d l : Int} (h : 0 < d) (h2 : n < l * d) : (fr n d).1 < l * (fr n d).2 := by
  obtain ⟨k, hk, e1, e2⟩ := fr_of (n := n) h
  generalize (fr n d).1 = a at *
  generalize (fr n d).2 = b at *
  refine Int.lt_of_mul_lt_mul_left (a := k) ?_ (Int.le_of_lt hk)
  rw [show k * (l * b) = l * d by rw [e2]; ac_rfl, ← e1]
  exact h2
theorem fr_nn {n d : Int} (h : 0 < d) (h0 : 0 ≤ n) : 0 ≤ (fr n d).1 ∧ (fr n d).1 ≤ n := by
  obtain ⟨k, hk, e1, e2⟩ := fr_of (n := n) h
  generalize (fr n d).1 = a at *
  have ha : 0 ≤ a := by
    refine Int.le_of_mul_le_mul_left (a := k) ?_ hk
    omega
  have := Int.mul_le_mul_of_nonneg_right (show 1 ≤ k by omega) ha
  omega
theorem fr_sub {w n d : Int} (h : 0 < d) : fr (w * (fr n d).2 + -(fr n d).1 * 1) (1 * (fr n d).2) = fr (d * w - n) d := by
  have h1 := fr_x (n := n) h
  refine fr_eq (by rw [Int.one_mul]; exact fr_pos h) h ?_
  generalize (fr n d).1 = a at *
  generalize (fr n d).2 = b at *
  grind
/-! ### the defs -/
theorem sz_ok (a b : Int) (ha : 1 ≤ a) (hb : 1 ≤ b) : F1.f [.int a, .int b] = some (.fz .non, []) := by
  refine is1 ?_
  unfold b1
  walk_at "w"
  exact ⟨rfl, rfl⟩
abbrev B40 : Int := 803469022129495137770981046170581301261101496891396417650688
theorem fraction_ok (n d : Int) (h : 0 < d ∧ d < 803469022129495137770981046170581301261101496891396417650688) : F2.f [.int n, .int d] = some (.fz (en (fr n d)), []) := fraction_run n d h
theorem lfrac_ok (n d : Int) (h : 0 < d ∧ d < 803469022129495137770981046170581301261101496891396417650688) : F8.f [.int n, .int d] = some (.fz (en (fr n d)), []) := frac_run (G' := gmOf fs7 cs 1000) rfl n d h
local macro_rules | `(tactic| walk_at "wcall") => `(tactic| first
  | ((with_reducible show CallP _ 1 _ _ _ _); refine CallP.pure rfl rfl (sz_ok _ _ (by walk_at "side") (by walk_at "side")) rfl rfl rfl ?_)
  | ((with_reducible show CallP _ 2 _ _ _ _); refine CallP.pure rfl rfl (fraction_ok _ _ (by walk_at "side2")) rfl rfl rfl ?_)
  | ((with_reducible show CallP _ 8 _ _ _ _); refine CallP.pure rfl rfl (lfrac_ok _ _ (by walk_at "side2")) rfl rfl rfl ?_))
theorem canon_ok (w h p : Int) (hw : 1 ≤ w) (hh : 1 ≤ h) (hp : 4 ≤ p ∧ p ≤ 1000) : F3.f [.int w, .int h, .int p] = some (.fz (.tup [en (fr w p), en (fr h p), en (fr (2 * w) p), en (fr (2 * h) p)]), []) := by
  refine is3 ?_
  unfold b3
  walk_at "w"
  exact ⟨rfl, rfl⟩
theorem plus_gen (a b c d : Int) (hb : 0 < b ∧ b < 1000000000000000) (hd : 0 < d ∧ d < 1000000000000000) : F4.f [.tup [.int a, .int b], .tup [.int c, .int d]] = some (.fz (en (fr (a * d + c * b) (b * d))), []) := by
  refine is4 ?_
  have h1 : 0 < b * d := Int.mul_pos hb.1 hd.1
  have h2 : b * d ≤ 1000000000000000 * 1000000000000000 := Int.mul_le_mul (by omega) (by omega) (by omega) (by decide)
  unfold b4
  walk_at "w"
  exact ⟨rfl, rfl⟩
theorem plus_ok (n m d : Int) (hd : 0 < d ∧ d < 1000000000000000) : F4.f [en (fr n d), en (fr m d)] = some (.fz (en (fr (n + m) d)), []) := by
  have h1 := fr_pos (n := n) hd.1
  have h2 := fr_le (n := n) hd.1
  have h3 := fr_pos (n := m) hd.1
  have h4 := fr_le (n := m) hd.1
  rw [plus_gen _ _ _ _ ⟨h1, by omega⟩ ⟨h3, by omega⟩, fr_plus hd.1]
theorem lplus_gen (a b c d : Int) (hb : 0 < b ∧ b < 1000000000000000) (hd : 0 < d ∧ d < 1000000000000000) : F9.f [.tup [.int a, .int b], .tup [.int c, .int d]] = some (.fz (en (fr (a * d + c * b) (b * d))), []) := by
  refine is9 ?_
  have h1 : 0 < b * d := Int.mul_pos hb.1 hd.1
  have h2 : b * d ≤ 1000000000000000 * 1000000000000000 := Int.mul_le_mul (by omega) (by omega) (by omega) (by decide)
  unfold b9
  walk_at "w"
  exact ⟨rfl, rfl⟩
theorem lplus_ok (n m d : Int) (hd : 0 < d ∧ d < 1000000000000000) : F9.f [en (fr n d), en (fr m d)] = some (.fz (en (fr (n + m) d)), []) := by
  have h1 := fr_pos (n := n) hd.1
  have h2 := fr_le (n := n) hd.1
  have h3 := fr_pos (n := m) hd.1
  have h4 := fr_le (n := m) hd.1
  rw [lplus_gen _ _ _ _ ⟨h1, by omega⟩ ⟨h3, by omega⟩, fr_plus hd.1]
/-- four margins over one bottom, as a tuple or a list -/
abbrev m4 (n0 n1 n2 n3 d : Int) : List D := [en (fr n0 d), en (fr n1 d), en (fr n2 d), en (fr n3 d)]
theorem check_ok (w h n0 n1 n2 n3 d : Int) (m : D) (hm : m = .tup (m4 n0 n1 n2 n3 d) ∨ m = .list (m4 n0 n1 n2 n3 d)) (hd : 0 < d ∧ d < 1000000000000000) (h0 : 0 ≤ n0) (h1 : 0 ≤ n1) (h2 : 0 ≤ n2) (h3 : 0 ≤ n3)
    (hw : n0 + n2 < w * d) (hh : n1 + n3 < h * d) : F5.f [.int w, .int h, m] = some (.fz .non, []) := by
  have q0 := fr_nn hd.1 h0
  have q1 := fr_nn hd.1 h1
  have q2 := fr_nn hd.1 h2
  have q3 := fr_nn hd.1 h3
  have p0 := fr_pos (n := n0) hd.1
  have p1 := fr_pos (n := n1) hd.1
  have p2 := fr_pos (n := n2) hd.1
  have p3 := fr_pos (n := n3) hd.1
  have r0 := fr_pos (n := n0 + n2) hd.1
  have r1 := fr_le (n := n0 + n2) hd.1
  have r2 := fr_pos (n := n1 + n3) hd.1
  have r3 := fr_le (n := n1 + n3) hd.1
  have all : ∀ x ∈ [fr n0 d, fr n1 d, fr n2 d, fr n3 d], 0 ≤ x.1 ∧ 1 ≤ x.2 := by
    intro x hx
    simp only [List.mem_cons, List.not_mem_nil, or_false] at hx
    rcases hx with rfl | rfl | rfl | rfl <;> exact ⟨by omega, by omega⟩
  refine is5 ?_
  unfold b5
  rcases hm with rfl | rfl
  all_goals
    walk_at "w"
    refine IfP.no (fun z => z rfl) ?_
    walk_at "w"
    refine LcP.map1 [fr n0 d, fr n1 d, fr n2 d, fr n3 d] en (fun x => .bl (decide (x.2 < 1))) rfl (le_LN rfl) ?_ (fun x hx => ?_) ?_
    · rfl
    · have := all x hx
      refine ⟨_, rfl, rfl, ?_⟩
      walk_at "w"
      exact ⟨rfl, rfl⟩
    walk_at "w"
    refine BiP.any [fr n0 d, fr n1 d, fr n2 d, fr n3 d] (fun x => decide (x.2 < 1)) rfl ?_
    walk_at "w"
    refine IfP.ff (List.any_eq_false.mpr fun x hx => by have := (all x hx).2; rw [decide_eq_true_eq]; omega) ?_
    walk_at "w"
    refine CallP.pure rfl rfl (plus_ok _ _ _ hd) rfl rfl rfl ?_
    walk_at "w"
    refine CallP.pure rfl rfl (plus_ok _ _ _ hd) rfl rfl rfl ?_
    walk_at "w"
    refine IfP.no (by have := fr_lt hd.1 hw; omega) ?_
    walk_at "w"
    refine IfP.no (by have := fr_lt hd.1 hh; omega) ?_
    walk_at "w"
    exact ⟨rfl, rfl⟩
theorem block_ok (w h n0 n1 n2 n3 d : Int) (m : D) (hm : m = .tup (m4 n0 n1 n2 n3 d) ∨ m = .list (m4 n0 n1 n2 n3 d)) (hd : 0 < d ∧ d < 1000000000000000) (h0 : 0 ≤ n0) (h1 : 0 ≤ n1) (h2 : 0 ≤ n2) (h3 : 0 ≤ n3)
    (hw : n0 + n2 < w * d) (hh : n1 + n3 < h * d) (w1 : 1 ≤ w) (h1' : 1 ≤ h) : F6.f [.int w, .int h, m] = some (.fz (.tup [en (fr (d * w - (n0 + n2)) d), en (fr (d * h - (n1 + n3)) d)]), []) := by
  have r0 := fr_pos (n := n0 + n2) hd.1
  have r1 := fr_le (n := n0 + n2) hd.1
  have r2 := fr_pos (n := n1 + n3) hd.1
  have r3 := fr_le (n := n1 + n3) hd.1
  refine is6 ?_
  unfold b6
  rcases hm with rfl | rfl
  all_goals
    walk_at "w"
    refine CallP.pure rfl rfl (check_ok _ _ n0 n1 n2 n3 d _ (by first | exact .inl rfl | exact .inr rfl) hd h0 h1 h2 h3 hw hh) rfl rfl rfl ?_
    walk_at "w"
    refine CallP.pure rfl rfl (plus_ok _ _ _ hd) rfl rfl rfl ?_
    walk_at "w"
    refine CallP.pure rfl rfl (plus_ok _ _ _ hd) rfl rfl rfl ?_
    walk_at "w"
    refine CallP.pure rfl rfl (plus_gen _ _ _ _ ⟨by omega, by omega⟩ ⟨by omega, by omega⟩) rfl rfl rfl ?_
    rw [fr_sub hd.1]
    walk_at "w"
    refine CallP.pure rfl rfl (plus_gen _ _ _ _ ⟨by omega, by omega⟩ ⟨by omega, by omega⟩) rfl rfl rfl ?_
    rw [fr_sub hd.1]
    walk_at "w"
    exact ⟨rfl, rfl⟩
theorem fr_area {x y d w h : Int} (hd : 0 < d) (hw : 0 < w) (hh : 0 < h) : fr ((fr x d).1 * (fr y d).1) ((fr x d).2 * (fr y d).2 * w * h) = fr (x * y) (d * d * w * h) := by
  have h1 := fr_x (n := x) hd
  have h2 := fr_x (n := y) hd
  refine fr_eq (Int.mul_pos (Int.mul_pos (Int.mul_pos (fr_pos hd) (fr_pos hd)) hw) hh) (Int.mul_pos (Int.mul_pos (Int.mul_pos hd hd) hw) hh) ?_
  generalize (fr x d).1 = a at *
  generalize (fr x d).2 = b at *
  generalize (fr y d).1 = a' at *
  generalize (fr y d).2 = b' at *
  grind
theorem mb {a b A B : Int} (ha : 0 ≤ a ∧ a ≤ A) (hb : 0 ≤ b ∧ b ≤ B) : 0 ≤ a * b ∧ a * b ≤ A * B :=
  ⟨Int.mul_nonneg ha.1 hb.1, Int.mul_le_mul ha.2 hb.2 (by omega) (by omega)⟩
theorem area_ok (w h n0 n1 n2 n3 d : Int) (m : D) (hm : m = .tup (m4 n0 n1 n2 n3 d) ∨ m = .list (m4 n0 n1 n2 n3 d)) (hd : 0 < d ∧ d ≤ 1000000) (h0 : 0 ≤ n0) (h1 : 0 ≤ n1) (h2 : 0 ≤ n2) (h3 : 0 ≤ n3)
    (hw : n0 + n2 < w * d) (hh : n1 + n3 < h * d) (w1 : 1 ≤ w ∧ w ≤ 1000000) (h1' : 1 ≤ h ∧ h ≤ 1000000) : F10.f [.int w, .int h, m] = some (.fz (en (fr ((d * w - (n0 + n2)) * (d * h - (n1 + n3))) (d * d * w * h))), []) := by
  have q1 := fr_nn (n := d * h - (n1 + n3)) hd.1 (by rw [Int.mul_comm]; omega)
  have q2 := mb (show 0 ≤ d ∧ d ≤ 1000000 by omega) (show 0 ≤ h ∧ h ≤ 1000000 by omega)
  have p0 := fr_pos (n := d * w - (n0 + n2)) hd.1
  have p1 := fr_le (n := d * w - (n0 + n2)) hd.1
  have p2 := fr_pos (n := d * h - (n1 + n3)) hd.1
  have p3 := fr_le (n := d * h - (n1 + n3)) hd.1
  have p4 := mb (show 0 ≤ (fr (d * w - (n0 + n2)) d).2 ∧ _ ≤ 1000000 by omega) (show 0 ≤ (fr (d * h - (n1 + n3)) d).2 ∧ _ ≤ 1000000 by omega)
  have p5 := mb p4 (show 0 ≤ w ∧ w ≤ 1000000 by omega)
  have p6 := mb p5 (show 0 ≤ h ∧ h ≤ 1000000 by omega)
  have p7 : 0 < (fr (d * w - (n0 + n2)) d).2 * (fr (d * h - (n1 + n3)) d).2 * w * h := Int.mul_pos (Int.mul_pos (Int.mul_pos p0 p2) (by omega)) (by omega)
  refine is10 ?_
  unfold b10
  walk_at "w"
  refine CallP.pure rfl rfl (block_ok _ _ n0 n1 n2 n3 d _ hm ⟨by omega, by omega⟩ h0 h1 h2 h3 hw hh (by omega) (by omega)) rfl rfl rfl ?_
  walk_at "w"
  rw [fr_area hd.1 (by omega) (by omega)]
  exact ⟨rfl, rfl⟩
theorem ratio_ok (w h n0 n1 n2 n3 d : Int) (m : D) (hm : m = .tup (m4 n0 n1 n2 n3 d) ∨ m = .list (m4 n0 n1 n2 n3 d)) (hd : 0 < d ∧ d ≤ 1000000) (h0 : 0 ≤ n0) (h1 : 0 ≤ n1) (h2 : 0 ≤ n2) (h3 : 0 ≤ n3)
    (hw : n0 + n2 < w * d) (hh : n1 + n3 < h * d) (w1 : 1 ≤ w ∧ w ≤ 1000000) (h1' : 1 ≤ h ∧ h ≤ 1000000) : F16.f [.int w, .int h, m] = some (.fz (.bl (decide ((d * w - (n0 + n2)) * h = (d * h - (n1 + n3)) * w))), []) := by
  have p0 := fr_pos (n := d * w - (n0 + n2)) hd.1
  have p1 := fr_le (n := d * w - (n0 + n2)) hd.1
  have p2 := fr_pos (n := d * h - (n1 + n3)) hd.1
  have p3 := fr_le (n := d * h - (n1 + n3)) hd.1
  have e1 := fr_x (n := d * w - (n0 + n2)) hd.1
  have e2 := fr_x (n := d * h - (n1 + n3)) hd.1
  refine is16 ?_
  unfold b16
  walk_at "w"
  refine CallP.pure rfl rfl (block_ok _ _ n0 n1 n2 n3 d _ hm ⟨by omega, by omega⟩ h0 h1 h2 h3 hw hh (by omega) (by omega)) rfl rfl rfl ?_
  walk_at "w"
  refine ⟨rfl, ?_⟩
  congr 2
  refine decide_eq_decide.mpr ?_
  generalize (fr (d * w - (n0 + n2)) d).1 = a at *
  generalize (fr (d * w - (n0 + n2)) d).2 = b at *
  generalize (fr (d * h - (n1 + n3)) d).1 = a' at *
  generalize (fr (d * h - (n1 + n3)) d).2 = b' at *
  generalize d * w - (n0 + n2) = x at *
  generalize d * h - (n1 + n3) = y at *
  constructor
  · intro z
    refine Int.eq_of_mul_eq_mul_left (a := b * b') (by have := Int.mul_pos p0 p2; omega) ?_
    grind
  · intro z
    refine Int.eq_of_mul_eq_mul_left (a := d) (by omega) ?_
    grind
theorem facing_ok (w : Int) (a b c e : D) (m : D) (hm : m = .tup [a, b, c, e] ∨ m = .list [a, b, c, e]) : F12.f [.int w, m] = some (.fz (.tup [c, a]), []) := by
  refine is12 ?_
  unfold b12
  rcases hm with rfl | rfl
  all_goals
    walk_at "w"
    refine IfP.no (fun z => z rfl) ?_
    walk_at "w"
    exact ⟨rfl, rfl⟩
theorem times_gen (a b c d : Int) (hb : 0 < b ∧ b < 1000000000000000) (hc : -1000000000000000 < c ∧ c < 1000000000000000) (hd : 0 < d ∧ d < 1000000000000000) : F14.f [.tup [.int a, .int b], .tup [.int c, .int d]] = some (.fz (en (fr (a * c) (b * d))), []) := by
  refine is14 ?_
  have h1 : 0 < b * d := Int.mul_pos hb.1 hd.1
  have h2 : b * d ≤ 1000000000000000 * 1000000000000000 := Int.mul_le_mul (by omega) (by omega) (by omega) (by decide)
  unfold b14
  walk_at "w"
  exact ⟨rfl, rfl⟩
theorem grown_ok (xs : List (Int × Int)) (y : Int) (m : D) (hm : m = .tup (xs.map en) ∨ m = .list (xs.map en)) (hl : xs.length ≤ LN) (hy : 0 < y ∧ y < 1000000000000000) (hx : ∀ x ∈ xs, 0 < x.2 ∧ x.2 < 1000000000000000) : F15.f [m, .int y] = some (.fz (.tup (xs.map fun x => en (fr (x.1 * y) (x.2 * 1)))), []) := by
  refine is15 ?_
  unfold b15
  rcases hm with rfl | rfl
  all_goals
    walk_at "w"
    refine LcP.map1 xs en (fun x => en (fr (x.1 * y) (x.2 * 1))) rfl hl ?_ (fun x h => ?_) ?_
    · rfl
    · refine ⟨_, rfl, rfl, ?_⟩
      walk_at "w"
      refine CallP.pure rfl rfl (times_gen _ _ _ _ (hx x h) ⟨by omega, by omega⟩ ⟨by omega, by omega⟩) rfl rfl rfl ?_
      exact ⟨rfl, rfl⟩
    walk_at "w"
    exact ⟨rfl, rfl⟩
theorem ratios_ok (w h r0 r1 r2 r3 t : Int) (hr0 : 1 ≤ r0 ∧ r0 ≤ 1000) (hr1 : 1 ≤ r1 ∧ r1 ≤ 1000) (hr2 : 1 ≤ r2 ∧ r2 ≤ 1000) (hr3 : 1 ≤ r3 ∧ r3 ≤ 1000) (ht : 0 < t ∧ t < w) (hw : w ≤ 1000000) (hh : 1 ≤ h) (hm : r1 * (w - t) + r3 * (w - t) < h * (r0 + r2)) :
    F11.f [.int w, .int h, .list [.int r0, .int r1, .int r2, .int r3], .int t] = some (.fz (.tup (m4 (r0 * (w - t)) (r1 * (w - t)) (r2 * (w - t)) (r3 * (w - t)) (r0 + r2))), []) := by
  have all : ∀ x ∈ [r0, r1, r2, r3], 1 ≤ x ∧ x ≤ 1000 := by
    intro x hx
    simp only [List.mem_cons, List.not_mem_nil, or_false] at hx
    rcases hx with rfl | rfl | rfl | rfl <;> assumption
  have a0 := Int.mul_nonneg (show 0 ≤ r0 by omega) (show 0 ≤ w - t by omega)
  have a1 := Int.mul_nonneg (show 0 ≤ r1 by omega) (show 0 ≤ w - t by omega)
  have a2 := Int.mul_nonneg (show 0 ≤ r2 by omega) (show 0 ≤ w - t by omega)
  have a3 := Int.mul_nonneg (show 0 ≤ r3 by omega) (show 0 ≤ w - t by omega)
  have a4 : r0 * (w - t) + r2 * (w - t) < w * (r0 + r2) := by
    rw [← Int.add_mul, Int.mul_comm w]
    exact Int.mul_lt_mul_of_pos_left (by omega) (by omega)
  refine is11 ?_
  unfold b11
  walk_at "w"
  refine IfP.no (fun z => z rfl) ?_
  walk_at "w"
  refine LcP.map1 [r0, r1, r2, r3] .int (fun x => .bl (decide (x < 1))) rfl (le_LN rfl) ?_ (fun x hx => ?_) ?_
  · rfl
  · refine ⟨_, rfl, rfl, ?_⟩
    walk_at "w"
    exact ⟨rfl, rfl⟩
  walk_at "w"
  refine BiP.any [r0, r1, r2, r3] (fun x => decide (x < 1)) rfl ?_
  walk_at "w"
  refine IfP.ff (List.any_eq_false.mpr fun x hx => by have := (all x hx).1; rw [decide_eq_true_eq]; omega) ?_
  walk_at "w"
  refine LcP.map1 [r0, r1, r2, r3] .int (fun x => en (fr (x * (w - t)) (r0 + r2))) rfl (le_LN rfl) ?_ (fun x hx => ?_) ?_
  · rfl
  · refine ⟨_, rfl, rfl, ?_⟩
    walk_at "w"
    exact ⟨rfl, rfl⟩
  walk_at "w"
  refine CallP.pure rfl rfl (check_ok _ _ (r0 * (w - t)) (r1 * (w - t)) (r2 * (w - t)) (r3 * (w - t)) (r0 + r2) _ (.inl rfl) ⟨by omega, by omega⟩ a0 a1 a2 a3 a4 hm) rfl rfl rfl ?_
  walk_at "w"
  exact ⟨rfl, rfl⟩
theorem grown4 (n0 n1 n2 n3 d y : Int) (m : D) (hm : m = .tup (m4 n0 n1 n2 n3 d) ∨ m = .list (m4 n0 n1 n2 n3 d)) (hd : 0 < d ∧ d < 1000000000000000) (hy : 0 < y ∧ y < 1000000000000000) : F15.f [m, .int y] = some (.fz (.tup (m4 (y * n0) (y * n1) (y * n2) (y * n3) d)), []) := by
  have all : ∀ x ∈ [fr n0 d, fr n1 d, fr n2 d, fr n3 d], 0 < x.2 ∧ x.2 < 1000000000000000 := by
    have p0 := fr_pos (n := n0) hd.1
    have p1 := fr_pos (n := n1) hd.1
    have p2 := fr_pos (n := n2) hd.1
    have p3 := fr_pos (n := n3) hd.1
    have q0 := fr_le (n := n0) hd.1
    have q1 := fr_le (n := n1) hd.1
    have q2 := fr_le (n := n2) hd.1
    have q3 := fr_le (n := n3) hd.1
    intro x hx
    simp only [List.mem_cons, List.not_mem_nil, or_false] at hx
    rcases hx with rfl | rfl | rfl | rfl <;> exact ⟨by omega, by omega⟩
  rw [grown_ok [fr n0 d, fr n1 d, fr n2 d, fr n3 d] y m hm (le_LN rfl) hy all]
  simp only [List.map_cons, List.map_nil, fr_times hd.1]
theorem grown2 (n0 n1 d y : Int) (hd : 0 < d ∧ d < 1000000000000000) (hy : 0 < y ∧ y < 1000000000000000) : F15.f [.tup [en (fr n0 d), en (fr n1 d)], .int y] = some (.fz (.tup [en (fr (y * n0) d), en (fr (y * n1) d)]), []) := by
  have all : ∀ x ∈ [fr n0 d, fr n1 d], 0 < x.2 ∧ x.2 < 1000000000000000 := by
    have p0 := fr_pos (n := n0) hd.1
    have p1 := fr_pos (n := n1) hd.1
    have q0 := fr_le (n := n0) hd.1
    have q1 := fr_le (n := n1) hd.1
    intro x hx
    simp only [List.mem_cons, List.not_mem_nil, or_false] at hx
    rcases hx with rfl | rfl <;> exact ⟨by omega, by omega⟩
  have e := grown_ok [fr n0 d, fr n1 d] y _ (.inl rfl) (le_LN rfl) hy all
  simp only [List.map_cons, List.map_nil, fr_times hd.1] at e
  exact e
theorem ratio_iff {x y d w h : Int} (hd : 0 < d) : (fr x d).1 * (fr y d).2 * h = (fr y d).1 * (fr x d).2 * w ↔ x * h = y * w := by
  have p0 := fr_pos (n := x) hd
  have p2 := fr_pos (n := y) hd
  have e1 := fr_x (n := x) hd
  have e2 := fr_x (n := y) hd
  generalize (fr x d).1 = a at *
  generalize (fr x d).2 = b at *
  generalize (fr y d).1 = a' at *
  generalize (fr y d).2 = b' at *
  constructor
  · intro z
    refine Int.eq_of_mul_eq_mul_left (a := b * b') (by have := Int.mul_pos p0 p2; omega) ?_
    grind
  · intro z
    refine Int.eq_of_mul_eq_mul_left (a := d) (by omega) ?_
    grind
theorem fr_tms1 {n d c e : Int} (hd : 0 < d) (he : 0 < e) : fr ((fr n d).1 * c) ((fr n d).2 * e) = fr (n * c) (d * e) := by
  have h1 := fr_x (n := n) hd
  refine fr_eq (Int.mul_pos (fr_pos hd) he) (Int.mul_pos hd he) ?_
  generalize (fr n d).1 = a at *
  generalize (fr n d).2 = b at *
  grind
theorem fr_int {n d : Int} (hd : 0 < d) : fr (d * n) d = (n, 1) := by
  have := fr_mul d n 1 hd
  rw [Int.mul_one] at this
  rw [this, fr_one]
theorem plain (ns : List Int) (hl : ns.length ≤ 63) : F17.f [.lck (ns.map .int)] = some (.fz (.bl true), []) := by
  refine is17 ?_
  obtain ⟨dk, hdk⟩ := deck_ok (G := gmOf fs0 cs 1000) ns 20 8 (by decide) (by decide)
  unfold b17
  walk_at "w"
  refine CallP.pure rfl rfl (F := F0) hdk rfl rfl rfl ?_
  clear hdk
  walk_at "w"
  refine take_call rfl rfl (by decide) fun w' dk w0 w1 => ?_
  walk_at "w"
  refine take_call rfl rfl (by decide) fun h' dk h0 h1 => ?_
  walk_at "w"
  refine take_call rfl rfl (by decide) fun p' dk p0 p1 => ?_
  walk_at "w"
  refine take_call rfl rfl (by decide) fun y' dk y0 y1 => ?_
  generalize ew : 1 + w' = w
  generalize eh : 1 + h' = h
  generalize ep : 4 + p' = p
  have hw : 1 ≤ w ∧ w ≤ 900 := by omega
  have hh : 1 ≤ h ∧ h ≤ 900 := by omega
  have hp : 4 ≤ p ∧ p ≤ 23 := by omega
  walk_at "w"
  generalize ey : 1 + y' = y
  have hy : 1 ≤ y ∧ y ≤ 12 := by omega
  clear ew eh ep ey w0 w1 h0 h1 p0 p1 y0 y1
  have yw := mb (show 0 ≤ y ∧ y ≤ 12 by omega) (show 0 ≤ w ∧ w ≤ 900 by omega)
  have yh := mb (show 0 ≤ y ∧ y ≤ 12 by omega) (show 0 ≤ h ∧ h ≤ 900 by omega)
  have yw1 : 1 ≤ y * w := Int.mul_pos (by omega) (by omega)
  have yh1 : 1 ≤ y * h := Int.mul_pos (by omega) (by omega)
  have wp : w * 4 ≤ w * p := Int.mul_le_mul_of_nonneg_left hp.1 (by omega)
  have hp4 : h * 4 ≤ h * p := Int.mul_le_mul_of_nonneg_left hp.1 (by omega)
  have pp := mb (show 0 ≤ p ∧ p ≤ 23 by omega) (show 0 ≤ p ∧ p ≤ 23 by omega)
  have pp1 : 0 < p * p := Int.mul_pos (by omega) (by omega)
  refine CallP.pure rfl rfl (canon_ok w h p hw.1 hh.1 ⟨hp.1, by omega⟩) rfl rfl rfl ?_
  walk_at "w"
  refine CmpP.neT [fr w p, fr h p, fr (2 * w) p, fr (2 * h) p] [fr w p, fr h p, fr (2 * w) p, fr (2 * h) p] rfl rfl rfl ?_
  walk_at "w"
  refine CallP.pure rfl rfl (canon_ok (y * w) (y * h) p yw1 yh1 ⟨hp.1, by omega⟩) rfl rfl rfl ?_
  walk_at "w"
  refine CallP.pure rfl rfl (grown4 w h (2 * w) (2 * h) p y _ (.inl rfl) ⟨by omega, by omega⟩ ⟨by omega, by omega⟩) rfl rfl rfl ?_
  walk_at "w"
  refine CmpP.neT [fr (y * w) p, fr (y * h) p, fr (2 * (y * w)) p, fr (2 * (y * h)) p] [fr (y * w) p, fr (y * h) p, fr (y * (2 * w)) p, fr (y * (2 * h)) p] rfl rfl rfl ?_
  rw [Int.mul_left_comm 2 y w, Int.mul_left_comm 2 y h]
  walk_at "w"
  refine CallP.pure rfl rfl (ratio_ok w h w h (2 * w) (2 * h) p _ (.inl rfl) ⟨by omega, by omega⟩ (by omega) (by omega) (by omega) (by omega) (by omega) (by omega) ⟨by omega, by omega⟩ ⟨by omega, by omega⟩) rfl rfl rfl ?_
  rw [decide_eq_true (show (p * w - (w + 2 * w)) * h = (p * h - (h + 2 * h)) * w by grind)]
  walk_at "w"
  refine IfP.tt rfl ?_
  walk_at "w"
  refine CallP.pure rfl rfl (block_ok w h w h (2 * w) (2 * h) p _ (.inl rfl) ⟨by omega, by omega⟩ (by omega) (by omega) (by omega) (by omega) (by omega) (by omega) (by omega) (by omega)) rfl rfl rfl ?_
  walk_at "w"
  refine CmpP.neT [fr (p * w - (w + 2 * w)) p, fr (p * h - (h + 2 * h)) p] [fr (w * (p - 3)) p, fr (h * (p - 3)) p] rfl rfl rfl ?_
  rw [show w * (p - 3) = p * w - (w + 2 * w) by grind, show h * (p - 3) = p * h - (h + 2 * h) by grind]
  walk_at "w"
  refine CallP.pure rfl rfl (area_ok w h w h (2 * w) (2 * h) p _ (.inl rfl) ⟨by omega, by omega⟩ (by omega) (by omega) (by omega) (by omega) (by omega) (by omega) ⟨by omega, by omega⟩ ⟨by omega, by omega⟩) rfl rfl rfl ?_
  walk_at "w"
  rw [show fr ((p * w - (w + 2 * w)) * (p * h - (h + 2 * h))) (p * p * w * h) = fr ((p - 3) * (p - 3)) (p * p) from fr_eq (Int.mul_pos (Int.mul_pos pp1 (by omega)) (by omega)) pp1 (by grind)]
  walk_at "w"
  refine CallP.pure rfl rfl (facing_ok w (en (fr w p)) (en (fr h p)) (en (fr (2 * w) p)) (en (fr (2 * h) p)) _ (.inl rfl)) rfl rfl rfl ?_
  walk_at "w"
  refine CmpP.neT [fr (2 * w) p, fr w p] [fr (2 * w) p, fr w p] rfl rfl rfl ?_
  walk_at "w"
  refine take_call rfl rfl (by omega) fun a0 dk a00 a01 => ?_
  walk_at "w"
  refine take_call rfl rfl (by omega) fun a1 dk a10 a11 => ?_
  walk_at "w"
  refine take_call rfl rfl (by omega) fun a2 dk a20 a21 => ?_
  walk_at "w"
  refine take_call rfl rfl (by omega) fun a3 dk a30 a31 => ?_
  have ya0 := mb (show 0 ≤ y ∧ y ≤ 12 by omega) (show 0 ≤ a0 ∧ a0 ≤ 50 * w by omega)
  have ya1 := mb (show 0 ≤ y ∧ y ≤ 12 by omega) (show 0 ≤ a1 ∧ a1 ≤ 50 * h by omega)
  have ya2 := mb (show 0 ≤ y ∧ y ≤ 12 by omega) (show 0 ≤ a2 ∧ a2 ≤ 50 * w by omega)
  have ya3 := mb (show 0 ≤ y ∧ y ≤ 12 by omega) (show 0 ≤ a3 ∧ a3 ≤ 50 * h by omega)
  have s02 : y * a0 + y * a2 < y * w * 100 := by
    rw [← Int.mul_add, Int.mul_assoc]
    exact Int.mul_lt_mul_of_pos_left (by omega) (by omega)
  have s13 : y * a1 + y * a3 < y * h * 100 := by
    rw [← Int.mul_add, Int.mul_assoc]
    exact Int.mul_lt_mul_of_pos_left (by omega) (by omega)
  walk_at "w"
  refine CallP.pure rfl rfl (block_ok w h a0 a1 a2 a3 100 _ (.inr rfl) (by decide) (by omega) (by omega) (by omega) (by omega) (by omega) (by omega) (by omega) (by omega)) rfl rfl rfl ?_
  walk_at "w"
  refine CallP.pure rfl rfl (lplus_ok _ _ _ (by decide)) rfl rfl rfl ?_
  walk_at "w"
  refine CallP.pure rfl rfl (lplus_ok _ _ _ (by decide)) rfl rfl rfl ?_
  walk_at "w"
  refine CallP.pure rfl rfl (lplus_ok _ _ _ (by decide)) rfl rfl rfl ?_
  walk_at "w"
  refine CallP.pure rfl rfl (lplus_ok _ _ _ (by decide)) rfl rfl rfl ?_
  rw [show a0 + a2 + (100 * w - (a0 + a2)) = 100 * w by omega, show a1 + a3 + (100 * h - (a1 + a3)) = 100 * h by omega, fr_int (by decide), fr_int (by decide)]
  walk_at "w"
  refine CallP.pure rfl rfl (grown4 a0 a1 a2 a3 100 y _ (.inr rfl) (by decide) ⟨by omega, by omega⟩) rfl rfl rfl ?_
  walk_at "w"
  refine CallP.pure rfl rfl (block_ok (y * w) (y * h) (y * a0) (y * a1) (y * a2) (y * a3) 100 _ (.inl rfl) (by decide) (by omega) (by omega) (by omega) (by omega) (by omega) (by omega) (by omega) (by omega)) rfl rfl rfl ?_
  walk_at "w"
  refine CallP.pure rfl rfl (grown2 _ _ 100 y (by decide) ⟨by omega, by omega⟩) rfl rfl rfl ?_
  walk_at "w"
  refine CmpP.neT [fr (100 * (y * w) - (y * a0 + y * a2)) 100, fr (100 * (y * h) - (y * a1 + y * a3)) 100] [fr (y * (100 * w - (a0 + a2))) 100, fr (y * (100 * h - (a1 + a3))) 100] rfl rfl rfl ?_
  rw [show y * (100 * w - (a0 + a2)) = 100 * (y * w) - (y * a0 + y * a2) by grind, show y * (100 * h - (a1 + a3)) = 100 * (y * h) - (y * a1 + y * a3) by grind]
  walk_at "w"
  refine CallP.pure rfl rfl (area_ok w h a0 a1 a2 a3 100 _ (.inr rfl) (by decide) (by omega) (by omega) (by omega) (by omega) (by omega) (by omega) ⟨by omega, by omega⟩ ⟨by omega, by omega⟩) rfl rfl rfl ?_
  walk_at "w"
  have l0 := fr_pos (n := 100 * w - (a0 + a2)) (d := 100) (by decide)
  have l1 := fr_le (n := 100 * w - (a0 + a2)) (d := 100) (by decide)
  have l2 := fr_pos (n := 100 * h - (a1 + a3)) (d := 100) (by decide)
  have l3 := fr_le (n := 100 * h - (a1 + a3)) (d := 100) (by decide)
  have l4 := fr_nn (n := 100 * h - (a1 + a3)) (d := 100) (by decide) (by omega)
  have wh := mb (show 0 ≤ w ∧ w ≤ 900 by omega) (show 0 ≤ h ∧ h ≤ 900 by omega)
  have wh1 : 0 < w * h := Int.mul_pos (by omega) (by omega)
  have m0 := fr_pos (n := (100 * w - (a0 + a2)) * (100 * h - (a1 + a3))) (d := 100 * 100) (by decide)
  have m1 := fr_le (n := (100 * w - (a0 + a2)) * (100 * h - (a1 + a3))) (d := 100 * 100) (by decide)
  refine CallP.pure rfl rfl (times_gen _ _ _ _ ⟨by omega, by omega⟩ ⟨by omega, by omega⟩ ⟨by omega, by omega⟩) rfl rfl rfl ?_
  rw [fr_tms (by decide) (by decide)]
  walk_at "w"
  refine CallP.pure rfl rfl (times_gen _ _ _ _ ⟨by omega, by omega⟩ ⟨by omega, by omega⟩ ⟨by omega, by omega⟩) rfl rfl rfl ?_
  rw [fr_tms1 (by decide) wh1, Int.mul_one, ← Int.mul_assoc (100 * 100) w h]
  walk_at "w"
  refine CallP.pure rfl rfl (grown4 a0 a1 a2 a3 100 y _ (.inr rfl) (by decide) ⟨by omega, by omega⟩) rfl rfl rfl ?_
  walk_at "w"
  refine CallP.pure rfl rfl (area_ok (y * w) (y * h) (y * a0) (y * a1) (y * a2) (y * a3) 100 _ (.inl rfl) (by decide) (by omega) (by omega) (by omega) (by omega) (by omega) (by omega) ⟨by omega, by omega⟩ ⟨by omega, by omega⟩) rfl rfl rfl ?_
  rw [show fr ((100 * (y * w) - (y * a0 + y * a2)) * (100 * (y * h) - (y * a1 + y * a3))) (100 * 100 * (y * w) * (y * h)) = fr ((100 * w - (a0 + a2)) * (100 * h - (a1 + a3))) (100 * 100 * w * h) from
    fr_eq (Int.mul_pos (Int.mul_pos (by decide) (by omega)) (by omega)) (Int.mul_pos (Int.mul_pos (by decide) (by omega)) (by omega)) (by grind)]
  walk_at "w"
  refine CallP.pure rfl rfl (block_ok w h a2 a3 a0 a1 100 _ (.inr rfl) (by decide) (by omega) (by omega) (by omega) (by omega) (by omega) (by omega) (by omega) (by omega)) rfl rfl rfl ?_
  walk_at "w"
  refine CmpP.neT [fr (100 * w - (a2 + a0)) 100, fr (100 * h - (a3 + a1)) 100] [fr (100 * w - (a0 + a2)) 100, fr (100 * h - (a1 + a3)) 100] rfl rfl rfl ?_
  rw [Int.add_comm a2 a0, Int.add_comm a3 a1]
  walk_at "w"
  refine CallP.pure rfl rfl (ratio_ok w h a0 a1 a2 a3 100 _ (.inr rfl) (by decide) (by omega) (by omega) (by omega) (by omega) (by omega) (by omega) ⟨by omega, by omega⟩ ⟨by omega, by omega⟩) rfl rfl rfl ?_
  walk_at "w"
  rw [decide_eq_decide.mpr (ratio_iff (x := 100 * w - (a0 + a2)) (y := 100 * h - (a1 + a3)) (d := 100) (w := w) (h := h) (by decide))]
  refine CmpP.ne (α := Bool) (decide ((100 * w - (a0 + a2)) * h = (100 * h - (a1 + a3)) * w)) (decide ((100 * w - (a0 + a2)) * h = (100 * h - (a1 + a3)) * w)) rfl rfl rfl ?_
  walk_at "w"
  refine CallP.pure rfl rfl (ratio_ok w h a2 a3 a0 a1 100 _ (.inr rfl) (by decide) (by omega) (by omega) (by omega) (by omega) (by omega) (by omega) ⟨by omega, by omega⟩ ⟨by omega, by omega⟩) rfl rfl rfl ?_
  walk_at "w"
  refine CallP.pure rfl rfl (ratio_ok w h a0 a1 a2 a3 100 _ (.inr rfl) (by decide) (by omega) (by omega) (by omega) (by omega) (by omega) (by omega) ⟨by omega, by omega⟩ ⟨by omega, by omega⟩) rfl rfl rfl ?_
  rw [Int.add_comm a2 a0, Int.add_comm a3 a1]
  walk_at "w"
  refine CmpP.ne (α := Bool) (decide ((100 * w - (a0 + a2)) * h = (100 * h - (a1 + a3)) * w)) (decide ((100 * w - (a0 + a2)) * h = (100 * h - (a1 + a3)) * w)) rfl rfl rfl ?_
  walk_at "w"
  refine CallP.pure rfl rfl (facing_ok w (en (fr a2 100)) (en (fr a3 100)) (en (fr a0 100)) (en (fr a1 100)) _ (.inr rfl)) rfl rfl rfl ?_
  walk_at "w"
  refine CmpP.neT [fr a0 100, fr a2 100] [fr a0 100, fr a2 100] rfl rfl rfl ?_
  walk_at "w"
  refine take_call rfl rfl (by omega) fun r0' dk r00 r01 => ?_
  walk_at "w"
  refine take_call rfl rfl (by omega) fun r1' dk r10 r11 => ?_
  walk_at "w"
  refine take_call rfl rfl (by omega) fun r2' dk r20 r21 => ?_
  walk_at "w"
  refine take_call rfl rfl (by omega) fun r3' dk r30 r31 => ?_
  walk_at "w"
  clear l0 l1 l2 l3 l4 m0 m1 s02 s13 ya0 ya1 ya2 ya3
  generalize er0 : 1 + r0' = r0
  generalize er1 : 1 + r1' = r1
  generalize er2 : 1 + r2' = r2
  generalize er3 : 1 + r3' = r3
  have R0 : 1 ≤ r0 ∧ r0 ≤ 4 := by omega
  have R1 : 1 ≤ r1 ∧ r1 ≤ 4 := by omega
  have R2 : 1 ≤ r2 ∧ r2 ≤ 4 := by omega
  have R3 : 1 ≤ r3 ∧ r3 ≤ 4 := by omega
  clear er0 er1 er2 er3 r00 r01 r10 r11 r20 r21 r30 r31
  generalize et : (20 + w + 1) / 2 = t
  generalize eB : 20 + w = B
  have hB : 21 ≤ B ∧ B ≤ 920 := by omega
  have ht : 0 < t ∧ t < B := by omega
  clear et eB
  have c0 := mb (show 0 ≤ r0 ∧ r0 ≤ 4 by omega) (show 0 ≤ B - t ∧ B - t ≤ B by omega)
  have c1 := mb (show 0 ≤ r1 ∧ r1 ≤ 4 by omega) (show 0 ≤ B - t ∧ B - t ≤ B by omega)
  have c2 := mb (show 0 ≤ r2 ∧ r2 ≤ 4 by omega) (show 0 ≤ B - t ∧ B - t ≤ B by omega)
  have c3 := mb (show 0 ≤ r3 ∧ r3 ≤ 4 by omega) (show 0 ≤ B - t ∧ B - t ≤ B by omega)
  have cB : 40 * B * 2 ≤ 40 * B * (r0 + r2) := Int.mul_le_mul_of_nonneg_left (by omega) (by omega)
  have cw : r0 * (B - t) + r2 * (B - t) < B * (r0 + r2) := by
    rw [← Int.add_mul, Int.mul_comm B]
    exact Int.mul_lt_mul_of_pos_left (by omega) (by omega)
  refine CallP.pure rfl rfl (ratios_ok B (40 * B) r0 r1 r2 r3 t ⟨by omega, by omega⟩ ⟨by omega, by omega⟩ ⟨by omega, by omega⟩ ⟨by omega, by omega⟩ ht (by omega) (by omega) (by omega)) rfl rfl rfl ?_
  walk_at "w"
  have u0 := fr_pos (n := B - t) (d := r0 + r2) (by omega)
  have u1 := fr_le (n := B - t) (d := r0 + r2) (by omega)
  refine LcP.map1 [r0, r1, r2, r3] .int (fun x => en (fr (x * (B - t)) (r0 + r2))) rfl (le_LN rfl) ?_ (fun x hx => ?_) ?_
  · rfl
  · have hx1 : 1 ≤ x ∧ x ≤ 4 := by
      simp only [List.mem_cons, List.not_mem_nil, or_false] at hx
      rcases hx with rfl | rfl | rfl | rfl <;> assumption
    refine ⟨_, rfl, rfl, ?_⟩
    walk_at "w"
    refine CallP.pure rfl rfl (times_gen _ _ _ _ ⟨by omega, by omega⟩ ⟨by omega, by omega⟩ ⟨by omega, by omega⟩) rfl rfl rfl ?_
    rw [fr_times (by omega)]
    exact ⟨rfl, rfl⟩
  walk_at "w"
  refine CmpP.neT [fr (r0 * (B - t)) (r0 + r2), fr (r1 * (B - t)) (r0 + r2), fr (r2 * (B - t)) (r0 + r2), fr (r3 * (B - t)) (r0 + r2)] [fr (r0 * (B - t)) (r0 + r2), fr (r1 * (B - t)) (r0 + r2), fr (r2 * (B - t)) (r0 + r2), fr (r3 * (B - t)) (r0 + r2)] rfl rfl rfl ?_
  walk_at "w"
  refine CallP.pure rfl rfl (block_ok B (40 * B) (r0 * (B - t)) (r1 * (B - t)) (r2 * (B - t)) (r3 * (B - t)) (r0 + r2) _ (.inl rfl) ⟨by omega, by omega⟩ (by omega) (by omega) (by omega) (by omega) cw (by omega) (by omega) (by omega)) rfl rfl rfl ?_
  rw [show (r0 + r2) * B - (r0 * (B - t) + r2 * (B - t)) = (r0 + r2) * t by grind, fr_int (by omega)]
  walk_at "w"
  refine LcP.map1 [r0, r1, r2, r3] .int (fun x => .int (y * x)) rfl (le_LN rfl) ?_ (fun x hx => ?_) ?_
  · rfl
  · refine ⟨_, rfl, rfl, ?_⟩
    have hx1 : 1 ≤ x ∧ x ≤ 4 := by
      simp only [List.mem_cons, List.not_mem_nil, or_false] at hx
      rcases hx with rfl | rfl | rfl | rfl <;> assumption
    walk_at "w"
    exact ⟨rfl, rfl⟩
  walk_at "w"
  have v0 := mb (show 0 ≤ y ∧ y ≤ 12 by omega) (show 0 ≤ r0 ∧ r0 ≤ 4 by omega)
  have v1 := mb (show 0 ≤ y ∧ y ≤ 12 by omega) (show 0 ≤ r1 ∧ r1 ≤ 4 by omega)
  have v2 := mb (show 0 ≤ y ∧ y ≤ 12 by omega) (show 0 ≤ r2 ∧ r2 ≤ 4 by omega)
  have v3 := mb (show 0 ≤ y ∧ y ≤ 12 by omega) (show 0 ≤ r3 ∧ r3 ≤ 4 by omega)
  have x0 : 0 < y * r0 := Int.mul_pos (by omega) (by omega)
  have x1 : 0 < y * r1 := Int.mul_pos (by omega) (by omega)
  have x2 : 0 < y * r2 := Int.mul_pos (by omega) (by omega)
  have x3 : 0 < y * r3 := Int.mul_pos (by omega) (by omega)
  have big : y * (r1 * (B - t) + r3 * (B - t)) < y * (40 * B * (r0 + r2)) := Int.mul_lt_mul_of_pos_left (by omega) (by omega)
  have yB := mb (show 0 ≤ y ∧ y ≤ 12 by omega) (show 0 ≤ B ∧ B ≤ 920 by omega)
  have yB1 : 0 < y * B := Int.mul_pos (by omega) (by omega)
  have yt1 : 0 < y * t := Int.mul_pos (by omega) (by omega)
  have yt2 : y * t < y * B := Int.mul_lt_mul_of_pos_left ht.2 (by omega)
  have y40 : 0 < y * (40 * B) := Int.mul_pos (by omega) (by omega)
  refine CallP.pure rfl rfl (ratios_ok B (40 * B) (y * r0) (y * r1) (y * r2) (y * r3) t ⟨by omega, by omega⟩ ⟨by omega, by omega⟩ ⟨by omega, by omega⟩ ⟨by omega, by omega⟩ ht (by omega) (by omega)
    (by rw [show y * r1 * (B - t) + y * r3 * (B - t) = y * (r1 * (B - t) + r3 * (B - t)) by grind, show 40 * B * (y * r0 + y * r2) = y * (40 * B * (r0 + r2)) by grind]; exact big)) rfl rfl rfl ?_
  have fy : ∀ r : Int, fr (y * r * (B - t)) (y * r0 + y * r2) = fr (r * (B - t)) (r0 + r2) := fun r => by
    rw [← Int.mul_add, Int.mul_assoc, fr_mul y _ _ (by omega)]
  walk_at "w"
  refine CmpP.eqT [fr (y * r0 * (B - t)) (y * r0 + y * r2), fr (y * r1 * (B - t)) (y * r0 + y * r2), fr (y * r2 * (B - t)) (y * r0 + y * r2), fr (y * r3 * (B - t)) (y * r0 + y * r2)] [fr (r0 * (B - t)) (r0 + r2), fr (r1 * (B - t)) (r0 + r2), fr (r2 * (B - t)) (r0 + r2), fr (r3 * (B - t)) (r0 + r2)] rfl rfl rfl ?_
  walk_at "w"
  refine IfP.yes (by rw [fy, fy, fy, fy]) ?_
  walk_at "w"
  refine CallP.pure rfl rfl (ratios_ok (y * B) (y * (40 * B)) r0 r1 r2 r3 (y * t) ⟨by omega, by omega⟩ ⟨by omega, by omega⟩ ⟨by omega, by omega⟩ ⟨by omega, by omega⟩ ⟨yt1, yt2⟩ (by omega) (by omega)
    (by rw [show r1 * (y * B - y * t) + r3 * (y * B - y * t) = y * (r1 * (B - t) + r3 * (B - t)) by grind, Int.mul_assoc]; exact big)) rfl rfl rfl ?_
  walk_at "w"
  refine CallP.pure rfl rfl (grown4 (r0 * (B - t)) (r1 * (B - t)) (r2 * (B - t)) (r3 * (B - t)) (r0 + r2) y _ (.inl rfl) ⟨by omega, by omega⟩ ⟨by omega, by omega⟩) rfl rfl rfl ?_
  have gy : ∀ r : Int, r * (y * B - y * t) = y * (r * (B - t)) := fun r => by grind
  walk_at "w"
  refine CmpP.eqT [fr (r0 * (y * B - y * t)) (r0 + r2), fr (r1 * (y * B - y * t)) (r0 + r2), fr (r2 * (y * B - y * t)) (r0 + r2), fr (r3 * (y * B - y * t)) (r0 + r2)] [fr (y * (r0 * (B - t))) (r0 + r2), fr (y * (r1 * (B - t))) (r0 + r2), fr (y * (r2 * (B - t))) (r0 + r2), fr (y * (r3 * (B - t))) (r0 + r2)] rfl rfl rfl ?_
  walk_at "w"
  exact ⟨rfl, by rw [decide_eq_true (by rw [gy, gy, gy, gy])]⟩
end CK04

namespace CK04
open PySem L2 VI
theorem all_mk {P : Program} {w : World} {K : PySem.W.Frag} {h : Heap} {mg : Str → Option Value} {fa : Addr} (X : K.In h) (G : h.Ns mainGlobals mg) (hfa : mg "law" = some (.ref fa))
    {f0 : Addr} {od0 an0 : Option Addr} {sl0 : Array (Option Value)} {oc0 kV0 dc0 pm0 cd0 ct0 : Value}
    {f1 : Addr} {od1 an1 : Option Addr} {sl1 : Array (Option Value)} {oc1 kV1 dc1 pm1 cd1 ct1 : Value}
    {f2 : Addr} {od2 an2 : Option Addr} {sl2 : Array (Option Value)} {oc2 kV2 dc2 pm2 cd2 ct2 : Value}
    {f3 : Addr} {od3 an3 : Option Addr} {sl3 : Array (Option Value)} {oc3 kV3 dc3 pm3 cd3 ct3 : Value}
    {f4 : Addr} {od4 an4 : Option Addr} {sl4 : Array (Option Value)} {oc4 kV4 dc4 pm4 cd4 ct4 : Value}
    {f5 : Addr} {od5 an5 : Option Addr} {sl5 : Array (Option Value)} {oc5 kV5 dc5 pm5 cd5 ct5 : Value}
    {f6 : Addr} {od6 an6 : Option Addr} {sl6 : Array (Option Value)} {oc6 kV6 dc6 pm6 cd6 ct6 : Value}
    {f7 : Addr} {od7 an7 : Option Addr} {sl7 : Array (Option Value)} {oc7 kV7 dc7 pm7 cd7 ct7 : Value}
    {f8 : Addr} {od8 an8 : Option Addr} {sl8 : Array (Option Value)} {oc8 kV8 dc8 pm8 cd8 ct8 : Value}
    {f9 : Addr} {od9 an9 : Option Addr} {sl9 : Array (Option Value)} {oc9 kV9 dc9 pm9 cd9 ct9 : Value}
    {f10 : Addr} {od10 an10 : Option Addr} {sl10 : Array (Option Value)} {oc10 kV10 dc10 pm10 cd10 ct10 : Value}
    {f11 : Addr} {od11 an11 : Option Addr} {sl11 : Array (Option Value)} {oc11 kV11 dc11 pm11 cd11 ct11 : Value}
    {f12 : Addr} {od12 an12 : Option Addr} {sl12 : Array (Option Value)} {oc12 kV12 dc12 pm12 cd12 ct12 : Value}
    {f13 : Addr} {od13 an13 : Option Addr} {sl13 : Array (Option Value)} {oc13 kV13 dc13 pm13 cd13 ct13 : Value}
    {f14 : Addr} {od14 an14 : Option Addr} {sl14 : Array (Option Value)} {oc14 kV14 dc14 pm14 cd14 ct14 : Value}
    {f15 : Addr} {od15 an15 : Option Addr} {sl15 : Array (Option Value)} {oc15 kV15 dc15 pm15 cd15 ct15 : Value}
    {f16 : Addr} {od16 an16 : Option Addr} {sl16 : Array (Option Value)} {oc16 kV16 dc16 pm16 cd16 ct16 : Value}
    {f17 : Addr} {od17 an17 : Option Addr} {sl17 : Array (Option Value)} {oc17 kV17 dc17 pm17 cd17 ct17 : Value}
    (a0 : PySem.W.nsIn K mainGlobals "_law_deck" = some (some (.ref f0))) (l0 : K.lookup f0 = some ⟨oc0, od0, .func (PySem.W.fnOf "_law_deck" "_law_deck" (defArgs (topS 18)) (defBody (topS 18)) (defScope (topS 18)) .none kV0 dc0 pm0 an0 cd0 ct0), sl0⟩) (c0 : PySem.W.codeIn K cd0 "_law_deck" = true) (k0 : PySem.W.keepIn K (.ref f0) = true)
    (a1 : PySem.W.nsIn K mainGlobals "check_size" = some (some (.ref f1))) (l1 : K.lookup f1 = some ⟨oc1, od1, .func (PySem.W.fnOf "check_size" "check_size" (defArgs (topS 5)) (defBody (topS 5)) (defScope (topS 5)) .none kV1 dc1 pm1 an1 cd1 ct1), sl1⟩) (c1 : PySem.W.codeIn K cd1 "check_size" = true) (k1 : PySem.W.keepIn K (.ref f1) = true)
    (a2 : PySem.W.nsIn K mainGlobals "fraction" = some (some (.ref f2))) (l2 : K.lookup f2 = some ⟨oc2, od2, .func (PySem.W.fnOf "fraction" "fraction" (defArgs (topS 7)) (defBody (topS 7)) (defScope (topS 7)) .none kV2 dc2 pm2 an2 cd2 ct2), sl2⟩) (c2 : PySem.W.codeIn K cd2 "fraction" = true) (k2 : PySem.W.keepIn K (.ref f2) = true)
    (a3 : PySem.W.nsIn K mainGlobals "canon" = some (some (.ref f3))) (l3 : K.lookup f3 = some ⟨oc3, od3, .func (PySem.W.fnOf "canon" "canon" (defArgs (topS 9)) (defBody (topS 9)) (defScope (topS 9)) .none kV3 dc3 pm3 an3 cd3 ct3), sl3⟩) (c3 : PySem.W.codeIn K cd3 "canon" = true) (k3 : PySem.W.keepIn K (.ref f3) = true)
    (a4 : PySem.W.nsIn K mainGlobals "plus" = some (some (.ref f4))) (l4 : K.lookup f4 = some ⟨oc4, od4, .func (PySem.W.fnOf "plus" "plus" (defArgs (topS 11)) (defBody (topS 11)) (defScope (topS 11)) .none kV4 dc4 pm4 an4 cd4 ct4), sl4⟩) (c4 : PySem.W.codeIn K cd4 "plus" = true) (k4 : PySem.W.keepIn K (.ref f4) = true)
    (a5 : PySem.W.nsIn K mainGlobals "check_margins" = some (some (.ref f5))) (l5 : K.lookup f5 = some ⟨oc5, od5, .func (PySem.W.fnOf "check_margins" "check_margins" (defArgs (topS 12)) (defBody (topS 12)) (defScope (topS 12)) .none kV5 dc5 pm5 an5 cd5 ct5), sl5⟩) (c5 : PySem.W.codeIn K cd5 "check_margins" = true) (k5 : PySem.W.keepIn K (.ref f5) = true)
    (a6 : PySem.W.nsIn K mainGlobals "text_block" = some (some (.ref f6))) (l6 : K.lookup f6 = some ⟨oc6, od6, .func (PySem.W.fnOf "text_block" "text_block" (defArgs (topS 13)) (defBody (topS 13)) (defScope (topS 13)) .none kV6 dc6 pm6 an6 cd6 ct6), sl6⟩) (c6 : PySem.W.codeIn K cd6 "text_block" = true) (k6 : PySem.W.keepIn K (.ref f6) = true)
    (a7 : PySem.W.nsIn K mainGlobals "_law_gcd" = some (some (.ref f7))) (l7 : K.lookup f7 = some ⟨oc7, od7, .func (PySem.W.fnOf "_law_gcd" "_law_gcd" (defArgs (topS 20)) (defBody (topS 20)) (defScope (topS 20)) .none kV7 dc7 pm7 an7 cd7 ct7), sl7⟩) (c7 : PySem.W.codeIn K cd7 "_law_gcd" = true) (k7 : PySem.W.keepIn K (.ref f7) = true)
    (a8 : PySem.W.nsIn K mainGlobals "_law_frac" = some (some (.ref f8))) (l8 : K.lookup f8 = some ⟨oc8, od8, .func (PySem.W.fnOf "_law_frac" "_law_frac" (defArgs (topS 21)) (defBody (topS 21)) (defScope (topS 21)) .none kV8 dc8 pm8 an8 cd8 ct8), sl8⟩) (c8 : PySem.W.codeIn K cd8 "_law_frac" = true) (k8 : PySem.W.keepIn K (.ref f8) = true)
    (a9 : PySem.W.nsIn K mainGlobals "_law_plus" = some (some (.ref f9))) (l9 : K.lookup f9 = some ⟨oc9, od9, .func (PySem.W.fnOf "_law_plus" "_law_plus" (defArgs (topS 22)) (defBody (topS 22)) (defScope (topS 22)) .none kV9 dc9 pm9 an9 cd9 ct9), sl9⟩) (c9 : PySem.W.codeIn K cd9 "_law_plus" = true) (k9 : PySem.W.keepIn K (.ref f9) = true)
    (a10 : PySem.W.nsIn K mainGlobals "area_share" = some (some (.ref f10))) (l10 : K.lookup f10 = some ⟨oc10, od10, .func (PySem.W.fnOf "area_share" "area_share" (defArgs (topS 14)) (defBody (topS 14)) (defScope (topS 14)) .none kV10 dc10 pm10 an10 cd10 ct10), sl10⟩) (c10 : PySem.W.codeIn K cd10 "area_share" = true) (k10 : PySem.W.keepIn K (.ref f10) = true)
    (a11 : PySem.W.nsIn K mainGlobals "by_ratios" = some (some (.ref f11))) (l11 : K.lookup f11 = some ⟨oc11, od11, .func (PySem.W.fnOf "by_ratios" "by_ratios" (defArgs (topS 10)) (defBody (topS 10)) (defScope (topS 10)) .none kV11 dc11 pm11 an11 cd11 ct11), sl11⟩) (c11 : PySem.W.codeIn K cd11 "by_ratios" = true) (k11 : PySem.W.keepIn K (.ref f11) = true)
    (a12 : PySem.W.nsIn K mainGlobals "facing" = some (some (.ref f12))) (l12 : K.lookup f12 = some ⟨oc12, od12, .func (PySem.W.fnOf "facing" "facing" (defArgs (topS 16)) (defBody (topS 16)) (defScope (topS 16)) .none kV12 dc12 pm12 an12 cd12 ct12), sl12⟩) (c12 : PySem.W.codeIn K cd12 "facing" = true) (k12 : PySem.W.keepIn K (.ref f12) = true)
    (a13 : PySem.W.nsIn K mainGlobals "_law_take" = some (some (.ref f13))) (l13 : K.lookup f13 = some ⟨oc13, od13, .func (PySem.W.fnOf "_law_take" "_law_take" (defArgs (topS 19)) (defBody (topS 19)) (defScope (topS 19)) .none kV13 dc13 pm13 an13 cd13 ct13), sl13⟩) (c13 : PySem.W.codeIn K cd13 "_law_take" = true) (k13 : PySem.W.keepIn K (.ref f13) = true)
    (a14 : PySem.W.nsIn K mainGlobals "_law_times" = some (some (.ref f14))) (l14 : K.lookup f14 = some ⟨oc14, od14, .func (PySem.W.fnOf "_law_times" "_law_times" (defArgs (topS 23)) (defBody (topS 23)) (defScope (topS 23)) .none kV14 dc14 pm14 an14 cd14 ct14), sl14⟩) (c14 : PySem.W.codeIn K cd14 "_law_times" = true) (k14 : PySem.W.keepIn K (.ref f14) = true)
    (a15 : PySem.W.nsIn K mainGlobals "_law_grown" = some (some (.ref f15))) (l15 : K.lookup f15 = some ⟨oc15, od15, .func (PySem.W.fnOf "_law_grown" "_law_grown" (defArgs (topS 24)) (defBody (topS 24)) (defScope (topS 24)) .none kV15 dc15 pm15 an15 cd15 ct15), sl15⟩) (c15 : PySem.W.codeIn K cd15 "_law_grown" = true) (k15 : PySem.W.keepIn K (.ref f15) = true)
    (a16 : PySem.W.nsIn K mainGlobals "has_page_ratio" = some (some (.ref f16))) (l16 : K.lookup f16 = some ⟨oc16, od16, .func (PySem.W.fnOf "has_page_ratio" "has_page_ratio" (defArgs (topS 15)) (defBody (topS 15)) (defScope (topS 15)) .none kV16 dc16 pm16 an16 cd16 ct16), sl16⟩) (c16 : PySem.W.codeIn K cd16 "has_page_ratio" = true) (k16 : PySem.W.keepIn K (.ref f16) = true)
    (a17 : PySem.W.nsIn K mainGlobals "law" = some (some (.ref f17))) (l17 : K.lookup f17 = some ⟨oc17, od17, .func (PySem.W.fnOf "law" "law" (defArgs (topS 25)) (defBody (topS 25)) (defScope (topS 25)) .none kV17 dc17 pm17 an17 cd17 ct17), sl17⟩) (c17 : PySem.W.codeIn K cd17 "law" = true) (k17 : PySem.W.keepIn K (.ref f17) = true)
    (z6 : PySem.W.nsIn K mainGlobals "tuple" = some none)
    (z5 : PySem.W.nsIn K mainGlobals "range" = some none)
    (z4 : PySem.W.nsIn K mainGlobals "len" = some none)
    (z3 : PySem.W.nsIn K mainGlobals "int" = some none)
    (z2 : PySem.W.nsIn K mainGlobals "gcd" = some (some (.builtin "math.gcd")))
    (z1 : PySem.W.nsIn K mainGlobals "any" = some none)
    (z0 : PySem.W.nsIn K mainGlobals "abs" = some none) :
    ∃ fd : FuncData, (∀ (s : Shared) (v : Value), BindsTo s fd ⟨[v], []⟩ [("script", v)]) ∧ ∀ base : Heap, K.In base → base.Ns mainGlobals mg → FnOk P w K mg base CX0 18 fa fd ["script"] (spV K F17) :=
  law_at 1000 hfa (def_mk X G a17 l17 c17 k17) sc17 bi17 rfl rfl (by decide) ck17 (fun base => tab (def_mk X G a0 l0 c0 k0) (def_mk X G a1 l1 c1 k1) (def_mk X G a2 l2 c2 k2) (def_mk X G a3 l3 c3 k3) (def_mk X G a4 l4 c4 k4) (def_mk X G a5 l5 c5 k5) (def_mk X G a6 l6 c6 k6) (def_mk X G a7 l7 c7 k7) (def_mk X G a8 l8 c8 k8) (def_mk X G a9 l9 c9 k9) (def_mk X G a10 l10 c10 k10) (def_mk X G a11 l11 c11 k11) (def_mk X G a12 l12 c12 k12) (def_mk X G a13 l13 c13 k13) (def_mk X G a14 l14 c14 k14) (def_mk X G a15 l15 c15 k15) (def_mk X G a16 l16 c16 k16) Cons.nil (Frees.cons (PySem.W.mg_none_of X G z0) (by decide) (Frees.cons (PySem.W.mg_none_of X G z1) (by decide) (Frees.gcdc (PySem.W.mg_of X G z2) (Frees.cons (PySem.W.mg_none_of X G z3) (by decide) (Frees.cons (PySem.W.mg_none_of X G z4) (by decide) (Frees.cons (PySem.W.mg_none_of X G z5) (by decide) (Frees.cons (PySem.W.mg_none_of X G z6) (by decide) Frees.nil))))))) base) Cons.nil (Frees.cons (PySem.W.mg_none_of X G z0) (by decide) (Frees.cons (PySem.W.mg_none_of X G z1) (by decide) (Frees.gcdc (PySem.W.mg_of X G z2) (Frees.cons (PySem.W.mg_none_of X G z3) (by decide) (Frees.cons (PySem.W.mg_none_of X G z4) (by decide) (Frees.cons (PySem.W.mg_none_of X G z5) (by decide) (Frees.cons (PySem.W.mg_none_of X G z6) (by decide) Frees.nil)))))))
end CK04
open PySem PySem.W PyProof.Rows
theorem PySem.Challenge.cw_presswork_k04_whole_margins_of_greater_p_holds : PySem.Challenge.rw_presswork_k04_whole_margins_of_greater_p.Holds := by
  w_on; o_law; k_head; (case hw => w_witness2)
  k_fill
  refine L2.walk_ofK (l := PySem.Challenge.rw_presswork_k04_whole_margins_of_greater_p) (n := 63) (k := 18) (x := "script") (CX := L2.CX0) (sp := fun K => VI.spV K CK04.F17) rfl (by decide) rfl ⟨rfl, by decide, by decide⟩ (fun w h Y => PySem.W.kIn_of Y) ?F (fun K H a ns hl _ hS => VI.law_sp rfl (CK04.plain ns hl) hS) (fun _ _ _ _ h => h)
  case F =>
    intro w mg fa h KX G hmg
    refine' CK04.all_mk KX G hmg ?a0 ?l0 ?c0 ?k0 ?a1 ?l1 ?c1 ?k1 ?a2 ?l2 ?c2 ?k2 ?a3 ?l3 ?c3 ?k3 ?a4 ?l4 ?c4 ?k4 ?a5 ?l5 ?c5 ?k5 ?a6 ?l6 ?c6 ?k6 ?a7 ?l7 ?c7 ?k7 ?a8 ?l8 ?c8 ?k8 ?a9 ?l9 ?c9 ?k9 ?a10 ?l10 ?c10 ?k10 ?a11 ?l11 ?c11 ?k11 ?a12 ?l12 ?c12 ?k12 ?a13 ?l13 ?c13 ?k13 ?a14 ?l14 ?c14 ?k14 ?a15 ?l15 ?c15 ?k15 ?a16 ?l16 ?c16 ?k16 ?a17 ?l17 ?c17 ?k17 ?z6 ?z5 ?z4 ?z3 ?z2 ?z1 ?z0
    (case a0 => k_is); (case l0 => k_is); (case c0 => k_is); (case k0 => k_is); (case a1 => k_is); (case l1 => k_is); (case c1 => k_is); (case k1 => k_is); (case a2 => k_is); (case l2 => k_is); (case c2 => k_is); (case k2 => k_is); (case a3 => k_is); (case l3 => k_is); (case c3 => k_is); (case k3 => k_is); (case a4 => k_is); (case l4 => k_is); (case c4 => k_is); (case k4 => k_is); (case a5 => k_is); (case l5 => k_is); (case c5 => k_is); (case k5 => k_is); (case a6 => k_is); (case l6 => k_is); (case c6 => k_is); (case k6 => k_is); (case a7 => k_is); (case l7 => k_is); (case c7 => k_is); (case k7 => k_is); (case a8 => k_is); (case l8 => k_is); (case c8 => k_is); (case k8 => k_is); (case a9 => k_is); (case l9 => k_is); (case c9 => k_is); (case k9 => k_is); (case a10 => k_is); (case l10 => k_is); (case c10 => k_is); (case k10 => k_is); (case a11 => k_is); (case l11 => k_is); (case c11 => k_is); (case k11 => k_is); (case a12 => k_is); (case l12 => k_is); (case c12 => k_is); (case k12 => k_is); (case a13 => k_is); (case l13 => k_is); (case c13 => k_is); (case k13 => k_is); (case a14 => k_is); (case l14 => k_is); (case c14 => k_is); (case k14 => k_is); (case a15 => k_is); (case l15 => k_is); (case c15 => k_is); (case k15 => k_is); (case a16 => k_is); (case l16 => k_is); (case c16 => k_is); (case k16 => k_is); (case a17 => k_is); (case l17 => k_is); (case c17 => k_is); (case k17 => k_is); (case z6 => k_is); (case z5 => k_is); (case z4 => k_is); (case z3 => k_is); (case z2 => k_is); (case z1 => k_is); (case z0 => k_is)

