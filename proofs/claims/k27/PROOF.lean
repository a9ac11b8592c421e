import PyProof.Rows.All
import Wide.All
import OpenK.AllK
import Wide.FinOn
import HandS.ForMost
import HandS.Wide
import HandS.TupAny
import HandS.TupMul
import HandS.Style
import HandS.Deep
import HandS.IsInst
import PyProof.Rows.EqDataRows
import PyProof.NeKinds
import HandS.RaiseMore
import HandS.More
import KE.SortData
import HandS.WordsExc
import HandS.Zip
import KE.GoesMore
import HandS.Small
import HandS.MakeKwOnly
import HandS.Ends
import PySem.Challenge.RW_doubtbooks_k27_whole_what_a_manner_lacks
set_option Elab.async false
set_option linter.all false
section
set_option linter.all false
set_option autoImplicit false
/-! MiCore: Mini, an own small language: values, stores, the syntax, the interpreter. -/
namespace Mi

/-- a value: tuples stand by value, lists and dicts by a reference into the store -/
inductive Val where
  | non
  | bl (b : Bool)
  | int (i : Int)
  | str (x : List Nat)
  | tup (xs : List Val)
  | ref (n : Nat)

mutual
def Val.beq : Val → Val → Bool
  | .non, .non => true
  | .bl a, .bl b => a == b
  | .int a, .int b => a == b
  | .str a, .str b => a == b
  | .tup a, .tup b => Val.beqs a b
  | .ref a, .ref b => a == b
  | _, _ => false
def Val.beqs : List Val → List Val → Bool
  | [], [] => true
  | x :: xs, y :: ys => Val.beq x y && Val.beqs xs ys
  | _, _ => false
end
mutual
theorem Val.beq_refl : ∀ a : Val, Val.beq a a = true
  | .non => by simp [Val.beq]
  | .bl b => by simp [Val.beq]
  | .int b => by simp [Val.beq]
  | .str b => by simp [Val.beq]
  | .tup xs => by simp [Val.beq, Val.beqs_refl xs]
  | .ref b => by simp [Val.beq]
theorem Val.beqs_refl : ∀ a : List Val, Val.beqs a a = true
  | [] => by simp [Val.beqs]
  | x :: xs => by simp [Val.beqs, Val.beq_refl x, Val.beqs_refl xs]
end
mutual
theorem Val.eq_of_beq : ∀ a b : Val, Val.beq a b = true → a = b
  | .non, b, h => by cases b <;> simp_all [Val.beq]
  | .bl _, b, h => by cases b <;> simp_all [Val.beq]
  | .int _, b, h => by cases b <;> simp_all [Val.beq]
  | .str _, b, h => by cases b <;> simp_all [Val.beq]
  | .tup xs, b, h => by
    cases b with
    | tup ys => rw [Val.eq_of_beqs xs ys (by simpa [Val.beq] using h)]
    | _ => simp [Val.beq] at h
  | .ref _, b, h => by cases b <;> simp_all [Val.beq]
theorem Val.eq_of_beqs : ∀ a b : List Val, Val.beqs a b = true → a = b
  | [], b, h => by cases b <;> simp_all [Val.beqs]
  | x :: xs, b, h => by
    cases b with
    | nil => simp [Val.beqs] at h
    | cons y ys =>
      simp only [Val.beqs, Bool.and_eq_true] at h
      rw [Val.eq_of_beq x y h.1, Val.eq_of_beqs xs ys h.2]
end
instance : BEq Val := ⟨Val.beq⟩
instance : LawfulBEq Val where
  rfl := fun {a} => Val.beq_refl a
  eq_of_beq := fun {a b} h => Val.eq_of_beq a b h
instance : DecidableEq Val := fun a b => if h : Val.beq a b = true then .isTrue (Val.eq_of_beq a b h) else .isFalse fun e => h (e ▸ Val.beq_refl a)

/-- what the store holds: a list, a list that is only read, a dict (t: its keys are tuples) -/
inductive Obj where
  | lst (xs : List Val)
  | frz (xs : List Val)
  | dic (t : Bool) (kvs : List (Val × Val))
  deriving DecidableEq
abbrev Store := List Obj
/-- an expression's value: a value, or a new list that nobody holds yet -/
inductive RV where
  | v (x : Val)
  | l (xs : List Val)
  deriving DecidableEq
inductive Res (α : Type) where
  | ok (a : α) (st : Store)
  | exc (c : Nat) (p : List Val) (st : Store)
  | bad
abbrev Env := List (Option Val)
abbrev Fn := List Val → Store → Res RV

def Res.bind {α β : Type} : Res α → (α → Store → Res β) → Res β
  | .ok a st, f => f a st
  | .exc c p st, _ => .exc c p st
  | .bad, _ => .bad
/-- an option in the place of a result -/
def lift {α : Type} (o : Option α) (st : Store) : Res α := match o with
  | some a => .ok a st
  | none => .bad

mutual
/-- no reference within -/
def Val.nr : Val → Bool
  | .tup xs => Val.nrs xs
  | .ref _ => false
  | _ => true
def Val.nrs : List Val → Bool
  | [] => true
  | x :: xs => Val.nr x && Val.nrs xs
end

abbrev top : Nat := 16777216

/-! ### views -/
/-- the list that stands at a reference -/
def lstAt (st : Store) (n : Nat) : Option (List Val) := match st[n]? with
  | some (.lst xs) => some xs
  | some (.frz xs) => some xs
  | _ => none
/-- a sequence: whether it is a list, and its items -/
def seqV (st : Store) : Val → Option (Bool × List Val)
  | .tup xs => some (false, xs)
  | .ref n => (lstAt st n).map fun xs => (true, xs)
  | _ => none
def seqR (st : Store) : RV → Option (Bool × List Val)
  | .v x => seqV st x
  | .l xs => some (true, xs)
def dicAt (st : Store) : RV → Option (Nat × Bool × List (Val × Val))
  | .v (.ref n) => match st[n]? with
    | some (.dic t kvs) => some (n, t, kvs)
    | _ => none
  | _ => none
/-- a list that may be changed -/
def mutAt (st : Store) : RV → Option (Nat × List Val)
  | .v (.ref n) => match st[n]? with
    | some (.lst xs) => some (n, xs)
    | _ => none
  | _ => none
/-- a list that is no locked one -/
def ownL (st : Store) : RV → Option (List Val)
  | .l xs => some xs
  | .v (.ref n) => match st[n]? with
    | some (.lst xs) => some xs
    | _ => none
  | _ => none
/-- a new list moves into the store -/
def settle (r : RV) (st : Store) : Val × Store := match r with
  | .v x => (x, st)
  | .l xs => (.ref st.length, st ++ [.lst xs])
def settles : List RV → Store → List Val × Store
  | [], st => ([], st)
  | r :: rs, st =>
    let p := settle r st
    let q := settles rs p.2
    (p.1 :: q.1, q.2)

def truthV (st : Store) : RV → Option Bool
  | .v .non => some false
  | .v (.bl b) => some b
  | .v (.int i) => some (i != 0)
  | .v (.str x) => if x.length ≤ top then some (!x.isEmpty) else none
  | .v (.tup xs) => some (!xs.isEmpty)
  | .v (.ref n) => match st[n]? with
    | some (.lst xs) => some (!xs.isEmpty)
    | some (.frz xs) => some (!xs.isEmpty)
    | some (.dic false kvs) => some (!kvs.isEmpty)
    | _ => none
  | .l xs => some (!xs.isEmpty)

/-! ### equality, order -/
def b2i (b : Bool) : Int := if b then 1 else 0
def eqFlat : Val → Val → Option Bool
  | .non, .non => some true
  | .bl a, .bl b => some (a == b)
  | .bl a, .int j => some (b2i a == j)
  | .int i, .bl b => some (i == b2i b)
  | .int i, .int j => some (i == j)
  | .str x, .str y => some (x == y)
  | .non, .bl _ | .non, .int _ | .non, .str _ => some false
  | .bl _, .non | .bl _, .str _ => some false
  | .int _, .non | .int _, .str _ => some false
  | .str _, .non | .str _, .bl _ | .str _, .int _ => some false
  | _, _ => none
def isFlat : Val → Bool
  | .non | .bl _ | .int _ | .str _ => true
  | _ => false
def eqAll (f : Val → Val → Option Bool) : List Val → List Val → Option Bool
  | [], [] => some true
  | x :: xs, y :: ys => (f x y).bind fun b => (eqAll f xs ys).bind fun c => some (b && c)
  | [], _ :: _ => some false
  | _ :: _, [] => some false
def eqV : Nat → Store → Val → Val → Option Bool
  | 0, _, _, _ => none
  | n + 1, st, a, b => match seqV st a, seqV st b with
    | some (k, xs), some (j, ys) => if k == j then (if k && xs.length != ys.length then some false else eqAll (eqV n st) xs ys) else some false
    | some _, none => if isFlat b then some false else none
    | none, some _ => if isFlat a then some false else none
    | none, none => eqFlat a b
def eqR (st : Store) (a b : RV) : Option Bool := match seqR st a, seqR st b with
    | some (k, xs), some (j, ys) => if k == j then (if k && xs.length != ys.length then some false else eqAll (eqV 60 st) xs ys) else some false
    | some _, none => match b with
      | .v b => if isFlat b then some false else none
      | .l _ => none
    | none, some _ => match a with
      | .v a => if isFlat a then some false else none
      | .l _ => none
    | none, none => match a, b with
      | .v a, .v b => eqFlat a b
      | _, _ => none
def anyEq (st : Store) (x : Val) : List Val → Option Bool
  | [] => some false
  | y :: ys => (eqV 60 st y x).bind fun b => (anyEq st x ys).bind fun c => some (b || c)
def placeEq (st : Store) (x : Val) : List Val → Option Nat
  | [] => none
  | y :: ys => (eqV 60 st y x).bind fun b => if b then some 0 else (placeEq st x ys).map (· + 1)
def countEq (st : Store) (x : Val) : List Val → Option Nat
  | [] => some 0
  | y :: ys => (eqV 60 st y x).bind fun b => (countEq st x ys).map fun n => if b then n + 1 else n

/-! ### places, parts -/
def ix (n : Nat) (i : Int) : Option Nat := if 0 ≤ i then (if i < n then some i.toNat else none) else if -(n : Int) ≤ i then some (i + n).toNat else none
def at' {α : Type} (xs : List α) (i : Int) : Option α := (ix xs.length i).bind fun j => xs[j]?
def cutIx (n d : Nat) : Option Int → Nat
  | none => d
  | some v => if v < 0 then (v + (n : Int)).toNat else min v.toNat n
def cut {α : Type} (xs : List α) (lo hi : Option Int) : List α :=
  (xs.drop (cutIx xs.length 0 lo)).take (cutIx xs.length xs.length hi - cutIx xs.length 0 lo)

/-! ### dicts -/
def keyOk : Bool → Val → Bool
  | false, .int _ => true
  | false, .str _ => true
  | _, _ => false
def kget (kvs : List (Val × Val)) (k : Val) : Option Val := match kvs with
  | [] => none
  | (k', v) :: r => if k' == k then some v else kget r k
def kput (kvs : List (Val × Val)) (k v : Val) : List (Val × Val) :=
  if kvs.any (fun kv => kv.1 == k) then kvs.map (fun kv => if kv.1 == k then (kv.1, v) else kv) else kvs ++ [(k, v)]
end Mi
end
section
set_option linter.all false
set_option autoImplicit false
/-! MiEval: Mini's syntax and interpreter. -/
namespace Mi

inductive O1 where
  | neg | abs | len | int | str | repr | tuple | list | sorted | sum | isNon | notNon | isStr | isInt | isTup | isBool | pop | rev
  deriving DecidableEq
inductive O2 where
  | add | sub | mul | mod | fdiv | pow | eq | ne | lt | le | gt | ge | isin | notin | ix | append | extend | popAt | index | count
  deriving DecidableEq
inductive O3 where
  | insert
  deriving DecidableEq
/-- targets -/
inductive T where
  | sl (i : Nat)
  | tp (ts : T)
  | nil
  | cons (t ts : T)
/-- what is walked -/
inductive IK where
  | seq | range1 | range2 | enum | zip
  deriving DecidableEq
inductive E where
  | k (v : Val)
  | x (i : Nat)
  | g (nm : List Nat) (v : Val)
  | nil
  | cons (h t : E)
  | tup (es : E)
  | lst (es : E)
  | dic (t : Bool) (es : E)
  | op1 (o : O1) (a : E)
  | op2 (o : O2) (a b : E)
  | op3 (o : O3) (a b c : E)
  | sl (a lo hi : E)
  | and (a b : E)
  | or (a b : E)
  | not (a : E)
  | ite (c a b : E)
  | chain (o p : O2) (a b c : E)
  | call (m : Bool) (j : Nat) (kw : List Nat) (es : E)
  | comp (own : List Nat) (tg : T) (ik : IK) (a b c e : E)
inductive G where
  | tg (t : T)
  | sub (o i : E)
  | nil
  | cons (g gs : G)
inductive S where
  | skip
  | seq (s t : S)
  | asg (g : G) (e : E)
  | ex (e : E)
  | ret (e : E)
  | retN
  | ite (c : E) (s t : S)
  | whil (c : E) (s : S)
  | fo (tg : T) (ik : IK) (a b : E) (s : S)
  | brk | cont | never
inductive Out where
  | nx (ρ : Env) | rt (r : RV) | bk (ρ : Env) | ct (ρ : Env)

/-! ### texts -/
open PySem in
def toStr (x : List Nat) : Str := ⟨x.toArray⟩
/-- the datum that a value without references is -/
def datF : Nat → Store → Val → Option PySem.PyData
  | 0, _, _ => none
  | n + 1, st, a => match seqV st a with
    | some (true, xs) => (xs.mapM (datF n st)).map .list
    | some (false, xs) => (xs.mapM (datF n st)).map .tuple
    | none => match a with
      | .non => some .none
      | .bl b => some (.bool b)
      | .int i => if i.natAbs.log2 < 1920 then some (.int i) else none
      | .str x => if x.all (fun c => decide (c < 4294967296)) then some (.str (toStr x)) else none
      | _ => none
def datR (st : Store) : RV → Option PySem.PyData
  | .v a => datF 60 st a
  | .l xs => (xs.mapM (datF 59 st)).map .list

mutual
/-- how long a datum's text may be -/
def dsz : PySem.PyData → Nat
  | .none => 4
  | .bool _ => 5
  | .int _ => 1921
  | .str x => 10 * x.length + 2
  | .list xs => dszs xs + 2
  | .tuple xs => dszs xs + 3
  | .dict _ => 0
def dszs : List PySem.PyData → Nat
  | [] => 0
  | x :: xs => dsz x + 2 + dszs xs
end

/-! ### the order -/
mutual
def ltV : Val → Val → Option Bool
  | .int i, .int j => some (decide (i < j))
  | .str x, .str y => some (decide (x < y))
  | .tup xs, .tup ys => ltVs xs ys
  | _, _ => none
def ltVs : List Val → List Val → Option Bool
  | [], [] => some false
  | [], _ :: _ => some true
  | _ :: _, [] => some false
  | x :: xs, y :: ys => if x == y then ltVs xs ys else ltV x y
end
def leV (x y : Val) : Bool := (ltV y x).elim false fun b => !b
/-- all can be compared -/
def comparable (xs : List Val) : Bool := xs.all fun x => xs.all fun y => (ltV x y).isSome
def allInts : List Val → Option (List Int)
  | [] => some []
  | .int i :: r => (allInts r).map fun l => i :: l
  | _ => none
def allStrs : List Val → Option (List (List Nat))
  | [] => some []
  | .str i :: r => (allStrs r).map fun l => i :: l
  | _ => none

/-- a sort that Lean's kernel computes -/
def insV {α : Type} (le : α → α → Bool) (x : α) : List α → List α
  | [] => [x]
  | y :: ys => if le x y then x :: y :: ys else y :: insV le x ys
def isort {α : Type} (le : α → α → Bool) : List α → List α
  | [] => []
  | x :: xs => insV le x (isort le xs)
def leN : List Nat → List Nat → Bool
  | [], _ => true
  | _ :: _, [] => false
  | x :: xs, y :: ys => if x < y then true else if x = y then leN xs ys else false
/-! ### operations -/
def ov (x : Option Val) (st : Store) : Res RV := lift (x.map .v) st
def ol (x : Option (List Val)) (st : Store) : Res RV := lift (x.map .l) st
def intOf : RV → Option Int
  | .v (.int i) => some i
  | _ => none
def f1 (o : O1) (a : RV) (st : Store) : Res RV := match o with
  | .neg => match a with
    | .v (.int i) => .ok (.v (.int (-i))) st
    | _ => .bad
  | .abs => match a with
    | .v (.int i) => .ok (.v (.int (if i < 0 then -i else i))) st
    | _ => .bad
  | .int => match a with
    | .v (.int i) => .ok (.v (.int i)) st
    | .v (.bl b) => .ok (.v (.int (if b then 1 else 0))) st
    | _ => .bad
  | .len => match seqR st a with
    | some (_, xs) => .ok (.v (.int xs.length)) st
    | none => match a with
      | .v (.str x) => if x.length ≤ top then .ok (.v (.int x.length)) st else .bad
      | _ => match dicAt st a with
        | some (_, false, kvs) => .ok (.v (.int kvs.length)) st
        | _ => .bad
  | .str => match a with
    | .v (.int i) => if i.natAbs.log2 < 1920 then .ok (.v (.str (PySem.Str.ofString (toString i)).cps.toList)) st else .bad
    | _ => .bad
  | .repr => match datR st a with
    | some d => if dsz d ≤ top then .ok (.v (.str d.shown.cps.toList)) st else .bad
    | none => .bad
  | .tuple => match seqR st a with
    | some (_, xs) => .ok (.v (.tup xs)) st
    | none => .bad
  | .list => match seqR st a with
    | some (_, xs) => .ok (.l xs) st
    | none => .bad
  | .sorted => match seqR st a with
    | some (true, xs) => if xs.length < 64 then match allStrs xs with
      | some ys => .ok (.l ((isort leN ys).map .str)) st
      | none => match allInts xs with
        | some ys => .ok (.l ((isort (fun a b => decide (a ≤ b)) ys).map .int)) st
        | none => .bad
      else .bad
    | _ => .bad
  | .sum => match seqR st a with
    | some (true, xs) => match allInts xs with
      | some ys => .ok (.v (.int ys.sum)) st
      | none => .bad
    | _ => .bad
  | .isNon => match a with
    | .v x => .ok (.v (.bl (x == .non))) st
    | .l _ => .ok (.v (.bl false)) st
  | .notNon => match a with
    | .v x => .ok (.v (.bl (!(x == .non)))) st
    | .l _ => .ok (.v (.bl true)) st
  | .isStr => match a with
    | .v (.str _) => .ok (.v (.bl true)) st
    | .v (.ref _) => .bad
    | .v _ => .ok (.v (.bl false)) st
    | .l _ => .ok (.v (.bl false)) st
  | .isInt => match a with
    | .v (.int _) => .ok (.v (.bl true)) st
    | .v (.bl _) => .ok (.v (.bl true)) st
    | .v (.ref _) => .bad
    | .v _ => .ok (.v (.bl false)) st
    | .l _ => .ok (.v (.bl false)) st
  | .isTup => match a with
    | .v (.tup _) => .ok (.v (.bl true)) st
    | .v (.ref _) => .bad
    | .v _ => .ok (.v (.bl false)) st
    | .l _ => .ok (.v (.bl false)) st
  | .isBool => match a with
    | .v (.bl _) => .ok (.v (.bl true)) st
    | .v (.ref _) => .bad
    | .v _ => .ok (.v (.bl false)) st
    | .l _ => .ok (.v (.bl false)) st
  | .pop => match mutAt st a with
    | some (n, xs) => match xs[xs.length - 1]? with
      | some y => .ok (.v y) (st.set n (.lst xs.dropLast))
      | none => .bad
    | none => .bad
  | .rev => match seqR st a with
    | some (true, xs) => .ok (.l xs.reverse) st
    | _ => .bad
def cmpI (p : Int → Int → Bool) (a b : RV) (st : Store) : Res RV := match a, b with
  | .v (.int i), .v (.int j) => .ok (.v (.bl (p i j))) st
  | _, _ => .bad
def f2 (o : O2) (a b : RV) (st : Store) : Res RV := match o with
  | .add => match a, b with
    | .v (.int i), .v (.int j) => .ok (.v (.int (i + j))) st
    | .v (.str x), .v (.str y) => if x.length + y.length ≤ top then .ok (.v (.str (x ++ y))) st else .bad
    | .v (.tup x), .v (.tup y) => if x.length + y.length ≤ top then .ok (.v (.tup (x ++ y))) st else .bad
    | _, _ => match ownL st a, ownL st b with
      | some x, some y => if x.length + y.length ≤ top then .ok (.l (x ++ y)) st else .bad
      | _, _ => .bad
  | .sub => match a, b with
    | .v (.int i), .v (.int j) => .ok (.v (.int (i - j))) st
    | _, _ => .bad
  | .mul => match a, b with
    | .v (.int i), .v (.int j) => if i.natAbs < 2 ^ 64 ∨ j.natAbs < 2 ^ 64 ∨ i.natAbs.log2 + j.natAbs.log2 < 1000000 then .ok (.v (.int (i * j))) st else .bad
    | .v (.tup xs), .v (.int j) => if 2 ≤ j ∧ j ≤ 1000 ∧ xs.length ≤ 1000 ∧ xs ≠ [] then .ok (.v (.tup (List.replicate j.toNat xs).flatten)) st else .bad
    | _, .v (.int j) => match ownL st a with
      | some xs => if -(2 ^ 63) ≤ j ∧ j < 2 ^ 63 ∧ xs.length * j.toNat ≤ top then .ok (.l (List.replicate j.toNat xs).flatten) st else .bad
      | none => .bad
    | _, _ => .bad
  | .mod => match a, b with
    | .v (.int i), .v (.int j) => if 0 < j then .ok (.v (.int (i % j))) st else .bad
    | _, _ => .bad
  | .fdiv => match a, b with
    | .v (.int i), .v (.int j) => if 0 < j ∧ j.natAbs.log2 < 9000 then .ok (.v (.int (i / j))) st else .bad
    | _, _ => .bad
  | .pow => match a, b with
    | .v (.int i), .v (.int j) => if 0 ≤ j ∧ j ≤ 1000000 ∧ i.natAbs < 2 ^ 64 then .ok (.v (.int (i ^ j.toNat))) st else .bad
    | _, _ => .bad
  | .eq => ov ((eqR st a b).map .bl) st
  | .ne => ov ((eqR st a b).map fun b => .bl (!b)) st
  | .lt => cmpI (fun i j => decide (i < j)) a b st
  | .le => cmpI (fun i j => decide (i ≤ j)) a b st
  | .gt => cmpI (fun i j => decide (j < i)) a b st
  | .ge => cmpI (fun i j => decide (j ≤ i)) a b st
  | .isin => match a with
    | .v x => match seqR st b with
      | some (_, ys) => ov ((anyEq st x ys).map .bl) st
      | none => .bad
    | .l _ => .bad
  | .notin => match a with
    | .v x => match seqR st b with
      | some (_, ys) => ov ((anyEq st x ys).map fun b => .bl (!b)) st
      | none => .bad
    | .l _ => .bad
  | .ix => match b with
    | .v k => match seqR st a, k with
      | some (_, xs), .int i => ov (at' xs i) st
      | some _, _ => .bad
      | none, _ => match dicAt st a with
        | some (_, t, kvs) => if keyOk t k then ov (kget kvs k) st else .bad
        | none => .bad
    | .l _ => .bad
  | .append => match mutAt st a with
    | some (n, xs) => if xs.length < top then
        let p := settle b st
        .ok (.v .non) (p.2.set n (.lst (xs ++ [p.1]))) else .bad
    | none => .bad
  | .extend => match mutAt st a, ownL st b with
    | some (n, xs), some ys => if xs.length + ys.length ≤ top then .ok (.v .non) (st.set n (.lst (xs ++ ys))) else .bad
    | _, _ => .bad
  | .popAt => match mutAt st a, b with
    | some (n, xs), .v (.int i) => match ix xs.length i with
      | some j => match xs[j]? with
        | some y => .ok (.v y) (st.set n (.lst (xs.eraseIdx j)))
        | none => .bad
      | none => .bad
    | _, _ => .bad
  | .index => match seqR st a, b with
    | some (true, xs), .v y => ov ((placeEq st y xs).map fun n => .int n) st
    | _, _ => .bad
  | .count => match seqR st a, b with
    | some (true, xs), .v y => ov ((countEq st y xs).map fun n => .int n) st
    | _, _ => .bad
def f3 (o : O3) (a b c : RV) (st : Store) : Res RV := match o with
  | .insert => match mutAt st a, b with
    | some (n, xs), .v (.int 0) => if xs.length < top then
        let p := settle c st
        .ok (.v .non) (p.2.set n (.lst (p.1 :: xs))) else .bad
    | _, _ => .bad
/-- a[lo:hi] -/
def fsl (a : RV) (lo hi : Option Int) (st : Store) : Res RV := match seqR st a with
  | some (true, xs) => .ok (.l (cut xs lo hi)) st
  | some (false, xs) => .ok (.v (.tup (cut xs lo hi))) st
  | none => match a with
    | .v (.str x) => if x.length ≤ top then .ok (.v (.str (cut x lo hi))) st else .bad
    | _ => .bad

/-! ### targets, walks -/
mutual
def bindT : T → Val → Env → Option Env
  | .sl i, v, ρ => if i < ρ.length then some (ρ.set i (some v)) else none
  | .tp ts, v, ρ => match v with
    | .tup xs => bindTs ts xs ρ
    | _ => none
  | _, _, _ => none
def bindTs : T → List Val → Env → Option Env
  | .nil, [], ρ => some ρ
  | .cons t ts, x :: xs, ρ => (bindT t x ρ).bind fun ρ' => bindTs ts xs ρ'
  | _, _, _ => none
end
/-- the items of a walk, and the lists that have to stay as they are -/
def watch : RV → List Val → List (Nat × List Val)
  | .v (.ref n), xs => [(n, xs)]
  | _, _ => []
def rng (lo : Int) (n : Nat) : List Val := (List.range n).map fun (i : Nat) => Val.int (lo + (i : Int))
def zipE (xs : List Val) : List Val := (xs.zipIdx).map fun p => .tup [.int p.2, p.1]
def walk (k : IK) (a b : RV) (st : Store) : Option (List Val × List (Nat × List Val)) := match k with
  | .seq => (seqR st a).map fun p => (p.2, watch a p.2)
  | .range1 => match a with
    | .v (.int j) => if -(2 ^ 62) ≤ j ∧ j < 2 ^ 62 then some (rng 0 j.toNat, []) else none
    | _ => none
  | .range2 => match a, b with
    | .v (.int i), .v (.int j) => if -(2 ^ 62) ≤ i ∧ i < 2 ^ 62 ∧ -(2 ^ 62) ≤ j ∧ j < 2 ^ 62 then some (rng i (j - i).toNat, []) else none
    | _, _ => none
  | .enum => match seqR st a with
    | some (true, xs) => some (zipE xs, watch a xs)
    | some (false, xs) => some (zipE xs, [])
    | none => none
  | .zip => match seqR st a, seqR st b with
    | some (k, xs), some (j, ys) => if k == j then some ((xs.zip ys).map fun p => .tup [p.1, p.2], watch a xs ++ watch b ys) else none
    | _, _ => none
def stands (w : List (Nat × List Val)) (st : Store) : Bool := w.all fun p => lstAt st p.1 == some p.2
def forLoop (w : List (Nat × List Val)) (tg : T) (f : Env → Store → Res Out) : List Val → Env → Store → Res Out
  | [], ρ, st => if stands w st then .ok (.nx ρ) st else .bad
  | x :: xs, ρ, st => if stands w st then match bindT tg x ρ with
    | some ρ1 => (f ρ1 st).bind fun o st2 => match o with
      | .nx ρ2 => forLoop w tg f xs ρ2 st2
      | .ct ρ2 => forLoop w tg f xs ρ2 st2
      | .bk ρ2 => .ok (.nx ρ2) st2
      | .rt r => .ok (.rt r) st2
    | none => .bad
    else .bad
def whileLoop (c : Env → Store → Res Bool) (f : Env → Store → Res Out) : Nat → Env → Store → Res Out
  | 0, _, _ => .bad
  | n + 1, ρ, st => (c ρ st).bind fun b st1 => if b then (f ρ st1).bind fun o st2 => match o with
      | .nx ρ2 => whileLoop c f n ρ2 st2
      | .ct ρ2 => whileLoop c f n ρ2 st2
      | .bk ρ2 => .ok (.nx ρ2) st2
      | .rt r => .ok (.rt r) st2
    else .ok (.nx ρ) st1
def compLoop (w : List (Nat × List Val)) (tg : T) (c : Env → Store → Res Bool) (f : Env → Store → Res RV) (ρ : Env) : List Val → List Val → Store → Res (List Val)
  | [], acc, st => if stands w st then .ok acc st else .bad
  | x :: xs, acc, st => if stands w st then match bindT tg x ρ with
    | some ρ1 => (c ρ1 st).bind fun b st1 => if b then (f ρ1 st1).bind fun r st2 =>
          if acc.length < top then
            let p := settle r st2
            compLoop w tg c f ρ xs (acc ++ [p.1]) p.2
          else .bad
        else compLoop w tg c f ρ xs acc st1
    | none => .bad
    else .bad
def wipeE (ρ : Env) : List Nat → Env
  | [] => ρ
  | v :: vs => (wipeE ρ vs).set v none

/-! ### calls -/
/-- a call where nothing is handed on but values and new lists: from an empty store -/
def nrR : RV → Bool
  | .v x => x.nr
  | .l xs => Val.nrs xs
/-- what comes back of it -/
def pureVal (st st1 : Store) (x : Val) : Res RV := match x with
  | .ref n => match st1[n]? with
    | some (.lst xs) => if Val.nrs xs then .ok (.l xs) st else .bad
    | _ => .bad
  | x => if x.nr then .ok (.v x) st else .bad
def pureRes (st : Store) : Res RV → Res RV
  | .ok (.v x) st1 => pureVal st st1 x
  | .ok (.l xs) _ => if Val.nrs xs then .ok (.l xs) st else .bad
  | .exc c p _ => if Val.nrs p then .exc c p st else .bad
  | .bad => .bad
def pureCall (f : Fn) (rs : List RV) (st : Store) : Res RV :=
  if rs.all nrR then pureRes st (f (settles rs []).1 (settles rs []).2) else .bad
def permute (kw : List Nat) (rs : List RV) : List RV := match kw with
  | [] => rs
  | _ => kw.filterMap fun i => rs[i]?
def runCall (m : Bool) (f : Fn) (rs : List RV) (st : Store) : Res RV :=
  if m then pureCall f rs st else
    let p := settles rs st
    f p.1 p.2
def truthR (r : RV) (st : Store) : Res Bool := lift (truthV st r) st
def pairUp : List RV → Option (List (RV × RV))
  | [] => some []
  | a :: b :: r => (pairUp r).map fun l => (a, b) :: l
  | _ => none
def dicOf (t : Bool) : List Val → Option (List (Val × Val))
  | [] => some []
  | k :: v :: r => if keyOk t k then (dicOf t r).map fun l => (k, v) :: l else none
  | _ => none
def mergeD (kvs : List (Val × Val)) (more : List (Val × Val)) : List (Val × Val) := more.foldl (fun acc kv => kput acc kv.1 kv.2) kvs

/-- nothing may be raised -/
def noX {α : Type} : Res α → Res α
  | .exc _ _ _ => .bad
  | r => r
/-- what a method's receiver has to be, ahead of its arguments -/
def pre2 : O2 → RV → Store → Bool
  | .append, r, st | .extend, r, st | .popAt, r, st | .index, r, st | .count, r, st => match seqR st r with
    | some (true, _) => true
    | _ => false
  | _, _, _ => true
def pre3 : O3 → RV → Store → Bool
  | .insert, r, st => match seqR st r with
    | some (true, _) => true
    | _ => false
def isNil : E → Bool
  | .nil => true
  | _ => false
def isV : RV → Bool
  | .v _ => true
  | .l _ => false
/-- on, where a link of a chain holds -/
def chn (z : RV) (st : Store) (k : Store → Res RV) : Res RV := match z with
  | .v (.bl true) => k st
  | .v (.bl false) => .ok (.v (.bl false)) st
  | _ => .bad
/-- a slice's bound -/
def optI (no : Bool) (f : Store → Res RV) (st : Store) : Res (Option Int) :=
  if no then .ok none st else (f st).bind fun r st1 => match r with
    | .v (.int i) => .ok (some i) st1
    | _ => .bad
/-- a walk's second source -/
def opt2 (no : Bool) (f : Store → Res RV) (st : Store) : Res RV := if no then .ok (.v .non) st else f st
/-- a clause's test -/
def optC (no : Bool) (f : Store → Res RV) (st : Store) : Res Bool := if no then .ok true st else (f st).bind fun r st1 => truthR r st1

section
variable (cs : List Fn)
mutual
def ev : E → Env → Store → Res RV
  | .k v, _, st => .ok (.v v) st
  | .x i, ρ, st => match ρ[i]? with
    | some (some v) => .ok (.v v) st
    | _ => .bad
  | .g _ v, _, st => .ok (.v v) st
  | .nil, _, _ => .bad
  | .cons _ _, _, _ => .bad
  | .tup es, ρ, st => (evs es ρ st).bind fun rs st1 =>
      if rs.length ≤ top then
        let p := settles rs st1
        .ok (.v (.tup p.1)) p.2
      else .bad
  | .lst es, ρ, st => (evs es ρ st).bind fun rs st1 =>
      if rs.length ≤ top then
        let p := settles rs st1
        .ok (.l p.1) p.2
      else .bad
  | .dic t es, ρ, st => (evs es ρ st).bind fun rs st1 =>
      let p := settles rs st1
      match dicOf t p.1 with
      | some kvs => if kvs.length ≤ 15 ∧ (t = false ∨ kvs = []) then .ok (.v (.ref p.2.length)) (p.2 ++ [.dic t (mergeD [] kvs)]) else .bad
      | none => .bad
  | .op1 o a, ρ, st => (ev a ρ st).bind fun r st1 => f1 o r st1
  | .op2 o a b, ρ, st => (ev a ρ st).bind fun r st1 => if pre2 o r st1 then (ev b ρ st1).bind fun q st2 => f2 o r q st2 else .bad
  | .op3 o a b c, ρ, st => (ev a ρ st).bind fun r st1 => if pre3 o r st1 then (ev b ρ st1).bind fun q st2 => (ev c ρ st2).bind fun u st3 => f3 o r q u st3 else .bad
  | .sl a lo hi, ρ, st => (ev a ρ st).bind fun r st1 => (optI (isNil lo) (ev lo ρ) st1).bind fun l st2 => (optI (isNil hi) (ev hi ρ) st2).bind fun h st3 => fsl r l h st3
  | .and a b, ρ, st => (ev a ρ st).bind fun r st1 => match r with
    | .v (.bl true) => ev b ρ st1
    | .v (.bl false) => .ok (.v (.bl false)) st1
    | _ => .bad
  | .or a b, ρ, st => (ev a ρ st).bind fun r st1 => match r with
    | .v (.bl true) => .ok (.v (.bl true)) st1
    | .v (.bl false) => ev b ρ st1
    | _ => .bad
  | .not a, ρ, st => (ev a ρ st).bind fun r st1 => (truthR r st1).bind fun b st2 => .ok (.v (.bl (!b))) st2
  | .ite c a b, ρ, st => (ev c ρ st).bind fun r st1 => (truthR r st1).bind fun k st2 => if k then ev a ρ st2 else ev b ρ st2
  | .chain o p a b c, ρ, st => (ev a ρ st).bind fun r st1 => (ev b ρ st1).bind fun q st2 => if isV r && isV q then (f2 o r q st2).bind fun z st3 => chn z st3 fun st4 => (ev c ρ st4).bind fun u st5 => f2 p q u st5 else .bad
  | .call m j kw es, ρ, st => (evs es ρ st).bind fun rs st1 => match cs[j]? with
    | some f => runCall m f (permute kw rs) st1
    | none => .bad
  | .comp own tg k a b c e, ρ, st => (ev a ρ st).bind fun r st1 => (opt2 (isNil b) (ev b ρ) st1).bind fun q st2 => match walk k r q st2 with
    | some (xs, w) => (noX (compLoop w tg (fun ρ' st' => optC (isNil c) (ev c ρ') st') (fun ρ' st' => ev e ρ' st') (wipeE ρ own) xs [] st2)).bind fun l st3 => .ok (.l l) st3
    | none => .bad
/-- an argument list -/
def evs : E → Env → Store → Res (List RV)
  | .nil, _, st => .ok [] st
  | .cons h t, ρ, st => (ev h ρ st).bind fun r st1 => (evs t ρ st1).bind fun rs st2 => .ok (r :: rs) st2
  | _, _, _ => .bad
end
end

/-- o[i] = v -/
def fset (o i : RV) (v : Val) (st : Store) : Res Unit := match i with
  | .v k => match mutAt st o, k with
    | some (n, xs), .int j => match ix xs.length j with
      | some m => .ok () (st.set n (.lst (xs.set m v)))
      | none => .bad
    | some _, _ => .bad
    | none, _ => match dicAt st o with
      | some (n, t, kvs) => if keyOk t k ∧ kvs.length < top then .ok () (st.set n (.dic t (kput kvs k v))) else .bad
      | none => .bad
  | .l _ => .bad
def G.len : G → Nat
  | .cons _ gs => gs.len + 1
  | _ => 0
section
variable (cs : List Fn)
mutual
def setG : G → Val → Env → Store → Res Env
  | .tg t, v, ρ, st => lift (bindT t v ρ) st
  | .sub o i, v, ρ, st => (ev cs o ρ st).bind fun r st1 => (ev cs i ρ st1).bind fun q st2 => (fset r q v st2).bind fun _ st3 => .ok ρ st3
  | .cons g gs, v, ρ, st => match v with
    | .tup xs => if xs.length = gs.len + 1 then setGs (.cons g gs) xs ρ st else .bad
    | _ => .bad
  | .nil, _, _, _ => .bad
def setGs : G → List Val → Env → Store → Res Env
  | .nil, [], ρ, st => .ok ρ st
  | .cons g gs, x :: xs, ρ, st => (setG g x ρ st).bind fun ρ1 st1 => setGs gs xs ρ1 st1
  | _, _, _, _ => .bad
end
variable (fuel : Nat)
def ex : S → Env → Store → Res Out
  | .skip, ρ, st => .ok (.nx ρ) st
  | .seq s t, ρ, st => (ex s ρ st).bind fun o st1 => match o with
    | .nx ρ1 => ex t ρ1 st1
    | o => .ok o st1
  | .asg g e, ρ, st => (ev cs e ρ st).bind fun r st1 =>
      let p := settle r st1
      (setG cs g p.1 ρ p.2).bind fun ρ1 st2 => .ok (.nx ρ1) st2
  | .ex e, ρ, st => (ev cs e ρ st).bind fun _ st1 => .ok (.nx ρ) st1
  | .ret e, ρ, st => (ev cs e ρ st).bind fun r st1 => .ok (.rt r) st1
  | .retN, _, st => .ok (.rt (.v .non)) st
  | .ite c s t, ρ, st => (ev cs c ρ st).bind fun r st1 => (truthR r st1).bind fun b st2 => if b then ex s ρ st2 else ex t ρ st2
  | .whil c s, ρ, st => whileLoop (fun ρ' st' => (ev cs c ρ' st').bind fun r st1 => truthR r st1) (fun ρ' st' => ex s ρ' st') fuel ρ st
  | .fo tg k a b s, ρ, st => (ev cs a ρ st).bind fun r st1 => (opt2 (isNil b) (ev cs b ρ) st1).bind fun q st2 => match walk k r q st2 with
    | some (xs, w) => forLoop w tg (fun ρ' st' => ex s ρ' st') xs ρ st2
    | none => .bad
  | .brk, ρ, st => .ok (.bk ρ) st
  | .cont, ρ, st => .ok (.ct ρ) st
  | .never, _, _ => .bad
end
/-- a def: the number of its slots, of its parameters, its body -/
structure Def where
  slots : Nat
  pars : Nat
  body : S
abbrev FUEL : Nat := 1000000
def run (d : Def) (cs : List Fn) : Fn := fun args st =>
  if args.length = d.pars then
    match ex cs FUEL d.body (args.map some ++ List.replicate (d.slots - args.length) none) st with
    | .ok (.rt r) st1 => .ok r st1
    | .ok (.nx _) st1 => .ok (.v .non) st1
    | .ok _ _ => .bad
    | .exc c p st1 => .exc c p st1
    | .bad => .bad
  else .bad
end Mi
end
section
set_option linter.all false
set_option autoImplicit false
set_option maxRecDepth 10000
/-! MiRel: how Mini's values and stores lie in the layer's abstract heap. -/
namespace Mi
open PySem PySem.Spec L2
open PyProof.Rows hiding RelV

abbrev Mu := Nat → Addr
def keyVal : Key → Val
  | .inl i => .int i
  | .inr s => .str s.cps.toList

section
variable (K : PySem.W.Frag) (H : Hp) (μ : Mu) (N : Nat)
mutual
inductive VR : V → Val → Prop
  | non : VR .non .non
  | bl (b : Bool) : VR (.bl b) (.bl b)
  | int (i : Int) : VR (.int i) (.int i)
  | str (x : List Nat) : VR (.str (toStr x)) (.str x)
  | tup {a : Addr} {vs : List V} {ds : List Val} : SqT K H a vs → VRs vs ds → VR (.ref a) (.tup ds)
  | ref {n : Nat} : n < N → VR (.ref (μ n)) (.ref n)
inductive VRs : List V → List Val → Prop
  | nil : VRs [] []
  | cons {v : V} {vs : List V} {d : Val} {ds : List Val} : VR v d → VRs vs ds → VRs (v :: vs) (d :: ds)
end
/-- the pairs of a dict -/
inductive DRs : List (Key × V) → List (Val × Val) → Prop
  | nil : DRs [] []
  | cons {k : Key} {v : V} {d : Val} {l : List (Key × V)} {r : List (Val × Val)} : VR K H μ N v d → DRs l r → DRs ((k, v) :: l) ((keyVal k, d) :: r)
inductive DTs : List (List Key × V) → List (Val × Val) → Prop
  | nil : DTs [] []
  | cons {k : List Key} {v : V} {d : Val} {l : List (List Key × V)} {r : List (Val × Val)} : VR K H μ N v d → DTs l r → DTs ((k, v) :: l) ((.tup (k.map keyVal), d) :: r)
def OR (a : Addr) : Obj → Prop
  | .lst ds => ∃ vs, H a = some (.lst vs) ∧ VRs K H μ N vs ds
  | .frz ds => ∃ o vs, H a = some (.frz o (.lst vs)) ∧ VRs K H μ N vs ds
  | .dic false kvs => ∃ l, H a = some (.dK l) ∧ DRs K H μ N l kvs
  | .dic true kvs => ∃ l, H a = some (.dT l) ∧ DTs K H μ N l kvs
end
structure Rel (K : PySem.W.Frag) (H : Hp) (μ : Mu) (st : Store) : Prop where
  obj : ∀ n o, st[n]? = some o → OR K H μ st.length (μ n) o
  inj : ∀ n m, n < st.length → m < st.length → μ n = μ m → n = m
/-- from a state to a later one -/
structure Post (K : PySem.W.Frag) (μ : Mu) (st : Store) (H : Hp) (μ' : Mu) (st' : Store) (H' : Hp) : Prop where
  same : ∀ n, n < st.length → μ' n = μ n
  len : st.length ≤ st'.length
  rel : Rel K H' μ' st'
  frame : ∀ a o, H a = some o → (∀ n, n < st.length → μ n ≠ a) → H' a = some o
  fresh : ∀ n, st.length ≤ n → n < st'.length → H (μ' n) = none
/-- no object of the store is a tuple -/
theorem OR.not_tup {K : PySem.W.Frag} {H : Hp} {μ : Mu} {N : Nat} {a : Addr} {o : Obj} (h : OR K H μ N a o) : ∃ u, H a = some u ∧ (∀ xs, u ≠ .tup xs) ∧ ∀ ob xs, u ≠ .frz ob (.tup xs) := by
  cases o with
  | lst ds => obtain ⟨vs, e, _⟩ := h; exact ⟨_, e, (fun _ z => nomatch z), (fun _ _ z => nomatch z)⟩
  | frz ds => obtain ⟨o, vs, e, _⟩ := h; exact ⟨_, e, (fun _ z => nomatch z), (fun _ _ z => by cases z)⟩
  | dic t kvs =>
    cases t with
    | false => obtain ⟨l, e, _⟩ := h; exact ⟨_, e, (fun _ z => nomatch z), (fun _ _ z => nomatch z)⟩
    | true => obtain ⟨l, e, _⟩ := h; exact ⟨_, e, (fun _ z => nomatch z), (fun _ _ z => nomatch z)⟩
theorem Rel.there {K : PySem.W.Frag} {H : Hp} {μ : Mu} {st : Store} (r : Rel K H μ st) {n : Nat} (h : n < st.length) : ∃ u, H (μ n) = some u ∧ (∀ xs, u ≠ .tup xs) ∧ ∀ ob xs, u ≠ .frz ob (.tup xs) :=
  (r.obj n st[n] (List.getElem?_eq_getElem h)).not_tup
section
variable {K : PySem.W.Frag} {H H' : Hp} {μ μ' : Mu} {N N' : Nat} {st st' : Store}
/-- what values lean on is kept -/
structure Keep (K : PySem.W.Frag) (H H' : Hp) (μ μ' : Mu) (N N' : Nat) : Prop where
  same : ∀ n, n < N → μ' n = μ n
  len : N ≤ N'
  tup : ∀ a xs, SqT K H a xs → SqT K H' a xs
mutual
theorem VR.keep (k : Keep K H H' μ μ' N N') : ∀ (d : Val) (v : V), VR K H μ N v d → VR K H' μ' N' v d
  | .non, _, h => by cases h; exact .non
  | .bl b, _, h => by cases h; exact .bl b
  | .int i, _, h => by cases h; exact .int i
  | .str x, _, h => by cases h; exact .str x
  | .tup ds, _, h => by cases h with | tup s r => exact .tup (k.tup _ _ s) (VRs.keep k ds _ r)
  | .ref n, _, h => by
    cases h with
    | ref hn =>
      rw [← k.same n hn]
      exact .ref (Nat.lt_of_lt_of_le hn k.len)
theorem VRs.keep (k : Keep K H H' μ μ' N N') : ∀ (ds : List Val) (vs : List V), VRs K H μ N vs ds → VRs K H' μ' N' vs ds
  | [], _, h => by cases h; exact .nil
  | d :: ds, _, h => by cases h with | cons h1 h2 => exact .cons (VR.keep k d _ h1) (VRs.keep k ds _ h2)
end
theorem DRs.keep (k : Keep K H H' μ μ' N N') {l : List (Key × V)} {r : List (Val × Val)} (h : DRs K H μ N l r) : DRs K H' μ' N' l r := by
  induction h with
  | nil => exact .nil
  | cons h1 _ ih => exact .cons (VR.keep k _ _ h1) ih
theorem DTs.keep (k : Keep K H H' μ μ' N N') {l : List (List Key × V)} {r : List (Val × Val)} (h : DTs K H μ N l r) : DTs K H' μ' N' l r := by
  induction h with
  | nil => exact .nil
  | cons h1 _ ih => exact .cons (VR.keep k _ _ h1) ih
/-- an object whose place is kept -/
theorem OR.keep (k : Keep K H H' μ μ' N N') {a : Addr} {o : Obj} (h : OR K H μ N a o) (e : H' a = H a) : OR K H' μ' N' a o := by
  cases o with
  | lst ds => obtain ⟨vs, q, r⟩ := h; exact ⟨vs, e.trans q, VRs.keep k _ _ r⟩
  | frz ds => obtain ⟨o, vs, q, r⟩ := h; exact ⟨o, vs, e.trans q, VRs.keep k _ _ r⟩
  | dic t kvs =>
    cases t with
    | false => obtain ⟨l, q, r⟩ := h; exact ⟨l, e.trans q, r.keep k⟩
    | true => obtain ⟨l, q, r⟩ := h; exact ⟨l, e.trans q, r.keep k⟩
theorem Post.keep {μ₀ : Mu} {st₀ : Store} {H₀ : Hp} (p : Post K μ₀ st₀ H₀ μ st H) (r : Rel K H₀ μ₀ st₀) : Keep K H₀ H μ₀ μ st₀.length st.length where
  same := p.same
  len := p.len
  tup := fun a xs h => by
    rcases h with (h | ⟨o, h⟩) | h
    · refine .inl (.inl (p.frame _ _ h fun n hn e => ?_))
      obtain ⟨u, e1, e2, _⟩ := r.there hn
      rw [e, h] at e1
      exact e2 xs (Option.some.inj e1).symm
    · refine .inl (.inr ⟨o, p.frame _ _ h fun n hn e => ?_⟩)
      obtain ⟨u, e1, _, e3⟩ := r.there hn
      rw [e, h] at e1
      exact e3 o xs (Option.some.inj e1).symm
    · exact .inr h
theorem Post.refl (r : Rel K H μ st) : Post K μ st H μ st H :=
  ⟨fun _ _ => rfl, Nat.le_refl _, r, fun _ _ h _ => h, fun n h1 h2 => absurd (Nat.lt_of_lt_of_le h2 h1) (Nat.lt_irrefl _)⟩
/-- what was free in the later heap was free in the earlier one -/
theorem Post.free {μ₀ : Mu} {st₀ : Store} {H₀ : Hp} (p : Post K μ₀ st₀ H₀ μ st H) {a : Addr} (h : H a = none) : H₀ a = none := by
  cases q : H₀ a with
  | none => rfl
  | some o =>
    by_cases c : ∃ n, n < st₀.length ∧ μ₀ n = a
    · obtain ⟨n, hn, e⟩ := c
      obtain ⟨u, e1, _⟩ := p.rel.there (Nat.lt_of_lt_of_le hn p.len)
      rw [p.same n hn, e, h] at e1
      cases e1
    · have := p.frame a o q fun n hn e => c ⟨n, hn, e⟩
      rw [h] at this
      cases this
theorem Post.trans {μ₁ μ₂ : Mu} {st₁ st₂ : Store} {H₁ H₂ : Hp} (p : Post K μ st H μ₁ st₁ H₁) (q : Post K μ₁ st₁ H₁ μ₂ st₂ H₂) : Post K μ st H μ₂ st₂ H₂ where
  same := fun n hn => (q.same n (Nat.lt_of_lt_of_le hn p.len)).trans (p.same n hn)
  len := Nat.le_trans p.len q.len
  rel := q.rel
  frame := fun a o h c => by
    refine q.frame a o (p.frame a o h c) fun n hn e => ?_
    by_cases hl : n < st.length
    · exact c n hl ((p.same n hl).symm.trans e)
    · have := p.fresh n (Nat.le_of_not_lt hl) hn
      rw [e, h] at this
      cases this
  fresh := fun n h1 h2 => by
    by_cases hl : n < st₁.length
    · rw [q.same n hl]
      exact p.fresh n h1 hl
    · exact p.free (q.fresh n (Nat.le_of_not_lt hl) h2)
end

/-! ### results -/
/-- a value as the interpreter gives it; H₀: the heap at the entry -/
def VRR (K : PySem.W.Frag) (H₀ H : Hp) (μ : Mu) (N : Nat) (v : V) : RV → Prop
  | .v d => VR K H μ N v d
  | .l ds => ∃ p vs, v = .ref p ∧ H₀ p = none ∧ H p = some (.lst vs) ∧ VRs K H μ N vs ds ∧ ∀ n, n < N → μ n ≠ p
inductive VRRs (K : PySem.W.Frag) (H₀ H : Hp) (μ : Mu) (N : Nat) : List V → List RV → List Addr → Prop
  | nil : VRRs K H₀ H μ N [] [] []
  | v {v : V} {d : Val} {vs : List V} {rs : List RV} {ps : List Addr} : VR K H μ N v d → VRRs K H₀ H μ N vs rs ps → VRRs K H₀ H μ N (v :: vs) (.v d :: rs) ps
  | l {p : Addr} {us : List V} {ds : List Val} {vs : List V} {rs : List RV} {ps : List Addr} : H₀ p = none → H p = some (.lst us) → VRs K H μ N us ds → (∀ n, n < N → μ n ≠ p) → p ∉ ps →
      VRRs K H₀ H μ N vs rs ps → VRRs K H₀ H μ N (.ref p :: vs) (.l ds :: rs) (p :: ps)
section
variable {K : PySem.W.Frag} {H₀ H H' : Hp} {μ μ' : Mu} {st st' : Store}
theorem VRR.step (p : Post K μ st H μ' st' H') (r : Rel K H μ st) {v : V} {x : RV} (h : VRR K H₀ H μ st.length v x) : VRR K H₀ H' μ' st'.length v x := by
  cases x with
  | v d => exact VR.keep (p.keep r) _ _ h
  | l ds =>
    obtain ⟨a, vs, e, e0, e1, r1, ne⟩ := h
    refine ⟨a, vs, e, e0, p.frame _ _ e1 ne, VRs.keep (p.keep r) _ _ r1, fun n hn z => ?_⟩
    by_cases hl : n < st.length
    · exact ne n hl ((p.same n hl).symm.trans z)
    · have := p.fresh n (Nat.le_of_not_lt hl) hn
      rw [z, e1] at this
      cases this
theorem VRR.older {Hx : Hp} {N : Nat} (h0 : ∀ a, H a = none → Hx a = none) {v : V} {x : RV} (h : VRR K H H' μ' N v x) : VRR K Hx H' μ' N v x := by
  cases x with
  | v d => exact h
  | l ds => obtain ⟨a, vs, e, e0, z⟩ := h; exact ⟨a, vs, e, h0 _ e0, z⟩
theorem VRRs.older {Hx : Hp} {N : Nat} (h0 : ∀ a, H a = none → Hx a = none) {vs : List V} {xs : List RV} {ps : List Addr} (h : VRRs K H H' μ' N vs xs ps) : VRRs K Hx H' μ' N vs xs ps := by
  induction h with
  | nil => exact .nil
  | v a _ ih => exact .v a ih
  | l a b c d e _ ih => exact .l (h0 _ a) b c d e ih
theorem VRRs.step (p : Post K μ st H μ' st' H') (r : Rel K H μ st) {vs : List V} {xs : List RV} {ps : List Addr} (h : VRRs K H₀ H μ st.length vs xs ps) : VRRs K H₀ H' μ' st'.length vs xs ps := by
  induction h with
  | nil => exact .nil
  | v a _ ih => exact .v (VR.keep (p.keep r) _ _ a) ih
  | l a b c d e _ ih =>
    refine .l a (p.frame _ _ b d) (VRs.keep (p.keep r) _ _ c) (fun n hn z => ?_) e ih
    by_cases hl : n < st.length
    · exact d n hl ((p.same n hl).symm.trans z)
    · have := p.fresh n (Nat.le_of_not_lt hl) hn
      rw [z, b] at this
      cases this
/-- the addresses of the new lists of later values are free at the entry -/
theorem VRRs.free {N : Nat} {vs : List V} {xs : List RV} {ps : List Addr} (h : VRRs K H₀ H μ N vs xs ps) : ∀ a ∈ ps, H₀ a = none := by
  induction h with
  | nil => intro a h; cases h
  | v _ _ ih => exact ih
  | l a _ _ _ _ _ ih =>
    intro b hb
    rcases List.mem_cons.mp hb with rfl | hb
    · exact a
    · exact ih b hb
theorem VRs.length {N : Nat} {vs : List V} {ds : List Val} (h : VRs K H μ N vs ds) : vs.length = ds.length := by
  have aux : ∀ (ds : List Val) (vs : List V), VRs K H μ N vs ds → vs.length = ds.length := by
    intro ds
    induction ds with
    | nil => intro vs h; cases h; rfl
    | cons d ds ih => intro vs h; cases h with | cons _ h2 => simp [ih _ h2]
  exact aux ds vs h
end

/-! ### a new list moves into the store -/
def muAdd (μ : Mu) (n : Nat) (p : Addr) : Mu := fun m => if m = n then p else μ m
theorem Post.add {K : PySem.W.Frag} {H₀ H : Hp} {μ₀ μ : Mu} {st₀ st : Store} {p : Addr} {us : List V} {ds : List Val} (P : Post K μ₀ st₀ H₀ μ st H) (h0 : H₀ p = none) (h1 : H p = some (.lst us)) (r : VRs K H μ st.length us ds)
    (ne : ∀ n, n < st.length → μ n ≠ p) : Post K μ₀ st₀ H₀ (muAdd μ st.length p) (st ++ [Obj.lst ds]) H ∧ Keep K H H μ (muAdd μ st.length p) st.length (st ++ [Obj.lst ds]).length := by
  have k : Keep K H H μ (muAdd μ st.length p) st.length (st ++ [Obj.lst ds]).length :=
    ⟨fun n hn => by unfold muAdd; rw [if_neg (Nat.ne_of_lt hn)], by simp, fun _ _ h => h⟩
  refine ⟨⟨fun n hn => ?_, Nat.le_trans P.len k.len, ⟨fun n o e => ?_, fun n m hn hm e => ?_⟩, P.frame, fun n hn hl => ?_⟩, k⟩
  · rw [k.same n (Nat.lt_of_lt_of_le hn P.len)]; exact P.same n hn
  · by_cases hn : n < st.length
    · rw [List.getElem?_append_left hn] at e
      rw [k.same n hn]
      exact (P.rel.obj n o e).keep k rfl
    · have hn' : n = st.length := by
        have := (List.getElem?_eq_some_iff.mp e).1
        simp at this; omega
      subst hn'
      simp at e
      subst e
      exact ⟨us, by simp [muAdd]; exact h1, VRs.keep k _ _ r⟩
  · simp at hn hm
    by_cases h1 : n = st.length <;> by_cases h2 : m = st.length
    · rw [h1, h2]
    · exfalso
      rw [h1] at e
      have hm' : m < st.length := by omega
      rw [k.same m hm'] at e
      exact ne m hm' (by rw [← e]; simp [muAdd])
    · exfalso
      rw [h2] at e
      have hn' : n < st.length := by omega
      rw [k.same n hn'] at e
      exact ne n hn' (by rw [e]; simp [muAdd])
    · have hn' : n < st.length := by omega
      have hm' : m < st.length := by omega
      rw [k.same n hn', k.same m hm'] at e
      exact P.rel.inj n m hn' hm' e
  · by_cases h1 : n = st.length
    · subst h1; simpa [muAdd] using h0
    · have : n < st.length := by simp at hl; omega
      rw [k.same n this]
      exact P.fresh n hn this
theorem settle_ok {K : PySem.W.Frag} {H₀ H : Hp} {μ₀ μ : Mu} {st₀ st : Store} {v : V} {r : RV} (P : Post K μ₀ st₀ H₀ μ st H) (h : VRR K H₀ H μ st.length v r) :
    ∃ μ', Post K μ₀ st₀ H₀ μ' (settle r st).2 H ∧ Keep K H H μ μ' st.length (settle r st).2.length ∧ VR K H μ' (settle r st).2.length v (settle r st).1 := by
  cases r with
  | v d => exact ⟨μ, P, ⟨fun _ _ => rfl, Nat.le_refl _, fun _ _ h => h⟩, h⟩
  | l ds =>
    obtain ⟨p, us, rfl, h0, h1, hr, ne⟩ := h
    obtain ⟨P', k⟩ := P.add h0 h1 hr ne
    refine ⟨_, P', k, ?_⟩
    have e : (muAdd μ st.length p) st.length = p := by simp [muAdd]
    have z : VR K H (muAdd μ st.length p) (st ++ [Obj.lst ds]).length (.ref ((muAdd μ st.length p) st.length)) (.ref st.length) := .ref (by simp)
    rw [e] at z
    exact z
theorem settles_ok {K : PySem.W.Frag} {H₀ H : Hp} {μ₀ : Mu} {st₀ : Store} : ∀ {vs : List V} {rs : List RV} {ps : List Addr} {μ : Mu} {st : Store}, Post K μ₀ st₀ H₀ μ st H → VRRs K H₀ H μ st.length vs rs ps →
    ∃ μ', Post K μ₀ st₀ H₀ μ' (settles rs st).2 H ∧ Keep K H H μ μ' st.length (settles rs st).2.length ∧ VRs K H μ' (settles rs st).2.length vs (settles rs st).1 := by
  intro vs rs ps μ st P h
  induction rs generalizing vs ps μ st with
  | nil => cases h; exact ⟨μ, P, ⟨fun _ _ => rfl, Nat.le_refl _, fun _ _ h => h⟩, .nil⟩
  | cons r rs ih =>
    cases h with
    | v hv hr =>
      obtain ⟨μ', P', k, z⟩ := ih P hr
      exact ⟨μ', P', k, .cons (VR.keep k _ _ hv) z⟩
    | @l p us ds vs _ ps h0 h1 hu ne np hr =>
      obtain ⟨P1, k1⟩ := P.add h0 h1 hu ne
      have hr1 : VRRs K H₀ H (muAdd μ st.length p) (st ++ [Obj.lst ds]).length vs rs ps := by
        clear ih h0 h1 hu ne P P1
        induction hr with
        | nil => exact .nil
        | v a _ ih => exact .v (VR.keep k1 _ _ a) (ih np)
        | @l q _ _ _ _ ps a b c d e _ ih =>
          have nq : ¬ p = q := fun z => np (by rw [z]; exact List.mem_cons_self)
          refine .l a b (VRs.keep k1 _ _ c) (fun n hn z => ?_) e (ih fun z => np (List.mem_cons_of_mem _ z))
          simp at hn
          by_cases hl : n < st.length
          · rw [k1.same n hl] at z
            exact d n hl z
          · have : n = st.length := by omega
            subst this
            simp [muAdd] at z
            exact nq z
      obtain ⟨μ', P', k, z⟩ := ih P1 hr1
      refine ⟨μ', P', ⟨fun n hn => (k.same n (Nat.lt_of_lt_of_le hn k1.len)).trans (k1.same n hn), Nat.le_trans k1.len k.len, fun _ _ h => h⟩, .cons ?_ z⟩
      have e : μ' st.length = p := by rw [k.same st.length (by simp)]; simp [muAdd]
      have w : VR K H μ' (settles rs (st ++ [Obj.lst ds])).2.length (.ref (μ' st.length)) (.ref st.length) := .ref (Nat.lt_of_lt_of_le (by simp) k.len)
      rw [e] at w
      exact w
end Mi
end
section
set_option linter.all false
set_option autoImplicit false
set_option maxRecDepth 10000
/-! MiOps: Mini's operations are the model's. -/
namespace Mi
open PySem PySem.Spec L2
open PyProof.Rows hiding RelV

/-- what is wanted of an exception -/
abbrev XW := Nat → List Val → Mu → Store → Hp → Prop
def After (K : PySem.W.Frag) (W : XW) (μ : Mu) (st : Store) (H : Hp) (c : Res RV) (Q : VK) : Prop := match c with
  | .ok r st' => ∀ μ' H' v, Post K μ st H μ' st' H' → VRR K H H' μ' st'.length v r → Q v H'
  | .exc c p st' => ∀ μ' H', Post K μ st H μ' st' H' → W c p μ' st' H'
  | .bad => False

section
variable {K : PySem.W.Frag} {W : XW} {H₀ H H' : Hp} {μ₀ μ μ' : Mu} {st₀ st st' : Store} {Q : VK}
theorem Keep.refl : Keep K H H μ μ st.length st.length := ⟨fun _ _ => rfl, Nat.le_refl _, fun _ _ h => h⟩
theorem fin {d : Val} {v : V} (a : After K W μ₀ st₀ H₀ (.ok (.v d) st) Q) (P : Post K μ₀ st₀ H₀ μ st H) (h : VR K H μ st.length v d) : Q v H := a μ H v P h
theorem sq_upd {p : Addr} {o : HO} (hp : H p = none) {a : Addr} {xs : List V} (h : SqT K H a xs) : SqT K (upd H p o) a xs := by
  rcases h with (h | ⟨ob, h⟩) | h
  · exact .inl (.inl (by rw [upd_ne (ne_of_none h hp)]; exact h))
  · exact .inl (.inr ⟨ob, by rw [upd_ne (ne_of_none h hp)]; exact h⟩)
  · exact .inr h
theorem Keep.upd {p : Addr} {o : HO} (hp : H p = none) : Keep K H (upd H p o) μ μ st.length st.length := ⟨fun _ _ => rfl, Nat.le_refl _, fun _ _ h => sq_upd hp h⟩
theorem Rel.upd {p : Addr} {o : HO} (r : Rel K H μ st) (hp : H p = none) : Rel K (upd H p o) μ st where
  obj := fun n ob e => by
    have hn := (List.getElem?_eq_some_iff.mp e).1
    obtain ⟨u, e1, _⟩ := r.there hn
    exact (r.obj n ob e).keep (Keep.upd hp) (upd_ne (ne_of_none e1 hp))
  inj := r.inj
theorem Post.upd {p : Addr} {o : HO} (P : Post K μ₀ st₀ H₀ μ st H) (hp : H p = none) : Post K μ₀ st₀ H₀ μ st (upd H p o) where
  same := P.same
  len := P.len
  rel := P.rel.upd hp
  frame := fun a ob h c => by
    have := P.frame a ob h c
    rw [upd_ne (ne_of_none this hp)]; exact this
  fresh := P.fresh
theorem Rel.ne {p : Addr} (r : Rel K H μ st) (hp : H p = none) : ∀ n, n < st.length → μ n ≠ p := fun n hn e => by
  obtain ⟨u, e1, _⟩ := r.there hn
  rw [e, hp] at e1; cases e1
theorem finL {ds : List Val} {vs : List V} (a : After K W μ₀ st₀ H₀ (.ok (.l ds) st) Q) (P : Post K μ₀ st₀ H₀ μ st H) (h : VRs K H μ st.length vs ds) {p : Addr} (hp : H p = none) : Q (.ref p) (upd H p (.lst vs)) :=
  a μ _ _ (P.upd hp) ⟨p, vs, rfl, P.free hp, upd_same, VRs.keep (Keep.upd hp) _ _ h, P.rel.ne hp⟩
theorem finT {ds : List Val} {vs : List V} (a : After K W μ₀ st₀ H₀ (.ok (.v (.tup ds)) st) Q) (P : Post K μ₀ st₀ H₀ μ st H) (h : VRs K H μ st.length vs ds) {p : Addr} (hp : H p = none) : Q (.ref p) (upd H p (.tup vs)) :=
  a μ _ _ (P.upd hp) (VR.tup (.of upd_same) (VRs.keep (Keep.upd hp) _ _ h))
/-- an object of the store is written -/
theorem Post.write {n : Nat} {o : Obj} {u u' : HO} (P : Post K μ₀ st₀ H₀ μ st H) (hn : n < st.length) (hu : H (μ n) = some u) (hm : ∀ xs, u ≠ .tup xs) (hf : ∀ ob xs, u ≠ .frz ob (.tup xs))
    (new : Keep K H (L2.upd H (μ n) u') μ μ st.length st.length → OR K (L2.upd H (μ n) u') μ st.length (μ n) o) : Post K μ₀ st₀ H₀ μ (st.set n o) (L2.upd H (μ n) u') ∧ Keep K H (L2.upd H (μ n) u') μ μ st.length st.length := by
  have k : Keep K H (L2.upd H (μ n) u') μ μ st.length st.length := ⟨fun _ _ => rfl, Nat.le_refl _, fun a xs h => by
    rcases h with (h | ⟨ob, h⟩) | h
    · exact .inl (.inl (by rw [upd_ne fun e => by rw [e, hu] at h; exact hm xs (Option.some.inj h)]; exact h))
    · exact .inl (.inr ⟨ob, by rw [upd_ne fun e => by rw [e, hu] at h; exact hf ob xs (Option.some.inj h)]; exact h⟩)
    · exact .inr h⟩
  refine ⟨⟨P.same, by simpa using P.len, ⟨fun m ob e => ?_, fun a b ha hb => ?_⟩, fun a ob h c => ?_, fun m h1 h2 => ?_⟩, k⟩
  · rw [List.length_set]
    by_cases hmn : m = n
    · subst hmn
      rw [List.getElem?_set_self hn] at e
      cases e
      exact new k
    · rw [List.getElem?_set_ne (Ne.symm hmn)] at e
      have hml := (List.getElem?_eq_some_iff.mp e).1
      exact (P.rel.obj m ob e).keep k (upd_ne fun z => hmn (P.rel.inj m n hml hn z))
  · rw [List.length_set] at ha hb
    exact P.rel.inj a b ha hb
  · rw [upd_ne fun e => ?_]
    · exact P.frame a ob h c
    · by_cases hl : n < st₀.length
      · exact c n hl (by rw [e, P.same n hl])
      · have := P.fresh n (Nat.le_of_not_lt hl) hn
        rw [← e, h] at this
        cases this
  · rw [List.length_set] at h2
    exact P.fresh m h1 h2
/-- a list of the store is rewritten -/
theorem Post.lst {n : Nat} {xs ds : List Val} {vs : List V} (P : Post K μ₀ st₀ H₀ μ st H) (e : st[n]? = some (.lst xs)) (h : VRs K H μ st.length vs ds) :
    Post K μ₀ st₀ H₀ μ (st.set n (.lst ds)) (L2.upd H (μ n) (.lst vs)) ∧ Keep K H (L2.upd H (μ n) (.lst vs)) μ μ st.length st.length := by
  have hn := (List.getElem?_eq_some_iff.mp e).1
  obtain ⟨us, e1, _⟩ := P.rel.obj n _ e
  exact P.write hn e1 (fun _ z => nomatch z) (fun _ _ z => nomatch z) fun k => ⟨vs, upd_same, VRs.keep k _ _ h⟩

/-! ### views -/
theorem lstAt_ok {n : Nat} {ds : List Val} (r : Rel K H μ st) (e : lstAt st n = some ds) : ∃ vs, SqL K H (μ n) vs ∧ VRs K H μ st.length vs ds := by
  unfold lstAt at e
  split at e
  · rename_i xs h; cases e
    obtain ⟨vs, e1, r1⟩ := r.obj n _ h
    exact ⟨vs, .of e1, r1⟩
  · rename_i xs h; cases e
    obtain ⟨o, vs, e1, r1⟩ := r.obj n _ h
    exact ⟨vs, .inl (.inr ⟨o, e1⟩), r1⟩
  · cases e
theorem seqV_list {d : Val} {v : V} {ds : List Val} (r : Rel K H μ st) (h : VR K H μ st.length v d) (e : seqV st d = some (true, ds)) : ∃ a vs, v = .ref a ∧ SqL K H a vs ∧ VRs K H μ st.length vs ds := by
  cases d with
  | ref n =>
    cases h with
    | ref hn =>
      simp only [seqV, Option.map_eq_some_iff] at e
      obtain ⟨xs, e1, e2⟩ := e
      cases e2
      obtain ⟨vs, a, b⟩ := lstAt_ok r e1
      exact ⟨_, vs, rfl, a, b⟩
  | tup xs => simp [seqV] at e
  | _ => simp [seqV] at e
theorem seqV_tup {d : Val} {v : V} {ds : List Val} (h : VR K H μ st.length v d) (e : seqV st d = some (false, ds)) : ∃ a vs, d = .tup ds ∧ v = .ref a ∧ SqT K H a vs ∧ VRs K H μ st.length vs ds := by
  cases d with
  | tup xs =>
    simp [seqV] at e
    subst e
    cases h with
    | tup s q => exact ⟨_, _, rfl, rfl, s, q⟩
  | ref n =>
    simp only [seqV, Option.map_eq_some_iff] at e
    obtain ⟨xs, e1, e2⟩ := e
    cases e2
  | _ => simp [seqV] at e
theorem seqR_list {x : RV} {v : V} {ds : List Val} (r : Rel K H μ st) (h : VRR K H₀ H μ st.length v x) (e : seqR st x = some (true, ds)) : ∃ a vs, v = .ref a ∧ SqL K H a vs ∧ VRs K H μ st.length vs ds := by
  cases x with
  | v d => exact seqV_list r h e
  | l xs =>
    simp [seqR] at e
    subst e
    obtain ⟨p, vs, e0, _, e1, e2, _⟩ := h
    exact ⟨p, vs, e0, .of e1, e2⟩
theorem seqR_tup {x : RV} {v : V} {ds : List Val} (h : VRR K H₀ H μ st.length v x) (e : seqR st x = some (false, ds)) : ∃ a vs, x = .v (.tup ds) ∧ v = .ref a ∧ SqT K H a vs ∧ VRs K H μ st.length vs ds := by
  cases x with
  | v d =>
    obtain ⟨a, vs, e1, e2, e3, e4⟩ := seqV_tup h e
    exact ⟨a, vs, by rw [e1], e2, e3, e4⟩
  | l xs => simp [seqR] at e
theorem seqR_any {x : RV} {v : V} {k : Bool} {ds : List Val} (r : Rel K H μ st) (h : VRR K H₀ H μ st.length v x) (e : seqR st x = some (k, ds)) : ∃ a vs, v = .ref a ∧ (SqL K H a vs ∨ SqT K H a vs) ∧ VRs K H μ st.length vs ds := by
  cases k with
  | true => obtain ⟨a, vs, e0, e1, e2⟩ := seqR_list r h e; exact ⟨a, vs, e0, .inl e1, e2⟩
  | false => obtain ⟨a, vs, _, e0, e1, e2⟩ := seqR_tup h e; exact ⟨a, vs, e0, .inr e1, e2⟩
theorem mutAt_ok {x : RV} {v : V} {n : Nat} {ds : List Val} (r : Rel K H μ st) (h : VRR K H₀ H μ st.length v x) (e : mutAt st x = some (n, ds)) :
    ∃ vs, x = .v (.ref n) ∧ st[n]? = some (.lst ds) ∧ v = .ref (μ n) ∧ H (μ n) = some (.lst vs) ∧ VRs K H μ st.length vs ds := by
  unfold mutAt at e
  split at e
  · split at e
    · rename_i n' xs h'
      simp at e
      obtain ⟨rfl, rfl⟩ := e
      obtain ⟨vs, e1, e2⟩ := r.obj _ _ h'
      cases h with
      | ref hn => exact ⟨vs, rfl, h', rfl, e1, e2⟩
    · cases e
  · cases e
theorem dicAt_ok {x : RV} {v : V} {n : Nat} {t : Bool} {kvs : List (Val × Val)} (r : Rel K H μ st) (h : VRR K H₀ H μ st.length v x) (e : dicAt st x = some (n, t, kvs)) :
    x = .v (.ref n) ∧ st[n]? = some (.dic t kvs) ∧ v = .ref (μ n) ∧ OR K H μ st.length (μ n) (.dic t kvs) := by
  unfold dicAt at e
  split at e
  · split at e
    · rename_i n' t' kvs' h'
      simp at e
      obtain ⟨rfl, rfl, rfl⟩ := e
      have o := r.obj _ _ h'
      cases h with
      | ref hn => exact ⟨rfl, h', rfl, o⟩
    · cases e
  · cases e

/-! ### lists of values -/
theorem VRs.get {N : Nat} : ∀ {ds : List Val} {vs : List V} {i : Nat} {d : Val}, VRs K H μ N vs ds → ds[i]? = some d → ∃ v, vs[i]? = some v ∧ VR K H μ N v d := by
  intro ds
  induction ds with
  | nil => intro vs i d h e; simp at e
  | cons x xs ih =>
    intro vs i d h e
    cases h with
    | cons h1 h2 =>
      cases i with
      | zero => simp at e; subst e; exact ⟨_, rfl, h1⟩
      | succ i => simp at e; obtain ⟨v, a, b⟩ := ih h2 e; exact ⟨v, by simpa using a, b⟩
theorem VRs.app {N : Nat} : ∀ {ds es : List Val} {vs us : List V}, VRs K H μ N vs ds → VRs K H μ N us es → VRs K H μ N (vs ++ us) (ds ++ es) := by
  intro ds
  induction ds with
  | nil => intro es vs us h g; cases h; exact g
  | cons x xs ih => intro es vs us h g; cases h with | cons h1 h2 => exact .cons h1 (ih h2 g)
theorem VRs.take {N : Nat} : ∀ {ds : List Val} {vs : List V} (n : Nat), VRs K H μ N vs ds → VRs K H μ N (vs.take n) (ds.take n) := by
  intro ds
  induction ds with
  | nil => intro vs n h; cases h; simp; exact .nil
  | cons x xs ih =>
    intro vs n h
    cases h with
    | cons h1 h2 =>
      cases n with
      | zero => exact .nil
      | succ n => exact .cons h1 (ih n h2)
theorem VRs.drop {N : Nat} : ∀ {ds : List Val} {vs : List V} (n : Nat), VRs K H μ N vs ds → VRs K H μ N (vs.drop n) (ds.drop n) := by
  intro ds
  induction ds with
  | nil => intro vs n h; cases h; simp; exact .nil
  | cons x xs ih =>
    intro vs n h
    cases h with
    | cons h1 h2 =>
      cases n with
      | zero => exact .cons h1 h2
      | succ n => exact ih n h2
theorem VRs.dropLast {N : Nat} {ds : List Val} {vs : List V} (h : VRs K H μ N vs ds) : VRs K H μ N vs.dropLast ds.dropLast := by
  rw [List.dropLast_eq_take, List.dropLast_eq_take, VRs.length h]
  exact VRs.take _ h
theorem VRs.set {N : Nat} {d : Val} {v : V} (r : VR K H μ N v d) : ∀ {ds : List Val} {vs : List V} (n : Nat), VRs K H μ N vs ds → VRs K H μ N (vs.set n v) (ds.set n d) := by
  intro ds
  induction ds with
  | nil => intro vs n h; cases h; exact .nil
  | cons x xs ih =>
    intro vs n h
    cases h with
    | cons h1 h2 =>
      cases n with
      | zero => exact .cons r h2
      | succ n => exact .cons h1 (ih n h2)
theorem VRs.eraseIdx {N : Nat} : ∀ {ds : List Val} {vs : List V} (n : Nat), VRs K H μ N vs ds → VRs K H μ N (vs.eraseIdx n) (ds.eraseIdx n) := by
  intro ds
  induction ds with
  | nil => intro vs n h; cases h; exact .nil
  | cons x xs ih =>
    intro vs n h
    cases h with
    | cons h1 h2 =>
      cases n with
      | zero => exact h2
      | succ n => exact .cons h1 (ih n h2)
theorem VRs.reverse {N : Nat} : ∀ {ds : List Val} {vs : List V}, VRs K H μ N vs ds → VRs K H μ N vs.reverse ds.reverse := by
  intro ds
  induction ds with
  | nil => intro vs h; cases h; exact .nil
  | cons x xs ih => intro vs h; cases h with | cons h1 h2 => simp; exact (ih h2).app (.cons h1 .nil)
theorem VRs.rep {N : Nat} {ds : List Val} {vs : List V} (h : VRs K H μ N vs ds) : ∀ n : Nat, VRs K H μ N (List.replicate n vs).flatten (List.replicate n ds).flatten
  | 0 => .nil
  | n + 1 => by simp [List.replicate_succ]; exact h.app (VRs.rep h n)
theorem VRs.empty {N : Nat} {ds : List Val} {vs : List V} (h : VRs K H μ N vs ds) : vs.isEmpty = ds.isEmpty := by
  cases ds <;> cases h <;> rfl
theorem ix_eq (n : Nat) (i : Int) : ix n i = ixN n i := rfl
theorem VRs.at {N : Nat} {ds : List Val} {vs : List V} {i : Int} {d : Val} (h : VRs K H μ N vs ds) (e : at' ds i = some d) : ∃ v, atI vs i = some v ∧ VR K H μ N v d := by
  unfold at' at e
  unfold atI
  rw [VRs.length h, ← ix_eq]
  cases q : ix ds.length i with
  | none => rw [q] at e; cases e
  | some j =>
    rw [q] at e
    exact VRs.get h e
theorem VRs.cut {N : Nat} {ds : List Val} {vs : List V} (lo hi : Option Int) (h : VRs K H μ N vs ds) : VRs K H μ N (cutV vs lo hi) (cut ds lo hi) := by
  have e : ∀ n d o, cutIx n d o = HT.sIx n d o := fun n d o => by cases o <;> rfl
  unfold cutV Mi.cut
  rw [VRs.length h, e, e]
  exact (VRs.drop _ h).take _
end

/-! ### operations by one value -/
section
variable {X : Cx}
/-- what the interpreter's operation asks, as a reading -/
def r1 (X : Cx) (o : O1) (v : V) (H : Hp) (Q : VK) : Prop :=
  ∃ (W : XW) (μ₀ : Mu) (st₀ : Store) (H₀ : Hp) (μ : Mu) (st : Store) (r : RV), Post X.K μ₀ st₀ H₀ μ st H ∧ VRR X.K H₀ H μ st.length v r ∧ After X.K W μ₀ st₀ H₀ (f1 o r st) Q
def r2 (X : Cx) (o : O2) (v u : V) (H : Hp) (Q : VK) : Prop :=
  ∃ (W : XW) (μ₀ : Mu) (st₀ : Store) (H₀ : Hp) (μ : Mu) (st : Store) (r q : RV), Post X.K μ₀ st₀ H₀ μ st H ∧ VRR X.K H₀ H μ st.length v r ∧ VRR X.K H₀ H μ st.length u q ∧ After X.K W μ₀ st₀ H₀ (f2 o r q st) Q
abbrev c1 (X : Cx) (o : O1) : List V → Hp → VK → Prop := fun xs H Q => ∃ v, xs = [v] ∧ r1 X o v H Q

theorem bin_int {o : O2} {f : Value → Value → Sem Value} {C : Int → Int → Prop} {g : Int → Int → V} (rule : OpR X f (rI C g))
    (h : ∀ (r q : RV) (st : Store) (W : XW) (μ₀ : Mu) (st₀ : Store) (H₀ : Hp) (Q : VK), After X.K W μ₀ st₀ H₀ (f2 o r q st) Q → ∃ i j d, r = .v (.int i) ∧ q = .v (.int j) ∧ C i j ∧ f2 o r q st = .ok (.v d) st ∧ (∀ K H μ N, VR K H μ N (g i j) d)) :
    OpR X f (r2 X o) := by
  intro pins s σ H x y v u Q I rx ry hr
  obtain ⟨W, μ₀, st₀, H₀, μ, st, r, q, P, hv, hu, a⟩ := hr
  obtain ⟨i, j, d, rfl, rfl, c, e, z⟩ := h _ _ _ _ _ _ _ _ a
  rw [e] at a
  cases hv; cases hu
  exact rule pins s σ H _ _ v u Q I rx ry ⟨i, j, rfl, rfl, c, fin a P (z _ _ _ _)⟩
theorem bin_int0 {o : O2} {f : Value → Value → Sem Value} {g : Int → Int → V} (rule : OpR X f (rI0 g))
    (h : ∀ (r q : RV) (st : Store) (W : XW) (μ₀ : Mu) (st₀ : Store) (H₀ : Hp) (Q : VK), After X.K W μ₀ st₀ H₀ (f2 o r q st) Q → ∃ i j d, r = .v (.int i) ∧ q = .v (.int j) ∧ f2 o r q st = .ok (.v d) st ∧ (∀ K H μ N, VR K H μ N (g i j) d)) :
    OpR X f (r2 X o) :=
  bin_int (C := fun _ _ => True) (fun pins s σ H x y v u Q I rx ry hr => rule pins s σ H x y v u Q I rx ry (by obtain ⟨i, j, e1, e2, _, q⟩ := hr; exact ⟨i, j, e1, e2, q⟩))
    fun r q st W μ₀ st₀ H₀ Q a => by obtain ⟨i, j, d, e1, e2, e3, e4⟩ := h r q st W μ₀ st₀ H₀ Q a; exact ⟨i, j, d, e1, e2, trivial, e3, e4⟩
theorem cmpI_ok {o : O2} {p : Int → Int → Bool} (ho : ∀ r q st, f2 o r q st = cmpI p r q st) (r q : RV) (st : Store) (W : XW) (μ₀ : Mu) (st₀ : Store) (H₀ : Hp) (Q : VK) (a : After X.K W μ₀ st₀ H₀ (f2 o r q st) Q) :
    ∃ i j d, r = .v (.int i) ∧ q = .v (.int j) ∧ f2 o r q st = .ok (.v d) st ∧ (∀ K H μ N, VR K H μ N (.bl (p i j)) d) := by
  rw [ho] at a ⊢
  unfold cmpI at a ⊢
  split at a
  · rename_i i j
    exact ⟨i, j, _, rfl, rfl, rfl, fun _ _ _ _ => .bl _⟩
  · exact a.elim
theorem o_lt : OpR X (compareOp .Lt) (r2 X .lt) := bin_int0 op_lt (cmpI_ok fun _ _ _ => rfl)
theorem o_le : OpR X (compareOp .LtE) (r2 X .le) := bin_int0 op_le (cmpI_ok fun _ _ _ => rfl)
theorem o_gt : OpR X (compareOp .Gt) (r2 X .gt) := bin_int0 op_gt (cmpI_ok fun _ _ _ => rfl)
theorem o_ge : OpR X (compareOp .GtE) (r2 X .ge) := bin_int0 op_ge (cmpI_ok fun _ _ _ => rfl)
theorem o_sub : OpR X (binaryOp .Sub) (r2 X .sub) := bin_int0 op_sub fun r q st W μ₀ st₀ H₀ Q a => by
  simp only [f2] at a ⊢
  split at a
  · rename_i i j; exact ⟨i, j, _, rfl, rfl, rfl, fun _ _ _ _ => .int _⟩
  · exact a.elim
theorem o_mod : OpR X (binaryOp .Mod) (r2 X .mod) := bin_int op_mod fun r q st W μ₀ st₀ H₀ Q a => by
  simp only [f2] at a ⊢
  split at a
  · rename_i i j
    split at a
    · rename_i h; exact ⟨i, j, _, rfl, rfl, h, by simp [h], fun _ _ _ _ => .int _⟩
    · exact a.elim
  · exact a.elim
theorem o_fdiv : OpR X (binaryOp .FloorDiv) (r2 X .fdiv) := bin_int op_fdivW fun r q st W μ₀ st₀ H₀ Q a => by
  simp only [f2] at a ⊢
  split at a
  · rename_i i j
    split at a
    · rename_i h; exact ⟨i, j, _, rfl, rfl, h, by simp [h], fun _ _ _ _ => .int _⟩
    · exact a.elim
  · exact a.elim
theorem o_pow : OpR X (binaryOp .Pow) (r2 X .pow) := bin_int op_pow fun r q st W μ₀ st₀ H₀ Q a => by
  simp only [f2] at a ⊢
  split at a
  · rename_i i j
    split at a
    · rename_i h; exact ⟨i, j, _, rfl, rfl, h, by simp [h], fun _ _ _ _ => .int _⟩
    · exact a.elim
  · exact a.elim
end
end Mi
end
section
set_option linter.all false
set_option autoImplicit false
set_option maxRecDepth 10000
/-! MiEq: == of Mini's values is the model's. -/
namespace Mi
open PySem PySem.Spec L2
open PyProof.Rows hiding RelV

section
variable {K : PySem.W.Frag} {H : Hp} {μ : Mu} {st : Store}
theorem eqFlat_refl {a : Val} {r : Bool} (h : eqFlat a a = some r) : r = true := by
  cases a <;> simp [eqFlat] at h <;> exact h.symm ▸ rfl
theorem eqAll_refl {f : Val → Val → Option Bool} (hf : ∀ x r, f x x = some r → r = true) : ∀ {xs : List Val} {r : Bool}, eqAll f xs xs = some r → r = true := by
  intro xs
  induction xs with
  | nil => intro r h; simp [eqAll] at h; exact h.symm ▸ rfl
  | cons x xs ih =>
    intro r h
    simp only [eqAll, Option.bind_eq_some_iff] at h
    obtain ⟨b, h1, c, h2, h3⟩ := h
    have e1 := hf x b h1
    have e2 := ih h2
    subst e1; subst e2
    simpa using h3.symm
theorem eqV_refl : ∀ (n : Nat) (a : Val) (r : Bool), eqV n st a a = some r → r = true := by
  intro n
  induction n with
  | zero => intro a r h; simp [eqV] at h
  | succ n ih =>
    intro a r h
    unfold eqV at h
    cases q : seqV st a with
    | none => simp only [q] at h; exact eqFlat_refl h
    | some p =>
      obtain ⟨k, xs⟩ := p
      simp only [q, beq_self_eq_true, if_true, bne_self_eq_false, Bool.and_false, Bool.false_eq_true, if_false] at h
      exact eqAll_refl (fun x r hx => ih x r hx) h
end

section
variable {X : Cx} {pins : List (Addr × PySem.Obj)} {σ : L2.St} {H : Hp} {s : Shared} {μ : Mu} {st : Store}
/-- a tracked address is none of the module's -/
theorem not_K (I : Inv X pins σ H s) {a : Addr} {u : HO} (h : H a = some u) {o : PySem.Obj} (hk : X.K.lookup a = some o) : False := by
  have := (I.bs a o (I.mod.kin a o hk)).2
  rw [h] at this; cases this
theorem not_both (I : Inv X pins σ H s) (r : Rel X.K H μ st) {n : Nat} (hn : n < st.length) {xs : List V} (h : SqT X.K H (μ n) xs) : False := by
  obtain ⟨u, e1, e2, e3⟩ := r.there hn
  rcases h with (h | ⟨o, h⟩) | ⟨o, _, _, h, _⟩
  · rw [e1] at h; exact e2 xs (Option.some.inj h)
  · rw [e1] at h; exact e3 o xs (Option.some.inj h)
  · exact not_K I e1 h
theorem VR.i_ref {K : PySem.W.Frag} {N n : Nat} {v : V} (h : VR K H μ N v (.ref n)) : n < N ∧ v = .ref (μ n) := by cases h with | ref hn => exact ⟨hn, rfl⟩
theorem VR.i_tup {K : PySem.W.Frag} {N : Nat} {v : V} {ds : List Val} (h : VR K H μ N v (.tup ds)) : ∃ a vs, v = .ref a ∧ SqT K H a vs ∧ VRs K H μ N vs ds := by cases h with | tup a b => exact ⟨_, _, rfl, a, b⟩
theorem VR.i_non {K : PySem.W.Frag} {N : Nat} {v : V} (h : VR K H μ N v .non) : v = .non := by cases h; rfl
theorem VR.i_bl {K : PySem.W.Frag} {N : Nat} {v : V} {b : Bool} (h : VR K H μ N v (.bl b)) : v = .bl b := by cases h; rfl
theorem VR.i_int {K : PySem.W.Frag} {N : Nat} {v : V} {b : Int} (h : VR K H μ N v (.int b)) : v = .int b := by cases h; rfl
theorem VR.i_str {K : PySem.W.Frag} {N : Nat} {v : V} {b : List Nat} (h : VR K H μ N v (.str b)) : v = .str (toStr b) := by cases h; rfl
theorem toStr_inj {x y : List Nat} (h : toStr x = toStr y) : x = y := by
  have : (toStr x).cps.toList = (toStr y).cps.toList := by rw [h]
  simpa [toStr] using this
mutual
/-- a value stands for one datum alone -/
theorem VR.one (I : Inv X pins σ H s) (r : Rel X.K H μ st) : ∀ (d e : Val) (v : V), VR X.K H μ st.length v d → VR X.K H μ st.length v e → d = e
  | .non, e, v, h, g => by
    have := h.i_non; subst this; cases g; rfl
  | .bl b, e, v, h, g => by
    have := h.i_bl; subst this; cases g; rfl
  | .int i, e, v, h, g => by
    have := h.i_int; subst this; cases g; rfl
  | .str x, e, v, h, g => by
    have hv := h.i_str
    cases e with
    | str y => rw [toStr_inj (V.str.inj (hv.symm.trans g.i_str))]
    | non => have := g.i_non; rw [this] at hv; cases hv
    | bl b => have := g.i_bl; rw [this] at hv; cases hv
    | int b => have := g.i_int; rw [this] at hv; cases hv
    | tup b => obtain ⟨_, _, this, _⟩ := g.i_tup; rw [this] at hv; cases hv
    | ref b => have := g.i_ref.2; rw [this] at hv; cases hv
  | .tup xs, e, v, h, g => by
    obtain ⟨a, vs, hv, s1, q1⟩ := h.i_tup
    cases e with
    | str y => have := g.i_str; rw [this] at hv; cases hv
    | non => have := g.i_non; rw [this] at hv; cases hv
    | bl b => have := g.i_bl; rw [this] at hv; cases hv
    | int b => have := g.i_int; rw [this] at hv; cases hv
    | tup ys =>
      obtain ⟨b, us, hu, s2, q2⟩ := g.i_tup
      have e1 := V.ref.inj (hv.symm.trans hu)
      subst e1
      have e2 := I.tuple_inj s1 s2
      subst e2
      rw [VRs.one I r xs ys _ q1 q2]
    | ref n =>
      obtain ⟨hn, hu⟩ := g.i_ref
      have e1 := V.ref.inj (hv.symm.trans hu)
      rw [e1] at s1
      exact (not_both I r hn s1).elim
  | .ref n, e, v, h, g => by
    obtain ⟨hn, hv⟩ := h.i_ref
    cases e with
    | str y => have := g.i_str; rw [this] at hv; cases hv
    | non => have := g.i_non; rw [this] at hv; cases hv
    | bl b => have := g.i_bl; rw [this] at hv; cases hv
    | int b => have := g.i_int; rw [this] at hv; cases hv
    | tup ys =>
      obtain ⟨b, us, hu, s2, q2⟩ := g.i_tup
      have e1 := V.ref.inj (hu.symm.trans hv)
      rw [e1] at s2
      exact (not_both I r hn s2).elim
    | ref m =>
      obtain ⟨hm, hu⟩ := g.i_ref
      rw [r.inj n m hn hm (V.ref.inj (hv.symm.trans hu))]
theorem VRs.one (I : Inv X pins σ H s) (r : Rel X.K H μ st) : ∀ (d e : List Val) (v : List V), VRs X.K H μ st.length v d → VRs X.K H μ st.length v e → d = e
  | [], e, v, h, g => by
    cases h
    cases g; rfl
  | x :: xs, e, v, h, g => by
    cases v with
    | nil => cases h
    | cons u us =>
      cases e with
      | nil => cases g
      | cons y ys =>
        have h' : VR X.K H μ st.length u x ∧ VRs X.K H μ st.length us xs := by cases h with | cons a b => exact ⟨a, b⟩
        have g' : VR X.K H μ st.length u y ∧ VRs X.K H μ st.length us ys := by cases g with | cons a b => exact ⟨a, b⟩
        rw [VR.one I r _ _ _ h'.1 g'.1, VRs.one I r _ _ _ h'.2 g'.2]
end
theorem eqAll_range {f : Val → Val → Option Bool} : ∀ {xs ys : List Val} {r : Bool}, eqAll f xs ys = some r →
    ∃ g : Nat → Bool, (∀ (j : Nat) x y, xs[j]? = some x → ys[j]? = some y → f x y = some (g j)) ∧ ((List.range (min xs.length ys.length)).all g && xs.length == ys.length) = r := by
  intro xs
  induction xs with
  | nil => intro ys r h; cases ys with
    | nil => simp [eqAll] at h; exact ⟨fun _ => true, fun j x y e => by simp at e, by simp; exact h.symm ▸ rfl⟩
    | cons => simp [eqAll] at h; exact ⟨fun _ => true, fun j x y e => by simp at e, by simp; exact h.symm ▸ rfl⟩
  | cons x xs ih =>
    intro ys r h
    cases ys with
    | nil => simp [eqAll] at h; exact ⟨fun _ => true, fun j x y _ e => by simp at e, by simp; exact h.symm ▸ rfl⟩
    | cons y ys =>
      simp only [eqAll, Option.bind_eq_some_iff] at h
      obtain ⟨b, h1, c, h2, h3⟩ := h
      obtain ⟨g, g1, g2⟩ := ih h2
      refine ⟨fun j => match j with | 0 => b | j + 1 => g j, fun j u w e1 e2 => ?_, ?_⟩
      · cases j with
        | zero => simp at e1 e2; subst e1; subst e2; exact h1
        | succ j => simp at e1 e2; exact g1 j u w e1 e2
      · have e : min (x :: xs).length (y :: ys).length = min xs.length ys.length + 1 := by simp only [List.length_cons]; omega
        rw [e, List.range_succ_eq_map, List.all_cons, List.all_map]
        have : (List.range (min xs.length ys.length)).all ((fun j => match j with | 0 => b | j + 1 => g j) ∘ Nat.succ) = (List.range (min xs.length ys.length)).all g := rfl
        rw [this]
        have e2 : ((x :: xs).length == (y :: ys).length) = (xs.length == ys.length) := by simp
        rw [e2, ← Option.some.inj h3, ← g2, Bool.and_assoc]
theorem str_toStr (x y : List Nat) : (toStr x == toStr y) = (x == y) := by
  rw [← SeqAt.str_beq]; simp [toStr]
/-- what stands for a flat value -/
theorem flat_eq {A : Around} {v u : V} {a b : Val} {vv uu : Value} {r : Bool} {N : Nat} (h : eqFlat a b = some r) (ha : VR X.K H μ N v a) (hb : VR X.K H μ N u b) (rv : L2.RelV v vv) (ru : L2.RelV u uu) : SeqAt.EqAt A s vv uu r := by
  cases a with
  | non =>
    have := ha.i_non; subst this; cases rv
    cases b with
    | non => have := hb.i_non; subst this; cases ru; cases h; exact SeqAt.EqAt.same _
    | bl x => have := hb.i_bl; subst this; cases ru; cases h; exact SeqAt.EqAt.none_bool _
    | int x => have := hb.i_int; subst this; obtain ⟨t, rfl⟩ := ru; cases h; exact SeqAt.EqAt.none_int _ _
    | str x => have := hb.i_str; subst this; obtain ⟨t, rfl⟩ := ru; cases h; exact SeqAt.EqAt.none_str _ _
    | _ => cases h
  | bl y =>
    have := ha.i_bl; subst this; cases rv
    cases b with
    | non => have := hb.i_non; subst this; cases ru; cases h; exact SeqAt.EqAt.bool_none _
    | bl x => have := hb.i_bl; subst this; cases ru; cases h; exact SeqAt.EqAt.bool_bool _ _
    | int x => have := hb.i_int; subst this; obtain ⟨t, rfl⟩ := ru; cases h; exact SeqAt.EqAt.bool_int _ _ _
    | str x => have := hb.i_str; subst this; obtain ⟨t, rfl⟩ := ru; cases h; exact SeqAt.EqAt.bool_str _ _ _
    | _ => cases h
  | int y =>
    have := ha.i_int; subst this; obtain ⟨t', rfl⟩ := rv
    cases b with
    | non => have := hb.i_non; subst this; cases ru; cases h; exact SeqAt.EqAt.int_none _ _
    | bl x => have := hb.i_bl; subst this; cases ru; cases h; exact SeqAt.EqAt.int_bool _ _ _
    | int x => have := hb.i_int; subst this; obtain ⟨t, rfl⟩ := ru; cases h; exact SeqAt.EqAt.int_int _ _ _ _
    | str x => have := hb.i_str; subst this; obtain ⟨t, rfl⟩ := ru; cases h; exact SeqAt.EqAt.int_str _ _ _ _
    | _ => cases h
  | str y =>
    have := ha.i_str; subst this; obtain ⟨t', rfl⟩ := rv
    cases b with
    | non => have := hb.i_non; subst this; cases ru; cases h; exact SeqAt.EqAt.str_none _ _
    | bl x => have := hb.i_bl; subst this; cases ru; cases h; exact SeqAt.EqAt.str_bool _ _ _
    | int x => have := hb.i_int; subst this; obtain ⟨t, rfl⟩ := ru; cases h; exact SeqAt.EqAt.str_int _ _ _ _
    | str x =>
      have := hb.i_str; subst this; obtain ⟨t, rfl⟩ := ru
      cases h
      rw [← str_toStr]
      exact SeqAt.EqAt.str_str _ _ _ _
    | _ => cases h
  | _ => cases b <;> cases h
theorem vr_flat {A : Around} {u : V} {b : Val} {uu : Value} {N : Nat} (hu : A.units < cLine) (I : Inv X pins σ H s) (hb : isFlat b = true) (h : VR X.K H μ N u b) (ru : L2.RelV u uu) {p : Addr} {xs : List V}
    (hs : SqL X.K H p xs ∨ SqT X.K H p xs) : SeqAt.EqAt A s (.ref p) uu false ∧ SeqAt.EqAt A s uu (.ref p) false := by
  rcases hs with hs | hs
  · obtain ⟨its, _, pl, _⟩ := I.list hs
    have pl := pl.isList
    cases h <;> first | (simp [isFlat] at hb; done) | skip
    · subst ru; exact ⟨SeqAt.EqAt.list_none pl hu, SeqAt.EqAt.none_list pl hu⟩
    · subst ru; exact ⟨SeqAt.EqAt.list_bool _ pl hu, SeqAt.EqAt.bool_list _ pl hu⟩
    · obtain ⟨t, rfl⟩ := ru; exact ⟨SeqAt.EqAt.list_int _ _ pl hu, SeqAt.EqAt.int_list _ _ pl hu⟩
    · obtain ⟨t, rfl⟩ := ru; exact ⟨SeqAt.EqAt.list_str _ _ pl hu, SeqAt.EqAt.str_list _ _ pl hu⟩
  · obtain ⟨its, _, pl, _⟩ := I.tuple hs
    have pl : s.heap.IsTuple p its.toArray := pl
    cases h <;> first | (simp [isFlat] at hb; done) | skip
    · subst ru; exact ⟨SeqAt.EqAt.tuple_none pl hu, SeqAt.EqAt.none_tuple pl hu⟩
    · subst ru; exact ⟨SeqAt.EqAt.tuple_bool _ pl hu, SeqAt.EqAt.bool_tuple _ pl hu⟩
    · obtain ⟨t, rfl⟩ := ru; exact ⟨SeqAt.EqAt.tuple_int _ _ pl hu, SeqAt.EqAt.int_tuple _ _ pl hu⟩
    · obtain ⟨t, rfl⟩ := ru; exact ⟨SeqAt.EqAt.tuple_str _ _ pl hu, SeqAt.EqAt.str_tuple _ _ pl hu⟩
theorem Vals.at_ {vs : List V} {its : List Value} {N : Nat} {K : PySem.W.Frag} {ds : List Val} (h : VRs K H μ N vs ds) (rv : L2.Vals vs its) {j : Nat} (hj : j < its.length) : ∃ d v, ds[j]? = some d ∧ VR K H μ N v d ∧ L2.RelV v its[j] := by
  have hl : j < vs.length := by rw [L2.Vals.length rv]; exact hj
  have hd : j < ds.length := by rw [← VRs.length h]; exact hl
  obtain ⟨v, e1, r1⟩ := VRs.get h (List.getElem?_eq_getElem hd)
  obtain ⟨u, e2, r2⟩ := rv.get e1
  rw [List.getElem?_eq_getElem hj] at e2
  cases e2
  exact ⟨_, v, List.getElem?_eq_getElem hd, r1, r2⟩
theorem units_in1 (A : Around) : A.in1.units = A.units + 1 := by first | rfl | simp [Around.in1]
/-- two sequences -/
theorem seq_eq (I : Inv X pins σ H s) (r : Rel X.K H μ st) {n : Nat} {A : Around} (hu : A.units < cLine) {k j : Bool} {xs ys : List Val} {vs us : List V} {p q : Addr} {res : Bool}
    (ih : ∀ a b v u vv uu res, eqV n st a b = some res → VR X.K H μ st.length v a → VR X.K H μ st.length u b → L2.RelV v vv → L2.RelV u uu → SeqAt.EqAt A.in1 s vv uu res)
    (h : (if k == j then (if k && xs.length != ys.length then some false else eqAll (eqV n st) xs ys) else some false) = some res)
    (hp : if k then SqL X.K H p vs else SqT X.K H p vs) (hv : VRs X.K H μ st.length vs xs) (hq : if j then SqL X.K H q us else SqT X.K H q us) (hw : VRs X.K H μ st.length us ys) (hne : p = q → res = true) : SeqAt.EqAt A s (.ref p) (.ref q) res := by
  by_cases hpq : p = q
  · have := hne hpq
    subst this; subst hpq
    exact SeqAt.EqAt.same _
  cases k with
  | true =>
    obtain ⟨its, rv, pl, _⟩ := I.list hp
    cases j with
    | true =>
      obtain ⟨its2, rv2, pl2, _⟩ := I.list hq
      have l1 : its.length = xs.length := by rw [← L2.Vals.length rv, VRs.length hv]
      have l2 : its2.length = ys.length := by rw [← L2.Vals.length rv2, VRs.length hw]
      simp only [beq_self_eq_true, if_true, Bool.true_and] at h
      split at h
      · rename_i hl
        cases h
        refine SeqAt.EqAt.of_refs hpq (SeqAt.RcAt.lists_lengths pl.isList pl2.isList ?_ hu)
        simpa [l1, l2] using hl
      · rename_i hl
        have hl' : xs.length = ys.length := by simpa using hl
        obtain ⟨g, g1, g2⟩ := eqAll_range h
        have e : res = (List.range its.toArray.size).all g := by rw [← g2]; simp [l1, hl']
        rw [e]
        refine SeqAt.EqAt.of_refs hpq (SeqAt.RcAt.lists pl.isList pl2.isList (by simp [l1, l2, hl']) hu fun i h1 h2 => ?_)
        obtain ⟨d, v, e1, r1, r2⟩ := Vals.at_ hv rv (by simpa using h1)
        obtain ⟨d', v', e1', r1', r2'⟩ := Vals.at_ hw rv2 (by simpa using h2)
        exact ih _ _ _ _ _ _ _ (g1 i d d' e1 e1') r1 r1' (by simpa using r2) (by simpa using r2')
    | false =>
      obtain ⟨its2, rv2, pl2, _⟩ := I.tuple hq
      simp at h
      subst h
      exact SeqAt.EqAt.list_tuple pl.isList pl2 hu
  | false =>
    obtain ⟨its, rv, pl, _⟩ := I.tuple hp
    cases j with
    | true =>
      obtain ⟨its2, rv2, pl2, _⟩ := I.list hq
      simp at h
      subst h
      exact SeqAt.EqAt.tuple_list pl pl2.isList hu
    | false =>
      obtain ⟨its2, rv2, pl2, _⟩ := I.tuple hq
      have l1 : its.length = xs.length := by rw [← L2.Vals.length rv, VRs.length hv]
      have l2 : its2.length = ys.length := by rw [← L2.Vals.length rv2, VRs.length hw]
      simp only [beq_self_eq_true, if_true, Bool.false_and, Bool.false_eq_true, if_false] at h
      obtain ⟨g, g1, g2⟩ := eqAll_range h
      have e : res = ((List.range (min its.toArray.size its2.toArray.size)).all g && its.toArray.size == its2.toArray.size) := by rw [← g2]; simp [l1, l2]
      rw [e]
      refine SeqAt.EqAt.of_refs hpq (SeqAt.RcAt.tuples pl pl2 hu fun i h1 h2 => ?_)
      obtain ⟨d, v, e1, r1, r2⟩ := Vals.at_ hv rv (by simpa using h1)
      obtain ⟨d', v', e1', r1', r2'⟩ := Vals.at_ hw rv2 (by simpa using h2)
      exact ih _ _ _ _ _ _ _ (g1 i d d' e1 e1') r1 r1' (by simpa using r2) (by simpa using r2')
theorem eqV_at (I : Inv X pins σ H s) (r : Rel X.K H μ st) : ∀ (n : Nat) (A : Around), A.units + n < cLine → ∀ a b v u vv uu res, eqV n st a b = some res → VR X.K H μ st.length v a → VR X.K H μ st.length u b → L2.RelV v vv → L2.RelV u uu → SeqAt.EqAt A s vv uu res := by
  intro n
  induction n with
  | zero => intro A _ a b v u vv uu res h; simp [eqV] at h
  | succ n ih =>
    intro A hu a b v u vv uu res h ha hb rv ru
    have hu0 : A.units < cLine := by omega
    have same : ∀ p, v = .ref p → u = .ref p → res = true := fun p e1 e2 => by
      have : a = b := VR.one I r a b v ha (by rw [e1, ← e2]; exact hb)
      subst this
      exact eqV_refl _ _ _ h
    have h0 := h
    unfold eqV at h
    cases qa : seqV st a with
    | none =>
      cases qb : seqV st b with
      | none => simp only [qa, qb] at h; exact flat_eq h ha hb rv ru
      | some p =>
        obtain ⟨k, ys⟩ := p
        simp only [qa, qb] at h
        split at h
        · rename_i hf
          cases h
          obtain ⟨p, us, e, hs, _⟩ := seqR_any (H₀ := H) (x := .v b) r hb qb
          subst e
          cases ru
          exact (vr_flat hu0 I hf ha rv hs).2
        · cases h
    | some pa =>
      obtain ⟨k, xs⟩ := pa
      cases qb : seqV st b with
      | none =>
        simp only [qa, qb] at h
        split at h
        · rename_i hf
          cases h
          obtain ⟨p, us, e, hs, _⟩ := seqR_any (H₀ := H) (x := .v a) r ha qa
          subst e
          cases rv
          exact (vr_flat hu0 I hf hb ru hs).1
        · cases h
      | some pb =>
        obtain ⟨j, ys⟩ := pb
        simp only [qa, qb] at h
        have A1 : ∃ p vs, v = .ref p ∧ (if k then SqL X.K H p vs else SqT X.K H p vs) ∧ VRs X.K H μ st.length vs xs := by
          cases k with
          | true => obtain ⟨p, vs, e, x, y⟩ := seqV_list r ha qa; exact ⟨p, vs, e, x, y⟩
          | false => obtain ⟨p, vs, _, e, x, y⟩ := seqV_tup ha qa; exact ⟨p, vs, e, x, y⟩
        have B1 : ∃ p vs, u = .ref p ∧ (if j then SqL X.K H p vs else SqT X.K H p vs) ∧ VRs X.K H μ st.length vs ys := by
          cases j with
          | true => obtain ⟨p, vs, e, x, y⟩ := seqV_list r hb qb; exact ⟨p, vs, e, x, y⟩
          | false => obtain ⟨p, vs, _, e, x, y⟩ := seqV_tup hb qb; exact ⟨p, vs, e, x, y⟩
        obtain ⟨p, vs, rfl, s1, r1⟩ := A1
        obtain ⟨q, us, rfl, s2, r2⟩ := B1
        cases rv; cases ru
        exact seq_eq I r hu0 (fun a b v u vv uu res => ih A.in1 (by rw [units_in1]; omega) a b v u vv uu res) h s1 r1 s2 r2 fun e => same p rfl (by rw [e])
end
end Mi
end
section
set_option linter.all false
set_option autoImplicit false
set_option maxRecDepth 10000
/-! MiOps2: further operations. -/
namespace Mi
open PySem PySem.Spec L2
open PyProof.Rows hiding RelV

section
variable {K : PySem.W.Frag} {H₀ H : Hp} {μ : Mu} {st : Store}
theorem ownL_ok {x : RV} {v : V} {ds : List Val} (r : Rel K H μ st) (h : VRR K H₀ H μ st.length v x) (e : ownL st x = some ds) : ∃ a vs, v = .ref a ∧ H a = some (.lst vs) ∧ VRs K H μ st.length vs ds := by
  cases x with
  | l xs =>
    simp [ownL] at e
    subst e
    obtain ⟨p, vs, e0, _, e1, e2, _⟩ := h
    exact ⟨p, vs, e0, e1, e2⟩
  | v d =>
    unfold ownL at e
    split at e
    · rename_i h'; cases h'
    · rename_i n h'
      cases h'
      split at e
      · rename_i xs hx
        cases e
        obtain ⟨vs, e1, e2⟩ := r.obj _ _ hx
        obtain ⟨hn, hv⟩ := h.i_ref
        exact ⟨_, vs, hv, e1, e2⟩
      · cases e
    · cases e
end
section
variable {X : Cx}
theorem nr_v {K : PySem.W.Frag} {H₀ H : Hp} {μ : Mu} {N : Nat} {v : V} {d : Val} (h : VRR K H₀ H μ N v (.v d)) : VR K H μ N v d := h
theorem o_add : OpR X (binaryOp .Add) (r2 X .add) := by
  intro pins s σ H x y v u Q I rx ry hr
  obtain ⟨W, μ₀, st₀, H₀, μ, st, r, q, P, hv, hu, a⟩ := hr
  simp only [f2] at a
  split at a
  · rename_i i j
    have e1 := (nr_v hv).i_int; have e2 := (nr_v hu).i_int
    subst e1; subst e2
    exact op_add pins s σ H _ _ v u Q I rx ry ⟨i, j, rfl, rfl, fin a P (.int _)⟩
  · rename_i i j
    split at a
    · rename_i hl
      have e1 := (nr_v hv).i_str; have e2 := (nr_v hu).i_str
      subst e1; subst e2
      refine op_add_str pins s σ H _ _ v u Q I rx ry ⟨_, _, rfl, rfl, by simpa [toStr, Str.length] using (show i.length + j.length ≤ sizeLine from hl), ?_⟩
      have : VR X.K H μ st.length (.str (toStr (i ++ j))) (.str (i ++ j)) := .str _
      have e : toStr i ++ toStr j = toStr (i ++ j) := by show Str.append _ _ = _; simp [toStr, Str.append]
      rw [e]
      exact fin a P this
    · exact a.elim
  · rename_i xs ys
    split at a
    · rename_i hl
      obtain ⟨p, vs, rfl, s1, q1⟩ := (nr_v hv).i_tup
      obtain ⟨p2, us, rfl, s2, q2⟩ := (nr_v hu).i_tup
      refine op_catA pins s σ H _ _ v u Q I rx ry ⟨_, _, vs, us, rfl, rfl, s1, s2, by rw [VRs.length q1, VRs.length q2]; exact hl, fun e => ?_, fun e e' => ?_, fun _ _ p hp => finT a P (q1.app q2) hp⟩
      · subst e; cases q1; exact fin a P (.tup s2 q2)
      · subst e'; cases q2; exact fin a P (by rw [List.append_nil]; exact .tup s1 q1)
    · exact a.elim
  · split at a
    · rename_i xs ys e1 e2
      split at a
      · rename_i hl
        obtain ⟨p, vs, rfl, s1, q1⟩ := ownL_ok P.rel hv e1
        obtain ⟨p2, us, rfl, s2, q2⟩ := ownL_ok P.rel hu e2
        exact op_cat pins s σ H _ _ v u Q I rx ry ⟨_, _, vs, us, rfl, rfl, s1, s2, by rw [VRs.length q1, VRs.length q2]; exact hl, fun p hp => finL a P (q1.app q2) hp⟩
      · exact a.elim
    · exact a.elim
theorem o_mul : OpR X (binaryOp .Mult) (r2 X .mul) := by
  intro pins s σ H x y v u Q I rx ry hr
  obtain ⟨W, μ₀, st₀, H₀, μ, st, r, q, P, hv, hu, a⟩ := hr
  simp only [f2] at a
  split at a
  · rename_i i j
    split at a
    · rename_i hl
      have e1 := (nr_v hv).i_int; have e2 := (nr_v hu).i_int
      subst e1; subst e2
      rcases hl with hl | hl | hl
      · exact L2.op_mul pins s σ H _ _ v u Q I rx ry ⟨i, j, rfl, rfl, .inl ⟨by omega, by omega⟩, fin a P (.int _)⟩
      · exact L2.op_mul pins s σ H _ _ v u Q I rx ry ⟨i, j, rfl, rfl, .inr ⟨by omega, by omega⟩, fin a P (.int _)⟩
      · exact op_mulW pins s σ H _ _ v u Q I rx ry ⟨i, j, rfl, rfl, hl, fin a P (.int _)⟩
    · exact a.elim
  · rename_i xs j
    split at a
    · rename_i hl
      obtain ⟨p, vs, rfl, s1, q1⟩ := (nr_v hv).i_tup
      have e2 := (nr_v hu).i_int
      subst e2
      refine op_repT pins s σ H _ _ v u Q I rx ry ⟨_, j, vs, rfl, rfl, s1, fun z => ?_, hl.1, hl.2.1, by rw [VRs.length q1]; exact hl.2.2.1, fun p hp => finT a P (q1.rep _) hp⟩
      subst z; cases q1; exact hl.2.2.2 rfl
    · exact a.elim
  · rename_i j _ _
    split at a
    · rename_i xs e1
      split at a
      · rename_i hl
        obtain ⟨p, vs, rfl, s1, q1⟩ := ownL_ok P.rel hv e1
        have e2 := (nr_v hu).i_int
        subst e2
        exact op_rep pins s σ H _ _ v u Q I rx ry ⟨_, j, vs, rfl, rfl, s1, hl.1, hl.2.1, by rw [VRs.length q1]; exact hl.2.2, fun p hp => finL a P (q1.rep _) hp⟩
      · exact a.elim
    · exact a.elim
  · exact a.elim
/-! ### ==, != -/
theorem flat_rc {A : Around} {v u : V} {a b : Val} {vv uu : Value} {r : Bool} {N : Nat} {s : Shared} {H : Hp} {μ : Mu} (h : eqFlat a b = some r) (ha : VR X.K H μ N v a) (hb : VR X.K H μ N u b) (rv : L2.RelV v vv) (ru : L2.RelV u uu) : SeqAt.RcAt A s vv uu r ∧ SeqAt.RcNeAt A s vv uu (!r) := by
  cases a with
  | non =>
    have := ha.i_non; subst this; cases rv
    cases b with
    | non => have := hb.i_non; subst this; cases ru; cases h; exact ⟨SeqAt.RcAt.none_none, SeqAt.RcNeAt.none_none⟩
    | bl x => have := hb.i_bl; subst this; cases ru; cases h; exact ⟨SeqAt.RcAt.none_bool _, SeqAt.RcNeAt.none_bool _⟩
    | int x => have := hb.i_int; subst this; obtain ⟨t, rfl⟩ := ru; cases h; exact ⟨SeqAt.RcAt.none_int _ _, SeqAt.RcNeAt.none_int _ _⟩
    | str x => have := hb.i_str; subst this; obtain ⟨t, rfl⟩ := ru; cases h; exact ⟨SeqAt.RcAt.none_str _ _, SeqAt.RcNeAt.none_str _ _⟩
    | _ => cases h
  | bl y =>
    have := ha.i_bl; subst this; cases rv
    cases b with
    | non => have := hb.i_non; subst this; cases ru; cases h; exact ⟨SeqAt.RcAt.bool_none _, SeqAt.RcNeAt.bool_none _⟩
    | bl x => have := hb.i_bl; subst this; cases ru; cases h; exact ⟨SeqAt.RcAt.bool_bool _ _, SeqAt.RcNeAt.bool_bool _ _⟩
    | int x => have := hb.i_int; subst this; obtain ⟨t, rfl⟩ := ru; cases h; exact ⟨SeqAt.RcAt.bool_int _ _ _, SeqAt.RcNeAt.bool_int _ _ _⟩
    | str x => have := hb.i_str; subst this; obtain ⟨t, rfl⟩ := ru; cases h; exact ⟨SeqAt.RcAt.bool_str _ _ _, SeqAt.RcNeAt.bool_str _ _ _⟩
    | _ => cases h
  | int y =>
    have := ha.i_int; subst this; obtain ⟨t', rfl⟩ := rv
    cases b with
    | non => have := hb.i_non; subst this; cases ru; cases h; exact ⟨SeqAt.RcAt.int_none _ _, SeqAt.RcNeAt.int_none _ _⟩
    | bl x => have := hb.i_bl; subst this; cases ru; cases h; exact ⟨SeqAt.RcAt.int_bool _ _ _, SeqAt.RcNeAt.int_bool _ _ _⟩
    | int x => have := hb.i_int; subst this; obtain ⟨t, rfl⟩ := ru; cases h; exact ⟨SeqAt.RcAt.int_int _ _ _ _, SeqAt.RcNeAt.int_int _ _ _ _⟩
    | str x => have := hb.i_str; subst this; obtain ⟨t, rfl⟩ := ru; cases h; exact ⟨SeqAt.RcAt.int_str _ _ _ _, SeqAt.RcNeAt.int_str _ _ _ _⟩
    | _ => cases h
  | str y =>
    have := ha.i_str; subst this; obtain ⟨t', rfl⟩ := rv
    cases b with
    | non => have := hb.i_non; subst this; cases ru; cases h; exact ⟨SeqAt.RcAt.str_none _ _, SeqAt.RcNeAt.str_none _ _⟩
    | bl x => have := hb.i_bl; subst this; cases ru; cases h; exact ⟨SeqAt.RcAt.str_bool _ _ _, SeqAt.RcNeAt.str_bool _ _ _⟩
    | int x => have := hb.i_int; subst this; obtain ⟨t, rfl⟩ := ru; cases h; exact ⟨SeqAt.RcAt.str_int _ _ _ _, SeqAt.RcNeAt.str_int _ _ _ _⟩
    | str x =>
      have := hb.i_str; subst this; obtain ⟨t, rfl⟩ := ru
      cases h
      rw [← str_toStr]
      exact ⟨SeqAt.RcAt.str_str _ _ _ _, SeqAt.RcNeAt.str_str _ _ _ _⟩
    | _ => cases h
  | _ => cases b <;> cases h
end
section
variable {X : Cx} {pins : List (Addr × PySem.Obj)} {σ : L2.St} {H : Hp} {s : Shared} {μ : Mu} {st : Store}
theorem vr_flat_rc {A : Around} {u : V} {b : Val} {uu : Value} {N : Nat} (hu : A.units < cLine) (I : Inv X pins σ H s) (hb : isFlat b = true) (h : VR X.K H μ N u b) (ru : L2.RelV u uu) {p : Addr} {xs : List V}
    (hs : SqL X.K H p xs ∨ SqT X.K H p xs) : (SeqAt.RcAt A s (.ref p) uu false ∧ SeqAt.RcNeAt A s (.ref p) uu true) ∧ SeqAt.RcAt A s uu (.ref p) false ∧ SeqAt.RcNeAt A s uu (.ref p) true := by
  rcases hs with hs | hs
  · obtain ⟨its, _, pl, _⟩ := I.list hs
    have pl := pl.isList
    cases h <;> first | (simp [isFlat] at hb; done) | skip
    · subst ru; exact ⟨⟨SeqAt.RcAt.list_none pl hu, SeqAt.RcNeAt.list_none pl hu⟩, SeqAt.RcAt.none_list pl hu, SeqAt.RcNeAt.none_list pl hu⟩
    · subst ru; exact ⟨⟨SeqAt.RcAt.list_bool _ pl hu, SeqAt.RcNeAt.list_bool _ pl hu⟩, SeqAt.RcAt.bool_list _ pl hu, SeqAt.RcNeAt.bool_list _ pl hu⟩
    · obtain ⟨t, rfl⟩ := ru; exact ⟨⟨SeqAt.RcAt.list_int _ _ pl hu, SeqAt.RcNeAt.list_int _ _ pl hu⟩, SeqAt.RcAt.int_list _ _ pl hu, SeqAt.RcNeAt.int_list _ _ pl hu⟩
    · obtain ⟨t, rfl⟩ := ru; exact ⟨⟨SeqAt.RcAt.list_str _ _ pl hu, SeqAt.RcNeAt.list_str _ _ pl hu⟩, SeqAt.RcAt.str_list _ _ pl hu, SeqAt.RcNeAt.str_list _ _ pl hu⟩
  · obtain ⟨its, _, pl, _⟩ := I.tuple hs
    have pl : s.heap.IsTuple p its.toArray := pl
    cases h <;> first | (simp [isFlat] at hb; done) | skip
    · subst ru; exact ⟨⟨SeqAt.RcAt.tuple_none pl hu, SeqAt.RcNeAt.tuple_none pl hu⟩, SeqAt.RcAt.none_tuple pl hu, SeqAt.RcNeAt.none_tuple pl hu⟩
    · subst ru; exact ⟨⟨SeqAt.RcAt.tuple_bool _ pl hu, SeqAt.RcNeAt.tuple_bool _ pl hu⟩, SeqAt.RcAt.bool_tuple _ pl hu, SeqAt.RcNeAt.bool_tuple _ pl hu⟩
    · obtain ⟨t, rfl⟩ := ru; exact ⟨⟨SeqAt.RcAt.tuple_int _ _ pl hu, SeqAt.RcNeAt.tuple_int _ _ pl hu⟩, SeqAt.RcAt.int_tuple _ _ pl hu, SeqAt.RcNeAt.int_tuple _ _ pl hu⟩
    · obtain ⟨t, rfl⟩ := ru; exact ⟨⟨SeqAt.RcAt.tuple_str _ _ pl hu, SeqAt.RcNeAt.tuple_str _ _ pl hu⟩, SeqAt.RcAt.str_tuple _ _ pl hu, SeqAt.RcNeAt.str_tuple _ _ pl hu⟩
theorem seq_rc (I : Inv X pins σ H s) (r : Rel X.K H μ st) {A : Around} (hu : A.units + 64 < cLine) {k j : Bool} {xs ys : List Val} {vs us : List V} {p q : Addr} {res : Bool} {n : Nat} (hn : n ≤ 60)
    (h : (if k == j then (if k && xs.length != ys.length then some false else eqAll (eqV n st) xs ys) else some false) = some res)
    (hp : if k then SqL X.K H p vs else SqT X.K H p vs) (hv : VRs X.K H μ st.length vs xs) (hq : if j then SqL X.K H q us else SqT X.K H q us) (hw : VRs X.K H μ st.length us ys) : SeqAt.RcAt A s (.ref p) (.ref q) res ∧ SeqAt.RcNeAt A s (.ref p) (.ref q) (!res) := by
  have hu0 : A.units < cLine := by omega
  have ih : ∀ a b v u vv uu res, eqV n st a b = some res → VR X.K H μ st.length v a → VR X.K H μ st.length u b → L2.RelV v vv → L2.RelV u uu → SeqAt.EqAt A.in1 s vv uu res :=
    fun a b v u vv uu res => eqV_at I r n A.in1 (by rw [units_in1]; omega) a b v u vv uu res
  cases k with
  | true =>
    obtain ⟨its, rv, pl, _⟩ := I.list hp
    cases j with
    | true =>
      obtain ⟨its2, rv2, pl2, _⟩ := I.list hq
      have l1 : its.length = xs.length := by rw [← L2.Vals.length rv, VRs.length hv]
      have l2 : its2.length = ys.length := by rw [← L2.Vals.length rv2, VRs.length hw]
      simp only [beq_self_eq_true, if_true, Bool.true_and] at h
      split at h
      · rename_i hl
        cases h
        have hl' : (its.toArray.size != its2.toArray.size) = true := by simpa [l1, l2] using hl
        exact ⟨SeqAt.RcAt.lists_lengths pl.isList pl2.isList hl' hu0, SeqAt.RcNeAt.lists_lengths pl.isList pl2.isList hl' hu0⟩
      · rename_i hl
        have hl' : xs.length = ys.length := by simpa using hl
        obtain ⟨g, g1, g2⟩ := eqAll_range h
        have e : res = (List.range its.toArray.size).all g := by rw [← g2]; simp [l1, hl']
        have he : ∀ i (h1 : i < its.toArray.size) (h2 : i < its2.toArray.size), SeqAt.EqAt A.in1 s its.toArray[i] its2.toArray[i] (g i) := fun i h1 h2 => by
          obtain ⟨d, v, e1, r1, r2⟩ := Vals.at_ hv rv (by simpa using h1)
          obtain ⟨d', v', e1', r1', r2'⟩ := Vals.at_ hw rv2 (by simpa using h2)
          exact ih _ _ _ _ _ _ _ (g1 i d d' e1 e1') r1 r1' (by simpa using r2) (by simpa using r2')
        rw [e]
        exact ⟨SeqAt.RcAt.lists pl.isList pl2.isList (by simp [l1, l2, hl']) hu0 he, SeqAt.RcNeAt.lists pl.isList pl2.isList (by simp [l1, l2, hl']) hu0 he⟩
    | false =>
      obtain ⟨its2, rv2, pl2, _⟩ := I.tuple hq
      simp at h
      subst h
      exact ⟨SeqAt.RcAt.list_tuple pl.isList pl2 hu0, SeqAt.RcNeAt.list_tuple pl.isList pl2 hu0⟩
  | false =>
    obtain ⟨its, rv, pl, _⟩ := I.tuple hp
    cases j with
    | true =>
      obtain ⟨its2, rv2, pl2, _⟩ := I.list hq
      simp at h
      subst h
      exact ⟨SeqAt.RcAt.tuple_list pl pl2.isList hu0, SeqAt.RcNeAt.tuple_list pl pl2.isList hu0⟩
    | false =>
      obtain ⟨its2, rv2, pl2, _⟩ := I.tuple hq
      have l1 : its.length = xs.length := by rw [← L2.Vals.length rv, VRs.length hv]
      have l2 : its2.length = ys.length := by rw [← L2.Vals.length rv2, VRs.length hw]
      simp only [beq_self_eq_true, if_true, Bool.false_and, Bool.false_eq_true, if_false] at h
      obtain ⟨g, g1, g2⟩ := eqAll_range h
      have e : res = ((List.range (min its.toArray.size its2.toArray.size)).all g && its.toArray.size == its2.toArray.size) := by rw [← g2]; simp [l1, l2]
      have he : ∀ i (h1 : i < its.toArray.size) (h2 : i < its2.toArray.size), SeqAt.EqAt A.in1 s its.toArray[i] its2.toArray[i] (g i) := fun i h1 h2 => by
        obtain ⟨d, v, e1, r1, r2⟩ := Vals.at_ hv rv (by simpa using h1)
        obtain ⟨d', v', e1', r1', r2'⟩ := Vals.at_ hw rv2 (by simpa using h2)
        exact ih _ _ _ _ _ _ _ (g1 i d d' e1 e1') r1 r1' (by simpa using r2) (by simpa using r2')
      rw [e]
      exact ⟨SeqAt.RcAt.tuples pl pl2 hu0 he, SeqAt.RcNeAt.tuples pl pl2 hu0 he⟩
theorem seqR_k {K : PySem.W.Frag} {H₀ : Hp} {x : RV} {v : V} {k : Bool} {ds : List Val} (r : Rel K H μ st) (h : VRR K H₀ H μ st.length v x) (e : seqR st x = some (k, ds)) :
    ∃ a vs, v = .ref a ∧ (if k then SqL K H a vs else SqT K H a vs) ∧ VRs K H μ st.length vs ds := by
  cases k with
  | true => obtain ⟨a, vs, e0, e1, e2⟩ := seqR_list r h e; exact ⟨a, vs, e0, e1, e2⟩
  | false => obtain ⟨a, vs, _, e0, e1, e2⟩ := seqR_tup h e; exact ⟨a, vs, e0, e1, e2⟩
theorem eqR_rc (I : Inv X pins σ H s) (r : Rel X.K H μ st) {H₀ : Hp} {A : Around} (hu : A.units + 64 < cLine) {a b : RV} {v u : V} {vv uu : Value} {res : Bool} (h : eqR st a b = some res)
    (ha : VRR X.K H₀ H μ st.length v a) (hb : VRR X.K H₀ H μ st.length u b) (rv : L2.RelV v vv) (ru : L2.RelV u uu) : SeqAt.RcAt A s vv uu res ∧ SeqAt.RcNeAt A s vv uu (!res) := by
  have hu0 : A.units < cLine := by omega
  unfold eqR at h
  cases qa : seqR st a with
  | none =>
    cases qb : seqR st b with
    | none =>
      simp only [qa, qb] at h
      split at h
      · exact flat_rc h ha hb rv ru
      · cases h
    | some p =>
      obtain ⟨k, ys⟩ := p
      simp only [qa, qb] at h
      split at h
      · split at h
        · rename_i hf
          cases h
          obtain ⟨p, us, e, hs, _⟩ := seqR_any r hb qb
          subst e
          cases ru
          exact (vr_flat_rc hu0 I hf ha rv hs).2
        · cases h
      · cases h
  | some pa =>
    obtain ⟨k, xs⟩ := pa
    cases qb : seqR st b with
    | none =>
      simp only [qa, qb] at h
      split at h
      · split at h
        · rename_i hf
          cases h
          obtain ⟨p, us, e, hs, _⟩ := seqR_any r ha qa
          subst e
          cases rv
          exact (vr_flat_rc hu0 I hf hb ru hs).1
        · cases h
      · cases h
    | some pb =>
      obtain ⟨j, ys⟩ := pb
      simp only [qa, qb] at h
      obtain ⟨p, vs, rfl, s1, r1⟩ := seqR_k r ha qa
      obtain ⟨q, us, rfl, s2, r2⟩ := seqR_k r hb qb
      cases rv; cases ru
      exact seq_rc I r hu (Nat.le_refl _) h s1 r1 s2 r2
theorem o_eq (hu : X.A.units + 64 < cLine) : OpR X (compareOp .Eq) (r2 X .eq) := by
  intro pins s σ H x y v u Q I rx ry hr
  obtain ⟨W, μ₀, st₀, H₀, μ, st, r, q, P, hv, hu', a⟩ := hr
  simp only [f2, ov, Mi.lift] at a
  cases e : eqR st r q with
  | none => rw [e] at a; exact a.elim
  | some b =>
    rw [e] at a
    exact (eqR_rc I P.rel hu e hv hu' rx ry).1 X.prog X.w X.xe _ ⟨.bl b, H, I, rfl, fin a P (.bl b)⟩
theorem o_ne (hu : X.A.units + 64 < cLine) : OpR X (compareOp .NotEq) (r2 X .ne) := by
  intro pins s σ H x y v u Q I rx ry hr
  obtain ⟨W, μ₀, st₀, H₀, μ, st, r, q, P, hv, hu', a⟩ := hr
  simp only [f2, ov, Mi.lift] at a
  cases e : eqR st r q with
  | none => rw [e] at a; exact a.elim
  | some b =>
    rw [e] at a
    exact (eqR_rc I P.rel hu e hv hu' rx ry).2 X.prog X.w X.xe _ ⟨.bl (!b), H, I, rfl, fin a P (.bl (!b))⟩
end
end Mi
end
section
set_option linter.all false
set_option autoImplicit false
set_option maxRecDepth 10000
/-! MiOps3: in, places, methods of lists, built-ins. -/
namespace Mi
open PySem PySem.Spec L2
open PyProof.Rows hiding RelV

/-! ### in, index, count -/
section
variable {X : Cx} {pins : List (Addr × PySem.Obj)} {σ : L2.St} {H : Hp} {s : Shared} {μ : Mu} {st : Store}
/-- the answer for an item, by its value -/
noncomputable def ansOf (st : Store) (x : Val) (its : List Value) (ds : List Val) (y : Value) : Bool :=
  @decide (∃ (j : Nat) (d : Val), its[j]? = some y ∧ ds[j]? = some d ∧ eqV 60 st d x = some true) (Classical.propDecidable _)
theorem RelV.fun {x y : V} {u : Value} (r : L2.RelV x u) (q : L2.RelV y u) : x = y := L2.RelV.inj r q
theorem ansOf_eq (I : Inv X pins σ H s) (r : Rel X.K H μ st) {x : Val} {vs : List V} {its : List Value} {ds : List Val} (hv : VRs X.K H μ st.length vs ds) (rv : L2.Vals vs its) {j : Nat} {d : Val} {y : Value} {b : Bool}
    (e1 : its[j]? = some y) (e2 : ds[j]? = some d) (h : eqV 60 st d x = some b) : ansOf st x its ds y = b := by
  unfold ansOf
  cases b with
  | true => exact @decide_eq_true _ (Classical.propDecidable _) ⟨j, d, e1, e2, h⟩
  | false =>
    refine @decide_eq_false _ (Classical.propDecidable _) ?_
    rintro ⟨j', d', e1', e2', h'⟩
    obtain ⟨v, a1, a2⟩ := VRs.get hv e2
    obtain ⟨u, b1, b2⟩ := rv.get a1
    rw [e1] at b1; cases b1
    obtain ⟨v', a1', a2'⟩ := VRs.get hv e2'
    obtain ⟨u', b1', b2'⟩ := rv.get a1'
    rw [e1'] at b1'; cases b1'
    have e := RelV.fun b2 b2'
    subst e
    have := VR.one I r d d' v a2 a2'
    subst this
    rw [h] at h'
    cases h'
theorem anyEq_ok : ∀ {x : Val} {ds : List Val} {b : Bool}, anyEq st x ds = some b → (∀ d ∈ ds, ∃ c, eqV 60 st d x = some c) ∧ ∀ f : Val → Bool, (∀ d ∈ ds, eqV 60 st d x = some (f d)) → ds.any f = b := by
  intro x ds
  induction ds with
  | nil => intro b h; simp [anyEq] at h; exact ⟨fun d hd => by simp at hd, fun f _ => by simp; exact h⟩
  | cons y ys ih =>
    intro b h
    simp only [anyEq, Option.bind_eq_some_iff] at h
    obtain ⟨c, h1, d, h2, h3⟩ := h
    obtain ⟨i1, i2⟩ := ih h2
    refine ⟨fun z hz => ?_, fun f hf => ?_⟩
    · rcases List.mem_cons.mp hz with rfl | hz
      · exact ⟨c, h1⟩
      · exact i1 z hz
    · have e1 := hf y List.mem_cons_self
      rw [h1] at e1
      have e2 := i2 f fun z hz => hf z (List.mem_cons_of_mem _ hz)
      simp only [List.any_cons, e2, ← Option.some.inj e1]
      exact Option.some.inj h3
theorem items_ans (I : Inv X pins σ H s) (r : Rel X.K H μ st) {A : Around} (hu : A.units + 64 < cLine) {x : Val} {v : V} {vv : Value} {vs : List V} {its : List Value} {ds : List Val} (hx : VR X.K H μ st.length v x) (rx : L2.RelV v vv)
    (hv : VRs X.K H μ st.length vs ds) (rv : L2.Vals vs its) (h : ∀ d ∈ ds, ∃ c, eqV 60 st d x = some c) : ∀ y, y ∈ its.toArray → SeqAt.EqAt A.in1 s y vv (ansOf st x its ds y) := fun y hy => by
  have hy' : y ∈ its := by simpa using hy
  obtain ⟨j, hj, e⟩ := List.mem_iff_getElem.mp hy'
  have hl : its.length = ds.length := by rw [← L2.Vals.length rv, VRs.length hv]
  obtain ⟨d, v', e1, r1, r2⟩ := Vals.at_ hv rv hj
  obtain ⟨c, hc⟩ := h d (List.mem_of_getElem? e1)
  rw [ansOf_eq I r hv rv (by rw [List.getElem?_eq_getElem hj, e]) e1 hc]
  exact eqV_at I r 60 A.in1 (by rw [units_in1]; omega) d x v' v y vv c hc r1 hx (by rw [← e]; exact r2) rx
theorem any_ans (I : Inv X pins σ H s) (r : Rel X.K H μ st) {x : Val} {vs : List V} {its : List Value} {ds : List Val} {b : Bool} (hv : VRs X.K H μ st.length vs ds) (rv : L2.Vals vs its) (h : anyEq st x ds = some b) : its.toArray.any (ansOf st x its ds) = b := by
  obtain ⟨h1, h2⟩ := anyEq_ok h
  have hl : its.length = ds.length := by rw [← L2.Vals.length rv, VRs.length hv]
  have e := h2 (fun d => (eqV 60 st d x).getD false) fun d hd => by obtain ⟨c, hc⟩ := h1 d hd; rw [hc]; rfl
  rw [← e]
  have : ∀ (j : Nat) (y : Value) (d : Val), its[j]? = some y → ds[j]? = some d → ansOf st x its ds y = (eqV 60 st d x).getD false := fun j y d e1 e2 => by
    obtain ⟨c, hc⟩ := h1 d (List.mem_of_getElem? e2)
    rw [ansOf_eq I r hv rv e1 e2 hc, hc]; rfl
  have e3 : its.toArray.any (ansOf st x its ds) = its.any (ansOf st x its ds) := by simp
  rw [e3, Bool.eq_iff_iff, List.any_eq_true, List.any_eq_true]
  constructor
  · rintro ⟨y, hy, e⟩
    obtain ⟨j, hj, ej⟩ := List.mem_iff_getElem.mp hy
    refine ⟨ds[j]'(by omega), List.getElem_mem _, ?_⟩
    rw [← this j y _ (by rw [List.getElem?_eq_getElem hj, ej]) (List.getElem?_eq_getElem (by omega))]
    exact e
  · rintro ⟨d, hd, e⟩
    obtain ⟨j, hj, ej⟩ := List.mem_iff_getElem.mp hd
    refine ⟨its[j]'(by omega), List.getElem_mem _, ?_⟩
    rw [this j _ d (List.getElem?_eq_getElem (by omega)) (by rw [List.getElem?_eq_getElem hj, ej])]
    exact e
theorem o_in (hu : X.A.units + 64 < cLine) : OpR X (compareOp .In) (r2 X .isin) := by
  intro pins s σ H x y v u Q I rx ry hr
  obtain ⟨W, μ₀, st₀, H₀, μ, st, r, q, P, hv, hu', a⟩ := hr
  simp only [f2] at a
  split at a
  · rename_i x0
    split at a
    · rename_i k ys e
      simp only [ov, Mi.lift] at a
      cases e2 : anyEq st x0 ys with
      | none => rw [e2] at a; exact a.elim
      | some b =>
        rw [e2] at a
        obtain ⟨h1, _⟩ := anyEq_ok e2
        have fin' : EP X pins σ Q (.bool b) s := ⟨.bl b, H, I, rfl, fin a P (.bl b)⟩
        obtain ⟨p, vs, rfl, hs, q1⟩ := seqR_any P.rel hu' e
        cases ry
        rcases hs with hs | hs
        · obtain ⟨its, rv, pl, _⟩ := I.list hs
          refine SeqAt.in_listAt (ansOf st x0 its ys) pl.isList (items_ans I P.rel hu (nr_v hv) rx q1 rv h1) ?_
          rw [any_ans I P.rel q1 rv e2]; exact fin'
        · obtain ⟨its, rv, pl, _⟩ := I.tuple hs
          refine SeqAt.in_tupleAt (ansOf st x0 its ys) pl (items_ans I P.rel hu (nr_v hv) rx q1 rv h1) ?_
          rw [any_ans I P.rel q1 rv e2]; exact fin'
    · exact a.elim
  · exact a.elim
theorem o_notin (hu : X.A.units + 64 < cLine) : OpR X (compareOp .NotIn) (r2 X .notin) := by
  intro pins s σ H x y v u Q I rx ry hr
  obtain ⟨W, μ₀, st₀, H₀, μ, st, r, q, P, hv, hu', a⟩ := hr
  simp only [f2] at a
  split at a
  · rename_i x0
    split at a
    · rename_i k ys e
      simp only [ov, Mi.lift] at a
      cases e2 : anyEq st x0 ys with
      | none => rw [e2] at a; exact a.elim
      | some b =>
        rw [e2] at a
        obtain ⟨h1, _⟩ := anyEq_ok e2
        have fin' : EP X pins σ Q (.bool (!b)) s := ⟨.bl (!b), H, I, rfl, fin a P (.bl (!b))⟩
        obtain ⟨p, vs, rfl, hs, q1⟩ := seqR_any P.rel hu' e
        cases ry
        rcases hs with hs | hs
        · obtain ⟨its, rv, pl, _⟩ := I.list hs
          refine SeqAt.notIn_listAt (ansOf st x0 its ys) pl.isList (items_ans I P.rel hu (nr_v hv) rx q1 rv h1) ?_
          rw [any_ans I P.rel q1 rv e2]; exact fin'
        · obtain ⟨its, rv, pl, _⟩ := I.tuple hs
          refine SeqAt.notIn_tupleAt (ansOf st x0 its ys) pl (items_ans I P.rel hu (nr_v hv) rx q1 rv h1) ?_
          rw [any_ans I P.rel q1 rv e2]; exact fin'
    · exact a.elim
  · exact a.elim
theorem placeEq_ok : ∀ {x : Val} {ds : List Val} {j : Nat}, placeEq st x ds = some j → ∃ d, ds[j]? = some d ∧ eqV 60 st d x = some true ∧ ∀ m d', m < j → ds[m]? = some d' → eqV 60 st d' x = some false := by
  intro x ds
  induction ds with
  | nil => intro j h; simp [placeEq] at h
  | cons y ys ih =>
    intro j h
    simp only [placeEq, Option.bind_eq_some_iff] at h
    obtain ⟨c, h1, h2⟩ := h
    cases c with
    | true => simp at h2; subst h2; exact ⟨y, rfl, h1, fun m d' h => absurd h (Nat.not_lt_zero _)⟩
    | false =>
      simp at h2
      obtain ⟨k, h3, h4⟩ := h2
      subst h4
      obtain ⟨d, a, b, c⟩ := ih h3
      refine ⟨d, by simpa using a, b, fun m d' hm e => ?_⟩
      cases m with
      | zero => simp at e; subst e; exact h1
      | succ m => exact c m d' (by omega) (by simpa using e)
end

/-! ### subscripts -/
section
variable {X : Cx}
theorem key_inj {k' k : Key} (z : keyVal k' = keyVal k) : k' = k := by
  cases k' with
  | inl a => cases k with
    | inl b => simp [keyVal] at z; rw [z]
    | inr b => simp [keyVal] at z
  | inr a => cases k with
    | inl b => simp [keyVal] at z
    | inr b =>
      simp [keyVal] at z
      cases a; cases b
      simp at z
      rw [z]
theorem dr_get {K : PySem.W.Frag} {H : Hp} {μ : Mu} {N : Nat} {l : List (Key × V)} {kvs : List (Val × Val)} {k : Key} {d : Val} (h : DRs K H μ N l kvs) (e : kget kvs (keyVal k) = some d) : ∃ v, valV l k = some v ∧ VR K H μ N v d := by
  induction h with
  | nil => simp [kget] at e
  | @cons k' v d' l r hv _ ih =>
    simp only [kget] at e
    by_cases hk : k' = k
    · subst hk
      simp at e
      subst e
      exact ⟨v, valV_pos rfl, hv⟩
    · have hne : (keyVal k' == keyVal k) = false := by
        rw [beq_eq_false_iff_ne]
        exact fun z => hk (key_inj z)
      rw [hne] at e
      simp at e
      obtain ⟨u, a, b⟩ := ih e
      exact ⟨u, by rw [valV_neg hk]; exact a, b⟩
/-- a key of the plain kind, as a key of the layer's -/
theorem key_of_val {K : PySem.W.Frag} {H : Hp} {μ : Mu} {N : Nat} {k : Val} {v : V} (h : keyOk false k = true) (r : VR K H μ N v k) : ∃ kk : Key, v = kV kk ∧ k = keyVal kk := by
  cases k with
  | int i => exact ⟨.inl i, r.i_int, rfl⟩
  | str x => exact ⟨.inr (toStr x), r.i_str, by simp [keyVal, toStr]⟩
  | _ => simp [keyOk] at h
theorem o_ix_seq : IxR X (fun x y H Q => ∃ (W : XW) (μ₀ : Mu) (st₀ : Store) (H₀ : Hp) (μ : Mu) (st : Store) (r : RV) (k : Bool) (xs : List Val) (i : Int), Post X.K μ₀ st₀ H₀ μ st H ∧ VRR X.K H₀ H μ st.length x r ∧ y = .int i ∧ seqR st r = some (k, xs) ∧
    After X.K W μ₀ st₀ H₀ (ov (at' xs i) st) Q) := by
  intro value slice pins s σ H x y v u Q I rx ry hr hs
  obtain ⟨W, μ₀, st₀, H₀, μ, st, r, k, xs, i, P, hv, rfl, e, a⟩ := hr
  cases e2 : at' xs i with
  | none => rw [e2] at a; exact a.elim
  | some d =>
    rw [e2] at a
    obtain ⟨p, vs, rfl, h1, h2⟩ := seqR_k P.rel hv e
    obtain ⟨v', g1, g2⟩ := VRs.at h2 e2
    cases k with
    | true => exact ix_list value slice pins s σ H _ _ v u Q I rx ry ⟨p, vs, i, v', rfl, rfl, h1, g1, fin a P g2⟩ hs
    | false => exact ix_tup value slice pins s σ H _ _ v u Q I rx ry ⟨p, vs, i, v', rfl, rfl, h1, g1, fin a P g2⟩ hs
/-- what a dict of the store holds -/
theorem dget_of {K : PySem.W.Frag} {H : Hp} {μ : Mu} {st : Store} {n : Nat} {t : Bool} {kvs : List (Val × Val)} {k d : Val} {y : V} (ho : OR K H μ st.length (μ n) (.dic t kvs)) (hk : keyOk t k = true) (hy : VR K H μ st.length y k)
    (e : kget kvs k = some d) : ∃ v, DGet H (μ n) y (some v) ∧ VR K H μ st.length v d := by
  cases t with
  | false =>
    obtain ⟨l, e1, r1⟩ := ho
    obtain ⟨kk, rfl, rfl⟩ := key_of_val hk hy
    obtain ⟨v, a, b⟩ := dr_get r1 e
    exact ⟨v, a ▸ DGet.k e1, b⟩
  | true => simp [keyOk] at hk
end
end Mi
end
section
set_option linter.all false
set_option autoImplicit false
set_option maxRecDepth 10000
/-! MiOps4: subscripts, methods of lists, built-ins. -/
namespace Mi
open PySem PySem.Spec L2
open PyProof.Rows hiding RelV

section
variable {X : Cx}
theorem DRs.length {K : PySem.W.Frag} {H : Hp} {μ : Mu} {N : Nat} {l : List (Key × V)} {kvs : List (Val × Val)} (h : DRs K H μ N l kvs) : kvs.length = l.length := by
  induction h with
  | nil => rfl
  | cons _ _ ih => simp [ih]
theorem o_ix (hu : X.A.units + 1 < cLine) : IxR X (r2 X .ix) := by
  intro value slice pins s σ H x y v u Q I rx ry hr hs
  obtain ⟨W, μ₀, st₀, H₀, μ, st, r, q, P, hv, hu', a⟩ := hr
  cases q with
  | l _ => exact a.elim
  | v k =>
    cases e : seqR st r with
    | some p =>
      obtain ⟨b, xs⟩ := p
      cases k with
      | int i =>
        simp only [f2, e] at a
        have e2 := (nr_v hu').i_int
        subst e2
        exact o_ix_seq value slice pins s σ H _ _ v u Q I rx ry ⟨W, μ₀, st₀, H₀, μ, st, r, b, xs, i, P, hv, rfl, e, a⟩ hs
      | _ => simp only [f2, e] at a; exact a.elim
    | none =>
      simp only [f2, e] at a
      cases e1 : dicAt st r with
      | none => rw [e1] at a; exact a.elim
      | some p =>
        obtain ⟨n, t, kvs⟩ := p
        rw [e1] at a
        dsimp only at a
        split at a
        · rename_i hk
          cases e2 : kget kvs k with
          | none => rw [e2] at a; exact a.elim
          | some d =>
            rw [e2] at a
            obtain ⟨rfl, h1, rfl, ho⟩ := dicAt_ok P.rel hv e1
            obtain ⟨z, g, gv⟩ := dget_of ho hk hu' e2
            cases rx
            exact tail_any (dict_typeIs I g) PySem.F.slot_dict_getitem.lookup (d_getItem hu I g ry fun w' s3 I3 rw' => ⟨z, H, I3, rw', fin a P gv⟩) hs
        · exact a.elim
abbrev m1 (X : Cx) (o : O1) : V → List V → Hp → VK → Prop := fun x xs H Q => xs = [] ∧ r1 X o x H Q
abbrev m2 (X : Cx) (o : O2) : V → List V → Hp → VK → Prop := fun x xs H Q => ∃ y, xs = [y] ∧ r2 X o x y H Q
def r3 (X : Cx) (o : O3) (v u w : V) (H : Hp) (Q : VK) : Prop :=
  ∃ (W : XW) (μ₀ : Mu) (st₀ : Store) (H₀ : Hp) (μ : Mu) (st : Store) (r q p : RV), Post X.K μ₀ st₀ H₀ μ st H ∧ VRR X.K H₀ H μ st.length v r ∧ VRR X.K H₀ H μ st.length u q ∧ VRR X.K H₀ H μ st.length w p ∧ After X.K W μ₀ st₀ H₀ (f3 o r q p st) Q
abbrev m3 (X : Cx) (o : O3) : V → List V → Hp → VK → Prop := fun x xs H Q => ∃ y z, xs = [y, z] ∧ r3 X o x y z H Q
theorem m_append : MtR X "list.append" (m2 X .append) := by
  intro pins s σ H x xs v us Q I rx rxs hr
  obtain ⟨y, rfl, W, μ₀, st₀, H₀, μ, st, r, q, P, hv, hu, a⟩ := hr
  simp only [f2] at a
  split at a
  · rename_i n ds e
    split at a
    · rename_i hl
      obtain ⟨vs, rfl, e1, rfl, e2, q1⟩ := mutAt_ok P.rel hv e
      obtain ⟨μ', P', k, z⟩ := settle_ok P hu
      have hn := (List.getElem?_eq_some_iff.mp e1).1
      have e3 : (settle q st).2[n]? = some (.lst ds) := by
        cases q with
        | v d => exact e1
        | l es => simp [settle]; rw [List.getElem?_append_left hn]; exact e1
      obtain ⟨P2, k2⟩ := P'.lst e3 ((VRs.keep k _ _ q1).app (.cons z .nil))
      rw [k.same n hn] at P2
      refine mt_append pins s σ H _ _ v us Q I rx rxs ⟨_, vs, y, rfl, rfl, e2, by rw [VRs.length q1]; exact hl, ?_⟩
      exact a μ' _ _ P2 .non
    · exact a.elim
  · exact a.elim
theorem m_extend : MtR X "list.extend" (m2 X .extend) := by
  intro pins s σ H x xs v us Q I rx rxs hr
  obtain ⟨y, rfl, W, μ₀, st₀, H₀, μ, st, r, q, P, hv, hu, a⟩ := hr
  simp only [f2] at a
  split at a
  · rename_i n ds es e e'
    split at a
    · rename_i hl
      obtain ⟨vs, rfl, e1, rfl, e2, q1⟩ := mutAt_ok P.rel hv e
      obtain ⟨p, ws, rfl, e4, q2⟩ := ownL_ok P.rel hu e'
      obtain ⟨P2, k2⟩ := P.lst e1 (q1.app q2)
      refine mt_extend pins s σ H _ _ v us Q I rx rxs ⟨_, p, vs, ws, rfl, rfl, e2, e4, by rw [VRs.length q1, VRs.length q2]; exact hl, ?_⟩
      exact a μ _ _ P2 .non
    · exact a.elim
  · exact a.elim
theorem m_pop : MtR X "list.pop" (m1 X .pop) := by
  intro pins s σ H x xs v us Q I rx rxs hr
  obtain ⟨rfl, W, μ₀, st₀, H₀, μ, st, r, P, hv, a⟩ := hr
  simp only [f1] at a
  split at a
  · rename_i n ds e
    split at a
    · rename_i d e5
      obtain ⟨vs, rfl, e1, rfl, e2, q1⟩ := mutAt_ok P.rel hv e
      obtain ⟨y, e6, q2⟩ := VRs.get q1 e5
      obtain ⟨P2, k2⟩ := P.lst e1 q1.dropLast
      refine mt_pop pins s σ H _ _ v us Q I rx rxs ⟨_, vs, y, rfl, rfl, e2, by rw [VRs.length q1]; exact e6, ?_⟩
      exact a μ _ _ P2 (by rw [List.length_set]; exact VR.keep k2 _ _ q2)
    · exact a.elim
  · exact a.elim
theorem m_popAt : MtR X "list.pop" (m2 X .popAt) := by
  intro pins s σ H x xs v us Q I rx rxs hr
  obtain ⟨y, rfl, W, μ₀, st₀, H₀, μ, st, r, q, P, hv, hu, a⟩ := hr
  simp only [f2] at a
  split at a
  · rename_i n ds i e
    split at a
    · rename_i j ej
      split at a
      · rename_i d e5
        obtain ⟨vs, rfl, e1, rfl, e2, q1⟩ := mutAt_ok P.rel hv e
        have ei := (nr_v hu).i_int
        subst ei
        obtain ⟨y, e6, q2⟩ := VRs.get q1 e5
        obtain ⟨P2, k2⟩ := P.lst e1 (VRs.eraseIdx j q1)
        rw [ix_eq, ← VRs.length q1] at ej
        obtain ⟨s1, s2, s3, s4⟩ := ixN_seq ej
        have hlen : vs.length ≤ sizeLine := by
          obtain ⟨its, n', rv, pl, z⟩ := I.lst e2
          exact z
        have := line63
        refine mt_popAt pins s σ H _ _ v us Q I rx rxs ⟨_, vs, i, j, y, rfl, rfl, e2, by omega, by omega, s1, e6, ?_⟩
        exact a μ _ _ P2 (by rw [List.length_set]; exact VR.keep k2 _ _ q2)
      · exact a.elim
    · exact a.elim
  · exact a.elim
theorem m_insert : MtR X "list.insert" (m3 X .insert) := by
  intro pins s σ H x xs v us Q I rx rxs hr
  obtain ⟨y, w, rfl, W, μ₀, st₀, H₀, μ, st, r, q, p, P, hv, hu, hw, a⟩ := hr
  simp only [f3] at a
  split at a
  · rename_i n ds e
    split at a
    · rename_i hl
      obtain ⟨vs, rfl, e1, rfl, e2, q1⟩ := mutAt_ok P.rel hv e
      have ei := (nr_v hu).i_int
      subst ei
      obtain ⟨μ', P', k, z⟩ := settle_ok P hw
      have hn := (List.getElem?_eq_some_iff.mp e1).1
      have e3 : (settle p st).2[n]? = some (.lst ds) := by
        cases p with
        | v d => exact e1
        | l es => simp [settle]; rw [List.getElem?_append_left hn]; exact e1
      obtain ⟨P2, k2⟩ := P'.lst e3 (.cons z (VRs.keep k _ _ q1))
      rw [k.same n hn] at P2
      refine mt_insert pins s σ H _ _ v us Q I rx rxs ⟨_, vs, 0, w, rfl, rfl, e2, by rw [VRs.length q1]; exact hl, Int.le_refl _, by decide, ?_⟩
      have := a μ' _ _ P2 .non
      simpa using this
    · exact a.elim
  · exact a.elim
/-! ### built-ins -/
theorem CallR.or {f : Value} {r r' : List V → Hp → VK → Prop} (h : CallR X f r) (h' : CallR X f r') : CallR X f (fun xs H Q => r xs H Q ∨ r' xs H Q) := by
  intro pins s σ H xs us Q I rv hr
  rcases hr with hr | hr
  · exact h pins s σ H xs us Q I rv hr
  · exact h' pins s σ H xs us Q I rv hr
theorem c_len : CallR X (.builtin "len") (c1 X .len) := by
  intro pins s σ H xs us Q I rxs hr
  obtain ⟨v, rfl, W, μ₀, st₀, H₀, μ, st, r, P, hv, a⟩ := hr
  simp only [f1] at a
  split at a
  · rename_i k ds e
    obtain ⟨p, vs, rfl, hs, q1⟩ := seqR_any P.rel hv e
    refine call_len_seq pins s σ H _ us Q I rxs ⟨p, vs, rfl, hs, ?_⟩
    rw [VRs.length q1]
    exact fin a P (.int _)
  · split at a
    · rename_i x _
      split at a
      · rename_i hl
        have e := (nr_v hv).i_str
        subst e
        refine call_len_str pins s σ H _ us Q I rxs ⟨_, rfl, by simpa [toStr, Str.length] using (show x.length ≤ sizeLine from hl), ?_⟩
        have : ((toStr x).length : Int) = x.length := by simp [toStr, Str.length]
        rw [this]
        exact fin a P (.int _)
      · exact a.elim
    · split at a
      · rename_i n kvs e
        obtain ⟨rfl, h1, rfl, l, ho, hd⟩ := dicAt_ok P.rel hv e
        obtain ⟨u, rfl, ru⟩ : ∃ u, us = [u] ∧ L2.RelV (.ref (μ n)) u := by
          cases rxs with | cons r t => cases t; exact ⟨_, rfl, r⟩
        cases ru
        have hl : kvs.length = l.length := hd.length
        exact d_len I (.inl ho) fun t s' I' => ⟨.int l.length, H, I', ⟨t, rfl⟩, by rw [← hl]; exact fin a P (.int _)⟩
      · exact a.elim
theorem c_abs : CallR X (.builtin "abs") (c1 X .abs) := by
  intro pins s σ H xs us Q I rxs hr
  obtain ⟨v, rfl, W, μ₀, st₀, H₀, μ, st, r, P, hv, a⟩ := hr
  simp only [f1] at a
  split at a
  · have e := (nr_v hv).i_int
    subst e
    exact call_abs pins s σ H _ us Q I rxs ⟨_, rfl, fin a P (.int _)⟩
  · exact a.elim
theorem c_int : CallR X (.type "int") (c1 X .int) := by
  intro pins s σ H xs us Q I rxs hr
  obtain ⟨v, rfl, W, μ₀, st₀, H₀, μ, st, r, P, hv, a⟩ := hr
  simp only [f1] at a
  split at a
  · have e := (nr_v hv).i_int
    subst e
    exact call_int1 pins s σ H _ us Q I rxs (.inl ⟨_, rfl, fin a P (.int _)⟩)
  · have e := (nr_v hv).i_bl
    subst e
    exact call_int1 pins s σ H _ us Q I rxs (.inr ⟨_, rfl, fin a P (.int _)⟩)
  · exact a.elim
theorem u_neg : UnR X (unaryOp .USub) (r1 X .neg) := by
  intro pins s σ H x u Q I rx hr
  obtain ⟨W, μ₀, st₀, H₀, μ, st, r, P, hv, a⟩ := hr
  simp only [f1] at a
  split at a
  · have e := (nr_v hv).i_int
    subst e
    exact un_neg pins s σ H _ u Q I rx ⟨_, rfl, fin a P (.int _)⟩
  · exact a.elim
theorem c_str : CallR X (.type "str") (c1 X .str) := by
  intro pins s σ H xs us Q I rxs hr
  obtain ⟨v, rfl, W, μ₀, st₀, H₀, μ, st, r, P, hv, a⟩ := hr
  simp only [f1] at a
  split at a
  · rename_i i
    split at a
    · rename_i hl
      have e := (nr_v hv).i_int
      subst e
      refine call_str_int pins s σ H _ us Q I rxs ⟨_, rfl, hl, ?_⟩
      have := fin a P (.str _)
      simpa [toStr] using this
    · exact a.elim
  · exact a.elim
theorem c_list : CallR X (.type "list") (c1 X .list) := by
  intro pins s σ H xs us Q I rxs hr
  obtain ⟨v, rfl, W, μ₀, st₀, H₀, μ, st, r, P, hv, a⟩ := hr
  simp only [f1] at a
  split at a
  · rename_i k ds e
    obtain ⟨p, vs, rfl, hs, q1⟩ := seqR_any P.rel hv e
    exact call_list_of pins s σ H _ us Q I rxs ⟨p, vs, rfl, hs, fun l hl => finL a P q1 hl⟩
  · exact a.elim
theorem c_tuple : CallR X (.type "tuple") (c1 X .tuple) := by
  intro pins s σ H xs us Q I rxs hr
  obtain ⟨v, rfl, W, μ₀, st₀, H₀, μ, st, r, P, hv, a⟩ := hr
  simp only [f1] at a
  split at a
  · rename_i k ds e
    cases k with
    | true =>
      obtain ⟨p, vs, rfl, hs, q1⟩ := seqR_list P.rel hv e
      exact call_tuple_of pins s σ H _ us Q I rxs ⟨p, vs, rfl, .inl ⟨hs, fun l hl => finT a P q1 hl⟩⟩
    | false =>
      obtain ⟨p, vs, rfl, rfl, hs, q1⟩ := seqR_tup hv e
      exact call_tuple_of pins s σ H _ us Q I rxs ⟨p, vs, rfl, .inr ⟨hs, fin a P hv⟩⟩
  · exact a.elim
theorem allInts_eq : ∀ {ds : List Val} {is : List Int}, allInts ds = some is → ds = is.map .int
  | [], is, h => by simp [allInts] at h; subst h; rfl
  | .int i :: r, is, h => by
    simp only [allInts, Option.map_eq_some_iff] at h
    obtain ⟨l, e, rfl⟩ := h
    rw [allInts_eq e]; rfl
  | .non :: r, is, h => by simp [allInts] at h
  | .bl _ :: r, is, h => by simp [allInts] at h
  | .str _ :: r, is, h => by simp [allInts] at h
  | .tup _ :: r, is, h => by simp [allInts] at h
  | .ref _ :: r, is, h => by simp [allInts] at h
theorem allStrs_eq : ∀ {ds : List Val} {is : List (List Nat)}, allStrs ds = some is → ds = is.map .str
  | [], is, h => by simp [allStrs] at h; subst h; rfl
  | .str i :: r, is, h => by
    simp only [allStrs, Option.map_eq_some_iff] at h
    obtain ⟨l, e, rfl⟩ := h
    rw [allStrs_eq e]; rfl
  | .non :: r, is, h => by simp [allStrs] at h
  | .bl _ :: r, is, h => by simp [allStrs] at h
  | .int _ :: r, is, h => by simp [allStrs] at h
  | .tup _ :: r, is, h => by simp [allStrs] at h
  | .ref _ :: r, is, h => by simp [allStrs] at h
theorem vrs_ints {K : PySem.W.Frag} {H : Hp} {μ : Mu} {N : Nat} : ∀ {is : List Int} {vs : List V}, VRs K H μ N vs (is.map .int) → vs = is.map .int
  | [], _, h => by cases h; rfl
  | i :: is, _, h => by cases h with | cons a b => rw [a.i_int, vrs_ints b]; rfl
theorem vrs_strs {K : PySem.W.Frag} {H : Hp} {μ : Mu} {N : Nat} : ∀ {is : List (List Nat)} {vs : List V}, VRs K H μ N vs (is.map .str) → vs = is.map fun x => .str (toStr x)
  | [], _, h => by cases h; rfl
  | i :: is, _, h => by cases h with | cons a b => rw [a.i_str, vrs_strs b]; rfl
theorem ints_vrs {K : PySem.W.Frag} {H : Hp} {μ : Mu} {N : Nat} : ∀ (is : List Int), VRs K H μ N (is.map .int) (is.map .int)
  | [] => .nil
  | i :: is => .cons (.int i) (ints_vrs is)
theorem strs_vrs {K : PySem.W.Frag} {H : Hp} {μ : Mu} {N : Nat} : ∀ (is : List (List Nat)), VRs K H μ N (is.map fun x => .str (toStr x)) (is.map .str)
  | [] => .nil
  | i :: is => .cons (.str i) (strs_vrs is)
theorem c_sum (hc : X.calm = true) : CallR X (.builtin "sum") (c1 X .sum) := by
  intro pins s σ H xs us Q I rxs hr
  obtain ⟨v, rfl, W, μ₀, st₀, H₀, μ, st, r, P, hv, a⟩ := hr
  simp only [f1] at a
  split at a
  · rename_i ds e
    split at a
    · rename_i is e2
      have := allInts_eq e2
      subst this
      obtain ⟨p, vs, rfl, hs, q1⟩ := seqR_list P.rel hv e
      have := vrs_ints q1
      subst this
      exact cr_sum hc pins s σ H _ us Q I rxs ⟨p, is, rfl, hs, fin a P (.int _)⟩
    · exact a.elim
  · exact a.elim
end
end Mi
end
section
set_option linter.all false
set_option autoImplicit false
set_option maxRecDepth 10000
/-! MiOps5: repr, sorted, is, isinstance, slices, truth. -/
namespace Mi
open PySem PySem.Spec L2
open PyProof.Rows hiding RelV

/-! ### repr -/
section
variable {X : Cx} {pins : List (Addr × PySem.Obj)} {σ : L2.St} {H : Hp} {s : Shared} {μ : Mu} {st : Store}
theorem textFrom_le : ∀ (ts : List Str) (k : Nat) (acc : Str), (textFrom k acc ts).length ≤ acc.length + piled ts
  | [], k, acc => Nat.le_add_right _ _
  | t :: ts, k, acc => by
    have h := textFrom_le ts (k + 1) (acc ++ (if k > 0 then ", " else "" : String) ++ t)
    have e : (acc ++ (if k > 0 then ", " else "" : String) ++ t).length ≤ acc.length + 2 + t.length := by
      rw [strLen_append, strLen_append]
      split
      · exact Nat.le_refl _
      · show acc.length + 0 + t.length ≤ _; omega
    rw [piled_cons]
    show (textFrom (k + 1) _ ts).length ≤ _
    omega
theorem listText_le (ts : List Str) : (listText ts).length ≤ piled ts + 2 := by
  unfold listText
  rw [strLen_append]
  have := textFrom_le ts 0 "["
  have e1 : (("[" : String) : Str).length = 1 := rfl
  have e2 : (("]" : String) : Str).length = 1 := rfl
  omega
theorem tupleText_le (ts : List Str) : (tupleText ts).length ≤ piled ts + 3 := by
  unfold tupleText
  rw [strLen_append, strLen_append]
  have e1 : (("(" : String) : Str).length = 1 := rfl
  have e2 : ((if ts.length == 1 then ",)" else ")" : String) : Str).length ≤ 2 := by
    split
    · exact Nat.le_refl _
    · show 1 ≤ 2; omega
  have e3 : (Str.join ", " ts).length ≤ piled ts := by
    by_cases h : ts = []
    · subst h; exact Nat.le_refl _
    · have := join_length_add ts h; omega
  omega
/-- the datum of a value -/
structure IsDat (K : PySem.W.Frag) (H : Hp) (n : Nat) (v : V) (d : PyData) : Prop where
  dp : Dp K H v d
  dep : d.depth ≤ n
  sh : d.showable = true
  nd : d.hasDict = false
  sz : d.shown.length ≤ dsz d
structure IsDats (K : PySem.W.Frag) (H : Hp) (n : Nat) (v : List V) (d : List PyData) : Prop where
  dp : DpAll K H v d
  dep : PyData.depthAll d ≤ n
  sh : PyData.showableAll d = true
  nd : PyData.hasDictAll d = false
  sz : piled (PyData.shownAll d) ≤ dszs d
theorem dats_of {K : PySem.W.Frag} {f : Val → Option PyData} {n : Nat} (ih : ∀ a d v, f a = some d → VR K H μ st.length v a → IsDat K H n v d) : ∀ {xs : List Val} {vs : List V} {ds : List PyData}, xs.mapM f = some ds → VRs K H μ st.length vs xs → IsDats K H n vs ds := by
  intro xs
  induction xs with
  | nil =>
    intro vs ds h r
    cases r
    simp at h
    subst h
    exact ⟨.nil, by simp [PyData.depthAll], by simp [PyData.showableAll], by simp [PyData.hasDictAll], by simp [PyData.shownAll, dszs, piled]⟩
  | cons x xs ih2 =>
    intro vs ds h r
    cases r with
    | cons r1 r2 =>
      rw [List.mapM_cons] at h
      simp only [Option.bind_eq_bind, Option.bind_eq_some_iff] at h
      obtain ⟨d, h1, ds', h2, h3⟩ := h
      cases h3
      have a := ih _ _ _ h1 r1
      have b := ih2 h2 r2
      exact ⟨.cons a.dp b.dp, by simp only [PyData.depthAll]; exact Nat.max_le.mpr ⟨a.dep, b.dep⟩, by simp [PyData.showableAll, a.sh, b.sh], by simp [PyData.hasDictAll, a.nd, b.nd], by
        have := a.sz; have := b.sz
        rw [PyData.shownAll, piled_cons, dszs]; omega⟩
theorem datF_ok {K : PySem.W.Frag} (r : Rel K H μ st) : ∀ (n : Nat) (a : Val) (d : PyData) (v : V), datF n st a = some d → VR K H μ st.length v a → IsDat K H n v d := by
  intro n
  induction n with
  | zero => intro a d v h; simp [datF] at h
  | succ n ih =>
    intro a d v h hv
    unfold datF at h
    split at h
    · rename_i xs e
      simp only [Option.map_eq_some_iff] at h
      obtain ⟨ds, h1, rfl⟩ := h
      obtain ⟨p, vs, rfl, hs, q⟩ := seqV_list r hv e
      have b := dats_of (fun a d v => ih a d v) h1 q
      exact ⟨.lst hs b.dp, by simp only [PyData.depth]; exact Nat.succ_le_succ b.dep, by simp [PyData.showable, b.sh], by simp [PyData.hasDict, b.nd], by
        have := b.sz; have := listText_le (PyData.shownAll ds)
        rw [PyData.shown, dsz]; omega⟩
    · rename_i xs e
      simp only [Option.map_eq_some_iff] at h
      obtain ⟨ds, h1, rfl⟩ := h
      obtain ⟨p, vs, _, rfl, hs, q⟩ := seqV_tup hv e
      have b := dats_of (fun a d v => ih a d v) h1 q
      exact ⟨.tup hs b.dp, by simp only [PyData.depth]; exact Nat.succ_le_succ b.dep, by simp [PyData.showable, b.sh], by simp [PyData.hasDict, b.nd], by
        have := b.sz; have := tupleText_le (PyData.shownAll ds)
        rw [PyData.shown, dsz]; omega⟩
    · split at h
      · cases h; rw [hv.i_non]; exact ⟨.non, by simp [PyData.depth], by simp [PyData.showable], by simp [PyData.hasDict], by rw [PyData.shown, dsz]; exact Nat.le_refl _⟩
      · cases h; rw [hv.i_bl]; exact ⟨.bl _, by simp [PyData.depth], by simp [PyData.showable], by simp [PyData.hasDict], by rw [PyData.shown, dsz]; split <;> decide⟩
      · split at h
        · rename_i hl
          cases h; rw [hv.i_int]; exact ⟨.int _, by simp [PyData.depth], by simp [PyData.showable, hl], by simp [PyData.hasDict], by rw [PyData.shown, dsz]; exact int_text_len_1921 hl⟩
        · cases h
      · split at h
        · rename_i hx
          cases h; rw [hv.i_str]; exact ⟨.str _, by simp [PyData.depth], by simp [PyData.showable], by simp [PyData.hasDict], by
            rw [PyData.shown, dsz]
            exact StrLaws.reprText_len _ fun c hc => by
              simp only [List.all_eq_true, decide_eq_true_eq] at hx
              exact hx c (by simpa [toStr] using hc)⟩
        · cases h
      · cases h
theorem datR_ok {K : PySem.W.Frag} {H₀ : Hp} (r : Rel K H μ st) {x : RV} {d : PyData} {v : V} (h : datR st x = some d) (hv : VRR K H₀ H μ st.length v x) : IsDat K H 60 v d := by
  cases x with
  | v a => exact datF_ok r 60 a d v h hv
  | l xs =>
    simp only [datR, Option.map_eq_some_iff] at h
    obtain ⟨ds, h1, rfl⟩ := h
    obtain ⟨p, vs, rfl, _, e, q, _⟩ := hv
    have b := dats_of (fun a d v => datF_ok r 59 a d v) h1 q
    exact ⟨.lst (.of e) b.dp, by simp only [PyData.depth]; exact Nat.succ_le_succ b.dep, by simp [PyData.showable, b.sh], by simp [PyData.hasDict, b.nd], by
        have := b.sz; have := listText_le (PyData.shownAll ds)
        rw [PyData.shown, dsz]; omega⟩
theorem str_back (x : Str) : toStr x.cps.toList = x := by cases x; simp [toStr]
theorem c_repr (hg : X.A.guards = some []) (hu : X.A.units + 64 < cLine) : CallR X (.builtin "repr") (c1 X .repr) := by
  intro pins s σ H xs us Q I rxs hr
  obtain ⟨v, rfl, W, μ₀, st₀, H₀, μ, st, r, P, hv, a⟩ := hr
  simp only [f1] at a
  split at a
  · rename_i d e
    split at a
    · rename_i hl
      have D := datR_ok P.rel e hv
      obtain ⟨u, rfl, ru⟩ : ∃ u, us = [u] ∧ L2.RelV v u := by
        cases rxs with | cons r t => cases t; exact ⟨_, rfl, r⟩
      obtain ⟨as, rd⟩ := Dp.reads I d v u D.dp ru
      have q : Q (.str d.shown) H := by
        have := fin a P (.str _)
        rwa [str_back] at this
      have hl' : d.shown.length ≤ sizeLine := Nat.le_trans D.sz (show _ ≤ sizeLine from hl)
      have F : ∀ (x : Str) (t : Tok) (s' : Shared), Inv X pins σ H s' → x = d.shown → EP X pins σ Q (.str x t) s' := fun x t s' I' e => ⟨.str d.shown, H, I', ⟨t, by rw [e]⟩, q⟩
      have rd0 := rd
      cases rd with
      | none => exact PySem.P.repr_of_none (F _ _ _ (I.tok _) (by simp [PyData.shown]))
      | bool b => exact PySem.P.repr_of_bool (F _ _ _ (I.tok _) (by cases b <;> simp [PyData.shown]))
      | int i t =>
        have := D.sh
        simp [PyData.showable] at this
        exact PySem.P.repr_of_int this (F _ _ _ (I.tok _) (by simp [PyData.shown]))
      | str x t => exact PySem.P.repr_of_str (F _ _ _ (I.tok _) (by simp [PyData.shown])) (by simpa [PyData.shown] using hl')
      | list => exact repr_of_reads' rd0 D.sh (fun z => by rw [D.nd] at z; cases z) hg (by have := D.dep; omega) (fun _ _ h => h) (fun h' t tk k => F _ _ _ (I.kept k) rfl) hl'
      | tuple => exact repr_of_reads' rd0 D.sh (fun z => by rw [D.nd] at z; cases z) hg (by have := D.dep; omega) (fun _ _ h => h) (fun h' t tk k => F _ _ _ (I.kept k) rfl) hl'
      | dict => have := D.nd; simp [PyData.hasDict] at this
    · exact a.elim
  · exact a.elim
/-! ### sorted -/
theorem each_of {K : PySem.W.Frag} {N : Nat} {β : Type} {enc : β → Val} {encD : β → PyData} {h : Heap} (hd : ∀ b v u, VR K H μ N v (enc b) → L2.RelV v u → ∃ as, Reads h u (encD b) as) :
    ∀ {bs : List β} {vs : List V} {its : List Value}, VRs K H μ N vs (bs.map enc) → L2.Vals vs its → PySem.W.EachIs (fun u b => ∃ v, L2.RelV v u ∧ VR K H μ N v (enc b)) its bs ∧ PySem.W.EachIs (fun u b => ∃ as, Reads h u (encD b) as) its bs := by
  intro bs
  induction bs with
  | nil => intro vs its h r; cases h; cases r; exact ⟨.nil, .nil⟩
  | cons b bs ih =>
    intro vs its h r
    cases h with
    | cons h1 h2 =>
      cases r with
      | cons r1 r2 =>
        obtain ⟨a, c⟩ := ih h2 r2
        exact ⟨.cons ⟨_, r1, h1⟩ a, .cons (hd _ _ _ h1 r1) c⟩
theorem back_of {K : PySem.W.Frag} {N : Nat} {β : Type} {enc : β → Val} : ∀ {bs : List β} {its : List Value}, PySem.W.EachIs (fun u b => ∃ v, L2.RelV v u ∧ VR K H μ N v (enc b)) its bs → ∃ vs, L2.Vals vs its ∧ VRs K H μ N vs (bs.map enc) := by
  intro bs
  induction bs with
  | nil => intro its h; cases h; exact ⟨[], .nil, .nil⟩
  | cons b bs ih =>
    intro its h
    cases h with
    | cons h1 h2 =>
      obtain ⟨vs, a, c⟩ := ih h2
      obtain ⟨v, r, q⟩ := h1
      exact ⟨v :: vs, .cons r a, .cons q c⟩
theorem sort_call {β : Type} (enc : β → Val) (encD : β → PyData) (I : Inv X pins σ H s) (hu : X.A.units + 64 < cLine) {p : Addr} {bs : List β} {vs : List V} {Q : Value → Shared → Prop} {E : Value → Shared → Prop} {N : Nat} (hs : SqL X.K H p vs) (hv : VRs X.K H μ N vs (bs.map enc))
    (hd : ∀ b v u, VR X.K H μ N v (enc b) → L2.RelV v u → ∃ as, Reads s.heap u (encD b) as) (hal : PySem.W.AllAlike (bs.map encD)) (hk : PySem.W.Sortable (bs.map encD)) (hdep : ∀ b ∈ bs, (encD b).depth ≤ 60)
    (q : ∀ l ws s', H l = none → VRs X.K H μ N ws ((bs.mergeSort (PySem.W.dataLe false encD)).map enc) → Inv X pins σ (L2.upd H l (.lst ws)) s' → Q (.ref l) s') : wpAny (model X.prog X.w) X.A (call (.builtin "sorted") [.ref p]) Q E s := by
  obtain ⟨its, rv, pl, hz⟩ := I.list hs
  obtain ⟨e1, e2⟩ := each_of hd hv rv
  have hlen : bs.length ≤ sizeLine := by
    have := VRs.length hv
    rw [List.length_map] at this
    rw [← this]; exact hz
  refine PySem.W.sorted_data pl.isList e1 e2 hal hk hlen (fun b hb => by have := hdep b hb; omega) fun out hl ho => ?_
  obtain ⟨ws, w1, w2⟩ := back_of ho
  obtain ⟨m, F⟩ := I.fr
  obtain ⟨c, F', N', _, keep⟩ := PySem.W.sorted_news (news := []) F (fun p hp => nomatch hp) its out
  have hnew := (N' _ List.mem_cons_self).1
  have hf : H (s.heap.objs.size + 1) = none := I.hok.fresh (Nat.le_succ _)
  refine q _ ws _ hf w2 (I.laid (a := s.heap.objs.size + 1) (t' := s.toks) keep (Nat.le_succ _) ⟨?_, out, c, w1, hnew⟩)
  rw [L2.Vals.length w1, hl]
  exact hlen
theorem le_str (is : List (List Nat)) : is.mergeSort (PySem.W.dataLe false fun x => PyData.str (toStr x)) = is.mergeSort (fun a b => decide (a ≤ b)) := by
  rw [PySem.W.dataLe_str toStr]
  refine congrArg (fun f => is.mergeSort f) ?_
  funext a b
  have e : ∀ x : List Nat, (toStr x).cps.toList = x := fun x => by simp [toStr]
  rw [e, e]
theorem le_int (is : List Int) : is.mergeSort (PySem.W.dataLe false fun x => PyData.int x) = is.mergeSort (fun a b => decide (a ≤ b)) := by
  rw [PySem.W.dataLe_int (fun x => x)]
theorem insV_perm {α : Type} (le : α → α → Bool) (x : α) : ∀ ys : List α, (insV le x ys).Perm (x :: ys)
  | [] => .refl _
  | y :: ys => by
    unfold insV
    split
    · exact .refl _
    · exact ((insV_perm le x ys).cons y).trans (.swap x y ys)
theorem isort_perm {α : Type} (le : α → α → Bool) : ∀ ys : List α, (isort le ys).Perm ys
  | [] => .refl _
  | y :: ys => (insV_perm le y _).trans ((isort_perm le ys).cons y)
theorem insV_sorted {α : Type} {le : α → α → Bool} (tr : ∀ a b c, le a b = true → le b c = true → le a c = true) (tot : ∀ a b, le a b = true ∨ le b a = true) (x : α) : ∀ ys : List α, ys.Pairwise (fun a b => le a b = true) → (insV le x ys).Pairwise fun a b => le a b = true
  | [], _ => by simp [insV]
  | y :: ys, h => by
    unfold insV
    obtain ⟨h1, h2⟩ := List.pairwise_cons.mp h
    split
    · rename_i e
      exact List.pairwise_cons.mpr ⟨fun z hz => by
        rcases List.mem_cons.mp hz with rfl | hz
        · exact e
        · exact tr _ _ _ e (h1 z hz), h⟩
    · rename_i e
      refine List.pairwise_cons.mpr ⟨fun z hz => ?_, insV_sorted tr tot x ys h2⟩
      rcases List.mem_cons.mp ((insV_perm le x ys).mem_iff.mp hz) with rfl | hz
      · exact (tot _ _).resolve_left e
      · exact h1 z hz
theorem isort_sorted {α : Type} {le : α → α → Bool} (tr : ∀ a b c, le a b = true → le b c = true → le a c = true) (tot : ∀ a b, le a b = true ∨ le b a = true) : ∀ ys : List α, (isort le ys).Pairwise fun a b => le a b = true
  | [] => .nil
  | y :: ys => insV_sorted tr tot y _ (isort_sorted tr tot ys)
theorem isort_eq {α : Type} {le : α → α → Bool} (tr : ∀ a b c, le a b = true → le b c = true → le a c = true) (tot : ∀ a b, le a b = true ∨ le b a = true) (anti : ∀ a b, le a b = true → le b a = true → a = b) (ys : List α) : isort le ys = ys.mergeSort le :=
  List.Perm.eq_of_pairwise (fun a b _ _ h1 h2 => anti a b h1 h2) (isort_sorted tr tot ys) (List.pairwise_mergeSort tr (fun a b => by simpa using tot a b) ys) ((isort_perm le ys).trans (List.mergeSort_perm ys le).symm)
theorem leN_iff : ∀ a b : List Nat, leN a b = true ↔ a ≤ b
  | [], b => by simp [leN]
  | x :: xs, [] => by simp [leN]
  | x :: xs, y :: ys => by
    unfold leN
    rw [List.cons_le_cons_iff]
    split
    · rename_i h; simp [h]
    · rename_i h
      split
      · rename_i e; subst e; simp [leN_iff xs ys]
      · rename_i e; simp [h, e]
theorem sort_int (ys : List Int) : isort (fun a b => decide (a ≤ b)) ys = ys.mergeSort (fun a b => decide (a ≤ b)) :=
  isort_eq (fun a b c h1 h2 => by simp at *; omega) (fun a b => by simp; omega) (fun a b h1 h2 => by simp at *; omega) ys
theorem sort_str (ys : List (List Nat)) : isort leN ys = ys.mergeSort (fun a b => decide (a ≤ b)) := by
  have e : leN = fun a b => decide (a ≤ b) := by
    funext a b
    rw [Bool.eq_iff_iff, leN_iff]
    simp
  rw [e]
  exact isort_eq (fun a b c h1 h2 => by simp at *; exact List.le_trans h1 h2) (fun a b => by simp; exact List.le_total a b) (fun a b h1 h2 => by simp at *; exact List.le_antisymm h1 h2) ys
theorem c_sorted (hu : X.A.units + 64 < cLine) : CallR X (.builtin "sorted") (c1 X .sorted) := by
  intro pins s σ H xs us Q I rxs hr
  obtain ⟨v, rfl, W, μ₀, st₀, H₀, μ, st, r, P, hv, a⟩ := hr
  simp only [f1] at a
  split at a
  · rename_i ds e
    obtain ⟨p, vs, rfl, hs, q1⟩ := seqR_list P.rel hv e
    obtain ⟨u, rfl, ru⟩ : ∃ u, us = [u] ∧ L2.RelV (.ref p) u := by
      cases rxs with | cons r t => cases t; exact ⟨_, rfl, r⟩
    cases ru
    split at a
    · split at a
      · rename_i is e2
        have := allStrs_eq e2
        subst this
        refine sort_call (μ := μ) Val.str (fun x => PyData.str (toStr x)) I hu hs q1 (fun b v u hv ru => ?_) (PySem.W.AllAlike.of fun _ _ => rfl) (PySem.W.Sortable.others fun _ => ⟨(fun z => nomatch z), (fun _ z => nomatch z)⟩) (fun _ _ => by simp [PyData.depth]) fun l ws s' hl w I' => ?_
        · have := hv.i_str
          subst this
          obtain ⟨t, rfl⟩ := ru
          exact ⟨_, .str _ t⟩
        · rw [le_str, ← sort_str] at w
          exact ⟨.ref l, _, I', rfl, finL a P w hl⟩
      · split at a
        · rename_i is e2
          have := allInts_eq e2
          subst this
          refine sort_call (μ := μ) Val.int (fun x => PyData.int x) I hu hs q1 (fun b v u hv ru => ?_) (PySem.W.AllAlike.of fun _ _ => rfl) (PySem.W.Sortable.others fun _ => ⟨(fun z => nomatch z), (fun _ z => nomatch z)⟩) (fun _ _ => by simp [PyData.depth]) fun l ws s' hl w I' => ?_
          · have := hv.i_int
            subst this
            obtain ⟨t, rfl⟩ := ru
            exact ⟨_, .int _ t⟩
          · rw [le_int, ← sort_int] at w
            exact ⟨.ref l, _, I', rfl, finL a P w hl⟩
        · exact a.elim
    · exact a.elim
  · exact a.elim
/-! ### is None, isinstance -/
theorem non_iff {K : PySem.W.Frag} {N : Nat} {v : V} {d : Val} (h : VR K H μ N v d) : decide (v = .non) = (d == .non) := by
  cases d with
  | non => rw [h.i_non]; rfl
  | bl b => rw [h.i_bl]; rfl
  | int b => rw [h.i_int]; rfl
  | str b => rw [h.i_str]; rfl
  | tup b => obtain ⟨a, _, e, _⟩ := h.i_tup; rw [e]; rfl
  | ref b => rw [h.i_ref.2]; rfl
def isNonR : RV → Bool
  | .v d => d == .non
  | .l _ => false
def tyName : Val → String
  | .non => "NoneType" | .bl _ => "bool" | .int _ => "int" | .str _ => "str" | .tup _ => "tuple" | .ref _ => ""
def tyNameR : RV → String
  | .v d => tyName d
  | .l _ => "list"
theorem non_iffR {K : PySem.W.Frag} {H₀ : Hp} {N : Nat} {v : V} {r : RV} (h : VRR K H₀ H μ N v r) : decide (v = .non) = isNonR r := by
  cases r with
  | v d => exact non_iff h
  | l xs => obtain ⟨p, _, e, _⟩ := h; rw [e]; rfl
theorem o_isN : OpR X (compareOp .Is) (fun x y H Q => y = .non ∧ r1 X .isNon x H Q) := by
  intro pins s σ H x y v u Q I rx ry hr
  obtain ⟨rfl, W, μ₀, st₀, H₀, μ, st, r, P, hv, a⟩ := hr
  refine op_isN pins s σ H x _ v u Q I rx ry ⟨rfl, ?_⟩
  rw [non_iffR hv]
  cases r with
  | v d => exact fin a P (.bl _)
  | l xs => exact fin a P (.bl _)
theorem o_notN : OpR X (compareOp .IsNot) (fun x y H Q => y = .non ∧ r1 X .notNon x H Q) := by
  intro pins s σ H x y v u Q I rx ry hr
  obtain ⟨rfl, W, μ₀, st₀, H₀, μ, st, r, P, hv, a⟩ := hr
  refine op_notN pins s σ H x _ v u Q I rx ry ⟨rfl, ?_⟩
  rw [non_iffR hv]
  cases r with
  | v d => exact fin a P (.bl _)
  | l xs => exact fin a P (.bl _)
/-- the type of a sequence -/
theorem tyx_list {K : PySem.W.Frag} {p : Addr} {vs : List V} (h : SqL K H p vs) : TyX K H (.ref p) (.type "list") := by
  rcases h with (h | ⟨o, h⟩) | ⟨o, _, _, h, c, _⟩
  · exact .base (.lst h)
  · exact .base (.frz h)
  · exact .kList h c
theorem tyx_tup {K : PySem.W.Frag} {p : Addr} {vs : List V} (h : SqT K H p vs) : TyX K H (.ref p) (.type "tuple") := by
  rcases h with (h | ⟨o, h⟩) | ⟨o, _, _, h, c, _⟩
  · exact .base (.tup h)
  · exact .fTuple h
  · exact .kTuple h c
theorem tyx_of {K : PySem.W.Frag} {N : Nat} {v : V} {d : Val} (h : VR K H μ N v d) (hd : ∀ n, d ≠ .ref n) : ∃ T : String, TyX K H v (.type T) ∧ T = tyName d := by
  cases d with
  | non => rw [h.i_non]; exact ⟨_, .base .non, rfl⟩
  | bl b => rw [h.i_bl]; exact ⟨_, .base (.bl _), rfl⟩
  | int b => rw [h.i_int]; exact ⟨_, .base (.int _), rfl⟩
  | str b => rw [h.i_str]; exact ⟨_, .base (.str _), rfl⟩
  | tup b => obtain ⟨a, _, e, q, _⟩ := h.i_tup; rw [e]; exact ⟨_, tyx_tup q, rfl⟩
  | ref b => exact absurd rfl (hd b)
theorem isi_core {o : O1} {T : String} (h : ∀ (r : RV) (st : Store) (W : XW) (μ₀ : Mu) (st₀ : Store) (H₀ : Hp) (Q : VK), After X.K W μ₀ st₀ H₀ (f1 o r st) Q → ∃ b, f1 o r st = .ok (.v (.bl b)) st ∧ (∀ n, r ≠ .v (.ref n)) ∧
    kitB (tyNameR r) T = some b) :
    CallR X (.builtin "isinstance") (fun xs H Q => ∃ v, xs = [v, .ty T] ∧ r1 X o v H Q) := by
  intro pins s σ H xs us Q I rxs hr
  obtain ⟨v, rfl, W, μ₀, st₀, H₀, μ, st, r, P, hv, a⟩ := hr
  obtain ⟨b, e, hn, hk⟩ := h _ _ _ _ _ _ _ a
  rw [e] at a
  cases r with
  | v d =>
    obtain ⟨T', t1, t2⟩ := tyx_of (nr_v hv) fun n z => hn n (by rw [z])
    subst t2
    exact call_isi pins s σ H _ us Q I rxs ⟨v, .ty T, _, _, b, rfl, .ty T, t1, kit_ty hk, fin a P (.bl b)⟩
  | l ds =>
    obtain ⟨p, vs, rfl, _, e1, _⟩ := hv
    exact call_isi pins s σ H _ us Q I rxs ⟨_, .ty T, _, _, b, rfl, .ty T, .base (.lst e1), kit_ty hk, fin a P (.bl b)⟩
theorem c_isStr : CallR X (.builtin "isinstance") (fun xs H Q => ∃ v, xs = [v, .ty "str"] ∧ r1 X .isStr v H Q) := isi_core fun r st W μ₀ st₀ H₀ Q a => by
  cases r with
  | v d => cases d <;> first | exact a.elim | exact ⟨_, rfl, fun n z => (nomatch z), by (simp only [tyNameR, tyName]; decide +kernel)⟩
  | l ds => exact ⟨_, rfl, fun n z => (nomatch z), by (simp only [tyNameR, tyName]; decide +kernel)⟩
theorem c_isInt : CallR X (.builtin "isinstance") (fun xs H Q => ∃ v, xs = [v, .ty "int"] ∧ r1 X .isInt v H Q) := isi_core fun r st W μ₀ st₀ H₀ Q a => by
  cases r with
  | v d => cases d <;> first | exact a.elim | exact ⟨_, rfl, fun n z => (nomatch z), by (simp only [tyNameR, tyName]; decide +kernel)⟩
  | l ds => exact ⟨_, rfl, fun n z => (nomatch z), by (simp only [tyNameR, tyName]; decide +kernel)⟩
theorem c_isTup : CallR X (.builtin "isinstance") (fun xs H Q => ∃ v, xs = [v, .ty "tuple"] ∧ r1 X .isTup v H Q) := isi_core fun r st W μ₀ st₀ H₀ Q a => by
  cases r with
  | v d => cases d <;> first | exact a.elim | exact ⟨_, rfl, fun n z => (nomatch z), by (simp only [tyNameR, tyName]; decide +kernel)⟩
  | l ds => exact ⟨_, rfl, fun n z => (nomatch z), by (simp only [tyNameR, tyName]; decide +kernel)⟩
theorem c_isBool : CallR X (.builtin "isinstance") (fun xs H Q => ∃ v, xs = [v, .ty "bool"] ∧ r1 X .isBool v H Q) := isi_core fun r st W μ₀ st₀ H₀ Q a => by
  cases r with
  | v d => cases d <;> first | exact a.elim | exact ⟨_, rfl, fun n z => (nomatch z), by (simp only [tyNameR, tyName]; decide +kernel)⟩
  | l ds => exact ⟨_, rfl, fun n z => (nomatch z), by (simp only [tyNameR, tyName]; decide +kernel)⟩
/-! ### slices, reversed lists, truth -/
def rsl (X : Cx) (x : V) (lo hi : Option Int) (H : Hp) (Q : VK) : Prop :=
  ∃ (W : XW) (μ₀ : Mu) (st₀ : Store) (H₀ : Hp) (μ : Mu) (st : Store) (r : RV), Post X.K μ₀ st₀ H₀ μ st H ∧ VRR X.K H₀ H μ st.length x r ∧ After X.K W μ₀ st₀ H₀ (fsl r lo hi st) Q
theorem cut_all {α : Type} {xs : List α} {lo hi : Option Int} (h : HT.sIx xs.length 0 lo = 0 ∧ HT.sIx xs.length xs.length hi = xs.length) : cut xs lo hi = xs := by
  have e : ∀ n d o, cutIx n d o = HT.sIx n d o := fun n d o => by cases o <;> rfl
  unfold cut
  rw [e, e, h.1, h.2]
  simp
theorem s_any : SlR X (rsl X) := by
  intro pins s σ H x v vl vu lo hi sl Q I rx hs pl pu hr
  obtain ⟨W, μ₀, st₀, H₀, μ, st, r, P, hv, a⟩ := hr
  simp only [fsl] at a
  split at a
  · rename_i ds e
    obtain ⟨p, vs, rfl, h1, q1⟩ := seqR_list P.rel hv e
    exact sl_list pins s σ H _ v vl vu lo hi sl Q I rx hs pl pu ⟨p, vs, rfl, h1, fun l hl => finL a P (q1.cut lo hi) hl⟩
  · rename_i ds e
    obtain ⟨p, vs, rfl, rfl, h1, q1⟩ := seqR_tup hv e
    refine sl_tupA pins s σ H _ v vl vu lo hi sl Q I rx hs pl pu ⟨p, vs, rfl, h1, fun h => ?_, fun _ l hl => finT a P (q1.cut lo hi) hl⟩
    rw [VRs.length q1] at h
    rw [cut_all h] at a
    exact fin a P hv
  · split at a
    · rename_i z _
      split at a
      · rename_i hl
        have e := (nr_v hv).i_str
        subst e
        refine sl_str pins s σ H _ v vl vu lo hi sl Q I rx hs pl pu ⟨_, rfl, by simpa [toStr, Str.length] using (show z.length ≤ sizeLine from hl), ?_⟩
        have e2 : cutS (toStr z) lo hi = toStr (cut z lo hi) := by
          have e : ∀ n d o, cutIx n d o = HT.sIx n d o := fun n d o => by cases o <;> rfl
          simp [cutS, cut, toStr, e, Str.length]
        rw [e2]
        exact fin a P (.str _)
      · exact a.elim
    · exact a.elim
/-- a value's truth -/
theorem truth_ok {K : PySem.W.Frag} {H₀ : Hp} (P : Rel K H μ st) {v : V} {r : RV} {b : Bool} (hv : VRR K H₀ H μ st.length v r) (h : truthV st r = some b) : TruV K v H b := by
  cases r with
  | l ds =>
    have h := Option.some.inj h
    obtain ⟨p, vs, rfl, _, e1, q, _⟩ := hv
    exact .inl ⟨vs, .of e1, by rw [q.empty]; exact h.symm⟩
  | v d =>
    cases d with
    | non => rw [(nr_v hv).i_non]; exact (Option.some.inj h).symm
    | bl x => rw [(nr_v hv).i_bl]; exact (Option.some.inj h).symm
    | int x => rw [(nr_v hv).i_int]; exact (Option.some.inj h).symm
    | str x =>
      simp only [truthV] at h
      split at h
      · rename_i hl
        cases h
        rw [(nr_v hv).i_str]
        refine ⟨by simpa [toStr, Str.length] using (show x.length ≤ sizeLine from hl), ?_⟩
        cases x with
        | nil => rfl
        | cons c x =>
          simp only [toStr, Str.length, List.isEmpty_cons, Bool.not_false, List.size_toArray, List.length_cons]
          symm
          rw [bne_iff_ne]
          omega
      · cases h
    | tup x =>
      have h := Option.some.inj h
      obtain ⟨p, vs, rfl, e1, q⟩ := (nr_v hv).i_tup
      exact .inr (.inl ⟨vs, e1, by rw [q.empty]; exact h.symm⟩)
    | ref n =>
      obtain ⟨hn, rfl⟩ := (nr_v hv).i_ref
      simp only [truthV] at h
      split at h
      · rename_i xs e; cases h
        obtain ⟨vs, e1, q⟩ := P.obj n _ e
        exact .inl ⟨vs, .of e1, by rw [q.empty]⟩
      · rename_i xs e; cases h
        obtain ⟨o, vs, e1, q⟩ := P.obj n _ e
        exact .inl ⟨vs, .inl (.inr ⟨o, e1⟩), by rw [q.empty]⟩
      · rename_i kvs e; cases h
        obtain ⟨l, e1, q⟩ := P.obj n _ e
        exact .inr (.inr ⟨l, e1, by cases q <;> rfl⟩)
      · cases h
end
end Mi
end
section
set_option linter.all false
set_option autoImplicit false
set_option maxRecDepth 10000
/-! MiRd: readings of Mini's computations. -/
namespace Mi
open PySem PySem.Spec L2
open PyProof.Rows hiding RelV

abbrev W0 : XW := fun _ _ _ _ _ => False
/-- the slots -/
structure ER (K : PySem.W.Frag) (H : Hp) (μ : Mu) (N : Nat) (σ : L2.St) (ρ : Env) : Prop where
  len : σ.length = ρ.length
  get : ∀ (i : Nat) (d : Val), ρ[i]? = some (some d) → ∃ v, σ[i]? = some (some v) ∧ VR K H μ N v d
def AfterA (K : PySem.W.Frag) (W : XW) (μ : Mu) (st : Store) (H : Hp) (c : Res (List RV)) (Q : List V → Hp → Prop) : Prop := match c with
  | .ok rs st' => ∀ μ' H' vs ps, Post K μ st H μ' st' H' → VRRs K H H' μ' st'.length vs rs ps → Q vs H'
  | .exc c p st' => ∀ μ' H', Post K μ st H μ' st' H' → W c p μ' st' H'
  | .bad => False
def AfterT (K : PySem.W.Frag) (W : XW) (μ : Mu) (st : Store) (H : Hp) (c : Res Bool) (Q : Bool → Hp → Prop) : Prop := match c with
  | .ok b st' => ∀ μ' H', Post K μ st H μ' st' H' → Q b H'
  | .exc c p st' => ∀ μ' H', Post K μ st H μ' st' H' → W c p μ' st' H'
  | .bad => False
def AfterO (K : PySem.W.Frag) (W : XW) (μ : Mu) (st : Store) (H : Hp) (c : Res (Option Int)) (Q : Option Int → Hp → Prop) : Prop := match c with
  | .ok b st' => ∀ μ' H', Post K μ st H μ' st' H' → Q b H'
  | .exc c p st' => ∀ μ' H', Post K μ st H μ' st' H' → W c p μ' st' H'
  | .bad => False
abbrev Comp (α : Type) := Env → Store → Res α
def tE (K : PySem.W.Frag) (W : XW) (f : Comp RV) : TE := fun σ H Q => ∃ μ st ρ, Rel K H μ st ∧ ER K H μ st.length σ ρ ∧ After K W μ st H (f ρ st) Q
def tA (K : PySem.W.Frag) (W : XW) (f : Comp (List RV)) : TA := fun σ H Q => ∃ μ st ρ, Rel K H μ st ∧ ER K H μ st.length σ ρ ∧ AfterA K W μ st H (f ρ st) Q
def tT (K : PySem.W.Frag) (W : XW) (f : Comp RV) : TT := fun σ H Q => ∃ μ st ρ, Rel K H μ st ∧ ER K H μ st.length σ ρ ∧ AfterT K W μ st H ((f ρ st).bind fun r st1 => truthR r st1) Q
def tO (K : PySem.W.Frag) (W : XW) (f : Comp (Option Int)) : TO := fun σ H Q => ∃ μ st ρ, Rel K H μ st ∧ ER K H μ st.length σ ρ ∧ AfterO K W μ st H (f ρ st) Q

section
variable {K : PySem.W.Frag} {W : XW} {H H' H₀ : Hp} {μ μ' μ₀ : Mu} {st st' st₀ : Store} {σ : L2.St} {ρ : Env}
theorem ER.step (P : Post K μ st H μ' st' H') (r : Rel K H μ st) (e : ER K H μ st.length σ ρ) : ER K H' μ' st'.length σ ρ :=
  ⟨e.len, fun i d h => by obtain ⟨v, a, b⟩ := e.get i d h; exact ⟨v, a, VR.keep (P.keep r) _ _ b⟩⟩
theorem After.step {c : Res RV} {Q : VK} (P : Post K μ₀ st₀ H₀ μ st H) (a : After K W μ₀ st₀ H₀ c Q) : After K W μ st H c Q := by
  cases c with
  | ok r st' => exact fun μ' H' v P' h => a μ' H' v (P.trans P') (h.older fun _ z => P.free z)
  | exc c p st' => exact fun μ' H' P' => a μ' H' (P.trans P')
  | bad => exact a
theorem AfterT.step {c : Res Bool} {Q : Bool → Hp → Prop} (P : Post K μ₀ st₀ H₀ μ st H) (a : AfterT K W μ₀ st₀ H₀ c Q) : AfterT K W μ st H c Q := by
  cases c with
  | ok r st' => exact fun μ' H' P' => a μ' H' (P.trans P')
  | exc c p st' => exact fun μ' H' P' => a μ' H' (P.trans P')
  | bad => exact a
theorem AfterO.step {c : Res (Option Int)} {Q : Option Int → Hp → Prop} (P : Post K μ₀ st₀ H₀ μ st H) (a : AfterO K W μ₀ st₀ H₀ c Q) : AfterO K W μ st H c Q := by
  cases c with
  | ok r st' => exact fun μ' H' P' => a μ' H' (P.trans P')
  | exc c p st' => exact fun μ' H' P' => a μ' H' (P.trans P')
  | bad => exact a
theorem AfterA.step {c : Res (List RV)} {Q : List V → Hp → Prop} (P : Post K μ₀ st₀ H₀ μ st H) (a : AfterA K W μ₀ st₀ H₀ c Q) : AfterA K W μ st H c Q := by
  cases c with
  | ok r st' => exact fun μ' H' v ps P' h => a μ' H' v ps (P.trans P') (h.older fun _ z => P.free z)
  | exc c p st' => exact fun μ' H' P' => a μ' H' (P.trans P')
  | bad => exact a
theorem VRRs.len {N : Nat} {vs : List V} {rs : List RV} {ps : List Addr} (hv : VRRs K H₀ H μ N vs rs ps) : rs.length = vs.length := by
  induction hv with
  | nil => rfl
  | v _ _ ih => simp [ih]
  | l _ _ _ _ _ _ ih => simp [ih]
/-- values that wait -/
def Mid (K : PySem.W.Frag) (W : XW) (σ : L2.St) (vs : List V) (H : Hp) (g : List RV → Comp RV) (Q : VK) : Prop :=
  ∃ μ₀ st₀ H₀ ρ μ st rs ps, Rel K H₀ μ₀ st₀ ∧ ER K H₀ μ₀ st₀.length σ ρ ∧ Post K μ₀ st₀ H₀ μ st H ∧ VRRs K H₀ H μ st.length vs rs ps ∧ After K W μ₀ st₀ H₀ (g rs ρ st) Q
def MidT (K : PySem.W.Frag) (W : XW) (σ : L2.St) (vs : List V) (H : Hp) (g : List RV → Comp Bool) (Q : Bool → Hp → Prop) : Prop :=
  ∃ μ₀ st₀ H₀ ρ μ st rs ps, Rel K H₀ μ₀ st₀ ∧ ER K H₀ μ₀ st₀.length σ ρ ∧ Post K μ₀ st₀ H₀ μ st H ∧ VRRs K H₀ H μ st.length vs rs ps ∧ AfterT K W μ₀ st₀ H₀ (g rs ρ st) Q
theorem mid_start {f : Comp RV} {g : List RV → Comp RV} {Q : VK} (h : tE K W f σ H Q) (e : ∀ ρ st, f ρ st = g [] ρ st) : Mid K W σ [] H g Q := by
  obtain ⟨μ, st, ρ, r, er, a⟩ := h
  exact ⟨μ, st, H, ρ, μ, st, [], [], r, er, .refl r, .nil, by rw [← e]; exact a⟩
theorem midT_start {f : Comp RV} {g : List RV → Comp Bool} {Q : Bool → Hp → Prop} (h : tT K W f σ H Q) (e : ∀ ρ st, ((f ρ st).bind fun r st1 => truthR r st1) = g [] ρ st) : MidT K W σ [] H g Q := by
  obtain ⟨μ, st, ρ, r, er, a⟩ := h
  exact ⟨μ, st, H, ρ, μ, st, [], [], r, er, .refl r, .nil, by rw [← e]; exact a⟩
theorem VRRs.snoc {N : Nat} {vs : List V} {rs : List RV} {ps : List Addr} {v : V} {r : RV} (hp : ∀ p ∈ ps, H p ≠ none) (h : VRRs K H₀ H' μ' N vs rs ps) (hr : VRR K H H' μ' N v r) (h0 : ∀ a, H a = none → H₀ a = none) :
    ∃ qs, VRRs K H₀ H' μ' N (vs ++ [v]) (rs ++ [r]) qs ∧ ∀ q ∈ qs, q ∈ ps ∨ H q = none := by
  induction h with
  | nil =>
    cases r with
    | v d => exact ⟨[], .v hr .nil, fun q h => nomatch h⟩
    | l ds =>
      obtain ⟨p, us, rfl, a, b, c, d⟩ := hr
      exact ⟨[p], .l (h0 _ a) b c d (by simp) .nil, fun q h => by simp at h; subst h; exact .inr a⟩
  | v a _ ih =>
    obtain ⟨qs, x, y⟩ := ih hp
    exact ⟨qs, .v a x, y⟩
  | @l p us ds vs rs ps a b c d e h ih =>
    obtain ⟨qs, x, y⟩ := ih fun q hq => hp q (List.mem_cons_of_mem _ hq)
    refine ⟨p :: qs, .l a b c d (fun z => ?_) x, fun q hq => ?_⟩
    · rcases y p z with z | z
      · exact e z
      · exact hp p List.mem_cons_self z
    · rcases List.mem_cons.mp hq with rfl | hq
      · exact .inl List.mem_cons_self
      · rcases y q hq with z | z
        · exact .inl (List.mem_cons_of_mem _ z)
        · exact .inr z
theorem VRRs.live {N : Nat} {vs : List V} {rs : List RV} {ps : List Addr} (h : VRRs K H₀ H μ N vs rs ps) : ∀ p ∈ ps, H p ≠ none := by
  induction h with
  | nil => intro p h; cases h
  | v _ _ ih => exact ih
  | l a b _ _ _ _ ih =>
    intro q hq
    rcases List.mem_cons.mp hq with rfl | hq
    · rw [b]; exact fun z => nomatch z
    · exact ih q hq
/-- the next value -/
theorem mid_next {f : Comp RV} {g g' : List RV → Comp RV} {vs : List V} {Q : VK} (h : Mid K W σ vs H g Q) (e : ∀ rs ρ st, rs.length = vs.length → g rs ρ st = ((f ρ st).bind fun r st1 => g' (rs ++ [r]) ρ st1) ∨ g rs ρ st = .bad) :
    tE K W f σ H fun v H1 => Mid K W σ (vs ++ [v]) H1 g' Q := by
  obtain ⟨μ₀, st₀, H₀, ρ, μ, st, rs, ps, r, er, P, hv, a⟩ := h
  have hl : rs.length = vs.length := hv.len
  refine ⟨μ, st, ρ, P.rel, er.step P r, ?_⟩
  rcases e rs ρ st hl with e | e
  · rw [e] at a
    cases hf : f ρ st with
    | bad => rw [hf] at a; exact a
    | exc c p st' => rw [hf] at a; exact fun μ' H' P' => a μ' H' (P.trans P')
    | ok x st1 =>
      rw [hf] at a
      intro μ1 H1 v P1 h1
      obtain ⟨qs, q1, _⟩ := VRRs.snoc hv.live (hv.step P1 P.rel) h1 fun a z => P.free z
      exact ⟨μ₀, st₀, H₀, ρ, μ1, st1, rs ++ [x], qs, r, er, P.trans P1, q1, a⟩
  · rw [e] at a; exact a.elim
theorem midT_next {f : Comp RV} {g g' : List RV → Comp Bool} {vs : List V} {Q : Bool → Hp → Prop} (h : MidT K W σ vs H g Q) (e : ∀ rs ρ st, rs.length = vs.length → g rs ρ st = ((f ρ st).bind fun r st1 => g' (rs ++ [r]) ρ st1) ∨ g rs ρ st = .bad) :
    tE K W f σ H fun v H1 => MidT K W σ (vs ++ [v]) H1 g' Q := by
  obtain ⟨μ₀, st₀, H₀, ρ, μ, st, rs, ps, r, er, P, hv, a⟩ := h
  have hl : rs.length = vs.length := hv.len
  refine ⟨μ, st, ρ, P.rel, er.step P r, ?_⟩
  rcases e rs ρ st hl with e | e
  · rw [e] at a
    cases hf : f ρ st with
    | bad => rw [hf] at a; exact a
    | exc c p st' => rw [hf] at a; exact fun μ' H' P' => a μ' H' (P.trans P')
    | ok x st1 =>
      rw [hf] at a
      intro μ1 H1 v P1 h1
      obtain ⟨qs, q1, _⟩ := VRRs.snoc hv.live (hv.step P1 P.rel) h1 fun a z => P.free z
      exact ⟨μ₀, st₀, H₀, ρ, μ1, st1, rs ++ [x], qs, r, er, P.trans P1, q1, a⟩
  · rw [e] at a; exact a.elim
/-- on with the rest, the values that wait forgotten -/
theorem mid_go {f : Comp RV} {g : List RV → Comp RV} {vs : List V} {Q : VK} (h : Mid K W σ vs H g Q) (e : ∀ rs ρ st, rs.length = vs.length → g rs ρ st = f ρ st) : tE K W f σ H Q := by
  obtain ⟨μ₀, st₀, H₀, ρ, μ, st, rs, ps, r, er, P, hv, a⟩ := h
  have hl : rs.length = vs.length := hv.len
  rw [e rs ρ st hl] at a
  exact ⟨μ, st, ρ, P.rel, er.step P r, a.step P⟩
/-- two values -/
theorem mid2 {g : List RV → Comp RV} {v u : V} {Q : VK} (h : Mid K W σ [v, u] H g Q) : ∃ μ₀ st₀ H₀ ρ μ st r q, Post K μ₀ st₀ H₀ μ st H ∧ VRR K H₀ H μ st.length v r ∧ VRR K H₀ H μ st.length u q ∧ After K W μ₀ st₀ H₀ (g [r, q] ρ st) Q := by
  obtain ⟨μ₀, st₀, H₀, ρ, μ, st, rs, ps, r, er, P, hv, a⟩ := h
  cases hv with
  | v h1 hr =>
    cases hr with
    | v h2 hr => cases hr; exact ⟨μ₀, st₀, H₀, ρ, μ, st, .v _, .v _, P, h1, h2, a⟩
    | l a1 a2 a3 a4 a5 hr => cases hr; exact ⟨μ₀, st₀, H₀, ρ, μ, st, .v _, .l _, P, h1, ⟨_, _, rfl, a1, a2, a3, a4⟩, a⟩
  | l b1 b2 b3 b4 b5 hr =>
    cases hr with
    | v h2 hr => cases hr; exact ⟨μ₀, st₀, H₀, ρ, μ, st, .l _, .v _, P, ⟨_, _, rfl, b1, b2, b3, b4⟩, h2, a⟩
    | l a1 a2 a3 a4 a5 hr => cases hr; exact ⟨μ₀, st₀, H₀, ρ, μ, st, .l _, .l _, P, ⟨_, _, rfl, b1, b2, b3, b4⟩, ⟨_, _, rfl, a1, a2, a3, a4⟩, a⟩
theorem mid1 {g : List RV → Comp RV} {v : V} {Q : VK} (h : Mid K W σ [v] H g Q) : ∃ μ₀ st₀ H₀ ρ μ st r, Rel K H₀ μ₀ st₀ ∧ ER K H₀ μ₀ st₀.length σ ρ ∧ Post K μ₀ st₀ H₀ μ st H ∧ VRR K H₀ H μ st.length v r ∧ After K W μ₀ st₀ H₀ (g [r] ρ st) Q := by
  obtain ⟨μ₀, st₀, H₀, ρ, μ, st, rs, ps, r, er, P, hv, a⟩ := h
  cases hv with
  | v h1 hr => cases hr; exact ⟨μ₀, st₀, H₀, ρ, μ, st, .v _, r, er, P, h1, a⟩
  | l b1 b2 b3 b4 b5 hr => cases hr; exact ⟨μ₀, st₀, H₀, ρ, μ, st, .l _, r, er, P, ⟨_, _, rfl, b1, b2, b3, b4⟩, a⟩
theorem midT1 {g : List RV → Comp Bool} {v : V} {Q : Bool → Hp → Prop} (h : MidT K W σ [v] H g Q) : ∃ μ₀ st₀ H₀ ρ μ st r, Rel K H₀ μ₀ st₀ ∧ ER K H₀ μ₀ st₀.length σ ρ ∧ Post K μ₀ st₀ H₀ μ st H ∧ VRR K H₀ H μ st.length v r ∧ AfterT K W μ₀ st₀ H₀ (g [r] ρ st) Q := by
  obtain ⟨μ₀, st₀, H₀, ρ, μ, st, rs, ps, r, er, P, hv, a⟩ := h
  cases hv with
  | v h1 hr => cases hr; exact ⟨μ₀, st₀, H₀, ρ, μ, st, .v _, r, er, P, h1, a⟩
  | l b1 b2 b3 b4 b5 hr => cases hr; exact ⟨μ₀, st₀, H₀, ρ, μ, st, .l _, r, er, P, ⟨_, _, rfl, b1, b2, b3, b4⟩, a⟩
/-- the test by a value's truth -/
theorem tT_truth {f : Comp RV} {Q : Bool → Hp → Prop} (h : tT K W f σ H Q) : tE K W f σ H fun v H1 => ∃ k, TruV K v H1 k ∧ Q k H1 := by
  obtain ⟨μ, st, ρ, r, er, a⟩ := h
  refine ⟨μ, st, ρ, r, er, ?_⟩
  cases hf : f ρ st with
  | bad => rw [hf] at a; exact a
  | exc c p st' => rw [hf] at a; exact a
  | ok x st1 =>
    rw [hf] at a
    intro μ1 H1 v P1 h1
    simp only [Res.bind, truthR, lift] at a
    cases ht : truthV st1 x with
    | none => rw [ht] at a; exact a.elim
    | some b => rw [ht] at a; exact ⟨b, truth_ok P1.rel h1 ht, a μ1 H1 P1⟩
/-- .. where it is a bool -/
theorem tT_bool {f : Comp RV} (hb : ∀ ρ st r st', f ρ st = .ok r st' → ∃ b, r = .v (.bl b)) {Q : Bool → Hp → Prop} (h : tT K W f σ H Q) : tE K W f σ H fun v H1 => ∃ k, v = .bl k ∧ Q k H1 := by
  obtain ⟨μ, st, ρ, r, er, a⟩ := h
  refine ⟨μ, st, ρ, r, er, ?_⟩
  cases hf : f ρ st with
  | bad => rw [hf] at a; exact a
  | exc c p st' => rw [hf] at a; exact a
  | ok x st1 =>
    rw [hf] at a
    intro μ1 H1 v P1 h1
    obtain ⟨b, rfl⟩ := hb _ _ _ _ hf
    exact ⟨b, (nr_v h1).i_bl, a μ1 H1 P1⟩
end
end Mi
end
section
set_option linter.all false
set_option autoImplicit false
set_option maxRecDepth 10000
/-! MiCall: defs that do what the interpreter says; calls of these. -/
namespace Mi
open PySem PySem.Spec L2
open PyProof.Rows hiding RelV

/-- how an exception lies in the air -/
def xk (W : XW) : XK := fun _ _ _ => False
/-- what is wanted of W's is wanted of U's -/
def XSub (U W : XW) : Prop := ∀ c p μ st H, U c p μ st H → W c p μ st H ∨ (Val.nrs p = true ∧ ∃ μ' st', W c p μ' st' H)
theorem XSub.refl {W : XW} : XSub W W := fun _ _ _ _ _ h => .inl h
theorem xk_sub {U W : XW} (h : XSub U W) {c : Value} {d : Option Addr} {H : Hp} (x : xk U c d H) : xk W c d H := x
/-- exceptions of W's kind are let out -/
def XTk (X : Cx) (W : XW) : Prop := Takes X fun c d _ H => xk W c d H
theorem XTk.none {X : Cx} {W : XW} : XTk X W := takes0
theorem XTk.sub {X : Cx} {U W : XW} (h : XSub U W) (t : XTk X W) : XTk X U := Takes.imp t fun _ _ _ _ x => xk_sub h x
/-- the def at f does F, by at most k levels -/
structure FnM (P : Program) (w : World) (K : PySem.W.Frag) (mg : Str → Option Value) (base : Heap) (k : Nat) (f : Addr) (fd : FuncData) (ps : List Str) (F : Fn) : Prop where
  arity : ∀ ds st, F ds st ≠ .bad → ds.length = ps.length
  run : ∀ (A : Around) (outer : List PySem.Env) (s : Shared) (H : Hp) (args : Args) (us : List Value) (vs : List V) (ds : List Val) (μ : Mu) (st : Store) (W : XW) (Q : VK), Room k A → A.guards = some [] → Env0 P w K mg base A outer s H →
    BindsTo s fd args (ps.zip us) → L2.Vals vs us → Rel K H μ st → VRs K H μ st.length vs ds → After K W μ st H (F ds st) Q → codeAny (model P w) A (.call (.ref f) args) (CR (L2.CX P w) outer P w H s Q (xk W)) s
theorem FnM.mono {P : Program} {w : World} {K : PySem.W.Frag} {mg : Str → Option Value} {base : Heap} {j k : Nat} {f : Addr} {fd : FuncData} {ps : List Str} {F : Fn} (h : FnM P w K mg base j f fd ps F) (l : j ≤ k) : FnM P w K mg base k f fd ps F :=
  ⟨h.arity, fun A outer s H args us vs ds μ st W Q hr => h.run A outer s H args us vs ds μ st W Q (hr.mono l)⟩
section
variable {X : Cx} {pins : List (Addr × PySem.Obj)} {σ : L2.St} {H : Hp} {s : Shared} {k : Nat} {f : Addr} {fd : FuncData} {ps : List Str} {F : Fn}
theorem cr_ep {W : XW} {Q : VK} (xt : XTk X W) (I : Inv X pins σ H s) {r : Result} {s' : Shared} (h : CR (L2.CX X.prog X.w) X.stack X.prog X.w H s Q (xk W) r s') : match r with | .ok (.ret v) => EP X pins σ Q v s' | .ok _ => False | .error e => X.xe e s' := by
  rcases r with e | fl
  · exact xt _ _ (XE.of_call I (fun _ _ _ h => h) h)
  · cases fl <;> first | exact I.after h | exact h
theorem not_bad {K : PySem.W.Frag} {W : XW} {μ : Mu} {st : Store} {c : Res RV} {Q : VK} (a : After K W μ st H c Q) : c ≠ .bad := fun e => by rw [e] at a; exact a
/-- a call, its values at hand -/
theorem call_fn {us : List Value} {vs : List V} {ds : List Val} {μ : Mu} {st : Store} {W : XW} {Q : VK} (xt : XTk X W) (h : FnM X.prog X.w X.K X.mg X.base k f fd ps F) (hr : Room k X.A) (hg : X.A.guards = some []) (hb : Binds X.K fd ps []) (I : Inv X pins σ H s) (rv : L2.Vals vs us)
    (r : Rel X.K H μ st) (rd : VRs X.K H μ st.length vs ds) (a : After X.K W μ st H (F ds st) Q) : wpAny (model X.prog X.w) X.A (call (.ref f) us) (EP X pins σ Q) X.xe s := by
  have hl : us.length = ps.length := by rw [← rv.length, VRs.length rd]; exact h.arity _ _ (not_bad a)
  have b := hb s us I.kIn (by simpa using hl)
  rw [List.append_nil] at b
  refine wpAny_call (codeAny_mono (h.run X.A X.stack s H ⟨us, []⟩ us vs ds μ st W Q hr hg I.env0 b rv r rd a) fun r s' hq => ?_)
  have := cr_ep xt I hq
  rcases r with e | fl
  · exact this
  · cases fl <;> first | exact this | exact this.elim
theorem call_fnK {us ws : List Value} {vs zs : List V} {ks : List Str} {g : List Value → List Value → List Value} {gV : List V → List V → List V} {ds : List Val} {μ : Mu} {st : Store} {W : XW} {Q : VK} (xt : XTk X W) (h : FnM X.prog X.w X.K X.mg X.base k f fd ps F) (hr : Room k X.A) (hg : X.A.guards = some [])
    (hb : KBinds X.K fd ps ks g gV) (I : Inv X pins σ H s) (rv : L2.Vals vs us) (rz : L2.Vals zs ws) (r : Rel X.K H μ st) (rd : VRs X.K H μ st.length (gV vs zs) ds) (a : After X.K W μ st H (F ds st) Q) :
    wpAny (model X.prog X.w) X.A (call (.ref f) us (ks.zip ws)) (EP X pins σ Q) X.xe s := by
  have r2 := hb.rel rv rz
  have hl : (g us ws).length = ps.length := by rw [← r2.length, VRs.length rd]; exact h.arity _ _ (not_bad a)
  refine wpAny_call (codeAny_mono (h.run X.A X.stack s H ⟨us, ks.zip ws⟩ (g us ws) (gV vs zs) ds μ st W Q hr hg I.env0 (hb.to s us ws I.kIn hl) r2 r rd a) fun r s' hq => ?_)
  have := cr_ep xt I hq
  rcases r with e | fl
  · exact this
  · cases fl <;> first | exact this | exact this.elim
end

/-! ### a call from an empty store -/
section
variable {K : PySem.W.Frag} {W : XW} {H H₀ : Hp} {μ μ₀ : Mu} {st st₀ : Store}
mutual
theorem VR.nr {N N' : Nat} {μ' : Mu} : ∀ (d : Val) (v : V), d.nr = true → VR K H μ N v d → VR K H μ' N' v d
  | .non, _, _, h => by cases h; exact .non
  | .bl b, _, _, h => by cases h; exact .bl b
  | .int i, _, _, h => by cases h; exact .int i
  | .str x, _, _, h => by cases h; exact .str x
  | .tup ds, _, hn, h => by
    cases h with
    | tup s r => exact .tup s (VRs.nr ds _ (by simpa [Val.nr] using hn) r)
  | .ref n, _, hn, h => by simp [Val.nr] at hn
theorem VRs.nr {N N' : Nat} {μ' : Mu} : ∀ (ds : List Val) (vs : List V), Val.nrs ds = true → VRs K H μ N vs ds → VRs K H μ' N' vs ds
  | [], _, _, h => by cases h; exact .nil
  | d :: ds, _, hn, h => by
    simp only [Val.nrs, Bool.and_eq_true] at hn
    cases h with
    | cons h1 h2 => exact .cons (VR.nr d _ hn.1 h1) (VRs.nr ds _ hn.2 h2)
end
theorem VRRs.nr {N : Nat} {H₁ : Hp} {μ' : Mu} {vs : List V} {rs : List RV} {ps : List Addr} (h : VRRs K H₀ H μ N vs rs ps) (hn : rs.all nrR = true) (h1 : ∀ p ∈ ps, H₁ p = none) : VRRs K H₁ H μ' 0 vs rs ps := by
  induction h with
  | nil => exact .nil
  | v a _ ih =>
    simp only [List.all_cons, Bool.and_eq_true] at hn
    exact .v (VR.nr _ _ hn.1 a) (ih hn.2 h1)
  | l a b c d e _ ih =>
    simp only [List.all_cons, Bool.and_eq_true] at hn
    exact .l (h1 _ List.mem_cons_self) b (VRs.nr _ _ hn.1 c) (fun n h => absurd h (Nat.not_lt_zero _)) e (ih hn.2 fun p hp => h1 p (List.mem_cons_of_mem _ hp))
theorem VRRs.apart {N : Nat} {vs : List V} {rs : List RV} {ps : List Addr} (h : VRRs K H₀ H μ N vs rs ps) : ∀ p ∈ ps, ∀ n, n < N → μ n ≠ p := by
  induction h with
  | nil => intro p h; cases h
  | v _ _ ih => exact ih
  | l _ _ _ d _ _ ih =>
    intro p hp
    rcases List.mem_cons.mp hp with rfl | hp
    · exact d
    · exact ih p hp
/-- the addresses of what settles -/
theorem settles_at {μ' : Mu} : ∀ {vs : List V} {rs : List RV} {ps : List Addr} {st : Store} {μ : Mu}, VRRs K H₀ H μ st.length vs rs ps → VRs K H μ' (settles rs st).2.length vs (settles rs st).1 → ∀ n, st.length ≤ n → n < (settles rs st).2.length → μ' n ∈ ps := by
  intro vs rs
  induction rs generalizing vs with
  | nil => intro ps st μ h _ n h1 h2; cases h; exact absurd (Nat.lt_of_lt_of_le h2 h1) (Nat.lt_irrefl _)
  | cons r rs ih =>
    intro ps st μ h z n h1 h2
    cases h with
    | v hv hr =>
      cases z with
      | cons z1 z2 => exact ih hr z2 n h1 h2
    | @l p us ds vs _ ps a b c d e hr =>
      cases z with
      | cons z1 z2 =>
        by_cases hn : n = st.length
        · subst hn
          obtain ⟨_, z3⟩ := z1.i_ref
          rw [← V.ref.inj z3]; exact List.mem_cons_self
        · refine List.mem_cons_of_mem _ (ih (μ := muAdd μ st.length p) (st := st ++ [Obj.lst ds]) ?_ z2 n (by simp; omega) h2)
          have k : Keep K H H μ (muAdd μ st.length p) st.length (st ++ [Obj.lst ds]).length := ⟨fun n hn => by unfold muAdd; rw [if_neg (Nat.ne_of_lt hn)], by simp, fun _ _ h => h⟩
          have np := e
          clear e
          clear ih z1 z2 h1 h2 b c
          induction hr with
          | nil => exact .nil
          | v a' _ ih => exact .v (VR.keep k _ _ a') (ih np)
          | @l q _ _ _ _ ps' a' b' c' d' e' _ ih =>
            refine .l a' b' (VRs.keep k _ _ c') (fun m hm => ?_) e' (ih fun z => np (List.mem_cons_of_mem _ z))
            unfold muAdd
            split
            · exact fun z => np (by rw [z]; exact List.mem_cons_self)
            · simp at hm
              exact d' m (by omega)
theorem pure_ok {F : Fn} {vs : List V} {rs : List RV} {ps : List Addr} {Q : VK} (P : Post K μ₀ st₀ H₀ μ st H) (hv : VRRs K H₀ H μ st.length vs rs ps) (a : After K W μ₀ st₀ H₀ (pureCall F rs st) Q) :
    ∃ ds μ' st' U, Rel K H μ' st' ∧ VRs K H μ' st'.length vs ds ∧ After K U μ' st' H (F ds st') Q ∧ XSub U W := by
  unfold pureCall at a
  split at a
  · rename_i hn
    let H₁ : Hp := fun p => if p ∈ ps then none else H p
    have r1 : Rel K H μ [] := ⟨fun n o e => by simp at e, fun n m h => absurd h (Nat.not_lt_zero _)⟩
    have P1 : Post K μ [] H₁ μ [] H := ⟨fun _ _ => rfl, Nat.le_refl _, r1, fun a o h _ => by
      show H a = some o
      have h' : (if a ∈ ps then none else H a) = some o := h
      split at h'
      · cases h'
      · exact h', fun n _ h => absurd h (Nat.not_lt_zero _)⟩
    have hv1 : VRRs K H₁ H μ ([] : Store).length vs rs ps := hv.nr hn fun p hp => by show (if p ∈ ps then none else H p) = none; rw [if_pos hp]
    obtain ⟨μ', P2, k, z⟩ := settles_ok P1 hv1
    have inps : ∀ n, n < (settles rs []).2.length → μ' n ∈ ps := fun n h => settles_at hv1 z n (Nat.zero_le _) h
    refine ⟨(settles rs []).1, μ', (settles rs []).2, fun c p _ _ H => Val.nrs p = true ∧ ∃ μ st, W c p μ st H, P2.rel, z, ?_, fun c p _ _ _ h => .inr h⟩
    -- what stands behind the call
    have back : ∀ μ2 st2 H2, Post K μ' (settles rs []).2 H μ2 st2 H2 → Post K μ₀ st₀ H₀ μ st H2 := fun μ2 st2 H2 P3 => by
      have fr : ∀ b o, H b = some o → b ∉ ps → H2 b = some o := fun b o h hb => P3.frame b o h fun n hn e => hb (e ▸ inps n hn)
      have kk : Keep K H H2 μ μ st.length st.length := ⟨fun _ _ => rfl, Nat.le_refl _, (P3.keep P2.rel).tup⟩
      refine ⟨P.same, P.len, ⟨fun n o e => ?_, P.rel.inj⟩, fun b o h c => fr b o (P.frame b o h c) fun hb => ?_, P.fresh⟩
      · have hn := (List.getElem?_eq_some_iff.mp e).1
        obtain ⟨u, e1, _⟩ := P.rel.there hn
        exact (P.rel.obj n o e).keep kk ((fr _ u e1 fun hb => hv.apart _ hb n hn rfl).trans e1.symm)
      · rw [hv.free b hb] at h; cases h
    cases hF : F (settles rs []).1 (settles rs []).2 with
    | bad => rw [hF] at a; exact a
    | exc c p st1 =>
      rw [hF] at a
      dsimp only [pureRes] at a
      split at a
      · rename_i hp
        exact fun μ2 H2 P3 => ⟨hp, _, _, a μ H2 (back μ2 st1 H2 P3)⟩
      · exact a.elim
    | ok r st1 =>
      rw [hF] at a
      intro μ2 H2 v P3 h3
      have B := back μ2 st1 H2 P3
      have ap : ∀ b, H b = none → ∀ n, n < st.length → μ n ≠ b := fun b hb n hn e => by
        obtain ⟨u, e1, _⟩ := P.rel.there hn
        rw [e, hb] at e1; cases e1
      cases r with
      | l xs =>
        dsimp only [pureRes] at a
        split at a
        · rename_i hx
          obtain ⟨p, us, rfl, e0, e1, e2, _⟩ := h3
          exact a μ H2 _ B ⟨p, us, rfl, P.free e0, e1, VRs.nr _ _ hx e2, ap p e0⟩
        · exact a.elim
      | v x =>
        have flat : After K W μ₀ st₀ H₀ (if x.nr then .ok (.v x) st else .bad) Q → Q v H2 := fun a => by
          split at a
          · rename_i hn'
            exact a μ H2 _ B (VR.nr _ _ hn' h3)
          · exact a.elim
        cases x with
        | ref n =>
          dsimp only [pureRes, pureVal] at a
          split at a
          · rename_i xs e
            split at a
            · rename_i hx
              obtain ⟨us, e1, e2⟩ := P3.rel.obj n _ e
              obtain ⟨hn, rfl⟩ := (nr_v h3).i_ref
              have hfree : H₀ (μ2 n) = none ∧ ∀ m, m < st.length → μ m ≠ μ2 n := by
                by_cases hl : n < (settles rs []).2.length
                · rw [P3.same n hl]
                  exact ⟨hv.free _ (inps n hl), hv.apart _ (inps n hl)⟩
                · have h0 := P3.fresh n (Nat.le_of_not_lt hl) hn
                  exact ⟨P.free h0, ap _ h0⟩
              exact a μ H2 _ B ⟨_, us, rfl, hfree.1, e1, VRs.nr _ _ hx e2, hfree.2⟩
            · exact a.elim
          · exact a.elim
        | _ => exact flat a
  · exact a.elim
theorem permV_ok : ∀ {vs : List V} {rs : List RV} {ps : List Addr} {N : Nat}, VRRs K H₀ H μ N vs rs ps → VRRs K H₀ H μ N vs (permute [] rs) ps := fun h => h
/-- either call -/
theorem run_ok {m : Bool} {F : Fn} {vs : List V} {rs : List RV} {ps : List Addr} {Q : VK} (P : Post K μ₀ st₀ H₀ μ st H) (hv : VRRs K H₀ H μ st.length vs rs ps) (a : After K W μ₀ st₀ H₀ (runCall m F rs st) Q) :
    ∃ ds μ' st' U, Rel K H μ' st' ∧ VRs K H μ' st'.length vs ds ∧ After K U μ' st' H (F ds st') Q ∧ XSub U W := by
  cases m with
  | true => exact pure_ok P hv a
  | false =>
    simp only [runCall, Bool.false_eq_true, if_false] at a
    obtain ⟨μ', P', k, z⟩ := settles_ok P hv
    exact ⟨_, μ', _, W, P'.rel, z, a.step P', .refl⟩
end
end Mi
end
section
set_option linter.all false
set_option autoImplicit false
set_option maxRecDepth 100000
/-! MiEnum: enumerate of a tuple. -/
namespace Mi
open PySem PySem.Spec L2
open PyProof.Rows hiding RelV

abbrev tupIt (l : Addr) : PySem.Obj := { cls := .type "tuple_iterator", data := .fields #[.ref l, .int 0 0] }
abbrev enumObj (n : Nat) : PySem.Obj := { cls := .type "enumerate", data := .fields #[.none, .bool false, .ref n, rawInt 0, .none, .none] }
open AutoSeq1 (wpAny_loadPart') in
theorem enum_new_tup (l : Addr) (xs : Array Value) (n : Nat) (dd : Option Addr) (sl : Array (Option Value)) :
    Meets (Builtin.«enumerate.__new__» ⟨[.type "enumerate", .ref l], []⟩) (fun _ R s =>
      s.heap.get? l = some { cls := .type "tuple", dict := dd, data := .seq xs n, slots := sl } ∧
      R (.ok (.ret (.ref (s.heap.push (tupIt l)).objs.size))) { s with heap := (s.heap.push (tupIt l)).push (enumObj s.heap.objs.size) }) := by
  refine .of_wp fun prog w A R s0 hy => ?_
  obtain ⟨hp, gg, dr, tok, os⟩ := s0
  obtain ⟨hget, hres⟩ := hy
  have hsub := sub_enumerate
  have hT : Heap.IsTuple (Shared.heap ⟨hp, gg, dr, tok, os⟩) l xs := ⟨_, hget, rfl, n, rfl⟩
  wp_walk using wpAny_loadPart' hget
  refine wpAny_stack_any fun stk => wpAny_pure ?_
  split
  · rename_i cc _ _ _ _ _
    cases (cc == Value.type "enumerate")
    all_goals
      wp_walk using wpAny_loadPart' hget, wpAny_pyIter_tuple hT
      exact ⟨_, rfl, hres⟩
  · wp_walk using wpAny_loadPart' hget, wpAny_pyIter_tuple hT
    exact ⟨_, rfl, hres⟩
section
variable {prog : Program} {w : World} {A : Around} {E : Value → Shared → Prop} {s : Shared}
theorem call_enum_tup {l : Addr} {xs : Array Value} {Q : Value → Shared → Prop} (hT : s.heap.IsTuple l xs)
    (q : ∀ h', IsEnum h' (s.heap.objs.size + 1) s.heap.objs.size 0 .none → h'.IsTupleIter s.heap.objs.size l 0 → h'.objs.size = s.heap.objs.size + 2 →
      (∀ b o, s.heap.get? b = some o → h'.get? b = some o) → Q (.ref (s.heap.objs.size + 1)) { s with heap := h' }) : wpAny (model prog w) A (call (.type "enumerate") [.ref l]) Q E s := by
  obtain ⟨⟨cl, dt, da, sl⟩, h1, h2, n, h3⟩ := hT
  cases h2; cases h3
  refine callType_new F.called_enumerate (by decide) (F.typeCall_enumerate_1 _) (F.newCall_enumerate_1 _) (fun ob => F.args_object_init_2 ob _) F.entry_enumerate_new (enum_new_tup l xs n dt sl) ⟨h1, ?_⟩
  have z1 : (s.heap.push (tupIt l)).objs.size = s.heap.objs.size + 1 := Heap.size_push ..
  rw [z1]
  have he : IsEnum ((s.heap.push (tupIt l)).push (enumObj s.heap.objs.size)) (s.heap.objs.size + 1) s.heap.objs.size 0 .none := by
    have e1 := Heap.get?_push_size (s.heap.push (tupIt l)) (o := enumObj s.heap.objs.size) rfl
    rw [z1] at e1
    exact e1
  exact ⟨⟨_, he, rfl⟩, q _ he ⟨_, Heap.get?_push_of_some _ (Heap.get?_push_size _ rfl), rfl, rfl⟩ (by rw [Heap.size_push, z1]) fun b o x => Heap.get?_push_of_some _ (Heap.get?_push_of_some _ x)⟩
end
/-- the tuple at a, each item in a new pair -/
def ItT (K : PySem.W.Frag) (a : Addr) : It where
  go i H := ∃ (xs : List V) (x : V), SqT K H a xs ∧ xs[i]? = some x
  yld i H v H' := ∃ T x, v = .ref T ∧ H T = none ∧ H' = L2.upd H T (.tup [.int (i : Nat), x]) ∧ ∀ xs, SqT K H a xs → xs[i]? = some x
  stop i H := ∃ xs : List V, SqT K H a xs ∧ xs.length ≤ i
theorem turn_enumT {P : Program} {w : World} {K : PySem.W.Frag} {elts : List Expr} {kk : Nat} {tpos : Pos} (a e it : Addr) (hai : a ≠ it) (hae : a ≠ e) :
    Turn P w K (.Tuple elts kk tpos) (ItT K a) [e, it] e (fun i h => (∃ old, IsEnum h e it ((i : Nat) : Int) old) ∧ h.IsTupleIter it a i ∧ e ≠ it) where
  mem := List.mem_cons_self
  obj := fun i h st b hb => by
    obtain ⟨⟨old, he⟩, ⟨o, ho, _, hd⟩, _⟩ := st
    have hb' : b = e ∨ b = it := by simpa using hb
    rcases hb' with rfl | rfl
    · exact ⟨_, he, fun v q => nomatch q⟩
    · exact ⟨o, ho, fun v q => by rw [hd] at q; cases q⟩
  keep := fun i h h' st k => by
    obtain ⟨⟨old, he⟩, hi, hne⟩ := st
    exact ⟨⟨old, k e List.mem_cons_self _ he⟩, hi.at fun o q => k it (by simp) o q, hne⟩
  item := by
    intro X hP hw hK hc i pins s σ H Ex I hf st hg
    cases hP; cases hw; cases hK
    obtain ⟨⟨old, he⟩, hit, hne⟩ := st
    obtain ⟨xs, x, hq, hx⟩ := hg
    obtain ⟨its, rv, p, _⟩ := I.tuple hq
    obtain ⟨u, hu, ru⟩ := rv.get hx
    have le : e < s.heap.objs.size := Heap.lt_size he
    have li : it < s.heap.objs.size := by obtain ⟨_, q, _⟩ := hit; exact Heap.lt_size q
    have D := Draws.tuple (prog := X.prog) (w := X.w) (A := X.A.in1) (by first | exact I.ok.hd hc | (show X.A.handled = none; exact I.ok.hd hc)) it a hai its.toArray
    have hlt : i < its.toArray.size := by
      have := (List.getElem?_eq_some_iff.mp hu).1
      simpa using this
    refine wpAny_pyNext_enum_itemD D he ⟨hit, p⟩ hlt hne (by simp [hne, Ne.symm hae]) fun z h' tk hz ho st' hT hsz hk => ?_
    have ez : z = u := by
      have : its[i]? = some z := by simpa using hz
      rw [hu] at this
      exact (Option.some.inj this).symm
    subst ez
    refine ⟨_, rfl, wpAny_letOwnedTupleGo_enum (s := { s with heap := h', toks := tk + 1 }) ho fun h2 he2 sb => ?_⟩
    have hT2 : h2.get? s.heap.objs.size = some { cls := .type "tuple", data := .seq #[.int i tk, z] } := (sb.2 _ (Nat.ne_of_gt le)).trans hT
    have nw : ObjOk X.prog X.w (L2.upd H s.heap.objs.size (.tup [.int (i : Nat), x])) h2 s.heap.objs.size (.tup [.int (i : Nat), x]) :=
      ⟨(by decide : 2 ≤ sizeLine), [.int i tk, z], .cons ⟨_, rfl⟩ (.cons ru .nil), ⟨_, hT2, rfl, _, rfl⟩⟩
    have J := I.turnedNew (t' := tk + 1) (ch := [e, it]) (fun b ob hb q => (sb.2 b fun z => hb (by simp [z])).trans (hk b ob (fun z => hb (by simp [z])) (fun z => hb (by simp [z])) q)) hf (Nat.le_refl _) nw
    refine ⟨.ref s.heap.objs.size, _, J, rfl, ⟨_, x, rfl, I.hok.fresh (Nat.le_refl _), rfl, fun ys hy => by rw [I.tuple_inj hy hq]; exact hx⟩, ⟨⟨z, ?_⟩, st'.1.at fun o q => (sb.2 it (Ne.symm hne)).trans q, hne⟩, fun b hb => ?_⟩
    · rw [show ((i + 1 : Nat) : Int) = (i : Int) + 1 by omega]; exact he2
    · have hb' : b = e ∨ b = it := by simpa using hb
      have lb : b < s.heap.objs.size := by rcases hb' with rfl | rfl <;> assumption
      rw [upd_ne (Nat.ne_of_lt lb)]
      exact (hf b hb).1
  done := by
    intro X hP hw hK hc i pins s σ H Ex I hf st hg
    cases hP; cases hw; cases hK
    obtain ⟨⟨old, he⟩, hit, hne⟩ := st
    obtain ⟨xs, hq, hx⟩ := hg
    obtain ⟨its, rv, p, _⟩ := I.tuple hq
    obtain ⟨f0, f1, f2, f3, f4, f5⟩ := hf it (by simp)
    have hl := rv.length
    have hh : X.A.in1.handled = none := by first | exact I.ok.hd hc | (show X.A.handled = none; exact I.ok.hd hc)
    have hT : s.TypeIs (.ref e) "enumerate" := ⟨_, he, rfl⟩
    unfold pyNext
    refine wpAny_bind (wpAny_attempt (wpAny_callSpecial?_slot (name := Str.ofString "__next__") hT F.slot_enumerate_next (wpAny_call_entry F.slot_enumerate_next hT F.entry_enumerate_next ?_ (F.args_enumerate_next_1 _))))
    show wpAny _ _ (field (.ref e) 2 >>= _) _ _ _
    refine wpAny_bind (wpAny_field he rfl (x := .ref it) rfl (wpAny_bind ?_))
    refine wpAny_nextOf_tuple_end hh hit p (by simp; omega) fun h2 y hb hy => ?_
    obtain ⟨o, ho, hcl⟩ := hy
    refine wpAny_bind (wpAny_isInstance (T := "StopIteration") (b := true) ⟨o, ho, hcl⟩ isSubtype_stop ?_)
    exact wpAny_pure ⟨rfl, I.turned (t' := s.toks) (fun b ob hne' q => hb b ob hne' q) f0 f1 f3 f4 f5⟩
  self := fun A i s Q E st h => by
    obtain ⟨⟨_, he⟩, _⟩ := st
    exact wpAny_pyIter_enum he h
end Mi
end
section
set_option linter.all false
set_option autoImplicit false
set_option maxRecDepth 10000
/-! MiWalk: what loops and comprehensions walk. -/
namespace Mi
open PySem PySem.Spec L2
open PyProof.Rows hiding RelV

/-- J yields xs, from the state (μ₁, st₁, H₁) on, as long as the lists of w stand -/
def JOk (K : PySem.W.Frag) (μ₁ : Mu) (st₁ : Store) (H₁ : Hp) (J : It) (xs : List Val) (w : List (Nat × List Val)) : Prop :=
  ∀ μ st H, Post K μ₁ st₁ H₁ μ st H → stands w st = true →
    (∀ i, i < xs.length → J.go i H ∧ ∀ x H', J.yld i H x H' → ∃ d, xs[i]? = some d ∧ Post K μ st H μ st H' ∧ VR K H' μ st.length x d) ∧ ∀ i, xs.length ≤ i → J.stop i H
def AfterW (K : PySem.W.Frag) (W : XW) (μ : Mu) (st : Store) (H : Hp) (c : Res (List Val × List (Nat × List Val))) (R : It → Hp → Prop) : Prop := match c with
  | .ok p st' => ∀ μ' H' J, Post K μ st H μ' st' H' → JOk K μ' st' H' J p.1 p.2 → R J H'
  | .exc c p st' => ∀ μ' H', Post K μ st H μ' st' H' → W c p μ' st' H'
  | .bad => False
def walkM (k : IK) (fa fb : Comp RV) : Comp (List Val × List (Nat × List Val)) := fun ρ st => (fa ρ st).bind fun r st1 => (fb ρ st1).bind fun q st2 => lift (walk k r q st2) st2
def tI (K : PySem.W.Frag) (W : XW) (k : IK) (fa fb : Comp RV) : TI := fun σ H R => ∃ μ st ρ, Rel K H μ st ∧ ER K H μ st.length σ ρ ∧ AfterW K W μ st H (walkM k fa fb ρ st) R

section
variable {K : PySem.W.Frag} {H H₀ : Hp} {μ μ₀ : Mu} {st st₀ : Store} {σ : L2.St}
/-- a list that is walked stands -/
theorem list_stays {H₀ : Hp} (r : Rel K H μ st) {x : RV} {v : V} {ds : List Val} (hv : VRR K H₀ H μ st.length v x) (e : seqR st x = some (true, ds)) {a : Addr} (ha : v = .ref a) :
    ∀ μ' st' H', Post K μ st H μ' st' H' → stands (watch x ds) st' = true → ∃ vs, SqL K H' a vs ∧ VRs K H' μ' st'.length vs ds := fun μ' st' H' P hw => by
  subst ha
  cases x with
  | l xs =>
    simp [seqR] at e
    subst e
    have hv' := VRR.step P r hv
    obtain ⟨p, vs, e0, _, e1, e2, _⟩ := hv'
    cases e0
    exact ⟨vs, .of e1, e2⟩
  | v d =>
    cases d with
    | ref n =>
      obtain ⟨hn, e1⟩ := (nr_v hv).i_ref
      have e2 := V.ref.inj e1
      subst e2
      simp only [watch, stands, List.all_cons, List.all_nil, Bool.and_true, beq_iff_eq] at hw
      rw [← P.same n hn]
      exact lstAt_ok P.rel hw
    | tup xs => simp [seqR, seqV] at e
    | _ => simp [seqR, seqV] at e
theorem tup_stays {H₀ : Hp} (r : Rel K H μ st) {x : RV} {v : V} {ds : List Val} (hv : VRR K H₀ H μ st.length v x) (e : seqR st x = some (false, ds)) {a : Addr} (ha : v = .ref a) :
    ∃ vs, ∀ μ' st' H', Post K μ st H μ' st' H' → SqT K H' a vs ∧ VRs K H' μ' st'.length vs ds := by
  obtain ⟨b, vs, _, e1, e2, e3⟩ := seqR_tup hv e
  have := V.ref.inj (ha.symm.trans e1)
  subst this
  exact ⟨vs, fun μ' st' H' P => ⟨(P.keep r).tup _ _ e2, VRs.keep (P.keep r) _ _ e3⟩⟩
theorem stands_app {w1 w2 : List (Nat × List Val)} (h : stands (w1 ++ w2) st = true) : stands w1 st = true ∧ stands w2 st = true := by
  simpa [stands] using h
/-- a new tuple of a turn -/
theorem pair_new {n m : Val} {x y : V} (r : Rel K H μ st) (h1 : VR K H μ st.length x n) (h2 : VR K H μ st.length y m) {t : Addr} (ht : H t = none) :
    Post K μ st H μ st (L2.upd H t (.tup [x, y])) ∧ VR K (L2.upd H t (.tup [x, y])) μ st.length (.ref t) (.tup [n, m]) :=
  ⟨(Post.refl r).upd ht, .tup (.of upd_same) (.cons (VR.keep (Keep.upd ht) _ _ h1) (.cons (VR.keep (Keep.upd ht) _ _ h2) .nil))⟩
end
section
variable {K : PySem.W.Frag} {H H₀ : Hp} {μ μ₀ : Mu} {st st₀ : Store}
theorem jok_list {a : Addr} {ds : List Val} {w : List (Nat × List Val)} (h : ∀ μ' st' H', Post K μ st H μ' st' H' → stands w st' = true → ∃ vs, SqL K H' a vs ∧ VRs K H' μ' st'.length vs ds) : JOk K μ st H (Itl K a) ds w := fun μ' st' H' P hw => by
  obtain ⟨vs, h1, h2⟩ := h μ' st' H' P hw
  have hl := VRs.length h2
  refine ⟨fun i hi => ⟨⟨vs, _, h1, List.getElem?_eq_getElem (by omega)⟩, fun x H2 hy => ?_⟩, fun i hi => ⟨vs, h1, by omega⟩⟩
  obtain ⟨rfl, f⟩ := hy
  obtain ⟨v, e1, e2⟩ := VRs.get h2 (List.getElem?_eq_getElem hi)
  have := f vs h1
  rw [e1] at this
  exact ⟨_, List.getElem?_eq_getElem hi, .refl P.rel, Option.some.inj this ▸ e2⟩
theorem jok_tup {a : Addr} {ds : List Val} {vs : List V} (h : ∀ μ' st' H', Post K μ st H μ' st' H' → SqT K H' a vs ∧ VRs K H' μ' st'.length vs ds) : JOk K μ st H (Itt K a) ds [] := fun μ' st' H' P hw => by
  obtain ⟨h1, h2⟩ := h μ' st' H' P
  have hl := VRs.length h2
  refine ⟨fun i hi => ⟨⟨vs, _, h1, List.getElem?_eq_getElem (by omega)⟩, fun x H2 hy => ?_⟩, fun i hi => ⟨vs, h1, by omega⟩⟩
  obtain ⟨rfl, f⟩ := hy
  obtain ⟨v, e1, e2⟩ := VRs.get h2 (List.getElem?_eq_getElem hi)
  have := f vs h1
  rw [e1] at this
  exact ⟨_, List.getElem?_eq_getElem hi, .refl P.rel, Option.some.inj this ▸ e2⟩
theorem rng_len (lo : Int) (n : Nat) : (rng lo n).length = n := by simp [rng]
theorem rng_get {lo : Int} {n i : Nat} (h : i < n) : (rng lo n)[i]? = some (.int (lo + i)) := by simp [rng, h]
theorem jok_range {lo : Int} {n : Nat} : JOk K μ st H (Itr lo n) (rng lo n) [] := fun μ' st' H' P hw => by
  refine ⟨fun i hi => ⟨by rwa [rng_len] at hi, fun x H2 hy => ?_⟩, fun i hi => by rwa [rng_len] at hi⟩
  rw [rng_len] at hi
  obtain ⟨rfl, rfl⟩ := hy
  exact ⟨_, rng_get hi, .refl P.rel, .int _⟩
theorem zipE_get {xs : List Val} {i : Nat} {d : Val} (h : xs[i]? = some d) : (zipE xs)[i]? = some (.tup [.int i, d]) := by
  have hi := (List.getElem?_eq_some_iff.mp h)
  simp [zipE, List.getElem?_map, List.getElem?_zipIdx, h]
theorem zipE_len (xs : List Val) : (zipE xs).length = xs.length := by simp [zipE]
theorem jok_enumL {a : Addr} {ds : List Val} {w : List (Nat × List Val)} (h : ∀ μ' st' H', Post K μ st H μ' st' H' → stands w st' = true → ∃ vs, SqL K H' a vs ∧ VRs K H' μ' st'.length vs ds) : JOk K μ st H (Ite K a) (zipE ds) w := fun μ' st' H' P hw => by
  obtain ⟨vs, h1, h2⟩ := h μ' st' H' P hw
  have hl := VRs.length h2
  refine ⟨fun i hi => ?_, fun i hi => ⟨vs, h1, by rw [zipE_len] at hi; omega⟩⟩
  rw [zipE_len] at hi
  refine ⟨⟨vs, _, h1, List.getElem?_eq_getElem (by omega)⟩, fun x H2 hy => ?_⟩
  obtain ⟨t, y, rfl, ht, rfl, f⟩ := hy
  obtain ⟨v, e1, e2⟩ := VRs.get h2 (List.getElem?_eq_getElem hi)
  have := f vs h1
  rw [e1] at this
  cases this
  obtain ⟨P1, z⟩ := pair_new P.rel (.int (i : Nat)) e2 ht
  exact ⟨_, zipE_get (List.getElem?_eq_getElem hi), P1, z⟩
theorem jok_enumT {a : Addr} {ds : List Val} {vs : List V} (h : ∀ μ' st' H', Post K μ st H μ' st' H' → SqT K H' a vs ∧ VRs K H' μ' st'.length vs ds) : JOk K μ st H (ItT K a) (zipE ds) [] := fun μ' st' H' P hw => by
  obtain ⟨h1, h2⟩ := h μ' st' H' P
  have hl := VRs.length h2
  refine ⟨fun i hi => ?_, fun i hi => ⟨vs, h1, by rw [zipE_len] at hi; omega⟩⟩
  rw [zipE_len] at hi
  refine ⟨⟨vs, _, h1, List.getElem?_eq_getElem (by omega)⟩, fun x H2 hy => ?_⟩
  obtain ⟨t, y, rfl, ht, rfl, f⟩ := hy
  obtain ⟨v, e1, e2⟩ := VRs.get h2 (List.getElem?_eq_getElem hi)
  have := f vs h1
  rw [e1] at this
  cases this
  obtain ⟨P1, z⟩ := pair_new P.rel (.int (i : Nat)) e2 ht
  exact ⟨_, zipE_get (List.getElem?_eq_getElem hi), P1, z⟩
def zipV (xs ys : List Val) : List Val := (xs.zip ys).map fun p => .tup [p.1, p.2]
theorem zipV_len (xs ys : List Val) : (zipV xs ys).length = min xs.length ys.length := by simp [zipV]
theorem zipV_get {xs ys : List Val} {i : Nat} {d e : Val} (h : xs[i]? = some d) (g : ys[i]? = some e) : (zipV xs ys)[i]? = some (.tup [d, e]) := by
  have : (xs.zip ys)[i]? = some (d, e) := List.getElem?_zip_eq_some.mpr ⟨h, g⟩
  simp [zipV, List.getElem?_map, this]
theorem jok_zipL {a b : Addr} {ds es : List Val} {w : List (Nat × List Val)} (h : ∀ μ' st' H', Post K μ st H μ' st' H' → stands w st' = true → (∃ vs, SqL K H' a vs ∧ VRs K H' μ' st'.length vs ds) ∧ ∃ us, SqL K H' b us ∧ VRs K H' μ' st'.length us es) :
    JOk K μ st H (Itz K a b) (zipV ds es) w := fun μ' st' H' P hw => by
  obtain ⟨⟨vs, h1, h2⟩, us, g1, g2⟩ := h μ' st' H' P hw
  have hl := VRs.length h2
  have gl := VRs.length g2
  refine ⟨fun i hi => ?_, fun i hi => ⟨vs, us, h1, g1, by rw [zipV_len] at hi; omega⟩⟩
  rw [zipV_len] at hi
  refine ⟨⟨vs, us, _, _, h1, g1, List.getElem?_eq_getElem (by omega), List.getElem?_eq_getElem (by omega)⟩, fun x H2 hy => ?_⟩
  obtain ⟨t, y, z, rfl, ht, rfl, f, f'⟩ := hy
  obtain ⟨v, e1, e2⟩ := VRs.get h2 (List.getElem?_eq_getElem (i := i) (by omega))
  obtain ⟨u, e1', e2'⟩ := VRs.get g2 (List.getElem?_eq_getElem (i := i) (by omega))
  have q1 := f vs h1
  have q2 := f' us g1
  rw [e1] at q1; rw [e1'] at q2
  cases q1; cases q2
  obtain ⟨P1, z⟩ := pair_new P.rel e2 e2' ht
  exact ⟨_, zipV_get (List.getElem?_eq_getElem (by omega)) (List.getElem?_eq_getElem (by omega)), P1, z⟩
theorem jok_zipT {a b : Addr} {ds es : List Val} {vs us : List V} (h : ∀ μ' st' H', Post K μ st H μ' st' H' → SqT K H' a vs ∧ VRs K H' μ' st'.length vs ds) (g : ∀ μ' st' H', Post K μ st H μ' st' H' → SqT K H' b us ∧ VRs K H' μ' st'.length us es) :
    JOk K μ st H (RZ.ItzT K a b) (zipV ds es) [] := fun μ' st' H' P hw => by
  obtain ⟨h1, h2⟩ := h μ' st' H' P
  obtain ⟨g1, g2⟩ := g μ' st' H' P
  have hl := VRs.length h2
  have gl := VRs.length g2
  refine ⟨fun i hi => ?_, fun i hi => ⟨vs, us, h1, g1, by rw [zipV_len] at hi; omega⟩⟩
  rw [zipV_len] at hi
  refine ⟨⟨vs, us, _, _, h1, g1, List.getElem?_eq_getElem (by omega), List.getElem?_eq_getElem (by omega)⟩, fun x H2 hy => ?_⟩
  obtain ⟨t, y, z, rfl, ht, rfl, f, f'⟩ := hy
  obtain ⟨v, e1, e2⟩ := VRs.get h2 (List.getElem?_eq_getElem (i := i) (by omega))
  obtain ⟨u, e1', e2'⟩ := VRs.get g2 (List.getElem?_eq_getElem (i := i) (by omega))
  have q1 := f vs h1
  have q2 := f' us g1
  rw [e1] at q1; rw [e1'] at q2
  cases q1; cases q2
  obtain ⟨P1, z⟩ := pair_new P.rel e2 e2' ht
  exact ⟨_, zipV_get (List.getElem?_eq_getElem (by omega)) (List.getElem?_eq_getElem (by omega)), P1, z⟩
theorem stands_nil : stands [] st = true := rfl
end

/-! ### the rules -/
section
variable {X : Cx} {W : XW} {tg : Expr}
theorem it_list {pins : List (Addr × PySem.Obj)} {σ : L2.St} {H1 : Hp} {s1 : Shared} {a : Addr} {xs : List V} {R : It → Hp → Prop} (I1 : Inv X pins σ H1 s1) (hq : SqL X.K H1 a xs) (q : R (Itl X.K a) H1) :
    wpAny (model X.prog X.w) X.A (pyIter (.ref a)) (PIE X pins σ tg R) X.xe s1 := by
  obtain ⟨its, rv, p, _⟩ := I1.list hq
  refine wpAny_pyIter_list p.isList ⟨s1.heap.objs.size, [s1.heap.objs.size], _, _, H1, rfl, I1.kept (t' := s1.toks) fun b o e => Heap.get?_push_of_some _ e, turn_list a _, ⟨_, Heap.get?_push_size _ rfl, rfl, rfl⟩, fun b hb => ?_, q⟩
  rw [List.mem_singleton.mp hb]
  exact I1.fpOk (Nat.le_refl _) (I1.hok.fresh (Nat.le_refl _))
theorem it_tup {pins : List (Addr × PySem.Obj)} {σ : L2.St} {H1 : Hp} {s1 : Shared} {a : Addr} {xs : List V} {R : It → Hp → Prop} (I1 : Inv X pins σ H1 s1) (hq : SqT X.K H1 a xs) (q : R (Itt X.K a) H1) :
    wpAny (model X.prog X.w) X.A (pyIter (.ref a)) (PIE X pins σ tg R) X.xe s1 := by
  obtain ⟨its, rv, p, _⟩ := I1.tuple hq
  refine wpAny_pyIter_tuple (show s1.heap.IsTuple a its.toArray from p) ⟨s1.heap.objs.size, [s1.heap.objs.size], _, _, H1, rfl, I1.kept (t' := s1.toks) fun b o e => Heap.get?_push_of_some _ e, turn_tuple a _, ⟨_, Heap.get?_push_size _ rfl, rfl, rfl⟩, fun b hb => ?_, q⟩
  rw [List.mem_singleton.mp hb]
  exact I1.fpOk (Nat.le_refl _) (I1.hok.fresh (Nat.le_refl _))
theorem afterW_1 {K : PySem.W.Frag} {W : XW} {k : IK} {f : Comp RV} {μ : Mu} {st : Store} {H : Hp} {ρ : Env} {R : It → Hp → Prop} (a : AfterW K W μ st H (walkM k f (fun _ st => .ok (.v .non) st) ρ st) R) :
    After K W μ st H (f ρ st) fun v H1 => ∃ μ1 st1 r p, Post K μ st H μ1 st1 H1 ∧ VRR K H H1 μ1 st1.length v r ∧ walk k r (.v .non) st1 = some p ∧ ∀ J, JOk K μ1 st1 H1 J p.1 p.2 → R J H1 := by
  unfold walkM at a
  cases hf : f ρ st with
  | bad => rw [hf] at a; exact a
  | exc c p st' => rw [hf] at a; exact a
  | ok r st1 =>
    rw [hf] at a
    intro μ1 H1 v P h
    simp only [Res.bind, lift] at a
    cases e : walk k r (.v .non) st1 with
    | none => rw [e] at a; exact a.elim
    | some p => rw [e] at a; exact ⟨μ1, st1, r, p, P, h, e, fun J hJ => a μ1 H1 J P hJ⟩
theorem pi_seq {e : Expr} {f : Comp RV} (he : PE X e (tE X.K W f)) : PI X tg e (tI X.K W .seq f fun _ st => .ok (.v .non) st) := by
  refine ⟨fun pins s σ H R I h => ?_⟩
  obtain ⟨μ, st, ρ, r, er, a⟩ := h
  refine thn (he.run pins s σ H _ I ⟨μ, st, ρ, r, er, afterW_1 a⟩) fun v s1 ⟨x, H1, I1, rx, μ1, st1, r1, p, P, hv, e, q⟩ => ?_
  simp only [walk, Option.map_eq_some_iff] at e
  obtain ⟨⟨k, ds⟩, e1, rfl⟩ := e
  cases k with
  | true =>
    obtain ⟨a, vs, rfl, hs, _⟩ := seqR_list P.rel hv e1
    cases rx
    exact it_list I1 hs (q _ (jok_list (list_stays P.rel hv e1 rfl)))
  | false =>
    obtain ⟨a, vs, e0, rfl, hs, _⟩ := seqR_tup hv e1
    cases rx
    obtain ⟨us, hu⟩ := tup_stays P.rel hv e1 rfl
    subst e0
    exact it_tup I1 hs (q _ (jok_tup hu))
theorem pi_rng1 {a : Expr} {f : Comp RV} {p pos : Pos} (hg : Gl X "range") (hm : X.mg "range" = none) (ha : PE X a (tE X.K W f)) (hs : starEach [a] X.env = [(false, eval a X.env)]) :
    PI X tg (.Call (.Name "range" p) [a] [] pos) (tI X.K W .range1 f fun _ st => .ok (.v .non) st) := by
  refine ⟨fun pins s σ H R I h => (pi_range1 hg hm (pa_cons ha pa_nil hs) hs).run pins s σ H R I ?_⟩
  obtain ⟨μ, st, ρ, r, er, a⟩ := h
  refine ⟨μ, st, ρ, r, er, ?_⟩
  have a' := afterW_1 a
  cases hf : f ρ st with
  | bad => rw [hf] at a'; exact a'
  | exc c p st' => rw [hf] at a'; exact a'
  | ok r1 st1 =>
    rw [hf] at a'
    intro μ1 H1 v P h
    obtain ⟨μ2, st2, r2, p, P2, hv, e, q⟩ := a' μ1 H1 v P h
    simp only [walk] at e
    split at e
    · rename_i j
      split at e
      · rename_i hj
        cases e
        have ev := (nr_v hv).i_int
        subst ev
        exact ⟨j, rfl, hj.1, hj.2, q _ jok_range⟩
      · cases e
    · cases e
/-- two sources -/
theorem afterW_2 {K : PySem.W.Frag} {W : XW} {k : IK} {f g : Comp RV} {σ : L2.St} {H : Hp} {R : It → Hp → Prop} (h : tI K W k f g σ H R) :
    tCons (tE K W f) (tCons (tE K W g) tNil) σ H fun vs H1 => ∃ v u μ1 st1 r q p, vs = [v, u] ∧ Rel K H1 μ1 st1 ∧ VRR K H H1 μ1 st1.length v r ∧ VRR K H H1 μ1 st1.length u q ∧ walk k r q st1 = some p ∧ ∀ J, JOk K μ1 st1 H1 J p.1 p.2 → R J H1 := by
  obtain ⟨μ, st, ρ, r, er, a⟩ := h
  unfold walkM at a
  refine ⟨μ, st, ρ, r, er, ?_⟩
  cases hf : f ρ st with
  | bad => rw [hf] at a; exact a
  | exc c p st' => rw [hf] at a; exact a
  | ok r1 st1 =>
    rw [hf] at a
    intro μ1 H1 v P1 h1
    refine ⟨μ1, st1, ρ, P1.rel, er.step P1 r, ?_⟩
    simp only [Res.bind] at a
    cases hg : g ρ st1 with
    | bad => rw [hg] at a; exact a
    | exc c p st' => rw [hg] at a; exact fun μ' H' P' => a μ' H' (P1.trans P')
    | ok r2 st2 =>
      rw [hg] at a
      intro μ2 H2 u P2 h2
      simp only [Res.bind, lift] at a
      cases e : walk k r1 r2 st2 with
      | none => rw [e] at a; exact a.elim
      | some p =>
        rw [e] at a
        exact ⟨v, u, μ2, st2, r1, r2, p, rfl, P2.rel, h1.step P2 P1.rel, h2.older fun _ z => P1.free z, e, fun J hJ => a μ2 H2 J (P1.trans P2) hJ⟩
theorem tE_imp {K : PySem.W.Frag} {W : XW} {f : Comp RV} {σ : L2.St} {H : Hp} {Q Q' : VK} (h : tE K W f σ H Q) (i : ∀ v H, Q v H → Q' v H) : tE K W f σ H Q' := by
  obtain ⟨μ, st, ρ, r, er, a⟩ := h
  refine ⟨μ, st, ρ, r, er, ?_⟩
  cases hf : f ρ st with
  | bad => rw [hf] at a; exact a
  | exc c p st' => rw [hf] at a; exact a
  | ok r1 st1 => rw [hf] at a; exact fun μ' H' v P h => i _ _ (a μ' H' v P h)
theorem cons2_imp {K : PySem.W.Frag} {W : XW} {f g : Comp RV} {σ : L2.St} {H : Hp} {Q Q' : List V → Hp → Prop} (h : tCons (tE K W f) (tCons (tE K W g) tNil) σ H Q) (i : ∀ v H, Q v H → Q' v H) : tCons (tE K W f) (tCons (tE K W g) tNil) σ H Q' :=
  tE_imp h fun v H1 h1 => tE_imp h1 fun u H2 h2 => i _ _ h2
theorem pi_rng2 {a b : Expr} {f g : Comp RV} {p pos : Pos} (hg : Gl X "range") (hm : X.mg "range" = none) (ha : PE X a (tE X.K W f)) (hb : PE X b (tE X.K W g)) (hs : starEach [a, b] X.env = [(false, eval a X.env), (false, eval b X.env)]) (hs2 : starEach [b] X.env = [(false, eval b X.env)]) :
    PI X tg (.Call (.Name "range" p) [a, b] [] pos) (tI X.K W .range2 f g) := by
  refine ⟨fun pins s σ H R I h => (pi_range2 hg hm (pa_cons ha (pa_cons hb pa_nil hs2) (by rw [hs, hs2])) hs hs2).run pins s σ H R I ?_⟩
  have := afterW_2 h
  unfold iRng2
  refine cons2_imp this fun vs H1 ⟨v, u, μ1, st1, r, q, p, e0, rl, h1, h2, e, c⟩ => ?_
  simp only [walk] at e
  split at e
  · rename_i i j
    split at e
    · rename_i hj
      cases e
      have ev := (nr_v h1).i_int
      have eu := (nr_v h2).i_int
      subst ev; subst eu
      exact ⟨i, j, e0, hj, c _ jok_range⟩
    · cases e
  · cases e
theorem afterW_1c {K : PySem.W.Frag} {W : XW} {k : IK} {f : Comp RV} {σ : L2.St} {H : Hp} {R : It → Hp → Prop} (h : tI K W k f (fun _ st => .ok (.v .non) st) σ H R) :
    tCons (tE K W f) tNil σ H fun vs H1 => ∃ v H μ st μ1 st1 r p, vs = [v] ∧ Post K μ st H μ1 st1 H1 ∧ VRR K H H1 μ1 st1.length v r ∧ walk k r (.v .non) st1 = some p ∧ ∀ J, JOk K μ1 st1 H1 J p.1 p.2 → R J H1 := by
  obtain ⟨μ, st, ρ, r, er, a⟩ := h
  exact tE_imp ⟨μ, st, ρ, r, er, afterW_1 a⟩ fun v H1 ⟨μ1, st1, r, p, P, q⟩ => ⟨v, H, μ, st, μ1, st1, r, p, rfl, P, q⟩
/-- enumerate of a list or a tuple -/
theorem pi_enm {e : Expr} {f : Comp RV} {p pos tpos : Pos} {elts : List Expr} {kk : Nat} (hg : Gl X "enumerate") (hm : X.mg "enumerate" = none) (ha : PE X e (tE X.K W f)) (hs : starEach [e] X.env = [(false, eval e X.env)]) :
    PI X (.Tuple elts kk tpos) (.Call (.Name "enumerate" p) [e] [] pos) (tI X.K W .enum f fun _ st => .ok (.v .non) st) := by
  refine ⟨fun pins s σ H R I h => ?_⟩
  refine Call_ (ld_blt I hg hm boot_enumerate (PyProof.Rows.callWith_type1 (thn ((pa_cons ha pa_nil hs).run pos pins s σ H _ I (afterW_1c h)) fun us s1 ⟨vs, H1, I1, r1, v, H0, μ0, st0, μ1, st1, x, pr, e0, P, hv, e1, q⟩ => ?_) hs rfl))
  subst e0
  cases r1 with
  | cons rx rr =>
    cases rr
    simp only [walk] at e1
    have fr : ∀ b, s1.heap.objs.size ≤ b → FpOk X pins H1 b := fun b hb => I1.fpOk hb (I1.hok.fresh hb)
    split at e1
    · rename_i ds e2
      cases e1
      obtain ⟨a, vs, rfl, hq, _⟩ := seqR_list P.rel hv e2
      cases rx
      obtain ⟨its, rv, p', _⟩ := I1.list hq
      refine call_enumerate_list p'.isList fun h' he hit hsz hk => wpAny_pyIter_enum he ?_
      have I2 : Inv X pins σ H1 { s1 with heap := h' } := I1.kept (t' := s1.toks) hk
      refine ⟨_, [s1.heap.objs.size + 1, s1.heap.objs.size], _, _, H1, rfl, I2, turn_enum a (s1.heap.objs.size + 1) s1.heap.objs.size, ⟨⟨.none, he⟩, hit, Nat.succ_ne_self _⟩, fun b hb => fr b ?_, q _ (jok_enumL (list_stays P.rel hv e2 rfl))⟩
      simp at hb
      rcases hb with rfl | rfl <;> omega
    · rename_i ds e2
      cases e1
      obtain ⟨a, vs, e3, rfl, hq, _⟩ := seqR_tup hv e2
      cases rx
      obtain ⟨us, hu⟩ := tup_stays P.rel hv e2 rfl
      obtain ⟨its, rv, p', _⟩ := I1.tuple hq
      obtain ⟨o1, ho1, _⟩ := id p'
      have hlt := Heap.lt_size ho1
      refine call_enum_tup (show s1.heap.IsTuple a its.toArray from p') fun h' he hit hsz hk => wpAny_pyIter_enum he ?_
      have I2 : Inv X pins σ H1 { s1 with heap := h' } := I1.kept (t' := s1.toks) hk
      refine ⟨_, [s1.heap.objs.size + 1, s1.heap.objs.size], _, _, H1, rfl, I2, turn_enumT a (s1.heap.objs.size + 1) s1.heap.objs.size (Nat.ne_of_lt hlt) (Nat.ne_of_lt (Nat.lt_succ_of_lt hlt)), ⟨⟨.none, he⟩, hit, Nat.succ_ne_self _⟩, fun b hb => fr b ?_, q _ (jok_enumT hu)⟩
      simp at hb
      rcases hb with rfl | rfl <;> omega
    · cases e1
/-- zip of two lists, of two tuples -/
theorem pi_zp {e e2 : Expr} {f g : Comp RV} {p pos tpos : Pos} {elts : List Expr} {kk : Nat} (hg : Gl X "zip") (hm : X.mg "zip" = none) (ha : PE X e (tE X.K W f)) (hb : PE X e2 (tE X.K W g)) (hs : starEach [e, e2] X.env = [(false, eval e X.env), (false, eval e2 X.env)]) (hs2 : starEach [e2] X.env = [(false, eval e2 X.env)]) :
    PI X (.Tuple elts kk tpos) (.Call (.Name "zip" p) [e, e2] [] pos) (tI X.K W .zip f g) := by
  refine ⟨fun pins s σ H R I h => (RZ.pi_zipA hg hm (pa_cons ha (pa_cons hb pa_nil hs2) (by rw [hs, hs2])) (by rw [hs, hs2]) (by rw [hs2]; rfl)).run pins s σ H R I ?_⟩
  have := afterW_2 h
  unfold RZ.iZipA
  refine cons2_imp this fun vs H1 ⟨v, u, μ1, st1, r, q, p, e0, rl, h1, h2, e, c⟩ => ?_
  simp only [walk] at e
  split at e
  · rename_i k xs j ys e3 e4
    split at e
    · rename_i hkj
      cases e
      have hkj : k = j := by simpa using hkj
      subst hkj
      cases k with
      | true =>
        obtain ⟨a, as, rfl, hq, _⟩ := seqR_list rl h1 e3
        obtain ⟨b, bs, rfl, hq', _⟩ := seqR_list rl h2 e4
        refine ⟨a, b, as, bs, e0, .inl ⟨hq, hq', c _ (jok_zipL fun μ' st' H' P hw => ?_)⟩⟩
        have := stands_app hw
        exact ⟨list_stays rl h1 e3 rfl _ _ _ P this.1, list_stays rl h2 e4 rfl _ _ _ P this.2⟩
      | false =>
        obtain ⟨a, as, e5, rfl, hq, _⟩ := seqR_tup h1 e3
        obtain ⟨b, bs, e6, rfl, hq', _⟩ := seqR_tup h2 e4
        obtain ⟨us, hu⟩ := tup_stays rl h1 e3 rfl
        obtain ⟨ws, hw⟩ := tup_stays rl h2 e4 rfl
        subst e5 e6
        refine ⟨a, b, as, bs, e0, .inr ⟨hq, hq', c _ (jok_zipT hu hw)⟩⟩
    · cases e
  · cases e
end
end Mi
end
section
set_option linter.all false
set_option autoImplicit false
set_option maxRecDepth 10000
/-! MiLoop: comprehensions and loops. -/
namespace Mi
open PySem PySem.Spec L2
open PyProof.Rows hiding RelV

def T.slots : T → List Nat
  | .sl i => [i]
  | .tp ts => ts.slots
  | .nil => []
  | .cons t ts => t.slots ++ ts.slots
def T.len : T → Nat
  | .cons _ ts => ts.len + 1
  | _ => 0
def gT (K : PySem.W.Frag) (t : T) : TG := fun v σ H Q => ∃ d μ N ρ ρ', VR K H μ N v d ∧ ER K H μ N σ ρ ∧ bindT t d ρ = some ρ' ∧ ∀ σ', ER K H μ N σ' ρ' → σ'.length = σ.length → (∀ i, i ∉ t.slots → σ'[i]? = σ[i]?) → Q σ' H
def gTs (K : PySem.W.Frag) (t : T) : TGs := fun vs σ H Q => ∃ ds μ N ρ ρ', VRs K H μ N vs ds ∧ ER K H μ N σ ρ ∧ bindTs t ds ρ = some ρ' ∧ ∀ σ', ER K H μ N σ' ρ' → σ'.length = σ.length → (∀ i, i ∉ t.slots → σ'[i]? = σ[i]?) → Q σ' H
def tB (K : PySem.W.Frag) (W : XW) (f : Comp Bool) : TT := fun σ H Q => ∃ μ st ρ, Rel K H μ st ∧ ER K H μ st.length σ ρ ∧ AfterT K W μ st H (f ρ st) Q
section
variable {K : PySem.W.Frag} {W : XW} {H H' H₀ : Hp} {μ μ' μ₀ : Mu} {st st' st₀ : Store} {σ : L2.St} {ρ : Env} {N : Nat}
theorem ER.set {v : V} {d : Val} {i : Nat} (e : ER K H μ N σ ρ) (h : VR K H μ N v d) : ER K H μ N (σ.set i (some v)) (ρ.set i (some d)) :=
  ⟨by simp [e.len], fun j x hj => by
    by_cases hij : i = j
    · subst hij
      by_cases hi : i < ρ.length
      · rw [List.getElem?_set_self hi] at hj
        cases hj
        exact ⟨v, by rw [List.getElem?_set_self (by rw [e.len]; exact hi)], h⟩
      · rw [List.getElem?_eq_none (by simpa using hi)] at hj; cases hj
    · rw [List.getElem?_set_ne hij] at hj
      obtain ⟨u, a, b⟩ := e.get j x hj
      exact ⟨u, by rw [List.getElem?_set_ne hij]; exact a, b⟩⟩
theorem wipe_get (σ : L2.St) (i : Nat) : ∀ vs : List Nat, (wipe σ vs)[i]? = if i ∈ vs then (if i < σ.length then some none else none) else σ[i]?
  | [] => by simp [wipe]
  | v :: vs => by
    unfold wipe
    by_cases h : v = i
    · subst h
      simp only [List.mem_cons_self, if_true]
      split
      · rename_i hl; exact List.getElem?_set_self (by rw [wipe_length]; exact hl)
      · rename_i hl; exact List.getElem?_eq_none (by rw [List.length_set, wipe_length]; omega)
    · rw [List.getElem?_set_ne h, wipe_get σ i vs]
      simp [List.mem_cons, Ne.symm h]
theorem wipeE_length (ρ : Env) : ∀ vs : List Nat, (wipeE ρ vs).length = ρ.length
  | [] => rfl
  | v :: vs => by unfold wipeE; rw [List.length_set, wipeE_length ρ vs]
theorem ER.wipe (e : ER K H μ N σ ρ) : ∀ vs, ER K H μ N (L2.wipe σ vs) (wipeE ρ vs)
  | [] => e
  | v :: vs => by
    have ih := e.wipe vs
    refine ⟨by simp [L2.wipe, wipeE, ih.len], fun j x hj => ?_⟩
    unfold wipeE at hj
    unfold L2.wipe
    by_cases h : v = j
    · subst h
      by_cases hi : v < (wipeE ρ vs).length
      · rw [List.getElem?_set_self hi] at hj; cases hj
      · rw [List.getElem?_eq_none (by simpa using hi)] at hj; cases hj
    · rw [List.getElem?_set_ne h] at hj
      obtain ⟨u, a, b⟩ := ih.get j x hj
      exact ⟨u, by rw [List.getElem?_set_ne h]; exact a, b⟩
theorem wipe_same {σ σ2 : L2.St} {own sl : List Nat} (hs : ∀ i ∈ sl, i ∈ own) (hl : σ2.length = (L2.wipe σ own).length) (h : ∀ i, i ∉ sl → σ2[i]? = (L2.wipe σ own)[i]?) : L2.wipe σ2 own = L2.wipe σ own := by
  refine List.ext_getElem? fun i => ?_
  rw [wipe_length] at hl
  rw [wipe_get, wipe_get]
  split
  · rw [hl]
  · rename_i hn
    rw [h i fun z => hn (hs i z), wipe_get, if_neg hn]
theorem Post.own {D : Addr} {us vs : List V} (P : Post K μ₀ st₀ H₀ μ st H) (h0 : H₀ D = none) (hD : H D = some (.lst us)) (ne : ∀ n, n < st.length → μ n ≠ D) :
    Post K μ₀ st₀ H₀ μ st (L2.upd H D (.lst vs)) ∧ Keep K H (L2.upd H D (.lst vs)) μ μ st.length st.length := by
  have k : Keep K H (L2.upd H D (.lst vs)) μ μ st.length st.length := ⟨fun _ _ => rfl, Nat.le_refl _, fun a xs h => by
    rcases h with (h | ⟨ob, h⟩) | h
    · exact .inl (.inl (by rw [upd_ne fun e => by rw [e, hD] at h; cases h]; exact h))
    · exact .inl (.inr ⟨ob, by rw [upd_ne fun e => by rw [e, hD] at h; cases h]; exact h⟩)
    · exact .inr h⟩
  refine ⟨⟨P.same, P.len, ⟨fun n o e => (P.rel.obj n o e).keep k (upd_ne (ne n (List.getElem?_eq_some_iff.mp e).1)), P.rel.inj⟩, fun a o h c => ?_, P.fresh⟩, k⟩
  rw [upd_ne fun e => by rw [e, h0] at h; cases h]
  exact P.frame a o h c
theorem Post.stay (P : Post K μ st H μ' st' H') {D : Addr} {o : HO} (e : H D = some o) (ne : ∀ n, n < st.length → μ n ≠ D) : H' D = some o ∧ ∀ n, n < st'.length → μ' n ≠ D := by
  refine ⟨P.frame _ _ e ne, fun n hn z => ?_⟩
  by_cases hl : n < st.length
  · exact ne n hl ((P.same n hl).symm.trans z)
  · have := P.fresh n (Nat.le_of_not_lt hl) hn
    rw [z, e] at this; cases this
theorem VRs.append {vs us : List V} {ds es : List Val} (h : VRs K H μ N vs ds) (g : VRs K H μ N us es) : VRs K H μ N (vs ++ us) (ds ++ es) := by
  induction ds generalizing vs with
  | nil => cases h; exact g
  | cons d ds ih => cases h with | cons a b => exact .cons a (ih b)
/-! ### comprehensions -/
theorem comp_ok {k : IK} {fa fb fe : Comp RV} {fc : Comp Bool} {tg : T} {own : List Nat} {Q : VK} (hs : ∀ i ∈ tg.slots, i ∈ own)
    (h : tE K W (fun ρ st => (walkM k fa fb ρ st).bind fun p st2 => (noX (compLoop p.2 tg fc fe (wipeE ρ own) p.1 [] st2)).bind fun l st3 => .ok (.l l) st3) σ H Q) :
    tLc (tI K W k fa fb) (gT K tg) (tB K W0 fc) (tE K W0 fe) own σ H Q := by
  obtain ⟨μ, st, ρ, r, er, a⟩ := h
  refine ⟨μ, st, ρ, r, er, ?_⟩
  dsimp only at a
  cases hw : walkM k fa fb ρ st with
  | bad => rw [hw] at a; exact a
  | exc c p st' => rw [hw] at a; exact a
  | ok p st2 =>
    rw [hw] at a
    intro μ2 H2 J P2 hJ D hD
    have er2 := (er.step P2 r).wipe own
    refine ⟨fun i m Hc => m = p.1.length - i ∧ i ≤ p.1.length ∧ ∃ μc stc acc vs, Post K μ2 st2 H2 μc stc Hc ∧ Hc D = some (.lst vs) ∧ VRs K Hc μc stc.length vs acc ∧ (∀ n, n < stc.length → μc n ≠ D) ∧
      After K W μ st H ((noX (compLoop p.2 tg fc fe (wipeE ρ own) (p.1.drop i) acc stc)).bind fun l st3 => .ok (.l l) st3) Q,
      ⟨_, rfl, Nat.zero_le _, μ2, st2, [], [], (Post.refl P2.rel).upd hD, upd_same, .nil, P2.rel.ne hD, by rw [List.drop_zero]; exact a⟩, ?_⟩
    rintro i m Hc ⟨rfl, hi, μc, stc, acc, vs, P, eD, hv, ne, a⟩
    by_cases hlt : i < p.1.length
    · rw [List.drop_eq_getElem_cons hlt] at a
      unfold compLoop at a
      split at a
      · rename_i hst
        have hj := (hJ μc stc Hc P hst).1 i hlt
        cases hb : bindT tg p.1[i] (wipeE ρ own) with
        | none => rw [hb] at a; exact a.elim
        | some ρ1 =>
          rw [hb] at a
          refine .inr ⟨hj.1, fun H' => p.1.length - (i + 1) = p.1.length - (i + 1) ∧ i + 1 ≤ p.1.length ∧ ∃ μc stc acc vs, Post K μ2 st2 H2 μc stc H' ∧ H' D = some (.lst vs) ∧ VRs K H' μc stc.length vs acc ∧ (∀ n, n < stc.length → μc n ≠ D) ∧
            After K W μ st H ((noX (compLoop p.2 tg fc fe (wipeE ρ own) (p.1.drop (i + 1)) acc stc)).bind fun l st3 => .ok (.l l) st3) Q, fun H' h => ⟨_, by omega, h⟩, fun x H' y => ?_⟩
          obtain ⟨d, e, P1, hx⟩ := hj.2 x H' y
          rw [List.getElem?_eq_getElem hlt] at e
          cases e
          refine ⟨_, μc, stc.length, _, ρ1, hx, er2.step (P.trans P1) P2.rel, hb, fun σ2 e2 hl hag => ⟨wipe_same hs hl hag, μc, stc, ρ1, P1.rel, e2, ?_⟩⟩
          cases hc : fc ρ1 stc with
          | bad => simp only [hc] at a; exact a
          | exc c q st' => simp only [hc] at a; exact a.elim
          | ok b st3 =>
            simp only [hc, Res.bind] at a
            intro μ3 H3 P3
            obtain ⟨eD3, ne3⟩ := (P1.trans P3).stay eD ne
            have k3 := (P1.trans P3).keep P.rel
            cases b with
            | false =>
              simp only [Bool.false_eq_true, if_false] at a ⊢
              exact ⟨trivial, hlt, μ3, st3, acc, vs, P.trans (P1.trans P3), eD3, VRs.keep k3 _ _ hv, ne3, a⟩
            | true =>
              simp only [if_true] at a ⊢
              refine ⟨μ3, st3, ρ1, P3.rel, e2.step P3 P1.rel, ?_⟩
              cases hf : fe ρ1 st3 with
              | bad => simp only [hf] at a; exact a
              | exc c q st' => simp only [hf] at a; exact a.elim
              | ok r4 st4 =>
                simp only [hf] at a
                intro μ4 H4 y P4 hy
                by_cases hz : acc.length < top
                · simp only [hz, if_true] at a
                  obtain ⟨μ5, P5, k5, hy5⟩ := settle_ok P4 hy
                  obtain ⟨eD5, ne5⟩ := P5.stay eD3 ne3
                  obtain ⟨P6, k6⟩ := ((P.trans (P1.trans P3)).trans P5).own (vs := vs ++ [y]) hD eD5 ne5
                  refine ⟨vs, eD5, ?_, trivial, hlt, μ5, _, _, _, P6, upd_same, VRs.keep k6 _ _ ((VRs.keep (P5.keep P3.rel) _ _ (VRs.keep k3 _ _ hv)).append (.cons hy5 .nil)), ne5, a⟩
                  rw [VRs.length hv]; exact hz
                · simp only [hz, if_false] at a
                  exact a.elim
      · exact a.elim
    · have : i = p.1.length := by omega
      subst this
      rw [List.drop_length] at a
      unfold compLoop at a
      split at a
      · rename_i hst
        exact .inl ⟨(hJ μc stc Hc P hst).2 _ (Nat.le_refl _), a μc Hc (.ref D) (P2.trans P) ⟨D, vs, rfl, P2.free hD, eD, hv, ne⟩⟩
      · exact a.elim
/-! ### loops -/
def AfterS (K : PySem.W.Frag) (W : XW) (μ : Mu) (st : Store) (H : Hp) (c : Res Out) (D : Ends) : Prop := match c with
  | .ok o st' => ∀ μ' H', Post K μ st H μ' st' H' → match o with
    | .nx ρ => ∀ σ', ER K H' μ' st'.length σ' ρ → D.nx σ' H'
    | .rt r => ∀ v, VRR K H H' μ' st'.length v r → D.rt v H'
    | .bk ρ => ∀ σ', ER K H' μ' st'.length σ' ρ → D.bk σ' H'
    | .ct ρ => ∀ σ', ER K H' μ' st'.length σ' ρ → D.ct σ' H'
  | .exc c p st' => ∀ μ' H', Post K μ st H μ' st' H' → W c p μ' st' H'
  | .bad => False
def tS (K : PySem.W.Frag) (W : XW) (f : Comp Out) : TS := fun D σ H => ∃ μ st ρ, Rel K H μ st ∧ ER K H μ st.length σ ρ ∧ AfterS K W μ st H (f ρ st) D
theorem AfterS.step {c : Res Out} {D : Ends} (P : Post K μ₀ st₀ H₀ μ st H) (a : AfterS K W μ₀ st₀ H₀ c D) : AfterS K W μ st H c D := by
  cases c with
  | ok o st' =>
    intro μ' H' P'
    have a' := a μ' H' (P.trans P')
    cases o with
    | rt r => exact fun v h => a' v (h.older fun _ z => P.free z)
    | _ => exact a'
  | exc c p st' => exact fun μ' H' P' => a μ' H' (P.trans P')
  | bad => exact a
/-- a body's ends, then the loop's -/
theorem body_ends {c : Res Out} {D : Ends} {Nn : L2.St → Hp → Prop} {g : Env → Store → Res Out} (a : AfterS K W μ st H (c.bind fun o st2 => match o with
      | .nx ρ2 => g ρ2 st2
      | .ct ρ2 => g ρ2 st2
      | .bk ρ2 => .ok (.nx ρ2) st2
      | .rt r => .ok (.rt r) st2) D)
    (h : ∀ ρ2 st2 μ2 H2 σ2, Post K μ st H μ2 st2 H2 → ER K H2 μ2 st2.length σ2 ρ2 → AfterS K W μ st H (g ρ2 st2) D → Nn σ2 H2) : AfterS K W μ st H c { D with nx := Nn, ct := Nn, bk := D.nx } := by
  cases c with
  | bad => exact a
  | exc c p st' => exact a
  | ok o st2 =>
    intro μ2 H2 P2
    cases o with
    | nx ρ2 => exact fun σ2 e2 => h ρ2 st2 μ2 H2 σ2 P2 e2 a
    | ct ρ2 => exact fun σ2 e2 => h ρ2 st2 μ2 H2 σ2 P2 e2 a
    | bk ρ2 => exact a μ2 H2 P2
    | rt r => exact a μ2 H2 P2
theorem for_ok {k : IK} {fa fb : Comp RV} {f : Comp Out} {tg : T} {D : Ends}
    (h : tS K W (fun ρ st => (walkM k fa fb ρ st).bind fun p st2 => forLoop p.2 tg f p.1 ρ st2) D σ H) : tFor (tI K W k fa fb) (gT K tg) (tS K W f) D σ H := by
  obtain ⟨μ, st, ρ, r, er, a⟩ := h
  refine ⟨μ, st, ρ, r, er, ?_⟩
  dsimp only at a
  cases hw : walkM k fa fb ρ st with
  | bad => rw [hw] at a; exact a
  | exc c p st' => rw [hw] at a; exact a
  | ok p st2 =>
    rw [hw] at a
    intro μ2 H2 J P2 hJ
    refine ⟨fun i m σc Hc => m = p.1.length - i ∧ i ≤ p.1.length ∧ ∃ μc stc ρc, Post K μ2 st2 H2 μc stc Hc ∧ ER K Hc μc stc.length σc ρc ∧ AfterS K W μc stc Hc (forLoop p.2 tg f (p.1.drop i) ρc stc) D,
      ⟨_, rfl, Nat.zero_le _, μ2, st2, ρ, .refl P2.rel, er.step P2 r, by rw [List.drop_zero]; exact AfterS.step P2 a⟩, ?_⟩
    rintro i m σc Hc ⟨rfl, hi, μc, stc, ρc, P, e2, a⟩
    by_cases hlt : i < p.1.length
    · rw [List.drop_eq_getElem_cons hlt] at a
      unfold forLoop at a
      split at a
      · rename_i hst
        have hj := (hJ μc stc Hc P hst).1 i hlt
        cases hb : bindT tg p.1[i] ρc with
        | none => rw [hb] at a; exact a.elim
        | some ρ1 =>
          rw [hb] at a
          refine .inr ⟨hj.1, fun σ' H' => p.1.length - (i + 1) = p.1.length - (i + 1) ∧ i + 1 ≤ p.1.length ∧ ∃ μc stc ρc, Post K μ2 st2 H2 μc stc H' ∧ ER K H' μc stc.length σ' ρc ∧ AfterS K W μc stc H' (forLoop p.2 tg f (p.1.drop (i + 1)) ρc stc) D,
            fun σ' H' h => ⟨_, by omega, h⟩, fun x H' y => ?_⟩
          obtain ⟨d, e, P1, hx⟩ := hj.2 x H' y
          rw [List.getElem?_eq_getElem hlt] at e
          cases e
          refine ⟨_, μc, stc.length, _, ρ1, hx, e2.step P1 P.rel, hb, fun σ2 e3 _ _ => ⟨μc, stc, ρ1, P1.rel, e3, ?_⟩⟩
          exact body_ends (AfterS.step P1 a) fun ρ2 st3 μ3 H3 σ3 P3 e4 a4 => ⟨rfl, hlt, μ3, st3, ρ2, P.trans (P1.trans P3), e4, a4.step P3⟩
      · exact a.elim
    · have : i = p.1.length := by omega
      subst this
      rw [List.drop_length] at a
      unfold forLoop at a
      split at a
      · rename_i hst
        exact .inl ⟨(hJ μc stc Hc P hst).2 _ (Nat.le_refl _), a μc Hc (.refl P.rel) _ e2⟩
      · exact a.elim
theorem while_ok {n : Nat} {fc : Comp Bool} {f : Comp Out} {D : Ends} (h : tS K W (fun ρ st => whileLoop fc f n ρ st) D σ H) : tWhile (tB K W fc) (tS K W f) D σ H := by
  obtain ⟨μ, st, ρ, r, er, a⟩ := h
  refine ⟨fun m σc Hc => ∃ μc stc ρc, Rel K Hc μc stc ∧ ER K Hc μc stc.length σc ρc ∧ AfterS K W μc stc Hc (whileLoop fc f m ρc stc) D, ⟨n, μ, st, ρ, r, er, a⟩, ?_⟩
  rintro m σc Hc ⟨μc, stc, ρc, rc, ec, a⟩
  cases m with
  | zero => exact a.elim
  | succ m =>
    unfold whileLoop at a
    refine ⟨μc, stc, ρc, rc, ec, ?_⟩
    cases hc : fc ρc stc with
    | bad => rw [hc] at a; exact a
    | exc c p st' => rw [hc] at a; exact a
    | ok b st1 =>
      simp only [hc, Res.bind] at a
      intro μ1 H1 P1
      cases b with
      | false =>
        simp only [Bool.false_eq_true, if_false] at a ⊢
        exact a μ1 H1 P1 _ (ec.step P1 rc)
      | true =>
        simp only [if_true] at a ⊢
        refine ⟨fun σ' H' => ∃ μc stc ρc, Rel K H' μc stc ∧ ER K H' μc stc.length σ' ρc ∧ AfterS K W μc stc H' (whileLoop fc f m ρc stc) D, fun σ' H' h => ⟨m, Nat.lt_succ_self _, h⟩, μ1, st1, ρc, P1.rel, ec.step P1 rc, ?_⟩
        exact body_ends (AfterS.step P1 a) fun ρ2 st3 μ3 H3 σ3 P3 e4 a4 => ⟨μ3, st3, ρ2, P3.rel, e4, a4.step P3⟩
end
end Mi
end
section
set_option linter.all false
set_option autoImplicit false
set_option maxRecDepth 10000
/-! MiNode: the expressions' rules, node by node. -/
namespace Mi
open PySem PySem.Spec L2
open PyProof.Rows hiding RelV

theorem pe_imp {X : Cx} {e : Expr} {t t' : TE} (h : PE X e t) (i : ∀ σ H Q, t' σ H Q → t σ H Q) : PE X e t' := ⟨fun pins s σ H Q I q => h.run pins s σ H Q I (i _ _ _ q)⟩
theorem pt_imp {X : Cx} {e : Expr} {t t' : TT} (h : PT X e t) (i : ∀ σ H Q, t' σ H Q → t σ H Q) : PT X e t' := ⟨fun pins s σ H Q I q => h.run pins s σ H Q I (i _ _ _ q)⟩
theorem pw_imp {X : Cx} {e : Expr} {t t' : TT} (h : PW X e t) (i : ∀ σ H Q, t' σ H Q → t σ H Q) : PW X e t' := ⟨fun wh pins s σ H Q I q => h.run wh pins s σ H Q I (i _ _ _ q)⟩
theorem pa_imp {X : Cx} {e : List Expr} {t t' : TA} (h : PA X e t) (i : ∀ σ H Q, t' σ H Q → t σ H Q) : PA X e t' := ⟨fun pos pins s σ H Q I q => h.run pos pins s σ H Q I (i _ _ _ q)⟩
theorem po_imp {X : Cx} {e : Option Expr} {t t' : TO} (h : PO X e t) (i : ∀ σ H Q, t' σ H Q → t σ H Q) : PO X e t' := ⟨fun pins s σ H Q I q => h.run pins s σ H Q I (i _ _ _ q)⟩

/-! ### not starred -/
def noS : Expr → Bool
  | .Starred .. => false
  | _ => true
theorem star1 {e : Expr} {es : List Expr} {env : PySem.Env} (h : noS e = true) : starEach (e :: es) env = (false, eval e env) :: starEach es env := by
  cases e <;> first | rfl | cases h
theorem asg1 {e : Expr} {es : List Expr} {env : PySem.Env} (h : noS e = true) : assignEach (e :: es) env = (false, assign e env) :: assignEach es env := by
  cases e <;> first | rfl | cases h
theorem starA : ∀ {es : List Expr} {env : PySem.Env} {pos : Pos}, es.all noS = true → (backTo pos (starEach es env)).any (·.1) = false
  | [], _, _, _ => rfl
  | e :: es, env, pos, h => by
    simp only [List.all_cons, Bool.and_eq_true] at h
    rw [star1 h.1]
    exact starA (es := es) (env := env) (pos := pos) h.2
theorem starAll : ∀ {es : List Expr} {env : PySem.Env} {pos : Pos}, es.all noS = true → (backTo pos (starEach es env)).all (fun x => !x.1) = true
  | [], _, _, _ => rfl
  | e :: es, env, pos, h => by
    simp only [List.all_cons, Bool.and_eq_true] at h
    rw [star1 h.1]
    exact starAll (es := es) (env := env) (pos := pos) h.2
theorem asgLen : ∀ {es : List Expr} {env : PySem.Env}, (assignEach es env).length = es.length
  | [], _ => rfl
  | e :: es, env => by cases e <;> exact congrArg (· + 1) (asgLen (es := es) (env := env))
theorem asgNo : ∀ {es : List Expr} {env : PySem.Env}, es.all noS = true → (assignEach es env).findIdx? (·.1) = none
  | [], _, _ => rfl
  | e :: es, env, h => by
    simp only [List.all_cons, Bool.and_eq_true] at h
    rw [asg1 h.1, List.findIdx?_cons]
    have := asgNo (es := es) (env := env) h.2
    simp [this]
/-- no zero-argument call of a name -/
def baseOk : Expr → Bool
  | .Call (.Name ..) [] [] _ => false
  | _ => true
theorem base_ok {o : Expr} {m : Str} {env : PySem.Env} (h : baseOk o = true) : attributeBase o m env (eval o env) = eval o env := by
  unfold attributeBase
  split
  · simp [baseOk] at h
  · rfl
def noSet : Expr → Bool
  | .Set .. => false
  | _ => true
theorem folded_ok {e : Expr} {env : PySem.Env} (h : noSet e = true) (x : Value) : foldedSetIterable e env x = pure x := by
  unfold foldedSetIterable
  split
  · simp [noSet] at h
  · rfl
theorem marks_ok {op : CmpOp} {e : Expr} (h : noSet e = true) : behindInMarks op e = false := by
  cases e <;> first | rfl | cases h
def noSlice : Expr → Bool
  | .Slice .. => false
  | _ => true
theorem plainIx_ok {e : Expr} (h : noSlice e = true) : PlainIx e := by
  intro o i
  cases e <;> first | rfl | cases h
def plainT : Expr → Bool
  | .UnaryOp .Not _ _ => false
  | .BoolOp .. => false
  | .IfExp .. => false
  | .Compare .. => false
  | _ => true
theorem truth_plain {e : Expr} {env : PySem.Env} (h : plainT e = true) (whole : Sem Value) : isTrue e env whole = (do let v ← whole; standAt e.pos; holding [v] (truthy v)) := by
  cases e with
  | UnaryOp op x p => cases op <;> first | rfl | cases h
  | _ => first | rfl | cases h

section
variable {X : Cx} {W : XW} {cs : List Fn} {pos p1 p2 : Pos}
/-- an expression by Mini: as a value, as a test -/
structure PQ (X : Cx) (W : XW) (x : Expr) (f : Comp RV) : Prop where
  e : PE X x (tE X.K W f)
  t : PT X x (tT X.K W f)
theorem pq_plain {x : Expr} {f : Comp RV} (h : PE X x (tE X.K W f)) (hp : plainT x = true) : PQ X W x f :=
  ⟨h, pt_imp (pt_truth h (truth_plain hp)) fun σ H Q q => tT_truth q⟩

/-! ### constants, names -/
theorem n_c {f : Comp RV} {v : V} {d : Val} {x : Expr} (h : PE X x (tC v)) (hf : ∀ ρ st, f ρ st = .ok (.v d) st) (hv : ∀ H μ N, VR X.K H μ N v d) : PE X x (tE X.K W f) :=
  pe_imp h fun σ H Q ⟨μ, st, ρ, r, er, a⟩ => by
    rw [hf] at a
    exact a μ H v (.refl r) (hv _ _ _)
def chkK : Val → Const → Bool
  | .non, .none => true
  | .bl b, .bool c => b == c
  | .int i, .int j => i == j
  | .str x, .str y => toStr x == y
  | _, _ => false
theorem n_k {v : Val} {c : Const} {j : Nat} (h : chkK v c = true) : PE X (.Constant c j pos) (tE X.K W (ev cs (.k v))) := by
  cases v <;> cases c <;> first | cases h | skip
  · exact n_c pe_non (fun _ _ => rfl) fun _ _ _ => .non
  · obtain rfl := eq_of_beq h
    exact n_c pe_bl (fun _ _ => rfl) fun _ _ _ => .bl _
  · obtain rfl := eq_of_beq h
    exact n_c pe_int (fun _ _ => rfl) fun _ _ _ => .int _
  · obtain rfl := eq_of_beq h
    exact n_c pe_str (fun _ _ => rfl) fun _ _ _ => .str _
def visB (sc : Scope) (x : Str) : Bool := match sc.names.lookup x with
  | some .local => true
  | some .cell => true
  | some .free => true
  | _ => false
def okName (x : Str) : Bool := !(x == ("__debug__" : Str)) && !(x == ("__classdict__" : Str)) && !(x == ("__name__" : Str))
theorem visB_ok {sc : Scope} {x : Str} (h : visB sc x = true) : Vis sc x := by
  unfold visB at h
  split at h <;> first | exact .inl (by assumption) | exact .inr (.inl (by assumption)) | exact .inr (.inr (by assumption)) | cases h
theorem okName_ok {x : Str} (h : okName x = true) : (x == ("__debug__" : Str)) = false ∧ (x == ("__classdict__" : Str)) = false ∧ x ≠ "__name__" := by
  simp only [okName, Bool.and_eq_true, Bool.not_eq_true'] at h
  exact ⟨h.1.1, h.1.2, fun e => by have := h.2; rw [e] at this; exact absurd this (by decide)⟩
theorem n_x {i : Nat} {x : Str} (hN : X.N[i]? = some x) (hv : visB X.env.scope x = true) (hn : okName x = true) : PE X (.Name x pos) (tE X.K W (ev cs (.x i))) :=
  pe_imp (pe_var hN (visB_ok hv) (okName_ok hn).1 (okName_ok hn).2.1) fun σ H Q ⟨μ, st, ρ, r, er, a⟩ => by
    simp only [ev] at a
    split at a
    · rename_i d e
      obtain ⟨v, e1, e2⟩ := er.get i d e
      exact ⟨v, e1, a μ H v (.refl r) e2⟩
    · exact a.elim

/-! ### argument lists -/
theorem n_nil : PA X [] (tA X.K W (evs cs .nil)) := pa_imp pa_nil fun σ H Q ⟨μ, st, ρ, r, er, a⟩ => by
  simp only [evs] at a
  exact a μ H [] [] (.refl r) .nil
theorem n_cons {x : Expr} {xs : List Expr} {h t : E} (hs : noS x = true) (h1 : PE X x (tE X.K W (ev cs h))) (h2 : PA X xs (tA X.K W (evs cs t))) : PA X (x :: xs) (tA X.K W (evs cs (.cons h t))) :=
  pa_imp (pa_cons h1 h2 (star1 hs)) fun σ H Q ⟨μ, st, ρ, r, er, a⟩ => by
    refine ⟨μ, st, ρ, r, er, ?_⟩
    simp only [evs] at a
    cases hf : ev cs h ρ st with
    | bad => rw [hf] at a; exact a
    | exc c p st' => rw [hf] at a; exact a
    | ok x1 st1 =>
      rw [hf] at a
      intro μ1 H1 v P1 hv
      refine ⟨μ1, st1, ρ, P1.rel, er.step P1 r, ?_⟩
      simp only [Res.bind] at a
      cases hg : evs cs t ρ st1 with
      | bad => rw [hg] at a; exact a
      | exc c p st' => rw [hg] at a; exact fun μ' H' P' => a μ' H' (P1.trans P')
      | ok rs st2 =>
        rw [hg] at a
        intro μ2 H2 vs ps P2 hvs
        have hv2 := VRR.step P2 P1.rel hv
        cases x1 with
        | v d => exact a μ2 H2 (v :: vs) ps (P1.trans P2) (.v hv2 (hvs.older fun _ z => P1.free z))
        | l ds =>
          obtain ⟨p, us, rfl, e0, e1, e2, e3⟩ := hv2
          refine a μ2 H2 _ (p :: ps) (P1.trans P2) (.l e0 e1 e2 e3 (fun hp => ?_) (hvs.older fun _ z => P1.free z))
          obtain ⟨p', us', e4, _, e5, _⟩ := hv
          cases e4
          have := hvs.free p hp
          rw [e5] at this; cases this
theorem args_then {es : E} {g : List RV → Store → Res RV} {f : Comp RV} {K : PySem.W.Frag} {σ : L2.St} {H : Hp} {Q : VK} (hf : ∀ ρ st, f ρ st = (evs cs es ρ st).bind fun rs st1 => g rs st1) (h : tE K W f σ H Q) :
    tA K W (evs cs es) σ H fun vs H1 => ∃ μ₀ st₀ H₀ μ st rs ps, Rel K H₀ μ₀ st₀ ∧ Post K μ₀ st₀ H₀ μ st H1 ∧ VRRs K H₀ H1 μ st.length vs rs ps ∧ After K W μ₀ st₀ H₀ (g rs st) Q := by
  obtain ⟨μ, st, ρ, r, er, a⟩ := h
  refine ⟨μ, st, ρ, r, er, ?_⟩
  rw [hf] at a
  cases he : evs cs es ρ st with
  | bad => rw [he] at a; exact a
  | exc c p st' => rw [he] at a; exact a
  | ok rs st1 =>
    rw [he] at a
    exact fun μ1 H1 vs ps P1 hv => ⟨μ, st, H, μ1, st1, rs, ps, r, P1, hv, a⟩
theorem n_tup {es : E} {xs : List Expr} {k : Nat} (h : PA X xs (tA X.K W (evs cs es))) : PE X (.Tuple xs k pos) (tE X.K W (ev cs (.tup es))) :=
  pe_imp (pe_tup h) fun σ H Q q => by
    obtain ⟨μ, st, ρ, r, er, a⟩ := args_then (g := fun rs st1 => if rs.length ≤ top then .ok (.v (.tup (settles rs st1).1)) (settles rs st1).2 else .bad) (fun ρ st => by rw [ev]) q
    refine ⟨μ, st, ρ, r, er, ?_⟩
    cases he : evs cs es ρ st with
    | bad => rw [he] at a; exact a
    | exc c p st' => rw [he] at a; exact a
    | ok rs st1 =>
      rw [he] at a
      intro μ1 H1 vs ps P1 hv
      obtain ⟨μ₀, st₀, H₀, μ, st, rs, ps, r0, P, hv, a⟩ := a μ1 H1 vs ps P1 hv
      split at a
      · rename_i hz
        obtain ⟨μ', P', k', z⟩ := settles_ok P hv
        exact ⟨by rw [← hv.len]; exact hz, fun p hp => finT a P' z hp⟩
      · exact a.elim
theorem n_lst {es : E} {xs : List Expr} (h : PA X xs (tA X.K W (evs cs es))) : PE X (.List xs pos) (tE X.K W (ev cs (.lst es))) :=
  pe_imp (pe_lst h) fun σ H Q q => by
    obtain ⟨μ, st, ρ, r, er, a⟩ := args_then (g := fun rs st1 => if rs.length ≤ top then .ok (.l (settles rs st1).1) (settles rs st1).2 else .bad) (fun ρ st => by rw [ev]) q
    refine ⟨μ, st, ρ, r, er, ?_⟩
    cases he : evs cs es ρ st with
    | bad => rw [he] at a; exact a
    | exc c p st' => rw [he] at a; exact a
    | ok rs st1 =>
      rw [he] at a
      intro μ1 H1 vs ps P1 hv
      obtain ⟨μ₀, st₀, H₀, μ, st, rs, ps, r0, P, hv, a⟩ := a μ1 H1 vs ps P1 hv
      split at a
      · rename_i hz
        obtain ⟨μ', P', k', z⟩ := settles_ok P hv
        exact ⟨by rw [← hv.len]; exact hz, fun p hp => finL a P' z hp⟩
      · exact a.elim

/-! ### operations -/
variable {a b c : E} {xa xb xc : Expr}
section
variable {K : PySem.W.Frag} {σ : L2.St} {H : Hp} {Q : VK}
theorem op1_then {o : O1} (h : tE K W (ev cs (.op1 o a)) σ H Q) : tE K W (ev cs a) σ H fun x H1 => ∃ (W : XW) (μ₀ : Mu) (st₀ : Store) (H₀ : Hp) (μ : Mu) (st : Store) (r : RV), Post K μ₀ st₀ H₀ μ st H1 ∧ VRR K H₀ H1 μ st.length x r ∧ After K W μ₀ st₀ H₀ (f1 o r st) Q := by
  have m := mid_start (g := fun _ ρ st => (ev cs a ρ st).bind fun r st1 => f1 o r st1) h fun ρ st => by rw [ev]
  refine tE_imp (mid_next (f := ev cs a) (g' := fun rs ρ st => match rs with | [r] => f1 o r st | _ => .bad) m fun rs ρ st hl => .inl ?_) fun v H1 m => ?_
  · cases rs with
    | nil => rfl
    | cons _ _ => cases hl
  · obtain ⟨μ₀, st₀, H₀, ρ, μ, st, r, _, _, P, hv, q⟩ := mid1 m
    exact ⟨W, μ₀, st₀, H₀, μ, st, r, P, hv, q⟩
theorem op2_then {o : O2} (h : tE K W (ev cs (.op2 o a b)) σ H Q) : tE K W (ev cs a) σ H fun x H1 => (∃ (H₀ : Hp) (μ : Mu) (st : Store) (r : RV), Rel K H1 μ st ∧ VRR K H₀ H1 μ st.length x r ∧ pre2 o r st = true) ∧
    tE K W (ev cs b) σ H1 fun y H2 => ∃ (W : XW) (μ₀ : Mu) (st₀ : Store) (H₀ : Hp) (μ : Mu) (st : Store) (r q : RV), Post K μ₀ st₀ H₀ μ st H2 ∧ VRR K H₀ H2 μ st.length x r ∧ VRR K H₀ H2 μ st.length y q ∧ After K W μ₀ st₀ H₀ (f2 o r q st) Q := by
  have m := mid_start (g := fun _ ρ st => (ev cs a ρ st).bind fun r st1 => if pre2 o r st1 then (ev cs b ρ st1).bind fun q st2 => f2 o r q st2 else .bad) h fun ρ st => by rw [ev]
  refine tE_imp (mid_next (f := ev cs a) (g' := fun rs ρ st1 => match rs with | [r] => if pre2 o r st1 then (ev cs b ρ st1).bind fun q st2 => f2 o r q st2 else .bad | _ => .bad) m fun rs ρ st hl => .inl ?_) fun v H1 m => ⟨?_, ?_⟩
  · cases rs with
    | nil => rfl
    | cons _ _ => cases hl
  · obtain ⟨μ₀, st₀, H₀, ρ, μ, st, r, r0, er, P, hv, q⟩ := mid1 m
    by_cases hp : pre2 o r st = true
    · exact ⟨H₀, μ, st, r, P.rel, hv, hp⟩
    · simp [hp] at q
      exact q.elim
  · refine tE_imp (mid_next (f := ev cs b) (g' := fun rs ρ st => match rs with | [r, q] => f2 o r q st | _ => .bad) m fun rs ρ st hl => ?_) fun y H2 m => ?_
    · rcases rs with _ | ⟨r, _ | ⟨_, _⟩⟩
      · cases hl
      · by_cases hp : pre2 o r st = true
        · exact .inl (by simp [hp])
        · exact .inr (by simp [hp])
      · cases hl
    · obtain ⟨μ₀, st₀, H₀, ρ, μ, st, r, q, P, hv, hu, q⟩ := mid2 m
      exact ⟨W, μ₀, st₀, H₀, μ, st, _, _, P, hv, hu, q⟩
theorem op3_then {o : O3} (h : tE K W (ev cs (.op3 o a b c)) σ H Q) : tE K W (ev cs a) σ H fun x H1 => (∃ (H₀ : Hp) (μ : Mu) (st : Store) (r : RV), Rel K H1 μ st ∧ VRR K H₀ H1 μ st.length x r ∧ pre3 o r st = true) ∧
    tE K W (ev cs b) σ H1 fun y H2 => tE K W (ev cs c) σ H2 fun z H3 => ∃ (W : XW) (μ₀ : Mu) (st₀ : Store) (H₀ : Hp) (μ : Mu) (st : Store) (r q u : RV) (ps : List Addr), Post K μ₀ st₀ H₀ μ st H3 ∧ VRRs K H₀ H3 μ st.length [x, y, z] [r, q, u] ps ∧ After K W μ₀ st₀ H₀ (f3 o r q u st) Q := by
  have m := mid_start (g := fun _ ρ st => (ev cs a ρ st).bind fun r st1 => if pre3 o r st1 then (ev cs b ρ st1).bind fun q st2 => (ev cs c ρ st2).bind fun u st3 => f3 o r q u st3 else .bad) h fun ρ st => by rw [ev]
  refine tE_imp (mid_next (f := ev cs a) (g' := fun rs ρ st1 => match rs with | [r] => if pre3 o r st1 then (ev cs b ρ st1).bind fun q st2 => (ev cs c ρ st2).bind fun u st3 => f3 o r q u st3 else .bad | _ => .bad) m fun rs ρ st hl => .inl ?_) fun v H1 m => ⟨?_, ?_⟩
  · cases rs with
    | nil => rfl
    | cons _ _ => cases hl
  · obtain ⟨μ₀, st₀, H₀, ρ, μ, st, r, r0, er, P, hv, q⟩ := mid1 m
    by_cases hp : pre3 o r st = true
    · exact ⟨H₀, μ, st, r, P.rel, hv, hp⟩
    · simp [hp] at q
      exact q.elim
  · refine tE_imp (mid_next (f := ev cs b) (g' := fun rs ρ st => match rs with | [r, q] => (ev cs c ρ st).bind fun u st3 => f3 o r q u st3 | _ => .bad) m fun rs ρ st hl => ?_) fun y H2 m => ?_
    · rcases rs with _ | ⟨r, _ | ⟨_, _⟩⟩
      · cases hl
      · by_cases hp : pre3 o r st = true
        · exact .inl (by simp [hp])
        · exact .inr (by simp [hp])
      · cases hl
    · refine tE_imp (mid_next (f := ev cs c) (g' := fun rs ρ st => match rs with | [r, q, u] => f3 o r q u st | _ => .bad) m fun rs ρ st hl => .inl ?_) fun z H3 m => ?_
      · rcases rs with _ | ⟨r, _ | ⟨_, _ | ⟨_, _⟩⟩⟩ <;> first | rfl | cases hl
      · obtain ⟨μ₀, st₀, H₀, ρ, μ, st, rs, ps, r, er, P, hv, q⟩ := m
        have hl := hv.len
        rcases rs with _ | ⟨r1, _ | ⟨r2, _ | ⟨r3, _ | ⟨_, _⟩⟩⟩⟩ <;> first | cases hl | skip
        exact ⟨W, μ₀, st₀, H₀, μ, st, r1, r2, r3, ps, P, hv, q⟩
end
end
end Mi
end
section
set_option linter.all false
set_option autoImplicit false
set_option maxRecDepth 10000
/-! MiView: which expressions are which of Mini's operations. -/
namespace Mi
open PySem PySem.Spec L2
open PyProof.Rows hiding RelV

def b2 : Operator → Option O2
  | .Add => some .add
  | .Sub => some .sub
  | .Mult => some .mul
  | .Mod => some .mod
  | .FloorDiv => some .fdiv
  | .Pow => some .pow
  | _ => none
def c2 : CmpOp → Option O2
  | .Eq => some .eq
  | .NotEq => some .ne
  | .Lt => some .lt
  | .LtE => some .le
  | .Gt => some .gt
  | .GtE => some .ge
  | .In => some .isin
  | .NotIn => some .notin
  | _ => none
def mname : O2 → Option Str
  | .append => some "append"
  | .extend => some "extend"
  | .popAt => some "pop"
  | _ => none
section
variable {X : Cx} {W : XW} {cs : List Fn} {a b c : E} {xa xb xc x : Expr}
theorem b2_ok (hu : X.A.units + 64 < cLine) {op : Operator} {o : O2} (h : b2 op = some o) : OpR X (binaryOp op) (r2 X o) := by
  cases op <;> first | (cases h; done) | skip
  all_goals cases h
  · exact o_add
  · exact o_sub
  · exact o_mul
  · exact o_mod
  · exact o_pow
  · exact o_fdiv
theorem c2_ok (hu : X.A.units + 64 < cLine) {op : CmpOp} {o : O2} (h : c2 op = some o) : OpR X (compareOp op) (r2 X o) := by
  cases op <;> first | (cases h; done) | skip
  all_goals cases h
  · exact o_eq hu
  · exact o_ne hu
  · exact o_lt
  · exact o_le
  · exact o_gt
  · exact o_ge
  · exact o_in hu
  · exact o_notin hu
theorem b2_plain {op : Operator} {o : O2} (h : b2 op = some o) : ∀ r st, pre2 o r st = true := by
  cases op <;> cases h <;> exact fun _ _ => rfl
theorem c2_bool {op : CmpOp} {o : O2} (h : c2 op = some o) {r q u : RV} {st st' : Store} (e : f2 o r q st = .ok u st') : ∃ b, u = .v (.bl b) := by
  have ovb : ∀ {x : Option Bool} {f : Bool → Bool}, ov (x.map fun b => .bl (f b)) st = .ok u st' → ∃ b, u = .v (.bl b) := fun {x f} e => by
    cases x <;> simp [ov, lift] at e
    exact ⟨_, e.1.symm⟩
  have cmb : ∀ {p : Int → Int → Bool}, cmpI p r q st = .ok u st' → ∃ b, u = .v (.bl b) := fun {p} e => by
    unfold cmpI at e
    split at e
    · cases e; exact ⟨_, rfl⟩
    · cases e
  cases op <;> cases h <;> simp only [f2] at e
  · exact ovb (f := fun b => b) e
  · exact ovb e
  · exact cmb e
  · exact cmb e
  · exact cmb e
  · exact cmb e
  · split at e
    · split at e
      · exact ovb (f := fun b => b) e
      · cases e
    · cases e
  · split at e
    · split at e
      · exact ovb e
      · cases e
    · cases e
theorem pre_list {o : O2} (h : mname o ≠ none) : ∀ r st, pre2 o r st = true → ∃ ds, seqR st r = some (true, ds) := fun r st hp => by
  have key : (match seqR st r with | some (true, _) => true | _ => false) = true → ∃ ds, seqR st r = some (true, ds) := fun e => by
    split at e
    · rename_i ds e2; exact ⟨ds, e2⟩
    · cases e
  cases o <;> first | exact absurd rfl h | exact key hp
/-- the two operands -/
def v2 (o : O2) (x : Expr) : Option (Expr × Expr) := match x with
  | .BinOp a op b _ => if b2 op = some o then some (a, b) else none
  | .Compare a [op] [b] _ => if c2 op = some o ∧ noSet b = true then some (a, b) else none
  | .Subscript a b _ => if o = .ix ∧ noSlice b = true then some (a, b) else none
  | .Call (.Attribute r m apos) [e] [] cpos => if mname o = some m ∧ baseOk r = true ∧ noS e = true ∧ (apos.endLine == cpos.line) = true then some (r, e) else none
  | _ => none
theorem few1 {e : Expr} {env : PySem.Env} {cpos : Pos} (h : noS e = true) : ((backTo cpos (starEach [e] env)).all (fun x => !x.1) && (backToKw cpos (keywordEach [] env)).all (fun x => x.1.isSome)
      && decide (([e] : List Expr).length + ([] : List Keyword).length + (if ([] : List Keyword).isEmpty then 0 else 1) < 30)) = true := by
  rw [starAll (by simp [h])]; rfl
theorem v2_ok {o : O2} (hu : X.A.units + 64 < cLine) (h : v2 o x = some (xa, xb)) (ha : PE X xa (tE X.K W (ev cs a))) (hb : PE X xb (tE X.K W (ev cs b))) : PQ X W x (ev cs (.op2 o a b)) := by
  unfold v2 at h
  split at h
  · split at h
    · rename_i e; cases h
      exact pq_plain (pe_imp (pe_op (b2_ok hu e) ha hb) fun σ H Q q => tE_imp (op2_then q) fun v H1 z => z.2) rfl
    · cases h
  · split at h
    · rename_i e; cases h
      refine ⟨pe_imp (pe_cmpR (c2_ok hu e.1) ha hb (marks_ok e.2)) fun σ H Q q => tE_imp (op2_then q) fun v H1 z => z.2, pt_imp (pt_cmpR (c2_ok hu e.1) ha hb (marks_ok e.2)) fun σ H Q q => ?_⟩
      refine tE_imp (op2_then (tT_bool (fun ρ st r st' e2 => ?_) q)) fun v H1 z => z.2
      rw [ev] at e2
      cases ha' : ev cs a ρ st with
      | bad => rw [ha'] at e2; cases e2
      | exc _ _ _ => rw [ha'] at e2; cases e2
      | ok r1 st1 =>
        rw [ha'] at e2
        simp only [Res.bind] at e2
        split at e2
        · cases hb' : ev cs b ρ st1 with
          | bad => rw [hb'] at e2; cases e2
          | exc _ _ _ => rw [hb'] at e2; cases e2
          | ok r2 st2 => rw [hb'] at e2; exact c2_bool e.1 e2
        · cases e2
    · cases h
  · split at h
    · rename_i e; cases h
      obtain ⟨rfl, e⟩ := e
      exact pq_plain (pe_imp (pe_ix (o_ix (by omega)) ha hb (plainIx_ok e)) fun σ H Q q => tE_imp (op2_then q) fun v H1 z => z.2) rfl
    · cases h
  · split at h
    · rename_i e; cases h
      obtain ⟨e1, e2, e3, e4⟩ := e
      refine pq_plain ?_ rfl
      have go : ∀ {id : String} {m : Str}, Slot "list" m id → typeOf (.builtin id) = pure (.type "method_descriptor") → MtR X id (m2 X o) → ∀ {apos cpos : Pos}, (apos.endLine == cpos.line) = true → PE X (.Call (.Attribute xa m apos) [xb] [] cpos) (tE X.K W (ev cs (.op2 o a b))) := fun {id m} sl ty mt {apos cpos} e4 =>
        pe_imp (pe_bm PySem.F.plainAttrs_list sl ty mt ha (pa_cons hb pa_nil (star1 e3)) (base_ok e2) (few1 e3) e4 (star1 e3) rfl) fun σ H Q q => by
          refine tE_imp (op2_then q) fun v H1 z => ?_
          obtain ⟨⟨H₀, μ, st, r, R, hv, hp⟩, z⟩ := z
          obtain ⟨ds, e⟩ := pre_list (by rw [e1]; exact fun z => nomatch z) r st hp
          obtain ⟨p, vs, e5, e6, _⟩ := seqR_list R hv e
          refine ⟨by rw [e5]; exact .inl ⟨rfl, vs, e6⟩, tE_imp z fun y H2 q => ⟨y, rfl, q⟩⟩
      cases o <;> cases e1
      · exact go PySem.F.slot_list_append PySem.F.type_list_append m_append e4
      · exact go PySem.F.slot_list_extend PySem.F.type_list_extend m_extend e4
      · exact go PySem.F.slot_list_pop PySem.F.type_list_pop m_popAt e4
    · cases h
  · cases h
end
end Mi
end
section
set_option linter.all false
set_option autoImplicit false
set_option maxRecDepth 10000
/-! MiGood: what is known around a def's text. -/
namespace Mi
open PySem PySem.Spec L2
open PyProof.Rows hiding RelV

/-- a callee: its name, its parameters, how it is called with keywords: the positional ones, the names, the order -/
structure Fd where
  name : Str
  ps : List Str
  kws : List (Nat × List Str × List Nat)
structure Ctx where
  N : List Str
  sc : Scope
  cl : Option Scope
  bn : List Str
  gs : List (List Nat × Val)
  fs : List Fd
  k : Nat
def Ctx.fnb (c : Ctx) (x : Str) : Bool := match c.cl with
  | none => true
  | some sc => sc.names.lookup x == some .cell
def Ctx.blk (c : Ctx) (scope : Scope) : Ctx := { c with sc := relS scope c.sc, cl := some scope }
/-- arguments put in order -/
def perm {α : Type} (kw : List Nat) (xs : List α) : List α := kw.filterMap fun i => xs[i]?
structure CalP (P : Program) (w : World) (K : PySem.W.Frag) (mg : Str → Option Value) (base : Heap) (k : Nat) (fd : Fd) (F : Fn) (f : Addr) (d : FuncData) : Prop where
  fn : FnM P w K mg base k f d fd.ps F
  mg : mg fd.name = some (.ref f)
  kp : PySem.W.keepIn K (.ref f) = true
  bi : Binds K d fd.ps []
  kw : ∀ p ∈ fd.kws, ∀ us ws : List Value, us.length = p.1 → ws.length = p.2.1.length → bindArgs d ⟨us, p.2.1.zip ws⟩ = pure (fd.ps.zip (perm p.2.2 (us ++ ws)))
abbrev Cal (X : Cx) (k : Nat) (fd : Fd) (F : Fn) (f : Addr) (d : FuncData) : Prop := CalP X.prog X.w X.K X.mg X.base k fd F f d
structure Good (X : Cx) (W : XW) (c : Ctx) (cs : List Fn) : Prop where
  N : X.N = c.N
  nd : c.N.Nodup
  sc : X.env.scope = c.sc
  calm : X.calm = true
  gu : X.A.guards = some []
  room : Room c.k X.A
  fn : ∀ x, c.fnb x = true → X.fn x = true
  bn : ∀ x ∈ c.bn, X.mg x = none
  gs : ∀ p ∈ c.gs, ∃ v u, X.mg (toStr p.1) = some u ∧ RelV v u ∧ ∀ H μ N, VR X.K H μ N v p.2
  xt : XTk X W
  fs : ∀ (j : Nat) (fd : Fd), c.fs[j]? = some fd → ∃ F f d, cs[j]? = some F ∧ Cal X c.k fd F f d
section
variable {X : Cx} {W : XW} {c : Ctx} {cs : List Fn}
theorem Good.units (g : Good X W c cs) : X.A.units + 64 < cLine := g.room.units
theorem Good.blk (g : Good X W c cs) {s : Shared} {H : Hp} {scope : Scope} {cl : List (Str × Addr)} {C : Addr} {fp : List Addr} : Good (X.blk s H scope (compEnvC scope cl C X.env) fp) W0 (c.blk scope) cs where
  N := g.N
  nd := g.nd
  sc := by
    show relS scope X.env.scope = relS scope c.sc
    rw [g.sc]
  calm := g.calm
  gu := g.gu
  room := g.room
  fn := fun x h => h
  bn := g.bn
  gs := g.gs
  xt := .none
  fs := fun j fd e => let ⟨F, f, d, z, k⟩ := g.fs j fd e; ⟨F, f, d, z, ⟨k.fn, k.mg, k.kp, k.bi, k.kw⟩⟩
def glB (c : Ctx) (x : Str) : Bool := (c.sc.names.lookup x == some .globalImplicit) && okName x
def btB (c : Ctx) (x : Str) : Bool := glB c x && c.bn.contains x
theorem glB_ok (g : Good X W c cs) {x : Str} (h : glB c x = true) : Gl X x ∧ (x == ("__debug__" : Str)) = false ∧ x ≠ "__name__" := by
  simp only [glB, Bool.and_eq_true] at h
  refine ⟨?_, (okName_ok h.2).1, (okName_ok h.2).2.2⟩
  show X.env.scope.names.lookup x = _
  rw [g.sc]; exact eq_of_beq h.1
theorem btB_ok (g : Good X W c cs) {x : Str} (h : btB c x = true) : Gl X x ∧ X.mg x = none ∧ (x == ("__debug__" : Str)) = false ∧ x ≠ "__name__" := by
  simp only [btB, Bool.and_eq_true, List.contains_iff_mem] at h
  obtain ⟨h1, h2⟩ := h
  obtain ⟨a, b, d⟩ := glB_ok g h1
  exact ⟨a, g.bn x h2, b, d⟩
end
end Mi
end
section
set_option linter.all false
set_option autoImplicit false
set_option maxRecDepth 10000
/-! MiView1: operations of one value, slices. -/
namespace Mi
open PySem PySem.Spec L2
open PyProof.Rows hiding RelV

/-- built-ins of one value -/
def bname : O1 → Option Str
  | .abs => some "abs"
  | .len => some "len"
  | .int => some "int"
  | .str => some "str"
  | .repr => some "repr"
  | .tuple => some "tuple"
  | .list => some "list"
  | .sorted => some "sorted"
  | .sum => some "sum"
  | _ => none
def iname : O1 → Option Str
  | .isStr => some "str"
  | .isInt => some "int"
  | .isTup => some "tuple"
  | .isBool => some "bool"
  | _ => none
def v1 (c : Ctx) (o : O1) (x : Expr) : Option Expr := match x with
  | .UnaryOp .USub e _ => if o = .neg then some e else none
  | .Compare e [.Is] [.Constant .none _ _] _ => if o = .isNon then some e else none
  | .Compare e [.IsNot] [.Constant .none _ _] _ => if o = .notNon then some e else none
  | .Call (.Name f _) [e] [] _ => if bname o = some f ∧ btB c f = true ∧ noS e = true then some e else none
  | .Call (.Name f _) [e, .Name t _] [] _ => if iname o = some t ∧ f = "isinstance" ∧ btB c f = true ∧ btB c t = true ∧ noS e = true then some e else none
  | .Call (.Attribute r m apos) [] [] cpos => if o = .pop ∧ m = "pop" ∧ baseOk r = true ∧ (apos.endLine == cpos.line) = true then some r else none
  | .Subscript e (.Slice none none (some (.UnaryOp .USub (.Constant (.int 1) _ _) _)) _) _ => if o = .rev then some e else none
  | _ => none
theorem boot_sum : bootBuiltins "sum" = some (.builtin "sum") := by decide +kernel
theorem boot_len : bootBuiltins "len" = some (.builtin "len") := by decide +kernel
section
variable {X : Cx} {W : XW} {c : Ctx} {cs : List Fn} {a : E} {xa x : Expr}
theorem r1_then {o : O1} {σ : L2.St} {H : Hp} {Q : VK} (h : tE X.K W (ev cs (.op1 o a)) σ H Q) : tE X.K W (ev cs a) σ H fun x H1 => r1 X o x H1 Q := op1_then h
theorem v1_ok {o : O1} (g : Good X W c cs) (h : v1 c o x = some xa) (ha : PE X xa (tE X.K W (ev cs a))) : PQ X W x (ev cs (.op1 o a)) := by
  have hu := g.units
  have bt : ∀ {f : Str} {p pos : Pos} {id : String}, btB c f = true → noS xa = true → bootBuiltins f = some (.builtin id) → CallR X (.builtin id) (c1 X o) → PQ X W (.Call (.Name f p) [xa] [] pos) (ev cs (.op1 o a)) := fun {f p pos id} h1 h2 h3 h4 => by
    obtain ⟨b1, b2, b3, b4⟩ := btB_ok g h1
    exact pq_plain (pe_imp (pe_callB h4 b1 b2 h3 (pa_cons ha pa_nil (star1 h2)) b4 b3 (star1 h2) rfl) fun σ H Q q => tE_imp (r1_then q) fun v H1 z => ⟨v, rfl, z⟩) rfl
  have ty : ∀ {f : Str} {p pos : Pos} {id : String}, btB c f = true → noS xa = true → bootBuiltins f = some (.type id) → CallR X (.type id) (c1 X o) → PQ X W (.Call (.Name f p) [xa] [] pos) (ev cs (.op1 o a)) := fun {f p pos id} h1 h2 h3 h4 => by
    obtain ⟨b1, b2, b3, b4⟩ := btB_ok g h1
    exact pq_plain (pe_imp (pe_callTy h4 b1 b2 h3 (pa_cons ha pa_nil (star1 h2)) b4 b3 (star1 h2) rfl) fun σ H Q q => tE_imp (r1_then q) fun v H1 z => ⟨v, rfl, z⟩) rfl
  have isi : ∀ {p pos p2 : Pos} {T : String} {t : Str}, btB c "isinstance" = true → btB c t = true → noS xa = true → bootBuiltins t = some (.type T) → CallR X (.builtin "isinstance") (fun xs H Q => ∃ v, xs = [v, .ty T] ∧ r1 X o v H Q) → PQ X W (.Call (.Name "isinstance" p) [xa, .Name t p2] [] pos) (ev cs (.op1 o a)) := fun {p pos p2 T t} h1 ht h2 h3 h4 => by
    obtain ⟨b1, b2, b3, b4⟩ := btB_ok g h1
    obtain ⟨t1, t2, t3, t4⟩ := btB_ok g ht
    exact pq_plain (pe_imp (pe_callB h4 b1 b2 boot_isinstance (pa_cons ha (pa_cons (pe_bltn t1 t2 h3 (v := .ty T) rfl t4 t3) pa_nil rfl) (star1 h2)) b4 b3 (star1 h2) rfl) fun σ H Q q => tE_imp (r1_then q) fun v H1 z => ⟨v, rfl, z⟩) rfl
  unfold v1 at h
  split at h
  · split at h
    · rename_i e; cases h; subst e
      exact pq_plain (pe_imp (pe_un u_neg ha) fun σ H Q q => r1_then q) rfl
    · cases h
  · split at h
    · rename_i e; cases h; subst e
      refine ⟨pe_imp (pe_cmpR o_isN ha pe_non rfl) fun σ H Q q => tE_imp (r1_then q) fun v H1 z => ⟨rfl, z⟩, pt_imp (pt_cmpR o_isN ha pe_non rfl) fun σ H Q q => tE_imp (r1_then (tT_bool (fun ρ st r st' e2 => ?_) q)) fun v H1 z => ⟨rfl, z⟩⟩
      rw [ev] at e2
      cases ha' : ev cs a ρ st with
      | bad => rw [ha'] at e2; cases e2
      | exc _ _ _ => rw [ha'] at e2; cases e2
      | ok r1 st1 => rw [ha'] at e2; cases r1 <;> (cases e2; exact ⟨_, rfl⟩)
    · cases h
  · split at h
    · rename_i e; cases h; subst e
      refine ⟨pe_imp (pe_cmpR o_notN ha pe_non rfl) fun σ H Q q => tE_imp (r1_then q) fun v H1 z => ⟨rfl, z⟩, pt_imp (pt_cmpR o_notN ha pe_non rfl) fun σ H Q q => tE_imp (r1_then (tT_bool (fun ρ st r st' e2 => ?_) q)) fun v H1 z => ⟨rfl, z⟩⟩
      rw [ev] at e2
      cases ha' : ev cs a ρ st with
      | bad => rw [ha'] at e2; cases e2
      | exc _ _ _ => rw [ha'] at e2; cases e2
      | ok r1 st1 => rw [ha'] at e2; cases r1 <;> (cases e2; exact ⟨_, rfl⟩)
    · cases h
  · split at h
    · rename_i e; cases h
      obtain ⟨e1, e2, e3⟩ := e
      cases o <;> cases e1
      · exact bt e2 e3 boot_abs c_abs
      · exact bt e2 e3 boot_len c_len
      · exact ty e2 e3 boot_int c_int
      · exact ty e2 e3 boot_str c_str
      · exact bt e2 e3 boot_repr (c_repr g.gu hu)
      · exact ty e2 e3 boot_tuple c_tuple
      · exact ty e2 e3 boot_list c_list
      · exact bt e2 e3 boot_sorted (c_sorted hu)
      · exact bt e2 e3 boot_sum (c_sum g.calm)
    · cases h
  · split at h
    · rename_i e; cases h
      obtain ⟨e1, rfl, e3, e4, e5⟩ := e
      cases o <;> cases e1
      · exact isi e3 e4 e5 boot_str c_isStr
      · exact isi e3 e4 e5 boot_int c_isInt
      · exact isi e3 e4 e5 boot_tuple c_isTup
      · exact isi e3 e4 e5 boot_bool c_isBool
    · cases h
  · split at h
    · rename_i e; cases h
      obtain ⟨rfl, rfl, e3, e4⟩ := e
      refine pq_plain (pe_imp (pe_bm0 PySem.F.plainAttrs_list PySem.F.slot_list_pop PySem.F.type_list_pop m_pop ha (base_ok e3) e4) fun σ H Q q => tE_imp (r1_then q) fun v H1 z => ⟨?_, rfl, z⟩) rfl
      obtain ⟨W, μ₀, st₀, H₀, μ, st, r, P, hv, a⟩ := z
      simp only [f1] at a
      split at a
      · rename_i n ds e
        obtain ⟨vs, rfl, e1, rfl, e2, q1⟩ := mutAt_ok P.rel hv e
        exact .inl ⟨rfl, vs, .of e2⟩
      · exact a.elim
    · cases h
  · split at h
    · rename_i e; cases h; subst e
      refine pq_plain (pe_imp (pe_revL ha) fun σ H Q q => tE_imp (r1_then q) fun v H1 z => ?_) rfl
      obtain ⟨W, μ₀, st₀, H₀, μ, st, r, P, hv, a⟩ := z
      simp only [f1] at a
      split at a
      · rename_i ds e
        obtain ⟨p, vs, rfl, e1, e2⟩ := seqR_list P.rel hv e
        exact ⟨p, vs, rfl, e1, fun q hq => finL a P (VRs.reverse e2) hq⟩
      · exact a.elim
    · cases h
  · cases h
end
end Mi
end
section
set_option linter.all false
set_option autoImplicit false
set_option maxRecDepth 10000
/-! MiView2: insert, slices, tests, calls. -/
namespace Mi
open PySem PySem.Spec L2
open PyProof.Rows hiding RelV

theorem bind_assoc {α β γ : Type} (r : Res α) (f : α → Store → Res β) (g : β → Store → Res γ) : (r.bind f).bind g = r.bind fun a st => (f a st).bind g := by
  cases r <;> rfl
section
variable {K : PySem.W.Frag} {H H' H₀ : Hp} {μ μ' μ₀ : Mu} {N : Nat}
theorem VRRs.uncons {v : V} {r : RV} {vs : List V} {rs : List RV} {ps : List Addr} (h : VRRs K H₀ H μ N (v :: vs) (r :: rs) ps) : VRR K H₀ H μ N v r ∧ ∃ qs, VRRs K H₀ H μ N vs rs qs := by
  cases h with
  | v a b => exact ⟨a, _, b⟩
  | l a b c d e f => exact ⟨⟨_, _, rfl, a, b, c, d⟩, _, f⟩
end
section
variable {X : Cx} {W : XW} {c : Ctx} {cs : List Fn} {a b e : E} {xa xb xc x : Expr}
/-! ### insert -/
def v3 (o : O3) (x : Expr) : Option (Expr × Expr × Expr) := match x with
  | .Call (.Attribute r m apos) [e, f] [] cpos => if o = .insert ∧ m = "insert" ∧ baseOk r = true ∧ noS e = true ∧ noS f = true ∧ (apos.endLine == cpos.line) = true then some (r, e, f) else none
  | _ => none
theorem few2 {e f : Expr} {env : PySem.Env} {cpos : Pos} (h : noS e = true) (h2 : noS f = true) : ((backTo cpos (starEach [e, f] env)).all (fun x => !x.1) && (backToKw cpos (keywordEach [] env)).all (fun x => x.1.isSome)
      && decide (([e, f] : List Expr).length + ([] : List Keyword).length + (if ([] : List Keyword).isEmpty then 0 else 1) < 30)) = true := by
  rw [starAll (by simp [h, h2])]; rfl
theorem v3_ok {o : O3} (h : v3 o x = some (xa, xb, xc)) (ha : PE X xa (tE X.K W (ev cs a))) (hb : PE X xb (tE X.K W (ev cs b))) (hc : PE X xc (tE X.K W (ev cs e))) : PQ X W x (ev cs (.op3 o a b e)) := by
  unfold v3 at h
  split at h
  · split at h
    · rename_i z; cases h
      obtain ⟨rfl, rfl, e2, e3, e5, e4⟩ := z
      refine pq_plain (pe_imp (pe_bm PySem.F.plainAttrs_list PySem.F.slot_list_insert PySem.F.type_list_insert m_insert ha (pa_cons hb (pa_cons hc pa_nil (star1 e5)) (star1 e3)) (base_ok e2) (few2 e3 e5) e4 (star1 e3) (starA (by simp [e5]))) fun σ H Q q => ?_) rfl
      refine tE_imp (op3_then q) fun v H1 z => ?_
      obtain ⟨⟨H₀, μ, st, r, R, hv, hp⟩, z⟩ := z
      have : ∃ ds, seqR st r = some (true, ds) := by
        simp only [pre3] at hp
        split at hp
        · rename_i ds e; exact ⟨ds, e⟩
        · cases hp
      obtain ⟨ds, e6⟩ := this
      obtain ⟨p, vs, e7, e8, _⟩ := seqR_list R hv e6
      refine ⟨by rw [e7]; exact .inl ⟨rfl, vs, e8⟩, tE_imp z fun y H2 z => tE_imp z fun w H3 z => ?_⟩
      obtain ⟨W, μ₀, st₀, H₀, μ, st, r, q, u, ps, P, hv, a⟩ := z
      obtain ⟨h1, _, hv⟩ := hv.uncons
      obtain ⟨h2, _, hv⟩ := hv.uncons
      exact ⟨y, w, rfl, W, μ₀, st₀, H₀, μ, st, r, q, u, P, h1, h2, hv.uncons.1, a⟩
    · cases h
  · cases h

/-! ### slices -/
theorem n_opt0 : PO X none (tO X.K W fun ρ st => optI (isNil .nil) (ev cs .nil ρ) st) := po_imp po_none fun σ H Q ⟨μ, st, ρ, r, er, a⟩ => a μ H (.refl r)
theorem n_opt1 (hn : isNil a = false) (ha : PE X xa (tE X.K W (ev cs a))) : PO X (some xa) (tO X.K W fun ρ st => optI (isNil a) (ev cs a ρ) st) := po_imp (po_some ha) fun σ H Q ⟨μ, st, ρ, r, er, z⟩ => by
  refine ⟨μ, st, ρ, r, er, ?_⟩
  simp only [optI, hn, Bool.false_eq_true, if_false] at z
  cases hf : ev cs a ρ st with
  | bad => rw [hf] at z; exact z
  | exc c p st' => rw [hf] at z; exact z
  | ok r1 st1 =>
    rw [hf] at z
    intro μ1 H1 v P1 hv
    simp only [Res.bind] at z
    split at z
    · rename_i i
      exact ⟨i, (nr_v hv).i_int, z μ1 H1 P1⟩
    · exact z.elim
theorem mid_opt {K : PySem.W.Frag} {σ : L2.St} {H : Hp} {f : Comp (Option Int)} {g : List RV → Comp RV} {g' : Option Int → List RV → Comp RV} {vs : List V} {Q : VK} (h : Mid K W σ vs H g Q)
    (e : ∀ rs ρ st, rs.length = vs.length → g rs ρ st = ((f ρ st).bind fun l st1 => g' l rs ρ st1)) : tO K W f σ H fun l H1 => Mid K W σ vs H1 (g' l) Q := by
  obtain ⟨μ₀, st₀, H₀, ρ, μ, st, rs, ps, r, er, P, hv, a⟩ := h
  refine ⟨μ, st, ρ, P.rel, er.step P r, ?_⟩
  rw [e rs ρ st hv.len] at a
  cases hf : f ρ st with
  | bad => rw [hf] at a; exact a
  | exc c p st' => rw [hf] at a; exact fun μ' H' P' => a μ' H' (P.trans P')
  | ok x st1 =>
    rw [hf] at a
    intro μ1 H1 P1
    exact ⟨μ₀, st₀, H₀, ρ, μ1, st1, rs, ps, r, er, P.trans P1, hv.step P1 P.rel, a⟩
theorem tO_imp {K : PySem.W.Frag} {f : Comp (Option Int)} {σ : L2.St} {H : Hp} {Q Q' : Option Int → Hp → Prop} (h : tO K W f σ H Q) (i : ∀ v H, Q v H → Q' v H) : tO K W f σ H Q' := by
  obtain ⟨μ, st, ρ, r, er, a⟩ := h
  refine ⟨μ, st, ρ, r, er, ?_⟩
  cases hf : f ρ st with
  | bad => rw [hf] at a; exact a
  | exc c p st' => rw [hf] at a; exact a
  | ok r1 st1 => rw [hf] at a; exact fun μ' H' P => i _ _ (a μ' H' P)
theorem n_sl {lo hi : E} {xlo xhi : Option Expr} {p2 pos : Pos} (ha : PE X xa (tE X.K W (ev cs a))) (hl : PO X xlo (tO X.K W fun ρ st => optI (isNil lo) (ev cs lo ρ) st)) (hh : PO X xhi (tO X.K W fun ρ st => optI (isNil hi) (ev cs hi ρ) st)) :
    PQ X W (.Subscript xa (.Slice xlo xhi none p2) pos) (ev cs (.sl a lo hi)) := by
  refine pq_plain (pe_imp (pe_slice s_any ha hl hh) fun σ H Q q => ?_) rfl
  have m := mid_start (g := fun _ ρ st => (ev cs a ρ st).bind fun r st1 => (optI (isNil lo) (ev cs lo ρ) st1).bind fun l st2 => (optI (isNil hi) (ev cs hi ρ) st2).bind fun h st3 => fsl r l h st3) q fun ρ st => by rw [ev]
  refine tE_imp (mid_next (f := ev cs a) (g' := fun rs ρ st1 => match rs with | [r] => (optI (isNil lo) (ev cs lo ρ) st1).bind fun l st2 => (optI (isNil hi) (ev cs hi ρ) st2).bind fun h st3 => fsl r l h st3 | _ => .bad) m fun rs ρ st hl => .inl ?_) fun v H1 m => ?_
  · cases rs with
    | nil => rfl
    | cons _ _ => cases hl
  refine tO_imp (mid_opt (f := fun ρ st => optI (isNil lo) (ev cs lo ρ) st) (g' := fun l rs ρ st2 => match rs with | [r] => (optI (isNil hi) (ev cs hi ρ) st2).bind fun h st3 => fsl r l h st3 | _ => .bad) m fun rs ρ st hl => ?_) fun l H2 m => ?_
  · rcases rs with _ | ⟨r, _ | ⟨_, _⟩⟩ <;> first | rfl | cases hl
  refine tO_imp (mid_opt (f := fun ρ st => optI (isNil hi) (ev cs hi ρ) st) (g' := fun h rs ρ st2 => match rs with | [r] => fsl r l h st2 | _ => .bad) m fun rs ρ st hl => ?_) fun h H3 m => ?_
  · rcases rs with _ | ⟨r, _ | ⟨_, _⟩⟩ <;> first | rfl | cases hl
  obtain ⟨μ₀, st₀, H₀, ρ, μ, st, r, _, _, P, hv, z⟩ := mid1 m
  exact ⟨W, μ₀, st₀, H₀, μ, st, r, P, hv, z⟩

/-! ### tests -/
theorem tT_then {f g : Comp RV} {h : Bool → Comp RV} {K : PySem.W.Frag} {σ : L2.St} {H : Hp} {Q : VK} (hf : ∀ ρ st, f ρ st = ((g ρ st).bind fun r st1 => truthR r st1).bind fun k st2 => h k ρ st2) (q : tE K W f σ H Q) :
    tT K W g σ H fun k H1 => tE K W (h k) σ H1 Q := by
  obtain ⟨μ, st, ρ, r, er, a⟩ := q
  refine ⟨μ, st, ρ, r, er, ?_⟩
  rw [hf] at a
  cases hg : (g ρ st).bind fun r st1 => truthR r st1 with
  | bad => rw [hg] at a; exact a
  | exc c p st' => rw [hg] at a; exact a
  | ok k st1 => rw [hg] at a; exact fun μ1 H1 P1 => ⟨μ1, st1, ρ, P1.rel, er.step P1 r, a.step P1⟩
theorem tT_thenT {f g : Comp RV} {h : Bool → Comp RV} {K : PySem.W.Frag} {σ : L2.St} {H : Hp} {Q : Bool → Hp → Prop} (hf : ∀ ρ st, f ρ st = ((g ρ st).bind fun r st1 => truthR r st1).bind fun k st2 => h k ρ st2) (q : tT K W f σ H Q) :
    tT K W g σ H fun k H1 => tT K W (h k) σ H1 Q := by
  obtain ⟨μ, st, ρ, r, er, a⟩ := q
  refine ⟨μ, st, ρ, r, er, ?_⟩
  rw [hf, bind_assoc] at a
  cases hg : (g ρ st).bind fun r st1 => truthR r st1 with
  | bad => rw [hg] at a; exact a
  | exc c p st' => rw [hg] at a; exact a
  | ok k st1 => rw [hg] at a; exact fun μ1 H1 P1 => ⟨μ1, st1, ρ, P1.rel, er.step P1 r, a.step P1⟩
theorem ite_eq (ρ : Env) (st : Store) : ev cs (.ite e a b) ρ st = ((ev cs e ρ st).bind fun r st1 => truthR r st1).bind fun k st2 => if k then ev cs a ρ st2 else ev cs b ρ st2 := by rw [bind_assoc, ev]
theorem not_eq (ρ : Env) (st : Store) : ev cs (.not a) ρ st = ((ev cs a ρ st).bind fun r st1 => truthR r st1).bind fun k st2 => .ok (.v (.bl (!k))) st2 := by rw [bind_assoc, ev]
theorem n_ite {pos : Pos} (hc : PQ X W xc (ev cs e)) (ha : PQ X W xa (ev cs a)) (hb : PQ X W xb (ev cs b)) : PQ X W (.IfExp xc xa xb pos) (ev cs (.ite e a b)) := by
  refine ⟨pe_imp (pe_ifExp hc.t ha.e hb.e) fun σ H Q q => ?_, ⟨fun pins s σ H Q I q => ?_⟩⟩
  · have := tT_then (h := fun k ρ st2 => if k then ev cs a ρ st2 else ev cs b ρ st2) ite_eq q
    obtain ⟨μ, st, ρ, r, er, z⟩ := this
    refine ⟨μ, st, ρ, r, er, ?_⟩
    cases hg : (ev cs e ρ st).bind fun r st1 => truthR r st1 with
    | bad => rw [hg] at z; exact z
    | exc c p st' => rw [hg] at z; exact z
    | ok k st1 =>
      rw [hg] at z
      intro μ1 H1 P1
      have := z μ1 H1 P1
      cases k <;> exact this
  · have z := tT_thenT (h := fun k ρ st2 => if k then ev cs a ρ st2 else ev cs b ρ st2) ite_eq q
    show wpAny (model X.prog X.w) X.A (do if ← isTrue xc X.env (eval xc X.env) then isTrue xa X.env (eval xa X.env) else isTrue xb X.env (eval xb X.env)) (TP X pins σ Q) X.xe s
    refine wpAny_bind (thn (hc.t.run pins s σ H _ I z) fun k s1 ⟨H1, I1, q1⟩ => ?_)
    cases k with
    | true => exact ha.t.run pins s1 σ H1 Q I1 q1
    | false => exact hb.t.run pins s1 σ H1 Q I1 q1
theorem n_not {pos : Pos} (ha : PQ X W xa (ev cs a)) : PQ X W (.UnaryOp .Not xa pos) (ev cs (.not a)) := by
  have key : ∀ {σ : L2.St} {H : Hp} {R : Bool → Hp → Prop}, tT X.K W (fun ρ st => (((ev cs a ρ st).bind fun r st1 => truthR r st1).bind fun k st2 => .ok (.v (.bl (!k))) st2)) σ H R → tT X.K W (ev cs a) σ H fun k H1 => R (!k) H1 := fun {σ H R} q => by
    obtain ⟨μ, st, ρ, r, er, z⟩ := q
    refine ⟨μ, st, ρ, r, er, ?_⟩
    dsimp only at z
    cases hg : (ev cs a ρ st).bind fun r st1 => truthR r st1 with
    | bad => rw [hg] at z; exact z
    | exc c p st' => rw [hg] at z; exact z
    | ok k st1 => rw [hg] at z; exact fun μ1 H1 P1 => z μ1 H1 P1
  refine ⟨⟨fun pins s σ H Q I q => ?_⟩, pt_imp (pt_not ha.t) fun σ H Q q => key (by
    obtain ⟨μ, st, ρ, r, er, z⟩ := q
    rw [not_eq] at z
    exact ⟨μ, st, ρ, r, er, z⟩)⟩
  have q2 : tT X.K W (ev cs a) σ H fun k H1 => Q (.bl (!k)) H1 := by
    obtain ⟨μ, st, ρ, r, er, z⟩ := q
    refine ⟨μ, st, ρ, r, er, ?_⟩
    rw [not_eq] at z
    cases hg : (ev cs a ρ st).bind fun r st1 => truthR r st1 with
    | bad => rw [hg] at z; exact z
    | exc c p st' => rw [hg] at z; exact z
    | ok k st1 => rw [hg] at z; exact fun μ1 H1 P1 => z μ1 H1 _ P1 (.bl _)
  refine UnaryOp_ (thn (ha.e.run pins s σ H _ I (tT_truth q2)) fun v s1 ⟨x, H1, I1, r1, k, tv, q1⟩ => ?_)
  exact not_of (thn (tru_ok pins s1 σ H1 x v (fun k H2 => Q (.bl (!k)) H2) I1 r1 ⟨k, tv, q1⟩) fun k s2 ⟨H2, I2, q3⟩ => ⟨.bl (!k), H2, I2, rfl, q3⟩)
end
end Mi
end
section
set_option linter.all false
set_option autoImplicit false
set_option maxRecDepth 10000
/-! MiBool: and, or, chains. -/
namespace Mi
open PySem PySem.Spec L2
open PyProof.Rows hiding RelV

/-- and/or of one value is that value -/
def strip : Expr → Expr
  | .BoolOp _ [a] _ => a
  | x => x
def vAnd (x : Expr) : Option (Expr × Expr) := match x with
  | .BoolOp .And (a :: b :: r) p => some (a, strip (.BoolOp .And (b :: r) p))
  | _ => none
def vOr (x : Expr) : Option (Expr × Expr) := match x with
  | .BoolOp .Or (a :: b :: r) p => some (a, strip (.BoolOp .Or (b :: r) p))
  | _ => none
section
variable {X : Cx} {W : XW} {c : Ctx} {cs : List Fn} {a b e : E} {xa xb xc x : Expr}
theorem strip_e {op : BoolOp} {b : Expr} {r : List Expr} {p : Pos} {t : TE} (h : PE X (strip (.BoolOp op (b :: r) p)) t) : PE X (.BoolOp op (b :: r) p) t := by
  cases r with
  | nil => exact pe_one h
  | cons _ _ => exact h
theorem strip_and {b : Expr} {r : List Expr} {p : Pos} {t : TT} (h : PT X (strip (.BoolOp .And (b :: r) p)) t) : PW X (.BoolOp .And (b :: r) p) t := by
  cases r with
  | nil => exact pw_and1 h
  | cons _ _ => exact ⟨fun wh pins s σ H Q I q => h.run pins s σ H Q I q⟩
theorem strip_or {b : Expr} {r : List Expr} {p : Pos} {t : TT} (h : PT X (strip (.BoolOp .Or (b :: r) p)) t) : PW X (.BoolOp .Or (b :: r) p) t := by
  cases r with
  | nil => exact pw_or1 h
  | cons _ _ => exact ⟨fun wh pins s σ H Q I q => h.run pins s σ H Q I q⟩
theorem AfterT.bl {K : PySem.W.Frag} {μ : Mu} {st : Store} {H : Hp} {st1 : Store} {b : Bool} : truthR (.v (.bl b)) st1 = .ok b st1 := rfl
theorem n_and (h : vAnd x = some (xa, xb)) (ha : PQ X W xa (ev cs a)) (hb : PQ X W xb (ev cs b)) : PQ X W x (ev cs (.and a b)) := by
  unfold vAnd at h
  split at h
  · cases h
    refine ⟨pe_imp (pe_and ha.e (strip_e hb.e)) fun σ H Q q => ?_, pt_imp (PW.pt (pw_and ha.t (strip_and hb.t))) fun σ H Q q => ?_⟩
    · obtain ⟨μ, st, ρ, r, er, z⟩ := q
      refine ⟨μ, st, ρ, r, er, ?_⟩
      rw [ev] at z
      cases hf : ev cs a ρ st with
      | bad => rw [hf] at z; exact z
      | exc c p st' => rw [hf] at z; exact z
      | ok r1 st1 =>
        rw [hf] at z
        intro μ1 H1 v P1 hv
        simp only [Res.bind] at z
        split at z
        · exact ⟨true, (nr_v hv).i_bl, μ1, st1, ρ, P1.rel, er.step P1 r, z.step P1⟩
        · exact ⟨false, (nr_v hv).i_bl, z μ1 H1 _ P1 (.bl _)⟩
        · exact z.elim
    · obtain ⟨μ, st, ρ, r, er, z⟩ := q
      refine ⟨μ, st, ρ, r, er, ?_⟩
      rw [ev, bind_assoc] at z
      cases hf : ev cs a ρ st with
      | bad => rw [hf] at z; exact z
      | exc c p st' => rw [hf] at z; exact z
      | ok r1 st1 =>
        rw [hf] at z
        cases r1 with
        | l _ => exact z.elim
        | v d => cases d with
          | bl k => cases k with
            | true => exact fun μ1 H1 P1 => ⟨μ1, st1, ρ, P1.rel, er.step P1 r, AfterT.step P1 z⟩
            | false => exact fun μ1 H1 P1 => z μ1 H1 P1
          | _ => exact z.elim
  · cases h
theorem n_or (h : vOr x = some (xa, xb)) (ha : PQ X W xa (ev cs a)) (hb : PQ X W xb (ev cs b)) : PQ X W x (ev cs (.or a b)) := by
  unfold vOr at h
  split at h
  · cases h
    refine ⟨pe_imp (pe_or ha.e (strip_e hb.e)) fun σ H Q q => ?_, pt_imp (PW.pt (pw_or ha.t (strip_or hb.t))) fun σ H Q q => ?_⟩
    · obtain ⟨μ, st, ρ, r, er, z⟩ := q
      refine ⟨μ, st, ρ, r, er, ?_⟩
      rw [ev] at z
      cases hf : ev cs a ρ st with
      | bad => rw [hf] at z; exact z
      | exc c p st' => rw [hf] at z; exact z
      | ok r1 st1 =>
        rw [hf] at z
        intro μ1 H1 v P1 hv
        simp only [Res.bind] at z
        split at z
        · exact ⟨true, (nr_v hv).i_bl, z μ1 H1 _ P1 (.bl _)⟩
        · exact ⟨false, (nr_v hv).i_bl, μ1, st1, ρ, P1.rel, er.step P1 r, z.step P1⟩
        · exact z.elim
    · obtain ⟨μ, st, ρ, r, er, z⟩ := q
      refine ⟨μ, st, ρ, r, er, ?_⟩
      rw [ev, bind_assoc] at z
      cases hf : ev cs a ρ st with
      | bad => rw [hf] at z; exact z
      | exc c p st' => rw [hf] at z; exact z
      | ok r1 st1 =>
        rw [hf] at z
        cases r1 with
        | l _ => exact z.elim
        | v d => cases d with
          | bl k => cases k with
            | true => exact fun μ1 H1 P1 => z μ1 H1 P1
            | false => exact fun μ1 H1 P1 => ⟨μ1, st1, ρ, P1.rel, er.step P1 r, AfterT.step P1 z⟩
          | _ => exact z.elim
  · cases h
/-! ### a op b op c -/
def vChain (o p : O2) (x : Expr) : Option (Expr × Expr × Expr) := match x with
  | .Compare a [op, op'] [b, d] _ => if c2 op = some o ∧ c2 op' = some p ∧ noSet d = true then some (a, b, d) else none
  | _ => none
theorem n_chain {o p : O2} {d : E} {xd : Expr} (hu : X.A.units + 64 < cLine) (h : vChain o p x = some (xa, xb, xd)) (ha : PE X xa (tE X.K W (ev cs a))) (hb : PE X xb (tE X.K W (ev cs b))) (hd : PE X xd (tE X.K W (ev cs d))) : PQ X W x (ev cs (.chain o p a b d)) := by
  unfold vChain at h
  split at h
  · split at h
    · rename_i op op' pos z
      cases h
      obtain ⟨z1', z2, z3⟩ := z
      have key : ∀ {σ : L2.St} {H : Hp} {Q : VK}, tE X.K W (ev cs (.chain o p a b d)) σ H Q → tChain (r2 X o) (r2 X p) (tE X.K W (ev cs a)) (tE X.K W (ev cs b)) (tE X.K W (ev cs d)) σ H Q := fun {σ H Q} q => by
        have m := mid_start (g := fun _ ρ st => (ev cs a ρ st).bind fun r st1 => (ev cs b ρ st1).bind fun q st2 => if isV r && isV q then (f2 o r q st2).bind fun z st3 => chn z st3 fun st4 => (ev cs d ρ st4).bind fun u st5 => f2 p q u st5 else .bad) q fun ρ st => by rw [ev]
        refine tE_imp (mid_next (f := ev cs a) (g' := fun rs ρ st1 => match rs with | [r] => (ev cs b ρ st1).bind fun q st2 => if isV r && isV q then (f2 o r q st2).bind fun z st3 => chn z st3 fun st4 => (ev cs d ρ st4).bind fun u st5 => f2 p q u st5 else .bad | _ => .bad) m fun rs ρ st hl => .inl ?_) fun v H1 m => ?_
        · cases rs with
          | nil => rfl
          | cons _ _ => cases hl
        refine tE_imp (mid_next (f := ev cs b) (g' := fun rs ρ st2 => match rs with | [r, q] => if isV r && isV q then (f2 o r q st2).bind fun z st3 => chn z st3 fun st4 => (ev cs d ρ st4).bind fun u st5 => f2 p q u st5 else .bad | _ => .bad) m fun rs ρ st hl => .inl ?_) fun y H2 m => ?_
        · rcases rs with _ | ⟨r, _ | ⟨_, _⟩⟩ <;> first | rfl | cases hl
        obtain ⟨μ₀, st₀, H₀, ρ, μ, st, rs, ps, r, er, P, hv, z⟩ := m
        have hl := hv.len
        rcases rs with _ | ⟨r1, _ | ⟨r2, _ | ⟨_, _⟩⟩⟩ <;> first | cases hl | skip
        obtain ⟨h1, _, h2⟩ := hv.uncons
        replace h2 := h2.uncons.1
        dsimp only at z
        cases r1 with
        | l _ => exact z.elim
        | v d1 =>
          cases r2 with
          | l _ => exact z.elim
          | v d2 =>
            simp only [isV, Bool.and_self, if_true] at z
            refine ⟨W, μ, st, H2, μ, st, .v d1, .v d2, .refl P.rel, h1, h2, ?_⟩
            cases hf : f2 o (.v d1) (.v d2) st with
            | bad => rw [hf] at z; exact z
            | exc c p st' => rw [hf] at z; exact fun μ' H' P' => z μ' H' (P.trans P')
            | ok z1 st3 =>
              rw [hf] at z
              intro μ3 H3 w P3 hw
              simp only [Res.bind] at z
              obtain ⟨k, rfl⟩ := c2_bool z1' hf
              cases k with
              | false => exact ⟨false, (nr_v hw).i_bl, z μ3 H3 _ (P.trans P3) (.bl _)⟩
              | true =>
                refine ⟨true, (nr_v hw).i_bl, μ3, st3, ρ, P3.rel, er.step (P.trans P3) r, ?_⟩
                simp only [chn] at z
                cases hd' : ev cs d ρ st3 with
                | bad => rw [hd'] at z; exact z
                | exc c p st' => rw [hd'] at z; exact fun μ' H' P' => z μ' H' ((P.trans P3).trans P')
                | ok u st4 =>
                  rw [hd'] at z
                  intro μ4 H4 w' P4 hw'
                  exact ⟨W, μ₀, st₀, H₀, μ4, st4, .v d2, u, (P.trans P3).trans P4, VR.keep (P4.keep P3.rel) _ _ (VR.keep (P3.keep P.rel) _ _ h2), hw'.older fun _ z => (P.trans P3).free z, z⟩
      refine ⟨pe_imp (pe_chain (c2_ok hu z1') (c2_ok hu z2) ha hb hd (marks_ok z3)) fun σ H Q q => key q, pt_imp (pt_chain (c2_ok hu z1') (c2_ok hu z2) ha hb hd (marks_ok z3)) fun σ H Q q => key (tT_bool (fun ρ st r st' e2 => ?_) q)⟩
      rw [ev] at e2
      cases ha' : ev cs a ρ st with
      | bad => rw [ha'] at e2; cases e2
      | exc _ _ _ => rw [ha'] at e2; cases e2
      | ok r1 st1 =>
        rw [ha'] at e2
        simp only [Res.bind] at e2
        cases hb' : ev cs b ρ st1 with
        | bad => rw [hb'] at e2; cases e2
        | exc _ _ _ => rw [hb'] at e2; cases e2
        | ok r2 st2 =>
          rw [hb'] at e2
          simp only [Res.bind] at e2
          split at e2
          · cases hf : f2 o r1 r2 st2 with
            | bad => rw [hf] at e2; cases e2
            | exc _ _ _ => rw [hf] at e2; cases e2
            | ok u st3 =>
              rw [hf] at e2
              simp only [Res.bind] at e2
              obtain ⟨k, rfl⟩ := c2_bool z1' hf
              cases k with
              | false => simp only [chn] at e2; cases e2; exact ⟨_, rfl⟩
              | true =>
                simp only [chn] at e2
                cases hd' : ev cs d ρ st3 with
                | bad => rw [hd'] at e2; cases e2
                | exc _ _ _ => rw [hd'] at e2; cases e2
                | ok u st4 => rw [hd'] at e2; exact c2_bool z2 e2
          · cases e2
    · cases h
  · cases h
end
end Mi
end
section
set_option linter.all false
set_option autoImplicit false
set_option maxRecDepth 10000
/-! MiDict: dict displays, stores. -/
namespace Mi
open PySem PySem.Spec L2
open PyProof.Rows hiding RelV

section
variable {K : PySem.W.Frag} {H H' H₀ : Hp} {μ μ' μ₀ : Mu} {N : Nat} {st st' st₀ : Store}
theorem key_beq (k' k : Key) : (keyVal k' == keyVal k) = decide (k' = k) := by
  by_cases h : k' = k
  · subst h; simp
  · rw [decide_eq_false h, beq_eq_false_iff_ne]
    exact fun z => h (key_inj z)
theorem dr_any {l : List (Key × V)} {kvs : List (Val × Val)} {k : Key} (h : DRs K H μ N l kvs) : kvs.any (fun kv => kv.1 == keyVal k) = l.any fun kv => decide (kv.1 = k) := by
  induction h with
  | nil => rfl
  | cons _ _ ih => simp only [List.any_cons, ih, key_beq]
theorem dr_map {l : List (Key × V)} {kvs : List (Val × Val)} {k : Key} {v : V} {d : Val} (h : DRs K H μ N l kvs) (hv : VR K H μ N v d) : DRs K H μ N (l.map fun kv => if kv.1 = k then (kv.1, v) else kv) (kvs.map fun kv => if kv.1 == keyVal k then (kv.1, d) else kv) := by
  induction h with
  | nil => exact .nil
  | @cons k' v' d' l r h1 _ ih =>
    simp only [List.map_cons, key_beq]
    by_cases e : k' = k
    · simp only [e, decide_true, if_true]
      exact .cons hv ih
    · simp only [e, decide_false, Bool.false_eq_true, if_false]
      exact .cons h1 ih
theorem dr_app {l : List (Key × V)} {kvs : List (Val × Val)} {k : Key} {v : V} {d : Val} (h : DRs K H μ N l kvs) (hv : VR K H μ N v d) : DRs K H μ N (l ++ [(k, v)]) (kvs ++ [(keyVal k, d)]) := by
  induction h with
  | nil => exact .cons hv .nil
  | cons h1 _ ih => exact .cons h1 ih
theorem dr_put {l : List (Key × V)} {kvs : List (Val × Val)} {k : Key} {v : V} {d : Val} (h : DRs K H μ N l kvs) (hv : VR K H μ N v d) : DRs K H μ N (putK l k v) (kput kvs (keyVal k) d) := by
  unfold putK kput
  rw [dr_any h]
  split
  · exact dr_map h hv
  · exact dr_app h hv
theorem dr_merge : ∀ {more : List (Key × V)} {mo : List (Val × Val)} {l : List (Key × V)} {kvs : List (Val × Val)}, DRs K H μ N more mo → DRs K H μ N l kvs → DRs K H μ N (mergeK l more) (mergeD kvs mo) := by
  intro more mo l kvs h
  induction h generalizing l kvs with
  | nil => exact fun g => g
  | cons h1 _ ih => exact fun g => ih (dr_put g h1)
theorem dicOf_ok : ∀ {ps : List (V × V)} {ds : List Val} {kvs : List (Val × Val)}, VRs K H μ N (ps.flatMap fun p => [p.1, p.2]) ds → dicOf false ds = some kvs → ∃ l : List (Key × V), ps = l.map (fun kv => (kV kv.1, kv.2)) ∧ DRs K H μ N l kvs ∧ l.length = kvs.length := by
  intro ps
  induction ps with
  | nil =>
    intro ds kvs h e
    cases h
    simp [dicOf] at e
    subst e
    exact ⟨[], rfl, .nil, rfl⟩
  | cons p ps ih =>
    intro ds kvs h e
    simp only [List.flatMap_cons, List.cons_append, List.nil_append] at h
    cases h with
    | cons h1 h2 =>
      cases h2 with
      | cons h2 h3 =>
        simp only [dicOf] at e
        split at e
        · rename_i hk
          simp only [Option.map_eq_some_iff] at e
          obtain ⟨r, e1, rfl⟩ := e
          obtain ⟨l, rfl, e2, e3⟩ := ih h3 e1
          obtain ⟨kk, e4, rfl⟩ := key_of_val hk h1
          exact ⟨(kk, p.2) :: l, by simp [← e4], .cons h2 e2, by simp [e3]⟩
        · cases e
/-- an object that stood alone moves into the store -/
theorem Post.addD {p : Addr} {l : List (Key × V)} {kvs : List (Val × Val)} (P : Post K μ₀ st₀ H₀ μ st H) (h0 : H₀ p = none) (h1 : H p = some (.dK [])) (r : DRs K H μ st.length l kvs)
    (ne : ∀ n, n < st.length → μ n ≠ p) : Post K μ₀ st₀ H₀ (muAdd μ st.length p) (st ++ [Obj.dic false kvs]) (L2.upd H p (.dK l)) := by
  have k : Keep K H (L2.upd H p (.dK l)) μ (muAdd μ st.length p) st.length (st ++ [Obj.dic false kvs]).length :=
    ⟨fun n hn => by unfold muAdd; rw [if_neg (Nat.ne_of_lt hn)], by simp, fun a xs h => by
      rcases h with (h | ⟨ob, h⟩) | h
      · exact .inl (.inl (by rw [upd_ne fun e => by rw [e, h1] at h; cases h]; exact h))
      · exact .inl (.inr ⟨ob, by rw [upd_ne fun e => by rw [e, h1] at h; cases h]; exact h⟩)
      · exact .inr h⟩
  refine ⟨fun n hn => ?_, Nat.le_trans P.len k.len, ⟨fun n o e => ?_, fun n m hn hm e => ?_⟩, fun a o h c => ?_, fun n hn hl => ?_⟩
  · rw [k.same n (Nat.lt_of_lt_of_le hn P.len)]; exact P.same n hn
  · by_cases hn : n < st.length
    · rw [List.getElem?_append_left hn] at e
      rw [k.same n hn]
      exact (P.rel.obj n o e).keep k (upd_ne (ne n hn))
    · have hn' : n = st.length := by
        have := (List.getElem?_eq_some_iff.mp e).1
        simp at this; omega
      subst hn'
      simp at e
      subst e
      exact ⟨l, by simp [muAdd, L2.upd], r.keep k⟩
  · simp at hn hm
    by_cases h1 : n = st.length <;> by_cases h2 : m = st.length
    · rw [h1, h2]
    · exfalso
      rw [h1] at e
      have hm' : m < st.length := by omega
      rw [k.same m hm'] at e
      exact ne m hm' (by rw [← e]; simp [muAdd])
    · exfalso
      rw [h2] at e
      have hn' : n < st.length := by omega
      rw [k.same n hn'] at e
      exact ne n hn' (by rw [e]; simp [muAdd])
    · have hn' : n < st.length := by omega
      have hm' : m < st.length := by omega
      rw [k.same n hn', k.same m hm'] at e
      exact P.rel.inj n m hn' hm' e
  · rw [upd_ne fun e => by rw [e, h0] at h; cases h]
    exact P.frame a o h c
  · by_cases h1 : n = st.length
    · subst h1; simpa [muAdd] using h0
    · have : n < st.length := by simp at hl; omega
      rw [k.same n this]
      exact P.fresh n hn this
end
section
variable {X : Cx} {W : XW} {c : Ctx} {cs : List Fn} {a b e : E} {xa xb xc x : Expr}
/-- the items of a display, by pairs -/
def trsOf (K : PySem.W.Frag) (W : XW) (cs : List Fn) : E → List (TE × TE)
  | .cons h (.cons h2 t) => (tE K W (ev cs h), tE K W (ev cs h2)) :: trsOf K W cs t
  | _ => []
def evenE : E → Bool
  | .nil => true
  | .cons _ (.cons _ t) => evenE t
  | _ => false
theorem cons_then {K : PySem.W.Frag} {h t : E} {σ : L2.St} {H : Hp} {Q : List V → Hp → Prop} (q : tA K W (evs cs (.cons h t)) σ H Q) : tE K W (ev cs h) σ H fun x H1 => tA K W (evs cs t) σ H1 fun xs H2 => Q (x :: xs) H2 := by
  obtain ⟨μ, st, ρ, r, er, a⟩ := q
  refine ⟨μ, st, ρ, r, er, ?_⟩
  simp only [evs] at a
  cases hf : ev cs h ρ st with
  | bad => rw [hf] at a; exact a
  | exc c p st' => rw [hf] at a; exact a
  | ok x1 st1 =>
    rw [hf] at a
    intro μ1 H1 v P1 hv
    refine ⟨μ1, st1, ρ, P1.rel, er.step P1 r, ?_⟩
    simp only [Res.bind] at a
    cases hg : evs cs t ρ st1 with
    | bad => rw [hg] at a; exact a
    | exc c p st' => rw [hg] at a; exact fun μ' H' P' => a μ' H' (P1.trans P')
    | ok rs st2 =>
      rw [hg] at a
      intro μ2 H2 vs ps P2 hvs
      have hv2 := VRR.step P2 P1.rel hv
      cases x1 with
      | v d => exact a μ2 H2 (v :: vs) ps (P1.trans P2) (.v hv2 (hvs.older fun _ z => P1.free z))
      | l ds =>
        obtain ⟨p, us, rfl, e0, e1, e2, e3⟩ := hv2
        refine a μ2 H2 _ (p :: ps) (P1.trans P2) (.l e0 e1 e2 e3 (fun hp => ?_) (hvs.older fun _ z => P1.free z))
        obtain ⟨p', us', e4, _, e5, _⟩ := hv
        cases e4
        have := hvs.free p hp
        rw [e5] at this; cases this
theorem nil_then {K : PySem.W.Frag} {σ : L2.St} {H : Hp} {Q : List V → Hp → Prop} (q : tA K W (evs cs .nil) σ H Q) : Q [] H := by
  obtain ⟨μ, st, ρ, r, er, a⟩ := q
  exact a μ H [] [] (.refl r) .nil
theorem pairs_then {K : PySem.W.Frag} : ∀ (es : E) {σ : L2.St} {H : Hp} {Q : List V → Hp → Prop}, evenE es = true → tA K W (evs cs es) σ H Q → tPairs (trsOf K W cs es) σ H fun ps H2 => Q (ps.flatMap fun p => [p.1, p.2]) H2
  | .nil, _, _, _, _, q => by unfold trsOf; exact nil_then q
  | .cons h (.cons h2 t), _, _, _, he, q => by
    unfold trsOf
    exact tE_imp (cons_then q) fun x H1 q1 => tE_imp (cons_then q1) fun y H2 q2 => pairs_then t he q2
theorem tPairs_imp : ∀ {trs : List (TE × TE)} {σ : L2.St} {H : Hp} {Q Q' : List (V × V) → Hp → Prop}, tPairs trs σ H Q → (∀ ps H, Q ps H → Q' ps H) → (∀ p ∈ trs, ∀ σ H (R R' : VK), p.1 σ H R → (∀ v H, R v H → R' v H) → p.1 σ H R') → (∀ p ∈ trs, ∀ σ H (R R' : VK), p.2 σ H R → (∀ v H, R v H → R' v H) → p.2 σ H R') → tPairs trs σ H Q'
  | [], _, _, _, _, h, i, _, _ => i _ _ h
  | (tk, tv) :: r, σ, H, Q, Q', h, i, m1, m2 => m1 _ List.mem_cons_self σ H _ _ h fun x H1 h1 => m2 _ List.mem_cons_self σ H1 _ _ h1 fun y H2 h2 => tPairs_imp h2 (fun ps H3 q => i _ _ q) (fun p hp => m1 p (List.mem_cons_of_mem _ hp)) fun p hp => m2 p (List.mem_cons_of_mem _ hp)
theorem trs_mono {K : PySem.W.Frag} : ∀ (es : E), (∀ p ∈ trsOf K W cs es, ∀ σ H (R R' : VK), p.1 σ H R → (∀ v H, R v H → R' v H) → p.1 σ H R') ∧ (∀ p ∈ trsOf K W cs es, ∀ σ H (R R' : VK), p.2 σ H R → (∀ v H, R v H → R' v H) → p.2 σ H R')
  | .cons h (.cons h2 t) => by
    unfold trsOf
    obtain ⟨i1, i2⟩ := trs_mono (K := K) t
    refine ⟨fun p hp => ?_, fun p hp => ?_⟩
    · rcases List.mem_cons.mp hp with rfl | hp
      · exact fun σ H R R' q i => tE_imp q i
      · exact i1 p hp
    · rcases List.mem_cons.mp hp with rfl | hp
      · exact fun σ H R R' q i => tE_imp q i
      · exact i2 p hp
  | .nil => ⟨fun p hp => by simp [trsOf] at hp, fun p hp => by simp [trsOf] at hp⟩
  | .cons h .nil => ⟨fun p hp => by simp [trsOf] at hp, fun p hp => by simp [trsOf] at hp⟩
  | .cons h (.k _) | .cons h (.x _) | .cons h (.g _ _) | .cons h (.tup _) | .cons h (.lst _) | .cons h (.dic _ _) | .cons h (.op1 _ _) | .cons h (.op2 _ _ _) | .cons h (.op3 _ _ _ _) | .cons h (.sl _ _ _) | .cons h (.and _ _) | .cons h (.or _ _) | .cons h (.not _) | .cons h (.ite _ _ _) | .cons h (.chain _ _ _ _ _) | .cons h (.call _ _ _ _) | .cons h (.comp _ _ _ _ _ _ _) => ⟨fun p hp => by simp [trsOf] at hp, fun p hp => by simp [trsOf] at hp⟩
  | .k _ | .x _ | .g _ _ | .tup _ | .lst _ | .dic _ _ | .op1 _ _ | .op2 _ _ _ | .op3 _ _ _ _ | .sl _ _ _ | .and _ _ | .or _ _ | .not _ | .ite _ _ _ | .chain _ _ _ _ _ | .call _ _ _ _ | .comp _ _ _ _ _ _ _ => ⟨fun p hp => by simp [trsOf] at hp, fun p hp => by simp [trsOf] at hp⟩
theorem n_dic {es : E} {ks : List (Option Expr)} {vs : List Expr} {pos : Pos} (he : evenE es = true) (h : PPs X pos ks vs (trsOf X.K W cs es)) (h1 : ks.all (·.isSome) = true) (h2 : ks.length = vs.length) (h3 : ks ≠ []) (h4 : ks.length ≤ 15) : PE X (.Dict ks vs pos) (tE X.K W (ev cs (.dic false es))) := by
  refine pe_imp (pe_disp h h1 h2 h3 h4) fun σ H Q q => ?_
  obtain ⟨μ, st, ρ, r, er, a⟩ := q
  intro p hp
  have P0 : Post X.K μ st H μ st (L2.upd H p (.dK [])) := (Post.refl r).upd hp
  rw [ev] at a
  have q : tA X.K W (evs cs es) σ (L2.upd H p (.dK [])) fun vs H2 => H2 p = some (.dK []) ∧ ∃ μ2 st2 ds kvs, Post X.K μ st H μ2 st2 H2 ∧ VRs X.K H2 μ2 st2.length vs ds ∧ dicOf false ds = some kvs ∧ kvs.length ≤ 15 ∧ (∀ n, n < st2.length → μ2 n ≠ p) ∧ After X.K W μ st H (.ok (.v (.ref st2.length)) (st2 ++ [.dic false (mergeD [] kvs)])) Q := by
    refine ⟨μ, st, ρ, P0.rel, er.step P0 r, ?_⟩
    cases hf : evs cs es ρ st with
    | bad => rw [hf] at a; exact a
    | exc c q st' => rw [hf] at a; exact fun μ' H' P' => a μ' H' (P0.trans P')
    | ok rs st1 =>
      rw [hf] at a
      intro μ1 H1 vs ps P1 hv
      simp only [Res.bind] at a
      cases hd : dicOf false (settles rs st1).1 with
      | none => rw [hd] at a; exact a.elim
      | some kvs =>
        rw [hd] at a
        dsimp only at a
        split at a
        · rename_i hz
          obtain ⟨μ2, P2, k2, z⟩ := settles_ok P1 hv
          obtain ⟨e1, ne⟩ := P2.stay (D := p) upd_same (r.ne hp)
          exact ⟨e1, μ2, _, _, kvs, P0.trans P2, z, hd, hz.1, ne, a⟩
        · exact a.elim
  refine tPairs_imp (pairs_then es he q) (fun ps H2 z => ?_) (trs_mono es).1 (trs_mono es).2
  obtain ⟨e1, μ2, st2, ds, kvs, P2, hv, hd, hz, ne, a⟩ := z
  obtain ⟨l, rfl, hl, hl2⟩ := dicOf_ok hv hd
  refine ⟨e1, l, rfl, by rw [hl2]; exact hz, ?_⟩
  have P3 := P2.addD hp e1 (dr_merge hl .nil) ne
  refine a _ _ _ P3 ?_
  have z : VR X.K (L2.upd H2 p (.dK (mergeK [] l))) (muAdd μ2 st2.length p) (st2 ++ [Obj.dic false (mergeD [] kvs)]).length (.ref (muAdd μ2 st2.length p st2.length)) (.ref st2.length) := .ref (by simp)
  have e : muAdd μ2 st2.length p st2.length = p := by simp [muAdd]
  rw [e] at z
  exact z
theorem n_dic0 {pos : Pos} : PE X (.Dict [] [] pos) (tE X.K W (ev cs (.dic false .nil))) := by
  refine pe_imp pe_dnewK fun σ H Q q => ?_
  obtain ⟨μ, st, ρ, r, er, a⟩ := q
  intro p hp
  have P0 : Post X.K μ st H μ st (L2.upd H p (.dK [])) := (Post.refl r).upd hp
  have P3 := P0.addD (l := []) (kvs := []) hp upd_same .nil (r.ne hp)
  have e2 : L2.upd (L2.upd H p (.dK [])) p (.dK []) = L2.upd H p (.dK []) := by funext b; unfold L2.upd; split <;> rfl
  rw [e2] at P3
  refine a _ _ _ P3 ?_
  have z : VR X.K (L2.upd H p (.dK [])) (muAdd μ st.length p) (st ++ [Obj.dic false []]).length (.ref (muAdd μ st.length p st.length)) (.ref st.length) := .ref (by simp)
  have e : muAdd μ st.length p st.length = p := by simp [muAdd]
  rw [e] at z
  exact z
end
end Mi
end
section
set_option linter.all false
set_option autoImplicit false
set_option maxRecDepth 10000
/-! MiComp: what is walked, comprehensions. -/
namespace Mi
open PySem PySem.Spec L2
open PyProof.Rows hiding RelV

def call1 (f : Str) (c : Ctx) (x : Expr) : Option Expr := match x with
  | .Call (.Name g _) [e] [] _ => if g = f ∧ btB c g = true ∧ noS e = true then some e else none
  | _ => none
def call2 (f : Str) (c : Ctx) (x : Expr) : Option (Expr × Expr) := match x with
  | .Call (.Name g _) [e, e2] [] _ => if g = f ∧ btB c g = true ∧ noS e = true ∧ noS e2 = true then some (e, e2) else none
  | _ => none
def vI (c : Ctx) (k : IK) (iter : Expr) : Option (Expr × Option Expr) := match k with
  | .seq => if noSet iter = true then some (iter, none) else none
  | .range1 => (call1 "range" c iter).map fun e => (e, none)
  | .range2 => (call2 "range" c iter).map fun e => (e.1, some e.2)
  | .enum => (call1 "enumerate" c iter).map fun e => (e, none)
  | .zip => (call2 "zip" c iter).map fun e => (e.1, some e.2)
theorem call1_is {f : Str} {c : Ctx} {x e : Expr} (h : call1 f c x = some e) : ∃ p pos, x = .Call (.Name f p) [e] [] pos ∧ btB c f = true ∧ noS e = true := by
  unfold call1 at h
  split at h
  · split at h
    · rename_i z; cases h; obtain ⟨rfl, z2, z3⟩ := z; exact ⟨_, _, rfl, z2, z3⟩
    · cases h
  · cases h
theorem call2_is {f : Str} {c : Ctx} {x : Expr} {e : Expr × Expr} (h : call2 f c x = some e) : ∃ p pos, x = .Call (.Name f p) [e.1, e.2] [] pos ∧ btB c f = true ∧ noS e.1 = true ∧ noS e.2 = true := by
  unfold call2 at h
  split at h
  · split at h
    · rename_i z; cases h; obtain ⟨rfl, z2, z3⟩ := z; exact ⟨_, _, rfl, z2, z3⟩
    · cases h
  · cases h
def isTupX : Expr → Bool
  | .Tuple .. => true
  | _ => false
/-- pairs are walked into a written tuple -/
def pairT : IK → Expr → Bool
  | .enum, t => isTupX t
  | .zip, t => isTupX t
  | _, _ => true
section
variable {X : Cx} {W : XW} {c : Ctx} {cs : List Fn} {a b e : E} {xa xb xc x tg iter : Expr} {oxb : Option Expr}
theorem vI_set {k : IK} (h : vI c k iter = some (xa, oxb)) : noSet iter = true := by
  cases k <;> simp only [vI, Option.map_eq_some_iff] at h
  · split at h
    · rename_i z; exact z
    · cases h
  all_goals obtain ⟨e, h, _⟩ := h
  · obtain ⟨p, pos, rfl, _⟩ := call1_is h; rfl
  · obtain ⟨p, pos, rfl, _⟩ := call2_is h; rfl
  · obtain ⟨p, pos, rfl, _⟩ := call1_is h; rfl
  · obtain ⟨p, pos, rfl, _⟩ := call2_is h; rfl
/-- the second source -/
def SrcB (X : Cx) (W : XW) (cs : List Fn) (b : E) : Option Expr → Prop
  | none => b = .nil
  | some xb => isNil b = false ∧ PE X xb (tE X.K W (ev cs b))
theorem vI_ok {k : IK} (g : Good X W c cs) (h : vI c k iter = some (xa, oxb)) (ht : pairT k tg = true) (ha : PE X xa (tE X.K W (ev cs a))) (hb : SrcB X W cs b oxb) :
    PI X tg iter (tI X.K W k (ev cs a) fun ρ st => opt2 (isNil b) (ev cs b ρ) st) := by
  have e0 : b = .nil → (fun ρ st => opt2 (isNil b) (ev cs b ρ) st) = fun _ st => .ok (.v .non) st := fun e => by subst e; rfl
  have e1 : isNil b = false → (fun ρ st => opt2 (isNil b) (ev cs b ρ) st) = ev cs b := fun e => by funext ρ st; simp [opt2, e]
  cases k <;> simp only [vI, Option.map_eq_some_iff] at h
  · split at h
    · cases h
      rw [e0 hb]
      exact pi_seq ha
    · cases h
  all_goals obtain ⟨e, h, z⟩ := h; cases z
  · obtain ⟨p, pos, rfl, z2, z3⟩ := call1_is h
    obtain ⟨b1, b2, b3, b4⟩ := btB_ok g z2
    rw [e0 hb]
    exact pi_rng1 b1 b2 ha (star1 z3)
  · obtain ⟨p, pos, rfl, z2, z3, z4⟩ := call2_is h
    obtain ⟨b1, b2, b3, b4⟩ := btB_ok g z2
    rw [e1 hb.1]
    exact pi_rng2 b1 b2 ha hb.2 (by rw [star1 z3, star1 z4]; rfl) (star1 z4)
  · obtain ⟨p, pos, rfl, z2, z3⟩ := call1_is h
    obtain ⟨b1, b2, b3, b4⟩ := btB_ok g z2
    rw [e0 hb]
    cases tg <;> first | exact pi_enm b1 b2 ha (star1 z3) | cases ht
  · obtain ⟨p, pos, rfl, z2, z3, z4⟩ := call2_is h
    obtain ⟨b1, b2, b3, b4⟩ := btB_ok g z2
    rw [e1 hb.1]
    cases tg <;> first | exact pi_zp b1 b2 ha hb.2 (by rw [star1 z3, star1 z4]; rfl) (star1 z4) | cases ht

/-! ### targets -/
def locB (c : Ctx) (x : Str) : Bool := match c.sc.names.lookup x with
  | some .local => true
  | some .cell => c.fnb x
  | _ => false
theorem locB_ok (g : Good X W c cs) {x : Str} (h : locB c x = true) : Loc X.env.scope x ∧ (X.fn x = true ∨ X.env.scope.names.lookup x = some .local) := by
  unfold locB at h
  rw [g.sc]
  split at h
  · rename_i e; exact ⟨.inl e, .inr e⟩
  · rename_i e; exact ⟨.inr e, .inl (g.fn x h)⟩
  · cases h
mutual
def chkT : T → Ctx → Expr → Bool
  | .sl i, c, x => match x with
    | .Name n _ => decide (c.N[i]? = some n) && locB c n
    | _ => false
  | .tp ts, c, x => match x with
    | .Tuple es _ _ => chkTs ts c es
    | _ => false
  | _, _, _ => false
def chkTs : T → Ctx → List Expr → Bool
  | .nil, _, xs => xs.isEmpty
  | .cons t ts, c, xs => match xs with
    | x :: xs => noS x && chkT t c x && chkTs ts c xs
    | _ => false
  | _, _, _ => false
end
theorem chkTs_s : ∀ {ts : T} {xs : List Expr}, chkTs ts c xs = true → xs.all noS = true ∧ xs.length = ts.len := by
  intro ts
  induction ts with
  | sl i => intro xs h; simp [chkTs] at h
  | tp t ih => intro xs h; simp [chkTs] at h
  | nil => intro xs h; simp [chkTs] at h; subst h; exact ⟨rfl, rfl⟩
  | cons t ts _ ih =>
    intro xs h
    cases xs with
    | nil => simp [chkTs] at h
    | cons x xs =>
      simp only [chkTs, Bool.and_eq_true] at h
      obtain ⟨h1, h2⟩ := ih h.2
      exact ⟨by simp [h.1.1, h1], by simp [T.len, h2]⟩
theorem bindTs_len : ∀ {ts : T} {ds : List Val} {ρ ρ' : Env}, bindTs ts ds ρ = some ρ' → ds.length = ts.len := by
  intro ts
  induction ts with
  | sl i => intro ds ρ ρ' h; cases ds <;> simp [bindTs] at h
  | tp t ih => intro ds ρ ρ' h; cases ds <;> simp [bindTs] at h
  | nil => intro ds ρ ρ' h; cases ds with
    | nil => rfl
    | cons _ _ => simp [bindTs] at h
  | cons t ts _ ih =>
    intro ds ρ ρ' h
    cases ds with
    | nil => simp [bindTs] at h
    | cons d ds =>
      simp only [bindTs, Option.bind_eq_some_iff] at h
      obtain ⟨ρ1, _, h⟩ := h
      simp [T.len, ih h]
theorem pg_imp {e : Expr} {t t' : TG} (h : PG X e t) (i : ∀ v σ H Q, t' v σ H Q → t v σ H Q) : PG X e t' := ⟨fun pins s σ H v u Q I r q => h.run pins s σ H v u Q I r (i _ _ _ _ q)⟩
theorem pgs_imp {e : List Expr} {t t' : TGs} (h : PGs X e t) (i : ∀ v σ H Q, t' v σ H Q → t v σ H Q) : PGs X e t' := ⟨fun pins s σ H vs us Q I r q => h.run pins s σ H vs us Q I r (i _ _ _ _ q)⟩
theorem chkT_ok (g : Good X W c cs) : ∀ (t : T), (∀ x, chkT t c x = true → PG X x (gT X.K t)) ∧ (∀ xs, chkTs t c xs = true → PGs X xs (gTs X.K t)) := by
  intro t
  induction t with
  | sl i =>
    refine ⟨fun x h => ?_, fun xs h => by simp [chkTs] at h⟩
    cases x <;> simp only [chkT] at h <;> first | cases h | skip
    simp only [Bool.and_eq_true, decide_eq_true_eq] at h
    obtain ⟨h1, h2⟩ := locB_ok g h.2
    refine pg_imp (pg_name (by rw [g.N]; exact g.nd) (by rw [g.N]; exact h.1) h1 h2) fun v σ H Q q => ?_
    obtain ⟨d, μ, N, ρ, ρ', hv, er, hb, q⟩ := q
    simp only [bindT] at hb
    split at hb
    · cases hb
      refine q _ (er.set hv) (by simp) fun j hj => ?_
      rw [List.getElem?_set_ne]
      intro e; exact hj (by simp [T.slots, e])
    · cases hb
  | tp ts ih =>
    refine ⟨fun x h => ?_, fun xs h => by simp [chkTs] at h⟩
    cases x <;> simp only [chkT] at h <;> first | cases h | skip
    obtain ⟨s1, s2⟩ := chkTs_s h
    refine pg_imp (pg_tup (n := ts.len) g.calm (ih.2 _ h) (by rw [asgLen, s2]) (asgNo s1)) fun v σ H Q q => ?_
    obtain ⟨d, μ, N, ρ, ρ', hv, er, hb, q⟩ := q
    cases d <;> simp only [bindT] at hb <;> first | cases hb | skip
    obtain ⟨a, vs, e1, e2, e3⟩ := hv.i_tup
    exact ⟨a, vs, e1, e2, by rw [VRs.length e3]; exact bindTs_len hb, _, μ, N, ρ, ρ', e3, er, hb, q⟩
  | nil =>
    refine ⟨fun x h => by simp [chkT] at h, fun xs h => ?_⟩
    simp only [chkTs, List.isEmpty_iff] at h
    subst h
    refine pgs_imp pgs_nil fun v σ H Q q => ?_
    obtain ⟨d, μ, N, ρ, ρ', hv, er, hb, q⟩ := q
    cases d with
    | nil =>
      simp only [bindTs] at hb
      cases hb
      cases hv
      exact ⟨rfl, q σ er rfl fun _ _ => rfl⟩
    | cons _ _ => simp [bindTs] at hb
  | cons t ts ih1 ih2 =>
    refine ⟨fun x h => by simp [chkT] at h, fun xs h => ?_⟩
    cases xs with
    | nil => simp [chkTs] at h
    | cons x xs =>
      simp only [chkTs, Bool.and_eq_true] at h
      refine pgs_imp (pgs_cons (ih1.1 x h.1.2) (ih2.2 xs h.2) (by rw [asg1 h.1.1]; rfl)) fun v σ H Q q => ?_
      obtain ⟨ds, μ, N, ρ, ρ', hv, er, hb, q⟩ := q
      cases ds with
      | nil => simp [bindTs] at hb
      | cons d ds =>
        simp only [bindTs, Option.bind_eq_some_iff] at hb
        obtain ⟨ρ1, hb1, hb2⟩ := hb
        cases hv with
        | cons h1 h2 =>
          refine ⟨_, _, rfl, d, μ, N, ρ, ρ1, h1, er, hb1, fun σ1 e1 l1 s1 => ⟨ds, μ, N, ρ1, ρ', h2, e1, hb2, fun σ2 e2 l2 s2 => q σ2 e2 (l2.trans l1) fun i hi => ?_⟩⟩
          simp only [T.slots, List.mem_append, not_or] at hi
          rw [s2 i hi.2, s1 i hi.1]
/-! ### comprehensions -/
theorem n_if0 {X : Cx} {W : XW} : PTs X [] (tB X.K W fun ρ st => optC (isNil .nil) (ev cs .nil ρ) st) := ⟨fun pins s σ H Q I h => by
  obtain ⟨μ, st, ρ, r, er, a⟩ := h
  exact pts_nil.run pins s σ H Q I (a μ H (.refl r))⟩
theorem n_if1 {X : Cx} {W : XW} {e : E} {xc : Expr} (hn : isNil e = false) (h : PT X xc (tT X.K W (ev cs e))) : PTs X [xc] (tB X.K W fun ρ st => optC (isNil e) (ev cs e ρ) st) := ⟨fun pins s σ H Q I q => by
  obtain ⟨μ, st, ρ, r, er, a⟩ := q
  simp only [optC, hn, Bool.false_eq_true, if_false] at a
  exact (pts_one h).run pins s σ H Q I ⟨μ, st, ρ, r, er, a⟩⟩
theorem comp_eq {own : List Nat} {t : T} {k : IK} {d : E} (ρ : Env) (st : Store) : ev cs (.comp own t k a b d e) ρ st =
    (walkM k (ev cs a) (fun ρ st => opt2 (isNil b) (ev cs b ρ) st) ρ st).bind fun p st2 => (noX (compLoop p.2 t (fun ρ' st' => optC (isNil d) (ev cs d ρ') st') (fun ρ' st' => ev cs e ρ' st') (wipeE ρ own) p.1 [] st2)).bind fun l st3 => .ok (.l l) st3 := by
  rw [ev, walkM, bind_assoc]
  congr 1
  funext r st1
  rw [bind_assoc]
  congr 1
  funext q st2
  cases walk k r q st2 <;> rfl
def ownB (c : Ctx) (own : List Nat) : List (Str × Nat) := own.filterMap fun i => (c.N[i]?).map fun x => (x, i)
theorem ownB_ok {own : List Nat} (h : own.all (fun i => decide (i < c.N.length)) = true) : (ownB c own).map (·.2) = own := by
  induction own with
  | nil => rfl
  | cons i own ih =>
    simp only [List.all_cons, Bool.and_eq_true, decide_eq_true_eq] at h
    unfold ownB
    rw [List.filterMap_cons]
    simp [h.1]
    exact ih h.2
theorem n_comp {own : List Nat} {t : T} {k : IK} {d : E} {ifs : List Expr} {scope : Scope} {pos : Pos} (g : Good X W c cs) (hi : PI X tg iter (tI X.K W k (ev cs a) fun ρ st => opt2 (isNil b) (ev cs b ρ) st)) (hset : noSet iter = true)
    (ho : own.all (fun i => decide (i < c.N.length)) = true) (hk : blkC c.N c.sc scope (ownB c own) = true) (hsl : t.slots.all (fun i => own.contains i) = true) (ht : chkT t (c.blk scope) tg = true)
    (hd : ∀ (s : Shared) (H : Hp) (C : Addr) (cl : List (Str × Addr)) (fp : List Addr), PTs (X.blk s H scope (compEnvC scope cl C X.env) fp) ifs (tB X.K W0 fun ρ st => optC (isNil d) (ev cs d ρ) st))
    (he : ∀ (s : Shared) (H : Hp) (C : Addr) (cl : List (Str × Addr)) (fp : List Addr), PE (X.blk s H scope (compEnvC scope cl C X.env) fp) x (tE X.K W0 (ev cs e))) :
    PE X (.ListComp x [⟨tg, iter, ifs, 0⟩] scope pos) (tE X.K W (ev cs (.comp own t k a b d e))) := by
  have ok : BlkOk X.N X.env.scope scope (ownB c own) := by rw [g.N, g.sc]; exact blkOk_by hk
  refine pe_imp (pe_lc (g := gT X.K t) g.calm (by rw [g.N]; exact g.nd) hi ok (fun s H C cl fp => (chkT_ok (g.blk (s := s) (H := H) (cl := cl) (C := C) (fp := fp)) t).1 tg ht) hd he (folded_ok hset)) fun σ H Q q => ?_
  rw [ownB_ok ho]
  refine comp_ok (fun i hi => by simpa using List.all_eq_true.mp hsl i hi) ?_
  obtain ⟨μ, st, ρ, r, er, z⟩ := q
  rw [comp_eq] at z
  exact ⟨μ, st, ρ, r, er, z⟩
end
end Mi
end
section
set_option linter.all false
set_option autoImplicit false
set_option maxRecDepth 10000
/-! MiArgs: calls of the module's defs. -/
namespace Mi
open PySem PySem.Spec L2
open PyProof.Rows hiding RelV

def takeE : Nat → E → E
  | n + 1, .cons h t => .cons h (takeE n t)
  | _, _ => .nil
def dropE : Nat → E → E
  | 0, e => e
  | n + 1, .cons _ t => dropE n t
  | _ + 1, _ => .nil
def tL (K : PySem.W.Frag) (W : XW) (cs : List Fn) : E → TA
  | .nil => tNil
  | .cons h t => tCons (tE K W (ev cs h)) (tL K W cs t)
  | _ => fun _ _ _ => False
/-- expressions in a row -/
inductive Each (X : Cx) (W : XW) (cs : List Fn) : E → List Expr → Prop
  | nil : Each X W cs .nil []
  | cons {h t : E} {x : Expr} {xs : List Expr} : noS x = true → PE X x (tE X.K W (ev cs h)) → Each X W cs t xs → Each X W cs (.cons h t) (x :: xs)
section
variable {K : PySem.W.Frag} {H H' H₀ : Hp} {μ μ' μ₀ : Mu} {N : Nat} {st st' st₀ : Store}
theorem VRRs.lens {vs : List V} {rs : List RV} {ps : List Addr} (h : VRRs K H₀ H μ N vs rs ps) : rs.length = vs.length := h.len
theorem VRRs.at {vs : List V} {rs : List RV} {ps : List Addr} (h : VRRs K H₀ H μ N vs rs ps) : ∀ {i : Nat} {r : RV}, rs[i]? = some r → ∃ v, vs[i]? = some v ∧ VRR K H₀ H μ N v r ∧ (∀ xs, r = .l xs → ∃ p ∈ ps, v = .ref p) := by
  induction h with
  | nil => intro i r e; simp at e
  | @v v d vs rs ps a _ ih =>
    intro i r e
    cases i with
    | zero => simp at e; subst e; exact ⟨v, rfl, a, fun xs z => nomatch z⟩
    | succ i => exact ih (by simpa using e)
  | @l p us ds vs rs ps a b c d n _ ih =>
    intro i r e
    cases i with
    | zero => simp at e; subst e; exact ⟨_, rfl, ⟨p, us, rfl, a, b, c, d⟩, fun xs z => ⟨p, List.mem_cons_self, rfl⟩⟩
    | succ i =>
      obtain ⟨v, h1, h2, h3⟩ := ih (i := i) (r := r) (by simpa using e)
      exact ⟨v, by simpa using h1, h2, fun xs z => let ⟨q, hq, e⟩ := h3 xs z; ⟨q, List.mem_cons_of_mem _ hq, e⟩⟩
theorem VRRs.apart2 {vs : List V} {rs : List RV} {ps : List Addr} (h : VRRs K H₀ H μ N vs rs ps) : ∀ {i j : Nat} {xs ys : List Val} {p q : Addr}, i ≠ j → rs[i]? = some (.l xs) → rs[j]? = some (.l ys) → vs[i]? = some (.ref p) → vs[j]? = some (.ref q) → p ≠ q := by
  induction h with
  | nil => intro i j xs ys p q _ e; simp at e
  | v a _ ih =>
    intro i j xs ys p q hij e1 e2 e3 e4
    cases i with
    | zero => simp at e1
    | succ i =>
      cases j with
      | zero => simp at e2
      | succ j => exact ih (i := i) (j := j) (by omega) (by simpa using e1) (by simpa using e2) (by simpa using e3) (by simpa using e4)
  | @l p0 us ds vs rs ps a b c d n hr ih =>
    intro i j xs ys p q hij e1 e2 e3 e4
    cases i with
    | zero =>
      simp at e3
      subst e3
      cases j with
      | zero => exact absurd rfl hij
      | succ j =>
        obtain ⟨v, h1, _, h3⟩ := hr.at (i := j) (r := .l ys) (by simpa using e2)
        obtain ⟨q', hq, e⟩ := h3 ys rfl
        have e4' : vs[j]? = some (.ref q) := by simpa using e4
        rw [h1, e] at e4'
        cases e4'
        exact fun z => n (z ▸ hq)
    | succ i =>
      cases j with
      | zero =>
        simp at e4
        subst e4
        obtain ⟨v, h1, _, h3⟩ := hr.at (i := i) (r := .l xs) (by simpa using e1)
        obtain ⟨q', hq, e⟩ := h3 xs rfl
        have e3' : vs[i]? = some (.ref p) := by simpa using e3
        rw [h1, e] at e3'
        cases e3'
        exact fun z => n (z ▸ hq)
      | succ j => exact ih (i := i) (j := j) (by omega) (by simpa using e1) (by simpa using e2) (by simpa using e3) (by simpa using e4)
theorem VRRs.perm {vs : List V} {rs : List RV} {ps : List Addr} (h : VRRs K H₀ H μ N vs rs ps) : ∀ {kw : List Nat}, kw.Nodup → kw.all (fun i => decide (i < rs.length)) = true →
    ∃ qs, VRRs K H₀ H μ N (perm kw vs) (perm kw rs) qs ∧ ∀ q ∈ qs, ∃ j ∈ kw, ∃ ys, rs[j]? = some (.l ys) ∧ vs[j]? = some (.ref q) := by
  intro kw
  induction kw with
  | nil => exact fun _ _ => ⟨[], .nil, fun q hq => nomatch hq⟩
  | cons i kw ih =>
    intro nd ha
    simp only [List.all_cons, Bool.and_eq_true, decide_eq_true_eq] at ha
    obtain ⟨qs, h1, h2⟩ := ih (List.nodup_cons.mp nd).2 ha.2
    have er : rs[i]? = some rs[i] := List.getElem?_eq_getElem ha.1
    obtain ⟨v, ev, hv, hl⟩ := h.at er
    have p1 : Mi.perm (i :: kw) vs = v :: Mi.perm kw vs := by unfold Mi.perm; rw [List.filterMap_cons, ev]
    have p2 : Mi.perm (i :: kw) rs = rs[i] :: Mi.perm kw rs := by unfold Mi.perm; rw [List.filterMap_cons, er]
    rw [p1, p2]
    generalize rs[i] = r at er hv hl
    cases r with
    | v d => exact ⟨qs, .v hv h1, fun q hq => let ⟨j, hj, z⟩ := h2 q hq; ⟨j, List.mem_cons_of_mem _ hj, z⟩⟩
    | l xs =>
      obtain ⟨p, us, rfl, a, b, c, d⟩ := hv
      refine ⟨p :: qs, .l a b c d (fun hp => ?_) h1, fun q hq => ?_⟩
      · obtain ⟨j, hj, ys, z1, z2⟩ := h2 p hp
        exact h.apart2 (i := i) (j := j) (fun e => (List.nodup_cons.mp nd).1 (by rw [e]; exact hj)) er z1 ev z2 rfl
      · rcases List.mem_cons.mp hq with rfl | hq
        · exact ⟨i, List.mem_cons_self, xs, er, ev⟩
        · obtain ⟨j, hj, z⟩ := h2 q hq
          exact ⟨j, List.mem_cons_of_mem _ hj, z⟩
end
section
variable {X : Cx} {W : XW} {c : Ctx} {cs : List Fn}
theorem tL_split {K : PySem.W.Frag} : ∀ (n : Nat) (es : E) {σ : L2.St} {H : Hp} {Q : List V → Hp → Prop}, tA K W (evs cs es) σ H Q → tL K W cs (takeE n es) σ H fun vs H1 => tA K W (evs cs (dropE n es)) σ H1 fun zs H2 => Q (vs ++ zs) H2
  | 0, es, _, _, _, q => by unfold takeE; exact q
  | n + 1, .cons h t, _, _, _, q => by
    unfold takeE dropE tL
    exact tE_imp (cons_then q) fun x H1 q1 => tL_split n t q1
  | n + 1, .nil, _, _, _, q => by unfold takeE dropE tL; exact q
  | n + 1, .k _, _, _, _, q | n + 1, .x _, _, _, _, q | n + 1, .g _ _, _, _, _, q | n + 1, .tup _, _, _, _, q | n + 1, .lst _, _, _, _, q | n + 1, .dic _ _, _, _, _, q | n + 1, .op1 _ _, _, _, _, q | n + 1, .op2 _ _ _, _, _, _, q | n + 1, .op3 _ _ _ _, _, _, _, q | n + 1, .sl _ _ _, _, _, _, q | n + 1, .and _ _, _, _, _, q | n + 1, .or _ _, _, _, _, q | n + 1, .not _, _, _, _, q | n + 1, .ite _ _ _, _, _, _, q | n + 1, .chain _ _ _ _ _, _, _, _, q | n + 1, .call _ _ _ _, _, _, _, q | n + 1, .comp _ _ _ _ _ _ _, _, _, _, q => by
    obtain ⟨μ, st, ρ, r, er, a⟩ := q
    simp only [evs] at a
    exact a.elim
theorem tA_tL {K : PySem.W.Frag} : ∀ (es : E) {σ : L2.St} {H : Hp} {Q : List V → Hp → Prop}, tA K W (evs cs es) σ H Q → tL K W cs es σ H Q
  | .cons h t, _, _, _, q => by unfold tL; exact tE_imp (cons_then q) fun x H1 q1 => tA_tL t q1
  | .nil, _, _, _, q => by unfold tL; exact nil_then q
  | .k _, _, _, _, q | .x _, _, _, _, q | .g _ _, _, _, _, q | .tup _, _, _, _, q | .lst _, _, _, _, q | .dic _ _, _, _, _, q | .op1 _ _, _, _, _, q | .op2 _ _ _, _, _, _, q | .op3 _ _ _ _, _, _, _, q | .sl _ _ _, _, _, _, q | .and _ _, _, _, _, q | .or _ _, _, _, _, q | .not _, _, _, _, q | .ite _ _ _, _, _, _, q | .chain _ _ _ _ _, _, _, _, q | .call _ _ _ _, _, _, _, q | .comp _ _ _ _ _ _ _, _, _, _, q => by
    obtain ⟨μ, st, ρ, r, er, a⟩ := q
    simp only [evs] at a
    exact a.elim
theorem tL_imp {K : PySem.W.Frag} : ∀ {es : E} {σ : L2.St} {H : Hp} {Q Q' : List V → Hp → Prop}, tL K W cs es σ H Q → (∀ vs H, Q vs H → Q' vs H) → tL K W cs es σ H Q' := by
  intro es
  induction es with
  | nil => intro σ H Q Q' h i; exact i _ _ h
  | cons h t _ ih => intro σ H Q Q' q i; exact tE_imp q fun x H1 q1 => ih q1 fun vs H2 z => i _ _ z
  | _ => intro σ H Q Q' h i; exact False.elim h
theorem Each.pa {es : E} {xs : List Expr} (h : Each X W cs es xs) : PA X xs (tL X.K W cs es) := by
  induction h with
  | nil => exact pa_nil
  | cons a b _ ih => exact pa_cons b ih (star1 a)
theorem Each.noS {es : E} {xs : List Expr} (h : Each X W cs es xs) : xs.all Mi.noS = true := by
  induction h with
  | nil => rfl
  | cons a b _ ih => simp [a, ih]
theorem Each.take {es : E} {ys : List Expr} : ∀ {xs : List Expr}, Each X W cs es (xs ++ ys) → Each X W cs (takeE xs.length es) xs ∧ Each X W cs (dropE xs.length es) ys := by
  intro xs
  induction xs generalizing es with
  | nil => intro h; exact ⟨by show Each X W cs (takeE 0 es) []; unfold takeE; exact .nil, by show Each X W cs (dropE 0 es) ys; unfold dropE; exact h⟩
  | cons x xs ih =>
    intro h
    rw [List.cons_append] at h
    cases h with
    | cons a b r =>
      obtain ⟨h1, h2⟩ := ih r
      exact ⟨by rw [List.length_cons, takeE]; exact .cons a b h1, by rw [List.length_cons, dropE]; exact h2⟩
theorem Each.tA {es : E} {xs : List Expr} (h : Each X W cs es xs) : PA X xs (Mi.tA X.K W (evs cs es)) := pa_imp h.pa fun σ H Q q => tA_tL es q
theorem Each.pk : ∀ {kws : List Keyword} {es : E}, Each X W cs es (kws.map (·.value)) → PK X kws (tL X.K W cs es) := by
  intro kws
  induction kws with
  | nil => intro es h; cases h; exact pk_nil
  | cons k kws ih =>
    intro es h
    cases h with
    | cons a b r =>
      obtain ⟨n, v, p⟩ := k
      exact pk_cons b (ih r)
end
end Mi
end
section
set_option linter.all false
set_option autoImplicit false
set_option maxRecDepth 10000
/-! MiCallE: calls of the module's defs, walked. -/
namespace Mi
open PySem PySem.Spec L2
open PyProof.Rows hiding RelV

def kwNames (kws : List Keyword) : List Str := kws.filterMap (·.arg)
def kwAll (kws : List Keyword) : Bool := kws.all fun k => k.arg.isSome
section
variable {X : Cx} {W : XW} {c : Ctx} {cs : List Fn}
theorem kw_all : ∀ {kws : List Keyword} {env : PySem.Env} {pos : Pos}, kwAll kws = true → (backToKw pos (keywordEach kws env)).all (·.1.isSome) = true ∧ (backToKw pos (keywordEach kws env)).filterMap (·.1) = kwNames kws ∧ (backToKw pos (keywordEach kws env)).any (·.1.isNone) = false
  | [], _, _, _ => ⟨rfl, rfl, rfl⟩
  | ⟨n, v, p⟩ :: kws, env, pos, h => by
    simp only [kwAll, List.all_cons, Bool.and_eq_true] at h
    obtain ⟨h1, h2, h3⟩ := kw_all (kws := kws) (env := env) (pos := pos) h.2
    have e : backToKw pos (keywordEach (⟨n, v, p⟩ :: kws) env) = (n, do let v ← eval v env; standAt pos; pure v) :: backToKw pos (keywordEach kws env) := rfl
    rw [e]
    cases n with
    | none => simp at h
    | some n =>
      refine ⟨by simp only [List.all_cons, h1]; rfl, ?_, by simp only [List.any_cons, h3]; rfl⟩
      rw [List.filterMap_cons]
      simp only [h2]
      rfl
theorem kw_len {kws : List Keyword} (h : kwAll kws = true) : (kwNames kws).length = kws.length := by
  induction kws with
  | nil => rfl
  | cons k kws ih =>
    simp only [kwAll, List.all_cons, Bool.and_eq_true] at h
    unfold kwNames
    rw [List.filterMap_cons]
    cases e : k.arg with
    | none => rw [e] at h; simp at h
    | some n => simp only [List.length_cons]; exact congrArg (· + 1) (ih h.2)
theorem vals_perm {vs : List V} {us : List Value} (rr : L2.Vals vs us) : ∀ kw : List Nat, L2.Vals (perm kw vs) (perm kw us)
  | [] => .nil
  | i :: kw => by
    have ih := vals_perm rr kw
    unfold perm at ih ⊢
    rw [List.filterMap_cons, List.filterMap_cons]
    cases e : vs[i]? with
    | none =>
      have : us[i]? = none := by
        rw [List.getElem?_eq_none_iff] at e ⊢
        rw [← rr.length]; exact e
      rw [this]
      exact ih
    | some v =>
      obtain ⟨u, eu, ru⟩ := rr.get e
      rw [eu]
      exact .cons ru ih
theorem lens {es : E} {xs : List Expr} (h : Each X W cs es xs) : ∀ {K : PySem.W.Frag} {σ : L2.St} {H : Hp} {Q : List V → Hp → Prop}, tL K W cs es σ H Q → tL K W cs es σ H fun vs H1 => vs.length = xs.length ∧ Q vs H1 := by
  induction h with
  | nil => exact fun q => ⟨rfl, q⟩
  | @cons h t x xs a b _ ih =>
    intro K σ H Q q
    unfold tL at q ⊢
    exact tE_imp q fun y H1 q1 => tL_imp (ih q1) fun vs H2 z => ⟨by rw [List.length_cons, List.length_cons, z.1], z.2⟩
/-- what stands behind the arguments -/
theorem call_then {m : Bool} {j : Nat} {kw : List Nat} {es : E} {F : Fn} {K : PySem.W.Frag} {σ : L2.St} {H : Hp} {Q : VK} (hF : cs[j]? = some F) (h : tE K W (ev cs (.call m j kw es)) σ H Q) :
    tA K W (evs cs es) σ H fun vs H1 => ∃ μ₀ st₀ H₀ μ st rs ps, Rel K H₀ μ₀ st₀ ∧ Post K μ₀ st₀ H₀ μ st H1 ∧ VRRs K H₀ H1 μ st.length vs rs ps ∧ After K W μ₀ st₀ H₀ (runCall m F (permute kw rs) st) Q :=
  args_then (g := fun rs st => runCall m F (permute kw rs) st) (fun ρ st => by rw [ev, hF]) h
theorem n_call {m : Bool} {j : Nat} {es : E} {fd : Fd} {p pos : Pos} {args : List Expr} (g : Good X W c cs) (hj : c.fs[j]? = some fd) (hgl : glB c fd.name = true) (he : Each X W cs es args) : PE X (.Call (.Name fd.name p) args [] pos) (tE X.K W (ev cs (.call m j [] es))) := by
  refine ⟨fun pins s σ H Q I h => ?_⟩
  obtain ⟨F, f, d, hF, cal⟩ := g.fs j fd hj
  obtain ⟨b1, b2, b3⟩ := glB_ok g hgl
  have q := call_then hF h
  have fin : ∀ {us : List Value} {vs : List V} {s1 : Shared} {H1 : Hp}, Inv X pins σ H1 s1 → L2.Vals vs us → (∃ μ₀ st₀ H₀ μ st rs ps, Rel X.K H₀ μ₀ st₀ ∧ Post X.K μ₀ st₀ H₀ μ st H1 ∧ VRRs X.K H₀ H1 μ st.length vs rs ps ∧ After X.K W μ₀ st₀ H₀ (runCall m F (permute [] rs) st) Q) → wpAny (model X.prog X.w) X.A (call (.ref f) us) (EP X pins σ Q) X.xe s1 := fun {us vs s1 H1} I1 rv z => by
    obtain ⟨μ₀, st₀, H₀, μ, st, rs, ps, R, P, hv, a⟩ := z
    obtain ⟨ds, μ', st', U, R', hd, a', xs⟩ := run_ok P hv a
    exact call_fn (g.xt.sub xs) cal.fn g.room g.gu cal.bi I1 rv R' hd a'
  refine wpAny_Call_Name_kw (ld_glob I b1 cal.mg ?_ b2)
  cases args with
  | nil =>
    cases he
    exact PySem.W.callWith_K0 I.kIn cal.kp (fin (us := []) I .nil (nil_then q))
  | cons x xs =>
    have hs := he.noS
    simp only [List.all_cons, Bool.and_eq_true] at hs
    refine PySem.W.callWith_K (h₀ := X.base) I.ok.mod.kin cal.kp (thn (he.tA.run pos pins s σ H _ I q) fun us s1 ⟨vs, H1, I1, r, z⟩ => ⟨I1.kIn, ?_⟩) (star1 hs.1) (starA hs.2)
    exact fin I1 r z
theorem n_callK {m : Bool} {j : Nat} {kw : List Nat} {es : E} {fd : Fd} {p pos : Pos} {args : List Expr} {kws : List Keyword} (g : Good X W c cs) (hj : c.fs[j]? = some fd) (hgl : glB c fd.name = true) (he : Each X W cs es (args ++ kws.map (·.value)))
    (hall : kwAll kws = true) (hk : (args.length, kwNames kws, kw) ∈ fd.kws) (hn : kw ≠ []) (nd : kw.Nodup) (hlt : kw.all (fun i => decide (i < args.length + kws.length)) = true) : PE X (.Call (.Name fd.name p) args kws pos) (tE X.K W (ev cs (.call m j kw es))) := by
  refine ⟨fun pins s σ H Q I h => ?_⟩
  obtain ⟨F, f, d, hF, cal⟩ := g.fs j fd hj
  obtain ⟨b1, b2, b3⟩ := glB_ok g hgl
  have q := call_then hF h
  obtain ⟨he1, he2⟩ := he.take
  obtain ⟨k1, k2, k3⟩ := kw_all (env := X.env) (pos := pos) hall
  have hz : kws.map (·.value) = kws.map (·.value) ++ [] := by simp
  have hpm : ∀ rs : List RV, permute kw rs = perm kw rs := fun rs => by cases kw with
    | nil => exact absurd rfl hn
    | cons _ _ => rfl
  have q2 := tL_split args.length es q
  have fin : ∀ {us ws : List Value} {vs zs : List V} {s1 : Shared} {H1 : Hp}, Inv X pins σ H1 s1 → L2.Vals vs us → L2.Vals zs ws → us.length = args.length → ws.length = kws.length → (∃ μ₀ st₀ H₀ μ st rs ps, Rel X.K H₀ μ₀ st₀ ∧ Post X.K μ₀ st₀ H₀ μ st H1 ∧ VRRs X.K H₀ H1 μ st.length (vs ++ zs) rs ps ∧ After X.K W μ₀ st₀ H₀ (runCall m F (permute kw rs) st) Q) →
      wpAny (model X.prog X.w) X.A (call (.ref f) us ((kwNames kws).zip ws)) (EP X pins σ Q) X.xe s1 := fun {us ws vs zs s1 H1} I1 rv rz hl1 hl2 z => by
    obtain ⟨μ₀, st₀, H₀, μ, st, rs, ps, R, P, hv, a⟩ := z
    have hlen := hv.len
    have hl3 : rs.length = args.length + kws.length := by rw [hlen, List.length_append, rv.length, rz.length, hl1, hl2]
    obtain ⟨qs, hp, _⟩ := hv.perm nd (by rw [hl3]; exact hlt)
    rw [hpm] at a
    obtain ⟨ds, μ', st', U, R', hd, a', xs⟩ := run_ok P hp a
    have bt : BindsTo s1 d ⟨us, (kwNames kws).zip ws⟩ (fd.ps.zip (perm kw (us ++ ws))) := .of_eq (cal.kw _ hk us ws hl1 (by rw [hl2, kw_len hall]))
    have rp : L2.Vals (perm kw (vs ++ zs)) (perm kw (us ++ ws)) := vals_perm (rv.append rz) kw
    refine wpAny_call (codeAny_mono (cal.fn.run X.A X.stack s1 H1 _ _ _ ds μ' st' U Q g.room g.gu I1.env0 bt rp R' hd a') fun r s' hq => ?_)
    have := cr_ep (g.xt.sub xs) I1 hq
    rcases r with e | fl
    · exact this
    · cases fl <;> first | exact this | exact this.elim
  refine wpAny_Call_Name_kw (ld_glob I b1 cal.mg ?_ b2)
  have he2' : Each X W cs (dropE args.length es) (kws.map (·.value)) := he2
  cases args with
  | nil =>
    have q3 : tA X.K W (evs cs es) σ H fun zs H2 => ∃ μ₀ st₀ H₀ μ st rs ps, Rel X.K H₀ μ₀ st₀ ∧ Post X.K μ₀ st₀ H₀ μ st H2 ∧ VRRs X.K H₀ H2 μ st.length ([] ++ zs) rs ps ∧ After X.K W μ₀ st₀ H₀ (runCall m F (permute kw rs) st) Q := q
    refine PySem.W.callWith_KW0 (h₀ := X.base) I.ok.mod.kin cal.kp k1 (thn (he2'.pk.run pos pins s σ H _ I (lens he2' (tA_tL _ q3))) fun ws s2 ⟨zs, H2, I2, rz, hl, z⟩ => ⟨I2.kIn, ?_⟩) (by rw [k3]; rfl)
    rw [k2]
    exact fin (us := []) (vs := []) I2 .nil rz rfl (by rw [← rz.length, hl]; simp) z
  | cons x xs =>
    have hs := he1.noS
    simp only [List.all_cons, Bool.and_eq_true] at hs
    refine PySem.W.callWith_KW (h₀ := X.base) I.ok.mod.kin cal.kp k1 (thn (he1.pa.run pos pins s σ H _ I (lens he1 q2)) fun us s1 ⟨vs, H1, I1, r, hl1, z⟩ => ?_) (by rw [star1 hs.1, k3]; simp [backTo]; simpa [backTo] using starA (env := X.env) (pos := pos) hs.2) (star1 hs.1)
    refine thn (he2'.pk.run pos pins s1 σ H1 _ I1 (lens he2' (tA_tL _ z))) fun ws s2 ⟨zs, H2, I2, rz, hl2, z⟩ => ⟨I2.kIn, ?_⟩
    rw [k2]
    exact fin (us := us) I2 r rz (by rw [← r.length, hl1]) (by rw [← rz.length, hl2]; simp) z
end
end Mi
end
section
set_option linter.all false
set_option autoImplicit false
set_option maxRecDepth 10000
/-! MiChk: the look that an expression is Mini's. -/
namespace Mi
open PySem PySem.Spec L2
open PyProof.Rows hiding RelV

mutual
def chk : E → Ctx → Expr → Bool
  | .k v, _, x => match x with
    | .Constant k _ _ => chkK v k
    | _ => false
  | .x i, c, x => match x with
    | .Name n _ => decide (c.N[i]? = some n) && visB c.sc n && okName n
    | _ => false
  | .g nm v, c, x => match x with
    | .Name n _ => (toStr nm == n) && glB c n && decide ((nm, v) ∈ c.gs)
    | _ => false
  | .tup es, c, x => match x with
    | .Tuple xs _ _ => chks es c xs
    | _ => false
  | .lst es, c, x => match x with
    | .List xs _ => chks es c xs
    | _ => false
  | .dic t es, c, x => match x with
    | .Dict ks vs _ => !t && ((isNil es && ks.isEmpty && vs.isEmpty) || (evenE es && ks.all (·.isSome) && (ks.length == vs.length) && !ks.isEmpty && decide (ks.length ≤ 15) && chkd es c ks vs))
    | _ => false
  | .op1 o a, c, x => match v1 c o x with
    | some e => chk a c e
    | none => false
  | .op2 o a b, c, x => match v2 o x with
    | some p => chk a c p.1 && chk b c p.2
    | none => false
  | .op3 o a b d, c, x => match v3 o x with
    | some p => chk a c p.1 && chk b c p.2.1 && chk d c p.2.2
    | none => false
  | .sl a lo hi, c, x => match x with
    | .Subscript xa (.Slice xl xh none _) _ => chk a c xa && (match xl with
      | none => isNil lo
      | some y => !isNil lo && chk lo c y) && (match xh with
      | none => isNil hi
      | some y => !isNil hi && chk hi c y)
    | _ => false
  | .and a b, c, x => match vAnd x with
    | some p => chk a c p.1 && chk b c p.2
    | none => false
  | .or a b, c, x => match vOr x with
    | some p => chk a c p.1 && chk b c p.2
    | none => false
  | .not a, c, x => match x with
    | .UnaryOp .Not e _ => chk a c e
    | _ => false
  | .ite d a b, c, x => match x with
    | .IfExp xd xa xb _ => chk d c xd && chk a c xa && chk b c xb
    | _ => false
  | .chain o q a b d, c, x => match vChain o q x with
    | some p => chk a c p.1 && chk b c p.2.1 && chk d c p.2.2
    | none => false
  | .call m j kw es, c, x => match x with
    | .Call (.Name f _) args kws _ => match c.fs[j]? with
      | some fd => (fd.name == f) && glB c fd.name && chks es c (args ++ kws.map (·.value)) && ((kws.isEmpty && kw.isEmpty) || (kwAll kws && decide ((args.length, kwNames kws, kw) ∈ fd.kws) && !kw.isEmpty && decide kw.Nodup && kw.all (fun i => decide (i < args.length + kws.length))))
      | none => false
    | _ => false
  | .comp own t k a b d e, c, x => match x with
    | .ListComp elt [⟨tg, iter, ifs, 0⟩] scope _ => match vI c k iter with
      | some p => pairT k tg && chk a c p.1 && (match p.2 with
        | none => isNil b
        | some y => !isNil b && chk b c y) && own.all (fun i => decide (i < c.N.length)) && blkC c.N c.sc scope (ownB c own) && t.slots.all (fun i => own.contains i) && chkT t (c.blk scope) tg && (match ifs with
        | [] => isNil d
        | [y] => !isNil d && chk d (c.blk scope) y
        | _ => false) && chk e (c.blk scope) elt
      | none => false
    | _ => false
  | .nil, _, _ => false
  | .cons _ _, _, _ => false
def chks : E → Ctx → List Expr → Bool
  | .nil, _, xs => xs.isEmpty
  | .cons h t, c, xs => match xs with
    | x :: xs => noS x && chk h c x && chks t c xs
    | [] => false
  | _, _, _ => false
def chkd : E → Ctx → List (Option Expr) → List Expr → Bool
  | .nil, _, ks, vs => ks.isEmpty && vs.isEmpty
  | .cons h (.cons h2 t), c, ks, vs => match ks, vs with
    | some k :: ks, v :: vs => chk h c k && chk h2 c v && chkd t c ks vs
    | _, _ => false
  | _, _, _, _ => false
end
theorem isNil_eq {e : E} (h : isNil e = true) : e = .nil := by cases e <;> first | rfl | cases h
theorem n_g {X : Cx} {W : XW} {c : Ctx} {cs : List Fn} {nm : List Nat} {v : Val} {pos : Pos} (g : Good X W c cs) (hg : glB c (toStr nm) = true) (hm : (nm, v) ∈ c.gs) : PE X (.Name (toStr nm) pos) (tE X.K W (ev cs (.g nm v))) := by
  obtain ⟨u, w, h1, h2, h3⟩ := g.gs _ hm
  obtain ⟨b1, b2, _⟩ := glB_ok g hg
  exact n_c (pe_glob b1 h1 h2 b2) (fun _ _ => rfl) h3
mutual
theorem chk_ok {cs : List Fn} : ∀ (e : E) {X : Cx} {W : XW} {c : Ctx} {x : Expr}, Good X W c cs → chk e c x = true → PQ X W x (ev cs e)
  | .k v, X, W, c, x, g, h => by
    cases x <;> simp only [chk] at h <;> first | cases h | skip
    exact pq_plain (n_k h) rfl
  | .x i, X, W, c, x, g, h => by
    cases x <;> simp only [chk] at h <;> first | cases h | skip
    simp only [Bool.and_eq_true, decide_eq_true_eq] at h
    exact pq_plain (n_x (by rw [g.N]; exact h.1.1) (by rw [g.sc]; exact h.1.2) h.2) rfl
  | .g nm v, X, W, c, x, g, h => by
    cases x <;> simp only [chk] at h <;> first | cases h | skip
    simp only [Bool.and_eq_true, decide_eq_true_eq] at h
    obtain ⟨⟨h1, h2⟩, h3⟩ := h
    obtain rfl := eq_of_beq h1
    exact pq_plain (n_g g h2 h3) rfl
  | .tup es, X, W, c, x, g, h => by
    cases x <;> simp only [chk] at h <;> first | cases h | skip
    exact pq_plain (n_tup (chks_ok es g h).tA) rfl
  | .lst es, X, W, c, x, g, h => by
    cases x <;> simp only [chk] at h <;> first | cases h | skip
    exact pq_plain (n_lst (chks_ok es g h).tA) rfl
  | .dic t es, X, W, c, x, g, h => by
    cases x <;> simp only [chk] at h <;> first | cases h | skip
    simp only [Bool.and_eq_true, Bool.or_eq_true, Bool.not_eq_true', decide_eq_true_eq, List.isEmpty_iff] at h
    obtain ⟨rfl, h⟩ := h
    rcases h with ⟨⟨h1, rfl⟩, rfl⟩ | ⟨⟨⟨⟨⟨h1, h2⟩, h3⟩, h4⟩, h5⟩, h6⟩
    · rw [isNil_eq h1]
      exact pq_plain n_dic0 rfl
    · exact pq_plain (n_dic h1 (chkd_ok es g h6) h2 (eq_of_beq h3) (by intro e; rw [e] at h4; cases h4) h5) rfl
  | .op1 o a, X, W, c, x, g, h => by
    simp only [chk] at h
    split at h
    · rename_i e he
      exact v1_ok g he (chk_ok a g h).e
    · cases h
  | .op2 o a b, X, W, c, x, g, h => by
    simp only [chk] at h
    split at h
    · rename_i p hp
      simp only [Bool.and_eq_true] at h
      exact v2_ok g.units hp (chk_ok a g h.1).e (chk_ok b g h.2).e
    · cases h
  | .op3 o a b d, X, W, c, x, g, h => by
    simp only [chk] at h
    split at h
    · rename_i p hp
      simp only [Bool.and_eq_true] at h
      exact v3_ok hp (chk_ok a g h.1.1).e (chk_ok b g h.1.2).e (chk_ok d g h.2).e
    · cases h
  | .sl a lo hi, X, W, c, x, g, h => by
    simp only [chk] at h
    split at h
    · rename_i xa xl xh _ _
      simp only [Bool.and_eq_true] at h
      obtain ⟨⟨h1, h2⟩, h3⟩ := h
      refine n_sl (chk_ok a g h1).e ?_ ?_
      · cases xl with
        | none => rw [isNil_eq h2]; exact n_opt0
        | some y =>
          simp only [Bool.and_eq_true, Bool.not_eq_true'] at h2
          exact n_opt1 h2.1 (chk_ok lo g h2.2).e
      · cases xh with
        | none => rw [isNil_eq h3]; exact n_opt0
        | some y =>
          simp only [Bool.and_eq_true, Bool.not_eq_true'] at h3
          exact n_opt1 h3.1 (chk_ok hi g h3.2).e
    · cases h
  | .and a b, X, W, c, x, g, h => by
    simp only [chk] at h
    split at h
    · rename_i p hp
      simp only [Bool.and_eq_true] at h
      exact n_and hp (chk_ok a g h.1) (chk_ok b g h.2)
    · cases h
  | .or a b, X, W, c, x, g, h => by
    simp only [chk] at h
    split at h
    · rename_i p hp
      simp only [Bool.and_eq_true] at h
      exact n_or hp (chk_ok a g h.1) (chk_ok b g h.2)
    · cases h
  | .not a, X, W, c, x, g, h => by
    simp only [chk] at h
    split at h
    · exact n_not (chk_ok a g h)
    · cases h
  | .ite d a b, X, W, c, x, g, h => by
    simp only [chk] at h
    split at h
    · simp only [Bool.and_eq_true] at h
      exact n_ite (chk_ok d g h.1.1) (chk_ok a g h.1.2) (chk_ok b g h.2)
    · cases h
  | .chain o q a b d, X, W, c, x, g, h => by
    simp only [chk] at h
    split at h
    · rename_i p hp
      simp only [Bool.and_eq_true] at h
      exact n_chain g.units hp (chk_ok a g h.1.1).e (chk_ok b g h.1.2).e (chk_ok d g h.2).e
    · cases h
  | .call m j kw es, X, W, c, x, g, h => by
    simp only [chk] at h
    split at h
    · split at h
      · rename_i fd hfd
        simp only [Bool.and_eq_true, Bool.or_eq_true, Bool.not_eq_true', decide_eq_true_eq, List.isEmpty_iff] at h
        obtain ⟨⟨⟨h1, h2⟩, h3⟩, h4⟩ := h
        obtain rfl := eq_of_beq h1
        rcases h4 with ⟨rfl, rfl⟩ | ⟨⟨⟨⟨h4, h5⟩, h6⟩, h7⟩, h8⟩
        · rw [List.map_nil, List.append_nil] at h3
          exact pq_plain (n_call g hfd h2 (chks_ok es g h3)) rfl
        · exact pq_plain (n_callK g hfd h2 (chks_ok es g h3) h4 h5 (by intro e; rw [e] at h6; cases h6) h7 h8) rfl
      · cases h
    · cases h
  | .comp own t k a b d e, X, W, c, x, g, h => by
    simp only [chk] at h
    split at h
    · split at h
      · rename_i tg iter ifs scope _ p hp
        simp only [Bool.and_eq_true] at h
        obtain ⟨⟨⟨⟨⟨⟨⟨⟨h1, h2⟩, h3⟩, h4⟩, h5⟩, h6⟩, h7⟩, h8⟩, h9⟩ := h
        obtain ⟨xa, ob⟩ := p
        refine pq_plain (n_comp g (vI_ok g hp h1 (chk_ok a g h2).e ?_) (vI_set hp) h4 h5 h6 h7 ?_ fun s H C cl fp => (chk_ok e g.blk h9).e) rfl
        · cases ob with
          | none => exact isNil_eq h3
          | some y =>
            simp only [Bool.and_eq_true, Bool.not_eq_true'] at h3
            exact ⟨h3.1, (chk_ok b g h3.2).e⟩
        · intro s H C cl fp
          split at h8
          · rw [isNil_eq h8]
            exact n_if0
          · simp only [Bool.and_eq_true, Bool.not_eq_true'] at h8
            exact n_if1 h8.1 (chk_ok d g.blk h8.2).t
          · cases h8
      · cases h
    · cases h
  | .nil, X, W, c, x, g, h => by simp [chk] at h
  | .cons _ _, X, W, c, x, g, h => by simp [chk] at h
theorem chks_ok {cs : List Fn} : ∀ (e : E) {X : Cx} {W : XW} {c : Ctx} {xs : List Expr}, Good X W c cs → chks e c xs = true → Each X W cs e xs
  | .nil, X, W, c, xs, g, h => by
    simp only [chks, List.isEmpty_iff] at h
    subst h
    exact .nil
  | .cons a t, X, W, c, xs, g, h => by
    cases xs with
    | nil => simp [chks] at h
    | cons x xs =>
      simp only [chks, Bool.and_eq_true] at h
      exact .cons h.1.1 (chk_ok a g h.1.2).e (chks_ok t g h.2)
  | .k _, X, W, c, xs, g, h | .x _, X, W, c, xs, g, h | .g _ _, X, W, c, xs, g, h | .tup _, X, W, c, xs, g, h | .lst _, X, W, c, xs, g, h | .dic _ _, X, W, c, xs, g, h | .op1 _ _, X, W, c, xs, g, h | .op2 _ _ _, X, W, c, xs, g, h | .op3 _ _ _ _, X, W, c, xs, g, h | .sl _ _ _, X, W, c, xs, g, h | .and _ _, X, W, c, xs, g, h | .or _ _, X, W, c, xs, g, h | .not _, X, W, c, xs, g, h | .ite _ _ _, X, W, c, xs, g, h | .chain _ _ _ _ _, X, W, c, xs, g, h | .call _ _ _ _, X, W, c, xs, g, h | .comp _ _ _ _ _ _ _, X, W, c, xs, g, h => by simp [chks] at h
theorem chkd_ok {cs : List Fn} : ∀ (e : E) {X : Cx} {W : XW} {c : Ctx} {ks : List (Option Expr)} {vs : List Expr} {pos : Pos}, Good X W c cs → chkd e c ks vs = true → PPs X pos ks vs (trsOf X.K W cs e)
  | .nil, X, W, c, ks, vs, pos, g, h => by
    simp only [chkd, Bool.and_eq_true, List.isEmpty_iff] at h
    obtain ⟨rfl, rfl⟩ := h
    exact pps_nil
  | .cons a (.cons b t), X, W, c, ks, vs, pos, g, h => by
    simp only [chkd] at h
    split at h
    · simp only [Bool.and_eq_true] at h
      unfold trsOf
      exact pps_cons (chk_ok a g h.1.1).e (chk_ok b g h.1.2).e (chkd_ok t g h.2)
    · cases h
  | .cons a .nil, X, W, c, ks, vs, pos, g, h => by simp [chkd] at h
  | .cons a (.k _), X, W, c, ks, vs, pos, g, h | .cons a (.x _), X, W, c, ks, vs, pos, g, h | .cons a (.g _ _), X, W, c, ks, vs, pos, g, h | .cons a (.tup _), X, W, c, ks, vs, pos, g, h | .cons a (.lst _), X, W, c, ks, vs, pos, g, h | .cons a (.dic _ _), X, W, c, ks, vs, pos, g, h | .cons a (.op1 _ _), X, W, c, ks, vs, pos, g, h | .cons a (.op2 _ _ _), X, W, c, ks, vs, pos, g, h | .cons a (.op3 _ _ _ _), X, W, c, ks, vs, pos, g, h | .cons a (.sl _ _ _), X, W, c, ks, vs, pos, g, h | .cons a (.and _ _), X, W, c, ks, vs, pos, g, h | .cons a (.or _ _), X, W, c, ks, vs, pos, g, h | .cons a (.not _), X, W, c, ks, vs, pos, g, h | .cons a (.ite _ _ _), X, W, c, ks, vs, pos, g, h | .cons a (.chain _ _ _ _ _), X, W, c, ks, vs, pos, g, h | .cons a (.call _ _ _ _), X, W, c, ks, vs, pos, g, h | .cons a (.comp _ _ _ _ _ _ _), X, W, c, ks, vs, pos, g, h => by simp [chkd] at h
  | .k _, X, W, c, ks, vs, pos, g, h | .x _, X, W, c, ks, vs, pos, g, h | .g _ _, X, W, c, ks, vs, pos, g, h | .tup _, X, W, c, ks, vs, pos, g, h | .lst _, X, W, c, ks, vs, pos, g, h | .dic _ _, X, W, c, ks, vs, pos, g, h | .op1 _ _, X, W, c, ks, vs, pos, g, h | .op2 _ _ _, X, W, c, ks, vs, pos, g, h | .op3 _ _ _ _, X, W, c, ks, vs, pos, g, h | .sl _ _ _, X, W, c, ks, vs, pos, g, h | .and _ _, X, W, c, ks, vs, pos, g, h | .or _ _, X, W, c, ks, vs, pos, g, h | .not _, X, W, c, ks, vs, pos, g, h | .ite _ _ _, X, W, c, ks, vs, pos, g, h | .chain _ _ _ _ _, X, W, c, ks, vs, pos, g, h | .call _ _ _ _, X, W, c, ks, vs, pos, g, h | .comp _ _ _ _ _ _ _, X, W, c, ks, vs, pos, g, h => by simp [chkd] at h
end
end Mi
end
section
set_option linter.all false
set_option autoImplicit false
set_option maxRecDepth 10000
/-! MiAsg: stores. -/
namespace Mi
open PySem PySem.Spec L2
open PyProof.Rows hiding RelV

def AfterU (K : PySem.W.Frag) (W : XW) (μ : Mu) (st : Store) (H : Hp) (c : Res Unit) (Q : Hp → Prop) : Prop := match c with
  | .ok _ st' => ∀ μ' H', Post K μ st H μ' st' H' → Q H'
  | .exc c p st' => ∀ μ' H', Post K μ st H μ' st' H' → W c p μ' st' H'
  | .bad => False
def AfterG (K : PySem.W.Frag) (W : XW) (μ : Mu) (st : Store) (H : Hp) (c : Res Env) (Q : L2.St → Hp → Prop) : Prop := match c with
  | .ok ρ st' => ∀ μ' H', Post K μ st H μ' st' H' → ∀ σ', ER K H' μ' st'.length σ' ρ → Q σ' H'
  | .exc c p st' => ∀ μ' H', Post K μ st H μ' st' H' → W c p μ' st' H'
  | .bad => False
section
variable {K : PySem.W.Frag} {W : XW} {H H' H₀ : Hp} {μ μ' μ₀ : Mu} {st st' st₀ : Store} {σ : L2.St} {ρ : Env} {N : Nat}
theorem AfterU.step {c : Res Unit} {Q : Hp → Prop} (P : Post K μ₀ st₀ H₀ μ st H) (a : AfterU K W μ₀ st₀ H₀ c Q) : AfterU K W μ st H c Q := by
  cases c with
  | ok r st' => exact fun μ' H' P' => a μ' H' (P.trans P')
  | exc c p st' => exact fun μ' H' P' => a μ' H' (P.trans P')
  | bad => exact a
theorem AfterG.step {c : Res Env} {Q : L2.St → Hp → Prop} (P : Post K μ₀ st₀ H₀ μ st H) (a : AfterG K W μ₀ st₀ H₀ c Q) : AfterG K W μ st H c Q := by
  cases c with
  | ok r st' => exact fun μ' H' P' => a μ' H' (P.trans P')
  | exc c p st' => exact fun μ' H' P' => a μ' H' (P.trans P')
  | bad => exact a
/-- what comes behind an expression's value -/
theorem tE_map {cs : List Fn} {e : E} {Q : VK} {R : Hp → V → Prop} {g : RV → Store → Res Out} {D : Ends} (h : tS K W (fun ρ st => (ev cs e ρ st).bind g) D σ H)
    (k : ∀ (μ : Mu) (st : Store) (ρ : Env) (r : RV) (μ1 : Mu) (st1 : Store) (H1 : Hp) (v : V), Rel K H μ st → ER K H μ st.length σ ρ → Post K μ st H μ1 st1 H1 → VRR K H H1 μ1 st1.length v r → AfterS K W μ st H (g r st1) D → Q v H1) : tE K W (ev cs e) σ H Q := by
  obtain ⟨μ, st, ρ, r, er, a⟩ := h
  refine ⟨μ, st, ρ, r, er, ?_⟩
  dsimp only at a
  cases he : ev cs e ρ st with
  | bad => rw [he] at a; exact a
  | exc c p st' => rw [he] at a; exact a
  | ok x st1 => rw [he] at a; exact fun μ1 H1 v P1 hv => k μ st ρ x μ1 st1 H1 v r er P1 hv a
end
section
variable {X : Cx} {W : XW} {c : Ctx} {cs : List Fn}
/-- o[i] = v by values -/
def rset (X : Cx) : TSet := fun o i v H Q => ∃ (W : XW) (μ₀ : Mu) (st₀ : Store) (H₀ : Hp) (μ : Mu) (st : Store) (r q : RV) (d : Val), Post X.K μ₀ st₀ H₀ μ st H ∧ VRR X.K H₀ H μ st.length o r ∧ VRR X.K H₀ H μ st.length i q ∧ VR X.K H μ st.length v d ∧ AfterU X.K W μ₀ st₀ H₀ (fset r q d st) Q
theorem set_any (hu : X.A.units + 64 < cLine) : PSet X (rset X) := by
  intro pins s σ H o i v ov iv u Q I ro ri rv h
  obtain ⟨W, μ₀, st₀, H₀, μ, st, r, q, d, P, h1, h2, h3, a⟩ := h
  unfold fset at a
  cases q with
  | l _ => exact a.elim
  | v k =>
    dsimp only at a
    split at a
    · rename_i n xs j e
      obtain ⟨vs, rfl, e1, rfl, e2, e3⟩ := mutAt_ok P.rel h1 e
      split at a
      · rename_i m em
        obtain ⟨P2, k2⟩ := P.lst e1 (VRs.set h3 m e3)
        have ei := (nr_v h2).i_int
        subst ei
        exact L2.set_list pins s σ H _ _ v ov iv u Q I ro ri rv ⟨_, vs, j, m, rfl, rfl, e2, by rw [VRs.length e3, ← ix_eq]; exact em, a μ _ P2⟩
      · exact a.elim
    · exact a.elim
    · rename_i e
      split at a
      · rename_i n t kvs ed
        split at a
        · rename_i hz
          obtain ⟨hk, hz⟩ := hz
          cases t with
          | true => simp [keyOk] at hk
          | false =>
            obtain ⟨rfl, he, rfl, l, el, hl⟩ := dicAt_ok P.rel h1 ed
            have hn := (List.getElem?_eq_some_iff.mp he).1
            obtain ⟨kk, e4, rfl⟩ := key_of_val hk (nr_v h2)
            subst e4
            obtain ⟨P2, k2⟩ := P.write (o := .dic false (kput kvs (keyVal kk) d)) (u' := .dK (putK l kk v)) hn el (fun _ z => nomatch z) (fun _ _ z => nomatch z) fun k => ⟨_, upd_same, (dr_put hl h3).keep k⟩
            exact L2.set_dict (by omega) pins s σ H _ _ v ov iv u Q I ro ri rv ⟨_, _, rfl, DPut.k el (by rw [← hl.length]; exact hz), a μ _ P2⟩
        · exact a.elim
      · exact a.elim
/-! ### targets -/
def gG (K : PySem.W.Frag) (W : XW) (cs : List Fn) (g : G) : TG := fun v σ H Q => ∃ d μ st ρ, Rel K H μ st ∧ ER K H μ st.length σ ρ ∧ VR K H μ st.length v d ∧ AfterG K W μ st H (setG cs g d ρ st) Q
def gGs (K : PySem.W.Frag) (W : XW) (cs : List Fn) (g : G) : TGs := fun v σ H Q => ∃ d μ st ρ, Rel K H μ st ∧ ER K H μ st.length σ ρ ∧ VRs K H μ st.length v d ∧ AfterG K W μ st H (setGs cs g d ρ st) Q
mutual
def chkG : G → Ctx → Expr → Bool
  | .tg t, c, x => chkT t c x
  | .sub o i, c, x => match x with
    | .Subscript xo xi _ => noSlice xi && chk o c xo && chk i c xi
    | _ => false
  | .cons g gs, c, x => match x with
    | .Tuple es _ _ => chkGs (.cons g gs) c es
    | _ => false
  | .nil, _, _ => false
def chkGs : G → Ctx → List Expr → Bool
  | .nil, _, xs => xs.isEmpty
  | .cons g gs, c, xs => match xs with
    | x :: xs => noS x && chkG g c x && chkGs gs c xs
    | [] => false
  | _, _, _ => false
end
theorem chkGs_s : ∀ {gs : G} {xs : List Expr}, chkGs gs c xs = true → xs.all noS = true ∧ xs.length = gs.len := by
  intro gs
  induction gs with
  | tg t => intro xs h; simp [chkGs] at h
  | sub o i => intro xs h; simp [chkGs] at h
  | nil => intro xs h; simp [chkGs] at h; subst h; exact ⟨rfl, rfl⟩
  | cons g gs _ ih =>
    intro xs h
    cases xs with
    | nil => simp [chkGs] at h
    | cons x xs =>
      simp only [chkGs, Bool.and_eq_true] at h
      obtain ⟨h1, h2⟩ := ih h.2
      exact ⟨by simp [h.1.1, h1], by simp [G.len, h2]⟩
theorem sub_assign {X : Cx} {o i : Expr} {pos : Pos} (h : noSlice i = true) : ∀ v, assign (.Subscript o i pos) X.env v = (do
      let ov ← holding [v] (eval o X.env)
      let iv ← holding [v, ov] (eval i X.env)
      standAt pos
      holding [v, ov, iv] (setItem ov iv v)
      release [v, ov, iv] []) := by
  intro v
  cases i <;> first | rfl | cases h
theorem AfterG.then {K : PySem.W.Frag} {W : XW} {μ₀ μ : Mu} {st₀ st : Store} {H₀ H : Hp} {σ : L2.St} {ρ : Env} {cs : List Fn} {e : E} {g : RV → Store → Res Env} {Q : VK} {R : L2.St → Hp → Prop} (P : Post K μ₀ st₀ H₀ μ st H) (er : ER K H μ st.length σ ρ) (a : AfterG K W μ₀ st₀ H₀ ((ev cs e ρ st).bind g) R)
    (k : ∀ (x : RV) (μ1 : Mu) (st1 : Store) (H1 : Hp) (v : V), Post K μ st H μ1 st1 H1 → VRR K H H1 μ1 st1.length v x → AfterG K W μ₀ st₀ H₀ (g x st1) R → Q v H1) : tE K W (ev cs e) σ H Q := by
  refine ⟨μ, st, ρ, P.rel, er, ?_⟩
  cases he : ev cs e ρ st with
  | bad => rw [he] at a; exact a
  | exc c p st' => rw [he] at a; exact fun μ' H' P' => a μ' H' (P.trans P')
  | ok x st1 => rw [he] at a; exact fun μ1 H1 v P1 hv => k x μ1 st1 H1 v P1 hv a
theorem chkG_ok (g0 : Good X W c cs) : ∀ (g : G), (∀ x, chkG g c x = true → PG X x (gG X.K W cs g)) ∧ (∀ xs, chkGs g c xs = true → PGs X xs (gGs X.K W cs g)) := by
  intro g
  induction g with
  | tg t =>
    refine ⟨fun x h => ?_, fun xs h => by simp [chkGs] at h⟩
    refine pg_imp ((chkT_ok g0 t).1 x (by simpa [chkG] using h)) fun v σ H Q q => ?_
    obtain ⟨d, μ, st, ρ, r, er, hv, a⟩ := q
    simp only [setG] at a
    cases hb : bindT t d ρ with
    | none => rw [hb] at a; exact a.elim
    | some ρ' => rw [hb] at a; exact ⟨d, μ, st.length, ρ, ρ', hv, er, hb, fun σ' e _ _ => a μ H (.refl r) σ' e⟩
  | sub o i =>
    refine ⟨fun x h => ?_, fun xs h => by simp [chkGs] at h⟩
    cases x <;> simp only [chkG] at h <;> first | cases h | skip
    simp only [Bool.and_eq_true] at h
    obtain ⟨⟨h1, h2⟩, h3⟩ := h
    refine pg_imp (pg_sub (chk_ok o g0 h2).e (chk_ok i g0 h3).e (set_any g0.units) (sub_assign h1)) fun v σ H Q q => ?_
    obtain ⟨d, μ, st, ρ, r, er, hv, a⟩ := q
    simp only [setG] at a
    refine AfterG.then (.refl r) er a fun x μ1 st1 H1 ov P1 ho a => ?_
    refine AfterG.then P1 (er.step P1 r) a fun y μ2 st2 H2 iv P2 hi a => ?_
    refine ⟨W, μ, st, H, μ2, st2, x, y, d, P1.trans P2, ho.step P2 P1.rel, hi.older fun _ z => P1.free z, VR.keep (P2.keep P1.rel) _ _ (VR.keep (P1.keep r) _ _ hv), ?_⟩
    cases hf : fset x y d st2 with
    | bad => rw [hf] at a; exact a
    | exc c p st' => rw [hf] at a; exact a
    | ok u st3 => rw [hf] at a; exact fun μ3 H3 P3 => a μ3 H3 P3 σ (er.step P3 r)
  | nil =>
    refine ⟨fun x h => by simp [chkG] at h, fun xs h => ?_⟩
    simp only [chkGs, List.isEmpty_iff] at h
    subst h
    refine pgs_imp pgs_nil fun v σ H Q q => ?_
    obtain ⟨d, μ, st, ρ, r, er, hv, a⟩ := q
    cases d with
    | nil =>
      cases hv
      simp only [setGs] at a
      exact ⟨rfl, a μ H (.refl r) σ er⟩
    | cons _ _ => simp only [setGs] at a; exact a.elim
  | cons g gs ih1 ih2 =>
    have two : ∀ xs, chkGs (.cons g gs) c xs = true → PGs X xs (gGs X.K W cs (.cons g gs)) := fun xs h => by
      cases xs with
      | nil => simp [chkGs] at h
      | cons x xs =>
        simp only [chkGs, Bool.and_eq_true] at h
        refine pgs_imp (pgs_cons (ih1.1 x h.1.2) (ih2.2 xs h.2) (by rw [asg1 h.1.1]; rfl)) fun v σ H Q q => ?_
        obtain ⟨ds, μ, st, ρ, r, er, hv, a⟩ := q
        cases ds with
        | nil => simp only [setGs] at a; exact a.elim
        | cons d ds =>
          simp only [setGs] at a
          cases hv with
          | cons h1 h2 =>
            refine ⟨_, _, rfl, d, μ, st, ρ, r, er, h1, ?_⟩
            cases hg : setG cs g d ρ st with
            | bad => rw [hg] at a; exact a
            | exc c p st' => rw [hg] at a; exact a
            | ok ρ1 st1 =>
              rw [hg] at a
              intro μ1 H1 P1 σ1 e1
              exact ⟨ds, μ1, st1, ρ1, P1.rel, e1, VRs.keep (P1.keep r) _ _ h2, AfterG.step P1 a⟩
    refine ⟨fun x h => ?_, two⟩
    cases x <;> simp only [chkG] at h <;> first | cases h | skip
    obtain ⟨s1, s2⟩ := chkGs_s h
    refine pg_imp (pg_tup (n := (G.cons g gs).len) g0.calm (two _ h) (by rw [asgLen, s2]) (asgNo s1)) fun v σ H Q q => ?_
    obtain ⟨d, μ, st, ρ, r, er, hv, a⟩ := q
    cases d <;> simp only [setG] at a <;> first | exact a.elim | skip
    split at a
    · rename_i hl
      obtain ⟨p, vs, e1, e2, e3⟩ := hv.i_tup
      exact ⟨p, vs, e1, e2, by rw [VRs.length e3]; exact hl, _, μ, st, ρ, r, er, e3, a⟩
    · exact a.elim
end
end Mi
end
section
set_option linter.all false
set_option autoImplicit false
set_option maxRecDepth 10000
/-! MiStm: statements. -/
namespace Mi
open PySem PySem.Spec L2
open PyProof.Rows hiding RelV

/-- a new list that is stored ahead of the comprehension's end -/
def swL (c : Ctx) (tg e : Expr) : Bool := match tg, e with
  | .Name y py, .ListComp _ _ scope p => decide (c.sc.names.lookup y = some .local) && (py.line == p.line) && !(scope.names.any fun (n, k) => n == y && (k == .local || k == .cell))
  | _, _ => false
def noSC : Expr → Bool
  | .SetComp .. => false
  | .DictComp .. => false
  | _ => true
def noComp : Expr → Bool
  | .ListComp .. => false
  | .SetComp .. => false
  | .DictComp .. => false
  | _ => true
def isStar : Expr → Bool
  | .Starred .. => true
  | _ => false
def nmOf (c : Ctx) (l : Nat) : Expr → Option Str
  | .Name id pos => if (c.sc.names.lookup id == some .local && pos.line == l) = true then some id else none
  | _ => none
/-- stores that are made from the right -/
def swN (c : Ctx) (ts vs : List Expr) : Option (Option (List Str)) :=
  if (!(ts.length == 2 || ts.length == 3) || vs.length != ts.length) = true then some none
  else if (vs.any isStar) = true then some none
  else if ((ts.filterMap (nmOf c ((ts.head?.map (·.pos.line)).getD 0))).length != ts.length || (ts.filterMap (nmOf c ((ts.head?.map (·.pos.line)).getD 0))).eraseDups.length != (ts.filterMap (nmOf c ((ts.head?.map (·.pos.line)).getD 0))).length) = true then some none
  else if (vs.all (foldedForSure 8)) = true then some none
  else if (vs.all (constantsAlone 8)) = true then none
  else some (some (ts.filterMap (nmOf c ((ts.head?.map (·.pos.line)).getD 0))))
def swP (c : Ctx) (tg e : Expr) : Option (Option (List Str)) := match tg, e with
  | .Tuple ts _ _, .Tuple vs _ _ => swN c ts vs
  | .List _ _, _ => none
  | _, _ => some none
section
variable {X : Cx} {W : XW} {c : Ctx} {cs : List Fn}
theorem block_fun {env : PySem.Env} (h : env.scope.kind = .function) : env.blockKind = .function := by unfold Env.blockKind; rw [h]; rfl
theorem swL_false {tg e : Expr} {l : Nat} {env : PySem.Env} (hs : env.scope = c.sc) (hk : c.sc.kind = .function) (h : swL c tg e = false) (h2 : noSC e = true) : swapsWith e (some tg) l env = pure false := by
  have hb : env.blockKind = .function := block_fun (by rw [hs]; exact hk)
  have hkd : ∀ y, env.kindOf y = c.sc.names.lookup y := fun y => by show env.scope.names.lookup y = _; rw [hs]
  cases e <;> first | rfl | (cases h2; done) | skip
  cases tg <;> first | rfl | skip
  rename_i elt gens scope p y py
  unfold swapsWith
  simp only [hb, hkd, Expr.pos]
  simp only [swL] at h
  congr 1
  rw [← h]
  congr 1
  congr 1
  cases c.sc.names.lookup y with
  | none => rfl
  | some k => cases k <;> rfl
theorem noComp_sw {e : Expr} {l : Nat} {env : PySem.Env} {t : Option Expr} (h : noComp e = true) : swapsWith e t l env = pure false := by
  cases e <;> first | rfl | cases h
def nmE (env : PySem.Env) (l : Nat) : Expr → Option Str
  | .Name id pos => if (env.kindOf id == some .local && pos.line == l) = true then some id else none
  | _ => none
theorem nm_eq {env : PySem.Env} (hs : env.scope = c.sc) : nmE env = nmOf c := by
  funext l e
  cases e <;> first | rfl | skip
  unfold nmE nmOf
  show (if (env.scope.names.lookup _ == some .local && _) = true then _ else _) = _
  rw [hs]
theorem swP_ok {tg e : Expr} {env : PySem.Env} {r : Option (List Str)} (hs : env.scope = c.sc) (hk : c.sc.kind = .function) (h : swP c tg e = some r) : swappedStores [tg] e env = pure r := by
  have hb : env.blockKind = .function := block_fun (by rw [hs]; exact hk)
  cases tg <;> first | (cases h; done) | (cases h; rfl) | skip
  cases e <;> first | (cases h; rfl) | skip
  rename_i ts k1 p1 vs k2 p2
  simp only [swP, swN] at h
  rw [← nm_eq hs] at h
  unfold swappedStores
  simp only [hb]
  have hf : (ScopeKind.function != ScopeKind.function) = false := by decide
  rw [hf, Bool.or_false]
  have hst : (vs.any fun x => match x with | .Starred value pos => true | x => false) = vs.any isStar := by
    congr 1
  split at h
  · rename_i c1; cases h; rw [if_pos c1]
  · rename_i c1
    rw [if_neg c1]
    split at h
    · rename_i c2; cases h
      exact if_pos c2
    · rename_i c2
      refine (if_neg c2).trans ?_
      split at h
      · rename_i c3; cases h
        exact if_pos c3
      · rename_i c3
        refine (if_neg c3).trans ?_
        split at h
        · rename_i c4; cases h; rw [if_pos c4]
        · rename_i c4
          rw [if_neg c4]
          split at h
          · cases h
          · rename_i c5
            rw [if_neg c5]
            cases h
            rfl
/-! ### a new list, stored -/
theorem chk_comp {own : List Nat} {t : T} {k : IK} {a b d e : E} {x : Expr} (g : Good X W c cs) (h : chk (.comp own t k a b d e) c x = true) : ∃ elt tg iter ifs scope pos, x = .ListComp elt [⟨tg, iter, ifs, 0⟩] scope pos ∧
    PI X tg iter (tI X.K W k (ev cs a) fun ρ st => opt2 (isNil b) (ev cs b ρ) st) ∧ noSet iter = true ∧ own.all (fun i => decide (i < c.N.length)) = true ∧ blkC c.N c.sc scope (ownB c own) = true ∧ t.slots.all (fun i => own.contains i) = true ∧ chkT t (c.blk scope) tg = true ∧
    (∀ (s : Shared) (H : Hp) (C : Addr) (cl : List (Str × Addr)) (fp : List Addr), PTs (X.blk s H scope (compEnvC scope cl C X.env) fp) ifs (tB X.K W0 fun ρ st => optC (isNil d) (ev cs d ρ) st)) ∧
    ∀ (s : Shared) (H : Hp) (C : Addr) (cl : List (Str × Addr)) (fp : List Addr), PE (X.blk s H scope (compEnvC scope cl C X.env) fp) elt (tE X.K W0 (ev cs e)) := by
  simp only [chk] at h
  split at h
  · split at h
    · rename_i elt tg iter ifs scope pos _ p hp
      simp only [Bool.and_eq_true] at h
      obtain ⟨⟨⟨⟨⟨⟨⟨⟨h1, h2⟩, h3⟩, h4⟩, h5⟩, h6⟩, h7⟩, h8⟩, h9⟩ := h
      obtain ⟨xa, ob⟩ := p
      refine ⟨elt, tg, iter, ifs, scope, _, rfl, vI_ok g hp h1 (chk_ok a g h2).e ?_, vI_set hp, h4, h5, h6, h7, ?_, fun s H C cl fp => (chk_ok e g.blk h9).e⟩
      · cases ob with
        | none => exact isNil_eq h3
        | some y =>
          simp only [Bool.and_eq_true, Bool.not_eq_true'] at h3
          exact ⟨h3.1, (chk_ok b g h3.2).e⟩
      · intro s H C cl fp
        split at h8
        · rw [isNil_eq h8]
          exact n_if0
        · simp only [Bool.and_eq_true, Bool.not_eq_true'] at h8
          exact n_if1 h8.1 (chk_ok d g.blk h8.2).t
        · cases h8
    · cases h
  · cases h
theorem s_setLc {own : List Nat} {t : T} {k : IK} {a b d e : E} {x : Expr} {i fuel : Nat} {y : Str} {py spos : Pos} (g : Good X W c cs) (kd : c.sc.kind = .function) (h : chk (.comp own t k a b d e) c x = true) (hw : swL c (.Name y py) x = true) (hi : c.N[i]? = some y) :
    PS X (.Assign [.Name y py] x spos) (tS X.K W (ex cs fuel (.asg (.tg (.sl i)) (.comp own t k a b d e)))) := by
  obtain ⟨elt, tg, iter, ifs, scope, pos, rfl, h1, h2, h3, h4, h5, h6, h7, h8⟩ := chk_comp g h
  simp only [swL, Bool.and_eq_true, decide_eq_true_eq, Bool.not_eq_true'] at hw
  obtain ⟨⟨w1, w2⟩, w3⟩ := hw
  have hyl : X.env.scope.names.lookup y = some .local := by rw [g.sc]; exact w1
  have ok : BlkOk X.N X.env.scope scope (ownB c own) := by rw [g.N, g.sc]; exact blkOk_by h4
  have base := ps_setLc (i := i) (g := gT X.K t) (spos := spos) g.calm (by rw [g.N]; exact g.nd) (by rw [g.N]; exact hi) hyl (sw_true (by rw [g.sc]; exact kd) hyl w2 w3) h1 ok
    (fun s H C cl fp => (chkT_ok (g.blk (s := s) (H := H) (cl := cl) (C := C) (fp := fp)) t).1 tg h6) h7 h8 (folded_ok h2)
  refine ⟨fun pins s σ H D I q => base.run pins s σ H D I ?_⟩
  rw [ownB_ok h3]
  refine comp_ok (fun i hi => by simpa using List.all_eq_true.mp h5 i hi) ?_
  obtain ⟨μ, st, ρ, r, er, z⟩ := q
  have z2 : tE X.K W (ev cs (.comp own t k a b d e)) σ H fun x H1 => gName i x σ H1 D.nx := by
    refine ⟨μ, st, ρ, r, er, ?_⟩
    simp only [ex] at z
    cases he : ev cs (.comp own t k a b d e) ρ st with
    | bad => rw [he] at z; exact z
    | exc c p st' => rw [he] at z; exact z
    | ok x1 st1 =>
      rw [he] at z
      intro μ1 H1 v P1 hv
      obtain ⟨μ2, P2, k2, hv2⟩ := settle_ok P1 hv
      simp only [Res.bind, setG, bindT] at z
      by_cases hl : i < ρ.length
      · rw [if_pos hl] at z
        exact z μ2 H1 P2 _ ((er.step P2 r).set hv2)
      · rw [if_neg hl] at z
        exact z.elim
  obtain ⟨μ, st, ρ, r, er, z⟩ := z2
  rw [comp_eq] at z
  exact ⟨μ, st, ρ, r, er, z⟩
/-! ### stores from the right -/
theorem par_then {ts : T} {es : E} {fuel : Nat} {K : PySem.W.Frag} {σ : L2.St} {H : Hp} {D : Ends} (h : tS K W (ex cs fuel (.asg (.tg (.tp ts)) (.tup es))) D σ H) :
    tA K W (evs cs es) σ H fun vs H1 => ∃ ds μ N ρ ρ', ER K H1 μ N σ ρ ∧ VRs K H1 μ N vs ds ∧ bindTs ts ds ρ = some ρ' ∧ ∀ σ', ER K H1 μ N σ' ρ' → D.nx σ' H1 := by
  obtain ⟨μ, st, ρ, r, er, z⟩ := h
  refine ⟨μ, st, ρ, r, er, ?_⟩
  simp only [ex, ev] at z
  cases he : evs cs es ρ st with
  | bad => rw [he] at z; exact z
  | exc c p st' => rw [he] at z; exact z
  | ok rs st1 =>
    rw [he] at z
    intro μ1 H1 vs ps P1 hv
    simp only [Res.bind] at z
    obtain ⟨μ2, P2, k2, hd⟩ := settles_ok P1 hv
    split at z
    · rename_i hz
      split at hz
      · cases hz
        simp only [settle, setG, bindT] at z
        cases hb : bindTs ts (settles rs st1).1 ρ with
        | none => rw [hb] at z; exact z.elim
        | some ρ' => rw [hb] at z; exact ⟨_, μ2, _, ρ, ρ', er.step P2 r, hd, hb, fun σ' e => z μ2 H1 P2 σ' e⟩
      · cases hz
    · rename_i hz
      split at hz <;> cases hz
    · exact z.elim
theorem tA_imp {K : PySem.W.Frag} {f : Comp (List RV)} {σ : L2.St} {H : Hp} {Q Q' : List V → Hp → Prop} (h : tA K W f σ H Q) (i : ∀ v H, Q v H → Q' v H) : tA K W f σ H Q' := by
  obtain ⟨μ, st, ρ, r, er, a⟩ := h
  refine ⟨μ, st, ρ, r, er, ?_⟩
  cases hf : f ρ st with
  | bad => rw [hf] at a; exact a
  | exc c p st' => rw [hf] at a; exact a
  | ok r1 st1 => rw [hf] at a; exact fun μ' H' v ps P h => i _ _ (a μ' H' v ps P h)
def par2 (c : Ctx) (g : G) (e : E) (tg v : Expr) : Bool := match g, e, tg, v with
  | .tg (.tp (.cons (.sl i) (.cons (.sl j) .nil))), .tup es, .Tuple [.Name x _, .Name y _] _ _, .Tuple [_, _] _ _ =>
    decide (c.N[i]? = some x) && decide (c.N[j]? = some y) && decide (i ≠ j) && decide (c.sc.names.lookup x = some .local) && decide (c.sc.names.lookup y = some .local) && decide (swP c tg v = some (some [x, y]))
  | _, _, _, _ => false
def par3 (c : Ctx) (g : G) (e : E) (tg v : Expr) : Bool := match g, e, tg, v with
  | .tg (.tp (.cons (.sl i) (.cons (.sl j) (.cons (.sl l) .nil)))), .tup es, .Tuple [.Name x _, .Name y _, .Name z _] _ _, .Tuple [_, _, _] _ _ =>
    decide (c.N[i]? = some x) && decide (c.N[j]? = some y) && decide (c.N[l]? = some z) && decide (i ≠ j) && decide (i ≠ l) && decide (j ≠ l) && decide (c.sc.names.lookup x = some .local) && decide (c.sc.names.lookup y = some .local) && decide (c.sc.names.lookup z = some .local) && decide (swP c tg v = some (some [x, y, z]))
  | _, _, _, _ => false
theorem s_par2 {g0 : G} {e : E} {tg v : Expr} {spos : Pos} {fuel : Nat} (g : Good X W c cs) (kd : c.sc.kind = .function) (h : par2 c g0 e tg v = true) (hc : chk e c v = true) : PS X (.Assign [tg] v spos) (tS X.K W (ex cs fuel (.asg g0 e))) := by
  unfold par2 at h
  split at h
  · rename_i i j es x px y py k1 p1 xa xb k2 p2
    simp only [Bool.and_eq_true, decide_eq_true_eq] at h
    obtain ⟨⟨⟨⟨⟨h1, h2⟩, h3⟩, h4⟩, h5⟩, h6⟩ := h
    simp only [chk] at hc
    have ha := (chks_ok es g hc).tA
    have base := ps_par (pos := spos) g.calm (by rw [g.N]; exact g.nd) (by rw [g.N]; exact h1) (by rw [g.N]; exact h2) h3 (by rw [g.sc]; exact h4) (by rw [g.sc]; exact h5) ha (swP_ok g.sc kd h6)
    refine ⟨fun pins s σ H D I q => base.run pins s σ H D I ?_⟩
    refine tA_imp (par_then q) fun vs H1 z => ?_
    obtain ⟨ds, μ, N, ρ, ρ', er, hv, hb, z⟩ := z
    rcases ds with _ | ⟨d1, _ | ⟨d2, _ | ⟨_, _⟩⟩⟩ <;> simp only [bindTs, Option.bind_eq_some_iff] at hb
    · cases hb
    · obtain ⟨_, _, hb⟩ := hb; cases hb
    · obtain ⟨ρ1, hb1, ρ2, hb2, hb⟩ := hb
      cases hb
      cases hv with
      | cons v1 hv => cases hv with
        | cons v2 hv =>
          cases hv
          refine ⟨_, _, rfl, z _ ?_⟩
          simp only [bindT] at hb1 hb2
          split at hb1 <;> cases hb1
          split at hb2 <;> cases hb2
          exact (er.set v1).set v2
    · obtain ⟨_, _, _, _, hb⟩ := hb; cases hb
  · cases h
theorem s_par3 {g0 : G} {e : E} {tg v : Expr} {spos : Pos} {fuel : Nat} (g : Good X W c cs) (kd : c.sc.kind = .function) (h : par3 c g0 e tg v = true) (hc : chk e c v = true) : PS X (.Assign [tg] v spos) (tS X.K W (ex cs fuel (.asg g0 e))) := by
  unfold par3 at h
  split at h
  · simp only [Bool.and_eq_true, decide_eq_true_eq] at h
    obtain ⟨⟨⟨⟨⟨⟨⟨⟨⟨h1, h2⟩, h3⟩, h4⟩, h5⟩, h6⟩, h7⟩, h8⟩, h9⟩, h10⟩ := h
    simp only [chk] at hc
    have ha := (chks_ok _ g hc).tA
    have base := ps_par3 (pos := spos) g.calm (by rw [g.N]; exact g.nd) (by rw [g.N]; exact h1) (by rw [g.N]; exact h2) (by rw [g.N]; exact h3) h4 h5 h6 (by rw [g.sc]; exact h7) (by rw [g.sc]; exact h8) (by rw [g.sc]; exact h9) ha (swP_ok g.sc kd h10)
    refine ⟨fun pins s σ H D I q => base.run pins s σ H D I ?_⟩
    refine tA_imp (par_then q) fun vs H1 z => ?_
    obtain ⟨ds, μ, N, ρ, ρ', er, hv, hb, z⟩ := z
    rcases ds with _ | ⟨d1, _ | ⟨d2, _ | ⟨d3, _ | ⟨_, _⟩⟩⟩⟩ <;> simp only [bindTs, Option.bind_eq_some_iff] at hb
    · cases hb
    · obtain ⟨_, _, hb⟩ := hb; cases hb
    · obtain ⟨_, _, _, _, hb⟩ := hb; cases hb
    · obtain ⟨ρ1, hb1, ρ2, hb2, ρ3, hb3, hb⟩ := hb
      cases hb
      cases hv with
      | cons v1 hv => cases hv with
        | cons v2 hv => cases hv with
          | cons v3 hv =>
            cases hv
            refine ⟨_, _, _, rfl, z _ ?_⟩
            simp only [bindT] at hb1 hb2 hb3
            split at hb1 <;> cases hb1
            split at hb2 <;> cases hb2
            split at hb3 <;> cases hb3
            exact ((er.set v1).set v2).set v3
    · obtain ⟨_, _, _, _, _, _, hb⟩ := hb; cases hb
  · cases h
end
end Mi
end
section
set_option linter.all false
set_option autoImplicit false
set_option maxRecDepth 10000
/-! MiStmt: the look that statements are Mini's. -/
namespace Mi
open PySem PySem.Spec L2
open PyProof.Rows hiding RelV

def isComp : E → Bool
  | .comp .. => true
  | _ => false
def asgB (c : Ctx) (g : G) (e : E) (tg v : Expr) : Bool :=
  if swL c tg v = true then (match g, tg with
    | .tg (.sl i), .Name y _ => isComp e && decide (c.N[i]? = some y)
    | _, _ => false)
  else match swP c tg v with
    | some none => noS tg && noSC v && chkG g c tg
    | some (some _) => par2 c g e tg v || par3 c g e tg v
    | none => false
mutual
def chkS : S → Ctx → Stmt → Bool
  | .never, _, _ => true
  | .skip, _, x => match x with
    | .Pass _ => true
    | _ => false
  | .asg g e, c, x => match x with
    | .Assign [tg] v _ => chk e c v && asgB c g e tg v
    | _ => false
  | .ex e, c, x => match x with
    | .Expr v _ => noComp v && chk e c v
    | _ => false
  | .ret e, c, x => match x with
    | .Return (some v) _ => chk e c v
    | _ => false
  | .retN, _, x => match x with
    | .Return none _ => true
    | _ => false
  | .ite d s t, c, x => match x with
    | .If v a b _ => chk d c v && chkSs s c a && chkSs t c b
    | _ => false
  | .whil d s, c, x => match x with
    | .While v a [] _ => chk d c v && chkSs s c a
    | _ => false
  | .fo t k a b s, c, x => match x with
    | .For tg iter body [] _ => match vI c k iter with
      | some p => pairT k tg && chk a c p.1 && (match p.2 with
        | none => isNil b
        | some y => !isNil b && chk b c y) && chkT t c tg && chkSs s c body
      | none => false
    | _ => false
  | .brk, _, x => match x with
    | .Break _ => true
    | _ => false
  | .cont, _, x => match x with
    | .Continue _ => true
    | _ => false
  | .seq _ _, _, _ => false
def chkSs : S → Ctx → List Stmt → Bool
  | .skip, _, xs => xs.isEmpty
  | .seq s t, c, xs => match xs with
    | x :: xs => chkS s c x && chkSs t c xs
    | [] => false
  | .never, _, _ => true
  | _, _, _ => false
end
section
variable {X : Cx} {W : XW} {c : Ctx} {cs : List Fn} {fuel : Nat}
theorem ps_imp {e : Stmt} {t t' : TS} (h : PS X e t) (i : ∀ D σ H, t' D σ H → t D σ H) : PS X e t' := ⟨fun pins s σ H D I q => h.run pins s σ H D I (i _ _ _ q)⟩
theorem pss_imp {e : List Stmt} {t t' : TS} (h : PSs X e t) (i : ∀ D σ H, t' D σ H → t D σ H) : PSs X e t' := ⟨fun pins s σ H D I q => h.run pins s σ H D I (i _ _ _ q)⟩
theorem tB_of {K : PySem.W.Frag} {f : Comp RV} {σ : L2.St} {H : Hp} {Q : Bool → Hp → Prop} (h : tB K W (fun ρ st => (f ρ st).bind fun r st1 => truthR r st1) σ H Q) : tT K W f σ H Q := h
theorem stm_asg {g0 : G} {e : E} {tg v : Expr} {pos : Pos} (g : Good X W c cs) (kd : c.sc.kind = .function) (h : chk e c v = true) (h2 : asgB c g0 e tg v = true) : PS X (.Assign [tg] v pos) (tS X.K W (ex cs fuel (.asg g0 e))) := by
  unfold asgB at h2
  split at h2
  · rename_i hw
    split at h2
    · rename_i i y py
      simp only [Bool.and_eq_true, decide_eq_true_eq] at h2
      cases e <;> first | exact s_setLc g kd h hw h2.2 | cases h2.1
    · cases h2
  · rename_i hw
    split at h2
    · rename_i hp
      simp only [Bool.and_eq_true] at h2
      obtain ⟨⟨h3, h4⟩, h5⟩ := h2
      refine ps_imp (ps_asg (chk_ok e g h).e ((chkG_ok g g0).1 tg h5) (swL_false g.sc kd (by simpa using hw) h4) (swP_ok g.sc kd hp) (by rw [asg1 h3]; rfl)) fun D σ H q => ?_
      obtain ⟨μ, st, ρ, r, er, z⟩ := q
      refine ⟨μ, st, ρ, r, er, ?_⟩
      simp only [ex] at z
      cases he : ev cs e ρ st with
      | bad => rw [he] at z; exact z
      | exc c p st' => rw [he] at z; exact z
      | ok x1 st1 =>
        rw [he] at z
        intro μ1 H1 v P1 hv
        obtain ⟨μ2, P2, k2, hv2⟩ := settle_ok P1 hv
        refine ⟨_, μ2, _, ρ, P2.rel, er.step P2 r, hv2, ?_⟩
        simp only [Res.bind] at z
        cases hg : setG cs g0 (settle x1 st1).1 ρ (settle x1 st1).2 with
        | bad => rw [hg] at z; exact z
        | exc c p st' => rw [hg] at z; exact fun μ' H' P' => z μ' H' (P2.trans P')
        | ok ρ1 st2 => rw [hg] at z; exact fun μ' H' P' => z μ' H' (P2.trans P')
    · simp only [Bool.or_eq_true] at h2
      rcases h2 with h2 | h2
      · exact s_par2 g kd h2 h
      · exact s_par3 g kd h2 h
    · cases h2
mutual
theorem chkS_ok (g : Good X W c cs) (kd : c.sc.kind = .function) (po : PassesOwn (model X.prog X.w) X.A X.env X.xe) : ∀ (s : S) {x : Stmt}, chkS s c x = true → PS X x (tS X.K W (ex cs fuel s))
  | .never, x, h => ps_imp ps_never fun D σ H ⟨μ, st, ρ, r, er, z⟩ => by simp only [ex] at z; exact z
  | .skip, x, h => by
    cases x <;> simp only [chkS] at h <;> first | cases h | skip
    exact ps_imp ps_pass fun D σ H ⟨μ, st, ρ, r, er, z⟩ => by simp only [ex] at z; exact z μ H (.refl r) σ er
  | .asg g0 e, x, h => by
    simp only [chkS] at h
    split at h
    · simp only [Bool.and_eq_true] at h
      exact stm_asg g kd h.1 h.2
    · cases h
  | .ex e, x, h => by
    cases x <;> simp only [chkS] at h <;> first | cases h | skip
    simp only [Bool.and_eq_true] at h
    refine ps_imp (ps_expr (chk_ok e g h.2).e (noComp_sw h.1)) fun D σ H q => ?_
    obtain ⟨μ, st, ρ, r, er, z⟩ := q
    refine ⟨μ, st, ρ, r, er, ?_⟩
    simp only [ex] at z
    cases he : ev cs e ρ st with
    | bad => rw [he] at z; exact z
    | exc c p st' => rw [he] at z; exact z
    | ok x1 st1 => rw [he] at z; exact fun μ1 H1 v P1 hv => z μ1 H1 P1 σ (er.step P1 r)
  | .ret e, x, h => by
    simp only [chkS] at h
    split at h
    · refine ps_imp (ps_ret (chk_ok e g h).e) fun D σ H q => ?_
      obtain ⟨μ, st, ρ, r, er, z⟩ := q
      refine ⟨μ, st, ρ, r, er, ?_⟩
      simp only [ex] at z
      cases he : ev cs e ρ st with
      | bad => rw [he] at z; exact z
      | exc c p st' => rw [he] at z; exact z
      | ok x1 st1 => rw [he] at z; exact fun μ1 H1 v P1 hv => z μ1 H1 P1 v hv
    · cases h
  | .retN, x, h => by
    simp only [chkS] at h
    split at h
    · exact ps_imp ps_retN fun D σ H ⟨μ, st, ρ, r, er, z⟩ => by simp only [ex] at z; exact z μ H (.refl r) _ .non
    · cases h
  | .ite d s t, x, h => by
    cases x <;> simp only [chkS] at h <;> first | cases h | skip
    simp only [Bool.and_eq_true] at h
    refine ps_imp (ps_if (chk_ok d g h.1.1).t (chkSs_ok g kd po s h.1.2) (chkSs_ok g kd po t h.2)) fun D σ H q => ?_
    obtain ⟨μ, st, ρ, r, er, z⟩ := q
    refine ⟨μ, st, ρ, r, er, ?_⟩
    simp only [ex] at z
    rw [← bind_assoc] at z
    cases he : (ev cs d ρ st).bind fun r st1 => truthR r st1 with
    | bad => rw [he] at z; exact z
    | exc c p st' => rw [he] at z; exact z
    | ok b st1 =>
      rw [he] at z
      intro μ1 H1 P1
      cases b with
      | true => exact ⟨μ1, st1, ρ, P1.rel, er.step P1 r, AfterS.step P1 z⟩
      | false => exact ⟨μ1, st1, ρ, P1.rel, er.step P1 r, AfterS.step P1 z⟩
  | .whil d s, x, h => by
    simp only [chkS] at h
    split at h
    · simp only [Bool.and_eq_true] at h
      refine ps_imp (ps_while po (chk_ok d g h.1).t (chkSs_ok g kd po s h.2)) fun D σ H q => ?_
      exact while_ok (n := fuel) (fc := fun ρ st => (ev cs d ρ st).bind fun r st1 => truthR r st1) (f := ex cs fuel s) (by
        obtain ⟨μ, st, ρ, r, er, z⟩ := q
        simp only [ex] at z
        exact ⟨μ, st, ρ, r, er, z⟩)
    · cases h
  | .fo t k a b s, x, h => by
    simp only [chkS] at h
    split at h
    · split at h
      · rename_i p hp
        simp only [Bool.and_eq_true] at h
        obtain ⟨⟨⟨⟨h1, h2⟩, h3⟩, h4⟩, h5⟩ := h
        obtain ⟨xa, ob⟩ := p
        have hb : SrcB X W cs b ob := by
          cases ob with
          | none => exact isNil_eq h3
          | some y =>
            simp only [Bool.and_eq_true, Bool.not_eq_true'] at h3
            exact ⟨h3.1, (chk_ok b g h3.2).e⟩
        refine ps_imp (ps_for po g.calm (vI_ok g hp h1 (chk_ok a g h2).e hb) ((chkT_ok g t).1 _ h4) (chkSs_ok g kd po s h5) (folded_ok (vI_set hp))) fun D σ H q => ?_
        refine for_ok ?_
        obtain ⟨μ, st, ρ, r, er, z⟩ := q
        refine ⟨μ, st, ρ, r, er, ?_⟩
        simp only [ex] at z
        have e : (fun ρ st => (walkM k (ev cs a) (fun ρ st => opt2 (isNil b) (ev cs b ρ) st) ρ st).bind fun p st2 => forLoop p.2 t (ex cs fuel s) p.1 ρ st2) ρ st = (ev cs a ρ st).bind fun r st1 => (opt2 (isNil b) (ev cs b ρ) st1).bind fun q st2 => match walk k r q st2 with
            | some (xs, w) => forLoop w t (fun ρ' st' => ex cs fuel s ρ' st') xs ρ st2
            | none => .bad := by
          dsimp only
          rw [walkM, bind_assoc]
          congr 1
          funext r st1
          rw [bind_assoc]
          congr 1
          funext q st2
          cases walk k r q st2 <;> rfl
        rw [e]
        exact z
      · cases h
    · cases h
  | .brk, x, h => by
    simp only [chkS] at h
    split at h
    · exact ps_imp ps_break fun D σ H ⟨μ, st, ρ, r, er, z⟩ => by simp only [ex] at z; exact z μ H (.refl r) σ er
    · cases h
  | .cont, x, h => by
    simp only [chkS] at h
    split at h
    · exact ps_imp ps_continue fun D σ H ⟨μ, st, ρ, r, er, z⟩ => by simp only [ex] at z; exact z μ H (.refl r) σ er
    · cases h
  | .seq _ _, x, h => by simp [chkS] at h
theorem chkSs_ok (g : Good X W c cs) (kd : c.sc.kind = .function) (po : PassesOwn (model X.prog X.w) X.A X.env X.xe) : ∀ (s : S) {xs : List Stmt}, chkSs s c xs = true → PSs X xs (tS X.K W (ex cs fuel s))
  | .skip, xs, h => by
    simp only [chkSs, List.isEmpty_iff] at h
    subst h
    exact pss_imp pss_nil fun D σ H ⟨μ, st, ρ, r, er, z⟩ => by simp only [ex] at z; exact z μ H (.refl r) σ er
  | .seq s t, xs, h => by
    cases xs with
    | nil => simp [chkSs] at h
    | cons x xs =>
      simp only [chkSs, Bool.and_eq_true] at h
      refine pss_imp (pss_cons (chkS_ok g kd po s h.1) (chkSs_ok g kd po t h.2)) fun D σ H q => ?_
      obtain ⟨μ, st, ρ, r, er, z⟩ := q
      refine ⟨μ, st, ρ, r, er, ?_⟩
      simp only [ex] at z
      cases he : ex cs fuel s ρ st with
      | bad => rw [he] at z; exact z
      | exc c p st' => rw [he] at z; exact z
      | ok o st1 =>
        rw [he] at z
        intro μ1 H1 P1
        cases o with
        | nx ρ1 => exact fun σ1 e1 => ⟨μ1, st1, ρ1, P1.rel, e1, AfterS.step P1 z⟩
        | rt _ => exact z μ1 H1 P1
        | bk _ => exact z μ1 H1 P1
        | ct _ => exact z μ1 H1 P1
  | .never, xs, h => pss_imp pss_never fun D σ H ⟨μ, st, ρ, r, er, z⟩ => by simp only [ex] at z; exact z
  | .asg _ _, xs, h | .ex _, xs, h | .ret _, xs, h | .retN, xs, h | .ite _ _ _, xs, h | .whil _ _, xs, h | .fo _ _ _ _ _, xs, h | .brk, xs, h | .cont, xs, h => by simp [chkSs] at h
end
end
end Mi
end
section
set_option linter.all false
set_option autoImplicit false
set_option maxRecDepth 10000
/-! MiFun: a def does what the interpreter says. -/
namespace Mi
open PySem PySem.Spec L2
open PyProof.Rows hiding RelV

/-- what the module holds for a def's text -/
structure Wld (P : Program) (w : World) (K : PySem.W.Frag) (mg : Str → Option Value) (base : Heap) (c : Ctx) (cs : List Fn) : Prop where
  bn : ∀ x ∈ c.bn, mg x = none
  gs : ∀ p ∈ c.gs, ∃ v u, mg (toStr p.1) = some u ∧ RelV v u ∧ ∀ H μ N, VR K H μ N v p.2
  fs : ∀ (j : Nat) (fd : Fd), c.fs[j]? = some fd → ∃ F f d, cs[j]? = some F ∧ CalP P w K mg base c.k fd F f d
section
variable {P : Program} {w : World} {K : PySem.W.Frag} {mg : Str → Option Value} {base : Heap} {c : Ctx} {cs : List Fn}
theorem start_er {H : Hp} {μ : Mu} {N slots : Nat} {nm : List Str} {vs : List V} {ds : List Val} (h : VRs K H μ N vs ds) (hs : slots = nm.length) : ER K H μ N (start nm vs) (ds.map some ++ List.replicate (slots - ds.length) none) := by
  have hl := VRs.length h
  refine ⟨by simp [L2.start, hl, hs], fun i d e => ?_⟩
  by_cases hi : i < ds.length
  · rw [List.getElem?_append_left (by simpa using hi), List.getElem?_map, List.getElem?_eq_getElem hi] at e
    cases e
    obtain ⟨v, e1, e2⟩ := VRs.get h (List.getElem?_eq_getElem hi)
    refine ⟨v, ?_, e2⟩
    unfold L2.start
    rw [List.getElem?_append_left (by simpa [hl] using hi), List.getElem?_map, e1]
    rfl
  · rw [List.getElem?_append_right (by simpa using hi), List.getElem?_replicate] at e
    split at e <;> cases e
/-- a def's body, run -/
theorem body_after {W : XW} {d : Def} {ds : List Val} {μ : Mu} {st : Store} {H : Hp} {Q : VK} (a : After K W μ st H (run d cs ds st) Q) :
    ds.length = d.pars ∧ AfterS K W μ st H (ex cs FUEL d.body (ds.map some ++ List.replicate (d.slots - ds.length) none) st) { nx := fun _ H' => Q .non H', rt := Q } := by
  unfold run at a
  split at a
  · rename_i hl
    refine ⟨hl, ?_⟩
    cases he : ex cs FUEL d.body (ds.map some ++ List.replicate (d.slots - ds.length) none) st with
    | bad => rw [he] at a; exact a
    | exc c p st1 => rw [he] at a; exact a
    | ok o st1 =>
      rw [he] at a
      intro μ1 H1 P1
      cases o with
      | nx ρ => exact fun σ' e => a μ1 H1 _ P1 .non
      | rt r => exact fun v hv => a μ1 H1 v P1 hv
      | bk _ => exact a.elim
      | ct _ => exact a.elim
  · exact a.elim
theorem fnm_of {x qual : Str} {stm : Stmt} {f : Addr} {fd : FuncData} {ps : List Str} {d : Def} (F : Fun K x qual stm f fd) (S : FnScope c.N ps (defScope stm)) (hsc : c.sc = defScope stm) (hcl : c.cl = none) (h1 : d.slots = c.N.length) (h2 : d.pars = ps.length)
    (wl : Wld P w K mg base c cs) (hb : chkSs d.body c (defBody stm) = true) : FnM P w K mg base (c.k + 1) f fd ps (run d cs) := by
  obtain ⟨oc, od, kV, doc, pm, an, cdv, ct, osl, rfl, lk, hcd⟩ := F.ex
  constructor
  · intro ds st hne
    rw [← h2]
    unfold run at hne
    split at hne
    · assumption
    · exact absurd rfl hne
  intro A outer s H args us vs ds μ st W Q hr hg e0 bt rv rl rd a
  obtain ⟨hlen, aS⟩ := body_after a
  have hvl : vs.length = ps.length := (VRs.length rd).trans (hlen.trans h2)
  have keep := fun b o e => (e0.bs b o e).1
  have kIn : K.In s.heap := e0.mod.kin.keeps keep
  have known : ∀ y ∈ ps.zip us, (defScope stm).names.lookup y.1 = some .local ∨ ((defScope stm).names.lookup y.1 = some .cell ∧ ((cellsFrom (s.heap.objs.size + 1) (defScope stm).names []).lookup y.1).isSome = true) := by
    rintro ⟨n, v⟩ hy
    have hp := S.par n (List.of_mem_zip hy).1
    exact hp.imp id fun q => ⟨q, PySem.W.cellsFrom_some _ _ _ (.inl q)⟩
  refine codeAny_call_function hr.depth (kIn _ _ lk) rfl S.co S.gen rfl (PySem.W.codeRec_of kIn hcd) (bt _ _ _ _ (wpAny_newFunctionEnv_cells S.kind known fun env he s1 inn => ?_))
  subst he
  refine ⟨(e0.mod.nolimit.keeps keep).keeps inn.toInCall.keep, codeAny_func ?_⟩
  let X : Cx := cxOf (L2.CX P w) P w K mg base c.N qual (defScope stm) f cdv A outer s H (xk W)
  have good : Good X W c cs := by
    refine ⟨rfl, S.nd, hsc.symm, rfl, hg, hr.deeper _, fun _ _ => rfl, wl.bn, wl.gs, ?_, wl.fs⟩
    exact takes_of rfl rfl rfl rfl
  have own : PassesOwn (model X.prog X.w) X.A X.env X.xe := passes_of rfl
  have body : PSs X (defBody stm) (tS K W (ex cs FUEL d.body)) := chkSs_ok good (by rw [hsc]; exact S.kind) own d.body hb
  have I : Inv X [] (start c.N vs) H s1 := inv_start S hr.hd e0 hvl rv inn
  have er := start_er (nm := c.N) rd h1
  refine wpAny_mono (body.run [] s1 (start c.N vs) H { nx := fun _ H' => Q .non H', rt := Q } I ⟨μ, st, _, rl, er, aS⟩) (fun fl s' hs => ?_) fun _ _ hx => hx
  cases fl with
  | ret u => obtain ⟨v, σ', H', J, q, z⟩ := hs; exact ⟨v, H', J.os, J.bare, J.base, J.hok, q, z⟩
  | next => obtain ⟨σ', H', J, z⟩ := hs; exact ⟨V.non, H', J.os, J.bare, J.base, J.hok, rfl, z⟩
  | brk => obtain ⟨_, _, _, z⟩ := hs; exact z.elim
  | cont => obtain ⟨_, _, _, z⟩ := hs; exact z.elim
end
end Mi
end
section
set_option linter.all false
set_option autoImplicit false
set_option maxRecDepth 10000
/-! MiEnd: a law's own call. -/
namespace Mi
open PySem PySem.Spec L2
open PyProof.Rows hiding RelV

/-- the script alone, known to the object -/
def hpOf (a : Addr) (us : List Value) (ns : List Int) : Hp := fun b => if b = a then some (.frz { cls := .type "list", data := .seq us.toArray } (.lst (ns.map V.int))) else none
theorem hpOf_at {a : Addr} {us : List Value} {ns : List Int} : hpOf a us ns a = some (.frz { cls := .type "list", data := .seq us.toArray } (.lst (ns.map V.int))) := if_pos rfl
theorem hpOf_ne {a b : Addr} {us : List Value} {ns : List Int} (h : b ≠ a) : hpOf a us ns b = none := if_neg h
theorem law_run {P : Program} {w : World} {K : PySem.W.Frag} {mg mb : Str → Option Value} {k : Nat} {fa a : Addr} {fd : FuncData} {x : Str} {F : Fn} {s : Shared} {us : List Value} {ns : List Int}
    (kIn : K.In s.heap) (gns : s.heap.Ns mainGlobals mg) (bns : s.heap.Ns builtinsNs mb) (bts : ∀ x : Str, x ≠ "__name__" → mb x = bootBuiltins x) (nl : s.heap.NoLimit) (gens : s.gens = #[])
    (ha : s.heap.get? a = some { cls := .type "list", data := .seq us.toArray }) (hi : IntsAre us ns) (hl : ns.length ≤ sizeLine) (room : Room k callerA) (out : K.lookup a = none)
    (hF : ∀ base : Heap, K.In base → base.Ns mainGlobals mg → FnM P w K mg base k fa fd [x] F) (bind : ∀ (s : Shared) (u : Value), BindsTo s fd ⟨[u], []⟩ [(x, u)])
    (res : ∃ st', F [.ref 0] [.frz (ns.map .int)] = .ok (.v (.bl true)) st') :
    codeAny (model P w) callerA (.call (.ref fa) ⟨[.ref a], []⟩) (fun r s' => r = .ok (.ret (.bool true)) ∧ OldK s.heap s'.heap ∧ s'.os = s.os ∧ AllBare s'.gens) s := by
  generalize hH : hpOf a us ns = H
  have Ha : H a = some (.frz { cls := .type "list", data := .seq us.toArray } (.lst (ns.map V.int))) := by rw [← hH]; exact hpOf_at
  have Hn : ∀ b, b ≠ a → H b = none := fun b h => by rw [← hH]; exact hpOf_ne h
  have rv := vals_ints hi
  have hok : HOk P w H s.heap := fun b u e => by
    by_cases h : b = a
    · rw [h] at e ⊢
      rw [Ha] at e
      cases e
      exact ⟨ha, by rw [List.length_map]; exact hl, us, _, rv, ha⟩
    · rw [Hn b h] at e; cases e
  -- the heap without the script
  have notA : ∀ b o, s.heap.get? b = some o → b ≠ a → (hidT s.heap H).get? b = some o := fun b o e h => hidT_get e (Hn b h)
  have nsOf : ∀ {b : Addr} {m : Str → Option Value}, s.heap.Ns b m → (hidT s.heap H).Ns b m := fun {b m} z => by
    obtain ⟨o, es, ep, e, d, r⟩ := z
    refine ⟨o, es, ep, notA b o e fun h => ?_, d, r⟩
    rw [h, ha] at e
    cases e
    cases d
  have kBase : K.In (hidT s.heap H) := fun b o e => notA b o (kIn b o e) fun h => by rw [h, out] at e; cases e
  have md : Mod K mg (hidT s.heap H) := ⟨kBase, nsOf gns, ⟨mb, nsOf bns, bts⟩, nl.imp fun _ z => ⟨nsOf z.1, z.2⟩⟩
  have env : Env0 P w K mg (hidT s.heap H) callerA [] s H := ⟨rfl, md, fun b o e => of_hidT e, Nat.le_of_eq (hidT_size _ _), trivial, (fun b hb => (List.not_mem_nil (show b ∈ ([] : List Addr) from hb)).elim), hok, .of_eq gens⟩
  let μ : Mu := fun _ => a
  have rel : Rel K H μ [.frz (ns.map .int)] := by
    refine ⟨fun n o e => ?_, fun n m h1 h2 _ => ?_⟩
    · cases n with
      | zero => cases e; exact ⟨_, _, Ha, ints_vrs ns⟩
      | succ n => simp at e
    · simp at h1 h2; omega
  have arg : VRs K H μ [Obj.frz (ns.map Val.int)].length [V.ref a] [Val.ref 0] := .cons (VR.ref (μ := μ) (n := 0) (by simp)) .nil
  obtain ⟨st', er⟩ := res
  have aft : After K W0 μ [.frz (ns.map .int)] H (F [.ref 0] [.frz (ns.map .int)]) (fun v _ => v = .bl true) := by
    rw [er]
    exact fun μ' H' v _ h => (nr_v h).i_bl
  refine codeAny_mono ((hF _ kBase (nsOf gns)).run callerA [] s H ⟨[.ref a], []⟩ [.ref a] [.ref a] [.ref 0] μ _ W0 _ room rfl env (bind s (.ref a)) (.cons rfl .nil) rel arg aft) fun r s' h => ?_
  rcases r with e | fl
  · obtain ⟨_, _, _, _, _, _, _, _, _, _, _, _, z⟩ := h
    exact z.elim
  cases fl with
  | ret u =>
    obtain ⟨v, H', os, bare, un, hok', rvv, z⟩ := h
    have z' : v = .bl true := z
    subst z'
    obtain rfl : u = Value.bool true := rvv
    refine ⟨rfl, OldK.of_keep fun b o e => ?_, os, bare⟩
    by_cases h : b = a
    · rw [h] at e ⊢
      have f2 := un.frzs a _ _ Ha
      obtain ⟨e2, _⟩ := hok' a _ f2
      rw [ha] at e
      cases e
      exact e2
    · exact un.keep b o e (Hn b h) (List.not_mem_nil (a := b)) (List.not_mem_nil (a := b))
  | next => exact h.elim
  | brk => exact h.elim
  | cont => exact h.elim
/-- the goal of a law's head -/
theorem walk_mini {l : PySem.W.OpenLaw} {n k : Nat} {q : Program} {loose : List Str} {XP : (Str → Option Value) → Heap → Prop} {YP : World → Heap → Prop} {d : DefRec} {K : Params → PySem.W.Frag} {x : Str} {F : Fn}
    (most : l.most = some n) (small : n ≤ sizeLine) (dfs : d.params.defaults = []) (room : Room k callerA) (hY : ∀ (w : World) (h : Heap), YP w h → (K w.params).In h)
    (noList : ∀ (p : Params) (a : Addr) (us : List Value) (ns : List Int), IntsAre us ns → (K p).lookup a ≠ some { cls := .type "list", data := .seq us.toArray })
    (hF : ∀ (w : World) (mg : Str → Option Value) (fa : Addr) (h : Heap), (K w.params).In h → h.Ns mainGlobals mg → mg d.name = some (.ref fa) →
      ∃ fd : FuncData, (∀ (s : Shared) (u : Value), BindsTo s fd ⟨[u], []⟩ [(x, u)]) ∧ ∀ base : Heap, (K w.params).In base → base.Ns mainGlobals mg → FnM l.prog w (K w.params) mg base k fa fd [x] F)
    (res : ∀ ns : List Int, ns.length ≤ n → ∃ st', F [.ref 0] [.frz (ns.map .int)] = .ok (.v (.bl true)) st') :
    PySem.W.WalkO q loose XP YP l.row.toRowW d [] (fun f vs => PySem.call f vs) :=
  Att.attach_call most dfs fun w _ s mg mb fa _ _ _ _ a us ns G Y _ _ _ hmg ha hi hlen hg => by
    have kIn := hY w _ Y
    obtain ⟨fd, hb, hf⟩ := hF w mg fa _ kIn G.T.g hmg
    refine law_run kIn G.T.g G.T.b G.T.builtins G.T.nolimit hg ha hi (Nat.le_trans hlen small) room ?_ hf hb (res ns hlen)
    cases e : (K w.params).lookup a with
    | none => rfl
    | some o =>
      have e2 := kIn a o e
      rw [ha] at e2
      cases e2
      exact absurd e (noList _ a us ns hi)
end Mi
namespace Mi
open PySem PySem.Spec L2
open PyProof.Rows hiding RelV
/-! ### what a generated text says of its defs -/
def AllN (mg : Str → Option Value) : List Str → Prop
  | [] => True
  | x :: r => mg x = none ∧ AllN mg r
theorem AllN.all {mg : Str → Option Value} : ∀ {l : List Str}, AllN mg l → ∀ x ∈ l, mg x = none
  | _ :: _, h, y, hy => by
    rcases List.mem_cons.mp hy with rfl | hy
    · exact h.1
    · exact h.2.all y hy
def AllG (K : PySem.W.Frag) (mg : Str → Option Value) : List (List Nat × Val) → Prop
  | [] => True
  | p :: r => (∃ v u, mg (toStr p.1) = some u ∧ RelV v u ∧ ∀ H μ N, VR K H μ N v p.2) ∧ AllG K mg r
theorem AllG.all {K : PySem.W.Frag} {mg : Str → Option Value} : ∀ {l : List (List Nat × Val)}, AllG K mg l → ∀ p ∈ l, ∃ v u, mg (toStr p.1) = some u ∧ RelV v u ∧ ∀ H μ N, VR K H μ N v p.2
  | _ :: _, h, y, hy => by
    rcases List.mem_cons.mp hy with rfl | hy
    · exact h.1
    · exact h.2.all y hy
section
variable {P : Program} {w : World} {K : PySem.W.Frag} {mg : Str → Option Value} {base : Heap}
theorem CalP.mono {k j : Nat} {fd : Fd} {F : Fn} {f : Addr} {d : FuncData} (h : CalP P w K mg base k fd F f d) (l : k ≤ j) : CalP P w K mg base j fd F f d := ⟨h.fn.mono l, h.mg, h.kp, h.bi, h.kw⟩
def AllF (P : Program) (w : World) (K : PySem.W.Frag) (mg : Str → Option Value) (base : Heap) (k : Nat) : List Fd → List Fn → Prop
  | [], _ => True
  | fd :: fs, F :: cs => (∃ f d, CalP P w K mg base k fd F f d) ∧ AllF P w K mg base k fs cs
  | _ :: _, [] => False
theorem AllF.all {k : Nat} : ∀ {fs : List Fd} {cs : List Fn}, AllF P w K mg base k fs cs → ∀ (j : Nat) (fd : Fd), fs[j]? = some fd → ∃ F f d, cs[j]? = some F ∧ CalP P w K mg base k fd F f d
  | [], _, _, j, fd, e => by simp at e
  | _ :: _, [], h, _, _, _ => h.elim
  | a :: fs, F :: cs, h, 0, fd, e => by
    cases e
    obtain ⟨f, d, z⟩ := h.1
    exact ⟨F, f, d, rfl, z⟩
  | a :: fs, F :: cs, h, j + 1, fd, e => h.2.all j fd (by simpa using e)
theorem fn_mk {c : Ctx} {cs : List Fn} {fdd : Fd} {stm : Stmt} {d : Def} {f : Addr} {oc : Value} {od an : Option Addr} {osl : Array (Option Value)} {kV doc pm cdv ct : Value} (X : K.In base) (G : base.Ns mainGlobals mg)
    (a : PySem.W.nsIn K mainGlobals fdd.name = some (some (.ref f))) (l : K.lookup f = some ⟨oc, od, .func (PySem.W.fnOf fdd.name fdd.name (defArgs stm) (defBody stm) (defScope stm) .none kV doc pm an cdv ct), osl⟩)
    (cI : PySem.W.codeIn K cdv fdd.name = true) (kI : PySem.W.keepIn K (.ref f) = true) (S : FnScope c.N fdd.ps (defScope stm)) (hsc : c.sc = defScope stm) (hcl : c.cl = none) (h1 : d.slots = c.N.length) (h2 : d.pars = fdd.ps.length)
    (hb : chkSs d.body c (defBody stm) = true) (bn : AllN mg c.bn) (gs : AllG K mg c.gs) (fs : AllF P w K mg base c.k c.fs cs)
    (bi : ∀ (kV doc pm : Value) (an : Option Addr) (cdv ct : Value) (us : List Value), us.length = fdd.ps.length → bindArgs (PySem.W.fnOf fdd.name fdd.name (defArgs stm) (defBody stm) (defScope stm) .none kV doc pm an cdv ct) ⟨us, []⟩ = pure (fdd.ps.zip us))
    (kw : ∀ (kV doc pm : Value) (an : Option Addr) (cdv ct : Value), ∀ p ∈ fdd.kws, ∀ us ws : List Value, us.length = p.1 → ws.length = p.2.1.length → bindArgs (PySem.W.fnOf fdd.name fdd.name (defArgs stm) (defBody stm) (defScope stm) .none kV doc pm an cdv ct) ⟨us, p.2.1.zip ws⟩ = pure (fdd.ps.zip (perm p.2.2 (us ++ ws)))) :
    CalP P w K mg base (c.k + 1) fdd (run d cs) f (PySem.W.fnOf fdd.name fdd.name (defArgs stm) (defBody stm) (defScope stm) .none kV doc pm an cdv ct) := by
  have F := fun_mk (st := stm) l cI kI
  exact ⟨fnm_of F S hsc hcl h1 h2 ⟨bn.all, gs.all, fs.all⟩ hb, PySem.W.mg_of X G a, kI, F.binds bi, kw _ _ _ _ _ _⟩
end
/-- no list of ints (or empty list) is written by the top -/
def plainO (o : PySem.Obj) : Bool := match o with
  | ⟨.type "list", _, .seq xs _, _⟩ => match xs.toList with
    | .int _ _ :: _ => false
    | [] => false
    | _ => true
  | _ => true
def noListB : PySem.W.Frag → Bool
  | [] => true
  | q :: r => plainO q.2 && noListB r
theorem noList_ok : ∀ {K : PySem.W.Frag}, noListB K = true → ∀ (a : Addr) (us : List Value) (ns : List Int), IntsAre us ns → K.lookup a ≠ some { cls := .type "list", data := .seq us.toArray }
  | [], _, a, us, ns, _ => by simp
  | (b, o) :: r, h, a, us, ns, hi => by
    simp only [noListB, Bool.and_eq_true] at h
    intro e
    rw [List.lookup_cons] at e
    split at e
    · cases e
      cases hi with
      | nil => exact absurd h.1 (by decide)
      | cons n t _ => exact absurd h.1 (by simp [plainO])
    · exact noList_ok h.2 a us ns hi e
end Mi
end
section
set_option linter.all false
set_option autoImplicit false
/-! MiPlain: words for plain laws: what a computation comes to. -/
namespace Mi
/-- it comes to a value, and so it is -/
def Ok {α : Type} (r : Res α) (Q : α → Store → Prop) : Prop := match r with
  | .ok a st => Q a st
  | _ => False
section
variable {α β : Type}
theorem Ok.bind {r : Res α} {f : α → Store → Res β} {P : α → Store → Prop} {Q : β → Store → Prop} (h : Ok r P) (k : ∀ a st, P a st → Ok (f a st) Q) : Ok (r.bind f) Q := by
  cases r with
  | ok a st => exact k a st h
  | exc _ _ _ => exact h.elim
  | bad => exact h.elim
theorem Ok.imp {r : Res α} {P Q : α → Store → Prop} (h : Ok r P) (k : ∀ a st, P a st → Q a st) : Ok r Q := by
  cases r with
  | ok a st => exact k a st h
  | exc _ _ _ => exact h.elim
  | bad => exact h.elim
theorem Ok.ex {r : Res α} {Q : α → Store → Prop} (h : Ok r Q) : ∃ a st, r = .ok a st ∧ Q a st := by
  cases r with
  | ok a st => exact ⟨a, st, rfl, h⟩
  | exc _ _ _ => exact h.elim
  | bad => exact h.elim
theorem Ok.of {r : Res α} {Q : α → Store → Prop} {a : α} {st : Store} (e : r = .ok a st) (h : Q a st) : Ok r Q := by rw [e]; exact h
/-- there is something, and so it is -/
def onS {α : Type} (o : Option α) (Q : α → Prop) : Prop := match o with
  | some a => Q a
  | none => False
theorem on_some {α : Type} {a : α} {Q : α → Prop} : onS (some a) Q = Q a := rfl
theorem on_none {α : Type} {Q : α → Prop} : onS (none : Option α) Q = False := rfl
theorem k_ok {a : α} {st : Store} {Q : α → Store → Prop} : Ok (.ok a st) Q = Q a st := rfl
theorem k_bad {Q : α → Store → Prop} : Ok .bad Q = False := rfl
theorem k_bind {r : Res α} {f : α → Store → Res β} {Q : β → Store → Prop} : Ok (r.bind f) Q = Ok r fun a st => Ok (f a st) Q := by cases r <;> rfl
theorem k_ite {c : Prop} [Decidable c] {r q : Res α} {Q : α → Store → Prop} : Ok (if c then r else q) Q = if c then Ok r Q else Ok q Q := by split <;> rfl
theorem k_lift {o : Option α} {st : Store} {Q : α → Store → Prop} : Ok (lift o st) Q = onS o fun a => Q a st := by cases o <;> rfl
theorem k_noX {r : Res α} {Q : α → Store → Prop} : Ok (noX r) Q = Ok r Q := by cases r <;> rfl
end
section
variable {cs : List Fn} {ρ : Env} {st : Store} {Q : RV → Store → Prop} {a b c d e es : E} {v : Val}
/-! ### expressions -/
theorem e_k : Ok (ev cs (.k v) ρ st) Q = Q (.v v) st := rfl
theorem e_g {nm : List Nat} : Ok (ev cs (.g nm v) ρ st) Q = Q (.v v) st := rfl
theorem e_x {i : Nat} : Ok (ev cs (.x i) ρ st) Q = onS ρ[i]? fun o => onS o fun v => Q (.v v) st := by
  rw [ev]
  cases h : ρ[i]? with
  | none => rfl
  | some o => cases o <;> rfl
theorem e_tup : Ok (ev cs (.tup es) ρ st) Q = Ok (evs cs es ρ st) fun rs st1 => rs.length ≤ top ∧ Q (.v (.tup (settles rs st1).1)) (settles rs st1).2 := by
  rw [ev, k_bind]
  congr 1
  funext rs st1
  rw [k_ite]
  by_cases h : rs.length ≤ top <;> simp [h, k_ok, k_bad]
theorem e_lst : Ok (ev cs (.lst es) ρ st) Q = Ok (evs cs es ρ st) fun rs st1 => rs.length ≤ top ∧ Q (.l (settles rs st1).1) (settles rs st1).2 := by
  rw [ev, k_bind]
  congr 1
  funext rs st1
  rw [k_ite]
  by_cases h : rs.length ≤ top <;> simp [h, k_ok, k_bad]
theorem e_op1 {o : O1} : Ok (ev cs (.op1 o a) ρ st) Q = Ok (ev cs a ρ st) fun r st1 => Ok (f1 o r st1) Q := by rw [ev, k_bind]
theorem e_op2 {o : O2} : Ok (ev cs (.op2 o a b) ρ st) Q = Ok (ev cs a ρ st) fun r st1 => pre2 o r st1 = true ∧ Ok (ev cs b ρ st1) fun q st2 => Ok (f2 o r q st2) Q := by
  rw [ev, k_bind]
  congr 1
  funext r st1
  rw [k_ite]
  by_cases h : pre2 o r st1 = true <;> simp [h, k_bind, k_bad]
theorem e_op3 {o : O3} : Ok (ev cs (.op3 o a b c) ρ st) Q = Ok (ev cs a ρ st) fun r st1 => pre3 o r st1 = true ∧ Ok (ev cs b ρ st1) fun q st2 => Ok (ev cs c ρ st2) fun u st3 => Ok (f3 o r q u st3) Q := by
  rw [ev, k_bind]
  congr 1
  funext r st1
  rw [k_ite]
  by_cases h : pre3 o r st1 = true <;> simp [h, k_bind, k_bad]
theorem e_sl {lo hi : E} : Ok (ev cs (.sl a lo hi) ρ st) Q = Ok (ev cs a ρ st) fun r st1 => Ok (optI (isNil lo) (ev cs lo ρ) st1) fun l st2 => Ok (optI (isNil hi) (ev cs hi ρ) st2) fun h st3 => Ok (fsl r l h st3) Q := by
  rw [ev, k_bind]
  congr 1; funext r st1
  rw [k_bind]
  congr 1; funext l st2
  rw [k_bind]
theorem k_optT {f : Store → Res RV} {Q : Option Int → Store → Prop} : Ok (optI true f st) Q = Q none st := rfl
theorem k_optF {f : Store → Res RV} {Q : Option Int → Store → Prop} : Ok (optI false f st) Q = Ok (f st) fun r st1 => onS (intOf r) fun i => Q (some i) st1 := by
  simp only [optI, Bool.false_eq_true, if_false, k_bind]
  congr 1
  funext r st1
  cases r with
  | l _ => rfl
  | v x => cases x <;> rfl
theorem e_and : Ok (ev cs (.and a b) ρ st) Q = Ok (ev cs a ρ st) fun r st1 => match r with | .v (.bl k) => if k = true then Ok (ev cs b ρ st1) Q else Q (.v (.bl false)) st1 | _ => False := by
  rw [ev, k_bind]
  congr 1; funext r st1
  cases r with
  | l _ => rfl
  | v x => cases x with
    | bl k => cases k <;> rfl
    | _ => rfl
theorem e_or : Ok (ev cs (.or a b) ρ st) Q = Ok (ev cs a ρ st) fun r st1 => match r with | .v (.bl k) => if k = true then Q (.v (.bl true)) st1 else Ok (ev cs b ρ st1) Q | _ => False := by
  rw [ev, k_bind]
  congr 1; funext r st1
  cases r with
  | l _ => rfl
  | v x => cases x with
    | bl k => cases k <;> rfl
    | _ => rfl
theorem e_not : Ok (ev cs (.not a) ρ st) Q = Ok (ev cs a ρ st) fun r st1 => onS (truthV st1 r) fun k => Q (.v (.bl (!k))) st1 := by
  rw [ev, k_bind]
  congr 1; funext r st1
  rw [k_bind, truthR, k_lift]
  cases truthV st1 r <;> rfl
theorem e_ite : Ok (ev cs (.ite c a b) ρ st) Q = Ok (ev cs c ρ st) fun r st1 => onS (truthV st1 r) fun k => if k = true then Ok (ev cs a ρ st1) Q else Ok (ev cs b ρ st1) Q := by
  rw [ev, k_bind]
  congr 1; funext r st1
  rw [k_bind, truthR, k_lift]
  cases h : truthV st1 r with
  | none => rfl
  | some k => exact k_ite
theorem e_chain {o p : O2} : Ok (ev cs (.chain o p a b c) ρ st) Q = Ok (ev cs a ρ st) fun r st1 => Ok (ev cs b ρ st1) fun q st2 => (isV r && isV q) = true ∧ Ok (f2 o r q st2) fun z st3 => match z with
    | .v (.bl k) => if k = true then Ok (ev cs c ρ st3) fun u st4 => Ok (f2 p q u st4) Q else Q (.v (.bl false)) st3
    | _ => False := by
  rw [ev, k_bind]
  congr 1; funext r st1
  rw [k_bind]
  congr 1; funext q st2
  rw [k_ite]
  by_cases h : (isV r && isV q) = true
  · rw [if_pos h, k_bind]
    simp only [h, true_and]
    congr 1; funext z st3
    cases z with
    | l _ => rfl
    | v x => cases x with
      | bl k => cases k with
        | true => exact k_bind
        | false => rfl
      | _ => rfl
  · rw [if_neg h]; simp [h, k_bad]
theorem e_call {m : Bool} {j : Nat} {kw : List Nat} : Ok (ev cs (.call m j kw es) ρ st) Q = Ok (evs cs es ρ st) fun rs st1 => onS cs[j]? fun f => Ok (runCall m f (permute kw rs) st1) Q := by
  rw [ev, k_bind]
  congr 1; funext rs st1
  cases cs[j]? <;> rfl
theorem e_nil {Q : List RV → Store → Prop} : Ok (evs cs .nil ρ st) Q = Q [] st := by rw [evs]; rfl
theorem e_cons {Q : List RV → Store → Prop} : Ok (evs cs (.cons a b) ρ st) Q = Ok (ev cs a ρ st) fun r st1 => Ok (evs cs b ρ st1) fun rs st2 => Q (r :: rs) st2 := by
  rw [evs, k_bind]
  congr 1; funext r st1
  rw [k_bind]; rfl
theorem e_dic {t : Bool} : Ok (ev cs (.dic t es) ρ st) Q = Ok (evs cs es ρ st) fun rs st1 => onS (dicOf t (settles rs st1).1) fun kvs => (kvs.length ≤ 15 ∧ (t = false ∨ kvs = [])) ∧ Q (.v (.ref (settles rs st1).2.length)) ((settles rs st1).2 ++ [.dic t (mergeD [] kvs)]) := by
  rw [ev, k_bind]
  congr 1; funext rs st1
  dsimp only
  cases h : dicOf t (settles rs st1).1 with
  | none => rfl
  | some kvs =>
    dsimp only [onS]
    rw [k_ite]
    by_cases h : kvs.length ≤ 15 ∧ (t = false ∨ kvs = []) <;> simp [h, k_ok, k_bad]
theorem e_comp {own : List Nat} {t : T} {k : IK} : Ok (ev cs (.comp own t k a b c e) ρ st) Q = Ok (ev cs a ρ st) fun r st1 => Ok (opt2 (isNil b) (ev cs b ρ) st1) fun q st2 => onS (walk k r q st2) fun p => Ok (compLoop p.2 t (fun ρ' st' => optC (isNil c) (ev cs c ρ') st') (fun ρ' st' => ev cs e ρ' st') (wipeE ρ own) p.1 [] st2) fun l st3 => Q (.l l) st3 := by
  rw [ev, k_bind]
  congr 1; funext r st1
  rw [k_bind]
  congr 1; funext q st2
  cases walk k r q st2 with
  | none => rfl
  | some p => exact k_bind.trans k_noX
theorem k_op2T {f : Store → Res RV} : Ok (opt2 true f st) Q = Q (.v .non) st := rfl
theorem k_op2F {f : Store → Res RV} : Ok (opt2 false f st) Q = Ok (f st) Q := rfl
theorem k_optCT {f : Store → Res RV} {Q : Bool → Store → Prop} : Ok (optC true f st) Q = Q true st := rfl
theorem k_optCF {f : Store → Res RV} {Q : Bool → Store → Prop} : Ok (optC false f st) Q = Ok (f st) fun r st1 => onS (truthV st1 r) fun k => Q k st1 := by
  simp only [optC, Bool.false_eq_true, if_false, k_bind, truthR, k_lift]
end
section
variable {cs : List Fn} {ρ : Env} {st : Store} {n : Nat} {Q : Out → Store → Prop} {s t : S} {a b c e : E}
/-! ### statements -/
theorem s_skip : Ok (ex cs n .skip ρ st) Q = Q (.nx ρ) st := rfl
theorem s_seq : Ok (ex cs n (.seq s t) ρ st) Q = Ok (ex cs n s ρ st) fun o st1 => match o with | .nx ρ1 => Ok (ex cs n t ρ1 st1) Q | o => Q o st1 := by
  rw [ex, k_bind]
  congr 1; funext o st1
  cases o <;> rfl
theorem s_asg {g : G} : Ok (ex cs n (.asg g e) ρ st) Q = Ok (ev cs e ρ st) fun r st1 => Ok (setG cs g (settle r st1).1 ρ (settle r st1).2) fun ρ1 st2 => Q (.nx ρ1) st2 := by
  rw [ex, k_bind]
  congr 1; funext r st1
  rw [k_bind]; rfl
theorem s_ex : Ok (ex cs n (.ex e) ρ st) Q = Ok (ev cs e ρ st) fun _ st1 => Q (.nx ρ) st1 := by rw [ex, k_bind]; rfl
theorem s_ret : Ok (ex cs n (.ret e) ρ st) Q = Ok (ev cs e ρ st) fun r st1 => Q (.rt r) st1 := by rw [ex, k_bind]; rfl
theorem s_retN : Ok (ex cs n .retN ρ st) Q = Q (.rt (.v .non)) st := rfl
theorem s_brk : Ok (ex cs n .brk ρ st) Q = Q (.bk ρ) st := rfl
theorem s_cont : Ok (ex cs n .cont ρ st) Q = Q (.ct ρ) st := rfl
theorem s_ite : Ok (ex cs n (.ite c s t) ρ st) Q = Ok (ev cs c ρ st) fun r st1 => onS (truthV st1 r) fun k => if k = true then Ok (ex cs n s ρ st1) Q else Ok (ex cs n t ρ st1) Q := by
  rw [ex, k_bind]
  congr 1; funext r st1
  rw [k_bind, truthR, k_lift]
  cases h : truthV st1 r with
  | none => rfl
  | some k => exact k_ite
theorem s_whil : Ok (ex cs n (.whil c s) ρ st) Q = Ok (whileLoop (fun ρ' st' => (ev cs c ρ' st').bind fun r st1 => truthR r st1) (fun ρ' st' => ex cs n s ρ' st') n ρ st) Q := by rw [ex]
theorem s_fo {t : T} {k : IK} : Ok (ex cs n (.fo t k a b s) ρ st) Q = Ok (ev cs a ρ st) fun r st1 => Ok (opt2 (isNil b) (ev cs b ρ) st1) fun q st2 => onS (walk k r q st2) fun p => Ok (forLoop p.2 t (fun ρ' st' => ex cs n s ρ' st') p.1 ρ st2) Q := by
  rw [ex, k_bind]
  congr 1; funext r st1
  rw [k_bind]
  congr 1; funext q st2
  cases walk k r q st2 <;> rfl
theorem g_tg {t : T} {v : Val} {Q : Env → Store → Prop} : Ok (setG cs (.tg t) v ρ st) Q = onS (bindT t v ρ) fun ρ' => Q ρ' st := by
  rw [setG, k_lift]
theorem g_sub {o i : E} {v : Val} {Q : Env → Store → Prop} : Ok (setG cs (.sub o i) v ρ st) Q = Ok (ev cs o ρ st) fun r st1 => Ok (ev cs i ρ st1) fun q st2 => Ok (fset r q v st2) fun _ st3 => Q ρ st3 := by
  rw [setG, k_bind]
  congr 1; funext r st1
  rw [k_bind]
  congr 1; funext q st2
  rw [k_bind]; rfl
theorem r_run {d : Def} {args : List Val} {Q : RV → Store → Prop} : Ok (run d cs args st) Q = (args.length = d.pars ∧ Ok (ex cs FUEL d.body (args.map some ++ List.replicate (d.slots - args.length) none) st) fun o st1 => match o with
    | .rt r => Q r st1
    | .nx _ => Q (.v .non) st1
    | _ => False) := by
  unfold run
  by_cases h : args.length = d.pars
  · simp only [h, if_true, true_and]
    cases ex cs FUEL d.body (args.map some ++ List.replicate (d.slots - d.pars) none) st with
    | ok o st1 => cases o <;> rfl
    | exc _ _ _ => rfl
    | bad => rfl
  · simp [h, k_bad]
theorem r_call {f : Fn} {rs : List RV} {Q : RV → Store → Prop} : Ok (runCall false f rs st) Q = Ok (f (settles rs st).1 (settles rs st).2) Q := rfl
theorem r_pure {f : Fn} {rs : List RV} {Q : RV → Store → Prop} : Ok (runCall true f rs st) Q = (rs.all nrR = true ∧ Ok (f (settles rs []).1 (settles rs []).2) fun r st1 => match r with
    | .v x => Ok (pureVal st st1 x) Q
    | .l xs => Val.nrs xs = true ∧ Q (.l xs) st) := by
  show Ok (pureCall f rs st) Q = _
  unfold pureCall
  rw [k_ite]
  by_cases h : rs.all nrR = true
  · rw [if_pos h]
    simp only [h, true_and]
    cases f (settles rs []).1 (settles rs []).2 with
    | ok r st1 =>
      cases r with
      | v x => rfl
      | l xs =>
        show Ok (if Val.nrs xs then _ else _) Q = _
        by_cases h : Val.nrs xs = true <;> simp [h, k_ok, k_bad]
    | exc c p st1 =>
      show Ok (if Val.nrs p then _ else _) Q = False
      split <;> rfl
    | bad => rfl
  · simp [h, k_bad]
/-! ### loops -/
theorem l_for0 {w : List (Nat × List Val)} {t : T} {f : Env → Store → Res Out} : Ok (forLoop w t f [] ρ st) Q = (stands w st = true ∧ Q (.nx ρ) st) := by
  unfold forLoop
  by_cases h : stands w st = true <;> simp [h, k_ok, k_bad]
theorem l_for1 {w : List (Nat × List Val)} {t : T} {f : Env → Store → Res Out} {x : Val} {xs : List Val} : Ok (forLoop w t f (x :: xs) ρ st) Q = (stands w st = true ∧ onS (bindT t x ρ) fun ρ1 => Ok (f ρ1 st) fun o st2 => match o with
      | .nx ρ2 => Ok (forLoop w t f xs ρ2 st2) Q
      | .ct ρ2 => Ok (forLoop w t f xs ρ2 st2) Q
      | .bk ρ2 => Q (.nx ρ2) st2
      | .rt r => Q (.rt r) st2) := by
  rw [forLoop]
  by_cases h : stands w st = true
  · simp only [h, if_true, true_and]
    cases bindT t x ρ with
    | none => rfl
    | some ρ1 =>
      dsimp only [onS]
      rw [k_bind]
      congr 1; funext o st2
      cases o <;> rfl
  · simp [h, k_bad]
theorem l_comp0 {w : List (Nat × List Val)} {t : T} {c : Env → Store → Res Bool} {f : Env → Store → Res RV} {acc : List Val} {Q : List Val → Store → Prop} : Ok (compLoop w t c f ρ [] acc st) Q = (stands w st = true ∧ Q acc st) := by
  unfold compLoop
  by_cases h : stands w st = true <;> simp [h, k_ok, k_bad]
theorem l_comp1 {w : List (Nat × List Val)} {t : T} {c : Env → Store → Res Bool} {f : Env → Store → Res RV} {x : Val} {xs acc : List Val} {Q : List Val → Store → Prop} : Ok (compLoop w t c f ρ (x :: xs) acc st) Q = (stands w st = true ∧ onS (bindT t x ρ) fun ρ1 => Ok (c ρ1 st) fun k st1 => if k = true then Ok (f ρ1 st1) fun r st2 => acc.length < top ∧ Ok (compLoop w t c f ρ xs (acc ++ [(settle r st2).1]) (settle r st2).2) Q else Ok (compLoop w t c f ρ xs acc st1) Q) := by
  rw [compLoop]
  by_cases h : stands w st = true
  · simp only [h, if_true, true_and]
    cases bindT t x ρ with
    | none => rfl
    | some ρ1 =>
      dsimp only [onS]
      rw [k_bind]
      congr 1; funext k st1
      cases k with
      | false => simp
      | true =>
        simp only [if_true]
        rw [k_bind]
        congr 1; funext r st2
        rw [k_ite]
        by_cases h : acc.length < top <;> simp [h, k_bad]
  · simp [h, k_bad]
end
/-- a loop that keeps J -/
theorem for_inv {w : List (Nat × List Val)} {t : T} {f : Env → Store → Res Out} (J : List Val → Env → Store → Prop) {Q : Out → Store → Prop} (hw : ∀ xs ρ st, J xs ρ st → stands w st = true)
    (step : ∀ x xs ρ st, J (x :: xs) ρ st → ∃ ρ1, bindT t x ρ = some ρ1 ∧ Ok (f ρ1 st) fun o st2 => match o with
      | .nx ρ2 => J xs ρ2 st2
      | .ct ρ2 => J xs ρ2 st2
      | .bk ρ2 => Q (.nx ρ2) st2
      | .rt r => Q (.rt r) st2) (fin : ∀ ρ st, J [] ρ st → Q (.nx ρ) st) : ∀ (xs : List Val) (ρ : Env) (st : Store), J xs ρ st → Ok (forLoop w t f xs ρ st) Q
  | [], ρ, st, h => by rw [l_for0]; exact ⟨hw _ _ _ h, fin _ _ h⟩
  | x :: xs, ρ, st, h => by
    rw [l_for1]
    refine ⟨hw _ _ _ h, ?_⟩
    obtain ⟨ρ1, e, z⟩ := step x xs ρ st h
    rw [e, on_some]
    refine Ok.imp z fun o st2 q => ?_
    cases o with
    | nx ρ2 => exact for_inv J hw step fin xs ρ2 st2 q
    | ct ρ2 => exact for_inv J hw step fin xs ρ2 st2 q
    | bk ρ2 => exact q
    | rt r => exact q
theorem comp_inv {w : List (Nat × List Val)} {t : T} {c : Env → Store → Res Bool} {f : Env → Store → Res RV} {ρ : Env} (J : List Val → List Val → Store → Prop) {Q : List Val → Store → Prop} (hw : ∀ xs acc st, J xs acc st → stands w st = true)
    (step : ∀ x xs acc st, J (x :: xs) acc st → ∃ ρ1, bindT t x ρ = some ρ1 ∧ Ok (c ρ1 st) fun k st1 => if k = true then Ok (f ρ1 st1) fun r st2 => acc.length < top ∧ J xs (acc ++ [(settle r st2).1]) (settle r st2).2 else J xs acc st1)
    (fin : ∀ acc st, J [] acc st → Q acc st) : ∀ (xs acc : List Val) (st : Store), J xs acc st → Ok (compLoop w t c f ρ xs acc st) Q
  | [], acc, st, h => by rw [l_comp0]; exact ⟨hw _ _ _ h, fin _ _ h⟩
  | x :: xs, acc, st, h => by
    rw [l_comp1]
    refine ⟨hw _ _ _ h, ?_⟩
    obtain ⟨ρ1, e, z⟩ := step x xs acc st h
    rw [e, on_some]
    refine Ok.imp z fun k st1 q => ?_
    cases k with
    | false => simp only [Bool.false_eq_true, if_false] at q ⊢; exact comp_inv J hw step fin xs acc st1 q
    | true =>
      simp only [if_true] at q ⊢
      exact Ok.imp q fun r st2 q => ⟨q.1, comp_inv J hw step fin xs _ _ q.2⟩
end Mi
end
section
set_option linter.all false
set_option autoImplicit false
/-! MiPlain2: operations, for plain laws. -/
namespace Mi
section
variable {st : Store} {Q : RV → Store → Prop} {a b c : RV} {i j : Int} {x y : List Nat} {xs ys : List Val} {u v : Val}
theorem p_eq : Ok (f2 .eq a b st) Q = onS (eqR st a b) fun k => Q (.v (.bl k)) st := by
  simp only [f2, ov]; cases eqR st a b <;> rfl
theorem p_ne : Ok (f2 .ne a b st) Q = onS (eqR st a b) fun k => Q (.v (.bl (!k))) st := by
  simp only [f2, ov]; cases eqR st a b <;> rfl
theorem p_lt : Ok (f2 .lt (.v (.int i)) (.v (.int j)) st) Q = Q (.v (.bl (decide (i < j)))) st := rfl
theorem p_le : Ok (f2 .le (.v (.int i)) (.v (.int j)) st) Q = Q (.v (.bl (decide (i ≤ j)))) st := rfl
theorem p_gt : Ok (f2 .gt (.v (.int i)) (.v (.int j)) st) Q = Q (.v (.bl (decide (j < i)))) st := rfl
theorem p_ge : Ok (f2 .ge (.v (.int i)) (.v (.int j)) st) Q = Q (.v (.bl (decide (j ≤ i)))) st := rfl
theorem p_addI : Ok (f2 .add (.v (.int i)) (.v (.int j)) st) Q = Q (.v (.int (i + j))) st := rfl
theorem p_addS : Ok (f2 .add (.v (.str x)) (.v (.str y)) st) Q = (x.length + y.length ≤ top ∧ Q (.v (.str (x ++ y))) st) := by
  simp only [f2]; rw [k_ite]; by_cases h : x.length + y.length ≤ top <;> simp [h, k_ok, k_bad]
theorem p_addT : Ok (f2 .add (.v (.tup xs)) (.v (.tup ys)) st) Q = (xs.length + ys.length ≤ top ∧ Q (.v (.tup (xs ++ ys))) st) := by
  simp only [f2]; rw [k_ite]; by_cases h : xs.length + ys.length ≤ top <;> simp [h, k_ok, k_bad]
theorem p_addL (h : ownL st a = some xs) (g : ownL st b = some ys) : Ok (f2 .add a b st) Q = (xs.length + ys.length ≤ top ∧ Q (.l (xs ++ ys)) st) := by
  have e : f2 .add a b st = if xs.length + ys.length ≤ top then .ok (.l (xs ++ ys)) st else .bad := by
    simp only [f2]
    split
    · simp [ownL] at h
    · simp [ownL] at h
    · simp [ownL] at h
    · rw [h, g]
  rw [e, k_ite]
  by_cases h : xs.length + ys.length ≤ top <;> simp [h, k_ok, k_bad]
theorem p_sub : Ok (f2 .sub (.v (.int i)) (.v (.int j)) st) Q = Q (.v (.int (i - j))) st := rfl
theorem p_mul : Ok (f2 .mul (.v (.int i)) (.v (.int j)) st) Q = ((i.natAbs < 2 ^ 64 ∨ j.natAbs < 2 ^ 64 ∨ i.natAbs.log2 + j.natAbs.log2 < 1000000) ∧ Q (.v (.int (i * j))) st) := by
  simp only [f2]; rw [k_ite]; by_cases h : i.natAbs < 2 ^ 64 ∨ j.natAbs < 2 ^ 64 ∨ i.natAbs.log2 + j.natAbs.log2 < 1000000 <;> simp [h, k_ok, k_bad]
theorem p_mod : Ok (f2 .mod (.v (.int i)) (.v (.int j)) st) Q = (0 < j ∧ Q (.v (.int (i % j))) st) := by
  simp only [f2]; rw [k_ite]; by_cases h : 0 < j <;> simp [h, k_ok, k_bad]
theorem p_fdiv : Ok (f2 .fdiv (.v (.int i)) (.v (.int j)) st) Q = ((0 < j ∧ j.natAbs.log2 < 9000) ∧ Q (.v (.int (i / j))) st) := by
  simp only [f2]; rw [k_ite]; by_cases h : 0 < j ∧ j.natAbs.log2 < 9000 <;> simp [h, k_ok, k_bad]
theorem p_pow : Ok (f2 .pow (.v (.int i)) (.v (.int j)) st) Q = ((0 ≤ j ∧ j ≤ 1000000 ∧ i.natAbs < 2 ^ 64) ∧ Q (.v (.int (i ^ j.toNat))) st) := by
  simp only [f2]; rw [k_ite]; by_cases h : 0 ≤ j ∧ j ≤ 1000000 ∧ i.natAbs < 2 ^ 64 <;> simp [h, k_ok, k_bad]
theorem p_in : Ok (f2 .isin (.v u) b st) Q = onS (seqR st b) fun p => onS (anyEq st u p.2) fun k => Q (.v (.bl k)) st := by
  simp only [f2]
  cases h : seqR st b with
  | none => rfl
  | some p =>
    obtain ⟨k, ys⟩ := p
    simp only [ov, on_some]
    cases anyEq st u ys <;> rfl
theorem p_notin : Ok (f2 .notin (.v u) b st) Q = onS (seqR st b) fun p => onS (anyEq st u p.2) fun k => Q (.v (.bl (!k))) st := by
  simp only [f2]
  cases h : seqR st b with
  | none => rfl
  | some p =>
    obtain ⟨k, ys⟩ := p
    simp only [ov, on_some]
    cases anyEq st u ys <;> rfl
theorem p_ixT : Ok (f2 .ix (.v (.tup xs)) (.v (.int i)) st) Q = onS (at' xs i) fun d => Q (.v d) st := by
  simp only [f2, seqR, seqV, ov]; cases at' xs i <;> rfl
theorem p_ixL {l : Bool} (h : seqR st a = some (l, xs)) : Ok (f2 .ix a (.v (.int i)) st) Q = onS (at' xs i) fun d => Q (.v d) st := by
  simp only [f2, h, ov]; cases at' xs i <;> rfl
theorem p_ixD {n : Nat} {kvs : List (Val × Val)} (h : st[n]? = some (.dic false kvs)) : Ok (f2 .ix (.v (.ref n)) (.v (.str x)) st) Q = onS (kget kvs (.str x)) fun d => Q (.v d) st := by
  have e : seqR st (.v (.ref n)) = none := by simp [seqR, seqV, lstAt, h]
  have e2 : dicAt st (.v (.ref n)) = some (n, false, kvs) := by simp [dicAt, h]
  simp only [f2, e, e2, keyOk, if_true, ov]
  cases kget kvs (.str x) <;> rfl
theorem p_append {n : Nat} (h : mutAt st a = some (n, xs)) : Ok (f2 .append a b st) Q = (xs.length < top ∧ Q (.v .non) ((settle b st).2.set n (.lst (xs ++ [(settle b st).1])))) := by
  simp only [f2, h]; rw [k_ite]; by_cases h : xs.length < top <;> simp [h, k_ok, k_bad]
theorem p_extend {n : Nat} (h : mutAt st a = some (n, xs)) (g : ownL st b = some ys) : Ok (f2 .extend a b st) Q = (xs.length + ys.length ≤ top ∧ Q (.v .non) (st.set n (.lst (xs ++ ys)))) := by
  simp only [f2, h, g]; rw [k_ite]; by_cases h : xs.length + ys.length ≤ top <;> simp [h, k_ok, k_bad]
theorem p_popAt {n m : Nat} (h : mutAt st a = some (n, xs)) (g : ix xs.length i = some m) (e : xs[m]? = some u) : Ok (f2 .popAt a (.v (.int i)) st) Q = Q (.v u) (st.set n (.lst (xs.eraseIdx m))) := by
  simp only [f2, h, g, e]; rfl
/-! ### one value -/
theorem p_neg : Ok (f1 .neg (.v (.int i)) st) Q = Q (.v (.int (-i))) st := rfl
theorem p_abs : Ok (f1 .abs (.v (.int i)) st) Q = Q (.v (.int (if i < 0 then -i else i))) st := rfl
theorem p_int : Ok (f1 .int (.v (.int i)) st) Q = Q (.v (.int i)) st := rfl
theorem p_intB {k : Bool} : Ok (f1 .int (.v (.bl k)) st) Q = Q (.v (.int (if k then 1 else 0))) st := rfl
theorem p_len {l : Bool} (h : seqR st a = some (l, xs)) : Ok (f1 .len a st) Q = Q (.v (.int xs.length)) st := by simp only [f1, h]; rfl
theorem p_lenS : Ok (f1 .len (.v (.str x)) st) Q = (x.length ≤ top ∧ Q (.v (.int x.length)) st) := by
  simp only [f1, seqR, seqV]; rw [k_ite]; by_cases h : x.length ≤ top <;> simp [h, k_ok, k_bad]
theorem p_tuple : Ok (f1 .tuple a st) Q = onS (seqR st a) fun p => Q (.v (.tup p.2)) st := by
  simp only [f1]; cases seqR st a <;> rfl
theorem p_list : Ok (f1 .list a st) Q = onS (seqR st a) fun p => Q (.l p.2) st := by
  simp only [f1]; cases seqR st a <;> rfl
theorem p_sortS {zs : List (List Nat)} (h : seqR st a = some (true, zs.map .str)) (hl : zs.length < 64) : Ok (f1 .sorted a st) Q = Q (.l ((isort leN zs).map .str)) st := by
  have e : ∀ zs : List (List Nat), allStrs (zs.map .str) = some zs := fun zs => by
    induction zs with
    | nil => rfl
    | cons z zs ih => simp [allStrs, ih]
  simp only [f1, h, List.length_map, hl, if_true, e]; rfl
theorem p_repr : Ok (f1 .repr a st) Q = onS (datR st a) fun d => dsz d ≤ top ∧ Q (.v (.str d.shown.cps.toList)) st := by
  simp only [f1]
  cases datR st a with
  | none => rfl
  | some d => simp only [on_some]; rw [k_ite]; by_cases h : dsz d ≤ top <;> simp [h, k_ok, k_bad]
theorem p_pop {n : Nat} (h : mutAt st a = some (n, xs)) (g : xs[xs.length - 1]? = some u) : Ok (f1 .pop a st) Q = Q (.v u) (st.set n (.lst xs.dropLast)) := by
  simp only [f1, h, g]; rfl
theorem p_rev : Ok (f1 .rev a st) Q = onS (seqR st a) fun p => p.1 = true ∧ Q (.l p.2.reverse) st := by
  simp only [f1]
  cases seqR st a with
  | none => rfl
  | some p => obtain ⟨k, xs⟩ := p; cases k <;> simp [k_ok, k_bad, on_some]
theorem p_slT {lo hi : Option Int} : Ok (fsl (.v (.tup xs)) lo hi st) Q = Q (.v (.tup (cut xs lo hi))) st := rfl
theorem p_slL {lo hi : Option Int} (h : seqR st a = some (true, xs)) : Ok (fsl a lo hi st) Q = Q (.l (cut xs lo hi)) st := by simp only [fsl, h]; rfl
/-! ### equality by shapes -/
theorem q_ss : eqR st (.v (.str x)) (.v (.str y)) = some (x == y) := rfl
theorem q_ii : eqR st (.v (.int i)) (.v (.int j)) = some (i == j) := rfl
theorem q_bb {k m : Bool} : eqR st (.v (.bl k)) (.v (.bl m)) = some (k == m) := rfl
theorem q_tt : eqR st (.v (.tup xs)) (.v (.tup ys)) = eqAll (eqV 60 st) xs ys := rfl
theorem q_ll : eqR st (.l xs) (.l ys) = if xs.length != ys.length then some false else eqAll (eqV 60 st) xs ys := by simp [eqR, seqR]
theorem q_vs : eqV 60 st (.str x) (.str y) = some (x == y) := rfl
theorem q_vi : eqV 60 st (.int i) (.int j) = some (i == j) := rfl
theorem q_vt : eqV 60 st (.tup xs) (.tup ys) = eqAll (eqV 59 st) xs ys := rfl
theorem q_nil {f : Val → Val → Option Bool} : eqAll f [] [] = some true := rfl
theorem q_nilc {f : Val → Val → Option Bool} : eqAll f [] (u :: xs) = some false := rfl
theorem q_cnil {f : Val → Val → Option Bool} : eqAll f (u :: xs) [] = some false := rfl
theorem q_cons {f : Val → Val → Option Bool} : eqAll f (u :: xs) (v :: ys) = (f u v).bind fun b => (eqAll f xs ys).bind fun c => some (b && c) := rfl
theorem q_any0 : anyEq st u [] = some false := rfl
theorem q_any1 : anyEq st u (v :: ys) = (eqV 60 st v u).bind fun b => (anyEq st u ys).bind fun c => some (b || c) := rfl
theorem q_anyS {zs : List (List Nat)} : anyEq st (.str x) (zs.map .str) = some (zs.contains x) := by
  induction zs with
  | nil => rfl
  | cons z zs ih =>
    rw [List.map_cons, q_any1, q_vs, ih]
    simp only [Option.bind, List.contains_cons]
    congr 1
    rw [Bool.beq_comm]
/-! ### by what the store holds -/
def onE {α : Type} (o : Option α) (f : α → Prop) (g : Prop) : Prop := match o with
  | some a => f a
  | none => g
theorem onE_some {α : Type} {x : α} {f : α → Prop} {g : Prop} : onE (some x) f g = f x := rfl
theorem onE_none {α : Type} {f : α → Prop} {g : Prop} : onE none f g = g := rfl
theorem p_addl : Ok (f2 .add (.l xs) b st) Q = onS (ownL st b) fun ys => xs.length + ys.length ≤ top ∧ Q (.l (xs ++ ys)) st := by
  cases h : ownL st b with
  | some ys => exact p_addL rfl h
  | none => simp only [f2, h]; rfl
theorem p_addr {n : Nat} : Ok (f2 .add (.v (.ref n)) b st) Q = onS (ownL st (.v (.ref n))) fun xs => onS (ownL st b) fun ys => xs.length + ys.length ≤ top ∧ Q (.l (xs ++ ys)) st := by
  cases g : ownL st (.v (.ref n)) with
  | none => simp only [f2, g]; rfl
  | some xs =>
    cases h : ownL st b with
    | some ys => exact p_addL g h
    | none => simp only [f2, g, h]; rfl
theorem p_ixl : Ok (f2 .ix (.l xs) (.v (.int i)) st) Q = onS (at' xs i) fun d => Q (.v d) st := p_ixL (l := true) rfl
theorem p_ixri {n : Nat} : Ok (f2 .ix (.v (.ref n)) (.v (.int i)) st) Q = onE (lstAt st n) (fun xs => onS (at' xs i) fun d => Q (.v d) st) (onS (dicAt st (.v (.ref n))) fun p => keyOk p.2.1 (.int i) = true ∧ onS (kget p.2.2 (.int i)) fun d => Q (.v d) st) := by
  cases h : lstAt st n with
  | some xs => exact p_ixL (l := true) (by simp [seqR, seqV, h])
  | none =>
    have e : seqR st (.v (.ref n)) = none := by simp [seqR, seqV, h]
    simp only [f2, e, onE_none]
    cases dicAt st (.v (.ref n)) with
    | none => rfl
    | some p =>
      obtain ⟨m, t, kvs⟩ := p
      simp only [on_some]
      rw [k_ite]
      by_cases hk : keyOk t (.int i) = true
      · simp only [hk, if_true, true_and, ov]
        cases kget kvs (.int i) <;> rfl
      · simp [hk, k_bad]
theorem p_ixrs {n : Nat} : Ok (f2 .ix (.v (.ref n)) (.v (.str x)) st) Q = onE (lstAt st n) (fun _ => False) (onS (dicAt st (.v (.ref n))) fun p => keyOk p.2.1 (.str x) = true ∧ onS (kget p.2.2 (.str x)) fun d => Q (.v d) st) := by
  cases h : lstAt st n with
  | some xs =>
    have e : seqR st (.v (.ref n)) = some (true, xs) := by simp [seqR, seqV, h]
    simp only [f2, e]; rfl
  | none =>
    have e : seqR st (.v (.ref n)) = none := by simp [seqR, seqV, h]
    simp only [f2, e, onE_none]
    cases dicAt st (.v (.ref n)) with
    | none => rfl
    | some p =>
      obtain ⟨m, t, kvs⟩ := p
      simp only [on_some]
      rw [k_ite]
      by_cases hk : keyOk t (.str x) = true
      · simp only [hk, if_true, true_and, ov]
        cases kget kvs (.str x) <;> rfl
      · simp [hk, k_bad]
theorem p_app : Ok (f2 .append a b st) Q = onS (mutAt st a) fun p => p.2.length < top ∧ Q (.v .non) ((settle b st).2.set p.1 (.lst (p.2 ++ [(settle b st).1]))) := by
  cases h : mutAt st a with
  | some p => exact p_append h
  | none => simp only [f2, h]; rfl
theorem p_ext : Ok (f2 .extend a b st) Q = onS (mutAt st a) fun p => onS (ownL st b) fun ys => p.2.length + ys.length ≤ top ∧ Q (.v .non) (st.set p.1 (.lst (p.2 ++ ys))) := by
  cases h : mutAt st a with
  | none => simp only [f2, h]; rfl
  | some p =>
    cases g : ownL st b with
    | none => simp only [f2, h, g, on_some, on_none]; rfl
    | some ys => simp only [on_some]; exact p_extend h g
theorem p_popa : Ok (f2 .popAt a (.v (.int i)) st) Q = onS (mutAt st a) fun p => onS (ix p.2.length i) fun m => onS p.2[m]? fun u => Q (.v u) (st.set p.1 (.lst (p.2.eraseIdx m))) := by
  cases h : mutAt st a with
  | none => simp only [f2, h]; rfl
  | some p =>
    cases g : ix p.2.length i with
    | none => simp only [f2, h, g, on_some, on_none]; rfl
    | some m =>
      cases e : p.2[m]? with
      | none => simp only [f2, h, g, e, on_some, on_none]; rfl
      | some u => simp only [on_some, g, e]; exact p_popAt h g e
theorem p_popz : Ok (f1 .pop a st) Q = onS (mutAt st a) fun p => onS p.2[p.2.length - 1]? fun u => Q (.v u) (st.set p.1 (.lst p.2.dropLast)) := by
  cases h : mutAt st a with
  | none => simp only [f1, h]; rfl
  | some p =>
    cases e : p.2[p.2.length - 1]? with
    | none => simp only [f1, h, e, on_some, on_none]; rfl
    | some u => simp only [on_some, e]; exact p_pop h e
theorem p_ins : Ok (f3 .insert a (.v (.int 0)) b st) Q = onS (mutAt st a) fun p => p.2.length < top ∧ Q (.v .non) ((settle b st).2.set p.1 (.lst ((settle b st).1 :: p.2))) := by
  cases h : mutAt st a with
  | none => simp only [f3, h]; rfl
  | some p =>
    simp only [f3, h]
    rw [k_ite]
    by_cases h : p.2.length < top <;> simp [h, k_ok, k_bad, on_some]
theorem p_lenT : Ok (f1 .len (.v (.tup xs)) st) Q = Q (.v (.int xs.length)) st := rfl
theorem p_lenl : Ok (f1 .len (.l xs) st) Q = Q (.v (.int xs.length)) st := rfl
theorem p_lenr {n : Nat} : Ok (f1 .len (.v (.ref n)) st) Q = onE (lstAt st n) (fun xs => Q (.v (.int xs.length)) st) (onS (dicAt st (.v (.ref n))) fun p => p.2.1 = false ∧ Q (.v (.int p.2.2.length)) st) := by
  cases h : lstAt st n with
  | some xs => exact p_len (l := true) (by simp [seqR, seqV, h])
  | none =>
    have e : seqR st (.v (.ref n)) = none := by simp [seqR, seqV, h]
    simp only [f1, e, onE_none]
    cases dicAt st (.v (.ref n)) with
    | none => rfl
    | some p => obtain ⟨m, t, kvs⟩ := p; cases t <;> simp [k_ok, k_bad, on_some]
theorem p_set {o : RV} {k : Val} {Q : Unit → Store → Prop} : Ok (fset o (.v k) v st) Q = onE (mutAt st o) (fun p => match k with
    | .int j => onS (ix p.2.length j) fun m => Q () (st.set p.1 (.lst (p.2.set m v)))
    | _ => False) (onS (dicAt st o) fun p => (keyOk p.2.1 k = true ∧ p.2.2.length < top) ∧ Q () (st.set p.1 (.dic p.2.1 (kput p.2.2 k v)))) := by
  simp only [fset]
  cases h : mutAt st o with
  | some p =>
    simp only [onE_some]
    cases k with
    | int j => dsimp only; cases ix p.2.length j <;> rfl
    | _ => rfl
  | none =>
    simp only [onE_none]
    cases dicAt st o with
    | none => rfl
    | some p =>
      obtain ⟨m, t, kvs⟩ := p
      simp only [on_some]
      rw [k_ite]
      by_cases hk : keyOk t k = true ∧ kvs.length < top <;> simp [hk, k_ok, k_bad]
theorem p_isN {u : Val} : Ok (f1 .isNon (.v u) st) Q = Q (.v (.bl (u == .non))) st := rfl
theorem p_noN {u : Val} : Ok (f1 .notNon (.v u) st) Q = Q (.v (.bl (!(u == .non)))) st := rfl
theorem at_lit {α : Type} {xs : List α} (n : Nat) : at' xs (no_index (OfNat.ofNat n : Int)) = xs[n]? := by
  show at' xs ((n : Nat) : Int) = _
  unfold at' ix
  rw [if_pos (Int.natCast_nonneg n)]
  by_cases h : n < xs.length
  · rw [if_pos (by omega)]; simp
  · rw [if_neg (by omega), List.getElem?_eq_none (by omega)]; rfl
theorem at_nat {α : Type} {xs : List α} (n : Nat) : at' xs ((n : Nat) : Int) = xs[n]? := at_lit n
theorem at_last {α : Type} {xs : List α} : at' xs (-1) = xs[xs.length - 1]? := by
  unfold at' ix
  rw [if_neg (by decide)]
  by_cases h : xs.length = 0
  · rw [if_neg (by omega), List.getElem?_eq_none (by omega)]; rfl
  · rw [if_pos (by omega)]
    have : ((-1 : Int) + (xs.length : Int)).toNat = xs.length - 1 := by omega
    simp [this]
theorem p_sort : Ok (f1 .sorted a st) Q = onS (seqR st a) fun p => p.1 = true ∧ p.2.length < 64 ∧ onE (allStrs p.2) (fun zs => Q (.l ((isort leN zs).map .str)) st) (onS (allInts p.2) fun zs => Q (.l ((isort (fun i j => decide (i ≤ j)) zs).map .int)) st) := by
  simp only [f1]
  cases seqR st a with
  | none => rfl
  | some p =>
    obtain ⟨k, xs⟩ := p
    cases k with
    | false => simp [k_bad, on_some]
    | true =>
      simp only [on_some]
      rw [k_ite]
      by_cases h : xs.length < 64
      · simp only [h, if_true, true_and]
        cases allStrs xs with
        | some zs => rfl
        | none =>
          simp only [onE_none]
          cases allInts xs <;> rfl
      · simp [h, k_bad]
theorem as_nil : allStrs [] = some [] := rfl
theorem as_cons {zs : List Val} : allStrs (.str x :: zs) = (allStrs zs).map fun l => x :: l := rfl
theorem lb_cc {m n : Nat} {xs ys : List Nat} : (m :: xs == n :: ys) = (m == n && xs == ys) := rfl
theorem lb_nc {n : Nat} {ys : List Nat} : (([] : List Nat) == n :: ys) = false := rfl
theorem lb_cn {n : Nat} {ys : List Nat} : (n :: ys == ([] : List Nat)) = false := rfl
theorem lb_nn : (([] : List Nat) == []) = true := rfl
theorem p_slr {n : Nat} {lo hi : Option Int} : Ok (fsl (.v (.ref n)) lo hi st) Q = onS (lstAt st n) fun xs => Q (.l (cut xs lo hi)) st := by
  simp only [fsl, seqR, seqV]
  cases lstAt st n <;> rfl
theorem p_sll {lo hi : Option Int} : Ok (fsl (.l xs) lo hi st) Q = Q (.l (cut xs lo hi)) st := rfl
theorem vb_ss : (Val.str x == Val.str y) = (x == y) := rfl
theorem set_ne {n m : Nat} {o : Obj} (h : n ≠ m) : (List.set st n o)[m]? = st[m]? := List.getElem?_set_ne h
theorem set_self {n : Nat} {o o' : Obj} (h : st[n]? = some o') : (List.set st n o)[n]? = some o := List.getElem?_set_self (List.getElem?_eq_some_iff.mp h).1
theorem eq_l0 {l : Nat} (e : st[l]? = some (.lst xs)) : eqR st (.v (.ref l)) (.l []) = some xs.isEmpty := by
  have e2 : seqR st (.v (.ref l)) = some (true, xs) := by simp [seqR, seqV, lstAt, e]
  have e3 : seqR st (.l []) = some (true, []) := rfl
  unfold eqR
  rw [e2, e3]
  cases xs <;> rfl
end
/-- a block, by what stands after its first statement -/
theorem seq_ok {cs : List Fn} {n : Nat} {s t : S} {ρ : Env} {st : Store} {Q : Out → Store → Prop} (P : Env → Store → Prop) (h : Ok (ex cs n s ρ st) fun o st1 => ∃ ρ1, o = .nx ρ1 ∧ P ρ1 st1) (k : ∀ ρ1 st1, P ρ1 st1 → Ok (ex cs n t ρ1 st1) Q) : Ok (ex cs n (.seq s t) ρ st) Q := by
  rw [s_seq]
  refine Ok.imp h fun o st1 q => ?_
  obtain ⟨ρ1, rfl, p⟩ := q
  exact k ρ1 st1 p
end Mi
end
section
set_option Elab.async false
set_option linter.all false
namespace Mi
/-- a comprehension that changes nothing -/
theorem comp_pure {w : List (Nat × List Val)} {t : T} {c : Env → Store → Res Bool} {f : Env → Store → Res RV} {ρ : Env} (P : Val → Prop) {Q : List Val → Store → Prop} {xs : List Val} {st : Store} (hs : stands w st = true) (hl : xs.length ≤ top)
    (step : ∀ x ∈ xs, ∃ ρ1, bindT t x ρ = some ρ1 ∧ Ok (c ρ1 st) fun k st1 => st1 = st ∧ (k = true → Ok (f ρ1 st) fun r st2 => st2 = st ∧ ∃ v, r = .v v ∧ P v))
    (fin : ∀ acc : List Val, (∀ a ∈ acc, P a) → acc.length ≤ xs.length → Q acc st) : Ok (compLoop w t c f ρ xs [] st) Q := by
  refine comp_inv (fun ys acc st1 => st1 = st ∧ (∀ y ∈ ys, y ∈ xs) ∧ (∀ a ∈ acc, P a) ∧ acc.length + ys.length ≤ xs.length) ?_ ?_ ?_ xs [] st ⟨rfl, fun _ h => h, fun _ h => absurd h List.not_mem_nil, by simp⟩
  · rintro _ _ _ ⟨rfl, _⟩; exact hs
  · rintro x ys acc st1 ⟨rfl, h1, h2, h3⟩
    obtain ⟨ρ1, e, z⟩ := step x (h1 x List.mem_cons_self)
    refine ⟨ρ1, e, Ok.imp z ?_⟩
    rintro k st2 ⟨rfl, z⟩
    simp only [List.length_cons] at h3
    cases k with
    | false => exact ⟨rfl, fun y hy => h1 y (List.mem_cons_of_mem _ hy), h2, by omega⟩
    | true =>
      refine Ok.imp (z rfl) ?_
      rintro r st3 ⟨rfl, v, rfl, pv⟩
      refine ⟨by omega, rfl, fun y hy => h1 y (List.mem_cons_of_mem _ hy), ?_, ?_⟩
      · intro a ha
        rcases List.mem_append.mp ha with ha | ha
        · exact h2 a ha
        · rw [List.mem_singleton.mp ha]; exact pv
      · simp only [settle, List.length_append, List.length_cons, List.length_nil]; omega
  · rintro acc st1 ⟨rfl, _, h2, h3⟩
    exact fin acc h2 (by simpa using h3)
theorem walk_l {st : Store} {n : Nat} {xs : List Val} {q : RV} (e : st[n]? = some (.lst xs)) : walk .seq (.v (.ref n)) q st = some (xs, [(n, xs)]) := by
  simp only [walk, seqR, seqV, lstAt, e]; rfl
theorem stands_l {st : Store} {n : Nat} {xs : List Val} (e : st[n]? = some (.lst xs)) : stands [(n, xs)] st = true := by
  simp [stands, lstAt, e]
theorem q_strs {st : Store} {n : Nat} : ∀ {xs ys : List (List Nat)}, eqAll (eqV (n + 1) st) (xs.map .str) (ys.map .str) = some (xs == ys)
  | [], [] => rfl
  | [], _ :: _ => rfl
  | _ :: _, [] => rfl
  | x :: xs, y :: ys => by
    rw [List.map_cons, List.map_cons, q_cons, q_strs (xs := xs) (ys := ys)]
    rfl
theorem walk_t {st : Store} {xs : List Val} {q : RV} : walk .seq (.v (.tup xs)) q st = some (xs, []) := rfl
theorem stands_0 {st : Store} : stands [] st = true := rfl
theorem walk_el {st : Store} {xs : List Val} {q : RV} : walk .enum (.l xs) q st = some (zipE xs, []) := rfl
theorem mem_zipE {x : Val} {xs : List Val} (h : x ∈ zipE xs) : ∃ (k : Nat) (v : Val), v ∈ xs ∧ x = .tup [.int (k : Int), v] := by
  simp only [zipE, List.mem_map] at h
  obtain ⟨⟨v, k⟩, hm, rfl⟩ := h
  exact ⟨k, v, List.fst_mem_of_mem_zipIdx hm, rfl⟩
theorem walk_r {st : Store} {n : Nat} {q : RV} (h : (n : Int) < 2 ^ 62) : walk .range1 (.v (.int n)) q st = some (rng 0 n, []) := by
  simp only [walk]
  rw [if_pos (by omega)]; rfl
theorem mem_rng {x : Val} {lo : Int} {n : Nat} (h : x ∈ rng lo n) : ∃ i : Int, lo ≤ i ∧ i < lo + n ∧ x = .int i := by
  simp only [rng, List.mem_map, List.mem_range] at h
  obtain ⟨a, ha, rfl⟩ := h
  exact ⟨_, by omega, by omega, rfl⟩
end Mi
end
section
set_option linter.all false
set_option autoImplicit false
/-! MiDir: a computation's value by rewriting, the branches of a test put together (mg). -/
namespace Mi
/-- one of two, by a bool -/
def mg {α : Type} (k : Bool) (x y : α) : α := if k then x else y
section
variable {α β : Type} {k : Bool} {x y : α} {st s s' : Store} {f : α → Store → Res β}
theorem m_t : mg true x y = x := rfl
theorem m_f : mg false x y = y := rfl
theorem m_same : mg k x x = x := by cases k <;> rfl
theorem m_not : mg (!k) x y = mg k y x := by cases k <;> rfl
theorem m_ok : mg k (Res.ok x s) (.ok y s') = .ok (mg k x y) (mg k s s') := by cases k <;> rfl
theorem m_bad : mg k (Res.bad : Res α) .bad = .bad := by cases k <;> rfl
theorem m_v {a b : Val} : mg k (RV.v a) (.v b) = .v (mg k a b) := by cases k <;> rfl
theorem m_l {a b : List Val} : mg k (RV.l a) (.l b) = .l (mg k a b) := by cases k <;> rfl
theorem m_str {a b : List Nat} : mg k (Val.str a) (.str b) = .str (mg k a b) := by cases k <;> rfl
theorem m_int {a b : Int} : mg k (Val.int a) (.int b) = .int (mg k a b) := by cases k <;> rfl
theorem m_bl {a b : Bool} : mg k (Val.bl a) (.bl b) = .bl (mg k a b) := by cases k <;> rfl
theorem m_tup {a b : List Val} : mg k (Val.tup a) (.tup b) = .tup (mg k a b) := by cases k <;> rfl
theorem m_cons {a b : α} {as bs : List α} : mg k (a :: as) (b :: bs) = mg k a b :: mg k as bs := by cases k <;> rfl
theorem m_some {a b : α} : mg k (some a) (some b) = some (mg k a b) := by cases k <;> rfl
theorem m_lst {a b : List Val} : mg k (Obj.lst a) (.lst b) = .lst (mg k a b) := by cases k <;> rfl
theorem m_nx {a b : Env} : mg k (Out.nx a) (.nx b) = .nx (mg k a b) := by cases k <;> rfl
theorem m_rt {a b : RV} : mg k (Out.rt a) (.rt b) = .rt (mg k a b) := by cases k <;> rfl
theorem m_tf : mg k true false = k := by cases k <;> rfl
theorem m_ft : mg k false true = !k := by cases k <;> rfl
theorem m_kf {b : Bool} : mg k b false = (k && b) := by cases k <;> rfl
theorem m_tb {b : Bool} : mg k true b = (k || b) := by cases k <;> rfl
theorem m_len {a b : List α} : (mg k a b).length = mg k a.length b.length := by cases k <;> rfl
theorem m_add {a b c : Nat} : mg k a b + c = mg k (a + c) (b + c) := by cases k <;> rfl
theorem m_add2 {a b c : Nat} : c + mg k a b = mg k (c + a) (c + b) := by cases k <;> rfl
theorem m_le {a b c : Nat} : (mg k a b ≤ c) = mg k (a ≤ c) (b ≤ c) := by cases k <;> rfl
theorem m_lt {a b c : Nat} : (mg k a b < c) = mg k (a < c) (b < c) := by cases k <;> rfl
theorem m_emp {a b : List α} : (mg k a b).isEmpty = mg k a.isEmpty b.isEmpty := by cases k <;> rfl
theorem m_beqS {a b c : List Nat} : (mg k a b == c) = mg k (a == c) (b == c) := by cases k <;> rfl
theorem m_nrs {a b : List Val} : Val.nrs (mg k a b) = mg k (Val.nrs a) (Val.nrs b) := by cases k <;> rfl
theorem nrs_app {a b : List Val} : Val.nrs (a ++ b) = (Val.nrs a && Val.nrs b) := by
  induction a with
  | nil => simp [Val.nrs]
  | cons x xs ih => simp [Val.nrs, ih, Bool.and_assoc]
theorem nrs_map {a : List (List Nat)} : Val.nrs (a.map .str) = true := by
  induction a with
  | nil => rfl
  | cons x xs ih => simp [Val.nrs, Val.nr, ih]
theorem m_as {a b : List Val} : allStrs (mg k a b) = mg k (allStrs a) (allStrs b) := by cases k <;> rfl
theorem as_app {a b : List Val} {u v : List (List Nat)} (h : allStrs a = some u) (g : allStrs b = some v) : allStrs (a ++ b) = some (u ++ v) := by
  induction a generalizing u with
  | nil => cases h; exact g
  | cons x xs ih =>
    cases x <;> simp only [allStrs] at h <;> first | cases h | skip
    simp only [Option.map_eq_some_iff] at h
    obtain ⟨w, h1, rfl⟩ := h
    simp only [List.cons_append, allStrs, ih h1]
    rfl
theorem as_map {a : List (List Nat)} : allStrs (a.map .str) = some a := by
  induction a with
  | nil => rfl
  | cons x xs ih => simp [allStrs, ih]
theorem m_map {γ : Type} {h : α → γ} {a b : List α} : (mg k a b).map h = mg k (a.map h) (b.map h) := by cases k <;> rfl
/-! ### computations -/
theorem b_ok : (Res.ok x s).bind f = f x s := rfl
theorem b_bad : (Res.bad : Res α).bind f = .bad := rfl
theorem b_assoc {γ : Type} {r : Res α} {g : β → Store → Res γ} : (r.bind f).bind g = r.bind fun a st => (f a st).bind g := by cases r <;> rfl
def onR (o : Option α) (g : α → Res β) : Res β := match o with
  | some a => g a
  | none => .bad
theorem r_some {g : α → Res β} : onR (some x) g = g x := rfl
theorem r_none {g : α → Res β} : onR none g = .bad := rfl
theorem l_some : lift (some x) st = .ok x st := rfl
/-- a test's two ways -/
def two (k : Bool) (r q : Res α) : Res α := mg k r q
end
/-! ### what comes next: words, so that nothing is rewritten in them -/
def xVar (o : Option (Option Val)) (st : Store) : Res RV := match o with
  | some (some v) => .ok (.v v) st
  | _ => .bad
def kTup (rs : List RV) (st1 : Store) : Res RV := if rs.length ≤ top then .ok (.v (.tup (settles rs st1).1)) (settles rs st1).2 else .bad
def kLst (rs : List RV) (st1 : Store) : Res RV := if rs.length ≤ top then .ok (.l (settles rs st1).1) (settles rs st1).2 else .bad
def kOp2 (cs : List Fn) (o : O2) (b : E) (ρ : Env) (r : RV) (st1 : Store) : Res RV := if pre2 o r st1 = true then (ev cs b ρ st1).bind (f2 o r) else .bad
def kSl1 (cs : List Fn) (lo hi : E) (ρ : Env) (r : RV) (st1 : Store) : Res RV := (optI (isNil lo) (ev cs lo ρ) st1).bind fun l st2 => (optI (isNil hi) (ev cs hi ρ) st2).bind (fsl r l)
def kSl2 (cs : List Fn) (hi : E) (ρ : Env) (r : RV) (l : Option Int) (st2 : Store) : Res RV := (optI (isNil hi) (ev cs hi ρ) st2).bind (fsl r l)
def kOpt (r : RV) (st1 : Store) : Res (Option Int) := match r with
  | .v (.int i) => .ok (some i) st1
  | _ => .bad
def kAnd (cs : List Fn) (b : E) (ρ : Env) (r : RV) (st1 : Store) : Res RV := match r with
  | .v (.bl k) => mg k (ev cs b ρ st1) (.ok (.v (.bl false)) st1)
  | _ => .bad
def kOr (cs : List Fn) (b : E) (ρ : Env) (r : RV) (st1 : Store) : Res RV := match r with
  | .v (.bl k) => mg k (.ok (.v (.bl true)) st1) (ev cs b ρ st1)
  | _ => .bad
def kNot (r : RV) (st1 : Store) : Res RV := match truthV st1 r with
  | some k => .ok (.v (.bl (!k))) st1
  | none => .bad
def wIte (cs : List Fn) (a b : E) (ρ : Env) (st1 : Store) (o : Option Bool) : Res RV := match o with
  | some k => mg k (ev cs a ρ st1) (ev cs b ρ st1)
  | none => .bad
def kIte (cs : List Fn) (a b : E) (ρ : Env) (r : RV) (st1 : Store) : Res RV := wIte cs a b ρ st1 (truthV st1 r)
def wCall (m : Bool) (kw : List Nat) (rs : List RV) (st1 : Store) (o : Option Fn) : Res RV := match o with
  | some f => runCall m f (permute kw rs) st1
  | none => .bad
def kCall (cs : List Fn) (m : Bool) (j : Nat) (kw : List Nat) (rs : List RV) (st1 : Store) : Res RV := wCall m kw rs st1 cs[j]?
def kCons2 (r : RV) (rs : List RV) (st2 : Store) : Res (List RV) := .ok (r :: rs) st2
def kCons (cs : List Fn) (b : E) (ρ : Env) (r : RV) (st1 : Store) : Res (List RV) := (evs cs b ρ st1).bind (kCons2 r)
/-- the rest of a block -/
def after (cs : List Fn) (n : Nat) (t : S) (o : Out) (st : Store) : Res Out := match o with
  | .nx ρ => ex cs n t ρ st
  | o => .ok o st
def kNx (ρ : Env) (st : Store) : Res Out := .ok (.nx ρ) st
def kAsg (cs : List Fn) (g : G) (ρ : Env) (r : RV) (st1 : Store) : Res Out := (setG cs g (settle r st1).1 ρ (settle r st1).2).bind kNx
def kEx (ρ : Env) (_ : RV) (st : Store) : Res Out := .ok (.nx ρ) st
def kRet (r : RV) (st : Store) : Res Out := .ok (.rt r) st
def wIf (cs : List Fn) (n : Nat) (s t : S) (ρ : Env) (st1 : Store) (o : Option Bool) : Res Out := match o with
  | some k => mg k (ex cs n s ρ st1) (ex cs n t ρ st1)
  | none => .bad
def kIf (cs : List Fn) (n : Nat) (s t : S) (ρ : Env) (r : RV) (st1 : Store) : Res Out := wIf cs n s t ρ st1 (truthV st1 r)
def outR (o : Out) (st : Store) : Res RV := match o with
  | .rt r => .ok r st
  | .nx _ => .ok (.v .non) st
  | _ => .bad
def backR (st : Store) (r : RV) (st1 : Store) : Res RV := match r with
  | .v x => pureVal st st1 x
  | .l xs => if Val.nrs xs = true then .ok (.l xs) st else .bad
/-- no exception comes of it -/
def runPure (f : Fn) (rs : List RV) (st : Store) : Res RV := if rs.all nrR = true then (noX (f (settles rs []).1 (settles rs []).2)).bind (backR st) else .bad
section
variable {cs : List Fn} {ρ : Env} {st : Store} {a b c d e es : E} {v : Val} {n : Nat}
theorem d_k : ev cs (.k v) ρ st = .ok (.v v) st := rfl
theorem d_g {nm : List Nat} : ev cs (.g nm v) ρ st = .ok (.v v) st := rfl
theorem d_x {i : Nat} : ev cs (.x i) ρ st = xVar ρ[i]? st := by rw [ev]; rfl
theorem x_var : xVar (some (some v)) st = .ok (.v v) st := rfl
theorem d_tup : ev cs (.tup es) ρ st = (evs cs es ρ st).bind kTup := by rw [ev]; rfl
theorem x_tup {rs : List RV} : kTup rs st = if rs.length ≤ top then .ok (.v (.tup (settles rs st).1)) (settles rs st).2 else .bad := rfl
theorem d_lst : ev cs (.lst es) ρ st = (evs cs es ρ st).bind kLst := by rw [ev]; rfl
theorem x_lst {rs : List RV} : kLst rs st = if rs.length ≤ top then .ok (.l (settles rs st).1) (settles rs st).2 else .bad := rfl
theorem d_op1 {o : O1} : ev cs (.op1 o a) ρ st = (ev cs a ρ st).bind (f1 o) := by rw [ev]
theorem d_op2 {o : O2} : ev cs (.op2 o a b) ρ st = (ev cs a ρ st).bind (kOp2 cs o b ρ) := by rw [ev]; rfl
theorem x_op2 {o : O2} {r : RV} : kOp2 cs o b ρ r st = if pre2 o r st = true then (ev cs b ρ st).bind (f2 o r) else .bad := rfl
theorem d_sl {lo hi : E} : ev cs (.sl a lo hi) ρ st = (ev cs a ρ st).bind (kSl1 cs lo hi ρ) := by rw [ev]; rfl
theorem x_sl1 {lo hi : E} {r : RV} : kSl1 cs lo hi ρ r st = (optI (isNil lo) (ev cs lo ρ) st).bind (kSl2 cs hi ρ r) := rfl
theorem x_sl2 {hi : E} {r : RV} {l : Option Int} : kSl2 cs hi ρ r l st = (optI (isNil hi) (ev cs hi ρ) st).bind (fsl r l) := rfl
theorem d_optT {f : Store → Res RV} : optI true f st = .ok none st := rfl
theorem d_optF {f : Store → Res RV} : optI false f st = (f st).bind kOpt := rfl
theorem x_opt {i : Int} : kOpt (.v (.int i)) st = .ok (some i) st := rfl
theorem d_and : ev cs (.and a b) ρ st = (ev cs a ρ st).bind (kAnd cs b ρ) := by
  rw [ev]
  congr 1; funext r st1
  cases r with
  | l _ => rfl
  | v x => cases x with
    | bl k => cases k <;> rfl
    | _ => rfl
theorem x_and {k : Bool} : kAnd cs b ρ (.v (.bl k)) st = mg k (ev cs b ρ st) (.ok (.v (.bl false)) st) := rfl
theorem d_or : ev cs (.or a b) ρ st = (ev cs a ρ st).bind (kOr cs b ρ) := by
  rw [ev]
  congr 1; funext r st1
  cases r with
  | l _ => rfl
  | v x => cases x with
    | bl k => cases k <;> rfl
    | _ => rfl
theorem x_or {k : Bool} : kOr cs b ρ (.v (.bl k)) st = mg k (.ok (.v (.bl true)) st) (ev cs b ρ st) := rfl
theorem d_not : ev cs (.not a) ρ st = (ev cs a ρ st).bind kNot := by
  rw [ev]
  congr 1; funext r st1
  simp only [truthR, kNot]
  cases truthV st1 r <;> rfl
theorem x_not {k : Bool} : kNot (.v (.bl k)) st = .ok (.v (.bl (!k))) st := rfl
theorem d_ite : ev cs (.ite c a b) ρ st = (ev cs c ρ st).bind (kIte cs a b ρ) := by
  rw [ev]
  congr 1; funext r st1
  simp only [truthR, kIte]
  cases truthV st1 r with
  | none => rfl
  | some k => cases k <;> rfl
theorem x_ite {r : RV} : kIte cs a b ρ r st = wIte cs a b ρ st (truthV st r) := rfl
theorem x_ite2 {k : Bool} : wIte cs a b ρ st (some k) = mg k (ev cs a ρ st) (ev cs b ρ st) := rfl
theorem d_call {m : Bool} {j : Nat} {kw : List Nat} : ev cs (.call m j kw es) ρ st = (evs cs es ρ st).bind (kCall cs m j kw) := by
  rw [ev]
  congr 1
theorem x_call {m : Bool} {j : Nat} {kw : List Nat} {rs : List RV} : kCall cs m j kw rs st = wCall m kw rs st cs[j]? := rfl
theorem x_call2 {m : Bool} {kw : List Nat} {rs : List RV} {f : Fn} : wCall m kw rs st (some f) = runCall m f (permute kw rs) st := rfl
theorem d_nil : evs cs .nil ρ st = .ok [] st := by rw [evs]
theorem d_cons : evs cs (.cons a b) ρ st = (ev cs a ρ st).bind (kCons cs b ρ) := by rw [evs]; rfl
theorem x_cons {r : RV} : kCons cs b ρ r st = (evs cs b ρ st).bind (kCons2 r) := rfl
theorem x_cons2 {r : RV} {rs : List RV} : kCons2 r rs st = .ok (r :: rs) st := rfl
variable {s t : S}
theorem t_skip : ex cs n .skip ρ st = .ok (.nx ρ) st := rfl
theorem t_seq : ex cs n (.seq s t) ρ st = (ex cs n s ρ st).bind (after cs n t) := by
  rw [ex]
  congr 1
theorem af_nx : after cs n t (.nx ρ) st = ex cs n t ρ st := rfl
theorem af_rt {r : RV} : after cs n t (.rt r) st = .ok (.rt r) st := rfl
theorem af_bk : after cs n t (.bk ρ) st = .ok (.bk ρ) st := rfl
theorem af_ct : after cs n t (.ct ρ) st = .ok (.ct ρ) st := rfl
theorem af_m1 {k : Bool} {ρ' : Env} {r : RV} : after cs n t (mg k (.rt r) (.nx ρ')) st = mg k (.ok (.rt r) st) (ex cs n t ρ' st) := by cases k <;> rfl
theorem af_m2 {k : Bool} {ρ' : Env} {r : RV} : after cs n t (mg k (.nx ρ') (.rt r)) st = mg k (ex cs n t ρ' st) (.ok (.rt r) st) := by cases k <;> rfl
theorem af_m1' {k : Bool} {ρ' : Env} {r : RV} {s1 s2 : Store} : after cs n t (mg k (.rt r) (.nx ρ')) (mg k s1 s2) = mg k (.ok (.rt r) s1) (ex cs n t ρ' s2) := by cases k <;> rfl
theorem af_m2' {k : Bool} {ρ' : Env} {r : RV} {s1 s2 : Store} : after cs n t (mg k (.nx ρ') (.rt r)) (mg k s1 s2) = mg k (ex cs n t ρ' s1) (.ok (.rt r) s2) := by cases k <;> rfl
theorem t_asg {g : G} : ex cs n (.asg g e) ρ st = (ev cs e ρ st).bind (kAsg cs g ρ) := by
  rw [ex]
  congr 1
theorem x_asg {g : G} {r : RV} : kAsg cs g ρ r st = (setG cs g (settle r st).1 ρ (settle r st).2).bind kNx := rfl
theorem x_nx : kNx ρ st = .ok (.nx ρ) st := rfl
theorem t_ex : ex cs n (.ex e) ρ st = (ev cs e ρ st).bind (kEx ρ) := by rw [ex]; rfl
theorem x_ex {r : RV} : kEx ρ r st = .ok (.nx ρ) st := rfl
theorem t_ret : ex cs n (.ret e) ρ st = (ev cs e ρ st).bind kRet := by rw [ex]; rfl
theorem x_ret {r : RV} : kRet r st = .ok (.rt r) st := rfl
theorem t_retN : ex cs n .retN ρ st = .ok (.rt (.v .non)) st := rfl
theorem t_ite : ex cs n (.ite c s t) ρ st = (ev cs c ρ st).bind (kIf cs n s t ρ) := by
  rw [ex]
  congr 1; funext r st1
  simp only [truthR, kIf]
  cases truthV st1 r with
  | none => rfl
  | some k => cases k <;> rfl
theorem x_if {r : RV} : kIf cs n s t ρ r st = wIf cs n s t ρ st (truthV st r) := rfl
theorem x_if2 {k : Bool} : wIf cs n s t ρ st (some k) = mg k (ex cs n s ρ st) (ex cs n t ρ st) := rfl
theorem u_tg {t : T} {v : Val} : setG cs (.tg t) v ρ st = lift (bindT t v ρ) st := by rw [setG]
theorem d_run {d : Def} {args : List Val} : run d cs args st = if args.length = d.pars then (ex cs FUEL d.body (args.map some ++ List.replicate (d.slots - args.length) none) st).bind outR else .bad := by
  unfold run
  by_cases h : args.length = d.pars
  · simp only [h, if_true]
    cases ex cs FUEL d.body (args.map some ++ List.replicate (d.slots - d.pars) none) st with
    | ok o st1 => cases o <;> rfl
    | exc _ _ _ => rfl
    | bad => rfl
  · simp [h]
theorem ou_rt {r : RV} : outR (.rt r) st = .ok r st := rfl
theorem ou_nx : outR (.nx ρ) st = .ok (.v .non) st := rfl
theorem c_imp {f : Fn} {rs : List RV} : runCall false f rs st = f (settles rs st).1 (settles rs st).2 := rfl
theorem c_pure {f : Fn} {rs : List RV} {r : RV} {st1 : Store} (h : f (settles rs []).1 (settles rs []).2 = .ok r st1) : runCall true f rs st = if rs.all nrR = true then backR st r st1 else .bad := by
  show pureCall f rs st = _
  unfold pureCall
  rw [h]
  cases r <;> rfl
theorem k_v {x : Val} {st1 : Store} : backR st (.v x) st1 = pureVal st st1 x := rfl
theorem k_l {xs : List Val} {st1 : Store} : backR st (.l xs) st1 = if Val.nrs xs = true then .ok (.l xs) st else .bad := rfl
theorem k_m {k : Bool} {x : Val} {xs : List Val} {st1 : Store} : backR st (mg k (.v x) (.l xs)) st1 = mg k (backR st (.v x) st1) (backR st (.l xs) st1) := by cases k <;> rfl
theorem k_m2 {k : Bool} {x : Val} {xs : List Val} {st1 : Store} : backR st (mg k (.l xs) (.v x)) st1 = mg k (backR st (.l xs) st1) (backR st (.v x) st1) := by cases k <;> rfl
end
/-! ### operations -/
def appO (a b : Option (List (List Nat))) : Option (List (List Nat)) := match a, b with
  | some u, some v => some (u ++ v)
  | _, _ => none
def wAdd (st : Store) (a b : Option (List Val)) : Res RV := match a, b with
  | some x, some y => if x.length + y.length ≤ top then .ok (.l (x ++ y)) st else .bad
  | _, _ => .bad
def wIn (x : Val) (st : Store) (o : Option (Bool × List Val)) : Res RV := match o with
  | some p => lift ((anyEq st x p.2).map fun k => .v (.bl k)) st
  | none => .bad
def wNotIn (x : Val) (st : Store) (o : Option (Bool × List Val)) : Res RV := match o with
  | some p => lift ((anyEq st x p.2).map fun k => .v (.bl (!k))) st
  | none => .bad
def wApp (b : RV) (st : Store) (o : Option (Nat × List Val)) : Res RV := match o with
  | some p => if p.2.length < top then .ok (.v .non) ((settle b st).2.set p.1 (.lst (p.2 ++ [(settle b st).1]))) else .bad
  | none => .bad
def wExt (st : Store) (o : Option (Nat × List Val)) (b : Option (List Val)) : Res RV := match o, b with
  | some p, some ys => if p.2.length + ys.length ≤ top then .ok (.v .non) (st.set p.1 (.lst (p.2 ++ ys))) else .bad
  | _, _ => .bad
def wS2 (st : Store) (o : Option (List (List Nat))) : Res RV := match o with
  | some zs => .ok (.l ((isort leN zs).map .str)) st
  | none => .bad
def wSort (st : Store) (o : Option (Bool × List Val)) : Res RV := match o with
  | some (true, xs) => if xs.length < 64 then wS2 st (allStrs xs) else .bad
  | _ => .bad
def wTup (st : Store) (o : Option (Bool × List Val)) : Res RV := match o with
  | some p => .ok (.v (.tup p.2)) st
  | none => .bad
section
variable {st : Store} {a b : RV} {i j : Int} {x y : List Nat} {xs ys : List Val} {u v : Val}
theorem ap_ss {u v : List (List Nat)} : appO (some u) (some v) = some (u ++ v) := rfl
theorem as_ap : ∀ {xs ys : List Val}, allStrs (xs ++ ys) = appO (allStrs xs) (allStrs ys)
  | [], ys => by cases h : allStrs ys <;> simp [allStrs, appO, h]
  | x :: xs, ys => by
    cases x <;> simp only [List.cons_append, allStrs] <;> first | rfl | skip
    rw [as_ap]
    cases allStrs xs <;> cases allStrs ys <;> rfl
theorem v_eq : f2 .eq a b st = lift ((eqR st a b).map fun k => .v (.bl k)) st := by
  simp only [f2, ov]; cases eqR st a b <;> rfl
theorem v_ne : f2 .ne a b st = lift ((eqR st a b).map fun k => .v (.bl (!k))) st := by
  simp only [f2, ov]; cases eqR st a b <;> rfl
theorem v_lt : f2 .lt (.v (.int i)) (.v (.int j)) st = .ok (.v (.bl (decide (i < j)))) st := rfl
theorem v_le : f2 .le (.v (.int i)) (.v (.int j)) st = .ok (.v (.bl (decide (i ≤ j)))) st := rfl
theorem v_gt : f2 .gt (.v (.int i)) (.v (.int j)) st = .ok (.v (.bl (decide (j < i)))) st := rfl
theorem v_ge : f2 .ge (.v (.int i)) (.v (.int j)) st = .ok (.v (.bl (decide (j ≤ i)))) st := rfl
theorem v_addI : f2 .add (.v (.int i)) (.v (.int j)) st = .ok (.v (.int (i + j))) st := rfl
theorem v_addS : f2 .add (.v (.str x)) (.v (.str y)) st = if x.length + y.length ≤ top then .ok (.v (.str (x ++ y))) st else .bad := rfl
theorem v_addT : f2 .add (.v (.tup xs)) (.v (.tup ys)) st = if xs.length + ys.length ≤ top then .ok (.v (.tup (xs ++ ys))) st else .bad := rfl
theorem v_addl : f2 .add (.l xs) b st = wAdd st (some xs) (ownL st b) := by
  simp only [f2]
  show (match some xs, ownL st b with | some x, some y => _ | _, _ => _) = _
  cases ownL st b <;> rfl
theorem v_addr {n : Nat} : f2 .add (.v (.ref n)) b st = wAdd st (ownL st (.v (.ref n))) (ownL st b) := by
  simp only [f2]
  cases ownL st (.v (.ref n)) <;> cases ownL st b <;> rfl
theorem v_addm {k : Bool} {n : Nat} : f2 .add (mg k (.v (.ref n)) (.l xs)) b st = mg k (f2 .add (.v (.ref n)) b st) (f2 .add (.l xs) b st) := by cases k <;> rfl
theorem v_sub : f2 .sub (.v (.int i)) (.v (.int j)) st = .ok (.v (.int (i - j))) st := rfl
theorem v_in : f2 .isin (.v u) b st = wIn u st (seqR st b) := by
  simp only [f2, wIn]
  cases seqR st b with
  | none => rfl
  | some p => simp only [ov]; cases anyEq st u p.2 <;> rfl
theorem v_notin : f2 .notin (.v u) b st = wNotIn u st (seqR st b) := by
  simp only [f2, wNotIn]
  cases seqR st b with
  | none => rfl
  | some p => simp only [ov]; cases anyEq st u p.2 <;> rfl
theorem v_ixT : f2 .ix (.v (.tup xs)) (.v (.int i)) st = lift ((at' xs i).map .v) st := rfl
theorem v_app : f2 .append a b st = wApp b st (mutAt st a) := by
  simp only [f2, wApp]; cases mutAt st a <;> rfl
theorem v_ext : f2 .extend a b st = wExt st (mutAt st a) (ownL st b) := by
  simp only [f2, wExt]; cases mutAt st a <;> cases ownL st b <;> rfl
theorem v_sort (h : ∀ p, seqR st a = some p → (allStrs p.2).isSome) : f1 .sorted a st = wSort st (seqR st a) := by
  simp only [f1, wSort]
  cases hs : seqR st a with
  | none => rfl
  | some p =>
    obtain ⟨k, xs⟩ := p
    cases k with
    | false => rfl
    | true =>
      have := h _ hs
      simp only
      split
      · cases h2 : allStrs xs with
        | none => rw [h2] at this; cases this
        | some zs => rfl
      · rfl
theorem v_tup : f1 .tuple a st = wTup st (seqR st a) := by
  simp only [f1, wTup]; cases seqR st a <;> rfl
theorem v_slT {lo hi : Option Int} : fsl (.v (.tup xs)) lo hi st = .ok (.v (.tup (cut xs lo hi))) st := rfl
theorem c_pur {f : Fn} {rs : List RV} : runCall true f rs st = if rs.all nrR = true then pureRes st (f (settles rs []).1 (settles rs []).2) else .bad := rfl
theorem pr_ok {r : RV} {st1 : Store} : pureRes st (.ok r st1) = backR st r st1 := by cases r <;> rfl
/-- a sort of texts, where it is one -/
def wSrt (st : Store) (xs : List Val) (o : Option (List (List Nat))) : Res RV := match o with
  | some zs => .ok (.l ((isort leN zs).map .str)) st
  | none => match allInts xs with
    | some zs => .ok (.l ((isort (fun i j => decide (i ≤ j)) zs).map .int)) st
    | none => .bad
def wSor (st : Store) (o : Option (Bool × List Val)) : Res RV := match o with
  | some (true, xs) => if xs.length < 64 then wSrt st xs (allStrs xs) else .bad
  | _ => .bad
theorem v_sor : f1 .sorted a st = wSor st (seqR st a) := by
  simp only [f1, wSor]
  cases seqR st a with
  | none => rfl
  | some p =>
    obtain ⟨k, xs⟩ := p
    cases k with
    | false => rfl
    | true => rfl
theorem w_sor {xs : List Val} : wSor st (some (true, xs)) = if xs.length < 64 then wSrt st xs (allStrs xs) else .bad := rfl
theorem w_srt {xs : List Val} {zs : List (List Nat)} : wSrt st xs (some zs) = .ok (.l ((isort leN zs).map .str)) st := rfl
theorem q_e0 {f : Val → Val → Option Bool} {xs : List Val} : eqAll f xs [] = some xs.isEmpty := by cases xs <;> rfl
theorem q_0e {f : Val → Val → Option Bool} {xs : List Val} : eqAll f [] xs = some xs.isEmpty := by cases xs <;> rfl
theorem emp_map {α : Type} {h : α → Val} {xs : List α} : (xs.map h).isEmpty = xs.isEmpty := by cases xs <;> rfl
end
end Mi
end
section
set_option linter.all false
set_option autoImplicit false
/-! MiRepr: repr of values without references. -/
namespace Mi
open PySem
mutual
/-- the datum of a value without references -/
def dOf : Val → PyData
  | .non => .none
  | .bl b => .bool b
  | .int i => .int i
  | .str x => .str (toStr x)
  | .tup xs => .tuple (dOfs xs)
  | .ref _ => .none
def dOfs : List Val → List PyData
  | [] => []
  | x :: xs => dOf x :: dOfs xs
end
mutual
/-- it can be shown, by so many levels -/
def vOk : Nat → Val → Bool
  | 0, _ => false
  | n + 1, v => match v with
    | .int i => decide (i.natAbs.log2 < 1920)
    | .str x => x.all fun c => decide (c < 4294967296)
    | .tup xs => vOks n xs
    | .ref _ => false
    | _ => true
def vOks : Nat → List Val → Bool
  | _, [] => true
  | n, x :: xs => vOk n x && vOks n xs
end
mutual
theorem dat_of {st : Store} : ∀ (n : Nat) (v : Val), vOk n v = true → datF n st v = some (dOf v)
  | 0, v, h => by simp [vOk] at h
  | n + 1, .non, _ => rfl
  | n + 1, .bl _, _ => rfl
  | n + 1, .int i, h => by
    simp only [vOk, decide_eq_true_eq] at h
    simp [datF, seqV, h, dOf]
  | n + 1, .str x, h => by
    simp only [vOk] at h
    simp [datF, seqV, h, dOf]
  | n + 1, .tup xs, h => by
    simp only [vOk] at h
    simp [datF, seqV, dats_of2 n xs h, dOf]
  | n + 1, .ref _, h => by simp [vOk] at h
theorem dats_of2 {st : Store} : ∀ (n : Nat) (xs : List Val), vOks n xs = true → xs.mapM (datF n st) = some (dOfs xs)
  | _, [], _ => by simp [dOfs]
  | n, x :: xs, h => by
    simp only [vOks, Bool.and_eq_true] at h
    rw [List.mapM_cons, dat_of n x h.1, dats_of2 n xs h.2]
    simp [dOfs]
end
/-- the text of a value, of a new list -/
def txt (v : Val) : List Nat := (dOf v).shown.cps.toList
def txtL (xs : List Val) : List Nat := (PyData.list (dOfs xs)).shown.cps.toList
theorem v_reprV {st : Store} {v : Val} (h : vOk 60 v = true) (hz : dsz (dOf v) ≤ top) : f1 .repr (.v v) st = .ok (.v (.str (txt v))) st := by
  simp only [f1, datR, dat_of 60 v h, hz, if_true]; rfl
theorem v_reprL {st : Store} {xs : List Val} (h : vOks 59 xs = true) (hz : dszs (dOfs xs) + 2 ≤ top) : f1 .repr (.l xs) st = .ok (.v (.str (txtL xs))) st := by
  have e : dsz (PyData.list (dOfs xs)) ≤ top := by rw [dsz]; exact hz
  simp only [f1, datR, dats_of2 59 xs h, Option.map_some, e, if_true]; rfl
theorem v_reprR {st : Store} {n : Nat} {xs : List Val} (e : lstAt st n = some xs) (h : vOks 59 xs = true) (hz : dszs (dOfs xs) + 2 ≤ top) : f1 .repr (.v (.ref n)) st = .ok (.v (.str (txtL xs))) st := by
  have e1 : dsz (PyData.list (dOfs xs)) ≤ top := by rw [dsz]; exact hz
  have e2 : datR st (.v (.ref n)) = some (.list (dOfs xs)) := by
    show datF (59 + 1) st (.ref n) = _
    have e3 : seqV st (.ref n) = some (true, xs) := by simp [seqV, e]
    unfold datF
    split
    · rename_i ys q
      rw [e3] at q
      cases q
      rw [dats_of2 59 xs h]; rfl
    · rename_i ys q
      rw [e3] at q
      cases q
    · rename_i q
      rw [e3] at q
      cases q
  simp only [f1, e2, e1, if_true]; rfl
theorem len_toStr (x : List Nat) : (toStr x).length = x.length := by simp [toStr, Str.length]
end Mi
end
section
set_option Elab.async false
set_option linter.all false
set_option autoImplicit false
set_option maxRecDepth 100000
/-! doubtbooks_k27_whole_what_a_manner_lacks, by Mini (printed by gen.py). -/
namespace Law
open PySem PySem.Spec L2 Mi
def topS (i : Nat) : Stmt := PySem.Challenge.pw_doubtbooks_k27_whole_what_a_manner_lacks.main.body.getD i (.Pass ⟨0, 0, 0, 0⟩)
/-! ### _law_near -/
abbrev s_law_near_q : Stmt := topS 14
def m_law_near_q : Mi.S := (.seq (.asg (.tg (.tp (.cons (.sl 2) (.cons (.sl 3) .nil)))) (.tup (.cons (.lst .nil) (.cons (.lst (.cons (.k (.str [110, 111, 110, 101])) (.cons (.k (.str [108, 97, 122, 121])) (.cons (.k (.str [102, 111, 114, 99, 101, 100])) .nil)))) .nil)))) (.seq (.fo (.sl 4) .range1 (.k (.int 3)) .nil (.seq (.ex (.op2 .extend (.x 2) (.comp [8] (.sl 8) .seq (.x 3) .nil (.op2 .ne (.x 8) (.op2 .ix (.x 0) (.x 4))) (.tup (.cons (.op2 .add (.op2 .add (.sl (.x 0) .nil (.x 4)) (.tup (.cons (.x 8) .nil))) (.sl (.x 0) (.op2 .add (.x 4) (.k (.int 1))) .nil)) (.cons (.x 1) .nil)))))) (.seq (.asg (.tg (.sl 5)) (.comp [8] (.sl 8) .seq (.x 3) .nil (.op2 .ne (.x 8) (.op2 .ix (.x 1) (.x 4))) (.x 8))) (.seq (.ex (.op2 .extend (.x 2) (.comp [8] (.sl 8) .seq (.x 5) .nil .nil (.tup (.cons (.x 0) (.cons (.op2 .add (.op2 .add (.sl (.x 1) .nil (.x 4)) (.tup (.cons (.x 8) .nil))) (.sl (.x 1) (.op2 .add (.x 4) (.k (.int 1))) .nil)) .nil)))))) .skip)))) (.seq (.fo (.sl 6) .seq (.tup (.cons (.tup .nil) (.cons (.tup (.cons (.k (.str [97, 98, 111, 114, 116])) .nil)) (.cons (.tup (.cons (.k (.str [99, 111, 109, 109, 105, 116])) .nil)) (.cons (.tup (.cons (.k (.str [97, 98, 111, 114, 116])) (.cons (.k (.str [99, 111, 109, 109, 105, 116])) .nil))) .nil))))) .nil (.seq (.ite (.op2 .ne (.x 6) (.op2 .ix (.x 1) (.k (.int 3)))) (.seq (.ex (.op2 .append (.x 2) (.tup (.cons (.x 0) (.cons (.op2 .add (.op2 .add (.sl (.x 1) .nil (.k (.int 3))) (.tup (.cons (.x 6) .nil))) (.sl (.x 1) (.k (.int 4)) .nil)) .nil))))) .skip) .skip) .skip)) (.seq (.asg (.tg (.sl 7)) (.ite (.op2 .eq (.op2 .ix (.x 1) (.k (.int 4))) (.k (.str [99, 111, 109, 109, 105, 116]))) (.k (.str [97, 98, 111, 114, 116])) (.k (.str [99, 111, 109, 109, 105, 116])))) (.seq (.ret (.op2 .add (.x 2) (.lst (.cons (.tup (.cons (.x 0) (.cons (.op2 .add (.sl (.x 1) .nil (.k (.int 4))) (.tup (.cons (.x 7) (.cons (.op2 .ix (.x 1) (.k (.int 5))) .nil)))) .nil))) (.cons (.tup (.cons (.x 0) (.cons (.op2 .add (.sl (.x 1) .nil (.k (.int 5))) (.tup (.cons (.not (.op2 .ix (.x 1) (.k (.int 5)))) .nil))) .nil))) .nil))))) .skip)))))
def d_law_near_q : Mi.Def := ⟨9, 2, m_law_near_q⟩
def fd_law_near_q : Mi.Fd := ⟨"_law_near", ["head", "manner"], []⟩
def c_law_near_q : Mi.Ctx := ⟨["head", "manner", "found", "strengths", "spot", "rest", "thanks", "other", "word"], defScope s_law_near_q, none, ["range"], [], [], 0⟩
def f_law_near_q : Mi.Fn := Mi.run d_law_near_q []
theorem sc_law_near_q : FnScope c_law_near_q.N fd_law_near_q.ps (defScope s_law_near_q) := ⟨rfl, rfl, rfl, by decide +kernel, rfl, by decide +kernel, by decide +kernel⟩
theorem ok_law_near_q : chkSs m_law_near_q c_law_near_q (defBody s_law_near_q) = true := by decide +kernel
/-! ### lacks_for_abort -/
abbrev s_lacks_for_abort : Stmt := topS 2
def m_lacks_for_abort : Mi.S := (.seq (.asg (.tg (.sl 1)) (.ite (.op2 .eq (.op2 .ix (.x 0) (.k (.int 1))) (.g [70, 79, 82, 67, 69, 68] (.str [102, 111, 114, 99, 101, 100]))) (.lst .nil) (.lst (.cons (.k (.str [99, 111, 109, 109, 105, 116, 116, 101, 100])) .nil)))) (.seq (.ret (.ite (.op2 .isin (.k (.str [99, 111, 109, 109, 105, 116])) (.op2 .ix (.x 0) (.k (.int 3)))) (.x 1) (.op2 .add (.x 1) (.lst (.cons (.k (.str [116, 104, 97, 110, 107, 115, 32, 99, 111, 109, 109, 105, 116])) .nil))))) .skip))
def d_lacks_for_abort : Mi.Def := ⟨2, 1, m_lacks_for_abort⟩
def fd_lacks_for_abort : Mi.Fd := ⟨"lacks_for_abort", ["manner"], []⟩
def c_lacks_for_abort : Mi.Ctx := ⟨["manner", "found"], defScope s_lacks_for_abort, none, [], [([70, 79, 82, 67, 69, 68], (.str [102, 111, 114, 99, 101, 100]))], [], 0⟩
def f_lacks_for_abort : Mi.Fn := Mi.run d_lacks_for_abort []
theorem sc_lacks_for_abort : FnScope c_lacks_for_abort.N fd_lacks_for_abort.ps (defScope s_lacks_for_abort) := ⟨rfl, rfl, rfl, by decide +kernel, rfl, by decide +kernel, by decide +kernel⟩
theorem ok_lacks_for_abort : chkSs m_lacks_for_abort c_lacks_for_abort (defBody s_lacks_for_abort) = true := by decide +kernel
/-! ### lacks_for_commit -/
abbrev s_lacks_for_commit : Stmt := topS 3
def m_lacks_for_commit : Mi.S := (.seq (.asg (.tg (.sl 2)) (.ite (.op2 .eq (.op2 .ix (.x 0) (.k (.int 0))) (.g [70, 79, 82, 67, 69, 68] (.str [102, 111, 114, 99, 101, 100]))) (.lst .nil) (.lst (.cons (.k (.str [98, 101, 103, 117, 110])) .nil)))) (.seq (.ite (.and (.op2 .ne (.op2 .ix (.x 1) (.k (.int 2))) (.g [70, 79, 82, 67, 69, 68] (.str [102, 111, 114, 99, 101, 100]))) (.op2 .ne (.op2 .ix (.x 1) (.k (.int 0))) (.k (.str [110, 111, 110, 101])))) (.seq (.ex (.op2 .append (.x 2) (.k (.str [97, 98, 111, 114, 116, 101, 100])))) .skip) .skip) (.seq (.ret (.ite (.op2 .isin (.k (.str [97, 98, 111, 114, 116])) (.op2 .ix (.x 1) (.k (.int 3)))) (.x 2) (.op2 .add (.x 2) (.lst (.cons (.k (.str [116, 104, 97, 110, 107, 115, 32, 97, 98, 111, 114, 116])) .nil))))) .skip)))
def d_lacks_for_commit : Mi.Def := ⟨3, 2, m_lacks_for_commit⟩
def fd_lacks_for_commit : Mi.Fd := ⟨"lacks_for_commit", ["head", "manner"], []⟩
def c_lacks_for_commit : Mi.Ctx := ⟨["head", "manner", "found"], defScope s_lacks_for_commit, none, [], [([70, 79, 82, 67, 69, 68], (.str [102, 111, 114, 99, 101, 100]))], [], 0⟩
def f_lacks_for_commit : Mi.Fn := Mi.run d_lacks_for_commit []
theorem sc_lacks_for_commit : FnScope c_lacks_for_commit.N fd_lacks_for_commit.ps (defScope s_lacks_for_commit) := ⟨rfl, rfl, rfl, by decide +kernel, rfl, by decide +kernel, by decide +kernel⟩
theorem ok_lacks_for_commit : chkSs m_lacks_for_commit c_lacks_for_commit (defBody s_lacks_for_commit) = true := by decide +kernel
/-! ### lacks -/
abbrev s_lacks : Stmt := topS 4
def m_lacks : Mi.S := (.seq (.asg (.tg (.sl 2)) (.ite (.op2 .eq (.op2 .ix (.x 0) (.k (.int 1))) (.g [70, 79, 82, 67, 69, 68] (.str [102, 111, 114, 99, 101, 100]))) (.lst .nil) (.lst (.cons (.k (.str [104, 101, 97, 100, 32, 99, 111, 109, 109, 105, 116, 116, 101, 100])) .nil)))) (.seq (.asg (.tg (.tp (.cons (.sl 3) (.cons (.sl 4) .nil)))) (.tup (.cons (.op2 .eq (.op2 .ix (.x 1) (.k (.int 0))) (.g [70, 79, 82, 67, 69, 68] (.str [102, 111, 114, 99, 101, 100]))) (.cons (.op2 .ix (.x 1) (.k (.int 5))) .nil)))) (.seq (.ite (.and (.not (.x 3)) (.not (.x 4))) (.seq (.ex (.op2 .append (.x 2) (.k (.str [112, 114, 101, 112, 97, 114, 101, 100])))) .skip) .skip) (.seq (.ite (.op2 .eq (.op2 .ix (.x 1) (.k (.int 4))) (.k (.str [99, 111, 109, 109, 105, 116]))) (.seq (.ex (.op2 .extend (.x 2) (.call true 1 [] (.cons (.x 0) (.cons (.x 1) .nil))))) .skip) .skip) (.seq (.ite (.or (.op2 .eq (.op2 .ix (.x 1) (.k (.int 4))) (.k (.str [97, 98, 111, 114, 116]))) (.and (.x 4) (.not (.x 3)))) (.seq (.ex (.op2 .extend (.x 2) (.call true 0 [] (.cons (.x 1) .nil)))) .skip) .skip) (.seq (.ret (.op1 .tuple (.op1 .sorted (.x 2)))) .skip))))))
def d_lacks : Mi.Def := ⟨5, 2, m_lacks⟩
def fd_lacks : Mi.Fd := ⟨"lacks", ["head", "manner"], [(0, ["manner", "head"], [1, 0])]⟩
def c_lacks : Mi.Ctx := ⟨["head", "manner", "found", "is_sure", "is_sent"], defScope s_lacks, none, ["tuple", "sorted"], [([70, 79, 82, 67, 69, 68], (.str [102, 111, 114, 99, 101, 100]))], [fd_lacks_for_abort, fd_lacks_for_commit], 1⟩
def f_lacks : Mi.Fn := Mi.run d_lacks [f_lacks_for_abort, f_lacks_for_commit]
theorem sc_lacks : FnScope c_lacks.N fd_lacks.ps (defScope s_lacks) := ⟨rfl, rfl, rfl, by decide +kernel, rfl, by decide +kernel, by decide +kernel⟩
theorem ok_lacks : chkSs m_lacks c_lacks (defBody s_lacks) = true := by decide +kernel
/-! ### fits -/
abbrev s_fits : Stmt := topS 5
def m_fits : Mi.S := (.seq (.ret (.op2 .eq (.call true 0 [] (.cons (.x 0) (.cons (.x 1) .nil))) (.tup .nil))) .skip)
def d_fits : Mi.Def := ⟨2, 2, m_fits⟩
def fd_fits : Mi.Fd := ⟨"fits", ["head", "manner"], [(0, ["manner", "head"], [1, 0])]⟩
def c_fits : Mi.Ctx := ⟨["head", "manner"], defScope s_fits, none, [], [], [fd_lacks], 2⟩
def f_fits : Mi.Fn := Mi.run d_fits [f_lacks]
theorem sc_fits : FnScope c_fits.N fd_fits.ps (defScope s_fits) := ⟨rfl, rfl, rfl, by decide +kernel, rfl, by decide +kernel, by decide +kernel⟩
theorem ok_fits : chkSs m_fits c_fits (defBody s_fits) = true := by decide +kernel
/-! ### _law_lacks -/
abbrev s_law_lacks_q : Stmt := topS 13
def m_law_lacks_q : Mi.S := (.seq (.asg (.tg (.tp (.cons (.sl 2) (.cons (.sl 3) (.cons (.sl 4) (.cons (.sl 5) (.cons (.sl 6) (.cons (.sl 7) .nil)))))))) (.x 1)) (.seq (.asg (.tg (.sl 8)) (.lst .nil)) (.seq (.ite (.op2 .ne (.op2 .ix (.x 0) (.k (.int 1))) (.k (.str [102, 111, 114, 99, 101, 100]))) (.seq (.ex (.op2 .append (.x 8) (.k (.str [104, 101, 97, 100, 32, 99, 111, 109, 109, 105, 116, 116, 101, 100])))) .skip) .skip) (.seq (.ite (.and (.op2 .ne (.x 2) (.k (.str [102, 111, 114, 99, 101, 100]))) (.not (.x 7))) (.seq (.ex (.op2 .append (.x 8) (.k (.str [112, 114, 101, 112, 97, 114, 101, 100])))) .skip) .skip) (.seq (.ite (.and (.op2 .eq (.x 6) (.k (.str [99, 111, 109, 109, 105, 116]))) (.op2 .ne (.op2 .ix (.x 0) (.k (.int 0))) (.k (.str [102, 111, 114, 99, 101, 100])))) (.seq (.ex (.op2 .append (.x 8) (.k (.str [98, 101, 103, 117, 110])))) .skip) .skip) (.seq (.ite (.and (.op2 .eq (.x 6) (.k (.str [99, 111, 109, 109, 105, 116]))) (.op2 .notin (.k (.str [97, 98, 111, 114, 116])) (.x 5))) (.seq (.ex (.op2 .append (.x 8) (.k (.str [116, 104, 97, 110, 107, 115, 32, 97, 98, 111, 114, 116])))) .skip) .skip) (.seq (.ite (.and (.op2 .eq (.x 6) (.k (.str [99, 111, 109, 109, 105, 116]))) (.and (.op2 .ne (.x 4) (.k (.str [102, 111, 114, 99, 101, 100]))) (.op2 .ne (.x 2) (.k (.str [110, 111, 110, 101]))))) (.seq (.ex (.op2 .append (.x 8) (.k (.str [97, 98, 111, 114, 116, 101, 100])))) .skip) .skip) (.seq (.ite (.or (.op2 .eq (.x 6) (.k (.str [97, 98, 111, 114, 116]))) (.and (.x 7) (.op2 .ne (.x 2) (.k (.str [102, 111, 114, 99, 101, 100]))))) (.seq (.ite (.op2 .ne (.x 3) (.k (.str [102, 111, 114, 99, 101, 100]))) (.seq (.ex (.op2 .append (.x 8) (.k (.str [99, 111, 109, 109, 105, 116, 116, 101, 100])))) .skip) .skip) (.seq (.ite (.op2 .notin (.k (.str [99, 111, 109, 109, 105, 116])) (.x 5)) (.seq (.ex (.op2 .append (.x 8) (.k (.str [116, 104, 97, 110, 107, 115, 32, 99, 111, 109, 109, 105, 116])))) .skip) .skip) .skip)) .skip) (.seq (.ret (.op1 .tuple (.op1 .sorted (.x 8)))) .skip)))))))))
def d_law_lacks_q : Mi.Def := ⟨9, 2, m_law_lacks_q⟩
def fd_law_lacks_q : Mi.Fd := ⟨"_law_lacks", ["head", "manner"], []⟩
def c_law_lacks_q : Mi.Ctx := ⟨["head", "manner", "prepared", "committed", "aborted", "thanks", "presumed", "sent", "found"], defScope s_law_lacks_q, none, ["tuple", "sorted"], [], [], 0⟩
def f_law_lacks_q : Mi.Fn := Mi.run d_law_lacks_q []
theorem sc_law_lacks_q : FnScope c_law_lacks_q.N fd_law_lacks_q.ps (defScope s_law_lacks_q) := ⟨rfl, rfl, rfl, by decide +kernel, rfl, by decide +kernel, by decide +kernel⟩
theorem ok_law_lacks_q : chkSs m_law_lacks_q c_law_lacks_q (defBody s_law_lacks_q) = true := by decide +kernel
/-! ### _law_is_right -/
abbrev s_law_is_right_q : Stmt := topS 15
def m_law_is_right_q : Mi.S := (.seq (.asg (.tg (.tp (.cons (.sl 3) (.cons (.sl 4) .nil)))) (.tup (.cons (.op1 .repr (.lst (.cons (.x 0) (.cons (.x 1) .nil)))) (.cons (.call true 2 [] (.cons (.x 0) (.cons (.x 1) .nil))) .nil)))) (.seq (.asg (.tg (.sl 5)) (.lst (.cons (.call true 0 [] (.cons (.x 0) (.cons (.x 1) .nil))) (.cons (.call true 1 [] (.cons (.x 0) (.cons (.x 1) .nil))) .nil)))) (.seq (.ite (.x 2) (.seq (.asg (.tg (.sl 5)) (.lst (.cons (.call true 0 [1, 0] (.cons (.x 1) (.cons (.x 0) .nil))) (.cons (.call true 1 [1, 0] (.cons (.x 1) (.cons (.x 0) .nil))) .nil)))) .skip) .skip) (.seq (.ret (.and (.op2 .eq (.op1 .repr (.x 5)) (.op1 .repr (.lst (.cons (.x 4) (.cons (.op2 .eq (.x 4) (.tup .nil)) .nil))))) (.op2 .eq (.op1 .repr (.lst (.cons (.x 0) (.cons (.x 1) .nil)))) (.x 3)))) .skip))))
def d_law_is_right_q : Mi.Def := ⟨6, 3, m_law_is_right_q⟩
def fd_law_is_right_q : Mi.Fd := ⟨"_law_is_right", ["head", "manner", "is_named"], []⟩
def c_law_is_right_q : Mi.Ctx := ⟨["head", "manner", "is_named", "known", "due", "asked"], defScope s_law_is_right_q, none, ["repr"], [], [fd_lacks, fd_fits, fd_law_lacks_q], 3⟩
def f_law_is_right_q : Mi.Fn := Mi.run d_law_is_right_q [f_lacks, f_fits, f_law_lacks_q]
theorem sc_law_is_right_q : FnScope c_law_is_right_q.N fd_law_is_right_q.ps (defScope s_law_is_right_q) := ⟨rfl, rfl, rfl, by decide +kernel, rfl, by decide +kernel, by decide +kernel⟩
theorem ok_law_is_right_q : chkSs m_law_is_right_q c_law_is_right_q (defBody s_law_is_right_q) = true := by decide +kernel
/-! ### _law_draw -/
abbrev s_law_draw_q : Stmt := topS 8
def m_law_draw_q : Mi.S := (.seq (.ite (.op2 .lt (.x 1) (.k (.int 2))) (.seq (.ret (.k (.int 0))) .skip) .skip) (.seq (.ite (.op2 .ne (.op2 .ix (.x 0) (.k (.str [100, 101, 101, 112]))) (.lst .nil)) (.seq (.asg (.tg (.sl 2)) (.op1 .pop (.op2 .ix (.x 0) (.k (.str [100, 101, 101, 112]))))) (.seq (.ite (.op2 .ge (.x 2) (.x 1)) (.seq (.ex (.op2 .append (.op2 .ix (.x 0) (.k (.str [100, 101, 101, 112]))) (.op2 .fdiv (.x 2) (.x 1)))) .skip) .skip) (.seq (.ret (.op2 .mod (.op1 .int (.x 2)) (.x 1))) .skip))) .skip) (.seq (.asg (.tg (.sl 3)) (.op2 .mod (.op1 .int (.op2 .add (.op2 .mul (.op2 .ix (.x 0) (.k (.str [115, 116, 97, 116, 101]))) (.k (.int 1181783497276652981))) (.k (.int 88172645463325)))) (.k (.int 2305843009213693951)))) (.seq (.asg (.sub (.x 0) (.k (.str [115, 116, 97, 116, 101]))) (.x 3)) (.seq (.asg (.tg (.sl 4)) (.op2 .mod (.op1 .int (.op2 .add (.op2 .add (.op2 .mul (.x 3) (.x 3)) (.op2 .mul (.k (.int 374761393)) (.x 3))) (.k (.int 11)))) (.k (.int 2305843009213693921)))) (.seq (.ret (.op2 .mod (.op1 .int (.op2 .fdiv (.x 4) (.k (.int 1048576)))) (.x 1))) .skip))))))
def d_law_draw_q : Mi.Def := ⟨5, 2, m_law_draw_q⟩
def fd_law_draw_q : Mi.Fd := ⟨"_law_draw", ["deck", "many"], []⟩
def c_law_draw_q : Mi.Ctx := ⟨["deck", "many", "whole", "one", "two"], defScope s_law_draw_q, none, ["int"], [], [], 0⟩
def f_law_draw_q : Mi.Fn := Mi.run d_law_draw_q []
theorem sc_law_draw_q : FnScope c_law_draw_q.N fd_law_draw_q.ps (defScope s_law_draw_q) := ⟨rfl, rfl, rfl, by decide +kernel, rfl, by decide +kernel, by decide +kernel⟩
theorem ok_law_draw_q : chkSs m_law_draw_q c_law_draw_q (defBody s_law_draw_q) = true := by decide +kernel
/-! ### _law_pick -/
abbrev s_law_pick_q : Stmt := topS 9
def m_law_pick_q : Mi.S := (.seq (.ret (.op2 .ix (.x 1) (.call false 0 [] (.cons (.x 0) (.cons (.op1 .len (.x 1)) .nil))))) .skip)
def d_law_pick_q : Mi.Def := ⟨2, 2, m_law_pick_q⟩
def fd_law_pick_q : Mi.Fd := ⟨"_law_pick", ["deck", "items"], []⟩
def c_law_pick_q : Mi.Ctx := ⟨["deck", "items"], defScope s_law_pick_q, none, ["len"], [], [fd_law_draw_q], 1⟩
def f_law_pick_q : Mi.Fn := Mi.run d_law_pick_q [f_law_draw_q]
theorem sc_law_pick_q : FnScope c_law_pick_q.N fd_law_pick_q.ps (defScope s_law_pick_q) := ⟨rfl, rfl, rfl, by decide +kernel, rfl, by decide +kernel, by decide +kernel⟩
theorem ok_law_pick_q : chkSs m_law_pick_q c_law_pick_q (defBody s_law_pick_q) = true := by decide +kernel
/-! ### _law_any_manner -/
abbrev s_law_any_manner_q : Stmt := topS 10
def m_law_any_manner_q : Mi.S := (.seq (.asg (.tg (.sl 1)) (.lst (.cons (.k (.str [110, 111, 110, 101])) (.cons (.k (.str [108, 97, 122, 121])) (.cons (.k (.str [102, 111, 114, 99, 101, 100])) .nil))))) (.seq (.asg (.tg (.sl 2)) (.comp [3] (.sl 3) .range1 (.k (.int 3)) .nil .nil (.call false 0 [] (.cons (.x 0) (.cons (.x 1) .nil))))) (.seq (.ex (.op2 .append (.x 2) (.call false 0 [] (.cons (.x 0) (.cons (.lst (.cons (.tup .nil) (.cons (.tup (.cons (.k (.str [97, 98, 111, 114, 116])) .nil)) (.cons (.tup (.cons (.k (.str [99, 111, 109, 109, 105, 116])) .nil)) (.cons (.tup (.cons (.k (.str [97, 98, 111, 114, 116])) (.cons (.k (.str [99, 111, 109, 109, 105, 116])) .nil))) .nil))))) .nil))))) (.seq (.ret (.op1 .tuple (.op2 .add (.x 2) (.lst (.cons (.call false 0 [] (.cons (.x 0) (.cons (.lst (.cons (.k (.str [97, 98, 111, 114, 116])) (.cons (.k (.str [99, 111, 109, 109, 105, 116])) .nil))) .nil))) (.cons (.op2 .eq (.call false 1 [] (.cons (.x 0) (.cons (.k (.int 2)) .nil))) (.k (.int 1))) .nil)))))) .skip))))
def d_law_any_manner_q : Mi.Def := ⟨4, 1, m_law_any_manner_q⟩
def fd_law_any_manner_q : Mi.Fd := ⟨"_law_any_manner", ["deck"], []⟩
def c_law_any_manner_q : Mi.Ctx := ⟨["deck", "strengths", "found", "spot"], defScope s_law_any_manner_q, none, ["tuple", "range"], [], [fd_law_pick_q, fd_law_draw_q], 2⟩
def f_law_any_manner_q : Mi.Fn := Mi.run d_law_any_manner_q [f_law_pick_q, f_law_draw_q]
theorem sc_law_any_manner_q : FnScope c_law_any_manner_q.N fd_law_any_manner_q.ps (defScope s_law_any_manner_q) := ⟨rfl, rfl, rfl, by decide +kernel, rfl, by decide +kernel, by decide +kernel⟩
theorem ok_law_any_manner_q : chkSs m_law_any_manner_q c_law_any_manner_q (defBody s_law_any_manner_q) = true := by decide +kernel
/-! ### _law_fit_manner -/
abbrev s_law_fit_manner_q : Stmt := topS 12
def m_law_fit_manner_q : Mi.S := (.seq (.asg (.tg (.tp (.cons (.sl 2) (.cons (.sl 3) .nil)))) (.tup (.cons (.lst (.cons (.k (.str [110, 111, 110, 101])) (.cons (.k (.str [108, 97, 122, 121])) (.cons (.k (.str [102, 111, 114, 99, 101, 100])) .nil)))) (.cons (.tup (.cons (.k (.str [97, 98, 111, 114, 116])) (.cons (.k (.str [99, 111, 109, 109, 105, 116])) .nil))) .nil)))) (.seq (.asg (.tg (.tp (.cons (.sl 4) (.cons (.sl 5) .nil)))) (.tup (.cons (.ite (.op2 .eq (.op2 .ix (.x 1) (.k (.int 0))) (.k (.str [102, 111, 114, 99, 101, 100]))) (.call false 0 [] (.cons (.x 0) (.cons (.x 3) .nil))) (.k (.str [97, 98, 111, 114, 116]))) (.cons (.op2 .eq (.call false 1 [] (.cons (.x 0) (.cons (.k (.int 2)) .nil))) (.k (.int 0))) .nil)))) (.seq (.asg (.tg (.sl 6)) (.ite (.x 5) (.call false 0 [] (.cons (.x 0) (.cons (.x 2) .nil))) (.k (.str [102, 111, 114, 99, 101, 100])))) (.seq (.asg (.tg (.tp (.cons (.sl 7) (.cons (.sl 8) .nil)))) (.tup (.cons (.call false 0 [] (.cons (.x 0) (.cons (.x 2) .nil))) (.cons (.call false 0 [] (.cons (.x 0) (.cons (.x 2) .nil))) .nil)))) (.seq (.ite (.op2 .eq (.x 4) (.k (.str [97, 98, 111, 114, 116]))) (.seq (.ret (.tup (.cons (.x 6) (.cons (.k (.str [102, 111, 114, 99, 101, 100])) (.cons (.x 8) (.cons (.call false 0 [] (.cons (.x 0) (.cons (.lst (.cons (.tup (.cons (.k (.str [99, 111, 109, 109, 105, 116])) .nil)) (.cons (.x 3) .nil))) .nil))) (.cons (.x 4) (.cons (.x 5) .nil)))))))) .skip) .skip) (.seq (.ite (.op2 .ne (.x 6) (.k (.str [110, 111, 110, 101]))) (.seq (.asg (.tg (.sl 8)) (.k (.str [102, 111, 114, 99, 101, 100]))) .skip) .skip) (.seq (.ite (.op2 .ne (.x 6) (.k (.str [102, 111, 114, 99, 101, 100]))) (.seq (.ret (.tup (.cons (.x 6) (.cons (.k (.str [102, 111, 114, 99, 101, 100])) (.cons (.x 8) (.cons (.x 3) (.cons (.x 4) (.cons (.x 5) .nil)))))))) .skip) .skip) (.seq (.ret (.tup (.cons (.x 6) (.cons (.x 7) (.cons (.x 8) (.cons (.call false 0 [] (.cons (.x 0) (.cons (.lst (.cons (.tup (.cons (.k (.str [97, 98, 111, 114, 116])) .nil)) (.cons (.x 3) .nil))) .nil))) (.cons (.x 4) (.cons (.x 5) .nil)))))))) .skip))))))))
def d_law_fit_manner_q : Mi.Def := ⟨9, 2, m_law_fit_manner_q⟩
def fd_law_fit_manner_q : Mi.Fd := ⟨"_law_fit_manner", ["deck", "head"], []⟩
def c_law_fit_manner_q : Mi.Ctx := ⟨["deck", "head", "strengths", "both", "presumed", "sent", "prepared", "committed", "aborted"], defScope s_law_fit_manner_q, none, [], [], [fd_law_pick_q, fd_law_draw_q], 2⟩
def f_law_fit_manner_q : Mi.Fn := Mi.run d_law_fit_manner_q [f_law_pick_q, f_law_draw_q]
theorem sc_law_fit_manner_q : FnScope c_law_fit_manner_q.N fd_law_fit_manner_q.ps (defScope s_law_fit_manner_q) := ⟨rfl, rfl, rfl, by decide +kernel, rfl, by decide +kernel, by decide +kernel⟩
theorem ok_law_fit_manner_q : chkSs m_law_fit_manner_q c_law_fit_manner_q (defBody s_law_fit_manner_q) = true := by decide +kernel
/-! ### _law_head -/
abbrev s_law_head_q : Stmt := topS 11
def m_law_head_q : Mi.S := (.seq (.asg (.tg (.sl 1)) (.lst (.cons (.k (.str [110, 111, 110, 101])) (.cons (.k (.str [108, 97, 122, 121])) (.cons (.k (.str [102, 111, 114, 99, 101, 100])) .nil))))) (.seq (.asg (.tg (.sl 2)) (.ite (.op2 .gt (.call false 1 [] (.cons (.x 0) (.cons (.k (.int 6)) .nil))) (.k (.int 0))) (.k (.str [102, 111, 114, 99, 101, 100])) (.call false 0 [] (.cons (.x 0) (.cons (.x 1) .nil))))) (.seq (.ret (.tup (.cons (.call false 0 [] (.cons (.x 0) (.cons (.op2 .add (.x 1) (.lst (.cons (.k (.str [102, 111, 114, 99, 101, 100])) .nil))) .nil))) (.cons (.x 2) (.cons (.call false 0 [] (.cons (.x 0) (.cons (.x 1) .nil))) .nil))))) .skip)))
def d_law_head_q : Mi.Def := ⟨3, 1, m_law_head_q⟩
def fd_law_head_q : Mi.Fd := ⟨"_law_head", ["deck"], []⟩
def c_law_head_q : Mi.Ctx := ⟨["deck", "strengths", "committed"], defScope s_law_head_q, none, [], [], [fd_law_pick_q, fd_law_draw_q], 2⟩
def f_law_head_q : Mi.Fn := Mi.run d_law_head_q [f_law_pick_q, f_law_draw_q]
theorem sc_law_head_q : FnScope c_law_head_q.N fd_law_head_q.ps (defScope s_law_head_q) := ⟨rfl, rfl, rfl, by decide +kernel, rfl, by decide +kernel, by decide +kernel⟩
theorem ok_law_head_q : chkSs m_law_head_q c_law_head_q (defBody s_law_head_q) = true := by decide +kernel
/-! ### _law_deck -/
abbrev s_law_deck_q : Stmt := topS 7
def m_law_deck_q : Mi.S := (.seq (.asg (.tg (.sl 1)) (.dic false (.cons (.k (.str [100, 101, 101, 112])) (.cons (.lst .nil) (.cons (.k (.str [115, 116, 97, 116, 101])) (.cons (.op2 .add (.k (.int 1572127)) (.op1 .len (.sl (.x 0) .nil (.k (.int 63))))) .nil)))))) (.seq (.fo (.sl 2) .seq (.sl (.x 0) .nil (.k (.int 63))) .nil (.seq (.asg (.tg (.sl 3)) (.op1 .abs (.x 2))) (.seq (.ite (.op2 .ge (.x 3) (.op2 .pow (.k (.int 10)) (.k (.int 18)))) (.seq (.asg (.sub (.x 1) (.k (.str [100, 101, 101, 112]))) (.op2 .add (.lst (.cons (.x 3) .nil)) (.op2 .ix (.x 1) (.k (.str [100, 101, 101, 112]))))) .skip) .skip) (.seq (.asg (.tg (.sl 4)) (.op2 .add (.op2 .mul (.op2 .add (.op2 .add (.op2 .add (.op2 .ix (.x 1) (.k (.str [115, 116, 97, 116, 101]))) (.op2 .mul (.k (.int 2)) (.x 3))) (.op1 .int (.op2 .lt (.x 2) (.k (.int 0))))) (.k (.int 1))) (.k (.int 1181783497276652981))) (.k (.int 521288629)))) (.seq (.asg (.sub (.x 1) (.k (.str [115, 116, 97, 116, 101]))) (.op2 .mod (.op1 .int (.x 4)) (.k (.int 2305843009213693951)))) .skip))))) (.seq (.ret (.x 1)) .skip)))
def d_law_deck_q : Mi.Def := ⟨5, 1, m_law_deck_q⟩
def fd_law_deck_q : Mi.Fd := ⟨"_law_deck", ["script"], []⟩
def c_law_deck_q : Mi.Ctx := ⟨["script", "deck", "cell", "whole", "state"], defScope s_law_deck_q, none, ["int", "abs", "len"], [], [], 0⟩
def f_law_deck_q : Mi.Fn := Mi.run d_law_deck_q []
theorem sc_law_deck_q : FnScope c_law_deck_q.N fd_law_deck_q.ps (defScope s_law_deck_q) := ⟨rfl, rfl, rfl, by decide +kernel, rfl, by decide +kernel, by decide +kernel⟩
theorem ok_law_deck_q : chkSs m_law_deck_q c_law_deck_q (defBody s_law_deck_q) = true := by decide +kernel
/-! ### law -/
abbrev s_law : Stmt := topS 16
def m_law : Mi.S := (.seq (.asg (.tg (.sl 1)) (.call false 5 [] (.cons (.x 0) .nil))) (.seq (.fo (.sl 2) .range1 (.k (.int 10)) .nil (.seq (.asg (.tg (.sl 3)) (.call false 4 [] (.cons (.x 1) .nil))) (.seq (.asg (.tg (.sl 4)) (.ite (.op2 .eq (.op2 .mod (.x 2) (.k (.int 3))) (.k (.int 0))) (.call false 2 [] (.cons (.x 1) .nil)) (.call false 3 [] (.cons (.x 1) (.cons (.x 3) .nil))))) (.seq (.fo (.tp (.cons (.sl 5) (.cons (.tp (.cons (.sl 6) (.cons (.sl 7) .nil))) .nil))) .enum (.op2 .add (.lst (.cons (.tup (.cons (.x 3) (.cons (.x 4) .nil))) .nil)) (.call true 0 [] (.cons (.x 3) (.cons (.x 4) .nil)))) .nil (.seq (.ite (.or (.not (.call true 1 [] (.cons (.x 6) (.cons (.x 7) (.cons (.op2 .eq (.x 5) (.x 2)) .nil))))) (.and (.op2 .lt (.x 5) (.k (.int 2))) (.not (.call true 1 [] (.cons (.x 6) (.cons (.x 7) (.cons (.k (.bl false)) .nil))))))) (.seq (.ret (.k (.bl false))) .skip) .skip) .skip)) .skip)))) (.seq (.ret (.k (.bl true))) .skip)))
def d_law : Mi.Def := ⟨8, 1, m_law⟩
def fd_law : Mi.Fd := ⟨"law", ["script"], []⟩
def c_law : Mi.Ctx := ⟨["script", "deck", "turn", "head", "manner", "place", "one", "other"], defScope s_law, none, ["range", "enumerate"], [], [fd_law_near_q, fd_law_is_right_q, fd_law_any_manner_q, fd_law_fit_manner_q, fd_law_head_q, fd_law_deck_q], 4⟩
def f_law : Mi.Fn := Mi.run d_law [f_law_near_q, f_law_is_right_q, f_law_any_manner_q, f_law_fit_manner_q, f_law_head_q, f_law_deck_q]
theorem sc_law : FnScope c_law.N fd_law.ps (defScope s_law) := ⟨rfl, rfl, rfl, by decide +kernel, rfl, by decide +kernel, by decide +kernel⟩
theorem ok_law : chkSs m_law c_law (defBody s_law) = true := by decide +kernel
/-! ### what the top has written -/
theorem all_mk {w : World} {K : PySem.W.Frag} {h : Heap} {mg : Str → Option Value} {fa : Addr} (X : K.In h) (G : h.Ns mainGlobals mg) (hfa : mg "law" = some (.ref fa))
    {f0 : Addr} {od0 an0 : Option Addr} {sl0 : Array (Option Value)} {oc0 kV0 dc0 pm0 cd0 ct0 : Value}
    (a0 : PySem.W.nsIn K mainGlobals "_law_near" = some (some (.ref f0))) (l0 : K.lookup f0 = some ⟨oc0, od0, .func (PySem.W.fnOf "_law_near" "_law_near" (defArgs s_law_near_q) (defBody s_law_near_q) (defScope s_law_near_q) .none kV0 dc0 pm0 an0 cd0 ct0), sl0⟩) (c0 : PySem.W.codeIn K cd0 "_law_near" = true) (k0 : PySem.W.keepIn K (.ref f0) = true)
    {f1 : Addr} {od1 an1 : Option Addr} {sl1 : Array (Option Value)} {oc1 kV1 dc1 pm1 cd1 ct1 : Value}
    (a1 : PySem.W.nsIn K mainGlobals "lacks_for_abort" = some (some (.ref f1))) (l1 : K.lookup f1 = some ⟨oc1, od1, .func (PySem.W.fnOf "lacks_for_abort" "lacks_for_abort" (defArgs s_lacks_for_abort) (defBody s_lacks_for_abort) (defScope s_lacks_for_abort) .none kV1 dc1 pm1 an1 cd1 ct1), sl1⟩) (c1 : PySem.W.codeIn K cd1 "lacks_for_abort" = true) (k1 : PySem.W.keepIn K (.ref f1) = true)
    {f2 : Addr} {od2 an2 : Option Addr} {sl2 : Array (Option Value)} {oc2 kV2 dc2 pm2 cd2 ct2 : Value}
    (a2 : PySem.W.nsIn K mainGlobals "lacks_for_commit" = some (some (.ref f2))) (l2 : K.lookup f2 = some ⟨oc2, od2, .func (PySem.W.fnOf "lacks_for_commit" "lacks_for_commit" (defArgs s_lacks_for_commit) (defBody s_lacks_for_commit) (defScope s_lacks_for_commit) .none kV2 dc2 pm2 an2 cd2 ct2), sl2⟩) (c2 : PySem.W.codeIn K cd2 "lacks_for_commit" = true) (k2 : PySem.W.keepIn K (.ref f2) = true)
    {f3 : Addr} {od3 an3 : Option Addr} {sl3 : Array (Option Value)} {oc3 kV3 dc3 pm3 cd3 ct3 : Value}
    (a3 : PySem.W.nsIn K mainGlobals "lacks" = some (some (.ref f3))) (l3 : K.lookup f3 = some ⟨oc3, od3, .func (PySem.W.fnOf "lacks" "lacks" (defArgs s_lacks) (defBody s_lacks) (defScope s_lacks) .none kV3 dc3 pm3 an3 cd3 ct3), sl3⟩) (c3 : PySem.W.codeIn K cd3 "lacks" = true) (k3 : PySem.W.keepIn K (.ref f3) = true)
    {f4 : Addr} {od4 an4 : Option Addr} {sl4 : Array (Option Value)} {oc4 kV4 dc4 pm4 cd4 ct4 : Value}
    (a4 : PySem.W.nsIn K mainGlobals "fits" = some (some (.ref f4))) (l4 : K.lookup f4 = some ⟨oc4, od4, .func (PySem.W.fnOf "fits" "fits" (defArgs s_fits) (defBody s_fits) (defScope s_fits) .none kV4 dc4 pm4 an4 cd4 ct4), sl4⟩) (c4 : PySem.W.codeIn K cd4 "fits" = true) (k4 : PySem.W.keepIn K (.ref f4) = true)
    {f5 : Addr} {od5 an5 : Option Addr} {sl5 : Array (Option Value)} {oc5 kV5 dc5 pm5 cd5 ct5 : Value}
    (a5 : PySem.W.nsIn K mainGlobals "_law_lacks" = some (some (.ref f5))) (l5 : K.lookup f5 = some ⟨oc5, od5, .func (PySem.W.fnOf "_law_lacks" "_law_lacks" (defArgs s_law_lacks_q) (defBody s_law_lacks_q) (defScope s_law_lacks_q) .none kV5 dc5 pm5 an5 cd5 ct5), sl5⟩) (c5 : PySem.W.codeIn K cd5 "_law_lacks" = true) (k5 : PySem.W.keepIn K (.ref f5) = true)
    {f6 : Addr} {od6 an6 : Option Addr} {sl6 : Array (Option Value)} {oc6 kV6 dc6 pm6 cd6 ct6 : Value}
    (a6 : PySem.W.nsIn K mainGlobals "_law_is_right" = some (some (.ref f6))) (l6 : K.lookup f6 = some ⟨oc6, od6, .func (PySem.W.fnOf "_law_is_right" "_law_is_right" (defArgs s_law_is_right_q) (defBody s_law_is_right_q) (defScope s_law_is_right_q) .none kV6 dc6 pm6 an6 cd6 ct6), sl6⟩) (c6 : PySem.W.codeIn K cd6 "_law_is_right" = true) (k6 : PySem.W.keepIn K (.ref f6) = true)
    {f7 : Addr} {od7 an7 : Option Addr} {sl7 : Array (Option Value)} {oc7 kV7 dc7 pm7 cd7 ct7 : Value}
    (a7 : PySem.W.nsIn K mainGlobals "_law_draw" = some (some (.ref f7))) (l7 : K.lookup f7 = some ⟨oc7, od7, .func (PySem.W.fnOf "_law_draw" "_law_draw" (defArgs s_law_draw_q) (defBody s_law_draw_q) (defScope s_law_draw_q) .none kV7 dc7 pm7 an7 cd7 ct7), sl7⟩) (c7 : PySem.W.codeIn K cd7 "_law_draw" = true) (k7 : PySem.W.keepIn K (.ref f7) = true)
    {f8 : Addr} {od8 an8 : Option Addr} {sl8 : Array (Option Value)} {oc8 kV8 dc8 pm8 cd8 ct8 : Value}
    (a8 : PySem.W.nsIn K mainGlobals "_law_pick" = some (some (.ref f8))) (l8 : K.lookup f8 = some ⟨oc8, od8, .func (PySem.W.fnOf "_law_pick" "_law_pick" (defArgs s_law_pick_q) (defBody s_law_pick_q) (defScope s_law_pick_q) .none kV8 dc8 pm8 an8 cd8 ct8), sl8⟩) (c8 : PySem.W.codeIn K cd8 "_law_pick" = true) (k8 : PySem.W.keepIn K (.ref f8) = true)
    {f9 : Addr} {od9 an9 : Option Addr} {sl9 : Array (Option Value)} {oc9 kV9 dc9 pm9 cd9 ct9 : Value}
    (a9 : PySem.W.nsIn K mainGlobals "_law_any_manner" = some (some (.ref f9))) (l9 : K.lookup f9 = some ⟨oc9, od9, .func (PySem.W.fnOf "_law_any_manner" "_law_any_manner" (defArgs s_law_any_manner_q) (defBody s_law_any_manner_q) (defScope s_law_any_manner_q) .none kV9 dc9 pm9 an9 cd9 ct9), sl9⟩) (c9 : PySem.W.codeIn K cd9 "_law_any_manner" = true) (k9 : PySem.W.keepIn K (.ref f9) = true)
    {f10 : Addr} {od10 an10 : Option Addr} {sl10 : Array (Option Value)} {oc10 kV10 dc10 pm10 cd10 ct10 : Value}
    (a10 : PySem.W.nsIn K mainGlobals "_law_fit_manner" = some (some (.ref f10))) (l10 : K.lookup f10 = some ⟨oc10, od10, .func (PySem.W.fnOf "_law_fit_manner" "_law_fit_manner" (defArgs s_law_fit_manner_q) (defBody s_law_fit_manner_q) (defScope s_law_fit_manner_q) .none kV10 dc10 pm10 an10 cd10 ct10), sl10⟩) (c10 : PySem.W.codeIn K cd10 "_law_fit_manner" = true) (k10 : PySem.W.keepIn K (.ref f10) = true)
    {f11 : Addr} {od11 an11 : Option Addr} {sl11 : Array (Option Value)} {oc11 kV11 dc11 pm11 cd11 ct11 : Value}
    (a11 : PySem.W.nsIn K mainGlobals "_law_head" = some (some (.ref f11))) (l11 : K.lookup f11 = some ⟨oc11, od11, .func (PySem.W.fnOf "_law_head" "_law_head" (defArgs s_law_head_q) (defBody s_law_head_q) (defScope s_law_head_q) .none kV11 dc11 pm11 an11 cd11 ct11), sl11⟩) (c11 : PySem.W.codeIn K cd11 "_law_head" = true) (k11 : PySem.W.keepIn K (.ref f11) = true)
    {f12 : Addr} {od12 an12 : Option Addr} {sl12 : Array (Option Value)} {oc12 kV12 dc12 pm12 cd12 ct12 : Value}
    (a12 : PySem.W.nsIn K mainGlobals "_law_deck" = some (some (.ref f12))) (l12 : K.lookup f12 = some ⟨oc12, od12, .func (PySem.W.fnOf "_law_deck" "_law_deck" (defArgs s_law_deck_q) (defBody s_law_deck_q) (defScope s_law_deck_q) .none kV12 dc12 pm12 an12 cd12 ct12), sl12⟩) (c12 : PySem.W.codeIn K cd12 "_law_deck" = true) (k12 : PySem.W.keepIn K (.ref f12) = true)
    {f13 : Addr} {od13 an13 : Option Addr} {sl13 : Array (Option Value)} {oc13 kV13 dc13 pm13 cd13 ct13 : Value}
    (a13 : PySem.W.nsIn K mainGlobals "law" = some (some (.ref f13))) (l13 : K.lookup f13 = some ⟨oc13, od13, .func (PySem.W.fnOf "law" "law" (defArgs s_law) (defBody s_law) (defScope s_law) .none kV13 dc13 pm13 an13 cd13 ct13), sl13⟩) (c13 : PySem.W.codeIn K cd13 "law" = true) (k13 : PySem.W.keepIn K (.ref f13) = true)
    (z0 : PySem.W.nsIn K mainGlobals "range" = some none)
    (z1 : PySem.W.nsIn K mainGlobals "tuple" = some none)
    (z2 : PySem.W.nsIn K mainGlobals "sorted" = some none)
    (z3 : PySem.W.nsIn K mainGlobals "repr" = some none)
    (z4 : PySem.W.nsIn K mainGlobals "int" = some none)
    (z5 : PySem.W.nsIn K mainGlobals "len" = some none)
    (z6 : PySem.W.nsIn K mainGlobals "abs" = some none)
    (z7 : PySem.W.nsIn K mainGlobals "enumerate" = some none)
    {t0 : Tok} (gg0 : PySem.W.nsIn K mainGlobals "FORCED" = some (some (.str "forced" t0)))
    : ∃ fd : FuncData, (∀ (s : Shared) (v : Value), BindsTo s fd ⟨[v], []⟩ [("script", v)]) ∧ ∀ base : Heap, K.In base → base.Ns mainGlobals mg → FnM PySem.Challenge.pw_doubtbooks_k27_whole_what_a_manner_lacks w K mg base 5 fa fd ["script"] f_law := by
  have e := hfa.symm.trans (PySem.W.mg_of X G a13)
  cases e
  refine ⟨PySem.W.fnOf "law" "law" (defArgs s_law) (defBody s_law) (defScope s_law) .none kV13 dc13 pm13 an13 cd13 ct13, fun s v => .of_eq rfl, fun base B N => ?_⟩
  have y0 : mg "range" = none := PySem.W.mg_none_of X G z0
  have y1 : mg "tuple" = none := PySem.W.mg_none_of X G z1
  have y2 : mg "sorted" = none := PySem.W.mg_none_of X G z2
  have y3 : mg "repr" = none := PySem.W.mg_none_of X G z3
  have y4 : mg "int" = none := PySem.W.mg_none_of X G z4
  have y5 : mg "len" = none := PySem.W.mg_none_of X G z5
  have y6 : mg "abs" = none := PySem.W.mg_none_of X G z6
  have y7 : mg "enumerate" = none := PySem.W.mg_none_of X G z7
  have u0 : ∃ v u, mg (toStr [70, 79, 82, 67, 69, 68]) = some u ∧ RelV v u ∧ ∀ H μ N, VR K H μ N v (.str [102, 111, 114, 99, 101, 100]) := ⟨.str (toStr [102, 111, 114, 99, 101, 100]), _, PySem.W.mg_of X G gg0, ⟨_, rfl⟩, fun _ _ _ => .str _⟩
  have r0 : CalP PySem.Challenge.pw_doubtbooks_k27_whole_what_a_manner_lacks w K mg base 1 fd_law_near_q f_law_near_q _ _ := fn_mk (c := c_law_near_q) (fdd := fd_law_near_q) (stm := s_law_near_q) (d := d_law_near_q) B N a0 l0 c0 k0 sc_law_near_q rfl rfl rfl rfl ok_law_near_q ⟨y0, trivial⟩ trivial trivial (fun _ _ _ _ _ _ us hl => match us, hl with | [_, _], _ => rfl) (fun _ _ _ _ _ _ p hp => nomatch hp)
  have r1 : CalP PySem.Challenge.pw_doubtbooks_k27_whole_what_a_manner_lacks w K mg base 1 fd_lacks_for_abort f_lacks_for_abort _ _ := fn_mk (c := c_lacks_for_abort) (fdd := fd_lacks_for_abort) (stm := s_lacks_for_abort) (d := d_lacks_for_abort) B N a1 l1 c1 k1 sc_lacks_for_abort rfl rfl rfl rfl ok_lacks_for_abort trivial ⟨u0, trivial⟩ trivial (fun _ _ _ _ _ _ us hl => match us, hl with | [_], _ => rfl) (fun _ _ _ _ _ _ p hp => nomatch hp)
  have r2 : CalP PySem.Challenge.pw_doubtbooks_k27_whole_what_a_manner_lacks w K mg base 1 fd_lacks_for_commit f_lacks_for_commit _ _ := fn_mk (c := c_lacks_for_commit) (fdd := fd_lacks_for_commit) (stm := s_lacks_for_commit) (d := d_lacks_for_commit) B N a2 l2 c2 k2 sc_lacks_for_commit rfl rfl rfl rfl ok_lacks_for_commit trivial ⟨u0, trivial⟩ trivial (fun _ _ _ _ _ _ us hl => match us, hl with | [_, _], _ => rfl) (fun _ _ _ _ _ _ p hp => nomatch hp)
  have r3 : CalP PySem.Challenge.pw_doubtbooks_k27_whole_what_a_manner_lacks w K mg base 2 fd_lacks f_lacks _ _ := fn_mk (c := c_lacks) (fdd := fd_lacks) (stm := s_lacks) (d := d_lacks) B N a3 l3 c3 k3 sc_lacks rfl rfl rfl rfl ok_lacks ⟨y1, y2, trivial⟩ ⟨u0, trivial⟩ ⟨⟨_, _, r1.mono (by decide)⟩, ⟨_, _, r2.mono (by decide)⟩, trivial⟩ (fun _ _ _ _ _ _ us hl => match us, hl with | [_, _], _ => rfl) ((fun _ _ _ _ _ _ p hp us ws h1 h2 => by
    simp only [fd_lacks, List.mem_cons, List.not_mem_nil, or_false] at hp
    rcases hp with rfl
    · exact match us, ws, h1, h2 with | [], [_, _], _, _ => rfl))
  have r4 : CalP PySem.Challenge.pw_doubtbooks_k27_whole_what_a_manner_lacks w K mg base 3 fd_fits f_fits _ _ := fn_mk (c := c_fits) (fdd := fd_fits) (stm := s_fits) (d := d_fits) B N a4 l4 c4 k4 sc_fits rfl rfl rfl rfl ok_fits trivial trivial ⟨⟨_, _, r3.mono (by decide)⟩, trivial⟩ (fun _ _ _ _ _ _ us hl => match us, hl with | [_, _], _ => rfl) ((fun _ _ _ _ _ _ p hp us ws h1 h2 => by
    simp only [fd_fits, List.mem_cons, List.not_mem_nil, or_false] at hp
    rcases hp with rfl
    · exact match us, ws, h1, h2 with | [], [_, _], _, _ => rfl))
  have r5 : CalP PySem.Challenge.pw_doubtbooks_k27_whole_what_a_manner_lacks w K mg base 1 fd_law_lacks_q f_law_lacks_q _ _ := fn_mk (c := c_law_lacks_q) (fdd := fd_law_lacks_q) (stm := s_law_lacks_q) (d := d_law_lacks_q) B N a5 l5 c5 k5 sc_law_lacks_q rfl rfl rfl rfl ok_law_lacks_q ⟨y1, y2, trivial⟩ trivial trivial (fun _ _ _ _ _ _ us hl => match us, hl with | [_, _], _ => rfl) (fun _ _ _ _ _ _ p hp => nomatch hp)
  have r6 : CalP PySem.Challenge.pw_doubtbooks_k27_whole_what_a_manner_lacks w K mg base 4 fd_law_is_right_q f_law_is_right_q _ _ := fn_mk (c := c_law_is_right_q) (fdd := fd_law_is_right_q) (stm := s_law_is_right_q) (d := d_law_is_right_q) B N a6 l6 c6 k6 sc_law_is_right_q rfl rfl rfl rfl ok_law_is_right_q ⟨y3, trivial⟩ trivial ⟨⟨_, _, r3.mono (by decide)⟩, ⟨_, _, r4.mono (by decide)⟩, ⟨_, _, r5.mono (by decide)⟩, trivial⟩ (fun _ _ _ _ _ _ us hl => match us, hl with | [_, _, _], _ => rfl) (fun _ _ _ _ _ _ p hp => nomatch hp)
  have r7 : CalP PySem.Challenge.pw_doubtbooks_k27_whole_what_a_manner_lacks w K mg base 1 fd_law_draw_q f_law_draw_q _ _ := fn_mk (c := c_law_draw_q) (fdd := fd_law_draw_q) (stm := s_law_draw_q) (d := d_law_draw_q) B N a7 l7 c7 k7 sc_law_draw_q rfl rfl rfl rfl ok_law_draw_q ⟨y4, trivial⟩ trivial trivial (fun _ _ _ _ _ _ us hl => match us, hl with | [_, _], _ => rfl) (fun _ _ _ _ _ _ p hp => nomatch hp)
  have r8 : CalP PySem.Challenge.pw_doubtbooks_k27_whole_what_a_manner_lacks w K mg base 2 fd_law_pick_q f_law_pick_q _ _ := fn_mk (c := c_law_pick_q) (fdd := fd_law_pick_q) (stm := s_law_pick_q) (d := d_law_pick_q) B N a8 l8 c8 k8 sc_law_pick_q rfl rfl rfl rfl ok_law_pick_q ⟨y5, trivial⟩ trivial ⟨⟨_, _, r7.mono (by decide)⟩, trivial⟩ (fun _ _ _ _ _ _ us hl => match us, hl with | [_, _], _ => rfl) (fun _ _ _ _ _ _ p hp => nomatch hp)
  have r9 : CalP PySem.Challenge.pw_doubtbooks_k27_whole_what_a_manner_lacks w K mg base 3 fd_law_any_manner_q f_law_any_manner_q _ _ := fn_mk (c := c_law_any_manner_q) (fdd := fd_law_any_manner_q) (stm := s_law_any_manner_q) (d := d_law_any_manner_q) B N a9 l9 c9 k9 sc_law_any_manner_q rfl rfl rfl rfl ok_law_any_manner_q ⟨y1, y0, trivial⟩ trivial ⟨⟨_, _, r8.mono (by decide)⟩, ⟨_, _, r7.mono (by decide)⟩, trivial⟩ (fun _ _ _ _ _ _ us hl => match us, hl with | [_], _ => rfl) (fun _ _ _ _ _ _ p hp => nomatch hp)
  have r10 : CalP PySem.Challenge.pw_doubtbooks_k27_whole_what_a_manner_lacks w K mg base 3 fd_law_fit_manner_q f_law_fit_manner_q _ _ := fn_mk (c := c_law_fit_manner_q) (fdd := fd_law_fit_manner_q) (stm := s_law_fit_manner_q) (d := d_law_fit_manner_q) B N a10 l10 c10 k10 sc_law_fit_manner_q rfl rfl rfl rfl ok_law_fit_manner_q trivial trivial ⟨⟨_, _, r8.mono (by decide)⟩, ⟨_, _, r7.mono (by decide)⟩, trivial⟩ (fun _ _ _ _ _ _ us hl => match us, hl with | [_, _], _ => rfl) (fun _ _ _ _ _ _ p hp => nomatch hp)
  have r11 : CalP PySem.Challenge.pw_doubtbooks_k27_whole_what_a_manner_lacks w K mg base 3 fd_law_head_q f_law_head_q _ _ := fn_mk (c := c_law_head_q) (fdd := fd_law_head_q) (stm := s_law_head_q) (d := d_law_head_q) B N a11 l11 c11 k11 sc_law_head_q rfl rfl rfl rfl ok_law_head_q trivial trivial ⟨⟨_, _, r8.mono (by decide)⟩, ⟨_, _, r7.mono (by decide)⟩, trivial⟩ (fun _ _ _ _ _ _ us hl => match us, hl with | [_], _ => rfl) (fun _ _ _ _ _ _ p hp => nomatch hp)
  have r12 : CalP PySem.Challenge.pw_doubtbooks_k27_whole_what_a_manner_lacks w K mg base 1 fd_law_deck_q f_law_deck_q _ _ := fn_mk (c := c_law_deck_q) (fdd := fd_law_deck_q) (stm := s_law_deck_q) (d := d_law_deck_q) B N a12 l12 c12 k12 sc_law_deck_q rfl rfl rfl rfl ok_law_deck_q ⟨y4, y6, y5, trivial⟩ trivial trivial (fun _ _ _ _ _ _ us hl => match us, hl with | [_], _ => rfl) (fun _ _ _ _ _ _ p hp => nomatch hp)
  have r13 : CalP PySem.Challenge.pw_doubtbooks_k27_whole_what_a_manner_lacks w K mg base 5 fd_law f_law _ _ := fn_mk (c := c_law) (fdd := fd_law) (stm := s_law) (d := d_law) B N a13 l13 c13 k13 sc_law rfl rfl rfl rfl ok_law ⟨y0, y7, trivial⟩ trivial ⟨⟨_, _, r0.mono (by decide)⟩, ⟨_, _, r6.mono (by decide)⟩, ⟨_, _, r9.mono (by decide)⟩, ⟨_, _, r10.mono (by decide)⟩, ⟨_, _, r11.mono (by decide)⟩, ⟨_, _, r12.mono (by decide)⟩, trivial⟩ (fun _ _ _ _ _ _ us hl => match us, hl with | [_], _ => rfl) (fun _ _ _ _ _ _ p hp => nomatch hp)
  exact r13.fn
end Law
end
section
set_option Elab.async false
set_option maxRecDepth 100000
set_option linter.all false
namespace Law
open Mi
/-- what is lacking, by what is asked -/
def LL (b1 b2 b3 b4 b5 b6 b7 b8 p s : Bool) : List (List Nat) :=
  isort leN (mg b1 [] [[104, 101, 97, 100, 32, 99, 111, 109, 109, 105, 116, 116, 101, 100]] ++ mg (!b2 && !s) [[112, 114, 101, 112, 97, 114, 101, 100]] [] ++ mg (p && !b4) [[98, 101, 103, 117, 110]] [] ++ mg (p && !b7) [[116, 104, 97, 110, 107, 115, 32, 97, 98, 111, 114, 116]] [] ++ mg (p && !b5 && !b3) [[97, 98, 111, 114, 116, 101, 100]] [] ++ mg (!p || (s && !b2)) (mg b6 [] [[99, 111, 109, 109, 105, 116, 116, 101, 100]] ++ mg b8 [] [[116, 104, 97, 110, 107, 115, 32, 99, 111, 109, 109, 105, 116]]) [])
def due (h0 h1 p0 p1 p2 p4 : List Nat) (t : List (List Nat)) (s : Bool) : List (List Nat) :=
  LL (h1 == [102, 111, 114, 99, 101, 100]) (p0 == [102, 111, 114, 99, 101, 100]) (p0 == [110, 111, 110, 101]) (h0 == [102, 111, 114, 99, 101, 100]) (p2 == [102, 111, 114, 99, 101, 100]) (p1 == [102, 111, 114, 99, 101, 100]) (t.contains [97, 98, 111, 114, 116]) (t.contains [99, 111, 109, 109, 105, 116]) (p4 == [99, 111, 109, 109, 105, 116]) s
section
variable (h0 h1 h2 p0 p1 p2 p4 : List Nat) (t : List (List Nat)) (s : Bool)
def hV : Val := .tup [.str h0, .str h1, .str h2]
def mV : Val := .tup [.str p0, .str p1, .str p2, .tup (t.map .str), .str p4, .bl s]
theorem lacks_ok (hp : p4 = [97, 98, 111, 114, 116] ∨ p4 = [99, 111, 109, 109, 105, 116]) : ∃ st, f_lacks [hV h0 h1 h2, mV p0 p1 p2 p4 t s] [] = .ok (.v (.tup ((due h0 h1 p0 p1 p2 p4 t s).map .str))) st := by
  unfold f_lacks d_lacks m_lacks f_lacks_for_abort d_lacks_for_abort m_lacks_for_abort f_lacks_for_commit d_lacks_for_commit m_lacks_for_commit hV mV due
  rcases hp with rfl | rfl
  all_goals
    apply Exists.intro
    simp only [m_t, m_f, m_same, m_ok, m_bad, m_v, m_l, m_str, m_int, m_bl, m_tup, m_cons, m_some, m_lst, m_nx, m_rt, m_tf, m_ft, m_kf, m_tb, m_len, m_add, m_add2, m_le, m_lt, m_emp, m_beqS, m_nrs, nrs_app, nrs_map, m_as, as_map, b_ok, b_bad, l_some, d_k, d_g, d_x, x_var, d_tup, x_tup, d_lst, x_lst, d_op1, d_op2, x_op2, d_sl, x_sl1, x_sl2, d_optT, d_optF, x_opt, d_and, x_and, d_or, x_or, d_not, x_not, d_ite, x_ite, x_ite2, d_call, x_call, x_call2, d_nil, d_cons, x_cons, x_cons2, t_skip, t_seq, af_nx, af_rt, af_bk, af_ct, af_m1, af_m2, af_m1', af_m2', t_asg, x_asg, x_nx, t_ex, x_ex, t_ret, x_ret, t_retN, t_ite, x_if, x_if2, u_tg, d_run, ou_rt, ou_nx, c_imp, k_v, k_l, k_m, k_m2, as_ap, ap_ss, v_eq, v_ne, v_lt, v_le, v_gt, v_ge, v_addI, v_addS, v_addT, v_addl, v_addr, v_addm, v_sub, v_in, v_notin, v_ixT, v_app, v_ext, v_tup, v_slT, c_pur, pr_ok, q_e0, q_0e, emp_map, v_sor, w_sor, w_srt, wAdd, wIn, wNotIn, wApp, wExt, wS2, wSort, wTup, at_lit, at_last, q_ss, q_ii, q_bb, q_tt, q_ll, q_vs, q_vi, q_vt, q_nil, q_nilc, q_cnil, q_cons, q_any0, q_any1, q_anyS, as_nil, as_cons, lb_cc, lb_nc, lb_cn, lb_nn, seqR, seqV, truthV, settle, settles, isNil, pre2, pre3, intOf, bindT, bindTs, permute, isV, wipeE, List.length_cons, List.length_nil, List.getElem?_cons_zero, List.getElem?_cons_succ, List.set_cons_zero, List.set_cons_succ, List.map_cons, List.map_nil, List.replicate, List.append, List.cons_append, List.nil_append, true_and, and_true, if_true, if_false, Bool.false_eq_true, Option.bind, Bool.not_true, Bool.not_false, Bool.true_and, Bool.false_and, Bool.and_true, Bool.and_false, Bool.or_true, Bool.or_false, Bool.true_or, Bool.false_or, lstAt, ownL, mutAt, dicAt, Option.map, Option.map_some, Option.map_none, List.getElem?_nil, keyOk, Bool.or_self, Bool.and_self, Nat.zero_le, Nat.reduceAdd, Nat.reduceSub, Nat.reduceLT, Nat.reduceLeDiff, Nat.reduceEqDiff, Nat.reduceBEq, beq_self_eq_true, Nat.zero_add, Nat.add_zero, List.length_map, top, List.length_append, List.all_cons, List.all_nil, nrR, Val.nr, Val.nrs, pureVal, and_self, List.filterMap_cons, List.filterMap_nil, l_for0, l_for1, l_comp0, l_comp1, List.getElem?_concat_length, List.length_set]
    refine congrArg (fun z => Res.ok (RV.v (Val.tup (List.map Val.str z))) _) ?_
    generalize (h1 == [102, 111, 114, 99, 101, 100]) = b1
    generalize (p0 == [102, 111, 114, 99, 101, 100]) = b2
    generalize (p0 == [110, 111, 110, 101]) = b3
    generalize (h0 == [102, 111, 114, 99, 101, 100]) = b4
    generalize (p2 == [102, 111, 114, 99, 101, 100]) = b5
    generalize (p1 == [102, 111, 114, 99, 101, 100]) = b6
    generalize t.contains [97, 98, 111, 114, 116] = b7
    generalize t.contains [99, 111, 109, 109, 105, 116] = b8
    revert b1 b2 b3 b4 b5 b6 b7 b8 s
    decide +kernel
theorem law_lacks_ok (hp : p4 = [97, 98, 111, 114, 116] ∨ p4 = [99, 111, 109, 109, 105, 116]) : ∃ st, f_law_lacks_q [hV h0 h1 h2, mV p0 p1 p2 p4 t s] [] = .ok (.v (.tup ((due h0 h1 p0 p1 p2 p4 t s).map .str))) st := by
  unfold f_law_lacks_q d_law_lacks_q m_law_lacks_q hV mV due
  rcases hp with rfl | rfl
  all_goals
    apply Exists.intro
    simp only [m_t, m_f, m_same, m_ok, m_bad, m_v, m_l, m_str, m_int, m_bl, m_tup, m_cons, m_some, m_lst, m_nx, m_rt, m_tf, m_ft, m_kf, m_tb, m_len, m_add, m_add2, m_le, m_lt, m_emp, m_beqS, m_nrs, nrs_app, nrs_map, m_as, as_map, b_ok, b_bad, l_some, d_k, d_g, d_x, x_var, d_tup, x_tup, d_lst, x_lst, d_op1, d_op2, x_op2, d_sl, x_sl1, x_sl2, d_optT, d_optF, x_opt, d_and, x_and, d_or, x_or, d_not, x_not, d_ite, x_ite, x_ite2, d_call, x_call, x_call2, d_nil, d_cons, x_cons, x_cons2, t_skip, t_seq, af_nx, af_rt, af_bk, af_ct, af_m1, af_m2, af_m1', af_m2', t_asg, x_asg, x_nx, t_ex, x_ex, t_ret, x_ret, t_retN, t_ite, x_if, x_if2, u_tg, d_run, ou_rt, ou_nx, c_imp, k_v, k_l, k_m, k_m2, as_ap, ap_ss, v_eq, v_ne, v_lt, v_le, v_gt, v_ge, v_addI, v_addS, v_addT, v_addl, v_addr, v_addm, v_sub, v_in, v_notin, v_ixT, v_app, v_ext, v_tup, v_slT, c_pur, pr_ok, q_e0, q_0e, emp_map, v_sor, w_sor, w_srt, wAdd, wIn, wNotIn, wApp, wExt, wS2, wSort, wTup, at_lit, at_last, q_ss, q_ii, q_bb, q_tt, q_ll, q_vs, q_vi, q_vt, q_nil, q_nilc, q_cnil, q_cons, q_any0, q_any1, q_anyS, as_nil, as_cons, lb_cc, lb_nc, lb_cn, lb_nn, seqR, seqV, truthV, settle, settles, isNil, pre2, pre3, intOf, bindT, bindTs, permute, isV, wipeE, List.length_cons, List.length_nil, List.getElem?_cons_zero, List.getElem?_cons_succ, List.set_cons_zero, List.set_cons_succ, List.map_cons, List.map_nil, List.replicate, List.append, List.cons_append, List.nil_append, true_and, and_true, if_true, if_false, Bool.false_eq_true, Option.bind, Bool.not_true, Bool.not_false, Bool.true_and, Bool.false_and, Bool.and_true, Bool.and_false, Bool.or_true, Bool.or_false, Bool.true_or, Bool.false_or, lstAt, ownL, mutAt, dicAt, Option.map, Option.map_some, Option.map_none, List.getElem?_nil, keyOk, Bool.or_self, Bool.and_self, Nat.zero_le, Nat.reduceAdd, Nat.reduceSub, Nat.reduceLT, Nat.reduceLeDiff, Nat.reduceEqDiff, Nat.reduceBEq, beq_self_eq_true, Nat.zero_add, Nat.add_zero, List.length_map, top, List.length_append, List.all_cons, List.all_nil, nrR, Val.nr, Val.nrs, pureVal, and_self, List.filterMap_cons, List.filterMap_nil, l_for0, l_for1, l_comp0, l_comp1, List.getElem?_concat_length, List.length_set]
    refine congrArg (fun z => Res.ok (RV.v (Val.tup (List.map Val.str z))) _) ?_
    generalize (h1 == [102, 111, 114, 99, 101, 100]) = b1
    generalize (p0 == [102, 111, 114, 99, 101, 100]) = b2
    generalize (p0 == [110, 111, 110, 101]) = b3
    generalize (h0 == [102, 111, 114, 99, 101, 100]) = b4
    generalize (p2 == [102, 111, 114, 99, 101, 100]) = b5
    generalize (p1 == [102, 111, 114, 99, 101, 100]) = b6
    generalize t.contains [97, 98, 111, 114, 116] = b7
    generalize t.contains [99, 111, 109, 109, 105, 116] = b8
    revert b1 b2 b3 b4 b5 b6 b7 b8 s
    decide +kernel
end
end Law
end
section
set_option Elab.async false
set_option maxRecDepth 100000
set_option linter.all false
namespace Law
open Mi
theorem LL_ok : ∀ b1 b2 b3 b4 b5 b6 b7 b8 p s : Bool, vOks 58 ((LL b1 b2 b3 b4 b5 b6 b7 b8 p s).map .str) = true ∧ dszs (dOfs ((LL b1 b2 b3 b4 b5 b6 b7 b8 p s).map .str)) ≤ 2000 := by decide +kernel
/-- the strengths, the thanks, the presumptions -/
def SD (x : List Nat) : Prop := x = [110, 111, 110, 101] ∨ x = [108, 97, 122, 121] ∨ x = [102, 111, 114, 99, 101, 100]
def TD (t : List (List Nat)) : Prop := t = [] ∨ t = [[97, 98, 111, 114, 116]] ∨ t = [[99, 111, 109, 109, 105, 116]] ∨ t = [[97, 98, 111, 114, 116], [99, 111, 109, 109, 105, 116]]
def PD (x : List Nat) : Prop := x = [97, 98, 111, 114, 116] ∨ x = [99, 111, 109, 109, 105, 116]
theorem SD.ok {x : List Nat} (h : SD x) : (x.all fun c => decide (c < 4294967296)) = true ∧ x.length ≤ 6 := by rcases h with rfl | rfl | rfl <;> decide
theorem PD.ok {x : List Nat} (h : PD x) : (x.all fun c => decide (c < 4294967296)) = true ∧ x.length ≤ 6 := by rcases h with rfl | rfl <;> decide
theorem TD.ok {t : List (List Nat)} (h : TD t) : vOks 57 (t.map .str) = true ∧ dszs (dOfs (t.map .str)) ≤ 200 := by rcases h with rfl | rfl | rfl | rfl <;> decide
section
variable {h0 h1 h2 p0 p1 p2 p4 : List Nat} {t : List (List Nat)} {s : Bool}
theorem h_nr : (hV h0 h1 h2).nr = true := rfl
theorem m_nr : (mV p0 p1 p2 p4 t s).nr = true := by simp [mV, Val.nr, Val.nrs, nrs_map]
theorem hm_ok (a0 : SD h0) (a1 : SD h1) (a2 : SD h2) (b0 : SD p0) (b1 : SD p1) (b2 : SD p2) (b3 : TD t) (b4 : PD p4) : vOks 59 [hV h0 h1 h2, mV p0 p1 p2 p4 t s] = true ∧ dszs (dOfs [hV h0 h1 h2, mV p0 p1 p2 p4 t s]) + 2 ≤ top := by
  have l0 := a0.ok; have l1 := a1.ok; have l2 := a2.ok; have k0 := b0.ok; have k1 := b1.ok; have k2 := b2.ok; have k3 := b3.ok; have k4 := b4.ok
  constructor
  · simp only [hV, mV, vOks, vOk, l0.1, l1.1, l2.1, k0.1, k1.1, k2.1, k3.1, k4.1, Bool.and_self]
  · simp only [hV, mV, dOf, dOfs, dsz, dszs, len_toStr, top]
    have := l0.2; have := l1.2; have := l2.2; have := k0.2; have := k1.2; have := k2.2; have := k3.2; have := k4.2
    omega
theorem fits_ok (hp : PD p4) : ∃ st, f_fits [hV h0 h1 h2, mV p0 p1 p2 p4 t s] [] = .ok (.v (.bl (due h0 h1 p0 p1 p2 p4 t s).isEmpty)) st := by
  obtain ⟨st1, e1⟩ := lacks_ok h0 h1 h2 p0 p1 p2 p4 t s hp
  unfold f_fits d_fits m_fits
  apply Exists.intro
  simp only [e1, h_nr, m_nr, m_t, m_f, m_same, m_ok, m_bad, m_v, m_l, m_str, m_int, m_bl, m_tup, m_cons, m_some, m_lst, m_nx, m_rt, m_tf, m_ft, m_kf, m_tb, m_len, m_add, m_add2, m_le, m_lt, m_emp, m_beqS, m_nrs, nrs_app, nrs_map, m_as, as_map, b_ok, b_bad, l_some, d_k, d_g, d_x, x_var, d_tup, x_tup, d_lst, x_lst, d_op1, d_op2, x_op2, d_sl, x_sl1, x_sl2, d_optT, d_optF, x_opt, d_and, x_and, d_or, x_or, d_not, x_not, d_ite, x_ite, x_ite2, d_call, x_call, x_call2, d_nil, d_cons, x_cons, x_cons2, t_skip, t_seq, af_nx, af_rt, af_bk, af_ct, af_m1, af_m2, af_m1', af_m2', t_asg, x_asg, x_nx, t_ex, x_ex, t_ret, x_ret, t_retN, t_ite, x_if, x_if2, u_tg, d_run, ou_rt, ou_nx, c_imp, k_v, k_l, k_m, k_m2, as_ap, ap_ss, v_eq, v_ne, v_lt, v_le, v_gt, v_ge, v_addI, v_addS, v_addT, v_addl, v_addr, v_addm, v_sub, v_in, v_notin, v_ixT, v_app, v_ext, v_tup, v_slT, c_pur, pr_ok, q_e0, q_0e, emp_map, v_sor, w_sor, w_srt, wAdd, wIn, wNotIn, wApp, wExt, wS2, wSort, wTup, at_lit, at_last, q_ss, q_ii, q_bb, q_tt, q_ll, q_vs, q_vi, q_vt, q_nil, q_nilc, q_cnil, q_cons, q_any0, q_any1, q_anyS, as_nil, as_cons, lb_cc, lb_nc, lb_cn, lb_nn, seqR, seqV, truthV, settle, settles, isNil, pre2, pre3, intOf, bindT, bindTs, permute, isV, wipeE, List.length_cons, List.length_nil, List.getElem?_cons_zero, List.getElem?_cons_succ, List.set_cons_zero, List.set_cons_succ, List.map_cons, List.map_nil, List.replicate, List.append, List.cons_append, List.nil_append, true_and, and_true, if_true, if_false, Bool.false_eq_true, Option.bind, Bool.not_true, Bool.not_false, Bool.true_and, Bool.false_and, Bool.and_true, Bool.and_false, Bool.or_true, Bool.or_false, Bool.true_or, Bool.false_or, lstAt, ownL, mutAt, dicAt, Option.map, Option.map_some, Option.map_none, List.getElem?_nil, keyOk, Bool.or_self, Bool.and_self, Nat.zero_le, Nat.reduceAdd, Nat.reduceSub, Nat.reduceLT, Nat.reduceLeDiff, Nat.reduceEqDiff, Nat.reduceBEq, beq_self_eq_true, Nat.zero_add, Nat.add_zero, List.length_map, top, List.length_append, List.all_cons, List.all_nil, nrR, Val.nr, Val.nrs, pureVal, and_self, List.filterMap_cons, List.filterMap_nil, l_for0, l_for1, l_comp0, l_comp1, List.getElem?_concat_length, List.length_set]
  rfl
theorem right_ok (a0 : SD h0) (a1 : SD h1) (a2 : SD h2) (b0 : SD p0) (b1 : SD p1) (b2 : SD p2) (b3 : TD t) (hp : PD p4) (k : Bool) : ∃ st, f_law_is_right_q [hV h0 h1 h2, mV p0 p1 p2 p4 t s, .bl k] [] = .ok (.v (.bl true)) st := by
  obtain ⟨st1, e1⟩ := lacks_ok h0 h1 h2 p0 p1 p2 p4 t s hp
  obtain ⟨st2, e2⟩ := fits_ok (h0 := h0) (h1 := h1) (h2 := h2) (p0 := p0) (p1 := p1) (p2 := p2) (t := t) (s := s) hp
  obtain ⟨st3, e3⟩ := law_lacks_ok h0 h1 h2 p0 p1 p2 p4 t s hp
  obtain ⟨g1, g2⟩ := hm_ok (s := s) a0 a1 a2 b0 b1 b2 b3 hp
  have u : vOks 59 [.tup ((due h0 h1 p0 p1 p2 p4 t s).map .str), .bl (due h0 h1 p0 p1 p2 p4 t s).isEmpty] = true ∧ dszs (dOfs [.tup ((due h0 h1 p0 p1 p2 p4 t s).map .str), .bl (due h0 h1 p0 p1 p2 p4 t s).isEmpty]) + 2 ≤ top := by
    obtain ⟨w1, w2⟩ := LL_ok (h1 == [102, 111, 114, 99, 101, 100]) (p0 == [102, 111, 114, 99, 101, 100]) (p0 == [110, 111, 110, 101]) (h0 == [102, 111, 114, 99, 101, 100]) (p2 == [102, 111, 114, 99, 101, 100]) (p1 == [102, 111, 114, 99, 101, 100]) (t.contains [97, 98, 111, 114, 116]) (t.contains [99, 111, 109, 109, 105, 116]) (p4 == [99, 111, 109, 109, 105, 116]) s
    have w1' : vOks 58 ((due h0 h1 p0 p1 p2 p4 t s).map .str) = true := w1
    have w2' : dszs (dOfs ((due h0 h1 p0 p1 p2 p4 t s).map .str)) ≤ 2000 := w2
    constructor
    · simp only [vOks, vOk, w1', Bool.and_self]
    · simp only [dOf, dOfs, dsz, dszs, top]; omega
  generalize hX : [Val.tup ((due h0 h1 p0 p1 p2 p4 t s).map .str), Val.bl (due h0 h1 p0 p1 p2 p4 t s).isEmpty] = X at u
  have w0 := v_reprR (st := [Obj.lst X]) (n := 0) rfl u.1 u.2
  have w1 := v_reprR (st := [Obj.lst X, Obj.lst X]) (n := 1) rfl u.1 u.2
  unfold f_law_is_right_q d_law_is_right_q m_law_is_right_q
  cases k
  all_goals
    apply Exists.intro
    simp only [e1, e2, e3, hX, w0, w1, h_nr, m_nr, v_reprL g1 g2, v_reprL u.1 u.2, m_t, m_f, m_same, m_ok, m_bad, m_v, m_l, m_str, m_int, m_bl, m_tup, m_cons, m_some, m_lst, m_nx, m_rt, m_tf, m_ft, m_kf, m_tb, m_len, m_add, m_add2, m_le, m_lt, m_emp, m_beqS, m_nrs, nrs_app, nrs_map, m_as, as_map, b_ok, b_bad, l_some, d_k, d_g, d_x, x_var, d_tup, x_tup, d_lst, x_lst, d_op1, d_op2, x_op2, d_sl, x_sl1, x_sl2, d_optT, d_optF, x_opt, d_and, x_and, d_or, x_or, d_not, x_not, d_ite, x_ite, x_ite2, d_call, x_call, x_call2, d_nil, d_cons, x_cons, x_cons2, t_skip, t_seq, af_nx, af_rt, af_bk, af_ct, af_m1, af_m2, af_m1', af_m2', t_asg, x_asg, x_nx, t_ex, x_ex, t_ret, x_ret, t_retN, t_ite, x_if, x_if2, u_tg, d_run, ou_rt, ou_nx, c_imp, k_v, k_l, k_m, k_m2, as_ap, ap_ss, v_eq, v_ne, v_lt, v_le, v_gt, v_ge, v_addI, v_addS, v_addT, v_addl, v_addr, v_addm, v_sub, v_in, v_notin, v_ixT, v_app, v_ext, v_tup, v_slT, c_pur, pr_ok, q_e0, q_0e, emp_map, v_sor, w_sor, w_srt, wAdd, wIn, wNotIn, wApp, wExt, wS2, wSort, wTup, at_lit, at_last, q_ss, q_ii, q_bb, q_tt, q_ll, q_vs, q_vi, q_vt, q_nil, q_nilc, q_cnil, q_cons, q_any0, q_any1, q_anyS, as_nil, as_cons, lb_cc, lb_nc, lb_cn, lb_nn, seqR, seqV, truthV, settle, settles, isNil, pre2, pre3, intOf, bindT, bindTs, permute, isV, wipeE, List.length_cons, List.length_nil, List.getElem?_cons_zero, List.getElem?_cons_succ, List.set_cons_zero, List.set_cons_succ, List.map_cons, List.map_nil, List.replicate, List.append, List.cons_append, List.nil_append, true_and, and_true, if_true, if_false, Bool.false_eq_true, Option.bind, Bool.not_true, Bool.not_false, Bool.true_and, Bool.false_and, Bool.and_true, Bool.and_false, Bool.or_true, Bool.or_false, Bool.true_or, Bool.false_or, lstAt, ownL, mutAt, dicAt, Option.map, Option.map_some, Option.map_none, List.getElem?_nil, keyOk, Bool.or_self, Bool.and_self, Nat.zero_le, Nat.reduceAdd, Nat.reduceSub, Nat.reduceLT, Nat.reduceLeDiff, Nat.reduceEqDiff, Nat.reduceBEq, beq_self_eq_true, Nat.zero_add, Nat.add_zero, List.length_map, top, List.length_append, List.all_cons, List.all_nil, nrR, Val.nr, Val.nrs, pureVal, and_self, List.filterMap_cons, List.filterMap_nil, l_for0, l_for1, l_comp0, l_comp1, List.getElem?_concat_length, List.length_set]
    rfl
end
end Law
end
section
set_option Elab.async false
set_option maxRecDepth 100000
set_option linter.all false
namespace Law
open Mi
def sDeep : List Nat := [100, 101, 101, 112]
def sState : List Nat := [115, 116, 97, 116, 101]
structure Dk (st : Store) (d l : Nat) : Prop where
  ne : d ≠ l
  dic : ∃ s : Int, 0 ≤ s ∧ s < 2305843009213693951 ∧ st[d]? = some (.dic false [(.str [100, 101, 101, 112], .ref l), (.str [115, 116, 97, 116, 101], .int s)])
  lst : ∃ xs : List Int, (∀ x ∈ xs, 0 ≤ x) ∧ xs.length ≤ 63 ∧ st[l]? = some (.lst (xs.map .int))
structure Fr (d l : Nat) (st st' : Store) : Prop where
  len : st.length ≤ st'.length
  same : ∀ n, n < st.length → n ≠ d → n ≠ l → st'[n]? = st[n]?
theorem Fr.refl {d l : Nat} {st : Store} : Fr d l st st := ⟨Nat.le_refl _, fun _ _ _ _ => rfl⟩
theorem Fr.trans {d l : Nat} {a b c : Store} (h : Fr d l a b) (g : Fr d l b c) : Fr d l a c := ⟨Nat.le_trans h.len g.len, fun n hn h1 h2 => (g.same n (Nat.lt_of_lt_of_le hn h.len) h1 h2).trans (h.same n hn h1 h2)⟩
theorem Fr.app {d l : Nat} {st : Store} {o : Obj} : Fr d l st (st ++ [o]) := ⟨by simp, fun n hn _ _ => List.getElem?_append_left hn⟩
theorem Fr.get {d l n : Nat} {st st' : Store} {o : Obj} (h : Fr d l st st') (e : st[n]? = some o) (h1 : n ≠ d) (h2 : n ≠ l) : st'[n]? = some o := (h.same n (List.getElem?_eq_some_iff.mp e).1 h1 h2).trans e
theorem Dk.app {d l : Nat} {st : Store} {o : Obj} (h : Dk st d l) : Dk (st ++ [o]) d l := by
  obtain ⟨ne, ⟨s, s0, s1, ed⟩, xs, x0, xl, el⟩ := h
  exact ⟨ne, ⟨s, s0, s1, by rw [List.getElem?_append_left (List.getElem?_eq_some_iff.mp ed).1]; exact ed⟩, xs, x0, xl, by rw [List.getElem?_append_left (List.getElem?_eq_some_iff.mp el).1]; exact el⟩
theorem Dk.ltd {d l : Nat} {st : Store} (h : Dk st d l) : d < st.length := by
  obtain ⟨_, ⟨s, _, _, ed⟩, _⟩ := h
  exact (List.getElem?_eq_some_iff.mp ed).1
theorem Dk.ltl {d l : Nat} {st : Store} (h : Dk st d l) : l < st.length := by
  obtain ⟨_, _, xs, _, _, el⟩ := h
  exact (List.getElem?_eq_some_iff.mp el).1
theorem draw_ok {st : Store} {d l : Nat} (h : Dk st d l) {m : Int} (hm : m ≤ 100000) : Ok (f_law_draw_q [.ref d, .int m] st) fun r st' => ∃ i : Int, r = .v (.int i) ∧ 0 ≤ i ∧ (i < m ∨ (m < 2 ∧ i = 0)) ∧ Dk st' d l ∧ Fr d l st st' := by
  obtain ⟨ne, ⟨s, s0, s1, ed⟩, xs, x0, xl, el⟩ := h
  unfold f_law_draw_q d_law_draw_q m_law_draw_q
  by_cases hm2 : m < 2
  · simp only [hm2, decide_true, ↓k_ok, ↓k_bad, ↓k_bind, ↓k_ite, ↓k_lift, ↓k_noX, ↓k_optT, ↓k_optF, ↓k_op2T, ↓k_op2F, ↓k_optCT, ↓k_optCF, ↓on_some, ↓on_none, ↓e_k, ↓e_g, ↓e_x, ↓e_tup, ↓e_lst, ↓e_op1, ↓e_op2, ↓e_op3, ↓e_sl, ↓e_and, ↓e_or, ↓e_not, ↓e_ite, ↓e_chain, ↓e_call, ↓e_nil, ↓e_cons, ↓e_dic, ↓e_comp, ↓s_skip, ↓s_seq, ↓s_asg, ↓s_ex, ↓s_ret, ↓s_retN, ↓s_brk, ↓s_cont, ↓s_ite, ↓s_fo, ↓g_tg, ↓g_sub, ↓r_run, ↓r_call, ↓r_pure, ↓l_for0, ↓l_for1, ↓l_comp0, ↓l_comp1, ↓p_eq, ↓p_ne, ↓p_lt, ↓p_le, ↓p_gt, ↓p_ge, ↓p_addI, ↓p_addS, ↓p_addT, ↓p_sub, ↓p_mul, ↓p_mod, ↓p_fdiv, ↓p_pow, ↓p_in, ↓p_notin, ↓p_ixT, ↓p_neg, ↓p_abs, ↓p_int, ↓p_intB, ↓p_lenS, ↓p_tuple, ↓p_list, ↓p_repr, ↓p_rev, ↓p_slT, ↓p_slr, ↓p_sll, ↓vb_ss, ↓p_addl, ↓p_addr, ↓p_ixl, ↓p_ixri, ↓p_ixrs, ↓p_app, ↓p_ext, ↓p_popa, ↓p_popz, ↓p_ins, ↓p_lenT, ↓p_lenl, ↓p_lenr, ↓p_set, ↓p_isN, ↓p_noN, ↓p_sort, ↓as_nil, ↓as_cons, ↓lb_cc, ↓lb_nc, ↓lb_cn, ↓lb_nn, ↓onE_some, ↓onE_none, ↓at_lit, ↓at_last, ↓q_ss, ↓q_ii, ↓q_bb, ↓q_tt, ↓q_ll, ↓q_vs, ↓q_vi, ↓q_vt, ↓q_nil, ↓q_nilc, ↓q_cnil, ↓q_cons, ↓q_any0, ↓q_any1, ↓q_anyS, seqR, seqV, truthV, settle, settles, isNil, pre2, pre3, intOf, bindT, bindTs, permute, isV, wipeE, List.length_cons, List.length_nil, List.getElem?_cons_zero, List.getElem?_cons_succ, List.set_cons_zero, List.set_cons_succ, List.map_cons, List.map_nil, List.replicate, List.append, List.cons_append, List.nil_append, true_and, and_true, if_true, if_false, Bool.false_eq_true, Option.bind, Bool.not_true, Bool.not_false, Bool.true_and, Bool.false_and, Bool.and_true, Bool.and_false, Bool.or_true, Bool.or_false, Bool.true_or, Bool.false_or, lstAt, ownL, mutAt, dicAt, Option.map, Option.map_some, Option.map_none, List.getElem?_nil, keyOk, Bool.or_self, Bool.and_self, Nat.zero_le, Nat.reduceAdd, Nat.reduceSub, Nat.reduceLT, Nat.reduceLeDiff, Nat.reduceEqDiff, Nat.reduceBEq, beq_self_eq_true, Nat.zero_add, Nat.add_zero, List.length_map, top, List.length_append, List.all_cons, List.all_nil, nrR, Val.nr, Val.nrs, pureVal, and_self, List.filterMap_cons, List.filterMap_nil, l_for0, l_for1, l_comp0, l_comp1, List.getElem?_concat_length, List.length_set]
    exact ⟨0, rfl, Int.le_refl _, .inr rfl, ⟨ne, ⟨s, s0, s1, ed⟩, xs, x0, xl, el⟩, .refl⟩
  · have hq := eq_l0 el
    have lg : m.natAbs.log2 < 9000 := by
      have : m.natAbs < 2 ^ 9000 := Nat.lt_of_lt_of_le (by omega : m.natAbs < 2 ^ 17) (Nat.pow_le_pow_right (by decide) (by decide))
      exact (Nat.log2_lt (by omega)).mpr this
    rcases List.eq_nil_or_concat xs with rfl | ⟨ys, x, rfl⟩
    · have sd : ∀ o, (List.set st d o)[d]? = some o := fun o => set_self ed
      simp only [hm2, ed, el, hq, sd, decide_false, kget, kput, List.any_cons, List.any_nil, ↓k_ok, ↓k_bad, ↓k_bind, ↓k_ite, ↓k_lift, ↓k_noX, ↓k_optT, ↓k_optF, ↓k_op2T, ↓k_op2F, ↓k_optCT, ↓k_optCF, ↓on_some, ↓on_none, ↓e_k, ↓e_g, ↓e_x, ↓e_tup, ↓e_lst, ↓e_op1, ↓e_op2, ↓e_op3, ↓e_sl, ↓e_and, ↓e_or, ↓e_not, ↓e_ite, ↓e_chain, ↓e_call, ↓e_nil, ↓e_cons, ↓e_dic, ↓e_comp, ↓s_skip, ↓s_seq, ↓s_asg, ↓s_ex, ↓s_ret, ↓s_retN, ↓s_brk, ↓s_cont, ↓s_ite, ↓s_fo, ↓g_tg, ↓g_sub, ↓r_run, ↓r_call, ↓r_pure, ↓l_for0, ↓l_for1, ↓l_comp0, ↓l_comp1, ↓p_eq, ↓p_ne, ↓p_lt, ↓p_le, ↓p_gt, ↓p_ge, ↓p_addI, ↓p_addS, ↓p_addT, ↓p_sub, ↓p_mul, ↓p_mod, ↓p_fdiv, ↓p_pow, ↓p_in, ↓p_notin, ↓p_ixT, ↓p_neg, ↓p_abs, ↓p_int, ↓p_intB, ↓p_lenS, ↓p_tuple, ↓p_list, ↓p_repr, ↓p_rev, ↓p_slT, ↓p_slr, ↓p_sll, ↓vb_ss, ↓p_addl, ↓p_addr, ↓p_ixl, ↓p_ixri, ↓p_ixrs, ↓p_app, ↓p_ext, ↓p_popa, ↓p_popz, ↓p_ins, ↓p_lenT, ↓p_lenl, ↓p_lenr, ↓p_set, ↓p_isN, ↓p_noN, ↓p_sort, ↓as_nil, ↓as_cons, ↓lb_cc, ↓lb_nc, ↓lb_cn, ↓lb_nn, ↓onE_some, ↓onE_none, ↓at_lit, ↓at_last, ↓q_ss, ↓q_ii, ↓q_bb, ↓q_tt, ↓q_ll, ↓q_vs, ↓q_vi, ↓q_vt, ↓q_nil, ↓q_nilc, ↓q_cnil, ↓q_cons, ↓q_any0, ↓q_any1, ↓q_anyS, seqR, seqV, truthV, settle, settles, isNil, pre2, pre3, intOf, bindT, bindTs, permute, isV, wipeE, List.length_cons, List.length_nil, List.getElem?_cons_zero, List.getElem?_cons_succ, List.set_cons_zero, List.set_cons_succ, List.map_cons, List.map_nil, List.replicate, List.append, List.cons_append, List.nil_append, true_and, and_true, if_true, if_false, Bool.false_eq_true, Option.bind, Bool.not_true, Bool.not_false, Bool.true_and, Bool.false_and, Bool.and_true, Bool.and_false, Bool.or_true, Bool.or_false, Bool.true_or, Bool.false_or, lstAt, ownL, mutAt, dicAt, Option.map, Option.map_some, Option.map_none, List.getElem?_nil, keyOk, Bool.or_self, Bool.and_self, Nat.zero_le, Nat.reduceAdd, Nat.reduceSub, Nat.reduceLT, Nat.reduceLeDiff, Nat.reduceEqDiff, Nat.reduceBEq, beq_self_eq_true, Nat.zero_add, Nat.add_zero, List.length_map, top, List.length_append, List.all_cons, List.all_nil, nrR, Val.nr, Val.nrs, pureVal, and_self, List.filterMap_cons, List.filterMap_nil, l_for0, l_for1, l_comp0, l_comp1, List.getElem?_concat_length, List.length_set]
      refine ⟨.inr (.inl (by decide)), by decide, ?_⟩
      have v0 : 0 ≤ (s * 1181783497276652981 + 88172645463325) % 2305843009213693951 := Int.emod_nonneg _ (by decide)
      have v1 : (s * 1181783497276652981 + 88172645463325) % 2305843009213693951 < 2305843009213693951 := Int.emod_lt_of_pos _ (by decide)
      generalize (s * 1181783497276652981 + 88172645463325) % 2305843009213693951 = v at v0 v1
      refine ⟨.inl (by omega), .inl (by decide), by decide, ⟨by decide, by decide⟩, by omega, _, rfl, Int.emod_nonneg _ (by omega), .inl (Int.emod_lt_of_pos _ (by omega)), ⟨ne, ⟨v, v0, v1, set_self ed⟩, [], x0, xl, ?_⟩, by simp, fun n _ h1 h2 => set_ne (Ne.symm h1)⟩
      rw [set_ne ne]; exact el
    · rw [List.concat_eq_append] at *
      have hg : (List.map Val.int (ys ++ [x]))[ys.length + 1 - 1]? = some (.int x) := by simp
      have hdl : (List.map Val.int (ys ++ [x])).dropLast = ys.map .int := by simp
      have he : (List.map Val.int (ys ++ [x])).isEmpty = false := by simp
      have sl : ∀ o, (List.set st l o)[l]? = some o := fun o => set_self el
      have sd : ∀ o, (List.set st l o)[d]? = st[d]? := fun o => set_ne (Ne.symm ne)
      have hx0 : 0 ≤ x := x0 x (by simp)
      have hy : ∀ z ∈ ys, 0 ≤ z := fun z hz => x0 z (by simp [hz])
      have hyl : ys.length + 1 ≤ 63 := by simpa using xl
      by_cases hx : m ≤ x
      · simp only [hm2, ed, el, hq, hg, hdl, he, sl, sd, hx, decide_true, decide_false, kget, kput, List.set_set, ↓k_ok, ↓k_bad, ↓k_bind, ↓k_ite, ↓k_lift, ↓k_noX, ↓k_optT, ↓k_optF, ↓k_op2T, ↓k_op2F, ↓k_optCT, ↓k_optCF, ↓on_some, ↓on_none, ↓e_k, ↓e_g, ↓e_x, ↓e_tup, ↓e_lst, ↓e_op1, ↓e_op2, ↓e_op3, ↓e_sl, ↓e_and, ↓e_or, ↓e_not, ↓e_ite, ↓e_chain, ↓e_call, ↓e_nil, ↓e_cons, ↓e_dic, ↓e_comp, ↓s_skip, ↓s_seq, ↓s_asg, ↓s_ex, ↓s_ret, ↓s_retN, ↓s_brk, ↓s_cont, ↓s_ite, ↓s_fo, ↓g_tg, ↓g_sub, ↓r_run, ↓r_call, ↓r_pure, ↓l_for0, ↓l_for1, ↓l_comp0, ↓l_comp1, ↓p_eq, ↓p_ne, ↓p_lt, ↓p_le, ↓p_gt, ↓p_ge, ↓p_addI, ↓p_addS, ↓p_addT, ↓p_sub, ↓p_mul, ↓p_mod, ↓p_fdiv, ↓p_pow, ↓p_in, ↓p_notin, ↓p_ixT, ↓p_neg, ↓p_abs, ↓p_int, ↓p_intB, ↓p_lenS, ↓p_tuple, ↓p_list, ↓p_repr, ↓p_rev, ↓p_slT, ↓p_slr, ↓p_sll, ↓vb_ss, ↓p_addl, ↓p_addr, ↓p_ixl, ↓p_ixri, ↓p_ixrs, ↓p_app, ↓p_ext, ↓p_popa, ↓p_popz, ↓p_ins, ↓p_lenT, ↓p_lenl, ↓p_lenr, ↓p_set, ↓p_isN, ↓p_noN, ↓p_sort, ↓as_nil, ↓as_cons, ↓lb_cc, ↓lb_nc, ↓lb_cn, ↓lb_nn, ↓onE_some, ↓onE_none, ↓at_lit, ↓at_last, ↓q_ss, ↓q_ii, ↓q_bb, ↓q_tt, ↓q_ll, ↓q_vs, ↓q_vi, ↓q_vt, ↓q_nil, ↓q_nilc, ↓q_cnil, ↓q_cons, ↓q_any0, ↓q_any1, ↓q_anyS, seqR, seqV, truthV, settle, settles, isNil, pre2, pre3, intOf, bindT, bindTs, permute, isV, wipeE, List.length_cons, List.length_nil, List.getElem?_cons_zero, List.getElem?_cons_succ, List.set_cons_zero, List.set_cons_succ, List.map_cons, List.map_nil, List.replicate, List.append, List.cons_append, List.nil_append, true_and, and_true, if_true, if_false, Bool.false_eq_true, Option.bind, Bool.not_true, Bool.not_false, Bool.true_and, Bool.false_and, Bool.and_true, Bool.and_false, Bool.or_true, Bool.or_false, Bool.true_or, Bool.false_or, lstAt, ownL, mutAt, dicAt, Option.map, Option.map_some, Option.map_none, List.getElem?_nil, keyOk, Bool.or_self, Bool.and_self, Nat.zero_le, Nat.reduceAdd, Nat.reduceSub, Nat.reduceLT, Nat.reduceLeDiff, Nat.reduceEqDiff, Nat.reduceBEq, beq_self_eq_true, Nat.zero_add, Nat.add_zero, List.length_map, top, List.length_append, List.all_cons, List.all_nil, nrR, Val.nr, Val.nrs, pureVal, and_self, List.filterMap_cons, List.filterMap_nil, l_for0, l_for1, l_comp0, l_comp1, List.getElem?_concat_length, List.length_set]
        refine ⟨⟨by omega, lg⟩, by omega, by omega, _, rfl, Int.emod_nonneg _ (by omega), .inl (Int.emod_lt_of_pos _ (by omega)), ⟨ne, ⟨s, s0, s1, ?_⟩, ys ++ [x / m], fun z hz => ?_, by simpa using hyl, ?_⟩, by simp, fun n _ h1 h2 => set_ne (Ne.symm h2)⟩
        · rw [set_ne (Ne.symm ne)]; exact ed
        · rcases List.mem_append.mp hz with h | h
          · exact hy z h
          · simp at h; subst h; exact Int.ediv_nonneg hx0 (by omega)
        · rw [set_self el]; simp
      · simp only [hm2, ed, el, hq, hg, hdl, he, sl, sd, hx, decide_false, kget, kput, ↓k_ok, ↓k_bad, ↓k_bind, ↓k_ite, ↓k_lift, ↓k_noX, ↓k_optT, ↓k_optF, ↓k_op2T, ↓k_op2F, ↓k_optCT, ↓k_optCF, ↓on_some, ↓on_none, ↓e_k, ↓e_g, ↓e_x, ↓e_tup, ↓e_lst, ↓e_op1, ↓e_op2, ↓e_op3, ↓e_sl, ↓e_and, ↓e_or, ↓e_not, ↓e_ite, ↓e_chain, ↓e_call, ↓e_nil, ↓e_cons, ↓e_dic, ↓e_comp, ↓s_skip, ↓s_seq, ↓s_asg, ↓s_ex, ↓s_ret, ↓s_retN, ↓s_brk, ↓s_cont, ↓s_ite, ↓s_fo, ↓g_tg, ↓g_sub, ↓r_run, ↓r_call, ↓r_pure, ↓l_for0, ↓l_for1, ↓l_comp0, ↓l_comp1, ↓p_eq, ↓p_ne, ↓p_lt, ↓p_le, ↓p_gt, ↓p_ge, ↓p_addI, ↓p_addS, ↓p_addT, ↓p_sub, ↓p_mul, ↓p_mod, ↓p_fdiv, ↓p_pow, ↓p_in, ↓p_notin, ↓p_ixT, ↓p_neg, ↓p_abs, ↓p_int, ↓p_intB, ↓p_lenS, ↓p_tuple, ↓p_list, ↓p_repr, ↓p_rev, ↓p_slT, ↓p_slr, ↓p_sll, ↓vb_ss, ↓p_addl, ↓p_addr, ↓p_ixl, ↓p_ixri, ↓p_ixrs, ↓p_app, ↓p_ext, ↓p_popa, ↓p_popz, ↓p_ins, ↓p_lenT, ↓p_lenl, ↓p_lenr, ↓p_set, ↓p_isN, ↓p_noN, ↓p_sort, ↓as_nil, ↓as_cons, ↓lb_cc, ↓lb_nc, ↓lb_cn, ↓lb_nn, ↓onE_some, ↓onE_none, ↓at_lit, ↓at_last, ↓q_ss, ↓q_ii, ↓q_bb, ↓q_tt, ↓q_ll, ↓q_vs, ↓q_vi, ↓q_vt, ↓q_nil, ↓q_nilc, ↓q_cnil, ↓q_cons, ↓q_any0, ↓q_any1, ↓q_anyS, seqR, seqV, truthV, settle, settles, isNil, pre2, pre3, intOf, bindT, bindTs, permute, isV, wipeE, List.length_cons, List.length_nil, List.getElem?_cons_zero, List.getElem?_cons_succ, List.set_cons_zero, List.set_cons_succ, List.map_cons, List.map_nil, List.replicate, List.append, List.cons_append, List.nil_append, true_and, and_true, if_true, if_false, Bool.false_eq_true, Option.bind, Bool.not_true, Bool.not_false, Bool.true_and, Bool.false_and, Bool.and_true, Bool.and_false, Bool.or_true, Bool.or_false, Bool.true_or, Bool.false_or, lstAt, ownL, mutAt, dicAt, Option.map, Option.map_some, Option.map_none, List.getElem?_nil, keyOk, Bool.or_self, Bool.and_self, Nat.zero_le, Nat.reduceAdd, Nat.reduceSub, Nat.reduceLT, Nat.reduceLeDiff, Nat.reduceEqDiff, Nat.reduceBEq, beq_self_eq_true, Nat.zero_add, Nat.add_zero, List.length_map, top, List.length_append, List.all_cons, List.all_nil, nrR, Val.nr, Val.nrs, pureVal, and_self, List.filterMap_cons, List.filterMap_nil, l_for0, l_for1, l_comp0, l_comp1, List.getElem?_concat_length, List.length_set]
        refine ⟨by omega, _, rfl, Int.emod_nonneg _ (by omega), .inl (Int.emod_lt_of_pos _ (by omega)), ⟨ne, ⟨s, s0, s1, ?_⟩, ys, hy, by omega, ?_⟩, by simp, fun n _ h1 h2 => set_ne (Ne.symm h2)⟩
        · rw [set_ne (Ne.symm ne)]; exact ed
        · exact set_self el
/-- one of a tuple -/
theorem pick_T {st : Store} {d l : Nat} (h : Dk st d l) {xs : List Val} (h0 : xs ≠ []) (hl : xs.length ≤ 1000) : Ok (f_law_pick_q [.ref d, .tup xs] st) fun r st' => (∃ x ∈ xs, r = .v x) ∧ Dk st' d l ∧ Fr d l st st' := by
  unfold f_law_pick_q d_law_pick_q m_law_pick_q
  simp only [↓k_ok, ↓k_bad, ↓k_bind, ↓k_ite, ↓k_lift, ↓k_noX, ↓k_optT, ↓k_optF, ↓k_op2T, ↓k_op2F, ↓k_optCT, ↓k_optCF, ↓on_some, ↓on_none, ↓e_k, ↓e_g, ↓e_x, ↓e_tup, ↓e_lst, ↓e_op1, ↓e_op2, ↓e_op3, ↓e_sl, ↓e_and, ↓e_or, ↓e_not, ↓e_ite, ↓e_chain, ↓e_call, ↓e_nil, ↓e_cons, ↓e_dic, ↓e_comp, ↓s_skip, ↓s_seq, ↓s_asg, ↓s_ex, ↓s_ret, ↓s_retN, ↓s_brk, ↓s_cont, ↓s_ite, ↓s_fo, ↓g_tg, ↓g_sub, ↓r_run, ↓r_call, ↓r_pure, ↓l_for0, ↓l_for1, ↓l_comp0, ↓l_comp1, ↓p_eq, ↓p_ne, ↓p_lt, ↓p_le, ↓p_gt, ↓p_ge, ↓p_addI, ↓p_addS, ↓p_addT, ↓p_sub, ↓p_mul, ↓p_mod, ↓p_fdiv, ↓p_pow, ↓p_in, ↓p_notin, ↓p_ixT, ↓p_neg, ↓p_abs, ↓p_int, ↓p_intB, ↓p_lenS, ↓p_tuple, ↓p_list, ↓p_repr, ↓p_rev, ↓p_slT, ↓p_slr, ↓p_sll, ↓vb_ss, ↓p_addl, ↓p_addr, ↓p_ixl, ↓p_ixri, ↓p_ixrs, ↓p_app, ↓p_ext, ↓p_popa, ↓p_popz, ↓p_ins, ↓p_lenT, ↓p_lenl, ↓p_lenr, ↓p_set, ↓p_isN, ↓p_noN, ↓p_sort, ↓as_nil, ↓as_cons, ↓lb_cc, ↓lb_nc, ↓lb_cn, ↓lb_nn, ↓onE_some, ↓onE_none, ↓at_lit, ↓at_last, ↓q_ss, ↓q_ii, ↓q_bb, ↓q_tt, ↓q_ll, ↓q_vs, ↓q_vi, ↓q_vt, ↓q_nil, ↓q_nilc, ↓q_cnil, ↓q_cons, ↓q_any0, ↓q_any1, ↓q_anyS, seqR, seqV, truthV, settle, settles, isNil, pre2, pre3, intOf, bindT, bindTs, permute, isV, wipeE, List.length_cons, List.length_nil, List.getElem?_cons_zero, List.getElem?_cons_succ, List.set_cons_zero, List.set_cons_succ, List.map_cons, List.map_nil, List.replicate, List.append, List.cons_append, List.nil_append, true_and, and_true, if_true, if_false, Bool.false_eq_true, Option.bind, Bool.not_true, Bool.not_false, Bool.true_and, Bool.false_and, Bool.and_true, Bool.and_false, Bool.or_true, Bool.or_false, Bool.true_or, Bool.false_or, lstAt, ownL, mutAt, dicAt, Option.map, Option.map_some, Option.map_none, List.getElem?_nil, keyOk, Bool.or_self, Bool.and_self, Nat.zero_le, Nat.reduceAdd, Nat.reduceSub, Nat.reduceLT, Nat.reduceLeDiff, Nat.reduceEqDiff, Nat.reduceBEq, beq_self_eq_true, Nat.zero_add, Nat.add_zero, List.length_map, top, List.length_append, List.all_cons, List.all_nil, nrR, Val.nr, Val.nrs, pureVal, and_self, List.filterMap_cons, List.filterMap_nil, l_for0, l_for1, l_comp0, l_comp1, List.getElem?_concat_length, List.length_set]
  refine Ok.imp (draw_ok h (by omega)) ?_
  rintro r st1 ⟨i, rfl, i0, i1, k, f⟩
  have hpos : 0 < xs.length := List.length_pos_iff.mpr h0
  obtain ⟨n, rfl⟩ := Int.eq_ofNat_of_zero_le i0
  have hn : n < xs.length := by omega
  have e : xs[n]? = some xs[n] := List.getElem?_eq_getElem hn
  simp only [at_nat, e, ↓k_ok, ↓k_bad, ↓k_bind, ↓k_ite, ↓k_lift, ↓k_noX, ↓k_optT, ↓k_optF, ↓k_op2T, ↓k_op2F, ↓k_optCT, ↓k_optCF, ↓on_some, ↓on_none, ↓e_k, ↓e_g, ↓e_x, ↓e_tup, ↓e_lst, ↓e_op1, ↓e_op2, ↓e_op3, ↓e_sl, ↓e_and, ↓e_or, ↓e_not, ↓e_ite, ↓e_chain, ↓e_call, ↓e_nil, ↓e_cons, ↓e_dic, ↓e_comp, ↓s_skip, ↓s_seq, ↓s_asg, ↓s_ex, ↓s_ret, ↓s_retN, ↓s_brk, ↓s_cont, ↓s_ite, ↓s_fo, ↓g_tg, ↓g_sub, ↓r_run, ↓r_call, ↓r_pure, ↓l_for0, ↓l_for1, ↓l_comp0, ↓l_comp1, ↓p_eq, ↓p_ne, ↓p_lt, ↓p_le, ↓p_gt, ↓p_ge, ↓p_addI, ↓p_addS, ↓p_addT, ↓p_sub, ↓p_mul, ↓p_mod, ↓p_fdiv, ↓p_pow, ↓p_in, ↓p_notin, ↓p_ixT, ↓p_neg, ↓p_abs, ↓p_int, ↓p_intB, ↓p_lenS, ↓p_tuple, ↓p_list, ↓p_repr, ↓p_rev, ↓p_slT, ↓p_slr, ↓p_sll, ↓vb_ss, ↓p_addl, ↓p_addr, ↓p_ixl, ↓p_ixri, ↓p_ixrs, ↓p_app, ↓p_ext, ↓p_popa, ↓p_popz, ↓p_ins, ↓p_lenT, ↓p_lenl, ↓p_lenr, ↓p_set, ↓p_isN, ↓p_noN, ↓p_sort, ↓as_nil, ↓as_cons, ↓lb_cc, ↓lb_nc, ↓lb_cn, ↓lb_nn, ↓onE_some, ↓onE_none, ↓at_lit, ↓at_last, ↓q_ss, ↓q_ii, ↓q_bb, ↓q_tt, ↓q_ll, ↓q_vs, ↓q_vi, ↓q_vt, ↓q_nil, ↓q_nilc, ↓q_cnil, ↓q_cons, ↓q_any0, ↓q_any1, ↓q_anyS, seqR, seqV, truthV, settle, settles, isNil, pre2, pre3, intOf, bindT, bindTs, permute, isV, wipeE, List.length_cons, List.length_nil, List.getElem?_cons_zero, List.getElem?_cons_succ, List.set_cons_zero, List.set_cons_succ, List.map_cons, List.map_nil, List.replicate, List.append, List.cons_append, List.nil_append, true_and, and_true, if_true, if_false, Bool.false_eq_true, Option.bind, Bool.not_true, Bool.not_false, Bool.true_and, Bool.false_and, Bool.and_true, Bool.and_false, Bool.or_true, Bool.or_false, Bool.true_or, Bool.false_or, lstAt, ownL, mutAt, dicAt, Option.map, Option.map_some, Option.map_none, List.getElem?_nil, keyOk, Bool.or_self, Bool.and_self, Nat.zero_le, Nat.reduceAdd, Nat.reduceSub, Nat.reduceLT, Nat.reduceLeDiff, Nat.reduceEqDiff, Nat.reduceBEq, beq_self_eq_true, Nat.zero_add, Nat.add_zero, List.length_map, top, List.length_append, List.all_cons, List.all_nil, nrR, Val.nr, Val.nrs, pureVal, and_self, List.filterMap_cons, List.filterMap_nil, l_for0, l_for1, l_comp0, l_comp1, List.getElem?_concat_length, List.length_set]
  exact ⟨⟨_, List.getElem_mem hn, rfl⟩, k, f⟩
/-- one of a list that stands in the store -/
theorem pick_L {st : Store} {d l m : Nat} (h : Dk st d l) {xs : List Val} (em : st[m]? = some (.lst xs)) (hd : m ≠ d) (hl' : m ≠ l) (h0 : xs ≠ []) (hl : xs.length ≤ 1000) : Ok (f_law_pick_q [.ref d, .ref m] st) fun r st' => (∃ x ∈ xs, r = .v x) ∧ Dk st' d l ∧ Fr d l st st' := by
  unfold f_law_pick_q d_law_pick_q m_law_pick_q
  simp only [em, ↓k_ok, ↓k_bad, ↓k_bind, ↓k_ite, ↓k_lift, ↓k_noX, ↓k_optT, ↓k_optF, ↓k_op2T, ↓k_op2F, ↓k_optCT, ↓k_optCF, ↓on_some, ↓on_none, ↓e_k, ↓e_g, ↓e_x, ↓e_tup, ↓e_lst, ↓e_op1, ↓e_op2, ↓e_op3, ↓e_sl, ↓e_and, ↓e_or, ↓e_not, ↓e_ite, ↓e_chain, ↓e_call, ↓e_nil, ↓e_cons, ↓e_dic, ↓e_comp, ↓s_skip, ↓s_seq, ↓s_asg, ↓s_ex, ↓s_ret, ↓s_retN, ↓s_brk, ↓s_cont, ↓s_ite, ↓s_fo, ↓g_tg, ↓g_sub, ↓r_run, ↓r_call, ↓r_pure, ↓l_for0, ↓l_for1, ↓l_comp0, ↓l_comp1, ↓p_eq, ↓p_ne, ↓p_lt, ↓p_le, ↓p_gt, ↓p_ge, ↓p_addI, ↓p_addS, ↓p_addT, ↓p_sub, ↓p_mul, ↓p_mod, ↓p_fdiv, ↓p_pow, ↓p_in, ↓p_notin, ↓p_ixT, ↓p_neg, ↓p_abs, ↓p_int, ↓p_intB, ↓p_lenS, ↓p_tuple, ↓p_list, ↓p_repr, ↓p_rev, ↓p_slT, ↓p_slr, ↓p_sll, ↓vb_ss, ↓p_addl, ↓p_addr, ↓p_ixl, ↓p_ixri, ↓p_ixrs, ↓p_app, ↓p_ext, ↓p_popa, ↓p_popz, ↓p_ins, ↓p_lenT, ↓p_lenl, ↓p_lenr, ↓p_set, ↓p_isN, ↓p_noN, ↓p_sort, ↓as_nil, ↓as_cons, ↓lb_cc, ↓lb_nc, ↓lb_cn, ↓lb_nn, ↓onE_some, ↓onE_none, ↓at_lit, ↓at_last, ↓q_ss, ↓q_ii, ↓q_bb, ↓q_tt, ↓q_ll, ↓q_vs, ↓q_vi, ↓q_vt, ↓q_nil, ↓q_nilc, ↓q_cnil, ↓q_cons, ↓q_any0, ↓q_any1, ↓q_anyS, seqR, seqV, truthV, settle, settles, isNil, pre2, pre3, intOf, bindT, bindTs, permute, isV, wipeE, List.length_cons, List.length_nil, List.getElem?_cons_zero, List.getElem?_cons_succ, List.set_cons_zero, List.set_cons_succ, List.map_cons, List.map_nil, List.replicate, List.append, List.cons_append, List.nil_append, true_and, and_true, if_true, if_false, Bool.false_eq_true, Option.bind, Bool.not_true, Bool.not_false, Bool.true_and, Bool.false_and, Bool.and_true, Bool.and_false, Bool.or_true, Bool.or_false, Bool.true_or, Bool.false_or, lstAt, ownL, mutAt, dicAt, Option.map, Option.map_some, Option.map_none, List.getElem?_nil, keyOk, Bool.or_self, Bool.and_self, Nat.zero_le, Nat.reduceAdd, Nat.reduceSub, Nat.reduceLT, Nat.reduceLeDiff, Nat.reduceEqDiff, Nat.reduceBEq, beq_self_eq_true, Nat.zero_add, Nat.add_zero, List.length_map, top, List.length_append, List.all_cons, List.all_nil, nrR, Val.nr, Val.nrs, pureVal, and_self, List.filterMap_cons, List.filterMap_nil, l_for0, l_for1, l_comp0, l_comp1, List.getElem?_concat_length, List.length_set]
  refine Ok.imp (draw_ok h (by omega)) ?_
  rintro r st1 ⟨i, rfl, i0, i1, k, f⟩
  have hpos : 0 < xs.length := List.length_pos_iff.mpr h0
  obtain ⟨n, rfl⟩ := Int.eq_ofNat_of_zero_le i0
  have hn : n < xs.length := by omega
  have e : xs[n]? = some xs[n] := List.getElem?_eq_getElem hn
  simp only [at_nat, e, f.get em hd hl', ↓k_ok, ↓k_bad, ↓k_bind, ↓k_ite, ↓k_lift, ↓k_noX, ↓k_optT, ↓k_optF, ↓k_op2T, ↓k_op2F, ↓k_optCT, ↓k_optCF, ↓on_some, ↓on_none, ↓e_k, ↓e_g, ↓e_x, ↓e_tup, ↓e_lst, ↓e_op1, ↓e_op2, ↓e_op3, ↓e_sl, ↓e_and, ↓e_or, ↓e_not, ↓e_ite, ↓e_chain, ↓e_call, ↓e_nil, ↓e_cons, ↓e_dic, ↓e_comp, ↓s_skip, ↓s_seq, ↓s_asg, ↓s_ex, ↓s_ret, ↓s_retN, ↓s_brk, ↓s_cont, ↓s_ite, ↓s_fo, ↓g_tg, ↓g_sub, ↓r_run, ↓r_call, ↓r_pure, ↓l_for0, ↓l_for1, ↓l_comp0, ↓l_comp1, ↓p_eq, ↓p_ne, ↓p_lt, ↓p_le, ↓p_gt, ↓p_ge, ↓p_addI, ↓p_addS, ↓p_addT, ↓p_sub, ↓p_mul, ↓p_mod, ↓p_fdiv, ↓p_pow, ↓p_in, ↓p_notin, ↓p_ixT, ↓p_neg, ↓p_abs, ↓p_int, ↓p_intB, ↓p_lenS, ↓p_tuple, ↓p_list, ↓p_repr, ↓p_rev, ↓p_slT, ↓p_slr, ↓p_sll, ↓vb_ss, ↓p_addl, ↓p_addr, ↓p_ixl, ↓p_ixri, ↓p_ixrs, ↓p_app, ↓p_ext, ↓p_popa, ↓p_popz, ↓p_ins, ↓p_lenT, ↓p_lenl, ↓p_lenr, ↓p_set, ↓p_isN, ↓p_noN, ↓p_sort, ↓as_nil, ↓as_cons, ↓lb_cc, ↓lb_nc, ↓lb_cn, ↓lb_nn, ↓onE_some, ↓onE_none, ↓at_lit, ↓at_last, ↓q_ss, ↓q_ii, ↓q_bb, ↓q_tt, ↓q_ll, ↓q_vs, ↓q_vi, ↓q_vt, ↓q_nil, ↓q_nilc, ↓q_cnil, ↓q_cons, ↓q_any0, ↓q_any1, ↓q_anyS, seqR, seqV, truthV, settle, settles, isNil, pre2, pre3, intOf, bindT, bindTs, permute, isV, wipeE, List.length_cons, List.length_nil, List.getElem?_cons_zero, List.getElem?_cons_succ, List.set_cons_zero, List.set_cons_succ, List.map_cons, List.map_nil, List.replicate, List.append, List.cons_append, List.nil_append, true_and, and_true, if_true, if_false, Bool.false_eq_true, Option.bind, Bool.not_true, Bool.not_false, Bool.true_and, Bool.false_and, Bool.and_true, Bool.and_false, Bool.or_true, Bool.or_false, Bool.true_or, Bool.false_or, lstAt, ownL, mutAt, dicAt, Option.map, Option.map_some, Option.map_none, List.getElem?_nil, keyOk, Bool.or_self, Bool.and_self, Nat.zero_le, Nat.reduceAdd, Nat.reduceSub, Nat.reduceLT, Nat.reduceLeDiff, Nat.reduceEqDiff, Nat.reduceBEq, beq_self_eq_true, Nat.zero_add, Nat.add_zero, List.length_map, top, List.length_append, List.all_cons, List.all_nil, nrR, Val.nr, Val.nrs, pureVal, and_self, List.filterMap_cons, List.filterMap_nil, l_for0, l_for1, l_comp0, l_comp1, List.getElem?_concat_length, List.length_set]
  exact ⟨⟨_, List.getElem_mem hn, rfl⟩, k, f⟩
/-- the deck that a script makes -/
def JD (rest : List Val) (ρ : Env) (st : Store) : Prop := ∃ (w0 w1 w2 : Option Val) (l : Nat) (s : Int) (ys zs : List Int), rest = zs.map .int ∧ ρ = [some (.ref 0), some (.ref 2), w0, w1, w2] ∧ 2 ≠ l ∧ 0 ≤ s ∧ s < 2305843009213693951 ∧
  st[2]? = some (.dic false [(.str [100, 101, 101, 112], .ref l), (.str [115, 116, 97, 116, 101], .int s)]) ∧ st[l]? = some (.lst (ys.map .int)) ∧ (∀ y ∈ ys, 0 ≤ y) ∧ ys.length + zs.length ≤ 63
theorem deck_ok {ns : List Int} (hn : ns.length ≤ 63) : Ok (f_law_deck_q [.ref 0] [.frz (ns.map .int)]) fun r st' => ∃ d l, r = .v (.ref d) ∧ Dk st' d l := by
  have hc : cut (ns.map Val.int) none (some 63) = ns.map .int := by
    show ((ns.map Val.int).drop 0).take (min 63 (ns.map Val.int).length - 0) = _
    rw [List.drop_zero, List.take_of_length_le]
    simp; omega
  unfold f_law_deck_q d_law_deck_q m_law_deck_q
  simp only [hc, kget, kput, dicOf, mergeD, List.foldl_cons, List.foldl_nil, List.any_nil, List.any_cons, walk, watch, ↓k_ok, ↓k_bad, ↓k_bind, ↓k_ite, ↓k_lift, ↓k_noX, ↓k_optT, ↓k_optF, ↓k_op2T, ↓k_op2F, ↓k_optCT, ↓k_optCF, ↓on_some, ↓on_none, ↓e_k, ↓e_g, ↓e_x, ↓e_tup, ↓e_lst, ↓e_op1, ↓e_op2, ↓e_op3, ↓e_sl, ↓e_and, ↓e_or, ↓e_not, ↓e_ite, ↓e_chain, ↓e_call, ↓e_nil, ↓e_cons, ↓e_dic, ↓e_comp, ↓s_skip, ↓s_seq, ↓s_asg, ↓s_ex, ↓s_ret, ↓s_retN, ↓s_brk, ↓s_cont, ↓s_ite, ↓s_fo, ↓g_tg, ↓g_sub, ↓r_run, ↓r_call, ↓r_pure, ↓l_for0, ↓l_for1, ↓l_comp0, ↓l_comp1, ↓p_eq, ↓p_ne, ↓p_lt, ↓p_le, ↓p_gt, ↓p_ge, ↓p_addI, ↓p_addS, ↓p_addT, ↓p_sub, ↓p_mul, ↓p_mod, ↓p_fdiv, ↓p_pow, ↓p_in, ↓p_notin, ↓p_ixT, ↓p_neg, ↓p_abs, ↓p_int, ↓p_intB, ↓p_lenS, ↓p_tuple, ↓p_list, ↓p_repr, ↓p_rev, ↓p_slT, ↓p_slr, ↓p_sll, ↓vb_ss, ↓p_addl, ↓p_addr, ↓p_ixl, ↓p_ixri, ↓p_ixrs, ↓p_app, ↓p_ext, ↓p_popa, ↓p_popz, ↓p_ins, ↓p_lenT, ↓p_lenl, ↓p_lenr, ↓p_set, ↓p_isN, ↓p_noN, ↓p_sort, ↓as_nil, ↓as_cons, ↓lb_cc, ↓lb_nc, ↓lb_cn, ↓lb_nn, ↓onE_some, ↓onE_none, ↓at_lit, ↓at_last, ↓q_ss, ↓q_ii, ↓q_bb, ↓q_tt, ↓q_ll, ↓q_vs, ↓q_vi, ↓q_vt, ↓q_nil, ↓q_nilc, ↓q_cnil, ↓q_cons, ↓q_any0, ↓q_any1, ↓q_anyS, seqR, seqV, truthV, settle, settles, isNil, pre2, pre3, intOf, bindT, bindTs, permute, isV, wipeE, List.length_cons, List.length_nil, List.getElem?_cons_zero, List.getElem?_cons_succ, List.set_cons_zero, List.set_cons_succ, List.map_cons, List.map_nil, List.replicate, List.append, List.cons_append, List.nil_append, true_and, and_true, if_true, if_false, Bool.false_eq_true, Option.bind, Bool.not_true, Bool.not_false, Bool.true_and, Bool.false_and, Bool.and_true, Bool.and_false, Bool.or_true, Bool.or_false, Bool.true_or, Bool.false_or, lstAt, ownL, mutAt, dicAt, Option.map, Option.map_some, Option.map_none, List.getElem?_nil, keyOk, Bool.or_self, Bool.and_self, Nat.zero_le, Nat.reduceAdd, Nat.reduceSub, Nat.reduceLT, Nat.reduceLeDiff, Nat.reduceEqDiff, Nat.reduceBEq, beq_self_eq_true, Nat.zero_add, Nat.add_zero, List.length_map, top, List.length_append, List.all_cons, List.all_nil, nrR, Val.nr, Val.nrs, pureVal, and_self, List.filterMap_cons, List.filterMap_nil, l_for0, l_for1, l_comp0, l_comp1, List.getElem?_concat_length, List.length_set]
  refine ⟨.inl trivial, ?_⟩
  refine for_inv JD (fun _ _ _ _ => rfl) ?_ ?_ (ns.map .int) _ _ ⟨none, none, none, 1, 1572127 + ns.length, [], ns, rfl, rfl, by decide, by omega, by omega, rfl, rfl, by simp, by simpa using hn⟩
  · rintro x xs ρ st ⟨w0, w1, w2, l, s, ys, zs, e, rfl, ne, s0, s1, ed, el, hy, hl⟩
    cases zs with
    | nil => cases e
    | cons z zs =>
      cases e
      refine ⟨_, rfl, ?_⟩
      have hz : (0 : Int) ≤ (if z < 0 then -z else z) := by split <;> omega
      generalize hw : (if z < 0 then -z else z) = w at hz
      have sd : ∀ o, (List.set st 2 o)[2]? = some o := fun o => set_self ed
      have hm : ∀ (v : Int), 0 ≤ v % 2305843009213693951 ∧ v % 2305843009213693951 < 2305843009213693951 := fun v => ⟨Int.emod_nonneg _ (by decide), Int.emod_lt_of_pos _ (by decide)⟩
      have hp : (10 : Int) ^ Int.toNat 18 = 1000000000000000000 := by decide
      have l2 : 2 < st.length := (List.getElem?_eq_some_iff.mp ed).1
      have ap : ∀ o, (st ++ [o])[2]? = st[2]? := fun o => List.getElem?_append_left l2
      have sa : ∀ (o x : Mi.Obj), (List.set (st ++ [o]) 2 x)[2]? = some x := fun o x => set_self ((ap o).trans ed)
      by_cases hb : (1000000000000000000 : Int) ≤ w
      · simp only [hw, hb, hp, ed, el, sd, ap, sa, decide_true, kget, kput, List.any_cons, List.any_nil, List.set_set, ↓k_ok, ↓k_bad, ↓k_bind, ↓k_ite, ↓k_lift, ↓k_noX, ↓k_optT, ↓k_optF, ↓k_op2T, ↓k_op2F, ↓k_optCT, ↓k_optCF, ↓on_some, ↓on_none, ↓e_k, ↓e_g, ↓e_x, ↓e_tup, ↓e_lst, ↓e_op1, ↓e_op2, ↓e_op3, ↓e_sl, ↓e_and, ↓e_or, ↓e_not, ↓e_ite, ↓e_chain, ↓e_call, ↓e_nil, ↓e_cons, ↓e_dic, ↓e_comp, ↓s_skip, ↓s_seq, ↓s_asg, ↓s_ex, ↓s_ret, ↓s_retN, ↓s_brk, ↓s_cont, ↓s_ite, ↓s_fo, ↓g_tg, ↓g_sub, ↓r_run, ↓r_call, ↓r_pure, ↓l_for0, ↓l_for1, ↓l_comp0, ↓l_comp1, ↓p_eq, ↓p_ne, ↓p_lt, ↓p_le, ↓p_gt, ↓p_ge, ↓p_addI, ↓p_addS, ↓p_addT, ↓p_sub, ↓p_mul, ↓p_mod, ↓p_fdiv, ↓p_pow, ↓p_in, ↓p_notin, ↓p_ixT, ↓p_neg, ↓p_abs, ↓p_int, ↓p_intB, ↓p_lenS, ↓p_tuple, ↓p_list, ↓p_repr, ↓p_rev, ↓p_slT, ↓p_slr, ↓p_sll, ↓vb_ss, ↓p_addl, ↓p_addr, ↓p_ixl, ↓p_ixri, ↓p_ixrs, ↓p_app, ↓p_ext, ↓p_popa, ↓p_popz, ↓p_ins, ↓p_lenT, ↓p_lenl, ↓p_lenr, ↓p_set, ↓p_isN, ↓p_noN, ↓p_sort, ↓as_nil, ↓as_cons, ↓lb_cc, ↓lb_nc, ↓lb_cn, ↓lb_nn, ↓onE_some, ↓onE_none, ↓at_lit, ↓at_last, ↓q_ss, ↓q_ii, ↓q_bb, ↓q_tt, ↓q_ll, ↓q_vs, ↓q_vi, ↓q_vt, ↓q_nil, ↓q_nilc, ↓q_cnil, ↓q_cons, ↓q_any0, ↓q_any1, ↓q_anyS, seqR, seqV, truthV, settle, settles, isNil, pre2, pre3, intOf, bindT, bindTs, permute, isV, wipeE, List.length_cons, List.length_nil, List.getElem?_cons_zero, List.getElem?_cons_succ, List.set_cons_zero, List.set_cons_succ, List.map_cons, List.map_nil, List.replicate, List.append, List.cons_append, List.nil_append, true_and, and_true, if_true, if_false, Bool.false_eq_true, Option.bind, Bool.not_true, Bool.not_false, Bool.true_and, Bool.false_and, Bool.and_true, Bool.and_false, Bool.or_true, Bool.or_false, Bool.true_or, Bool.false_or, lstAt, ownL, mutAt, dicAt, Option.map, Option.map_some, Option.map_none, List.getElem?_nil, keyOk, Bool.or_self, Bool.and_self, Nat.zero_le, Nat.reduceAdd, Nat.reduceSub, Nat.reduceLT, Nat.reduceLeDiff, Nat.reduceEqDiff, Nat.reduceBEq, beq_self_eq_true, Nat.zero_add, Nat.add_zero, List.length_map, top, List.length_append, List.all_cons, List.all_nil, nrR, Val.nr, Val.nrs, pureVal, and_self, List.filterMap_cons, List.filterMap_nil, l_for0, l_for1, l_comp0, l_comp1, List.getElem?_concat_length, List.length_set]
        have hl' : ys.length + (zs.length + 1) ≤ 63 := by simpa using hl
        refine ⟨by decide, by omega, .inl (by decide), .inr (.inl (by decide)), by decide, _, _, _, st.length, _, w :: ys, zs, rfl, rfl, by omega, (hm _).1, (hm _).2, sa _ _, ?_, fun y h => ?_, by simp; omega⟩
        · rw [set_ne (by omega), List.getElem?_concat_length]; rfl
        · rcases List.mem_cons.mp h with rfl | h
          · exact hz
          · exact hy y h
      · simp only [hw, hb, hp, ed, el, sd, decide_false, kget, kput, List.any_cons, List.any_nil, List.set_set, ↓k_ok, ↓k_bad, ↓k_bind, ↓k_ite, ↓k_lift, ↓k_noX, ↓k_optT, ↓k_optF, ↓k_op2T, ↓k_op2F, ↓k_optCT, ↓k_optCF, ↓on_some, ↓on_none, ↓e_k, ↓e_g, ↓e_x, ↓e_tup, ↓e_lst, ↓e_op1, ↓e_op2, ↓e_op3, ↓e_sl, ↓e_and, ↓e_or, ↓e_not, ↓e_ite, ↓e_chain, ↓e_call, ↓e_nil, ↓e_cons, ↓e_dic, ↓e_comp, ↓s_skip, ↓s_seq, ↓s_asg, ↓s_ex, ↓s_ret, ↓s_retN, ↓s_brk, ↓s_cont, ↓s_ite, ↓s_fo, ↓g_tg, ↓g_sub, ↓r_run, ↓r_call, ↓r_pure, ↓l_for0, ↓l_for1, ↓l_comp0, ↓l_comp1, ↓p_eq, ↓p_ne, ↓p_lt, ↓p_le, ↓p_gt, ↓p_ge, ↓p_addI, ↓p_addS, ↓p_addT, ↓p_sub, ↓p_mul, ↓p_mod, ↓p_fdiv, ↓p_pow, ↓p_in, ↓p_notin, ↓p_ixT, ↓p_neg, ↓p_abs, ↓p_int, ↓p_intB, ↓p_lenS, ↓p_tuple, ↓p_list, ↓p_repr, ↓p_rev, ↓p_slT, ↓p_slr, ↓p_sll, ↓vb_ss, ↓p_addl, ↓p_addr, ↓p_ixl, ↓p_ixri, ↓p_ixrs, ↓p_app, ↓p_ext, ↓p_popa, ↓p_popz, ↓p_ins, ↓p_lenT, ↓p_lenl, ↓p_lenr, ↓p_set, ↓p_isN, ↓p_noN, ↓p_sort, ↓as_nil, ↓as_cons, ↓lb_cc, ↓lb_nc, ↓lb_cn, ↓lb_nn, ↓onE_some, ↓onE_none, ↓at_lit, ↓at_last, ↓q_ss, ↓q_ii, ↓q_bb, ↓q_tt, ↓q_ll, ↓q_vs, ↓q_vi, ↓q_vt, ↓q_nil, ↓q_nilc, ↓q_cnil, ↓q_cons, ↓q_any0, ↓q_any1, ↓q_anyS, seqR, seqV, truthV, settle, settles, isNil, pre2, pre3, intOf, bindT, bindTs, permute, isV, wipeE, List.length_cons, List.length_nil, List.getElem?_cons_zero, List.getElem?_cons_succ, List.set_cons_zero, List.set_cons_succ, List.map_cons, List.map_nil, List.replicate, List.append, List.cons_append, List.nil_append, true_and, and_true, if_true, if_false, Bool.false_eq_true, Option.bind, Bool.not_true, Bool.not_false, Bool.true_and, Bool.false_and, Bool.and_true, Bool.and_false, Bool.or_true, Bool.or_false, Bool.true_or, Bool.false_or, lstAt, ownL, mutAt, dicAt, Option.map, Option.map_some, Option.map_none, List.getElem?_nil, keyOk, Bool.or_self, Bool.and_self, Nat.zero_le, Nat.reduceAdd, Nat.reduceSub, Nat.reduceLT, Nat.reduceLeDiff, Nat.reduceEqDiff, Nat.reduceBEq, beq_self_eq_true, Nat.zero_add, Nat.add_zero, List.length_map, top, List.length_append, List.all_cons, List.all_nil, nrR, Val.nr, Val.nrs, pureVal, and_self, List.filterMap_cons, List.filterMap_nil, l_for0, l_for1, l_comp0, l_comp1, List.getElem?_concat_length, List.length_set]
        have hl' : ys.length + (zs.length + 1) ≤ 63 := by simpa using hl
        refine ⟨by decide, .inl (by decide), .inr (.inl (by decide)), by decide, _, _, _, l, _, ys, zs, rfl, rfl, ne, (hm _).1, (hm _).2, sd _, ?_, hy, by omega⟩
        rw [set_ne ne]; exact el
  · rintro ρ st ⟨w0, w1, w2, l, s, ys, zs, e, rfl, ne, s0, s1, ed, el, hy, hl⟩
    simp only [↓k_ok, ↓k_bad, ↓k_bind, ↓k_ite, ↓k_lift, ↓k_noX, ↓k_optT, ↓k_optF, ↓k_op2T, ↓k_op2F, ↓k_optCT, ↓k_optCF, ↓on_some, ↓on_none, ↓e_k, ↓e_g, ↓e_x, ↓e_tup, ↓e_lst, ↓e_op1, ↓e_op2, ↓e_op3, ↓e_sl, ↓e_and, ↓e_or, ↓e_not, ↓e_ite, ↓e_chain, ↓e_call, ↓e_nil, ↓e_cons, ↓e_dic, ↓e_comp, ↓s_skip, ↓s_seq, ↓s_asg, ↓s_ex, ↓s_ret, ↓s_retN, ↓s_brk, ↓s_cont, ↓s_ite, ↓s_fo, ↓g_tg, ↓g_sub, ↓r_run, ↓r_call, ↓r_pure, ↓l_for0, ↓l_for1, ↓l_comp0, ↓l_comp1, ↓p_eq, ↓p_ne, ↓p_lt, ↓p_le, ↓p_gt, ↓p_ge, ↓p_addI, ↓p_addS, ↓p_addT, ↓p_sub, ↓p_mul, ↓p_mod, ↓p_fdiv, ↓p_pow, ↓p_in, ↓p_notin, ↓p_ixT, ↓p_neg, ↓p_abs, ↓p_int, ↓p_intB, ↓p_lenS, ↓p_tuple, ↓p_list, ↓p_repr, ↓p_rev, ↓p_slT, ↓p_slr, ↓p_sll, ↓vb_ss, ↓p_addl, ↓p_addr, ↓p_ixl, ↓p_ixri, ↓p_ixrs, ↓p_app, ↓p_ext, ↓p_popa, ↓p_popz, ↓p_ins, ↓p_lenT, ↓p_lenl, ↓p_lenr, ↓p_set, ↓p_isN, ↓p_noN, ↓p_sort, ↓as_nil, ↓as_cons, ↓lb_cc, ↓lb_nc, ↓lb_cn, ↓lb_nn, ↓onE_some, ↓onE_none, ↓at_lit, ↓at_last, ↓q_ss, ↓q_ii, ↓q_bb, ↓q_tt, ↓q_ll, ↓q_vs, ↓q_vi, ↓q_vt, ↓q_nil, ↓q_nilc, ↓q_cnil, ↓q_cons, ↓q_any0, ↓q_any1, ↓q_anyS, seqR, seqV, truthV, settle, settles, isNil, pre2, pre3, intOf, bindT, bindTs, permute, isV, wipeE, List.length_cons, List.length_nil, List.getElem?_cons_zero, List.getElem?_cons_succ, List.set_cons_zero, List.set_cons_succ, List.map_cons, List.map_nil, List.replicate, List.append, List.cons_append, List.nil_append, true_and, and_true, if_true, if_false, Bool.false_eq_true, Option.bind, Bool.not_true, Bool.not_false, Bool.true_and, Bool.false_and, Bool.and_true, Bool.and_false, Bool.or_true, Bool.or_false, Bool.true_or, Bool.false_or, lstAt, ownL, mutAt, dicAt, Option.map, Option.map_some, Option.map_none, List.getElem?_nil, keyOk, Bool.or_self, Bool.and_self, Nat.zero_le, Nat.reduceAdd, Nat.reduceSub, Nat.reduceLT, Nat.reduceLeDiff, Nat.reduceEqDiff, Nat.reduceBEq, beq_self_eq_true, Nat.zero_add, Nat.add_zero, List.length_map, top, List.length_append, List.all_cons, List.all_nil, nrR, Val.nr, Val.nrs, pureVal, and_self, List.filterMap_cons, List.filterMap_nil, l_for0, l_for1, l_comp0, l_comp1, List.getElem?_concat_length, List.length_set]
    exact ⟨2, l, rfl, ne, ⟨s, s0, s1, ed⟩, ys, hy, by omega, el⟩
end Law
end
section
set_option Elab.async false
set_option maxRecDepth 100000
set_option linter.all false
namespace Law
open Mi
def STR : List Val := [.str [110, 111, 110, 101], .str [108, 97, 122, 121], .str [102, 111, 114, 99, 101, 100]]
theorem str_sd {x : Val} (h : x ∈ STR) : ∃ y, SD y ∧ x = .str y := by
  simp only [STR, List.mem_cons, List.not_mem_nil, or_false] at h
  rcases h with rfl | rfl | rfl
  · exact ⟨_, .inl rfl, rfl⟩
  · exact ⟨_, .inr (.inl rfl), rfl⟩
  · exact ⟨_, .inr (.inr rfl), rfl⟩
/-- one of a list just written -/
theorem pick_N {st : Store} {d l : Nat} (h : Dk st d l) {xs : List Val} (h0 : xs ≠ []) (hl : xs.length ≤ 1000) : Ok (f_law_pick_q [.ref d, .ref st.length] (st ++ [.lst xs])) fun r st' => (∃ x ∈ xs, r = .v x) ∧ Dk st' d l ∧ Fr d l st st' := by
  refine Ok.imp (pick_L h.app (m := st.length) (xs := xs) (by rw [List.getElem?_concat_length]) (Nat.ne_of_gt h.ltd) (Nat.ne_of_gt h.ltl) h0 hl) ?_
  rintro r st' ⟨x, k, f⟩
  exact ⟨x, k, Fr.app.trans f⟩
theorem head_ok {st : Store} {d l : Nat} (h : Dk st d l) : Ok (f_law_head_q [.ref d] st) fun r st' => (∃ h0 h1 h2, SD h0 ∧ SD h1 ∧ SD h2 ∧ r = .v (hV h0 h1 h2)) ∧ Dk st' d l ∧ Fr d l st st' := by
  have nd : st.length ≠ d := Nat.ne_of_gt h.ltd
  have nl : st.length ≠ l := Nat.ne_of_gt h.ltl
  have e0 : (st ++ [Mi.Obj.lst STR])[st.length]? = some (.lst STR) := by rw [List.getElem?_concat_length]
  unfold f_law_head_q d_law_head_q m_law_head_q
  simp only [↓k_ok, ↓k_bad, ↓k_bind, ↓k_ite, ↓k_lift, ↓k_noX, ↓k_optT, ↓k_optF, ↓k_op2T, ↓k_op2F, ↓k_optCT, ↓k_optCF, ↓on_some, ↓on_none, ↓e_k, ↓e_g, ↓e_x, ↓e_tup, ↓e_lst, ↓e_op1, ↓e_op2, ↓e_op3, ↓e_sl, ↓e_and, ↓e_or, ↓e_not, ↓e_ite, ↓e_chain, ↓e_call, ↓e_nil, ↓e_cons, ↓e_dic, ↓e_comp, ↓s_skip, ↓s_seq, ↓s_asg, ↓s_ex, ↓s_ret, ↓s_retN, ↓s_brk, ↓s_cont, ↓s_ite, ↓s_fo, ↓g_tg, ↓g_sub, ↓r_run, ↓r_call, ↓r_pure, ↓l_for0, ↓l_for1, ↓l_comp0, ↓l_comp1, ↓p_eq, ↓p_ne, ↓p_lt, ↓p_le, ↓p_gt, ↓p_ge, ↓p_addI, ↓p_addS, ↓p_addT, ↓p_sub, ↓p_mul, ↓p_mod, ↓p_fdiv, ↓p_pow, ↓p_in, ↓p_notin, ↓p_ixT, ↓p_neg, ↓p_abs, ↓p_int, ↓p_intB, ↓p_lenS, ↓p_tuple, ↓p_list, ↓p_repr, ↓p_rev, ↓p_slT, ↓p_slr, ↓p_sll, ↓vb_ss, ↓p_addl, ↓p_addr, ↓p_ixl, ↓p_ixri, ↓p_ixrs, ↓p_app, ↓p_ext, ↓p_popa, ↓p_popz, ↓p_ins, ↓p_lenT, ↓p_lenl, ↓p_lenr, ↓p_set, ↓p_isN, ↓p_noN, ↓p_sort, ↓as_nil, ↓as_cons, ↓lb_cc, ↓lb_nc, ↓lb_cn, ↓lb_nn, ↓onE_some, ↓onE_none, ↓at_lit, ↓at_last, ↓q_ss, ↓q_ii, ↓q_bb, ↓q_tt, ↓q_ll, ↓q_vs, ↓q_vi, ↓q_vt, ↓q_nil, ↓q_nilc, ↓q_cnil, ↓q_cons, ↓q_any0, ↓q_any1, ↓q_anyS, seqR, seqV, truthV, settle, settles, isNil, pre2, pre3, intOf, bindT, bindTs, permute, isV, wipeE, List.length_cons, List.length_nil, List.getElem?_cons_zero, List.getElem?_cons_succ, List.set_cons_zero, List.set_cons_succ, List.map_cons, List.map_nil, List.replicate, List.append, List.cons_append, List.nil_append, true_and, and_true, if_true, if_false, Bool.false_eq_true, Option.bind, Bool.not_true, Bool.not_false, Bool.true_and, Bool.false_and, Bool.and_true, Bool.and_false, Bool.or_true, Bool.or_false, Bool.true_or, Bool.false_or, lstAt, ownL, mutAt, dicAt, Option.map, Option.map_some, Option.map_none, List.getElem?_nil, keyOk, Bool.or_self, Bool.and_self, Nat.zero_le, Nat.reduceAdd, Nat.reduceSub, Nat.reduceLT, Nat.reduceLeDiff, Nat.reduceEqDiff, Nat.reduceBEq, beq_self_eq_true, Nat.zero_add, Nat.add_zero, List.length_map, top, List.length_append, List.all_cons, List.all_nil, nrR, Val.nr, Val.nrs, pureVal, and_self, List.filterMap_cons, List.filterMap_nil, l_for0, l_for1, l_comp0, l_comp1, List.getElem?_concat_length, List.length_set]
  refine Ok.imp (draw_ok h.app (by decide)) ?_
  rintro r st1 ⟨i, rfl, i0, i1, k1, f1⟩
  have e1 : st1[st.length]? = some (.lst STR) := f1.get e0 nd nl
  have fin : ∀ (y : List Nat) (st2 : Store), SD y → Dk st2 d l → Fr d l st st2 → st2[st.length]? = some (.lst STR) → Ok (f_law_pick_q [.ref d, .ref st2.length] (st2 ++ [.lst [.str [110, 111, 110, 101], .str [108, 97, 122, 121], .str [102, 111, 114, 99, 101, 100], .str [102, 111, 114, 99, 101, 100]]])) fun r st3 => ∃ u, SD u ∧ r = .v (.str u) ∧ Ok (f_law_pick_q [.ref d, .ref st.length] st3) fun r2 st' => ∃ z, SD z ∧ r2 = .v (.str z) ∧ Dk st' d l ∧ Fr d l st st' := by
    intro y st2 hy k2 f2 e2
    refine Ok.imp (pick_N k2 (xs := [.str [110, 111, 110, 101], .str [108, 97, 122, 121], .str [102, 111, 114, 99, 101, 100], .str [102, 111, 114, 99, 101, 100]]) (by simp) (by simp)) ?_
    rintro r st3 ⟨⟨x, hx, rfl⟩, k3, f3⟩
    have : ∃ u, SD u ∧ x = .str u := str_sd (by simp only [STR, List.mem_cons, List.not_mem_nil, or_false] at hx ⊢; rcases hx with h | h | h | h <;> simp [h])
    obtain ⟨u, su, rfl⟩ := this
    refine ⟨u, su, rfl, Ok.imp (pick_L k3 (f3.get e2 nd nl) nd nl (by simp [STR]) (by simp [STR])) ?_⟩
    rintro r st4 ⟨⟨z, hz, rfl⟩, k4, f4⟩
    obtain ⟨z, sz, rfl⟩ := str_sd hz
    exact ⟨z, sz, rfl, k4, (f2.trans f3).trans f4⟩
  have end_ : ∀ (y : List Nat) (st2 : Store), SD y → Dk st2 d l → Fr d l st st2 → st2[st.length]? = some (.lst STR) → ∀ Q : RV → Store → Prop, (∀ u z st', SD u → SD z → Dk st' d l → Fr d l st st' → Q (.v (hV u y z)) st') →
      Ok (f_law_pick_q [.ref d, .ref st2.length] (st2 ++ [.lst [.str [110, 111, 110, 101], .str [108, 97, 122, 121], .str [102, 111, 114, 99, 101, 100], .str [102, 111, 114, 99, 101, 100]]])) fun r st3 => ∃ u, r = .v (.str u) ∧ Ok (f_law_pick_q [.ref d, .ref st.length] st3) fun r2 st' => ∃ z, r2 = .v (.str z) ∧ Q (.v (hV u y z)) st' := by
    intro y st2 hy k2 f2 e2 Q q
    refine Ok.imp (fin y st2 hy k2 f2 e2) ?_
    rintro r st3 ⟨u, su, rfl, h3⟩
    refine ⟨u, rfl, Ok.imp h3 ?_⟩
    rintro r st4 ⟨z, sz, rfl, k4, f4⟩
    exact ⟨z, rfl, q u z st4 su sz k4 f4⟩
  have f01 : Fr d l st st1 := Fr.app.trans f1
  by_cases hi : 0 < i
  · simp only [e1, hi, decide_true, STR, ↓k_ok, ↓k_bad, ↓k_bind, ↓k_ite, ↓k_lift, ↓k_noX, ↓k_optT, ↓k_optF, ↓k_op2T, ↓k_op2F, ↓k_optCT, ↓k_optCF, ↓on_some, ↓on_none, ↓e_k, ↓e_g, ↓e_x, ↓e_tup, ↓e_lst, ↓e_op1, ↓e_op2, ↓e_op3, ↓e_sl, ↓e_and, ↓e_or, ↓e_not, ↓e_ite, ↓e_chain, ↓e_call, ↓e_nil, ↓e_cons, ↓e_dic, ↓e_comp, ↓s_skip, ↓s_seq, ↓s_asg, ↓s_ex, ↓s_ret, ↓s_retN, ↓s_brk, ↓s_cont, ↓s_ite, ↓s_fo, ↓g_tg, ↓g_sub, ↓r_run, ↓r_call, ↓r_pure, ↓l_for0, ↓l_for1, ↓l_comp0, ↓l_comp1, ↓p_eq, ↓p_ne, ↓p_lt, ↓p_le, ↓p_gt, ↓p_ge, ↓p_addI, ↓p_addS, ↓p_addT, ↓p_sub, ↓p_mul, ↓p_mod, ↓p_fdiv, ↓p_pow, ↓p_in, ↓p_notin, ↓p_ixT, ↓p_neg, ↓p_abs, ↓p_int, ↓p_intB, ↓p_lenS, ↓p_tuple, ↓p_list, ↓p_repr, ↓p_rev, ↓p_slT, ↓p_slr, ↓p_sll, ↓vb_ss, ↓p_addl, ↓p_addr, ↓p_ixl, ↓p_ixri, ↓p_ixrs, ↓p_app, ↓p_ext, ↓p_popa, ↓p_popz, ↓p_ins, ↓p_lenT, ↓p_lenl, ↓p_lenr, ↓p_set, ↓p_isN, ↓p_noN, ↓p_sort, ↓as_nil, ↓as_cons, ↓lb_cc, ↓lb_nc, ↓lb_cn, ↓lb_nn, ↓onE_some, ↓onE_none, ↓at_lit, ↓at_last, ↓q_ss, ↓q_ii, ↓q_bb, ↓q_tt, ↓q_ll, ↓q_vs, ↓q_vi, ↓q_vt, ↓q_nil, ↓q_nilc, ↓q_cnil, ↓q_cons, ↓q_any0, ↓q_any1, ↓q_anyS, seqR, seqV, truthV, settle, settles, isNil, pre2, pre3, intOf, bindT, bindTs, permute, isV, wipeE, List.length_cons, List.length_nil, List.getElem?_cons_zero, List.getElem?_cons_succ, List.set_cons_zero, List.set_cons_succ, List.map_cons, List.map_nil, List.replicate, List.append, List.cons_append, List.nil_append, true_and, and_true, if_true, if_false, Bool.false_eq_true, Option.bind, Bool.not_true, Bool.not_false, Bool.true_and, Bool.false_and, Bool.and_true, Bool.and_false, Bool.or_true, Bool.or_false, Bool.true_or, Bool.false_or, lstAt, ownL, mutAt, dicAt, Option.map, Option.map_some, Option.map_none, List.getElem?_nil, keyOk, Bool.or_self, Bool.and_self, Nat.zero_le, Nat.reduceAdd, Nat.reduceSub, Nat.reduceLT, Nat.reduceLeDiff, Nat.reduceEqDiff, Nat.reduceBEq, beq_self_eq_true, Nat.zero_add, Nat.add_zero, List.length_map, top, List.length_append, List.all_cons, List.all_nil, nrR, Val.nr, Val.nrs, pureVal, and_self, List.filterMap_cons, List.filterMap_nil, l_for0, l_for1, l_comp0, l_comp1, List.getElem?_concat_length, List.length_set]
    refine Ok.imp (end_ _ st1 (.inr (.inr rfl)) k1 f01 e1 (fun r st' => (∃ h0 h1 h2, SD h0 ∧ SD h1 ∧ SD h2 ∧ r = .v (hV h0 h1 h2)) ∧ Dk st' d l ∧ Fr d l st st') fun u z st' su sz k4 f4 => ⟨⟨u, _, z, su, .inr (.inr rfl), sz, rfl⟩, k4, f4⟩) ?_
    rintro r st3 ⟨u, rfl, h3⟩
    simp only [↓k_ok, ↓k_bad, ↓k_bind, ↓k_ite, ↓k_lift, ↓k_noX, ↓k_optT, ↓k_optF, ↓k_op2T, ↓k_op2F, ↓k_optCT, ↓k_optCF, ↓on_some, ↓on_none, ↓e_k, ↓e_g, ↓e_x, ↓e_tup, ↓e_lst, ↓e_op1, ↓e_op2, ↓e_op3, ↓e_sl, ↓e_and, ↓e_or, ↓e_not, ↓e_ite, ↓e_chain, ↓e_call, ↓e_nil, ↓e_cons, ↓e_dic, ↓e_comp, ↓s_skip, ↓s_seq, ↓s_asg, ↓s_ex, ↓s_ret, ↓s_retN, ↓s_brk, ↓s_cont, ↓s_ite, ↓s_fo, ↓g_tg, ↓g_sub, ↓r_run, ↓r_call, ↓r_pure, ↓l_for0, ↓l_for1, ↓l_comp0, ↓l_comp1, ↓p_eq, ↓p_ne, ↓p_lt, ↓p_le, ↓p_gt, ↓p_ge, ↓p_addI, ↓p_addS, ↓p_addT, ↓p_sub, ↓p_mul, ↓p_mod, ↓p_fdiv, ↓p_pow, ↓p_in, ↓p_notin, ↓p_ixT, ↓p_neg, ↓p_abs, ↓p_int, ↓p_intB, ↓p_lenS, ↓p_tuple, ↓p_list, ↓p_repr, ↓p_rev, ↓p_slT, ↓p_slr, ↓p_sll, ↓vb_ss, ↓p_addl, ↓p_addr, ↓p_ixl, ↓p_ixri, ↓p_ixrs, ↓p_app, ↓p_ext, ↓p_popa, ↓p_popz, ↓p_ins, ↓p_lenT, ↓p_lenl, ↓p_lenr, ↓p_set, ↓p_isN, ↓p_noN, ↓p_sort, ↓as_nil, ↓as_cons, ↓lb_cc, ↓lb_nc, ↓lb_cn, ↓lb_nn, ↓onE_some, ↓onE_none, ↓at_lit, ↓at_last, ↓q_ss, ↓q_ii, ↓q_bb, ↓q_tt, ↓q_ll, ↓q_vs, ↓q_vi, ↓q_vt, ↓q_nil, ↓q_nilc, ↓q_cnil, ↓q_cons, ↓q_any0, ↓q_any1, ↓q_anyS, seqR, seqV, truthV, settle, settles, isNil, pre2, pre3, intOf, bindT, bindTs, permute, isV, wipeE, List.length_cons, List.length_nil, List.getElem?_cons_zero, List.getElem?_cons_succ, List.set_cons_zero, List.set_cons_succ, List.map_cons, List.map_nil, List.replicate, List.append, List.cons_append, List.nil_append, true_and, and_true, if_true, if_false, Bool.false_eq_true, Option.bind, Bool.not_true, Bool.not_false, Bool.true_and, Bool.false_and, Bool.and_true, Bool.and_false, Bool.or_true, Bool.or_false, Bool.true_or, Bool.false_or, lstAt, ownL, mutAt, dicAt, Option.map, Option.map_some, Option.map_none, List.getElem?_nil, keyOk, Bool.or_self, Bool.and_self, Nat.zero_le, Nat.reduceAdd, Nat.reduceSub, Nat.reduceLT, Nat.reduceLeDiff, Nat.reduceEqDiff, Nat.reduceBEq, beq_self_eq_true, Nat.zero_add, Nat.add_zero, List.length_map, top, List.length_append, List.all_cons, List.all_nil, nrR, Val.nr, Val.nrs, pureVal, and_self, List.filterMap_cons, List.filterMap_nil, l_for0, l_for1, l_comp0, l_comp1, List.getElem?_concat_length, List.length_set]
    refine Ok.imp h3 ?_
    rintro r st4 ⟨z, rfl, h4⟩
    simp only [↓k_ok, ↓k_bad, ↓k_bind, ↓k_ite, ↓k_lift, ↓k_noX, ↓k_optT, ↓k_optF, ↓k_op2T, ↓k_op2F, ↓k_optCT, ↓k_optCF, ↓on_some, ↓on_none, ↓e_k, ↓e_g, ↓e_x, ↓e_tup, ↓e_lst, ↓e_op1, ↓e_op2, ↓e_op3, ↓e_sl, ↓e_and, ↓e_or, ↓e_not, ↓e_ite, ↓e_chain, ↓e_call, ↓e_nil, ↓e_cons, ↓e_dic, ↓e_comp, ↓s_skip, ↓s_seq, ↓s_asg, ↓s_ex, ↓s_ret, ↓s_retN, ↓s_brk, ↓s_cont, ↓s_ite, ↓s_fo, ↓g_tg, ↓g_sub, ↓r_run, ↓r_call, ↓r_pure, ↓l_for0, ↓l_for1, ↓l_comp0, ↓l_comp1, ↓p_eq, ↓p_ne, ↓p_lt, ↓p_le, ↓p_gt, ↓p_ge, ↓p_addI, ↓p_addS, ↓p_addT, ↓p_sub, ↓p_mul, ↓p_mod, ↓p_fdiv, ↓p_pow, ↓p_in, ↓p_notin, ↓p_ixT, ↓p_neg, ↓p_abs, ↓p_int, ↓p_intB, ↓p_lenS, ↓p_tuple, ↓p_list, ↓p_repr, ↓p_rev, ↓p_slT, ↓p_slr, ↓p_sll, ↓vb_ss, ↓p_addl, ↓p_addr, ↓p_ixl, ↓p_ixri, ↓p_ixrs, ↓p_app, ↓p_ext, ↓p_popa, ↓p_popz, ↓p_ins, ↓p_lenT, ↓p_lenl, ↓p_lenr, ↓p_set, ↓p_isN, ↓p_noN, ↓p_sort, ↓as_nil, ↓as_cons, ↓lb_cc, ↓lb_nc, ↓lb_cn, ↓lb_nn, ↓onE_some, ↓onE_none, ↓at_lit, ↓at_last, ↓q_ss, ↓q_ii, ↓q_bb, ↓q_tt, ↓q_ll, ↓q_vs, ↓q_vi, ↓q_vt, ↓q_nil, ↓q_nilc, ↓q_cnil, ↓q_cons, ↓q_any0, ↓q_any1, ↓q_anyS, seqR, seqV, truthV, settle, settles, isNil, pre2, pre3, intOf, bindT, bindTs, permute, isV, wipeE, List.length_cons, List.length_nil, List.getElem?_cons_zero, List.getElem?_cons_succ, List.set_cons_zero, List.set_cons_succ, List.map_cons, List.map_nil, List.replicate, List.append, List.cons_append, List.nil_append, true_and, and_true, if_true, if_false, Bool.false_eq_true, Option.bind, Bool.not_true, Bool.not_false, Bool.true_and, Bool.false_and, Bool.and_true, Bool.and_false, Bool.or_true, Bool.or_false, Bool.true_or, Bool.false_or, lstAt, ownL, mutAt, dicAt, Option.map, Option.map_some, Option.map_none, List.getElem?_nil, keyOk, Bool.or_self, Bool.and_self, Nat.zero_le, Nat.reduceAdd, Nat.reduceSub, Nat.reduceLT, Nat.reduceLeDiff, Nat.reduceEqDiff, Nat.reduceBEq, beq_self_eq_true, Nat.zero_add, Nat.add_zero, List.length_map, top, List.length_append, List.all_cons, List.all_nil, nrR, Val.nr, Val.nrs, pureVal, and_self, List.filterMap_cons, List.filterMap_nil, l_for0, l_for1, l_comp0, l_comp1, List.getElem?_concat_length, List.length_set]
    exact h4
  · simp only [hi, decide_false, ↓k_ok, ↓k_bad, ↓k_bind, ↓k_ite, ↓k_lift, ↓k_noX, ↓k_optT, ↓k_optF, ↓k_op2T, ↓k_op2F, ↓k_optCT, ↓k_optCF, ↓on_some, ↓on_none, ↓e_k, ↓e_g, ↓e_x, ↓e_tup, ↓e_lst, ↓e_op1, ↓e_op2, ↓e_op3, ↓e_sl, ↓e_and, ↓e_or, ↓e_not, ↓e_ite, ↓e_chain, ↓e_call, ↓e_nil, ↓e_cons, ↓e_dic, ↓e_comp, ↓s_skip, ↓s_seq, ↓s_asg, ↓s_ex, ↓s_ret, ↓s_retN, ↓s_brk, ↓s_cont, ↓s_ite, ↓s_fo, ↓g_tg, ↓g_sub, ↓r_run, ↓r_call, ↓r_pure, ↓l_for0, ↓l_for1, ↓l_comp0, ↓l_comp1, ↓p_eq, ↓p_ne, ↓p_lt, ↓p_le, ↓p_gt, ↓p_ge, ↓p_addI, ↓p_addS, ↓p_addT, ↓p_sub, ↓p_mul, ↓p_mod, ↓p_fdiv, ↓p_pow, ↓p_in, ↓p_notin, ↓p_ixT, ↓p_neg, ↓p_abs, ↓p_int, ↓p_intB, ↓p_lenS, ↓p_tuple, ↓p_list, ↓p_repr, ↓p_rev, ↓p_slT, ↓p_slr, ↓p_sll, ↓vb_ss, ↓p_addl, ↓p_addr, ↓p_ixl, ↓p_ixri, ↓p_ixrs, ↓p_app, ↓p_ext, ↓p_popa, ↓p_popz, ↓p_ins, ↓p_lenT, ↓p_lenl, ↓p_lenr, ↓p_set, ↓p_isN, ↓p_noN, ↓p_sort, ↓as_nil, ↓as_cons, ↓lb_cc, ↓lb_nc, ↓lb_cn, ↓lb_nn, ↓onE_some, ↓onE_none, ↓at_lit, ↓at_last, ↓q_ss, ↓q_ii, ↓q_bb, ↓q_tt, ↓q_ll, ↓q_vs, ↓q_vi, ↓q_vt, ↓q_nil, ↓q_nilc, ↓q_cnil, ↓q_cons, ↓q_any0, ↓q_any1, ↓q_anyS, seqR, seqV, truthV, settle, settles, isNil, pre2, pre3, intOf, bindT, bindTs, permute, isV, wipeE, List.length_cons, List.length_nil, List.getElem?_cons_zero, List.getElem?_cons_succ, List.set_cons_zero, List.set_cons_succ, List.map_cons, List.map_nil, List.replicate, List.append, List.cons_append, List.nil_append, true_and, and_true, if_true, if_false, Bool.false_eq_true, Option.bind, Bool.not_true, Bool.not_false, Bool.true_and, Bool.false_and, Bool.and_true, Bool.and_false, Bool.or_true, Bool.or_false, Bool.true_or, Bool.false_or, lstAt, ownL, mutAt, dicAt, Option.map, Option.map_some, Option.map_none, List.getElem?_nil, keyOk, Bool.or_self, Bool.and_self, Nat.zero_le, Nat.reduceAdd, Nat.reduceSub, Nat.reduceLT, Nat.reduceLeDiff, Nat.reduceEqDiff, Nat.reduceBEq, beq_self_eq_true, Nat.zero_add, Nat.add_zero, List.length_map, top, List.length_append, List.all_cons, List.all_nil, nrR, Val.nr, Val.nrs, pureVal, and_self, List.filterMap_cons, List.filterMap_nil, l_for0, l_for1, l_comp0, l_comp1, List.getElem?_concat_length, List.length_set]
    refine Ok.imp (pick_L k1 e1 nd nl (by simp [STR]) (by simp [STR])) ?_
    rintro r st2 ⟨⟨x, hx, rfl⟩, k2, f2⟩
    obtain ⟨y, sy, rfl⟩ := str_sd hx
    have e2 := f2.get e1 nd nl
    simp only [e2, STR, ↓k_ok, ↓k_bad, ↓k_bind, ↓k_ite, ↓k_lift, ↓k_noX, ↓k_optT, ↓k_optF, ↓k_op2T, ↓k_op2F, ↓k_optCT, ↓k_optCF, ↓on_some, ↓on_none, ↓e_k, ↓e_g, ↓e_x, ↓e_tup, ↓e_lst, ↓e_op1, ↓e_op2, ↓e_op3, ↓e_sl, ↓e_and, ↓e_or, ↓e_not, ↓e_ite, ↓e_chain, ↓e_call, ↓e_nil, ↓e_cons, ↓e_dic, ↓e_comp, ↓s_skip, ↓s_seq, ↓s_asg, ↓s_ex, ↓s_ret, ↓s_retN, ↓s_brk, ↓s_cont, ↓s_ite, ↓s_fo, ↓g_tg, ↓g_sub, ↓r_run, ↓r_call, ↓r_pure, ↓l_for0, ↓l_for1, ↓l_comp0, ↓l_comp1, ↓p_eq, ↓p_ne, ↓p_lt, ↓p_le, ↓p_gt, ↓p_ge, ↓p_addI, ↓p_addS, ↓p_addT, ↓p_sub, ↓p_mul, ↓p_mod, ↓p_fdiv, ↓p_pow, ↓p_in, ↓p_notin, ↓p_ixT, ↓p_neg, ↓p_abs, ↓p_int, ↓p_intB, ↓p_lenS, ↓p_tuple, ↓p_list, ↓p_repr, ↓p_rev, ↓p_slT, ↓p_slr, ↓p_sll, ↓vb_ss, ↓p_addl, ↓p_addr, ↓p_ixl, ↓p_ixri, ↓p_ixrs, ↓p_app, ↓p_ext, ↓p_popa, ↓p_popz, ↓p_ins, ↓p_lenT, ↓p_lenl, ↓p_lenr, ↓p_set, ↓p_isN, ↓p_noN, ↓p_sort, ↓as_nil, ↓as_cons, ↓lb_cc, ↓lb_nc, ↓lb_cn, ↓lb_nn, ↓onE_some, ↓onE_none, ↓at_lit, ↓at_last, ↓q_ss, ↓q_ii, ↓q_bb, ↓q_tt, ↓q_ll, ↓q_vs, ↓q_vi, ↓q_vt, ↓q_nil, ↓q_nilc, ↓q_cnil, ↓q_cons, ↓q_any0, ↓q_any1, ↓q_anyS, seqR, seqV, truthV, settle, settles, isNil, pre2, pre3, intOf, bindT, bindTs, permute, isV, wipeE, List.length_cons, List.length_nil, List.getElem?_cons_zero, List.getElem?_cons_succ, List.set_cons_zero, List.set_cons_succ, List.map_cons, List.map_nil, List.replicate, List.append, List.cons_append, List.nil_append, true_and, and_true, if_true, if_false, Bool.false_eq_true, Option.bind, Bool.not_true, Bool.not_false, Bool.true_and, Bool.false_and, Bool.and_true, Bool.and_false, Bool.or_true, Bool.or_false, Bool.true_or, Bool.false_or, lstAt, ownL, mutAt, dicAt, Option.map, Option.map_some, Option.map_none, List.getElem?_nil, keyOk, Bool.or_self, Bool.and_self, Nat.zero_le, Nat.reduceAdd, Nat.reduceSub, Nat.reduceLT, Nat.reduceLeDiff, Nat.reduceEqDiff, Nat.reduceBEq, beq_self_eq_true, Nat.zero_add, Nat.add_zero, List.length_map, top, List.length_append, List.all_cons, List.all_nil, nrR, Val.nr, Val.nrs, pureVal, and_self, List.filterMap_cons, List.filterMap_nil, l_for0, l_for1, l_comp0, l_comp1, List.getElem?_concat_length, List.length_set]
    refine Ok.imp (end_ y st2 sy k2 (f01.trans f2) e2 (fun r st' => (∃ h0 h1 h2, SD h0 ∧ SD h1 ∧ SD h2 ∧ r = .v (hV h0 h1 h2)) ∧ Dk st' d l ∧ Fr d l st st') fun u z st' su sz k4 f4 => ⟨⟨u, _, z, su, sy, sz, rfl⟩, k4, f4⟩) ?_
    rintro r st3 ⟨u, rfl, h3⟩
    simp only [↓k_ok, ↓k_bad, ↓k_bind, ↓k_ite, ↓k_lift, ↓k_noX, ↓k_optT, ↓k_optF, ↓k_op2T, ↓k_op2F, ↓k_optCT, ↓k_optCF, ↓on_some, ↓on_none, ↓e_k, ↓e_g, ↓e_x, ↓e_tup, ↓e_lst, ↓e_op1, ↓e_op2, ↓e_op3, ↓e_sl, ↓e_and, ↓e_or, ↓e_not, ↓e_ite, ↓e_chain, ↓e_call, ↓e_nil, ↓e_cons, ↓e_dic, ↓e_comp, ↓s_skip, ↓s_seq, ↓s_asg, ↓s_ex, ↓s_ret, ↓s_retN, ↓s_brk, ↓s_cont, ↓s_ite, ↓s_fo, ↓g_tg, ↓g_sub, ↓r_run, ↓r_call, ↓r_pure, ↓l_for0, ↓l_for1, ↓l_comp0, ↓l_comp1, ↓p_eq, ↓p_ne, ↓p_lt, ↓p_le, ↓p_gt, ↓p_ge, ↓p_addI, ↓p_addS, ↓p_addT, ↓p_sub, ↓p_mul, ↓p_mod, ↓p_fdiv, ↓p_pow, ↓p_in, ↓p_notin, ↓p_ixT, ↓p_neg, ↓p_abs, ↓p_int, ↓p_intB, ↓p_lenS, ↓p_tuple, ↓p_list, ↓p_repr, ↓p_rev, ↓p_slT, ↓p_slr, ↓p_sll, ↓vb_ss, ↓p_addl, ↓p_addr, ↓p_ixl, ↓p_ixri, ↓p_ixrs, ↓p_app, ↓p_ext, ↓p_popa, ↓p_popz, ↓p_ins, ↓p_lenT, ↓p_lenl, ↓p_lenr, ↓p_set, ↓p_isN, ↓p_noN, ↓p_sort, ↓as_nil, ↓as_cons, ↓lb_cc, ↓lb_nc, ↓lb_cn, ↓lb_nn, ↓onE_some, ↓onE_none, ↓at_lit, ↓at_last, ↓q_ss, ↓q_ii, ↓q_bb, ↓q_tt, ↓q_ll, ↓q_vs, ↓q_vi, ↓q_vt, ↓q_nil, ↓q_nilc, ↓q_cnil, ↓q_cons, ↓q_any0, ↓q_any1, ↓q_anyS, seqR, seqV, truthV, settle, settles, isNil, pre2, pre3, intOf, bindT, bindTs, permute, isV, wipeE, List.length_cons, List.length_nil, List.getElem?_cons_zero, List.getElem?_cons_succ, List.set_cons_zero, List.set_cons_succ, List.map_cons, List.map_nil, List.replicate, List.append, List.cons_append, List.nil_append, true_and, and_true, if_true, if_false, Bool.false_eq_true, Option.bind, Bool.not_true, Bool.not_false, Bool.true_and, Bool.false_and, Bool.and_true, Bool.and_false, Bool.or_true, Bool.or_false, Bool.true_or, Bool.false_or, lstAt, ownL, mutAt, dicAt, Option.map, Option.map_some, Option.map_none, List.getElem?_nil, keyOk, Bool.or_self, Bool.and_self, Nat.zero_le, Nat.reduceAdd, Nat.reduceSub, Nat.reduceLT, Nat.reduceLeDiff, Nat.reduceEqDiff, Nat.reduceBEq, beq_self_eq_true, Nat.zero_add, Nat.add_zero, List.length_map, top, List.length_append, List.all_cons, List.all_nil, nrR, Val.nr, Val.nrs, pureVal, and_self, List.filterMap_cons, List.filterMap_nil, l_for0, l_for1, l_comp0, l_comp1, List.getElem?_concat_length, List.length_set]
    refine Ok.imp h3 ?_
    rintro r st4 ⟨z, rfl, h4⟩
    simp only [↓k_ok, ↓k_bad, ↓k_bind, ↓k_ite, ↓k_lift, ↓k_noX, ↓k_optT, ↓k_optF, ↓k_op2T, ↓k_op2F, ↓k_optCT, ↓k_optCF, ↓on_some, ↓on_none, ↓e_k, ↓e_g, ↓e_x, ↓e_tup, ↓e_lst, ↓e_op1, ↓e_op2, ↓e_op3, ↓e_sl, ↓e_and, ↓e_or, ↓e_not, ↓e_ite, ↓e_chain, ↓e_call, ↓e_nil, ↓e_cons, ↓e_dic, ↓e_comp, ↓s_skip, ↓s_seq, ↓s_asg, ↓s_ex, ↓s_ret, ↓s_retN, ↓s_brk, ↓s_cont, ↓s_ite, ↓s_fo, ↓g_tg, ↓g_sub, ↓r_run, ↓r_call, ↓r_pure, ↓l_for0, ↓l_for1, ↓l_comp0, ↓l_comp1, ↓p_eq, ↓p_ne, ↓p_lt, ↓p_le, ↓p_gt, ↓p_ge, ↓p_addI, ↓p_addS, ↓p_addT, ↓p_sub, ↓p_mul, ↓p_mod, ↓p_fdiv, ↓p_pow, ↓p_in, ↓p_notin, ↓p_ixT, ↓p_neg, ↓p_abs, ↓p_int, ↓p_intB, ↓p_lenS, ↓p_tuple, ↓p_list, ↓p_repr, ↓p_rev, ↓p_slT, ↓p_slr, ↓p_sll, ↓vb_ss, ↓p_addl, ↓p_addr, ↓p_ixl, ↓p_ixri, ↓p_ixrs, ↓p_app, ↓p_ext, ↓p_popa, ↓p_popz, ↓p_ins, ↓p_lenT, ↓p_lenl, ↓p_lenr, ↓p_set, ↓p_isN, ↓p_noN, ↓p_sort, ↓as_nil, ↓as_cons, ↓lb_cc, ↓lb_nc, ↓lb_cn, ↓lb_nn, ↓onE_some, ↓onE_none, ↓at_lit, ↓at_last, ↓q_ss, ↓q_ii, ↓q_bb, ↓q_tt, ↓q_ll, ↓q_vs, ↓q_vi, ↓q_vt, ↓q_nil, ↓q_nilc, ↓q_cnil, ↓q_cons, ↓q_any0, ↓q_any1, ↓q_anyS, seqR, seqV, truthV, settle, settles, isNil, pre2, pre3, intOf, bindT, bindTs, permute, isV, wipeE, List.length_cons, List.length_nil, List.getElem?_cons_zero, List.getElem?_cons_succ, List.set_cons_zero, List.set_cons_succ, List.map_cons, List.map_nil, List.replicate, List.append, List.cons_append, List.nil_append, true_and, and_true, if_true, if_false, Bool.false_eq_true, Option.bind, Bool.not_true, Bool.not_false, Bool.true_and, Bool.false_and, Bool.and_true, Bool.and_false, Bool.or_true, Bool.or_false, Bool.true_or, Bool.false_or, lstAt, ownL, mutAt, dicAt, Option.map, Option.map_some, Option.map_none, List.getElem?_nil, keyOk, Bool.or_self, Bool.and_self, Nat.zero_le, Nat.reduceAdd, Nat.reduceSub, Nat.reduceLT, Nat.reduceLeDiff, Nat.reduceEqDiff, Nat.reduceBEq, beq_self_eq_true, Nat.zero_add, Nat.add_zero, List.length_map, top, List.length_append, List.all_cons, List.all_nil, nrR, Val.nr, Val.nrs, pureVal, and_self, List.filterMap_cons, List.filterMap_nil, l_for0, l_for1, l_comp0, l_comp1, List.getElem?_concat_length, List.length_set]
    exact h4
end Law
end
section
set_option Elab.async false
set_option maxRecDepth 100000
set_option linter.all false
namespace Law
open Mi
def THX : List Val := [.tup [], .tup [.str [97, 98, 111, 114, 116]], .tup [.str [99, 111, 109, 109, 105, 116]], .tup [.str [97, 98, 111, 114, 116], .str [99, 111, 109, 109, 105, 116]]]
theorem thx_td {x : Val} (h : x ∈ THX) : ∃ t, TD t ∧ x = .tup (t.map .str) := by
  simp only [THX, List.mem_cons, List.not_mem_nil, or_false] at h
  rcases h with rfl | rfl | rfl | rfl
  · exact ⟨_, .inl rfl, rfl⟩
  · exact ⟨_, .inr (.inl rfl), rfl⟩
  · exact ⟨_, .inr (.inr (.inl rfl)), rfl⟩
  · exact ⟨_, .inr (.inr (.inr rfl)), rfl⟩
theorem both_pd {x : Val} (h : x ∈ [Val.str [97, 98, 111, 114, 116], Val.str [99, 111, 109, 109, 105, 116]]) : ∃ y, PD y ∧ x = .str y := by
  simp only [List.mem_cons, List.not_mem_nil, or_false] at h
  rcases h with rfl | rfl
  · exact ⟨_, .inl rfl, rfl⟩
  · exact ⟨_, .inr rfl, rfl⟩
/-- a manner of the domain -/
def isM (v : Val) : Prop := ∃ p0 p1 p2 p4 t s, SD p0 ∧ SD p1 ∧ SD p2 ∧ PD p4 ∧ TD t ∧ v = mV p0 p1 p2 p4 t s
theorem Dk.set {st : Store} {d l n : Nat} {o : Mi.Obj} (h : Dk st d l) (h1 : n ≠ d) (h2 : n ≠ l) : Dk (st.set n o) d l := by
  obtain ⟨ne, ⟨s, s0, s1, ed⟩, xs, x0, xl, el⟩ := h
  exact ⟨ne, ⟨s, s0, s1, by rw [set_ne h1]; exact ed⟩, xs, x0, xl, by rw [set_ne h2]; exact el⟩
theorem Fr.set {d l n : Nat} {st st' : Store} {o : Mi.Obj} (h : Fr d l st st') (hn : st.length ≤ n) : Fr d l st (st'.set n o) := ⟨by simpa using h.len, fun m hm h1 h2 => by rw [set_ne (by omega)]; exact h.same m hm h1 h2⟩
theorem any_ok {s' : Store} {d l : Nat} (h : Dk s' d l) : Ok (f_law_any_manner_q [.ref d] s') fun r st' => (∃ v, isM v ∧ r = .v v) ∧ Dk st' d l ∧ Fr d l s' st' := by
  have nd : s'.length ≠ d := Nat.ne_of_gt h.ltd
  have nl : s'.length ≠ l := Nat.ne_of_gt h.ltl
  have e0 : (s' ++ [Mi.Obj.lst STR])[s'.length]? = some (.lst STR) := by rw [List.getElem?_concat_length]
  have wr : ∀ q st, walk .range1 (.v (.int 3)) q st = some ([.int 0, .int 1, .int 2], []) := fun _ _ => rfl
  unfold f_law_any_manner_q d_law_any_manner_q m_law_any_manner_q
  simp only [wr, stands, List.all_nil, ↓k_ok, ↓k_bad, ↓k_bind, ↓k_ite, ↓k_lift, ↓k_noX, ↓k_optT, ↓k_optF, ↓k_op2T, ↓k_op2F, ↓k_optCT, ↓k_optCF, ↓on_some, ↓on_none, ↓e_k, ↓e_g, ↓e_x, ↓e_tup, ↓e_lst, ↓e_op1, ↓e_op2, ↓e_op3, ↓e_sl, ↓e_and, ↓e_or, ↓e_not, ↓e_ite, ↓e_chain, ↓e_call, ↓e_nil, ↓e_cons, ↓e_dic, ↓e_comp, ↓s_skip, ↓s_seq, ↓s_asg, ↓s_ex, ↓s_ret, ↓s_retN, ↓s_brk, ↓s_cont, ↓s_ite, ↓s_fo, ↓g_tg, ↓g_sub, ↓r_run, ↓r_call, ↓r_pure, ↓l_for0, ↓l_for1, ↓l_comp0, ↓l_comp1, ↓p_eq, ↓p_ne, ↓p_lt, ↓p_le, ↓p_gt, ↓p_ge, ↓p_addI, ↓p_addS, ↓p_addT, ↓p_sub, ↓p_mul, ↓p_mod, ↓p_fdiv, ↓p_pow, ↓p_in, ↓p_notin, ↓p_ixT, ↓p_neg, ↓p_abs, ↓p_int, ↓p_intB, ↓p_lenS, ↓p_tuple, ↓p_list, ↓p_repr, ↓p_rev, ↓p_slT, ↓p_slr, ↓p_sll, ↓vb_ss, ↓p_addl, ↓p_addr, ↓p_ixl, ↓p_ixri, ↓p_ixrs, ↓p_app, ↓p_ext, ↓p_popa, ↓p_popz, ↓p_ins, ↓p_lenT, ↓p_lenl, ↓p_lenr, ↓p_set, ↓p_isN, ↓p_noN, ↓p_sort, ↓as_nil, ↓as_cons, ↓lb_cc, ↓lb_nc, ↓lb_cn, ↓lb_nn, ↓onE_some, ↓onE_none, ↓at_lit, ↓at_last, ↓q_ss, ↓q_ii, ↓q_bb, ↓q_tt, ↓q_ll, ↓q_vs, ↓q_vi, ↓q_vt, ↓q_nil, ↓q_nilc, ↓q_cnil, ↓q_cons, ↓q_any0, ↓q_any1, ↓q_anyS, seqR, seqV, truthV, settle, settles, isNil, pre2, pre3, intOf, bindT, bindTs, permute, isV, wipeE, List.length_cons, List.length_nil, List.getElem?_cons_zero, List.getElem?_cons_succ, List.set_cons_zero, List.set_cons_succ, List.map_cons, List.map_nil, List.replicate, List.append, List.cons_append, List.nil_append, true_and, and_true, if_true, if_false, Bool.false_eq_true, Option.bind, Bool.not_true, Bool.not_false, Bool.true_and, Bool.false_and, Bool.and_true, Bool.and_false, Bool.or_true, Bool.or_false, Bool.true_or, Bool.false_or, lstAt, ownL, mutAt, dicAt, Option.map, Option.map_some, Option.map_none, List.getElem?_nil, keyOk, Bool.or_self, Bool.and_self, Nat.zero_le, Nat.reduceAdd, Nat.reduceSub, Nat.reduceLT, Nat.reduceLeDiff, Nat.reduceEqDiff, Nat.reduceBEq, beq_self_eq_true, Nat.zero_add, Nat.add_zero, List.length_map, top, List.length_append, List.all_cons, List.all_nil, nrR, Val.nr, Val.nrs, pureVal, and_self, List.filterMap_cons, List.filterMap_nil, l_for0, l_for1, l_comp0, l_comp1, List.getElem?_concat_length, List.length_set]
  refine Ok.imp (pick_L h.app e0 nd nl (by simp [STR]) (by simp [STR])) ?_
  rintro r st1 ⟨⟨x, hx, rfl⟩, k1, f1⟩
  obtain ⟨p0, s0, rfl⟩ := str_sd hx
  have e1 := f1.get e0 nd nl
  simp only [wr, stands, List.all_nil, ↓k_ok, ↓k_bad, ↓k_bind, ↓k_ite, ↓k_lift, ↓k_noX, ↓k_optT, ↓k_optF, ↓k_op2T, ↓k_op2F, ↓k_optCT, ↓k_optCF, ↓on_some, ↓on_none, ↓e_k, ↓e_g, ↓e_x, ↓e_tup, ↓e_lst, ↓e_op1, ↓e_op2, ↓e_op3, ↓e_sl, ↓e_and, ↓e_or, ↓e_not, ↓e_ite, ↓e_chain, ↓e_call, ↓e_nil, ↓e_cons, ↓e_dic, ↓e_comp, ↓s_skip, ↓s_seq, ↓s_asg, ↓s_ex, ↓s_ret, ↓s_retN, ↓s_brk, ↓s_cont, ↓s_ite, ↓s_fo, ↓g_tg, ↓g_sub, ↓r_run, ↓r_call, ↓r_pure, ↓l_for0, ↓l_for1, ↓l_comp0, ↓l_comp1, ↓p_eq, ↓p_ne, ↓p_lt, ↓p_le, ↓p_gt, ↓p_ge, ↓p_addI, ↓p_addS, ↓p_addT, ↓p_sub, ↓p_mul, ↓p_mod, ↓p_fdiv, ↓p_pow, ↓p_in, ↓p_notin, ↓p_ixT, ↓p_neg, ↓p_abs, ↓p_int, ↓p_intB, ↓p_lenS, ↓p_tuple, ↓p_list, ↓p_repr, ↓p_rev, ↓p_slT, ↓p_slr, ↓p_sll, ↓vb_ss, ↓p_addl, ↓p_addr, ↓p_ixl, ↓p_ixri, ↓p_ixrs, ↓p_app, ↓p_ext, ↓p_popa, ↓p_popz, ↓p_ins, ↓p_lenT, ↓p_lenl, ↓p_lenr, ↓p_set, ↓p_isN, ↓p_noN, ↓p_sort, ↓as_nil, ↓as_cons, ↓lb_cc, ↓lb_nc, ↓lb_cn, ↓lb_nn, ↓onE_some, ↓onE_none, ↓at_lit, ↓at_last, ↓q_ss, ↓q_ii, ↓q_bb, ↓q_tt, ↓q_ll, ↓q_vs, ↓q_vi, ↓q_vt, ↓q_nil, ↓q_nilc, ↓q_cnil, ↓q_cons, ↓q_any0, ↓q_any1, ↓q_anyS, seqR, seqV, truthV, settle, settles, isNil, pre2, pre3, intOf, bindT, bindTs, permute, isV, wipeE, List.length_cons, List.length_nil, List.getElem?_cons_zero, List.getElem?_cons_succ, List.set_cons_zero, List.set_cons_succ, List.map_cons, List.map_nil, List.replicate, List.append, List.cons_append, List.nil_append, true_and, and_true, if_true, if_false, Bool.false_eq_true, Option.bind, Bool.not_true, Bool.not_false, Bool.true_and, Bool.false_and, Bool.and_true, Bool.and_false, Bool.or_true, Bool.or_false, Bool.true_or, Bool.false_or, lstAt, ownL, mutAt, dicAt, Option.map, Option.map_some, Option.map_none, List.getElem?_nil, keyOk, Bool.or_self, Bool.and_self, Nat.zero_le, Nat.reduceAdd, Nat.reduceSub, Nat.reduceLT, Nat.reduceLeDiff, Nat.reduceEqDiff, Nat.reduceBEq, beq_self_eq_true, Nat.zero_add, Nat.add_zero, List.length_map, top, List.length_append, List.all_cons, List.all_nil, nrR, Val.nr, Val.nrs, pureVal, and_self, List.filterMap_cons, List.filterMap_nil, l_for0, l_for1, l_comp0, l_comp1, List.getElem?_concat_length, List.length_set]
  refine Ok.imp (pick_L k1 e1 nd nl (by simp [STR]) (by simp [STR])) ?_
  rintro r st2 ⟨⟨x, hx, rfl⟩, k2, f2⟩
  obtain ⟨p1, s1, rfl⟩ := str_sd hx
  have e2 := f2.get e1 nd nl
  simp only [wr, stands, List.all_nil, ↓k_ok, ↓k_bad, ↓k_bind, ↓k_ite, ↓k_lift, ↓k_noX, ↓k_optT, ↓k_optF, ↓k_op2T, ↓k_op2F, ↓k_optCT, ↓k_optCF, ↓on_some, ↓on_none, ↓e_k, ↓e_g, ↓e_x, ↓e_tup, ↓e_lst, ↓e_op1, ↓e_op2, ↓e_op3, ↓e_sl, ↓e_and, ↓e_or, ↓e_not, ↓e_ite, ↓e_chain, ↓e_call, ↓e_nil, ↓e_cons, ↓e_dic, ↓e_comp, ↓s_skip, ↓s_seq, ↓s_asg, ↓s_ex, ↓s_ret, ↓s_retN, ↓s_brk, ↓s_cont, ↓s_ite, ↓s_fo, ↓g_tg, ↓g_sub, ↓r_run, ↓r_call, ↓r_pure, ↓l_for0, ↓l_for1, ↓l_comp0, ↓l_comp1, ↓p_eq, ↓p_ne, ↓p_lt, ↓p_le, ↓p_gt, ↓p_ge, ↓p_addI, ↓p_addS, ↓p_addT, ↓p_sub, ↓p_mul, ↓p_mod, ↓p_fdiv, ↓p_pow, ↓p_in, ↓p_notin, ↓p_ixT, ↓p_neg, ↓p_abs, ↓p_int, ↓p_intB, ↓p_lenS, ↓p_tuple, ↓p_list, ↓p_repr, ↓p_rev, ↓p_slT, ↓p_slr, ↓p_sll, ↓vb_ss, ↓p_addl, ↓p_addr, ↓p_ixl, ↓p_ixri, ↓p_ixrs, ↓p_app, ↓p_ext, ↓p_popa, ↓p_popz, ↓p_ins, ↓p_lenT, ↓p_lenl, ↓p_lenr, ↓p_set, ↓p_isN, ↓p_noN, ↓p_sort, ↓as_nil, ↓as_cons, ↓lb_cc, ↓lb_nc, ↓lb_cn, ↓lb_nn, ↓onE_some, ↓onE_none, ↓at_lit, ↓at_last, ↓q_ss, ↓q_ii, ↓q_bb, ↓q_tt, ↓q_ll, ↓q_vs, ↓q_vi, ↓q_vt, ↓q_nil, ↓q_nilc, ↓q_cnil, ↓q_cons, ↓q_any0, ↓q_any1, ↓q_anyS, seqR, seqV, truthV, settle, settles, isNil, pre2, pre3, intOf, bindT, bindTs, permute, isV, wipeE, List.length_cons, List.length_nil, List.getElem?_cons_zero, List.getElem?_cons_succ, List.set_cons_zero, List.set_cons_succ, List.map_cons, List.map_nil, List.replicate, List.append, List.cons_append, List.nil_append, true_and, and_true, if_true, if_false, Bool.false_eq_true, Option.bind, Bool.not_true, Bool.not_false, Bool.true_and, Bool.false_and, Bool.and_true, Bool.and_false, Bool.or_true, Bool.or_false, Bool.true_or, Bool.false_or, lstAt, ownL, mutAt, dicAt, Option.map, Option.map_some, Option.map_none, List.getElem?_nil, keyOk, Bool.or_self, Bool.and_self, Nat.zero_le, Nat.reduceAdd, Nat.reduceSub, Nat.reduceLT, Nat.reduceLeDiff, Nat.reduceEqDiff, Nat.reduceBEq, beq_self_eq_true, Nat.zero_add, Nat.add_zero, List.length_map, top, List.length_append, List.all_cons, List.all_nil, nrR, Val.nr, Val.nrs, pureVal, and_self, List.filterMap_cons, List.filterMap_nil, l_for0, l_for1, l_comp0, l_comp1, List.getElem?_concat_length, List.length_set]
  refine Ok.imp (pick_L k2 e2 nd nl (by simp [STR]) (by simp [STR])) ?_
  rintro r st3 ⟨⟨x, hx, rfl⟩, k3, f3⟩
  obtain ⟨p2, s2, rfl⟩ := str_sd hx
  simp only [wr, stands, List.all_nil, ↓k_ok, ↓k_bad, ↓k_bind, ↓k_ite, ↓k_lift, ↓k_noX, ↓k_optT, ↓k_optF, ↓k_op2T, ↓k_op2F, ↓k_optCT, ↓k_optCF, ↓on_some, ↓on_none, ↓e_k, ↓e_g, ↓e_x, ↓e_tup, ↓e_lst, ↓e_op1, ↓e_op2, ↓e_op3, ↓e_sl, ↓e_and, ↓e_or, ↓e_not, ↓e_ite, ↓e_chain, ↓e_call, ↓e_nil, ↓e_cons, ↓e_dic, ↓e_comp, ↓s_skip, ↓s_seq, ↓s_asg, ↓s_ex, ↓s_ret, ↓s_retN, ↓s_brk, ↓s_cont, ↓s_ite, ↓s_fo, ↓g_tg, ↓g_sub, ↓r_run, ↓r_call, ↓r_pure, ↓l_for0, ↓l_for1, ↓l_comp0, ↓l_comp1, ↓p_eq, ↓p_ne, ↓p_lt, ↓p_le, ↓p_gt, ↓p_ge, ↓p_addI, ↓p_addS, ↓p_addT, ↓p_sub, ↓p_mul, ↓p_mod, ↓p_fdiv, ↓p_pow, ↓p_in, ↓p_notin, ↓p_ixT, ↓p_neg, ↓p_abs, ↓p_int, ↓p_intB, ↓p_lenS, ↓p_tuple, ↓p_list, ↓p_repr, ↓p_rev, ↓p_slT, ↓p_slr, ↓p_sll, ↓vb_ss, ↓p_addl, ↓p_addr, ↓p_ixl, ↓p_ixri, ↓p_ixrs, ↓p_app, ↓p_ext, ↓p_popa, ↓p_popz, ↓p_ins, ↓p_lenT, ↓p_lenl, ↓p_lenr, ↓p_set, ↓p_isN, ↓p_noN, ↓p_sort, ↓as_nil, ↓as_cons, ↓lb_cc, ↓lb_nc, ↓lb_cn, ↓lb_nn, ↓onE_some, ↓onE_none, ↓at_lit, ↓at_last, ↓q_ss, ↓q_ii, ↓q_bb, ↓q_tt, ↓q_ll, ↓q_vs, ↓q_vi, ↓q_vt, ↓q_nil, ↓q_nilc, ↓q_cnil, ↓q_cons, ↓q_any0, ↓q_any1, ↓q_anyS, seqR, seqV, truthV, settle, settles, isNil, pre2, pre3, intOf, bindT, bindTs, permute, isV, wipeE, List.length_cons, List.length_nil, List.getElem?_cons_zero, List.getElem?_cons_succ, List.set_cons_zero, List.set_cons_succ, List.map_cons, List.map_nil, List.replicate, List.append, List.cons_append, List.nil_append, true_and, and_true, if_true, if_false, Bool.false_eq_true, Option.bind, Bool.not_true, Bool.not_false, Bool.true_and, Bool.false_and, Bool.and_true, Bool.and_false, Bool.or_true, Bool.or_false, Bool.true_or, Bool.false_or, lstAt, ownL, mutAt, dicAt, Option.map, Option.map_some, Option.map_none, List.getElem?_nil, keyOk, Bool.or_self, Bool.and_self, Nat.zero_le, Nat.reduceAdd, Nat.reduceSub, Nat.reduceLT, Nat.reduceLeDiff, Nat.reduceEqDiff, Nat.reduceBEq, beq_self_eq_true, Nat.zero_add, Nat.add_zero, List.length_map, top, List.length_append, List.all_cons, List.all_nil, nrR, Val.nr, Val.nrs, pureVal, and_self, List.filterMap_cons, List.filterMap_nil, l_for0, l_for1, l_comp0, l_comp1, List.getElem?_concat_length, List.length_set]
  have n3d : st3.length ≠ d := Nat.ne_of_gt k3.ltd
  have n3l : st3.length ≠ l := Nat.ne_of_gt k3.ltl
  have q3 : (st3 ++ [Mi.Obj.lst [Val.str p0, Val.str p1, Val.str p2]])[st3.length]? = some (.lst [Val.str p0, Val.str p1, Val.str p2]) := by rw [List.getElem?_concat_length]
  have pk := pick_N (st := st3 ++ [Mi.Obj.lst [Val.str p0, Val.str p1, Val.str p2]]) k3.app (xs := THX) (by simp [THX]) (by simp [THX])
  rw [List.length_append] at pk
  refine Ok.imp pk ?_
  rintro r st4 ⟨⟨x, hx, rfl⟩, k4, f4⟩
  obtain ⟨t, st, rfl⟩ := thx_td hx
  have e4 := f4.get q3 n3d n3l
  simp only [e4, ↓k_ok, ↓k_bad, ↓k_bind, ↓k_ite, ↓k_lift, ↓k_noX, ↓k_optT, ↓k_optF, ↓k_op2T, ↓k_op2F, ↓k_optCT, ↓k_optCF, ↓on_some, ↓on_none, ↓e_k, ↓e_g, ↓e_x, ↓e_tup, ↓e_lst, ↓e_op1, ↓e_op2, ↓e_op3, ↓e_sl, ↓e_and, ↓e_or, ↓e_not, ↓e_ite, ↓e_chain, ↓e_call, ↓e_nil, ↓e_cons, ↓e_dic, ↓e_comp, ↓s_skip, ↓s_seq, ↓s_asg, ↓s_ex, ↓s_ret, ↓s_retN, ↓s_brk, ↓s_cont, ↓s_ite, ↓s_fo, ↓g_tg, ↓g_sub, ↓r_run, ↓r_call, ↓r_pure, ↓l_for0, ↓l_for1, ↓l_comp0, ↓l_comp1, ↓p_eq, ↓p_ne, ↓p_lt, ↓p_le, ↓p_gt, ↓p_ge, ↓p_addI, ↓p_addS, ↓p_addT, ↓p_sub, ↓p_mul, ↓p_mod, ↓p_fdiv, ↓p_pow, ↓p_in, ↓p_notin, ↓p_ixT, ↓p_neg, ↓p_abs, ↓p_int, ↓p_intB, ↓p_lenS, ↓p_tuple, ↓p_list, ↓p_repr, ↓p_rev, ↓p_slT, ↓p_slr, ↓p_sll, ↓vb_ss, ↓p_addl, ↓p_addr, ↓p_ixl, ↓p_ixri, ↓p_ixrs, ↓p_app, ↓p_ext, ↓p_popa, ↓p_popz, ↓p_ins, ↓p_lenT, ↓p_lenl, ↓p_lenr, ↓p_set, ↓p_isN, ↓p_noN, ↓p_sort, ↓as_nil, ↓as_cons, ↓lb_cc, ↓lb_nc, ↓lb_cn, ↓lb_nn, ↓onE_some, ↓onE_none, ↓at_lit, ↓at_last, ↓q_ss, ↓q_ii, ↓q_bb, ↓q_tt, ↓q_ll, ↓q_vs, ↓q_vi, ↓q_vt, ↓q_nil, ↓q_nilc, ↓q_cnil, ↓q_cons, ↓q_any0, ↓q_any1, ↓q_anyS, seqR, seqV, truthV, settle, settles, isNil, pre2, pre3, intOf, bindT, bindTs, permute, isV, wipeE, List.length_cons, List.length_nil, List.getElem?_cons_zero, List.getElem?_cons_succ, List.set_cons_zero, List.set_cons_succ, List.map_cons, List.map_nil, List.replicate, List.append, List.cons_append, List.nil_append, true_and, and_true, if_true, if_false, Bool.false_eq_true, Option.bind, Bool.not_true, Bool.not_false, Bool.true_and, Bool.false_and, Bool.and_true, Bool.and_false, Bool.or_true, Bool.or_false, Bool.true_or, Bool.false_or, lstAt, ownL, mutAt, dicAt, Option.map, Option.map_some, Option.map_none, List.getElem?_nil, keyOk, Bool.or_self, Bool.and_self, Nat.zero_le, Nat.reduceAdd, Nat.reduceSub, Nat.reduceLT, Nat.reduceLeDiff, Nat.reduceEqDiff, Nat.reduceBEq, beq_self_eq_true, Nat.zero_add, Nat.add_zero, List.length_map, top, List.length_append, List.all_cons, List.all_nil, nrR, Val.nr, Val.nrs, pureVal, and_self, List.filterMap_cons, List.filterMap_nil, l_for0, l_for1, l_comp0, l_comp1, List.getElem?_concat_length, List.length_set]
  have pk := pick_N (st := List.set st4 st3.length (Mi.Obj.lst [Val.str p0, Val.str p1, Val.str p2, Val.tup (t.map .str)])) (k4.set n3d n3l) (xs := [Val.str [97, 98, 111, 114, 116], Val.str [99, 111, 109, 109, 105, 116]]) (by simp) (by simp)
  rw [List.length_set] at pk
  refine Ok.imp pk ?_
  rintro r st5 ⟨⟨x, hx, rfl⟩, k5, f5⟩
  obtain ⟨p4, s4, rfl⟩ := both_pd hx
  have e5 := f5.get (set_self e4) n3d n3l
  simp only [↓k_ok, ↓k_bad, ↓k_bind, ↓k_ite, ↓k_lift, ↓k_noX, ↓k_optT, ↓k_optF, ↓k_op2T, ↓k_op2F, ↓k_optCT, ↓k_optCF, ↓on_some, ↓on_none, ↓e_k, ↓e_g, ↓e_x, ↓e_tup, ↓e_lst, ↓e_op1, ↓e_op2, ↓e_op3, ↓e_sl, ↓e_and, ↓e_or, ↓e_not, ↓e_ite, ↓e_chain, ↓e_call, ↓e_nil, ↓e_cons, ↓e_dic, ↓e_comp, ↓s_skip, ↓s_seq, ↓s_asg, ↓s_ex, ↓s_ret, ↓s_retN, ↓s_brk, ↓s_cont, ↓s_ite, ↓s_fo, ↓g_tg, ↓g_sub, ↓r_run, ↓r_call, ↓r_pure, ↓l_for0, ↓l_for1, ↓l_comp0, ↓l_comp1, ↓p_eq, ↓p_ne, ↓p_lt, ↓p_le, ↓p_gt, ↓p_ge, ↓p_addI, ↓p_addS, ↓p_addT, ↓p_sub, ↓p_mul, ↓p_mod, ↓p_fdiv, ↓p_pow, ↓p_in, ↓p_notin, ↓p_ixT, ↓p_neg, ↓p_abs, ↓p_int, ↓p_intB, ↓p_lenS, ↓p_tuple, ↓p_list, ↓p_repr, ↓p_rev, ↓p_slT, ↓p_slr, ↓p_sll, ↓vb_ss, ↓p_addl, ↓p_addr, ↓p_ixl, ↓p_ixri, ↓p_ixrs, ↓p_app, ↓p_ext, ↓p_popa, ↓p_popz, ↓p_ins, ↓p_lenT, ↓p_lenl, ↓p_lenr, ↓p_set, ↓p_isN, ↓p_noN, ↓p_sort, ↓as_nil, ↓as_cons, ↓lb_cc, ↓lb_nc, ↓lb_cn, ↓lb_nn, ↓onE_some, ↓onE_none, ↓at_lit, ↓at_last, ↓q_ss, ↓q_ii, ↓q_bb, ↓q_tt, ↓q_ll, ↓q_vs, ↓q_vi, ↓q_vt, ↓q_nil, ↓q_nilc, ↓q_cnil, ↓q_cons, ↓q_any0, ↓q_any1, ↓q_anyS, seqR, seqV, truthV, settle, settles, isNil, pre2, pre3, intOf, bindT, bindTs, permute, isV, wipeE, List.length_cons, List.length_nil, List.getElem?_cons_zero, List.getElem?_cons_succ, List.set_cons_zero, List.set_cons_succ, List.map_cons, List.map_nil, List.replicate, List.append, List.cons_append, List.nil_append, true_and, and_true, if_true, if_false, Bool.false_eq_true, Option.bind, Bool.not_true, Bool.not_false, Bool.true_and, Bool.false_and, Bool.and_true, Bool.and_false, Bool.or_true, Bool.or_false, Bool.true_or, Bool.false_or, lstAt, ownL, mutAt, dicAt, Option.map, Option.map_some, Option.map_none, List.getElem?_nil, keyOk, Bool.or_self, Bool.and_self, Nat.zero_le, Nat.reduceAdd, Nat.reduceSub, Nat.reduceLT, Nat.reduceLeDiff, Nat.reduceEqDiff, Nat.reduceBEq, beq_self_eq_true, Nat.zero_add, Nat.add_zero, List.length_map, top, List.length_append, List.all_cons, List.all_nil, nrR, Val.nr, Val.nrs, pureVal, and_self, List.filterMap_cons, List.filterMap_nil, l_for0, l_for1, l_comp0, l_comp1, List.getElem?_concat_length, List.length_set]
  refine Ok.imp (draw_ok k5 (by decide)) ?_
  rintro r st6 ⟨i, rfl, i0, i1, k6, f6⟩
  have e6 := f6.get e5 n3d n3l
  simp only [e6, ↓k_ok, ↓k_bad, ↓k_bind, ↓k_ite, ↓k_lift, ↓k_noX, ↓k_optT, ↓k_optF, ↓k_op2T, ↓k_op2F, ↓k_optCT, ↓k_optCF, ↓on_some, ↓on_none, ↓e_k, ↓e_g, ↓e_x, ↓e_tup, ↓e_lst, ↓e_op1, ↓e_op2, ↓e_op3, ↓e_sl, ↓e_and, ↓e_or, ↓e_not, ↓e_ite, ↓e_chain, ↓e_call, ↓e_nil, ↓e_cons, ↓e_dic, ↓e_comp, ↓s_skip, ↓s_seq, ↓s_asg, ↓s_ex, ↓s_ret, ↓s_retN, ↓s_brk, ↓s_cont, ↓s_ite, ↓s_fo, ↓g_tg, ↓g_sub, ↓r_run, ↓r_call, ↓r_pure, ↓l_for0, ↓l_for1, ↓l_comp0, ↓l_comp1, ↓p_eq, ↓p_ne, ↓p_lt, ↓p_le, ↓p_gt, ↓p_ge, ↓p_addI, ↓p_addS, ↓p_addT, ↓p_sub, ↓p_mul, ↓p_mod, ↓p_fdiv, ↓p_pow, ↓p_in, ↓p_notin, ↓p_ixT, ↓p_neg, ↓p_abs, ↓p_int, ↓p_intB, ↓p_lenS, ↓p_tuple, ↓p_list, ↓p_repr, ↓p_rev, ↓p_slT, ↓p_slr, ↓p_sll, ↓vb_ss, ↓p_addl, ↓p_addr, ↓p_ixl, ↓p_ixri, ↓p_ixrs, ↓p_app, ↓p_ext, ↓p_popa, ↓p_popz, ↓p_ins, ↓p_lenT, ↓p_lenl, ↓p_lenr, ↓p_set, ↓p_isN, ↓p_noN, ↓p_sort, ↓as_nil, ↓as_cons, ↓lb_cc, ↓lb_nc, ↓lb_cn, ↓lb_nn, ↓onE_some, ↓onE_none, ↓at_lit, ↓at_last, ↓q_ss, ↓q_ii, ↓q_bb, ↓q_tt, ↓q_ll, ↓q_vs, ↓q_vi, ↓q_vt, ↓q_nil, ↓q_nilc, ↓q_cnil, ↓q_cons, ↓q_any0, ↓q_any1, ↓q_anyS, seqR, seqV, truthV, settle, settles, isNil, pre2, pre3, intOf, bindT, bindTs, permute, isV, wipeE, List.length_cons, List.length_nil, List.getElem?_cons_zero, List.getElem?_cons_succ, List.set_cons_zero, List.set_cons_succ, List.map_cons, List.map_nil, List.replicate, List.append, List.cons_append, List.nil_append, true_and, and_true, if_true, if_false, Bool.false_eq_true, Option.bind, Bool.not_true, Bool.not_false, Bool.true_and, Bool.false_and, Bool.and_true, Bool.and_false, Bool.or_true, Bool.or_false, Bool.true_or, Bool.false_or, lstAt, ownL, mutAt, dicAt, Option.map, Option.map_some, Option.map_none, List.getElem?_nil, keyOk, Bool.or_self, Bool.and_self, Nat.zero_le, Nat.reduceAdd, Nat.reduceSub, Nat.reduceLT, Nat.reduceLeDiff, Nat.reduceEqDiff, Nat.reduceBEq, beq_self_eq_true, Nat.zero_add, Nat.add_zero, List.length_map, top, List.length_append, List.all_cons, List.all_nil, nrR, Val.nr, Val.nrs, pureVal, and_self, List.filterMap_cons, List.filterMap_nil, l_for0, l_for1, l_comp0, l_comp1, List.getElem?_concat_length, List.length_set]
  refine ⟨⟨_, ⟨p0, p1, p2, p4, t, i == 1, s0, s1, s2, s4, st, rfl⟩, rfl⟩, k6, ?_⟩
  have g3 : Fr d l s' st3 := ((Fr.app.trans f1).trans f2).trans f3
  exact ((((g3.trans Fr.app).trans f4).set g3.len).trans f5).trans f6
end Law
end
section
set_option Elab.async false
set_option maxRecDepth 100000
set_option linter.all false
namespace Law
open Mi
def BOTH : Val := .tup [.str [97, 98, 111, 114, 116], .str [99, 111, 109, 109, 105, 116]]
theorem fit_ok {s' : Store} {d l : Nat} (h : Dk s' d l) {h0 h1 h2 : List Nat} : Ok (f_law_fit_manner_q [.ref d, hV h0 h1 h2] s') fun r st' => (∃ v, isM v ∧ r = .v v) ∧ Dk st' d l ∧ Fr d l s' st' := by
  have nd : s'.length ≠ d := Nat.ne_of_gt h.ltd
  have nl : s'.length ≠ l := Nat.ne_of_gt h.ltl
  have e0 : (s' ++ [Mi.Obj.lst STR])[s'.length]? = some (.lst STR) := by rw [List.getElem?_concat_length]
  unfold f_law_fit_manner_q d_law_fit_manner_q m_law_fit_manner_q
  rw [r_run]
  refine ⟨rfl, ?_⟩
  refine seq_ok (fun ρ st => ρ = [some (.ref d), some (hV h0 h1 h2), some (.ref s'.length), some BOTH, none, none, none, none, none] ∧ Dk st d l ∧ Fr d l s' st ∧ st[s'.length]? = some (.lst STR)) ?_ ?_
  · simp only [↓k_ok, ↓k_bad, ↓k_bind, ↓k_ite, ↓k_lift, ↓k_noX, ↓k_optT, ↓k_optF, ↓k_op2T, ↓k_op2F, ↓k_optCT, ↓k_optCF, ↓on_some, ↓on_none, ↓e_k, ↓e_g, ↓e_x, ↓e_tup, ↓e_lst, ↓e_op1, ↓e_op2, ↓e_op3, ↓e_sl, ↓e_and, ↓e_or, ↓e_not, ↓e_ite, ↓e_chain, ↓e_call, ↓e_nil, ↓e_cons, ↓e_dic, ↓e_comp, ↓s_skip, ↓s_seq, ↓s_asg, ↓s_ex, ↓s_ret, ↓s_retN, ↓s_brk, ↓s_cont, ↓s_ite, ↓s_fo, ↓g_tg, ↓g_sub, ↓r_run, ↓r_call, ↓r_pure, ↓l_for0, ↓l_for1, ↓l_comp0, ↓l_comp1, ↓p_eq, ↓p_ne, ↓p_lt, ↓p_le, ↓p_gt, ↓p_ge, ↓p_addI, ↓p_addS, ↓p_addT, ↓p_sub, ↓p_mul, ↓p_mod, ↓p_fdiv, ↓p_pow, ↓p_in, ↓p_notin, ↓p_ixT, ↓p_neg, ↓p_abs, ↓p_int, ↓p_intB, ↓p_lenS, ↓p_tuple, ↓p_list, ↓p_repr, ↓p_rev, ↓p_slT, ↓p_slr, ↓p_sll, ↓vb_ss, ↓p_addl, ↓p_addr, ↓p_ixl, ↓p_ixri, ↓p_ixrs, ↓p_app, ↓p_ext, ↓p_popa, ↓p_popz, ↓p_ins, ↓p_lenT, ↓p_lenl, ↓p_lenr, ↓p_set, ↓p_isN, ↓p_noN, ↓p_sort, ↓as_nil, ↓as_cons, ↓lb_cc, ↓lb_nc, ↓lb_cn, ↓lb_nn, ↓onE_some, ↓onE_none, ↓at_lit, ↓at_last, ↓q_ss, ↓q_ii, ↓q_bb, ↓q_tt, ↓q_ll, ↓q_vs, ↓q_vi, ↓q_vt, ↓q_nil, ↓q_nilc, ↓q_cnil, ↓q_cons, ↓q_any0, ↓q_any1, ↓q_anyS, seqR, seqV, truthV, settle, settles, isNil, pre2, pre3, intOf, bindT, bindTs, permute, isV, wipeE, List.length_cons, List.length_nil, List.getElem?_cons_zero, List.getElem?_cons_succ, List.set_cons_zero, List.set_cons_succ, List.map_cons, List.map_nil, List.replicate, List.append, List.cons_append, List.nil_append, true_and, and_true, if_true, if_false, Bool.false_eq_true, Option.bind, Bool.not_true, Bool.not_false, Bool.true_and, Bool.false_and, Bool.and_true, Bool.and_false, Bool.or_true, Bool.or_false, Bool.true_or, Bool.false_or, lstAt, ownL, mutAt, dicAt, Option.map, Option.map_some, Option.map_none, List.getElem?_nil, keyOk, Bool.or_self, Bool.and_self, Nat.zero_le, Nat.reduceAdd, Nat.reduceSub, Nat.reduceLT, Nat.reduceLeDiff, Nat.reduceEqDiff, Nat.reduceBEq, beq_self_eq_true, Nat.zero_add, Nat.add_zero, List.length_map, top, List.length_append, List.all_cons, List.all_nil, nrR, Val.nr, Val.nrs, pureVal, and_self, List.filterMap_cons, List.filterMap_nil, l_for0, l_for1, l_comp0, l_comp1, List.getElem?_concat_length, List.length_set]
    exact ⟨_, rfl, rfl, h.app, .app, rfl⟩
  rintro ρ st ⟨rfl, k, f, e⟩
  refine seq_ok (fun ρ st => ∃ y b, PD y ∧ ρ = [some (.ref d), some (hV h0 h1 h2), some (.ref s'.length), some BOTH, some (.str y), some (.bl b), none, none, none] ∧ Dk st d l ∧ Fr d l s' st ∧ st[s'.length]? = some (.lst STR)) ?_ ?_
  · by_cases hh : (h0 == [102, 111, 114, 99, 101, 100]) = true
    · simp only [hV, BOTH, hh, ↓k_ok, ↓k_bad, ↓k_bind, ↓k_ite, ↓k_lift, ↓k_noX, ↓k_optT, ↓k_optF, ↓k_op2T, ↓k_op2F, ↓k_optCT, ↓k_optCF, ↓on_some, ↓on_none, ↓e_k, ↓e_g, ↓e_x, ↓e_tup, ↓e_lst, ↓e_op1, ↓e_op2, ↓e_op3, ↓e_sl, ↓e_and, ↓e_or, ↓e_not, ↓e_ite, ↓e_chain, ↓e_call, ↓e_nil, ↓e_cons, ↓e_dic, ↓e_comp, ↓s_skip, ↓s_seq, ↓s_asg, ↓s_ex, ↓s_ret, ↓s_retN, ↓s_brk, ↓s_cont, ↓s_ite, ↓s_fo, ↓g_tg, ↓g_sub, ↓r_run, ↓r_call, ↓r_pure, ↓l_for0, ↓l_for1, ↓l_comp0, ↓l_comp1, ↓p_eq, ↓p_ne, ↓p_lt, ↓p_le, ↓p_gt, ↓p_ge, ↓p_addI, ↓p_addS, ↓p_addT, ↓p_sub, ↓p_mul, ↓p_mod, ↓p_fdiv, ↓p_pow, ↓p_in, ↓p_notin, ↓p_ixT, ↓p_neg, ↓p_abs, ↓p_int, ↓p_intB, ↓p_lenS, ↓p_tuple, ↓p_list, ↓p_repr, ↓p_rev, ↓p_slT, ↓p_slr, ↓p_sll, ↓vb_ss, ↓p_addl, ↓p_addr, ↓p_ixl, ↓p_ixri, ↓p_ixrs, ↓p_app, ↓p_ext, ↓p_popa, ↓p_popz, ↓p_ins, ↓p_lenT, ↓p_lenl, ↓p_lenr, ↓p_set, ↓p_isN, ↓p_noN, ↓p_sort, ↓as_nil, ↓as_cons, ↓lb_cc, ↓lb_nc, ↓lb_cn, ↓lb_nn, ↓onE_some, ↓onE_none, ↓at_lit, ↓at_last, ↓q_ss, ↓q_ii, ↓q_bb, ↓q_tt, ↓q_ll, ↓q_vs, ↓q_vi, ↓q_vt, ↓q_nil, ↓q_nilc, ↓q_cnil, ↓q_cons, ↓q_any0, ↓q_any1, ↓q_anyS, seqR, seqV, truthV, settle, settles, isNil, pre2, pre3, intOf, bindT, bindTs, permute, isV, wipeE, List.length_cons, List.length_nil, List.getElem?_cons_zero, List.getElem?_cons_succ, List.set_cons_zero, List.set_cons_succ, List.map_cons, List.map_nil, List.replicate, List.append, List.cons_append, List.nil_append, true_and, and_true, if_true, if_false, Bool.false_eq_true, Option.bind, Bool.not_true, Bool.not_false, Bool.true_and, Bool.false_and, Bool.and_true, Bool.and_false, Bool.or_true, Bool.or_false, Bool.true_or, Bool.false_or, lstAt, ownL, mutAt, dicAt, Option.map, Option.map_some, Option.map_none, List.getElem?_nil, keyOk, Bool.or_self, Bool.and_self, Nat.zero_le, Nat.reduceAdd, Nat.reduceSub, Nat.reduceLT, Nat.reduceLeDiff, Nat.reduceEqDiff, Nat.reduceBEq, beq_self_eq_true, Nat.zero_add, Nat.add_zero, List.length_map, top, List.length_append, List.all_cons, List.all_nil, nrR, Val.nr, Val.nrs, pureVal, and_self, List.filterMap_cons, List.filterMap_nil, l_for0, l_for1, l_comp0, l_comp1, List.getElem?_concat_length, List.length_set]
      refine Ok.imp (pick_T k (by simp) (by simp)) ?_
      rintro r st1 ⟨⟨x, hx, rfl⟩, k1, f1⟩
      obtain ⟨y, sy, rfl⟩ := both_pd hx
      simp only [↓k_ok, ↓k_bad, ↓k_bind, ↓k_ite, ↓k_lift, ↓k_noX, ↓k_optT, ↓k_optF, ↓k_op2T, ↓k_op2F, ↓k_optCT, ↓k_optCF, ↓on_some, ↓on_none, ↓e_k, ↓e_g, ↓e_x, ↓e_tup, ↓e_lst, ↓e_op1, ↓e_op2, ↓e_op3, ↓e_sl, ↓e_and, ↓e_or, ↓e_not, ↓e_ite, ↓e_chain, ↓e_call, ↓e_nil, ↓e_cons, ↓e_dic, ↓e_comp, ↓s_skip, ↓s_seq, ↓s_asg, ↓s_ex, ↓s_ret, ↓s_retN, ↓s_brk, ↓s_cont, ↓s_ite, ↓s_fo, ↓g_tg, ↓g_sub, ↓r_run, ↓r_call, ↓r_pure, ↓l_for0, ↓l_for1, ↓l_comp0, ↓l_comp1, ↓p_eq, ↓p_ne, ↓p_lt, ↓p_le, ↓p_gt, ↓p_ge, ↓p_addI, ↓p_addS, ↓p_addT, ↓p_sub, ↓p_mul, ↓p_mod, ↓p_fdiv, ↓p_pow, ↓p_in, ↓p_notin, ↓p_ixT, ↓p_neg, ↓p_abs, ↓p_int, ↓p_intB, ↓p_lenS, ↓p_tuple, ↓p_list, ↓p_repr, ↓p_rev, ↓p_slT, ↓p_slr, ↓p_sll, ↓vb_ss, ↓p_addl, ↓p_addr, ↓p_ixl, ↓p_ixri, ↓p_ixrs, ↓p_app, ↓p_ext, ↓p_popa, ↓p_popz, ↓p_ins, ↓p_lenT, ↓p_lenl, ↓p_lenr, ↓p_set, ↓p_isN, ↓p_noN, ↓p_sort, ↓as_nil, ↓as_cons, ↓lb_cc, ↓lb_nc, ↓lb_cn, ↓lb_nn, ↓onE_some, ↓onE_none, ↓at_lit, ↓at_last, ↓q_ss, ↓q_ii, ↓q_bb, ↓q_tt, ↓q_ll, ↓q_vs, ↓q_vi, ↓q_vt, ↓q_nil, ↓q_nilc, ↓q_cnil, ↓q_cons, ↓q_any0, ↓q_any1, ↓q_anyS, seqR, seqV, truthV, settle, settles, isNil, pre2, pre3, intOf, bindT, bindTs, permute, isV, wipeE, List.length_cons, List.length_nil, List.getElem?_cons_zero, List.getElem?_cons_succ, List.set_cons_zero, List.set_cons_succ, List.map_cons, List.map_nil, List.replicate, List.append, List.cons_append, List.nil_append, true_and, and_true, if_true, if_false, Bool.false_eq_true, Option.bind, Bool.not_true, Bool.not_false, Bool.true_and, Bool.false_and, Bool.and_true, Bool.and_false, Bool.or_true, Bool.or_false, Bool.true_or, Bool.false_or, lstAt, ownL, mutAt, dicAt, Option.map, Option.map_some, Option.map_none, List.getElem?_nil, keyOk, Bool.or_self, Bool.and_self, Nat.zero_le, Nat.reduceAdd, Nat.reduceSub, Nat.reduceLT, Nat.reduceLeDiff, Nat.reduceEqDiff, Nat.reduceBEq, beq_self_eq_true, Nat.zero_add, Nat.add_zero, List.length_map, top, List.length_append, List.all_cons, List.all_nil, nrR, Val.nr, Val.nrs, pureVal, and_self, List.filterMap_cons, List.filterMap_nil, l_for0, l_for1, l_comp0, l_comp1, List.getElem?_concat_length, List.length_set]
      refine Ok.imp (draw_ok k1 (by decide)) ?_
      rintro r st2 ⟨i, rfl, i0, i1, k2, f2⟩
      simp only [↓k_ok, ↓k_bad, ↓k_bind, ↓k_ite, ↓k_lift, ↓k_noX, ↓k_optT, ↓k_optF, ↓k_op2T, ↓k_op2F, ↓k_optCT, ↓k_optCF, ↓on_some, ↓on_none, ↓e_k, ↓e_g, ↓e_x, ↓e_tup, ↓e_lst, ↓e_op1, ↓e_op2, ↓e_op3, ↓e_sl, ↓e_and, ↓e_or, ↓e_not, ↓e_ite, ↓e_chain, ↓e_call, ↓e_nil, ↓e_cons, ↓e_dic, ↓e_comp, ↓s_skip, ↓s_seq, ↓s_asg, ↓s_ex, ↓s_ret, ↓s_retN, ↓s_brk, ↓s_cont, ↓s_ite, ↓s_fo, ↓g_tg, ↓g_sub, ↓r_run, ↓r_call, ↓r_pure, ↓l_for0, ↓l_for1, ↓l_comp0, ↓l_comp1, ↓p_eq, ↓p_ne, ↓p_lt, ↓p_le, ↓p_gt, ↓p_ge, ↓p_addI, ↓p_addS, ↓p_addT, ↓p_sub, ↓p_mul, ↓p_mod, ↓p_fdiv, ↓p_pow, ↓p_in, ↓p_notin, ↓p_ixT, ↓p_neg, ↓p_abs, ↓p_int, ↓p_intB, ↓p_lenS, ↓p_tuple, ↓p_list, ↓p_repr, ↓p_rev, ↓p_slT, ↓p_slr, ↓p_sll, ↓vb_ss, ↓p_addl, ↓p_addr, ↓p_ixl, ↓p_ixri, ↓p_ixrs, ↓p_app, ↓p_ext, ↓p_popa, ↓p_popz, ↓p_ins, ↓p_lenT, ↓p_lenl, ↓p_lenr, ↓p_set, ↓p_isN, ↓p_noN, ↓p_sort, ↓as_nil, ↓as_cons, ↓lb_cc, ↓lb_nc, ↓lb_cn, ↓lb_nn, ↓onE_some, ↓onE_none, ↓at_lit, ↓at_last, ↓q_ss, ↓q_ii, ↓q_bb, ↓q_tt, ↓q_ll, ↓q_vs, ↓q_vi, ↓q_vt, ↓q_nil, ↓q_nilc, ↓q_cnil, ↓q_cons, ↓q_any0, ↓q_any1, ↓q_anyS, seqR, seqV, truthV, settle, settles, isNil, pre2, pre3, intOf, bindT, bindTs, permute, isV, wipeE, List.length_cons, List.length_nil, List.getElem?_cons_zero, List.getElem?_cons_succ, List.set_cons_zero, List.set_cons_succ, List.map_cons, List.map_nil, List.replicate, List.append, List.cons_append, List.nil_append, true_and, and_true, if_true, if_false, Bool.false_eq_true, Option.bind, Bool.not_true, Bool.not_false, Bool.true_and, Bool.false_and, Bool.and_true, Bool.and_false, Bool.or_true, Bool.or_false, Bool.true_or, Bool.false_or, lstAt, ownL, mutAt, dicAt, Option.map, Option.map_some, Option.map_none, List.getElem?_nil, keyOk, Bool.or_self, Bool.and_self, Nat.zero_le, Nat.reduceAdd, Nat.reduceSub, Nat.reduceLT, Nat.reduceLeDiff, Nat.reduceEqDiff, Nat.reduceBEq, beq_self_eq_true, Nat.zero_add, Nat.add_zero, List.length_map, top, List.length_append, List.all_cons, List.all_nil, nrR, Val.nr, Val.nrs, pureVal, and_self, List.filterMap_cons, List.filterMap_nil, l_for0, l_for1, l_comp0, l_comp1, List.getElem?_concat_length, List.length_set]
      exact ⟨_, rfl, y, _, sy, rfl, k2, (f.trans f1).trans f2, f2.get (f1.get e nd nl) nd nl⟩
    · simp only [hV, BOTH, hh, ↓k_ok, ↓k_bad, ↓k_bind, ↓k_ite, ↓k_lift, ↓k_noX, ↓k_optT, ↓k_optF, ↓k_op2T, ↓k_op2F, ↓k_optCT, ↓k_optCF, ↓on_some, ↓on_none, ↓e_k, ↓e_g, ↓e_x, ↓e_tup, ↓e_lst, ↓e_op1, ↓e_op2, ↓e_op3, ↓e_sl, ↓e_and, ↓e_or, ↓e_not, ↓e_ite, ↓e_chain, ↓e_call, ↓e_nil, ↓e_cons, ↓e_dic, ↓e_comp, ↓s_skip, ↓s_seq, ↓s_asg, ↓s_ex, ↓s_ret, ↓s_retN, ↓s_brk, ↓s_cont, ↓s_ite, ↓s_fo, ↓g_tg, ↓g_sub, ↓r_run, ↓r_call, ↓r_pure, ↓l_for0, ↓l_for1, ↓l_comp0, ↓l_comp1, ↓p_eq, ↓p_ne, ↓p_lt, ↓p_le, ↓p_gt, ↓p_ge, ↓p_addI, ↓p_addS, ↓p_addT, ↓p_sub, ↓p_mul, ↓p_mod, ↓p_fdiv, ↓p_pow, ↓p_in, ↓p_notin, ↓p_ixT, ↓p_neg, ↓p_abs, ↓p_int, ↓p_intB, ↓p_lenS, ↓p_tuple, ↓p_list, ↓p_repr, ↓p_rev, ↓p_slT, ↓p_slr, ↓p_sll, ↓vb_ss, ↓p_addl, ↓p_addr, ↓p_ixl, ↓p_ixri, ↓p_ixrs, ↓p_app, ↓p_ext, ↓p_popa, ↓p_popz, ↓p_ins, ↓p_lenT, ↓p_lenl, ↓p_lenr, ↓p_set, ↓p_isN, ↓p_noN, ↓p_sort, ↓as_nil, ↓as_cons, ↓lb_cc, ↓lb_nc, ↓lb_cn, ↓lb_nn, ↓onE_some, ↓onE_none, ↓at_lit, ↓at_last, ↓q_ss, ↓q_ii, ↓q_bb, ↓q_tt, ↓q_ll, ↓q_vs, ↓q_vi, ↓q_vt, ↓q_nil, ↓q_nilc, ↓q_cnil, ↓q_cons, ↓q_any0, ↓q_any1, ↓q_anyS, seqR, seqV, truthV, settle, settles, isNil, pre2, pre3, intOf, bindT, bindTs, permute, isV, wipeE, List.length_cons, List.length_nil, List.getElem?_cons_zero, List.getElem?_cons_succ, List.set_cons_zero, List.set_cons_succ, List.map_cons, List.map_nil, List.replicate, List.append, List.cons_append, List.nil_append, true_and, and_true, if_true, if_false, Bool.false_eq_true, Option.bind, Bool.not_true, Bool.not_false, Bool.true_and, Bool.false_and, Bool.and_true, Bool.and_false, Bool.or_true, Bool.or_false, Bool.true_or, Bool.false_or, lstAt, ownL, mutAt, dicAt, Option.map, Option.map_some, Option.map_none, List.getElem?_nil, keyOk, Bool.or_self, Bool.and_self, Nat.zero_le, Nat.reduceAdd, Nat.reduceSub, Nat.reduceLT, Nat.reduceLeDiff, Nat.reduceEqDiff, Nat.reduceBEq, beq_self_eq_true, Nat.zero_add, Nat.add_zero, List.length_map, top, List.length_append, List.all_cons, List.all_nil, nrR, Val.nr, Val.nrs, pureVal, and_self, List.filterMap_cons, List.filterMap_nil, l_for0, l_for1, l_comp0, l_comp1, List.getElem?_concat_length, List.length_set]
      refine Ok.imp (draw_ok k (by decide)) ?_
      rintro r st2 ⟨i, rfl, i0, i1, k2, f2⟩
      simp only [↓k_ok, ↓k_bad, ↓k_bind, ↓k_ite, ↓k_lift, ↓k_noX, ↓k_optT, ↓k_optF, ↓k_op2T, ↓k_op2F, ↓k_optCT, ↓k_optCF, ↓on_some, ↓on_none, ↓e_k, ↓e_g, ↓e_x, ↓e_tup, ↓e_lst, ↓e_op1, ↓e_op2, ↓e_op3, ↓e_sl, ↓e_and, ↓e_or, ↓e_not, ↓e_ite, ↓e_chain, ↓e_call, ↓e_nil, ↓e_cons, ↓e_dic, ↓e_comp, ↓s_skip, ↓s_seq, ↓s_asg, ↓s_ex, ↓s_ret, ↓s_retN, ↓s_brk, ↓s_cont, ↓s_ite, ↓s_fo, ↓g_tg, ↓g_sub, ↓r_run, ↓r_call, ↓r_pure, ↓l_for0, ↓l_for1, ↓l_comp0, ↓l_comp1, ↓p_eq, ↓p_ne, ↓p_lt, ↓p_le, ↓p_gt, ↓p_ge, ↓p_addI, ↓p_addS, ↓p_addT, ↓p_sub, ↓p_mul, ↓p_mod, ↓p_fdiv, ↓p_pow, ↓p_in, ↓p_notin, ↓p_ixT, ↓p_neg, ↓p_abs, ↓p_int, ↓p_intB, ↓p_lenS, ↓p_tuple, ↓p_list, ↓p_repr, ↓p_rev, ↓p_slT, ↓p_slr, ↓p_sll, ↓vb_ss, ↓p_addl, ↓p_addr, ↓p_ixl, ↓p_ixri, ↓p_ixrs, ↓p_app, ↓p_ext, ↓p_popa, ↓p_popz, ↓p_ins, ↓p_lenT, ↓p_lenl, ↓p_lenr, ↓p_set, ↓p_isN, ↓p_noN, ↓p_sort, ↓as_nil, ↓as_cons, ↓lb_cc, ↓lb_nc, ↓lb_cn, ↓lb_nn, ↓onE_some, ↓onE_none, ↓at_lit, ↓at_last, ↓q_ss, ↓q_ii, ↓q_bb, ↓q_tt, ↓q_ll, ↓q_vs, ↓q_vi, ↓q_vt, ↓q_nil, ↓q_nilc, ↓q_cnil, ↓q_cons, ↓q_any0, ↓q_any1, ↓q_anyS, seqR, seqV, truthV, settle, settles, isNil, pre2, pre3, intOf, bindT, bindTs, permute, isV, wipeE, List.length_cons, List.length_nil, List.getElem?_cons_zero, List.getElem?_cons_succ, List.set_cons_zero, List.set_cons_succ, List.map_cons, List.map_nil, List.replicate, List.append, List.cons_append, List.nil_append, true_and, and_true, if_true, if_false, Bool.false_eq_true, Option.bind, Bool.not_true, Bool.not_false, Bool.true_and, Bool.false_and, Bool.and_true, Bool.and_false, Bool.or_true, Bool.or_false, Bool.true_or, Bool.false_or, lstAt, ownL, mutAt, dicAt, Option.map, Option.map_some, Option.map_none, List.getElem?_nil, keyOk, Bool.or_self, Bool.and_self, Nat.zero_le, Nat.reduceAdd, Nat.reduceSub, Nat.reduceLT, Nat.reduceLeDiff, Nat.reduceEqDiff, Nat.reduceBEq, beq_self_eq_true, Nat.zero_add, Nat.add_zero, List.length_map, top, List.length_append, List.all_cons, List.all_nil, nrR, Val.nr, Val.nrs, pureVal, and_self, List.filterMap_cons, List.filterMap_nil, l_for0, l_for1, l_comp0, l_comp1, List.getElem?_concat_length, List.length_set]
      exact ⟨_, rfl, _, _, .inl rfl, rfl, k2, f.trans f2, f2.get e nd nl⟩
  rintro ρ st ⟨y4, b, s4, rfl, k, f, e⟩
  refine seq_ok (fun ρ st => ∃ y, SD y ∧ ρ = [some (.ref d), some (hV h0 h1 h2), some (.ref s'.length), some BOTH, some (.str y4), some (.bl b), some (.str y), none, none] ∧ Dk st d l ∧ Fr d l s' st ∧ st[s'.length]? = some (.lst STR)) ?_ ?_
  · cases b
    · simp only [↓k_ok, ↓k_bad, ↓k_bind, ↓k_ite, ↓k_lift, ↓k_noX, ↓k_optT, ↓k_optF, ↓k_op2T, ↓k_op2F, ↓k_optCT, ↓k_optCF, ↓on_some, ↓on_none, ↓e_k, ↓e_g, ↓e_x, ↓e_tup, ↓e_lst, ↓e_op1, ↓e_op2, ↓e_op3, ↓e_sl, ↓e_and, ↓e_or, ↓e_not, ↓e_ite, ↓e_chain, ↓e_call, ↓e_nil, ↓e_cons, ↓e_dic, ↓e_comp, ↓s_skip, ↓s_seq, ↓s_asg, ↓s_ex, ↓s_ret, ↓s_retN, ↓s_brk, ↓s_cont, ↓s_ite, ↓s_fo, ↓g_tg, ↓g_sub, ↓r_run, ↓r_call, ↓r_pure, ↓l_for0, ↓l_for1, ↓l_comp0, ↓l_comp1, ↓p_eq, ↓p_ne, ↓p_lt, ↓p_le, ↓p_gt, ↓p_ge, ↓p_addI, ↓p_addS, ↓p_addT, ↓p_sub, ↓p_mul, ↓p_mod, ↓p_fdiv, ↓p_pow, ↓p_in, ↓p_notin, ↓p_ixT, ↓p_neg, ↓p_abs, ↓p_int, ↓p_intB, ↓p_lenS, ↓p_tuple, ↓p_list, ↓p_repr, ↓p_rev, ↓p_slT, ↓p_slr, ↓p_sll, ↓vb_ss, ↓p_addl, ↓p_addr, ↓p_ixl, ↓p_ixri, ↓p_ixrs, ↓p_app, ↓p_ext, ↓p_popa, ↓p_popz, ↓p_ins, ↓p_lenT, ↓p_lenl, ↓p_lenr, ↓p_set, ↓p_isN, ↓p_noN, ↓p_sort, ↓as_nil, ↓as_cons, ↓lb_cc, ↓lb_nc, ↓lb_cn, ↓lb_nn, ↓onE_some, ↓onE_none, ↓at_lit, ↓at_last, ↓q_ss, ↓q_ii, ↓q_bb, ↓q_tt, ↓q_ll, ↓q_vs, ↓q_vi, ↓q_vt, ↓q_nil, ↓q_nilc, ↓q_cnil, ↓q_cons, ↓q_any0, ↓q_any1, ↓q_anyS, seqR, seqV, truthV, settle, settles, isNil, pre2, pre3, intOf, bindT, bindTs, permute, isV, wipeE, List.length_cons, List.length_nil, List.getElem?_cons_zero, List.getElem?_cons_succ, List.set_cons_zero, List.set_cons_succ, List.map_cons, List.map_nil, List.replicate, List.append, List.cons_append, List.nil_append, true_and, and_true, if_true, if_false, Bool.false_eq_true, Option.bind, Bool.not_true, Bool.not_false, Bool.true_and, Bool.false_and, Bool.and_true, Bool.and_false, Bool.or_true, Bool.or_false, Bool.true_or, Bool.false_or, lstAt, ownL, mutAt, dicAt, Option.map, Option.map_some, Option.map_none, List.getElem?_nil, keyOk, Bool.or_self, Bool.and_self, Nat.zero_le, Nat.reduceAdd, Nat.reduceSub, Nat.reduceLT, Nat.reduceLeDiff, Nat.reduceEqDiff, Nat.reduceBEq, beq_self_eq_true, Nat.zero_add, Nat.add_zero, List.length_map, top, List.length_append, List.all_cons, List.all_nil, nrR, Val.nr, Val.nrs, pureVal, and_self, List.filterMap_cons, List.filterMap_nil, l_for0, l_for1, l_comp0, l_comp1, List.getElem?_concat_length, List.length_set]
      exact ⟨_, rfl, _, .inr (.inr rfl), rfl, k, f, e⟩
    · simp only [↓k_ok, ↓k_bad, ↓k_bind, ↓k_ite, ↓k_lift, ↓k_noX, ↓k_optT, ↓k_optF, ↓k_op2T, ↓k_op2F, ↓k_optCT, ↓k_optCF, ↓on_some, ↓on_none, ↓e_k, ↓e_g, ↓e_x, ↓e_tup, ↓e_lst, ↓e_op1, ↓e_op2, ↓e_op3, ↓e_sl, ↓e_and, ↓e_or, ↓e_not, ↓e_ite, ↓e_chain, ↓e_call, ↓e_nil, ↓e_cons, ↓e_dic, ↓e_comp, ↓s_skip, ↓s_seq, ↓s_asg, ↓s_ex, ↓s_ret, ↓s_retN, ↓s_brk, ↓s_cont, ↓s_ite, ↓s_fo, ↓g_tg, ↓g_sub, ↓r_run, ↓r_call, ↓r_pure, ↓l_for0, ↓l_for1, ↓l_comp0, ↓l_comp1, ↓p_eq, ↓p_ne, ↓p_lt, ↓p_le, ↓p_gt, ↓p_ge, ↓p_addI, ↓p_addS, ↓p_addT, ↓p_sub, ↓p_mul, ↓p_mod, ↓p_fdiv, ↓p_pow, ↓p_in, ↓p_notin, ↓p_ixT, ↓p_neg, ↓p_abs, ↓p_int, ↓p_intB, ↓p_lenS, ↓p_tuple, ↓p_list, ↓p_repr, ↓p_rev, ↓p_slT, ↓p_slr, ↓p_sll, ↓vb_ss, ↓p_addl, ↓p_addr, ↓p_ixl, ↓p_ixri, ↓p_ixrs, ↓p_app, ↓p_ext, ↓p_popa, ↓p_popz, ↓p_ins, ↓p_lenT, ↓p_lenl, ↓p_lenr, ↓p_set, ↓p_isN, ↓p_noN, ↓p_sort, ↓as_nil, ↓as_cons, ↓lb_cc, ↓lb_nc, ↓lb_cn, ↓lb_nn, ↓onE_some, ↓onE_none, ↓at_lit, ↓at_last, ↓q_ss, ↓q_ii, ↓q_bb, ↓q_tt, ↓q_ll, ↓q_vs, ↓q_vi, ↓q_vt, ↓q_nil, ↓q_nilc, ↓q_cnil, ↓q_cons, ↓q_any0, ↓q_any1, ↓q_anyS, seqR, seqV, truthV, settle, settles, isNil, pre2, pre3, intOf, bindT, bindTs, permute, isV, wipeE, List.length_cons, List.length_nil, List.getElem?_cons_zero, List.getElem?_cons_succ, List.set_cons_zero, List.set_cons_succ, List.map_cons, List.map_nil, List.replicate, List.append, List.cons_append, List.nil_append, true_and, and_true, if_true, if_false, Bool.false_eq_true, Option.bind, Bool.not_true, Bool.not_false, Bool.true_and, Bool.false_and, Bool.and_true, Bool.and_false, Bool.or_true, Bool.or_false, Bool.true_or, Bool.false_or, lstAt, ownL, mutAt, dicAt, Option.map, Option.map_some, Option.map_none, List.getElem?_nil, keyOk, Bool.or_self, Bool.and_self, Nat.zero_le, Nat.reduceAdd, Nat.reduceSub, Nat.reduceLT, Nat.reduceLeDiff, Nat.reduceEqDiff, Nat.reduceBEq, beq_self_eq_true, Nat.zero_add, Nat.add_zero, List.length_map, top, List.length_append, List.all_cons, List.all_nil, nrR, Val.nr, Val.nrs, pureVal, and_self, List.filterMap_cons, List.filterMap_nil, l_for0, l_for1, l_comp0, l_comp1, List.getElem?_concat_length, List.length_set]
      refine Ok.imp (pick_L k e nd nl (by simp [STR]) (by simp [STR])) ?_
      rintro r st1 ⟨⟨x, hx, rfl⟩, k1, f1⟩
      obtain ⟨y, sy, rfl⟩ := str_sd hx
      simp only [↓k_ok, ↓k_bad, ↓k_bind, ↓k_ite, ↓k_lift, ↓k_noX, ↓k_optT, ↓k_optF, ↓k_op2T, ↓k_op2F, ↓k_optCT, ↓k_optCF, ↓on_some, ↓on_none, ↓e_k, ↓e_g, ↓e_x, ↓e_tup, ↓e_lst, ↓e_op1, ↓e_op2, ↓e_op3, ↓e_sl, ↓e_and, ↓e_or, ↓e_not, ↓e_ite, ↓e_chain, ↓e_call, ↓e_nil, ↓e_cons, ↓e_dic, ↓e_comp, ↓s_skip, ↓s_seq, ↓s_asg, ↓s_ex, ↓s_ret, ↓s_retN, ↓s_brk, ↓s_cont, ↓s_ite, ↓s_fo, ↓g_tg, ↓g_sub, ↓r_run, ↓r_call, ↓r_pure, ↓l_for0, ↓l_for1, ↓l_comp0, ↓l_comp1, ↓p_eq, ↓p_ne, ↓p_lt, ↓p_le, ↓p_gt, ↓p_ge, ↓p_addI, ↓p_addS, ↓p_addT, ↓p_sub, ↓p_mul, ↓p_mod, ↓p_fdiv, ↓p_pow, ↓p_in, ↓p_notin, ↓p_ixT, ↓p_neg, ↓p_abs, ↓p_int, ↓p_intB, ↓p_lenS, ↓p_tuple, ↓p_list, ↓p_repr, ↓p_rev, ↓p_slT, ↓p_slr, ↓p_sll, ↓vb_ss, ↓p_addl, ↓p_addr, ↓p_ixl, ↓p_ixri, ↓p_ixrs, ↓p_app, ↓p_ext, ↓p_popa, ↓p_popz, ↓p_ins, ↓p_lenT, ↓p_lenl, ↓p_lenr, ↓p_set, ↓p_isN, ↓p_noN, ↓p_sort, ↓as_nil, ↓as_cons, ↓lb_cc, ↓lb_nc, ↓lb_cn, ↓lb_nn, ↓onE_some, ↓onE_none, ↓at_lit, ↓at_last, ↓q_ss, ↓q_ii, ↓q_bb, ↓q_tt, ↓q_ll, ↓q_vs, ↓q_vi, ↓q_vt, ↓q_nil, ↓q_nilc, ↓q_cnil, ↓q_cons, ↓q_any0, ↓q_any1, ↓q_anyS, seqR, seqV, truthV, settle, settles, isNil, pre2, pre3, intOf, bindT, bindTs, permute, isV, wipeE, List.length_cons, List.length_nil, List.getElem?_cons_zero, List.getElem?_cons_succ, List.set_cons_zero, List.set_cons_succ, List.map_cons, List.map_nil, List.replicate, List.append, List.cons_append, List.nil_append, true_and, and_true, if_true, if_false, Bool.false_eq_true, Option.bind, Bool.not_true, Bool.not_false, Bool.true_and, Bool.false_and, Bool.and_true, Bool.and_false, Bool.or_true, Bool.or_false, Bool.true_or, Bool.false_or, lstAt, ownL, mutAt, dicAt, Option.map, Option.map_some, Option.map_none, List.getElem?_nil, keyOk, Bool.or_self, Bool.and_self, Nat.zero_le, Nat.reduceAdd, Nat.reduceSub, Nat.reduceLT, Nat.reduceLeDiff, Nat.reduceEqDiff, Nat.reduceBEq, beq_self_eq_true, Nat.zero_add, Nat.add_zero, List.length_map, top, List.length_append, List.all_cons, List.all_nil, nrR, Val.nr, Val.nrs, pureVal, and_self, List.filterMap_cons, List.filterMap_nil, l_for0, l_for1, l_comp0, l_comp1, List.getElem?_concat_length, List.length_set]
      exact ⟨_, rfl, y, sy, rfl, k1, f.trans f1, f1.get e nd nl⟩
  rintro ρ st ⟨y0, s0, rfl, k, f, e⟩
  refine seq_ok (fun ρ st => ∃ y1 y2, SD y1 ∧ SD y2 ∧ ρ = [some (.ref d), some (hV h0 h1 h2), some (.ref s'.length), some BOTH, some (.str y4), some (.bl b), some (.str y0), some (.str y1), some (.str y2)] ∧ Dk st d l ∧ Fr d l s' st ∧ st[s'.length]? = some (.lst STR)) ?_ ?_
  · simp only [↓k_ok, ↓k_bad, ↓k_bind, ↓k_ite, ↓k_lift, ↓k_noX, ↓k_optT, ↓k_optF, ↓k_op2T, ↓k_op2F, ↓k_optCT, ↓k_optCF, ↓on_some, ↓on_none, ↓e_k, ↓e_g, ↓e_x, ↓e_tup, ↓e_lst, ↓e_op1, ↓e_op2, ↓e_op3, ↓e_sl, ↓e_and, ↓e_or, ↓e_not, ↓e_ite, ↓e_chain, ↓e_call, ↓e_nil, ↓e_cons, ↓e_dic, ↓e_comp, ↓s_skip, ↓s_seq, ↓s_asg, ↓s_ex, ↓s_ret, ↓s_retN, ↓s_brk, ↓s_cont, ↓s_ite, ↓s_fo, ↓g_tg, ↓g_sub, ↓r_run, ↓r_call, ↓r_pure, ↓l_for0, ↓l_for1, ↓l_comp0, ↓l_comp1, ↓p_eq, ↓p_ne, ↓p_lt, ↓p_le, ↓p_gt, ↓p_ge, ↓p_addI, ↓p_addS, ↓p_addT, ↓p_sub, ↓p_mul, ↓p_mod, ↓p_fdiv, ↓p_pow, ↓p_in, ↓p_notin, ↓p_ixT, ↓p_neg, ↓p_abs, ↓p_int, ↓p_intB, ↓p_lenS, ↓p_tuple, ↓p_list, ↓p_repr, ↓p_rev, ↓p_slT, ↓p_slr, ↓p_sll, ↓vb_ss, ↓p_addl, ↓p_addr, ↓p_ixl, ↓p_ixri, ↓p_ixrs, ↓p_app, ↓p_ext, ↓p_popa, ↓p_popz, ↓p_ins, ↓p_lenT, ↓p_lenl, ↓p_lenr, ↓p_set, ↓p_isN, ↓p_noN, ↓p_sort, ↓as_nil, ↓as_cons, ↓lb_cc, ↓lb_nc, ↓lb_cn, ↓lb_nn, ↓onE_some, ↓onE_none, ↓at_lit, ↓at_last, ↓q_ss, ↓q_ii, ↓q_bb, ↓q_tt, ↓q_ll, ↓q_vs, ↓q_vi, ↓q_vt, ↓q_nil, ↓q_nilc, ↓q_cnil, ↓q_cons, ↓q_any0, ↓q_any1, ↓q_anyS, seqR, seqV, truthV, settle, settles, isNil, pre2, pre3, intOf, bindT, bindTs, permute, isV, wipeE, List.length_cons, List.length_nil, List.getElem?_cons_zero, List.getElem?_cons_succ, List.set_cons_zero, List.set_cons_succ, List.map_cons, List.map_nil, List.replicate, List.append, List.cons_append, List.nil_append, true_and, and_true, if_true, if_false, Bool.false_eq_true, Option.bind, Bool.not_true, Bool.not_false, Bool.true_and, Bool.false_and, Bool.and_true, Bool.and_false, Bool.or_true, Bool.or_false, Bool.true_or, Bool.false_or, lstAt, ownL, mutAt, dicAt, Option.map, Option.map_some, Option.map_none, List.getElem?_nil, keyOk, Bool.or_self, Bool.and_self, Nat.zero_le, Nat.reduceAdd, Nat.reduceSub, Nat.reduceLT, Nat.reduceLeDiff, Nat.reduceEqDiff, Nat.reduceBEq, beq_self_eq_true, Nat.zero_add, Nat.add_zero, List.length_map, top, List.length_append, List.all_cons, List.all_nil, nrR, Val.nr, Val.nrs, pureVal, and_self, List.filterMap_cons, List.filterMap_nil, l_for0, l_for1, l_comp0, l_comp1, List.getElem?_concat_length, List.length_set]
    refine Ok.imp (pick_L k e nd nl (by simp [STR]) (by simp [STR])) ?_
    rintro r st1 ⟨⟨x, hx, rfl⟩, k1, f1⟩
    obtain ⟨y1, s1, rfl⟩ := str_sd hx
    have e1 := f1.get e nd nl
    simp only [↓k_ok, ↓k_bad, ↓k_bind, ↓k_ite, ↓k_lift, ↓k_noX, ↓k_optT, ↓k_optF, ↓k_op2T, ↓k_op2F, ↓k_optCT, ↓k_optCF, ↓on_some, ↓on_none, ↓e_k, ↓e_g, ↓e_x, ↓e_tup, ↓e_lst, ↓e_op1, ↓e_op2, ↓e_op3, ↓e_sl, ↓e_and, ↓e_or, ↓e_not, ↓e_ite, ↓e_chain, ↓e_call, ↓e_nil, ↓e_cons, ↓e_dic, ↓e_comp, ↓s_skip, ↓s_seq, ↓s_asg, ↓s_ex, ↓s_ret, ↓s_retN, ↓s_brk, ↓s_cont, ↓s_ite, ↓s_fo, ↓g_tg, ↓g_sub, ↓r_run, ↓r_call, ↓r_pure, ↓l_for0, ↓l_for1, ↓l_comp0, ↓l_comp1, ↓p_eq, ↓p_ne, ↓p_lt, ↓p_le, ↓p_gt, ↓p_ge, ↓p_addI, ↓p_addS, ↓p_addT, ↓p_sub, ↓p_mul, ↓p_mod, ↓p_fdiv, ↓p_pow, ↓p_in, ↓p_notin, ↓p_ixT, ↓p_neg, ↓p_abs, ↓p_int, ↓p_intB, ↓p_lenS, ↓p_tuple, ↓p_list, ↓p_repr, ↓p_rev, ↓p_slT, ↓p_slr, ↓p_sll, ↓vb_ss, ↓p_addl, ↓p_addr, ↓p_ixl, ↓p_ixri, ↓p_ixrs, ↓p_app, ↓p_ext, ↓p_popa, ↓p_popz, ↓p_ins, ↓p_lenT, ↓p_lenl, ↓p_lenr, ↓p_set, ↓p_isN, ↓p_noN, ↓p_sort, ↓as_nil, ↓as_cons, ↓lb_cc, ↓lb_nc, ↓lb_cn, ↓lb_nn, ↓onE_some, ↓onE_none, ↓at_lit, ↓at_last, ↓q_ss, ↓q_ii, ↓q_bb, ↓q_tt, ↓q_ll, ↓q_vs, ↓q_vi, ↓q_vt, ↓q_nil, ↓q_nilc, ↓q_cnil, ↓q_cons, ↓q_any0, ↓q_any1, ↓q_anyS, seqR, seqV, truthV, settle, settles, isNil, pre2, pre3, intOf, bindT, bindTs, permute, isV, wipeE, List.length_cons, List.length_nil, List.getElem?_cons_zero, List.getElem?_cons_succ, List.set_cons_zero, List.set_cons_succ, List.map_cons, List.map_nil, List.replicate, List.append, List.cons_append, List.nil_append, true_and, and_true, if_true, if_false, Bool.false_eq_true, Option.bind, Bool.not_true, Bool.not_false, Bool.true_and, Bool.false_and, Bool.and_true, Bool.and_false, Bool.or_true, Bool.or_false, Bool.true_or, Bool.false_or, lstAt, ownL, mutAt, dicAt, Option.map, Option.map_some, Option.map_none, List.getElem?_nil, keyOk, Bool.or_self, Bool.and_self, Nat.zero_le, Nat.reduceAdd, Nat.reduceSub, Nat.reduceLT, Nat.reduceLeDiff, Nat.reduceEqDiff, Nat.reduceBEq, beq_self_eq_true, Nat.zero_add, Nat.add_zero, List.length_map, top, List.length_append, List.all_cons, List.all_nil, nrR, Val.nr, Val.nrs, pureVal, and_self, List.filterMap_cons, List.filterMap_nil, l_for0, l_for1, l_comp0, l_comp1, List.getElem?_concat_length, List.length_set]
    refine Ok.imp (pick_L k1 e1 nd nl (by simp [STR]) (by simp [STR])) ?_
    rintro r st2 ⟨⟨x, hx, rfl⟩, k2, f2⟩
    obtain ⟨y2, s2, rfl⟩ := str_sd hx
    simp only [↓k_ok, ↓k_bad, ↓k_bind, ↓k_ite, ↓k_lift, ↓k_noX, ↓k_optT, ↓k_optF, ↓k_op2T, ↓k_op2F, ↓k_optCT, ↓k_optCF, ↓on_some, ↓on_none, ↓e_k, ↓e_g, ↓e_x, ↓e_tup, ↓e_lst, ↓e_op1, ↓e_op2, ↓e_op3, ↓e_sl, ↓e_and, ↓e_or, ↓e_not, ↓e_ite, ↓e_chain, ↓e_call, ↓e_nil, ↓e_cons, ↓e_dic, ↓e_comp, ↓s_skip, ↓s_seq, ↓s_asg, ↓s_ex, ↓s_ret, ↓s_retN, ↓s_brk, ↓s_cont, ↓s_ite, ↓s_fo, ↓g_tg, ↓g_sub, ↓r_run, ↓r_call, ↓r_pure, ↓l_for0, ↓l_for1, ↓l_comp0, ↓l_comp1, ↓p_eq, ↓p_ne, ↓p_lt, ↓p_le, ↓p_gt, ↓p_ge, ↓p_addI, ↓p_addS, ↓p_addT, ↓p_sub, ↓p_mul, ↓p_mod, ↓p_fdiv, ↓p_pow, ↓p_in, ↓p_notin, ↓p_ixT, ↓p_neg, ↓p_abs, ↓p_int, ↓p_intB, ↓p_lenS, ↓p_tuple, ↓p_list, ↓p_repr, ↓p_rev, ↓p_slT, ↓p_slr, ↓p_sll, ↓vb_ss, ↓p_addl, ↓p_addr, ↓p_ixl, ↓p_ixri, ↓p_ixrs, ↓p_app, ↓p_ext, ↓p_popa, ↓p_popz, ↓p_ins, ↓p_lenT, ↓p_lenl, ↓p_lenr, ↓p_set, ↓p_isN, ↓p_noN, ↓p_sort, ↓as_nil, ↓as_cons, ↓lb_cc, ↓lb_nc, ↓lb_cn, ↓lb_nn, ↓onE_some, ↓onE_none, ↓at_lit, ↓at_last, ↓q_ss, ↓q_ii, ↓q_bb, ↓q_tt, ↓q_ll, ↓q_vs, ↓q_vi, ↓q_vt, ↓q_nil, ↓q_nilc, ↓q_cnil, ↓q_cons, ↓q_any0, ↓q_any1, ↓q_anyS, seqR, seqV, truthV, settle, settles, isNil, pre2, pre3, intOf, bindT, bindTs, permute, isV, wipeE, List.length_cons, List.length_nil, List.getElem?_cons_zero, List.getElem?_cons_succ, List.set_cons_zero, List.set_cons_succ, List.map_cons, List.map_nil, List.replicate, List.append, List.cons_append, List.nil_append, true_and, and_true, if_true, if_false, Bool.false_eq_true, Option.bind, Bool.not_true, Bool.not_false, Bool.true_and, Bool.false_and, Bool.and_true, Bool.and_false, Bool.or_true, Bool.or_false, Bool.true_or, Bool.false_or, lstAt, ownL, mutAt, dicAt, Option.map, Option.map_some, Option.map_none, List.getElem?_nil, keyOk, Bool.or_self, Bool.and_self, Nat.zero_le, Nat.reduceAdd, Nat.reduceSub, Nat.reduceLT, Nat.reduceLeDiff, Nat.reduceEqDiff, Nat.reduceBEq, beq_self_eq_true, Nat.zero_add, Nat.add_zero, List.length_map, top, List.length_append, List.all_cons, List.all_nil, nrR, Val.nr, Val.nrs, pureVal, and_self, List.filterMap_cons, List.filterMap_nil, l_for0, l_for1, l_comp0, l_comp1, List.getElem?_concat_length, List.length_set]
    exact ⟨_, rfl, y1, y2, s1, s2, rfl, k2, (f.trans f1).trans f2, f2.get e1 nd nl⟩
  rintro ρ st ⟨y1, y2, s1, s2, rfl, k, f, e⟩
  rcases s4 with rfl | rfl
  · simp only [↓k_ok, ↓k_bad, ↓k_bind, ↓k_ite, ↓k_lift, ↓k_noX, ↓k_optT, ↓k_optF, ↓k_op2T, ↓k_op2F, ↓k_optCT, ↓k_optCF, ↓on_some, ↓on_none, ↓e_k, ↓e_g, ↓e_x, ↓e_tup, ↓e_lst, ↓e_op1, ↓e_op2, ↓e_op3, ↓e_sl, ↓e_and, ↓e_or, ↓e_not, ↓e_ite, ↓e_chain, ↓e_call, ↓e_nil, ↓e_cons, ↓e_dic, ↓e_comp, ↓s_skip, ↓s_seq, ↓s_asg, ↓s_ex, ↓s_ret, ↓s_retN, ↓s_brk, ↓s_cont, ↓s_ite, ↓s_fo, ↓g_tg, ↓g_sub, ↓r_run, ↓r_call, ↓r_pure, ↓l_for0, ↓l_for1, ↓l_comp0, ↓l_comp1, ↓p_eq, ↓p_ne, ↓p_lt, ↓p_le, ↓p_gt, ↓p_ge, ↓p_addI, ↓p_addS, ↓p_addT, ↓p_sub, ↓p_mul, ↓p_mod, ↓p_fdiv, ↓p_pow, ↓p_in, ↓p_notin, ↓p_ixT, ↓p_neg, ↓p_abs, ↓p_int, ↓p_intB, ↓p_lenS, ↓p_tuple, ↓p_list, ↓p_repr, ↓p_rev, ↓p_slT, ↓p_slr, ↓p_sll, ↓vb_ss, ↓p_addl, ↓p_addr, ↓p_ixl, ↓p_ixri, ↓p_ixrs, ↓p_app, ↓p_ext, ↓p_popa, ↓p_popz, ↓p_ins, ↓p_lenT, ↓p_lenl, ↓p_lenr, ↓p_set, ↓p_isN, ↓p_noN, ↓p_sort, ↓as_nil, ↓as_cons, ↓lb_cc, ↓lb_nc, ↓lb_cn, ↓lb_nn, ↓onE_some, ↓onE_none, ↓at_lit, ↓at_last, ↓q_ss, ↓q_ii, ↓q_bb, ↓q_tt, ↓q_ll, ↓q_vs, ↓q_vi, ↓q_vt, ↓q_nil, ↓q_nilc, ↓q_cnil, ↓q_cons, ↓q_any0, ↓q_any1, ↓q_anyS, seqR, seqV, truthV, settle, settles, isNil, pre2, pre3, intOf, bindT, bindTs, permute, isV, wipeE, List.length_cons, List.length_nil, List.getElem?_cons_zero, List.getElem?_cons_succ, List.set_cons_zero, List.set_cons_succ, List.map_cons, List.map_nil, List.replicate, List.append, List.cons_append, List.nil_append, true_and, and_true, if_true, if_false, Bool.false_eq_true, Option.bind, Bool.not_true, Bool.not_false, Bool.true_and, Bool.false_and, Bool.and_true, Bool.and_false, Bool.or_true, Bool.or_false, Bool.true_or, Bool.false_or, lstAt, ownL, mutAt, dicAt, Option.map, Option.map_some, Option.map_none, List.getElem?_nil, keyOk, Bool.or_self, Bool.and_self, Nat.zero_le, Nat.reduceAdd, Nat.reduceSub, Nat.reduceLT, Nat.reduceLeDiff, Nat.reduceEqDiff, Nat.reduceBEq, beq_self_eq_true, Nat.zero_add, Nat.add_zero, List.length_map, top, List.length_append, List.all_cons, List.all_nil, nrR, Val.nr, Val.nrs, pureVal, and_self, List.filterMap_cons, List.filterMap_nil, l_for0, l_for1, l_comp0, l_comp1, List.getElem?_concat_length, List.length_set]
    refine Ok.imp (pick_N k (xs := [.tup [.str [99, 111, 109, 109, 105, 116]], BOTH]) (by simp) (by simp)) ?_
    rintro r st1 ⟨⟨x, hx, rfl⟩, k1, f1⟩
    have : ∃ t, TD t ∧ x = .tup (t.map .str) := by
      simp only [List.mem_cons, List.not_mem_nil, or_false] at hx
      rcases hx with rfl | rfl
      · exact ⟨_, .inr (.inr (.inl rfl)), rfl⟩
      · exact ⟨_, .inr (.inr (.inr rfl)), rfl⟩
    obtain ⟨t, st', rfl⟩ := this
    simp only [↓k_ok, ↓k_bad, ↓k_bind, ↓k_ite, ↓k_lift, ↓k_noX, ↓k_optT, ↓k_optF, ↓k_op2T, ↓k_op2F, ↓k_optCT, ↓k_optCF, ↓on_some, ↓on_none, ↓e_k, ↓e_g, ↓e_x, ↓e_tup, ↓e_lst, ↓e_op1, ↓e_op2, ↓e_op3, ↓e_sl, ↓e_and, ↓e_or, ↓e_not, ↓e_ite, ↓e_chain, ↓e_call, ↓e_nil, ↓e_cons, ↓e_dic, ↓e_comp, ↓s_skip, ↓s_seq, ↓s_asg, ↓s_ex, ↓s_ret, ↓s_retN, ↓s_brk, ↓s_cont, ↓s_ite, ↓s_fo, ↓g_tg, ↓g_sub, ↓r_run, ↓r_call, ↓r_pure, ↓l_for0, ↓l_for1, ↓l_comp0, ↓l_comp1, ↓p_eq, ↓p_ne, ↓p_lt, ↓p_le, ↓p_gt, ↓p_ge, ↓p_addI, ↓p_addS, ↓p_addT, ↓p_sub, ↓p_mul, ↓p_mod, ↓p_fdiv, ↓p_pow, ↓p_in, ↓p_notin, ↓p_ixT, ↓p_neg, ↓p_abs, ↓p_int, ↓p_intB, ↓p_lenS, ↓p_tuple, ↓p_list, ↓p_repr, ↓p_rev, ↓p_slT, ↓p_slr, ↓p_sll, ↓vb_ss, ↓p_addl, ↓p_addr, ↓p_ixl, ↓p_ixri, ↓p_ixrs, ↓p_app, ↓p_ext, ↓p_popa, ↓p_popz, ↓p_ins, ↓p_lenT, ↓p_lenl, ↓p_lenr, ↓p_set, ↓p_isN, ↓p_noN, ↓p_sort, ↓as_nil, ↓as_cons, ↓lb_cc, ↓lb_nc, ↓lb_cn, ↓lb_nn, ↓onE_some, ↓onE_none, ↓at_lit, ↓at_last, ↓q_ss, ↓q_ii, ↓q_bb, ↓q_tt, ↓q_ll, ↓q_vs, ↓q_vi, ↓q_vt, ↓q_nil, ↓q_nilc, ↓q_cnil, ↓q_cons, ↓q_any0, ↓q_any1, ↓q_anyS, seqR, seqV, truthV, settle, settles, isNil, pre2, pre3, intOf, bindT, bindTs, permute, isV, wipeE, List.length_cons, List.length_nil, List.getElem?_cons_zero, List.getElem?_cons_succ, List.set_cons_zero, List.set_cons_succ, List.map_cons, List.map_nil, List.replicate, List.append, List.cons_append, List.nil_append, true_and, and_true, if_true, if_false, Bool.false_eq_true, Option.bind, Bool.not_true, Bool.not_false, Bool.true_and, Bool.false_and, Bool.and_true, Bool.and_false, Bool.or_true, Bool.or_false, Bool.true_or, Bool.false_or, lstAt, ownL, mutAt, dicAt, Option.map, Option.map_some, Option.map_none, List.getElem?_nil, keyOk, Bool.or_self, Bool.and_self, Nat.zero_le, Nat.reduceAdd, Nat.reduceSub, Nat.reduceLT, Nat.reduceLeDiff, Nat.reduceEqDiff, Nat.reduceBEq, beq_self_eq_true, Nat.zero_add, Nat.add_zero, List.length_map, top, List.length_append, List.all_cons, List.all_nil, nrR, Val.nr, Val.nrs, pureVal, and_self, List.filterMap_cons, List.filterMap_nil, l_for0, l_for1, l_comp0, l_comp1, List.getElem?_concat_length, List.length_set]
    exact ⟨⟨_, ⟨y0, _, y2, _, t, b, s0, .inr (.inr rfl), s2, .inl rfl, st', rfl⟩, rfl⟩, k1, f.trans f1⟩
  · rcases s0 with rfl | rfl | rfl
    · simp only [↓k_ok, ↓k_bad, ↓k_bind, ↓k_ite, ↓k_lift, ↓k_noX, ↓k_optT, ↓k_optF, ↓k_op2T, ↓k_op2F, ↓k_optCT, ↓k_optCF, ↓on_some, ↓on_none, ↓e_k, ↓e_g, ↓e_x, ↓e_tup, ↓e_lst, ↓e_op1, ↓e_op2, ↓e_op3, ↓e_sl, ↓e_and, ↓e_or, ↓e_not, ↓e_ite, ↓e_chain, ↓e_call, ↓e_nil, ↓e_cons, ↓e_dic, ↓e_comp, ↓s_skip, ↓s_seq, ↓s_asg, ↓s_ex, ↓s_ret, ↓s_retN, ↓s_brk, ↓s_cont, ↓s_ite, ↓s_fo, ↓g_tg, ↓g_sub, ↓r_run, ↓r_call, ↓r_pure, ↓l_for0, ↓l_for1, ↓l_comp0, ↓l_comp1, ↓p_eq, ↓p_ne, ↓p_lt, ↓p_le, ↓p_gt, ↓p_ge, ↓p_addI, ↓p_addS, ↓p_addT, ↓p_sub, ↓p_mul, ↓p_mod, ↓p_fdiv, ↓p_pow, ↓p_in, ↓p_notin, ↓p_ixT, ↓p_neg, ↓p_abs, ↓p_int, ↓p_intB, ↓p_lenS, ↓p_tuple, ↓p_list, ↓p_repr, ↓p_rev, ↓p_slT, ↓p_slr, ↓p_sll, ↓vb_ss, ↓p_addl, ↓p_addr, ↓p_ixl, ↓p_ixri, ↓p_ixrs, ↓p_app, ↓p_ext, ↓p_popa, ↓p_popz, ↓p_ins, ↓p_lenT, ↓p_lenl, ↓p_lenr, ↓p_set, ↓p_isN, ↓p_noN, ↓p_sort, ↓as_nil, ↓as_cons, ↓lb_cc, ↓lb_nc, ↓lb_cn, ↓lb_nn, ↓onE_some, ↓onE_none, ↓at_lit, ↓at_last, ↓q_ss, ↓q_ii, ↓q_bb, ↓q_tt, ↓q_ll, ↓q_vs, ↓q_vi, ↓q_vt, ↓q_nil, ↓q_nilc, ↓q_cnil, ↓q_cons, ↓q_any0, ↓q_any1, ↓q_anyS, seqR, seqV, truthV, settle, settles, isNil, pre2, pre3, intOf, bindT, bindTs, permute, isV, wipeE, List.length_cons, List.length_nil, List.getElem?_cons_zero, List.getElem?_cons_succ, List.set_cons_zero, List.set_cons_succ, List.map_cons, List.map_nil, List.replicate, List.append, List.cons_append, List.nil_append, true_and, and_true, if_true, if_false, Bool.false_eq_true, Option.bind, Bool.not_true, Bool.not_false, Bool.true_and, Bool.false_and, Bool.and_true, Bool.and_false, Bool.or_true, Bool.or_false, Bool.true_or, Bool.false_or, lstAt, ownL, mutAt, dicAt, Option.map, Option.map_some, Option.map_none, List.getElem?_nil, keyOk, Bool.or_self, Bool.and_self, Nat.zero_le, Nat.reduceAdd, Nat.reduceSub, Nat.reduceLT, Nat.reduceLeDiff, Nat.reduceEqDiff, Nat.reduceBEq, beq_self_eq_true, Nat.zero_add, Nat.add_zero, List.length_map, top, List.length_append, List.all_cons, List.all_nil, nrR, Val.nr, Val.nrs, pureVal, and_self, List.filterMap_cons, List.filterMap_nil, l_for0, l_for1, l_comp0, l_comp1, List.getElem?_concat_length, List.length_set]
      exact ⟨⟨_, ⟨_, _, y2, _, _, b, .inl rfl, .inr (.inr rfl), s2, .inr rfl, .inr (.inr (.inr rfl)), rfl⟩, rfl⟩, k, f⟩
    · simp only [↓k_ok, ↓k_bad, ↓k_bind, ↓k_ite, ↓k_lift, ↓k_noX, ↓k_optT, ↓k_optF, ↓k_op2T, ↓k_op2F, ↓k_optCT, ↓k_optCF, ↓on_some, ↓on_none, ↓e_k, ↓e_g, ↓e_x, ↓e_tup, ↓e_lst, ↓e_op1, ↓e_op2, ↓e_op3, ↓e_sl, ↓e_and, ↓e_or, ↓e_not, ↓e_ite, ↓e_chain, ↓e_call, ↓e_nil, ↓e_cons, ↓e_dic, ↓e_comp, ↓s_skip, ↓s_seq, ↓s_asg, ↓s_ex, ↓s_ret, ↓s_retN, ↓s_brk, ↓s_cont, ↓s_ite, ↓s_fo, ↓g_tg, ↓g_sub, ↓r_run, ↓r_call, ↓r_pure, ↓l_for0, ↓l_for1, ↓l_comp0, ↓l_comp1, ↓p_eq, ↓p_ne, ↓p_lt, ↓p_le, ↓p_gt, ↓p_ge, ↓p_addI, ↓p_addS, ↓p_addT, ↓p_sub, ↓p_mul, ↓p_mod, ↓p_fdiv, ↓p_pow, ↓p_in, ↓p_notin, ↓p_ixT, ↓p_neg, ↓p_abs, ↓p_int, ↓p_intB, ↓p_lenS, ↓p_tuple, ↓p_list, ↓p_repr, ↓p_rev, ↓p_slT, ↓p_slr, ↓p_sll, ↓vb_ss, ↓p_addl, ↓p_addr, ↓p_ixl, ↓p_ixri, ↓p_ixrs, ↓p_app, ↓p_ext, ↓p_popa, ↓p_popz, ↓p_ins, ↓p_lenT, ↓p_lenl, ↓p_lenr, ↓p_set, ↓p_isN, ↓p_noN, ↓p_sort, ↓as_nil, ↓as_cons, ↓lb_cc, ↓lb_nc, ↓lb_cn, ↓lb_nn, ↓onE_some, ↓onE_none, ↓at_lit, ↓at_last, ↓q_ss, ↓q_ii, ↓q_bb, ↓q_tt, ↓q_ll, ↓q_vs, ↓q_vi, ↓q_vt, ↓q_nil, ↓q_nilc, ↓q_cnil, ↓q_cons, ↓q_any0, ↓q_any1, ↓q_anyS, seqR, seqV, truthV, settle, settles, isNil, pre2, pre3, intOf, bindT, bindTs, permute, isV, wipeE, List.length_cons, List.length_nil, List.getElem?_cons_zero, List.getElem?_cons_succ, List.set_cons_zero, List.set_cons_succ, List.map_cons, List.map_nil, List.replicate, List.append, List.cons_append, List.nil_append, true_and, and_true, if_true, if_false, Bool.false_eq_true, Option.bind, Bool.not_true, Bool.not_false, Bool.true_and, Bool.false_and, Bool.and_true, Bool.and_false, Bool.or_true, Bool.or_false, Bool.true_or, Bool.false_or, lstAt, ownL, mutAt, dicAt, Option.map, Option.map_some, Option.map_none, List.getElem?_nil, keyOk, Bool.or_self, Bool.and_self, Nat.zero_le, Nat.reduceAdd, Nat.reduceSub, Nat.reduceLT, Nat.reduceLeDiff, Nat.reduceEqDiff, Nat.reduceBEq, beq_self_eq_true, Nat.zero_add, Nat.add_zero, List.length_map, top, List.length_append, List.all_cons, List.all_nil, nrR, Val.nr, Val.nrs, pureVal, and_self, List.filterMap_cons, List.filterMap_nil, l_for0, l_for1, l_comp0, l_comp1, List.getElem?_concat_length, List.length_set]
      exact ⟨⟨_, ⟨_, _, _, _, _, b, .inr (.inl rfl), .inr (.inr rfl), .inr (.inr rfl), .inr rfl, .inr (.inr (.inr rfl)), rfl⟩, rfl⟩, k, f⟩
    · simp only [↓k_ok, ↓k_bad, ↓k_bind, ↓k_ite, ↓k_lift, ↓k_noX, ↓k_optT, ↓k_optF, ↓k_op2T, ↓k_op2F, ↓k_optCT, ↓k_optCF, ↓on_some, ↓on_none, ↓e_k, ↓e_g, ↓e_x, ↓e_tup, ↓e_lst, ↓e_op1, ↓e_op2, ↓e_op3, ↓e_sl, ↓e_and, ↓e_or, ↓e_not, ↓e_ite, ↓e_chain, ↓e_call, ↓e_nil, ↓e_cons, ↓e_dic, ↓e_comp, ↓s_skip, ↓s_seq, ↓s_asg, ↓s_ex, ↓s_ret, ↓s_retN, ↓s_brk, ↓s_cont, ↓s_ite, ↓s_fo, ↓g_tg, ↓g_sub, ↓r_run, ↓r_call, ↓r_pure, ↓l_for0, ↓l_for1, ↓l_comp0, ↓l_comp1, ↓p_eq, ↓p_ne, ↓p_lt, ↓p_le, ↓p_gt, ↓p_ge, ↓p_addI, ↓p_addS, ↓p_addT, ↓p_sub, ↓p_mul, ↓p_mod, ↓p_fdiv, ↓p_pow, ↓p_in, ↓p_notin, ↓p_ixT, ↓p_neg, ↓p_abs, ↓p_int, ↓p_intB, ↓p_lenS, ↓p_tuple, ↓p_list, ↓p_repr, ↓p_rev, ↓p_slT, ↓p_slr, ↓p_sll, ↓vb_ss, ↓p_addl, ↓p_addr, ↓p_ixl, ↓p_ixri, ↓p_ixrs, ↓p_app, ↓p_ext, ↓p_popa, ↓p_popz, ↓p_ins, ↓p_lenT, ↓p_lenl, ↓p_lenr, ↓p_set, ↓p_isN, ↓p_noN, ↓p_sort, ↓as_nil, ↓as_cons, ↓lb_cc, ↓lb_nc, ↓lb_cn, ↓lb_nn, ↓onE_some, ↓onE_none, ↓at_lit, ↓at_last, ↓q_ss, ↓q_ii, ↓q_bb, ↓q_tt, ↓q_ll, ↓q_vs, ↓q_vi, ↓q_vt, ↓q_nil, ↓q_nilc, ↓q_cnil, ↓q_cons, ↓q_any0, ↓q_any1, ↓q_anyS, seqR, seqV, truthV, settle, settles, isNil, pre2, pre3, intOf, bindT, bindTs, permute, isV, wipeE, List.length_cons, List.length_nil, List.getElem?_cons_zero, List.getElem?_cons_succ, List.set_cons_zero, List.set_cons_succ, List.map_cons, List.map_nil, List.replicate, List.append, List.cons_append, List.nil_append, true_and, and_true, if_true, if_false, Bool.false_eq_true, Option.bind, Bool.not_true, Bool.not_false, Bool.true_and, Bool.false_and, Bool.and_true, Bool.and_false, Bool.or_true, Bool.or_false, Bool.true_or, Bool.false_or, lstAt, ownL, mutAt, dicAt, Option.map, Option.map_some, Option.map_none, List.getElem?_nil, keyOk, Bool.or_self, Bool.and_self, Nat.zero_le, Nat.reduceAdd, Nat.reduceSub, Nat.reduceLT, Nat.reduceLeDiff, Nat.reduceEqDiff, Nat.reduceBEq, beq_self_eq_true, Nat.zero_add, Nat.add_zero, List.length_map, top, List.length_append, List.all_cons, List.all_nil, nrR, Val.nr, Val.nrs, pureVal, and_self, List.filterMap_cons, List.filterMap_nil, l_for0, l_for1, l_comp0, l_comp1, List.getElem?_concat_length, List.length_set]
      refine Ok.imp (pick_N k (xs := [.tup [.str [97, 98, 111, 114, 116]], BOTH]) (by simp) (by simp)) ?_
      rintro r st1 ⟨⟨x, hx, rfl⟩, k1, f1⟩
      have : ∃ t, TD t ∧ x = .tup (t.map .str) := by
        simp only [List.mem_cons, List.not_mem_nil, or_false] at hx
        rcases hx with rfl | rfl
        · exact ⟨_, .inr (.inl rfl), rfl⟩
        · exact ⟨_, .inr (.inr (.inr rfl)), rfl⟩
      obtain ⟨t, st', rfl⟩ := this
      simp only [↓k_ok, ↓k_bad, ↓k_bind, ↓k_ite, ↓k_lift, ↓k_noX, ↓k_optT, ↓k_optF, ↓k_op2T, ↓k_op2F, ↓k_optCT, ↓k_optCF, ↓on_some, ↓on_none, ↓e_k, ↓e_g, ↓e_x, ↓e_tup, ↓e_lst, ↓e_op1, ↓e_op2, ↓e_op3, ↓e_sl, ↓e_and, ↓e_or, ↓e_not, ↓e_ite, ↓e_chain, ↓e_call, ↓e_nil, ↓e_cons, ↓e_dic, ↓e_comp, ↓s_skip, ↓s_seq, ↓s_asg, ↓s_ex, ↓s_ret, ↓s_retN, ↓s_brk, ↓s_cont, ↓s_ite, ↓s_fo, ↓g_tg, ↓g_sub, ↓r_run, ↓r_call, ↓r_pure, ↓l_for0, ↓l_for1, ↓l_comp0, ↓l_comp1, ↓p_eq, ↓p_ne, ↓p_lt, ↓p_le, ↓p_gt, ↓p_ge, ↓p_addI, ↓p_addS, ↓p_addT, ↓p_sub, ↓p_mul, ↓p_mod, ↓p_fdiv, ↓p_pow, ↓p_in, ↓p_notin, ↓p_ixT, ↓p_neg, ↓p_abs, ↓p_int, ↓p_intB, ↓p_lenS, ↓p_tuple, ↓p_list, ↓p_repr, ↓p_rev, ↓p_slT, ↓p_slr, ↓p_sll, ↓vb_ss, ↓p_addl, ↓p_addr, ↓p_ixl, ↓p_ixri, ↓p_ixrs, ↓p_app, ↓p_ext, ↓p_popa, ↓p_popz, ↓p_ins, ↓p_lenT, ↓p_lenl, ↓p_lenr, ↓p_set, ↓p_isN, ↓p_noN, ↓p_sort, ↓as_nil, ↓as_cons, ↓lb_cc, ↓lb_nc, ↓lb_cn, ↓lb_nn, ↓onE_some, ↓onE_none, ↓at_lit, ↓at_last, ↓q_ss, ↓q_ii, ↓q_bb, ↓q_tt, ↓q_ll, ↓q_vs, ↓q_vi, ↓q_vt, ↓q_nil, ↓q_nilc, ↓q_cnil, ↓q_cons, ↓q_any0, ↓q_any1, ↓q_anyS, seqR, seqV, truthV, settle, settles, isNil, pre2, pre3, intOf, bindT, bindTs, permute, isV, wipeE, List.length_cons, List.length_nil, List.getElem?_cons_zero, List.getElem?_cons_succ, List.set_cons_zero, List.set_cons_succ, List.map_cons, List.map_nil, List.replicate, List.append, List.cons_append, List.nil_append, true_and, and_true, if_true, if_false, Bool.false_eq_true, Option.bind, Bool.not_true, Bool.not_false, Bool.true_and, Bool.false_and, Bool.and_true, Bool.and_false, Bool.or_true, Bool.or_false, Bool.true_or, Bool.false_or, lstAt, ownL, mutAt, dicAt, Option.map, Option.map_some, Option.map_none, List.getElem?_nil, keyOk, Bool.or_self, Bool.and_self, Nat.zero_le, Nat.reduceAdd, Nat.reduceSub, Nat.reduceLT, Nat.reduceLeDiff, Nat.reduceEqDiff, Nat.reduceBEq, beq_self_eq_true, Nat.zero_add, Nat.add_zero, List.length_map, top, List.length_append, List.all_cons, List.all_nil, nrR, Val.nr, Val.nrs, pureVal, and_self, List.filterMap_cons, List.filterMap_nil, l_for0, l_for1, l_comp0, l_comp1, List.getElem?_concat_length, List.length_set]
      exact ⟨⟨_, ⟨_, y1, _, _, t, b, .inr (.inr rfl), s1, .inr (.inr rfl), .inr rfl, st', rfl⟩, rfl⟩, k1, f.trans f1⟩
end Law
end
section
set_option Elab.async false
set_option maxRecDepth 100000
set_option linter.all false
namespace Law
open Mi
/-- a pair of the domain -/
def isHM (v : Val) : Prop := ∃ h0 h1 h2 p0 p1 p2 p4 t s, SD h0 ∧ SD h1 ∧ SD h2 ∧ SD p0 ∧ SD p1 ∧ SD p2 ∧ TD t ∧ PD p4 ∧ v = .tup [hV h0 h1 h2, mV p0 p1 p2 p4 t s]
def spots (k : Nat) : List Val := [Val.int 0, .int 1, .int 2].drop k
theorem near_ok {h0 h1 h2 p0 p1 p2 p4 : List Nat} {t : List (List Nat)} {s : Bool} (a0 : SD h0) (a1 : SD h1) (a2 : SD h2) (b0 : SD p0) (b1 : SD p1) (b2 : SD p2) (b3 : TD t) (b4 : PD p4) :
    Ok (f_law_near_q [hV h0 h1 h2, mV p0 p1 p2 p4 t s] []) fun r _ => ∃ ps, r = .l ps ∧ (∀ p ∈ ps, isHM p) ∧ ps.length ≤ 40 := by
  have wr : ∀ q st, walk .range1 (.v (.int 3)) q st = some ([.int 0, .int 1, .int 2], []) := fun _ _ => rfl
  unfold f_law_near_q d_law_near_q m_law_near_q
  rw [r_run]
  refine ⟨rfl, ?_⟩
  refine seq_ok (fun ρ st => ρ = [some (hV h0 h1 h2), some (mV p0 p1 p2 p4 t s), some (.ref 0), some (.ref 1), none, none, none, none, none] ∧ st = [.lst [], .lst STR]) ?_ ?_
  · simp only [↓k_ok, ↓k_bad, ↓k_bind, ↓k_ite, ↓k_lift, ↓k_noX, ↓k_optT, ↓k_optF, ↓k_op2T, ↓k_op2F, ↓k_optCT, ↓k_optCF, ↓on_some, ↓on_none, ↓e_k, ↓e_g, ↓e_x, ↓e_tup, ↓e_lst, ↓e_op1, ↓e_op2, ↓e_op3, ↓e_sl, ↓e_and, ↓e_or, ↓e_not, ↓e_ite, ↓e_chain, ↓e_call, ↓e_nil, ↓e_cons, ↓e_dic, ↓e_comp, ↓s_skip, ↓s_seq, ↓s_asg, ↓s_ex, ↓s_ret, ↓s_retN, ↓s_brk, ↓s_cont, ↓s_ite, ↓s_fo, ↓g_tg, ↓g_sub, ↓r_run, ↓r_call, ↓r_pure, ↓l_for0, ↓l_for1, ↓l_comp0, ↓l_comp1, ↓p_eq, ↓p_ne, ↓p_lt, ↓p_le, ↓p_gt, ↓p_ge, ↓p_addI, ↓p_addS, ↓p_addT, ↓p_sub, ↓p_mul, ↓p_mod, ↓p_fdiv, ↓p_pow, ↓p_in, ↓p_notin, ↓p_ixT, ↓p_neg, ↓p_abs, ↓p_int, ↓p_intB, ↓p_lenS, ↓p_tuple, ↓p_list, ↓p_repr, ↓p_rev, ↓p_slT, ↓p_slr, ↓p_sll, ↓vb_ss, ↓p_addl, ↓p_addr, ↓p_ixl, ↓p_ixri, ↓p_ixrs, ↓p_app, ↓p_ext, ↓p_popa, ↓p_popz, ↓p_ins, ↓p_lenT, ↓p_lenl, ↓p_lenr, ↓p_set, ↓p_isN, ↓p_noN, ↓p_sort, ↓as_nil, ↓as_cons, ↓lb_cc, ↓lb_nc, ↓lb_cn, ↓lb_nn, ↓onE_some, ↓onE_none, ↓at_lit, ↓at_last, ↓q_ss, ↓q_ii, ↓q_bb, ↓q_tt, ↓q_ll, ↓q_vs, ↓q_vi, ↓q_vt, ↓q_nil, ↓q_nilc, ↓q_cnil, ↓q_cons, ↓q_any0, ↓q_any1, ↓q_anyS, seqR, seqV, truthV, settle, settles, isNil, pre2, pre3, intOf, bindT, bindTs, permute, isV, wipeE, List.length_cons, List.length_nil, List.getElem?_cons_zero, List.getElem?_cons_succ, List.set_cons_zero, List.set_cons_succ, List.map_cons, List.map_nil, List.replicate, List.append, List.cons_append, List.nil_append, true_and, and_true, if_true, if_false, Bool.false_eq_true, Option.bind, Bool.not_true, Bool.not_false, Bool.true_and, Bool.false_and, Bool.and_true, Bool.and_false, Bool.or_true, Bool.or_false, Bool.true_or, Bool.false_or, lstAt, ownL, mutAt, dicAt, Option.map, Option.map_some, Option.map_none, List.getElem?_nil, keyOk, Bool.or_self, Bool.and_self, Nat.zero_le, Nat.reduceAdd, Nat.reduceSub, Nat.reduceLT, Nat.reduceLeDiff, Nat.reduceEqDiff, Nat.reduceBEq, beq_self_eq_true, Nat.zero_add, Nat.add_zero, List.length_map, top, List.length_append, List.all_cons, List.all_nil, nrR, Val.nr, Val.nrs, pureVal, and_self, List.filterMap_cons, List.filterMap_nil, l_for0, l_for1, l_comp0, l_comp1, List.getElem?_concat_length, List.length_set]
    exact ⟨_, rfl, rfl, rfl⟩
  rintro ρ st ⟨rfl, rfl⟩
  refine seq_ok (fun ρ st => ∃ fd o4 o5, ρ = [some (hV h0 h1 h2), some (mV p0 p1 p2 p4 t s), some (.ref 0), some (.ref 1), o4, o5, none, none, none] ∧ st[0]? = some (.lst fd) ∧ (∀ a ∈ fd, isHM a) ∧ fd.length ≤ 18) ?_ ?_
  · simp only [wr, ↓k_ok, ↓k_bad, ↓k_bind, ↓k_ite, ↓k_lift, ↓k_noX, ↓k_optT, ↓k_optF, ↓k_op2T, ↓k_op2F, ↓k_optCT, ↓k_optCF, ↓on_some, ↓on_none, ↓e_k, ↓e_g, ↓e_x, ↓e_tup, ↓e_lst, ↓e_op1, ↓e_op2, ↓e_op3, ↓e_sl, ↓e_and, ↓e_or, ↓e_not, ↓e_ite, ↓e_chain, ↓e_call, ↓e_nil, ↓e_cons, ↓e_dic, ↓e_comp, ↓s_skip, ↓s_seq, ↓s_asg, ↓s_ex, ↓s_ret, ↓s_retN, ↓s_brk, ↓s_cont, ↓s_ite, ↓s_fo, ↓g_tg, ↓g_sub, ↓r_run, ↓r_call, ↓r_pure, ↓p_eq, ↓p_ne, ↓p_lt, ↓p_le, ↓p_gt, ↓p_ge, ↓p_addI, ↓p_addS, ↓p_addT, ↓p_sub, ↓p_mul, ↓p_mod, ↓p_fdiv, ↓p_pow, ↓p_in, ↓p_notin, ↓p_ixT, ↓p_neg, ↓p_abs, ↓p_int, ↓p_intB, ↓p_lenS, ↓p_tuple, ↓p_list, ↓p_repr, ↓p_rev, ↓p_slT, ↓p_slr, ↓p_sll, ↓vb_ss, ↓p_addl, ↓p_addr, ↓p_ixl, ↓p_ixri, ↓p_ixrs, ↓p_app, ↓p_ext, ↓p_popa, ↓p_popz, ↓p_ins, ↓p_lenT, ↓p_lenl, ↓p_lenr, ↓p_set, ↓p_isN, ↓p_noN, ↓p_sort, ↓as_nil, ↓as_cons, ↓lb_cc, ↓lb_nc, ↓lb_cn, ↓lb_nn, ↓onE_some, ↓onE_none, ↓at_lit, ↓at_last, ↓q_ss, ↓q_ii, ↓q_bb, ↓q_tt, ↓q_ll, ↓q_vs, ↓q_vi, ↓q_vt, ↓q_nil, ↓q_nilc, ↓q_cnil, ↓q_cons, ↓q_any0, ↓q_any1, ↓q_anyS, seqR, seqV, truthV, settle, settles, isNil, pre2, pre3, intOf, bindT, bindTs, permute, isV, wipeE, List.length_cons, List.length_nil, List.getElem?_cons_zero, List.getElem?_cons_succ, List.set_cons_zero, List.set_cons_succ, List.map_cons, List.map_nil, List.replicate, List.append, List.cons_append, List.nil_append, true_and, and_true, if_true, if_false, Bool.false_eq_true, Option.bind, Bool.not_true, Bool.not_false, Bool.true_and, Bool.false_and, Bool.and_true, Bool.and_false, Bool.or_true, Bool.or_false, Bool.true_or, Bool.false_or, lstAt, ownL, mutAt, dicAt, Option.map, Option.map_some, Option.map_none, List.getElem?_nil, keyOk, Bool.or_self, Bool.and_self, Nat.zero_le, Nat.reduceAdd, Nat.reduceSub, Nat.reduceLT, Nat.reduceLeDiff, Nat.reduceEqDiff, Nat.reduceBEq, beq_self_eq_true, Nat.zero_add, Nat.add_zero, List.length_map, top, List.length_append, List.all_cons, List.all_nil, nrR, Val.nr, Val.nrs, pureVal, and_self, List.filterMap_cons, List.filterMap_nil, List.getElem?_concat_length, List.length_set]
    refine for_inv (fun xs ρ st => (xs = [.int 0, .int 1, .int 2] ∨ xs = [.int 1, .int 2] ∨ xs = [.int 2] ∨ xs = []) ∧ ∃ fd o4 o5, ρ = [some (hV h0 h1 h2), some (mV p0 p1 p2 p4 t s), some (.ref 0), some (.ref 1), o4, o5, none, none, none] ∧ st[0]? = some (.lst fd) ∧ st[1]? = some (.lst STR) ∧ (∀ a ∈ fd, isHM a) ∧ fd.length + 6 * xs.length ≤ 18) ?_ ?_ ?_ _ _ _ ⟨.inl rfl, [], none, none, rfl, rfl, rfl, fun _ h => absurd h List.not_mem_nil, by simp⟩
    · intros; rfl
    · rintro x xs ρ st ⟨hx, fd, o4, o5, rfl, e0, e1, hf, hl⟩
      rcases hx with hx | hx | hx | hx
      · obtain ⟨rfl, rfl⟩ : x = .int 0 ∧ xs = [.int 1, .int 2] := by simpa using hx
        have el0 := (List.getElem?_eq_some_iff.mp e0).1
        simp only [List.length_cons, List.length_nil] at hl
        refine ⟨_, rfl, ?_⟩
        simp only [hV, mV, watch, e0, e1, walk_l e1, ↓k_ok, ↓k_bad, ↓k_bind, ↓k_ite, ↓k_lift, ↓k_noX, ↓k_optT, ↓k_optF, ↓k_op2T, ↓k_op2F, ↓k_optCT, ↓k_optCF, ↓on_some, ↓on_none, ↓e_k, ↓e_g, ↓e_x, ↓e_tup, ↓e_lst, ↓e_op1, ↓e_op2, ↓e_op3, ↓e_sl, ↓e_and, ↓e_or, ↓e_not, ↓e_ite, ↓e_chain, ↓e_call, ↓e_nil, ↓e_cons, ↓e_dic, ↓e_comp, ↓s_skip, ↓s_seq, ↓s_asg, ↓s_ex, ↓s_ret, ↓s_retN, ↓s_brk, ↓s_cont, ↓s_ite, ↓s_fo, ↓g_tg, ↓g_sub, ↓r_run, ↓r_call, ↓r_pure, ↓p_eq, ↓p_ne, ↓p_lt, ↓p_le, ↓p_gt, ↓p_ge, ↓p_addI, ↓p_addS, ↓p_addT, ↓p_sub, ↓p_mul, ↓p_mod, ↓p_fdiv, ↓p_pow, ↓p_in, ↓p_notin, ↓p_ixT, ↓p_neg, ↓p_abs, ↓p_int, ↓p_intB, ↓p_lenS, ↓p_tuple, ↓p_list, ↓p_repr, ↓p_rev, ↓p_slT, ↓p_slr, ↓p_sll, ↓vb_ss, ↓p_addl, ↓p_addr, ↓p_ixl, ↓p_ixri, ↓p_ixrs, ↓p_app, ↓p_ext, ↓p_popa, ↓p_popz, ↓p_ins, ↓p_lenT, ↓p_lenl, ↓p_lenr, ↓p_set, ↓p_isN, ↓p_noN, ↓p_sort, ↓as_nil, ↓as_cons, ↓lb_cc, ↓lb_nc, ↓lb_cn, ↓lb_nn, ↓onE_some, ↓onE_none, ↓at_lit, ↓at_last, ↓q_ss, ↓q_ii, ↓q_bb, ↓q_tt, ↓q_ll, ↓q_vs, ↓q_vi, ↓q_vt, ↓q_nil, ↓q_nilc, ↓q_cnil, ↓q_cons, ↓q_any0, ↓q_any1, ↓q_anyS, seqR, seqV, truthV, settle, settles, isNil, pre2, pre3, intOf, bindT, bindTs, permute, isV, wipeE, List.length_cons, List.length_nil, List.getElem?_cons_zero, List.getElem?_cons_succ, List.set_cons_zero, List.set_cons_succ, List.map_cons, List.map_nil, List.replicate, List.append, List.cons_append, List.nil_append, true_and, and_true, if_true, if_false, Bool.false_eq_true, Option.bind, Bool.not_true, Bool.not_false, Bool.true_and, Bool.false_and, Bool.and_true, Bool.and_false, Bool.or_true, Bool.or_false, Bool.true_or, Bool.false_or, lstAt, ownL, mutAt, dicAt, Option.map, Option.map_some, Option.map_none, List.getElem?_nil, keyOk, Bool.or_self, Bool.and_self, Nat.zero_le, Nat.reduceAdd, Nat.reduceSub, Nat.reduceLT, Nat.reduceLeDiff, Nat.reduceEqDiff, Nat.reduceBEq, beq_self_eq_true, Nat.zero_add, Nat.add_zero, List.length_map, top, List.length_append, List.all_cons, List.all_nil, nrR, Val.nr, Val.nrs, pureVal, and_self, List.filterMap_cons, List.filterMap_nil, List.getElem?_concat_length, List.length_set]
        refine comp_pure isHM (stands_l e1) (by simp [STR, top]) ?_ ?_
        · intro x hx
          obtain ⟨y, sy, rfl⟩ := str_sd hx
          refine ⟨_, rfl, ?_⟩
          simp only [↓k_ok, ↓k_bad, ↓k_bind, ↓k_ite, ↓k_lift, ↓k_noX, ↓k_optT, ↓k_optF, ↓k_op2T, ↓k_op2F, ↓k_optCT, ↓k_optCF, ↓on_some, ↓on_none, ↓e_k, ↓e_g, ↓e_x, ↓e_tup, ↓e_lst, ↓e_op1, ↓e_op2, ↓e_op3, ↓e_sl, ↓e_and, ↓e_or, ↓e_not, ↓e_ite, ↓e_chain, ↓e_call, ↓e_nil, ↓e_cons, ↓e_dic, ↓e_comp, ↓s_skip, ↓s_seq, ↓s_asg, ↓s_ex, ↓s_ret, ↓s_retN, ↓s_brk, ↓s_cont, ↓s_ite, ↓s_fo, ↓g_tg, ↓g_sub, ↓r_run, ↓r_call, ↓r_pure, ↓p_eq, ↓p_ne, ↓p_lt, ↓p_le, ↓p_gt, ↓p_ge, ↓p_addI, ↓p_addS, ↓p_addT, ↓p_sub, ↓p_mul, ↓p_mod, ↓p_fdiv, ↓p_pow, ↓p_in, ↓p_notin, ↓p_ixT, ↓p_neg, ↓p_abs, ↓p_int, ↓p_intB, ↓p_lenS, ↓p_tuple, ↓p_list, ↓p_repr, ↓p_rev, ↓p_slT, ↓p_slr, ↓p_sll, ↓vb_ss, ↓p_addl, ↓p_addr, ↓p_ixl, ↓p_ixri, ↓p_ixrs, ↓p_app, ↓p_ext, ↓p_popa, ↓p_popz, ↓p_ins, ↓p_lenT, ↓p_lenl, ↓p_lenr, ↓p_set, ↓p_isN, ↓p_noN, ↓p_sort, ↓as_nil, ↓as_cons, ↓lb_cc, ↓lb_nc, ↓lb_cn, ↓lb_nn, ↓onE_some, ↓onE_none, ↓at_lit, ↓at_last, ↓q_ss, ↓q_ii, ↓q_bb, ↓q_tt, ↓q_ll, ↓q_vs, ↓q_vi, ↓q_vt, ↓q_nil, ↓q_nilc, ↓q_cnil, ↓q_cons, ↓q_any0, ↓q_any1, ↓q_anyS, seqR, seqV, truthV, settle, settles, isNil, pre2, pre3, intOf, bindT, bindTs, permute, isV, wipeE, List.length_cons, List.length_nil, List.getElem?_cons_zero, List.getElem?_cons_succ, List.set_cons_zero, List.set_cons_succ, List.map_cons, List.map_nil, List.replicate, List.append, List.cons_append, List.nil_append, true_and, and_true, if_true, if_false, Bool.false_eq_true, Option.bind, Bool.not_true, Bool.not_false, Bool.true_and, Bool.false_and, Bool.and_true, Bool.and_false, Bool.or_true, Bool.or_false, Bool.true_or, Bool.false_or, lstAt, ownL, mutAt, dicAt, Option.map, Option.map_some, Option.map_none, List.getElem?_nil, keyOk, Bool.or_self, Bool.and_self, Nat.zero_le, Nat.reduceAdd, Nat.reduceSub, Nat.reduceLT, Nat.reduceLeDiff, Nat.reduceEqDiff, Nat.reduceBEq, beq_self_eq_true, Nat.zero_add, Nat.add_zero, List.length_map, top, List.length_append, List.all_cons, List.all_nil, nrR, Val.nr, Val.nrs, pureVal, and_self, List.filterMap_cons, List.filterMap_nil, List.getElem?_concat_length, List.length_set]
          exact fun _ => ⟨by simp [cut, cutIx], by simp [cut, cutIx], _, rfl, ⟨y, h1, h2, p0, p1, p2, p4, t, s, sy, a1, a2, b0, b1, b2, b3, b4, rfl⟩⟩
        · intro l1 hl1 ll1
          have e0' : (st.set 0 (.lst (fd ++ l1)))[0]? = some (.lst (fd ++ l1)) := set_self e0
          have e1' : (st.set 0 (.lst (fd ++ l1)))[1]? = some (.lst STR) := (set_ne (by decide)).trans e1
          simp only [e0, walk_l e1', ↓k_ok, ↓k_bad, ↓k_bind, ↓k_ite, ↓k_lift, ↓k_noX, ↓k_optT, ↓k_optF, ↓k_op2T, ↓k_op2F, ↓k_optCT, ↓k_optCF, ↓on_some, ↓on_none, ↓e_k, ↓e_g, ↓e_x, ↓e_tup, ↓e_lst, ↓e_op1, ↓e_op2, ↓e_op3, ↓e_sl, ↓e_and, ↓e_or, ↓e_not, ↓e_ite, ↓e_chain, ↓e_call, ↓e_nil, ↓e_cons, ↓e_dic, ↓e_comp, ↓s_skip, ↓s_seq, ↓s_asg, ↓s_ex, ↓s_ret, ↓s_retN, ↓s_brk, ↓s_cont, ↓s_ite, ↓s_fo, ↓g_tg, ↓g_sub, ↓r_run, ↓r_call, ↓r_pure, ↓p_eq, ↓p_ne, ↓p_lt, ↓p_le, ↓p_gt, ↓p_ge, ↓p_addI, ↓p_addS, ↓p_addT, ↓p_sub, ↓p_mul, ↓p_mod, ↓p_fdiv, ↓p_pow, ↓p_in, ↓p_notin, ↓p_ixT, ↓p_neg, ↓p_abs, ↓p_int, ↓p_intB, ↓p_lenS, ↓p_tuple, ↓p_list, ↓p_repr, ↓p_rev, ↓p_slT, ↓p_slr, ↓p_sll, ↓vb_ss, ↓p_addl, ↓p_addr, ↓p_ixl, ↓p_ixri, ↓p_ixrs, ↓p_app, ↓p_ext, ↓p_popa, ↓p_popz, ↓p_ins, ↓p_lenT, ↓p_lenl, ↓p_lenr, ↓p_set, ↓p_isN, ↓p_noN, ↓p_sort, ↓as_nil, ↓as_cons, ↓lb_cc, ↓lb_nc, ↓lb_cn, ↓lb_nn, ↓onE_some, ↓onE_none, ↓at_lit, ↓at_last, ↓q_ss, ↓q_ii, ↓q_bb, ↓q_tt, ↓q_ll, ↓q_vs, ↓q_vi, ↓q_vt, ↓q_nil, ↓q_nilc, ↓q_cnil, ↓q_cons, ↓q_any0, ↓q_any1, ↓q_anyS, seqR, seqV, truthV, settle, settles, isNil, pre2, pre3, intOf, bindT, bindTs, permute, isV, wipeE, List.length_cons, List.length_nil, List.getElem?_cons_zero, List.getElem?_cons_succ, List.set_cons_zero, List.set_cons_succ, List.map_cons, List.map_nil, List.replicate, List.append, List.cons_append, List.nil_append, true_and, and_true, if_true, if_false, Bool.false_eq_true, Option.bind, Bool.not_true, Bool.not_false, Bool.true_and, Bool.false_and, Bool.and_true, Bool.and_false, Bool.or_true, Bool.or_false, Bool.true_or, Bool.false_or, lstAt, ownL, mutAt, dicAt, Option.map, Option.map_some, Option.map_none, List.getElem?_nil, keyOk, Bool.or_self, Bool.and_self, Nat.zero_le, Nat.reduceAdd, Nat.reduceSub, Nat.reduceLT, Nat.reduceLeDiff, Nat.reduceEqDiff, Nat.reduceBEq, beq_self_eq_true, Nat.zero_add, Nat.add_zero, List.length_map, top, List.length_append, List.all_cons, List.all_nil, nrR, Val.nr, Val.nrs, pureVal, and_self, List.filterMap_cons, List.filterMap_nil, List.getElem?_concat_length, List.length_set]
          generalize st.set 0 (.lst (fd ++ l1)) = st1 at e0' e1'
          refine ⟨by simp [STR] at ll1; omega, ?_⟩
          refine comp_pure (fun v => ∃ y, SD y ∧ v = .str y) (stands_l e1') (by simp [STR, top]) ?_ ?_
          · intro x hx
            obtain ⟨y, sy, rfl⟩ := str_sd hx
            refine ⟨_, rfl, ?_⟩
            simp only [↓k_ok, ↓k_bad, ↓k_bind, ↓k_ite, ↓k_lift, ↓k_noX, ↓k_optT, ↓k_optF, ↓k_op2T, ↓k_op2F, ↓k_optCT, ↓k_optCF, ↓on_some, ↓on_none, ↓e_k, ↓e_g, ↓e_x, ↓e_tup, ↓e_lst, ↓e_op1, ↓e_op2, ↓e_op3, ↓e_sl, ↓e_and, ↓e_or, ↓e_not, ↓e_ite, ↓e_chain, ↓e_call, ↓e_nil, ↓e_cons, ↓e_dic, ↓e_comp, ↓s_skip, ↓s_seq, ↓s_asg, ↓s_ex, ↓s_ret, ↓s_retN, ↓s_brk, ↓s_cont, ↓s_ite, ↓s_fo, ↓g_tg, ↓g_sub, ↓r_run, ↓r_call, ↓r_pure, ↓p_eq, ↓p_ne, ↓p_lt, ↓p_le, ↓p_gt, ↓p_ge, ↓p_addI, ↓p_addS, ↓p_addT, ↓p_sub, ↓p_mul, ↓p_mod, ↓p_fdiv, ↓p_pow, ↓p_in, ↓p_notin, ↓p_ixT, ↓p_neg, ↓p_abs, ↓p_int, ↓p_intB, ↓p_lenS, ↓p_tuple, ↓p_list, ↓p_repr, ↓p_rev, ↓p_slT, ↓p_slr, ↓p_sll, ↓vb_ss, ↓p_addl, ↓p_addr, ↓p_ixl, ↓p_ixri, ↓p_ixrs, ↓p_app, ↓p_ext, ↓p_popa, ↓p_popz, ↓p_ins, ↓p_lenT, ↓p_lenl, ↓p_lenr, ↓p_set, ↓p_isN, ↓p_noN, ↓p_sort, ↓as_nil, ↓as_cons, ↓lb_cc, ↓lb_nc, ↓lb_cn, ↓lb_nn, ↓onE_some, ↓onE_none, ↓at_lit, ↓at_last, ↓q_ss, ↓q_ii, ↓q_bb, ↓q_tt, ↓q_ll, ↓q_vs, ↓q_vi, ↓q_vt, ↓q_nil, ↓q_nilc, ↓q_cnil, ↓q_cons, ↓q_any0, ↓q_any1, ↓q_anyS, seqR, seqV, truthV, settle, settles, isNil, pre2, pre3, intOf, bindT, bindTs, permute, isV, wipeE, List.length_cons, List.length_nil, List.getElem?_cons_zero, List.getElem?_cons_succ, List.set_cons_zero, List.set_cons_succ, List.map_cons, List.map_nil, List.replicate, List.append, List.cons_append, List.nil_append, true_and, and_true, if_true, if_false, Bool.false_eq_true, Option.bind, Bool.not_true, Bool.not_false, Bool.true_and, Bool.false_and, Bool.and_true, Bool.and_false, Bool.or_true, Bool.or_false, Bool.true_or, Bool.false_or, lstAt, ownL, mutAt, dicAt, Option.map, Option.map_some, Option.map_none, List.getElem?_nil, keyOk, Bool.or_self, Bool.and_self, Nat.zero_le, Nat.reduceAdd, Nat.reduceSub, Nat.reduceLT, Nat.reduceLeDiff, Nat.reduceEqDiff, Nat.reduceBEq, beq_self_eq_true, Nat.zero_add, Nat.add_zero, List.length_map, top, List.length_append, List.all_cons, List.all_nil, nrR, Val.nr, Val.nrs, pureVal, and_self, List.filterMap_cons, List.filterMap_nil, List.getElem?_concat_length, List.length_set]
            exact fun _ => ⟨_, rfl, y, sy, rfl⟩
          · intro l2 hl2 ll2
            have n1 := (List.getElem?_eq_some_iff.mp e1').1
            have f0 : (st1 ++ [Mi.Obj.lst l2])[0]? = some (.lst (fd ++ l1)) := (List.getElem?_append_left (by omega)).trans e0'
            have f1 : (st1 ++ [Mi.Obj.lst l2])[1]? = some (.lst STR) := (List.getElem?_append_left n1).trans e1'
            have f2 : (st1 ++ [Mi.Obj.lst l2])[st1.length]? = some (.lst l2) := by rw [List.getElem?_concat_length]
            simp only [f0, walk_l f2, ↓k_ok, ↓k_bad, ↓k_bind, ↓k_ite, ↓k_lift, ↓k_noX, ↓k_optT, ↓k_optF, ↓k_op2T, ↓k_op2F, ↓k_optCT, ↓k_optCF, ↓on_some, ↓on_none, ↓e_k, ↓e_g, ↓e_x, ↓e_tup, ↓e_lst, ↓e_op1, ↓e_op2, ↓e_op3, ↓e_sl, ↓e_and, ↓e_or, ↓e_not, ↓e_ite, ↓e_chain, ↓e_call, ↓e_nil, ↓e_cons, ↓e_dic, ↓e_comp, ↓s_skip, ↓s_seq, ↓s_asg, ↓s_ex, ↓s_ret, ↓s_retN, ↓s_brk, ↓s_cont, ↓s_ite, ↓s_fo, ↓g_tg, ↓g_sub, ↓r_run, ↓r_call, ↓r_pure, ↓p_eq, ↓p_ne, ↓p_lt, ↓p_le, ↓p_gt, ↓p_ge, ↓p_addI, ↓p_addS, ↓p_addT, ↓p_sub, ↓p_mul, ↓p_mod, ↓p_fdiv, ↓p_pow, ↓p_in, ↓p_notin, ↓p_ixT, ↓p_neg, ↓p_abs, ↓p_int, ↓p_intB, ↓p_lenS, ↓p_tuple, ↓p_list, ↓p_repr, ↓p_rev, ↓p_slT, ↓p_slr, ↓p_sll, ↓vb_ss, ↓p_addl, ↓p_addr, ↓p_ixl, ↓p_ixri, ↓p_ixrs, ↓p_app, ↓p_ext, ↓p_popa, ↓p_popz, ↓p_ins, ↓p_lenT, ↓p_lenl, ↓p_lenr, ↓p_set, ↓p_isN, ↓p_noN, ↓p_sort, ↓as_nil, ↓as_cons, ↓lb_cc, ↓lb_nc, ↓lb_cn, ↓lb_nn, ↓onE_some, ↓onE_none, ↓at_lit, ↓at_last, ↓q_ss, ↓q_ii, ↓q_bb, ↓q_tt, ↓q_ll, ↓q_vs, ↓q_vi, ↓q_vt, ↓q_nil, ↓q_nilc, ↓q_cnil, ↓q_cons, ↓q_any0, ↓q_any1, ↓q_anyS, seqR, seqV, truthV, settle, settles, isNil, pre2, pre3, intOf, bindT, bindTs, permute, isV, wipeE, List.length_cons, List.length_nil, List.getElem?_cons_zero, List.getElem?_cons_succ, List.set_cons_zero, List.set_cons_succ, List.map_cons, List.map_nil, List.replicate, List.append, List.cons_append, List.nil_append, true_and, and_true, if_true, if_false, Bool.false_eq_true, Option.bind, Bool.not_true, Bool.not_false, Bool.true_and, Bool.false_and, Bool.and_true, Bool.and_false, Bool.or_true, Bool.or_false, Bool.true_or, Bool.false_or, lstAt, ownL, mutAt, dicAt, Option.map, Option.map_some, Option.map_none, List.getElem?_nil, keyOk, Bool.or_self, Bool.and_self, Nat.zero_le, Nat.reduceAdd, Nat.reduceSub, Nat.reduceLT, Nat.reduceLeDiff, Nat.reduceEqDiff, Nat.reduceBEq, beq_self_eq_true, Nat.zero_add, Nat.add_zero, List.length_map, top, List.length_append, List.all_cons, List.all_nil, nrR, Val.nr, Val.nrs, pureVal, and_self, List.filterMap_cons, List.filterMap_nil, List.getElem?_concat_length, List.length_set]
            generalize st1 ++ [Mi.Obj.lst l2] = st2 at f0 f1 f2
            refine comp_pure isHM (stands_l f2) (by simp [STR] at ll2; simp only [top]; omega) ?_ ?_
            · intro x hx
              obtain ⟨y, sy, rfl⟩ := hl2 x hx
              refine ⟨_, rfl, ?_⟩
              simp only [↓k_ok, ↓k_bad, ↓k_bind, ↓k_ite, ↓k_lift, ↓k_noX, ↓k_optT, ↓k_optF, ↓k_op2T, ↓k_op2F, ↓k_optCT, ↓k_optCF, ↓on_some, ↓on_none, ↓e_k, ↓e_g, ↓e_x, ↓e_tup, ↓e_lst, ↓e_op1, ↓e_op2, ↓e_op3, ↓e_sl, ↓e_and, ↓e_or, ↓e_not, ↓e_ite, ↓e_chain, ↓e_call, ↓e_nil, ↓e_cons, ↓e_dic, ↓e_comp, ↓s_skip, ↓s_seq, ↓s_asg, ↓s_ex, ↓s_ret, ↓s_retN, ↓s_brk, ↓s_cont, ↓s_ite, ↓s_fo, ↓g_tg, ↓g_sub, ↓r_run, ↓r_call, ↓r_pure, ↓p_eq, ↓p_ne, ↓p_lt, ↓p_le, ↓p_gt, ↓p_ge, ↓p_addI, ↓p_addS, ↓p_addT, ↓p_sub, ↓p_mul, ↓p_mod, ↓p_fdiv, ↓p_pow, ↓p_in, ↓p_notin, ↓p_ixT, ↓p_neg, ↓p_abs, ↓p_int, ↓p_intB, ↓p_lenS, ↓p_tuple, ↓p_list, ↓p_repr, ↓p_rev, ↓p_slT, ↓p_slr, ↓p_sll, ↓vb_ss, ↓p_addl, ↓p_addr, ↓p_ixl, ↓p_ixri, ↓p_ixrs, ↓p_app, ↓p_ext, ↓p_popa, ↓p_popz, ↓p_ins, ↓p_lenT, ↓p_lenl, ↓p_lenr, ↓p_set, ↓p_isN, ↓p_noN, ↓p_sort, ↓as_nil, ↓as_cons, ↓lb_cc, ↓lb_nc, ↓lb_cn, ↓lb_nn, ↓onE_some, ↓onE_none, ↓at_lit, ↓at_last, ↓q_ss, ↓q_ii, ↓q_bb, ↓q_tt, ↓q_ll, ↓q_vs, ↓q_vi, ↓q_vt, ↓q_nil, ↓q_nilc, ↓q_cnil, ↓q_cons, ↓q_any0, ↓q_any1, ↓q_anyS, seqR, seqV, truthV, settle, settles, isNil, pre2, pre3, intOf, bindT, bindTs, permute, isV, wipeE, List.length_cons, List.length_nil, List.getElem?_cons_zero, List.getElem?_cons_succ, List.set_cons_zero, List.set_cons_succ, List.map_cons, List.map_nil, List.replicate, List.append, List.cons_append, List.nil_append, true_and, and_true, if_true, if_false, Bool.false_eq_true, Option.bind, Bool.not_true, Bool.not_false, Bool.true_and, Bool.false_and, Bool.and_true, Bool.and_false, Bool.or_true, Bool.or_false, Bool.true_or, Bool.false_or, lstAt, ownL, mutAt, dicAt, Option.map, Option.map_some, Option.map_none, List.getElem?_nil, keyOk, Bool.or_self, Bool.and_self, Nat.zero_le, Nat.reduceAdd, Nat.reduceSub, Nat.reduceLT, Nat.reduceLeDiff, Nat.reduceEqDiff, Nat.reduceBEq, beq_self_eq_true, Nat.zero_add, Nat.add_zero, List.length_map, top, List.length_append, List.all_cons, List.all_nil, nrR, Val.nr, Val.nrs, pureVal, and_self, List.filterMap_cons, List.filterMap_nil, List.getElem?_concat_length, List.length_set]
              exact fun _ => ⟨by simp [cut, cutIx], by simp [cut, cutIx], _, rfl, ⟨h0, h1, h2, y, p1, p2, p4, t, s, a0, a1, a2, sy, b1, b2, b3, b4, rfl⟩⟩
            · intro l3 hl3 ll3
              simp [STR] at ll1 ll2
              simp only [f0, ↓k_ok, ↓k_bad, ↓k_bind, ↓k_ite, ↓k_lift, ↓k_noX, ↓k_optT, ↓k_optF, ↓k_op2T, ↓k_op2F, ↓k_optCT, ↓k_optCF, ↓on_some, ↓on_none, ↓e_k, ↓e_g, ↓e_x, ↓e_tup, ↓e_lst, ↓e_op1, ↓e_op2, ↓e_op3, ↓e_sl, ↓e_and, ↓e_or, ↓e_not, ↓e_ite, ↓e_chain, ↓e_call, ↓e_nil, ↓e_cons, ↓e_dic, ↓e_comp, ↓s_skip, ↓s_seq, ↓s_asg, ↓s_ex, ↓s_ret, ↓s_retN, ↓s_brk, ↓s_cont, ↓s_ite, ↓s_fo, ↓g_tg, ↓g_sub, ↓r_run, ↓r_call, ↓r_pure, ↓p_eq, ↓p_ne, ↓p_lt, ↓p_le, ↓p_gt, ↓p_ge, ↓p_addI, ↓p_addS, ↓p_addT, ↓p_sub, ↓p_mul, ↓p_mod, ↓p_fdiv, ↓p_pow, ↓p_in, ↓p_notin, ↓p_ixT, ↓p_neg, ↓p_abs, ↓p_int, ↓p_intB, ↓p_lenS, ↓p_tuple, ↓p_list, ↓p_repr, ↓p_rev, ↓p_slT, ↓p_slr, ↓p_sll, ↓vb_ss, ↓p_addl, ↓p_addr, ↓p_ixl, ↓p_ixri, ↓p_ixrs, ↓p_app, ↓p_ext, ↓p_popa, ↓p_popz, ↓p_ins, ↓p_lenT, ↓p_lenl, ↓p_lenr, ↓p_set, ↓p_isN, ↓p_noN, ↓p_sort, ↓as_nil, ↓as_cons, ↓lb_cc, ↓lb_nc, ↓lb_cn, ↓lb_nn, ↓onE_some, ↓onE_none, ↓at_lit, ↓at_last, ↓q_ss, ↓q_ii, ↓q_bb, ↓q_tt, ↓q_ll, ↓q_vs, ↓q_vi, ↓q_vt, ↓q_nil, ↓q_nilc, ↓q_cnil, ↓q_cons, ↓q_any0, ↓q_any1, ↓q_anyS, seqR, seqV, truthV, settle, settles, isNil, pre2, pre3, intOf, bindT, bindTs, permute, isV, wipeE, List.length_cons, List.length_nil, List.getElem?_cons_zero, List.getElem?_cons_succ, List.set_cons_zero, List.set_cons_succ, List.map_cons, List.map_nil, List.replicate, List.append, List.cons_append, List.nil_append, true_and, and_true, if_true, if_false, Bool.false_eq_true, Option.bind, Bool.not_true, Bool.not_false, Bool.true_and, Bool.false_and, Bool.and_true, Bool.and_false, Bool.or_true, Bool.or_false, Bool.true_or, Bool.false_or, lstAt, ownL, mutAt, dicAt, Option.map, Option.map_some, Option.map_none, List.getElem?_nil, keyOk, Bool.or_self, Bool.and_self, Nat.zero_le, Nat.reduceAdd, Nat.reduceSub, Nat.reduceLT, Nat.reduceLeDiff, Nat.reduceEqDiff, Nat.reduceBEq, beq_self_eq_true, Nat.zero_add, Nat.add_zero, List.length_map, top, List.length_append, List.all_cons, List.all_nil, nrR, Val.nr, Val.nrs, pureVal, and_self, List.filterMap_cons, List.filterMap_nil, List.getElem?_concat_length, List.length_set]
              refine ⟨by omega, .inr (.inl trivial), _, _, _, rfl, set_self f0, (set_ne (by decide)).trans f1, ?_, by simp only [List.length_append]; omega⟩
              intro a ha
              simp only [List.mem_append] at ha
              rcases ha with (ha | ha) | ha
              · exact hf a ha
              · exact hl1 a ha
              · exact hl3 a ha
      · obtain ⟨rfl, rfl⟩ : x = .int 1 ∧ xs = [.int 2] := by simpa using hx
        have el0 := (List.getElem?_eq_some_iff.mp e0).1
        simp only [List.length_cons, List.length_nil] at hl
        refine ⟨_, rfl, ?_⟩
        simp only [hV, mV, watch, e0, e1, walk_l e1, ↓k_ok, ↓k_bad, ↓k_bind, ↓k_ite, ↓k_lift, ↓k_noX, ↓k_optT, ↓k_optF, ↓k_op2T, ↓k_op2F, ↓k_optCT, ↓k_optCF, ↓on_some, ↓on_none, ↓e_k, ↓e_g, ↓e_x, ↓e_tup, ↓e_lst, ↓e_op1, ↓e_op2, ↓e_op3, ↓e_sl, ↓e_and, ↓e_or, ↓e_not, ↓e_ite, ↓e_chain, ↓e_call, ↓e_nil, ↓e_cons, ↓e_dic, ↓e_comp, ↓s_skip, ↓s_seq, ↓s_asg, ↓s_ex, ↓s_ret, ↓s_retN, ↓s_brk, ↓s_cont, ↓s_ite, ↓s_fo, ↓g_tg, ↓g_sub, ↓r_run, ↓r_call, ↓r_pure, ↓p_eq, ↓p_ne, ↓p_lt, ↓p_le, ↓p_gt, ↓p_ge, ↓p_addI, ↓p_addS, ↓p_addT, ↓p_sub, ↓p_mul, ↓p_mod, ↓p_fdiv, ↓p_pow, ↓p_in, ↓p_notin, ↓p_ixT, ↓p_neg, ↓p_abs, ↓p_int, ↓p_intB, ↓p_lenS, ↓p_tuple, ↓p_list, ↓p_repr, ↓p_rev, ↓p_slT, ↓p_slr, ↓p_sll, ↓vb_ss, ↓p_addl, ↓p_addr, ↓p_ixl, ↓p_ixri, ↓p_ixrs, ↓p_app, ↓p_ext, ↓p_popa, ↓p_popz, ↓p_ins, ↓p_lenT, ↓p_lenl, ↓p_lenr, ↓p_set, ↓p_isN, ↓p_noN, ↓p_sort, ↓as_nil, ↓as_cons, ↓lb_cc, ↓lb_nc, ↓lb_cn, ↓lb_nn, ↓onE_some, ↓onE_none, ↓at_lit, ↓at_last, ↓q_ss, ↓q_ii, ↓q_bb, ↓q_tt, ↓q_ll, ↓q_vs, ↓q_vi, ↓q_vt, ↓q_nil, ↓q_nilc, ↓q_cnil, ↓q_cons, ↓q_any0, ↓q_any1, ↓q_anyS, seqR, seqV, truthV, settle, settles, isNil, pre2, pre3, intOf, bindT, bindTs, permute, isV, wipeE, List.length_cons, List.length_nil, List.getElem?_cons_zero, List.getElem?_cons_succ, List.set_cons_zero, List.set_cons_succ, List.map_cons, List.map_nil, List.replicate, List.append, List.cons_append, List.nil_append, true_and, and_true, if_true, if_false, Bool.false_eq_true, Option.bind, Bool.not_true, Bool.not_false, Bool.true_and, Bool.false_and, Bool.and_true, Bool.and_false, Bool.or_true, Bool.or_false, Bool.true_or, Bool.false_or, lstAt, ownL, mutAt, dicAt, Option.map, Option.map_some, Option.map_none, List.getElem?_nil, keyOk, Bool.or_self, Bool.and_self, Nat.zero_le, Nat.reduceAdd, Nat.reduceSub, Nat.reduceLT, Nat.reduceLeDiff, Nat.reduceEqDiff, Nat.reduceBEq, beq_self_eq_true, Nat.zero_add, Nat.add_zero, List.length_map, top, List.length_append, List.all_cons, List.all_nil, nrR, Val.nr, Val.nrs, pureVal, and_self, List.filterMap_cons, List.filterMap_nil, List.getElem?_concat_length, List.length_set]
        refine comp_pure isHM (stands_l e1) (by simp [STR, top]) ?_ ?_
        · intro x hx
          obtain ⟨y, sy, rfl⟩ := str_sd hx
          refine ⟨_, rfl, ?_⟩
          simp only [↓k_ok, ↓k_bad, ↓k_bind, ↓k_ite, ↓k_lift, ↓k_noX, ↓k_optT, ↓k_optF, ↓k_op2T, ↓k_op2F, ↓k_optCT, ↓k_optCF, ↓on_some, ↓on_none, ↓e_k, ↓e_g, ↓e_x, ↓e_tup, ↓e_lst, ↓e_op1, ↓e_op2, ↓e_op3, ↓e_sl, ↓e_and, ↓e_or, ↓e_not, ↓e_ite, ↓e_chain, ↓e_call, ↓e_nil, ↓e_cons, ↓e_dic, ↓e_comp, ↓s_skip, ↓s_seq, ↓s_asg, ↓s_ex, ↓s_ret, ↓s_retN, ↓s_brk, ↓s_cont, ↓s_ite, ↓s_fo, ↓g_tg, ↓g_sub, ↓r_run, ↓r_call, ↓r_pure, ↓p_eq, ↓p_ne, ↓p_lt, ↓p_le, ↓p_gt, ↓p_ge, ↓p_addI, ↓p_addS, ↓p_addT, ↓p_sub, ↓p_mul, ↓p_mod, ↓p_fdiv, ↓p_pow, ↓p_in, ↓p_notin, ↓p_ixT, ↓p_neg, ↓p_abs, ↓p_int, ↓p_intB, ↓p_lenS, ↓p_tuple, ↓p_list, ↓p_repr, ↓p_rev, ↓p_slT, ↓p_slr, ↓p_sll, ↓vb_ss, ↓p_addl, ↓p_addr, ↓p_ixl, ↓p_ixri, ↓p_ixrs, ↓p_app, ↓p_ext, ↓p_popa, ↓p_popz, ↓p_ins, ↓p_lenT, ↓p_lenl, ↓p_lenr, ↓p_set, ↓p_isN, ↓p_noN, ↓p_sort, ↓as_nil, ↓as_cons, ↓lb_cc, ↓lb_nc, ↓lb_cn, ↓lb_nn, ↓onE_some, ↓onE_none, ↓at_lit, ↓at_last, ↓q_ss, ↓q_ii, ↓q_bb, ↓q_tt, ↓q_ll, ↓q_vs, ↓q_vi, ↓q_vt, ↓q_nil, ↓q_nilc, ↓q_cnil, ↓q_cons, ↓q_any0, ↓q_any1, ↓q_anyS, seqR, seqV, truthV, settle, settles, isNil, pre2, pre3, intOf, bindT, bindTs, permute, isV, wipeE, List.length_cons, List.length_nil, List.getElem?_cons_zero, List.getElem?_cons_succ, List.set_cons_zero, List.set_cons_succ, List.map_cons, List.map_nil, List.replicate, List.append, List.cons_append, List.nil_append, true_and, and_true, if_true, if_false, Bool.false_eq_true, Option.bind, Bool.not_true, Bool.not_false, Bool.true_and, Bool.false_and, Bool.and_true, Bool.and_false, Bool.or_true, Bool.or_false, Bool.true_or, Bool.false_or, lstAt, ownL, mutAt, dicAt, Option.map, Option.map_some, Option.map_none, List.getElem?_nil, keyOk, Bool.or_self, Bool.and_self, Nat.zero_le, Nat.reduceAdd, Nat.reduceSub, Nat.reduceLT, Nat.reduceLeDiff, Nat.reduceEqDiff, Nat.reduceBEq, beq_self_eq_true, Nat.zero_add, Nat.add_zero, List.length_map, top, List.length_append, List.all_cons, List.all_nil, nrR, Val.nr, Val.nrs, pureVal, and_self, List.filterMap_cons, List.filterMap_nil, List.getElem?_concat_length, List.length_set]
          exact fun _ => ⟨by simp [cut, cutIx], by simp [cut, cutIx], _, rfl, ⟨h0, y, h2, p0, p1, p2, p4, t, s, a0, sy, a2, b0, b1, b2, b3, b4, rfl⟩⟩
        · intro l1 hl1 ll1
          have e0' : (st.set 0 (.lst (fd ++ l1)))[0]? = some (.lst (fd ++ l1)) := set_self e0
          have e1' : (st.set 0 (.lst (fd ++ l1)))[1]? = some (.lst STR) := (set_ne (by decide)).trans e1
          simp only [e0, walk_l e1', ↓k_ok, ↓k_bad, ↓k_bind, ↓k_ite, ↓k_lift, ↓k_noX, ↓k_optT, ↓k_optF, ↓k_op2T, ↓k_op2F, ↓k_optCT, ↓k_optCF, ↓on_some, ↓on_none, ↓e_k, ↓e_g, ↓e_x, ↓e_tup, ↓e_lst, ↓e_op1, ↓e_op2, ↓e_op3, ↓e_sl, ↓e_and, ↓e_or, ↓e_not, ↓e_ite, ↓e_chain, ↓e_call, ↓e_nil, ↓e_cons, ↓e_dic, ↓e_comp, ↓s_skip, ↓s_seq, ↓s_asg, ↓s_ex, ↓s_ret, ↓s_retN, ↓s_brk, ↓s_cont, ↓s_ite, ↓s_fo, ↓g_tg, ↓g_sub, ↓r_run, ↓r_call, ↓r_pure, ↓p_eq, ↓p_ne, ↓p_lt, ↓p_le, ↓p_gt, ↓p_ge, ↓p_addI, ↓p_addS, ↓p_addT, ↓p_sub, ↓p_mul, ↓p_mod, ↓p_fdiv, ↓p_pow, ↓p_in, ↓p_notin, ↓p_ixT, ↓p_neg, ↓p_abs, ↓p_int, ↓p_intB, ↓p_lenS, ↓p_tuple, ↓p_list, ↓p_repr, ↓p_rev, ↓p_slT, ↓p_slr, ↓p_sll, ↓vb_ss, ↓p_addl, ↓p_addr, ↓p_ixl, ↓p_ixri, ↓p_ixrs, ↓p_app, ↓p_ext, ↓p_popa, ↓p_popz, ↓p_ins, ↓p_lenT, ↓p_lenl, ↓p_lenr, ↓p_set, ↓p_isN, ↓p_noN, ↓p_sort, ↓as_nil, ↓as_cons, ↓lb_cc, ↓lb_nc, ↓lb_cn, ↓lb_nn, ↓onE_some, ↓onE_none, ↓at_lit, ↓at_last, ↓q_ss, ↓q_ii, ↓q_bb, ↓q_tt, ↓q_ll, ↓q_vs, ↓q_vi, ↓q_vt, ↓q_nil, ↓q_nilc, ↓q_cnil, ↓q_cons, ↓q_any0, ↓q_any1, ↓q_anyS, seqR, seqV, truthV, settle, settles, isNil, pre2, pre3, intOf, bindT, bindTs, permute, isV, wipeE, List.length_cons, List.length_nil, List.getElem?_cons_zero, List.getElem?_cons_succ, List.set_cons_zero, List.set_cons_succ, List.map_cons, List.map_nil, List.replicate, List.append, List.cons_append, List.nil_append, true_and, and_true, if_true, if_false, Bool.false_eq_true, Option.bind, Bool.not_true, Bool.not_false, Bool.true_and, Bool.false_and, Bool.and_true, Bool.and_false, Bool.or_true, Bool.or_false, Bool.true_or, Bool.false_or, lstAt, ownL, mutAt, dicAt, Option.map, Option.map_some, Option.map_none, List.getElem?_nil, keyOk, Bool.or_self, Bool.and_self, Nat.zero_le, Nat.reduceAdd, Nat.reduceSub, Nat.reduceLT, Nat.reduceLeDiff, Nat.reduceEqDiff, Nat.reduceBEq, beq_self_eq_true, Nat.zero_add, Nat.add_zero, List.length_map, top, List.length_append, List.all_cons, List.all_nil, nrR, Val.nr, Val.nrs, pureVal, and_self, List.filterMap_cons, List.filterMap_nil, List.getElem?_concat_length, List.length_set]
          generalize st.set 0 (.lst (fd ++ l1)) = st1 at e0' e1'
          refine ⟨by simp [STR] at ll1; omega, ?_⟩
          refine comp_pure (fun v => ∃ y, SD y ∧ v = .str y) (stands_l e1') (by simp [STR, top]) ?_ ?_
          · intro x hx
            obtain ⟨y, sy, rfl⟩ := str_sd hx
            refine ⟨_, rfl, ?_⟩
            simp only [↓k_ok, ↓k_bad, ↓k_bind, ↓k_ite, ↓k_lift, ↓k_noX, ↓k_optT, ↓k_optF, ↓k_op2T, ↓k_op2F, ↓k_optCT, ↓k_optCF, ↓on_some, ↓on_none, ↓e_k, ↓e_g, ↓e_x, ↓e_tup, ↓e_lst, ↓e_op1, ↓e_op2, ↓e_op3, ↓e_sl, ↓e_and, ↓e_or, ↓e_not, ↓e_ite, ↓e_chain, ↓e_call, ↓e_nil, ↓e_cons, ↓e_dic, ↓e_comp, ↓s_skip, ↓s_seq, ↓s_asg, ↓s_ex, ↓s_ret, ↓s_retN, ↓s_brk, ↓s_cont, ↓s_ite, ↓s_fo, ↓g_tg, ↓g_sub, ↓r_run, ↓r_call, ↓r_pure, ↓p_eq, ↓p_ne, ↓p_lt, ↓p_le, ↓p_gt, ↓p_ge, ↓p_addI, ↓p_addS, ↓p_addT, ↓p_sub, ↓p_mul, ↓p_mod, ↓p_fdiv, ↓p_pow, ↓p_in, ↓p_notin, ↓p_ixT, ↓p_neg, ↓p_abs, ↓p_int, ↓p_intB, ↓p_lenS, ↓p_tuple, ↓p_list, ↓p_repr, ↓p_rev, ↓p_slT, ↓p_slr, ↓p_sll, ↓vb_ss, ↓p_addl, ↓p_addr, ↓p_ixl, ↓p_ixri, ↓p_ixrs, ↓p_app, ↓p_ext, ↓p_popa, ↓p_popz, ↓p_ins, ↓p_lenT, ↓p_lenl, ↓p_lenr, ↓p_set, ↓p_isN, ↓p_noN, ↓p_sort, ↓as_nil, ↓as_cons, ↓lb_cc, ↓lb_nc, ↓lb_cn, ↓lb_nn, ↓onE_some, ↓onE_none, ↓at_lit, ↓at_last, ↓q_ss, ↓q_ii, ↓q_bb, ↓q_tt, ↓q_ll, ↓q_vs, ↓q_vi, ↓q_vt, ↓q_nil, ↓q_nilc, ↓q_cnil, ↓q_cons, ↓q_any0, ↓q_any1, ↓q_anyS, seqR, seqV, truthV, settle, settles, isNil, pre2, pre3, intOf, bindT, bindTs, permute, isV, wipeE, List.length_cons, List.length_nil, List.getElem?_cons_zero, List.getElem?_cons_succ, List.set_cons_zero, List.set_cons_succ, List.map_cons, List.map_nil, List.replicate, List.append, List.cons_append, List.nil_append, true_and, and_true, if_true, if_false, Bool.false_eq_true, Option.bind, Bool.not_true, Bool.not_false, Bool.true_and, Bool.false_and, Bool.and_true, Bool.and_false, Bool.or_true, Bool.or_false, Bool.true_or, Bool.false_or, lstAt, ownL, mutAt, dicAt, Option.map, Option.map_some, Option.map_none, List.getElem?_nil, keyOk, Bool.or_self, Bool.and_self, Nat.zero_le, Nat.reduceAdd, Nat.reduceSub, Nat.reduceLT, Nat.reduceLeDiff, Nat.reduceEqDiff, Nat.reduceBEq, beq_self_eq_true, Nat.zero_add, Nat.add_zero, List.length_map, top, List.length_append, List.all_cons, List.all_nil, nrR, Val.nr, Val.nrs, pureVal, and_self, List.filterMap_cons, List.filterMap_nil, List.getElem?_concat_length, List.length_set]
            exact fun _ => ⟨_, rfl, y, sy, rfl⟩
          · intro l2 hl2 ll2
            have n1 := (List.getElem?_eq_some_iff.mp e1').1
            have f0 : (st1 ++ [Mi.Obj.lst l2])[0]? = some (.lst (fd ++ l1)) := (List.getElem?_append_left (by omega)).trans e0'
            have f1 : (st1 ++ [Mi.Obj.lst l2])[1]? = some (.lst STR) := (List.getElem?_append_left n1).trans e1'
            have f2 : (st1 ++ [Mi.Obj.lst l2])[st1.length]? = some (.lst l2) := by rw [List.getElem?_concat_length]
            simp only [f0, walk_l f2, ↓k_ok, ↓k_bad, ↓k_bind, ↓k_ite, ↓k_lift, ↓k_noX, ↓k_optT, ↓k_optF, ↓k_op2T, ↓k_op2F, ↓k_optCT, ↓k_optCF, ↓on_some, ↓on_none, ↓e_k, ↓e_g, ↓e_x, ↓e_tup, ↓e_lst, ↓e_op1, ↓e_op2, ↓e_op3, ↓e_sl, ↓e_and, ↓e_or, ↓e_not, ↓e_ite, ↓e_chain, ↓e_call, ↓e_nil, ↓e_cons, ↓e_dic, ↓e_comp, ↓s_skip, ↓s_seq, ↓s_asg, ↓s_ex, ↓s_ret, ↓s_retN, ↓s_brk, ↓s_cont, ↓s_ite, ↓s_fo, ↓g_tg, ↓g_sub, ↓r_run, ↓r_call, ↓r_pure, ↓p_eq, ↓p_ne, ↓p_lt, ↓p_le, ↓p_gt, ↓p_ge, ↓p_addI, ↓p_addS, ↓p_addT, ↓p_sub, ↓p_mul, ↓p_mod, ↓p_fdiv, ↓p_pow, ↓p_in, ↓p_notin, ↓p_ixT, ↓p_neg, ↓p_abs, ↓p_int, ↓p_intB, ↓p_lenS, ↓p_tuple, ↓p_list, ↓p_repr, ↓p_rev, ↓p_slT, ↓p_slr, ↓p_sll, ↓vb_ss, ↓p_addl, ↓p_addr, ↓p_ixl, ↓p_ixri, ↓p_ixrs, ↓p_app, ↓p_ext, ↓p_popa, ↓p_popz, ↓p_ins, ↓p_lenT, ↓p_lenl, ↓p_lenr, ↓p_set, ↓p_isN, ↓p_noN, ↓p_sort, ↓as_nil, ↓as_cons, ↓lb_cc, ↓lb_nc, ↓lb_cn, ↓lb_nn, ↓onE_some, ↓onE_none, ↓at_lit, ↓at_last, ↓q_ss, ↓q_ii, ↓q_bb, ↓q_tt, ↓q_ll, ↓q_vs, ↓q_vi, ↓q_vt, ↓q_nil, ↓q_nilc, ↓q_cnil, ↓q_cons, ↓q_any0, ↓q_any1, ↓q_anyS, seqR, seqV, truthV, settle, settles, isNil, pre2, pre3, intOf, bindT, bindTs, permute, isV, wipeE, List.length_cons, List.length_nil, List.getElem?_cons_zero, List.getElem?_cons_succ, List.set_cons_zero, List.set_cons_succ, List.map_cons, List.map_nil, List.replicate, List.append, List.cons_append, List.nil_append, true_and, and_true, if_true, if_false, Bool.false_eq_true, Option.bind, Bool.not_true, Bool.not_false, Bool.true_and, Bool.false_and, Bool.and_true, Bool.and_false, Bool.or_true, Bool.or_false, Bool.true_or, Bool.false_or, lstAt, ownL, mutAt, dicAt, Option.map, Option.map_some, Option.map_none, List.getElem?_nil, keyOk, Bool.or_self, Bool.and_self, Nat.zero_le, Nat.reduceAdd, Nat.reduceSub, Nat.reduceLT, Nat.reduceLeDiff, Nat.reduceEqDiff, Nat.reduceBEq, beq_self_eq_true, Nat.zero_add, Nat.add_zero, List.length_map, top, List.length_append, List.all_cons, List.all_nil, nrR, Val.nr, Val.nrs, pureVal, and_self, List.filterMap_cons, List.filterMap_nil, List.getElem?_concat_length, List.length_set]
            generalize st1 ++ [Mi.Obj.lst l2] = st2 at f0 f1 f2
            refine comp_pure isHM (stands_l f2) (by simp [STR] at ll2; simp only [top]; omega) ?_ ?_
            · intro x hx
              obtain ⟨y, sy, rfl⟩ := hl2 x hx
              refine ⟨_, rfl, ?_⟩
              simp only [↓k_ok, ↓k_bad, ↓k_bind, ↓k_ite, ↓k_lift, ↓k_noX, ↓k_optT, ↓k_optF, ↓k_op2T, ↓k_op2F, ↓k_optCT, ↓k_optCF, ↓on_some, ↓on_none, ↓e_k, ↓e_g, ↓e_x, ↓e_tup, ↓e_lst, ↓e_op1, ↓e_op2, ↓e_op3, ↓e_sl, ↓e_and, ↓e_or, ↓e_not, ↓e_ite, ↓e_chain, ↓e_call, ↓e_nil, ↓e_cons, ↓e_dic, ↓e_comp, ↓s_skip, ↓s_seq, ↓s_asg, ↓s_ex, ↓s_ret, ↓s_retN, ↓s_brk, ↓s_cont, ↓s_ite, ↓s_fo, ↓g_tg, ↓g_sub, ↓r_run, ↓r_call, ↓r_pure, ↓p_eq, ↓p_ne, ↓p_lt, ↓p_le, ↓p_gt, ↓p_ge, ↓p_addI, ↓p_addS, ↓p_addT, ↓p_sub, ↓p_mul, ↓p_mod, ↓p_fdiv, ↓p_pow, ↓p_in, ↓p_notin, ↓p_ixT, ↓p_neg, ↓p_abs, ↓p_int, ↓p_intB, ↓p_lenS, ↓p_tuple, ↓p_list, ↓p_repr, ↓p_rev, ↓p_slT, ↓p_slr, ↓p_sll, ↓vb_ss, ↓p_addl, ↓p_addr, ↓p_ixl, ↓p_ixri, ↓p_ixrs, ↓p_app, ↓p_ext, ↓p_popa, ↓p_popz, ↓p_ins, ↓p_lenT, ↓p_lenl, ↓p_lenr, ↓p_set, ↓p_isN, ↓p_noN, ↓p_sort, ↓as_nil, ↓as_cons, ↓lb_cc, ↓lb_nc, ↓lb_cn, ↓lb_nn, ↓onE_some, ↓onE_none, ↓at_lit, ↓at_last, ↓q_ss, ↓q_ii, ↓q_bb, ↓q_tt, ↓q_ll, ↓q_vs, ↓q_vi, ↓q_vt, ↓q_nil, ↓q_nilc, ↓q_cnil, ↓q_cons, ↓q_any0, ↓q_any1, ↓q_anyS, seqR, seqV, truthV, settle, settles, isNil, pre2, pre3, intOf, bindT, bindTs, permute, isV, wipeE, List.length_cons, List.length_nil, List.getElem?_cons_zero, List.getElem?_cons_succ, List.set_cons_zero, List.set_cons_succ, List.map_cons, List.map_nil, List.replicate, List.append, List.cons_append, List.nil_append, true_and, and_true, if_true, if_false, Bool.false_eq_true, Option.bind, Bool.not_true, Bool.not_false, Bool.true_and, Bool.false_and, Bool.and_true, Bool.and_false, Bool.or_true, Bool.or_false, Bool.true_or, Bool.false_or, lstAt, ownL, mutAt, dicAt, Option.map, Option.map_some, Option.map_none, List.getElem?_nil, keyOk, Bool.or_self, Bool.and_self, Nat.zero_le, Nat.reduceAdd, Nat.reduceSub, Nat.reduceLT, Nat.reduceLeDiff, Nat.reduceEqDiff, Nat.reduceBEq, beq_self_eq_true, Nat.zero_add, Nat.add_zero, List.length_map, top, List.length_append, List.all_cons, List.all_nil, nrR, Val.nr, Val.nrs, pureVal, and_self, List.filterMap_cons, List.filterMap_nil, List.getElem?_concat_length, List.length_set]
              exact fun _ => ⟨by simp [cut, cutIx], by simp [cut, cutIx], _, rfl, ⟨h0, h1, h2, p0, y, p2, p4, t, s, a0, a1, a2, b0, sy, b2, b3, b4, rfl⟩⟩
            · intro l3 hl3 ll3
              simp [STR] at ll1 ll2
              simp only [f0, ↓k_ok, ↓k_bad, ↓k_bind, ↓k_ite, ↓k_lift, ↓k_noX, ↓k_optT, ↓k_optF, ↓k_op2T, ↓k_op2F, ↓k_optCT, ↓k_optCF, ↓on_some, ↓on_none, ↓e_k, ↓e_g, ↓e_x, ↓e_tup, ↓e_lst, ↓e_op1, ↓e_op2, ↓e_op3, ↓e_sl, ↓e_and, ↓e_or, ↓e_not, ↓e_ite, ↓e_chain, ↓e_call, ↓e_nil, ↓e_cons, ↓e_dic, ↓e_comp, ↓s_skip, ↓s_seq, ↓s_asg, ↓s_ex, ↓s_ret, ↓s_retN, ↓s_brk, ↓s_cont, ↓s_ite, ↓s_fo, ↓g_tg, ↓g_sub, ↓r_run, ↓r_call, ↓r_pure, ↓p_eq, ↓p_ne, ↓p_lt, ↓p_le, ↓p_gt, ↓p_ge, ↓p_addI, ↓p_addS, ↓p_addT, ↓p_sub, ↓p_mul, ↓p_mod, ↓p_fdiv, ↓p_pow, ↓p_in, ↓p_notin, ↓p_ixT, ↓p_neg, ↓p_abs, ↓p_int, ↓p_intB, ↓p_lenS, ↓p_tuple, ↓p_list, ↓p_repr, ↓p_rev, ↓p_slT, ↓p_slr, ↓p_sll, ↓vb_ss, ↓p_addl, ↓p_addr, ↓p_ixl, ↓p_ixri, ↓p_ixrs, ↓p_app, ↓p_ext, ↓p_popa, ↓p_popz, ↓p_ins, ↓p_lenT, ↓p_lenl, ↓p_lenr, ↓p_set, ↓p_isN, ↓p_noN, ↓p_sort, ↓as_nil, ↓as_cons, ↓lb_cc, ↓lb_nc, ↓lb_cn, ↓lb_nn, ↓onE_some, ↓onE_none, ↓at_lit, ↓at_last, ↓q_ss, ↓q_ii, ↓q_bb, ↓q_tt, ↓q_ll, ↓q_vs, ↓q_vi, ↓q_vt, ↓q_nil, ↓q_nilc, ↓q_cnil, ↓q_cons, ↓q_any0, ↓q_any1, ↓q_anyS, seqR, seqV, truthV, settle, settles, isNil, pre2, pre3, intOf, bindT, bindTs, permute, isV, wipeE, List.length_cons, List.length_nil, List.getElem?_cons_zero, List.getElem?_cons_succ, List.set_cons_zero, List.set_cons_succ, List.map_cons, List.map_nil, List.replicate, List.append, List.cons_append, List.nil_append, true_and, and_true, if_true, if_false, Bool.false_eq_true, Option.bind, Bool.not_true, Bool.not_false, Bool.true_and, Bool.false_and, Bool.and_true, Bool.and_false, Bool.or_true, Bool.or_false, Bool.true_or, Bool.false_or, lstAt, ownL, mutAt, dicAt, Option.map, Option.map_some, Option.map_none, List.getElem?_nil, keyOk, Bool.or_self, Bool.and_self, Nat.zero_le, Nat.reduceAdd, Nat.reduceSub, Nat.reduceLT, Nat.reduceLeDiff, Nat.reduceEqDiff, Nat.reduceBEq, beq_self_eq_true, Nat.zero_add, Nat.add_zero, List.length_map, top, List.length_append, List.all_cons, List.all_nil, nrR, Val.nr, Val.nrs, pureVal, and_self, List.filterMap_cons, List.filterMap_nil, List.getElem?_concat_length, List.length_set]
              refine ⟨by omega, .inr (.inr (.inl trivial)), _, _, _, rfl, set_self f0, (set_ne (by decide)).trans f1, ?_, by simp only [List.length_append]; omega⟩
              intro a ha
              simp only [List.mem_append] at ha
              rcases ha with (ha | ha) | ha
              · exact hf a ha
              · exact hl1 a ha
              · exact hl3 a ha
      · obtain ⟨rfl, rfl⟩ : x = .int 2 ∧ xs = [] := by simpa using hx
        have el0 := (List.getElem?_eq_some_iff.mp e0).1
        simp only [List.length_cons, List.length_nil] at hl
        refine ⟨_, rfl, ?_⟩
        simp only [hV, mV, watch, e0, e1, walk_l e1, ↓k_ok, ↓k_bad, ↓k_bind, ↓k_ite, ↓k_lift, ↓k_noX, ↓k_optT, ↓k_optF, ↓k_op2T, ↓k_op2F, ↓k_optCT, ↓k_optCF, ↓on_some, ↓on_none, ↓e_k, ↓e_g, ↓e_x, ↓e_tup, ↓e_lst, ↓e_op1, ↓e_op2, ↓e_op3, ↓e_sl, ↓e_and, ↓e_or, ↓e_not, ↓e_ite, ↓e_chain, ↓e_call, ↓e_nil, ↓e_cons, ↓e_dic, ↓e_comp, ↓s_skip, ↓s_seq, ↓s_asg, ↓s_ex, ↓s_ret, ↓s_retN, ↓s_brk, ↓s_cont, ↓s_ite, ↓s_fo, ↓g_tg, ↓g_sub, ↓r_run, ↓r_call, ↓r_pure, ↓p_eq, ↓p_ne, ↓p_lt, ↓p_le, ↓p_gt, ↓p_ge, ↓p_addI, ↓p_addS, ↓p_addT, ↓p_sub, ↓p_mul, ↓p_mod, ↓p_fdiv, ↓p_pow, ↓p_in, ↓p_notin, ↓p_ixT, ↓p_neg, ↓p_abs, ↓p_int, ↓p_intB, ↓p_lenS, ↓p_tuple, ↓p_list, ↓p_repr, ↓p_rev, ↓p_slT, ↓p_slr, ↓p_sll, ↓vb_ss, ↓p_addl, ↓p_addr, ↓p_ixl, ↓p_ixri, ↓p_ixrs, ↓p_app, ↓p_ext, ↓p_popa, ↓p_popz, ↓p_ins, ↓p_lenT, ↓p_lenl, ↓p_lenr, ↓p_set, ↓p_isN, ↓p_noN, ↓p_sort, ↓as_nil, ↓as_cons, ↓lb_cc, ↓lb_nc, ↓lb_cn, ↓lb_nn, ↓onE_some, ↓onE_none, ↓at_lit, ↓at_last, ↓q_ss, ↓q_ii, ↓q_bb, ↓q_tt, ↓q_ll, ↓q_vs, ↓q_vi, ↓q_vt, ↓q_nil, ↓q_nilc, ↓q_cnil, ↓q_cons, ↓q_any0, ↓q_any1, ↓q_anyS, seqR, seqV, truthV, settle, settles, isNil, pre2, pre3, intOf, bindT, bindTs, permute, isV, wipeE, List.length_cons, List.length_nil, List.getElem?_cons_zero, List.getElem?_cons_succ, List.set_cons_zero, List.set_cons_succ, List.map_cons, List.map_nil, List.replicate, List.append, List.cons_append, List.nil_append, true_and, and_true, if_true, if_false, Bool.false_eq_true, Option.bind, Bool.not_true, Bool.not_false, Bool.true_and, Bool.false_and, Bool.and_true, Bool.and_false, Bool.or_true, Bool.or_false, Bool.true_or, Bool.false_or, lstAt, ownL, mutAt, dicAt, Option.map, Option.map_some, Option.map_none, List.getElem?_nil, keyOk, Bool.or_self, Bool.and_self, Nat.zero_le, Nat.reduceAdd, Nat.reduceSub, Nat.reduceLT, Nat.reduceLeDiff, Nat.reduceEqDiff, Nat.reduceBEq, beq_self_eq_true, Nat.zero_add, Nat.add_zero, List.length_map, top, List.length_append, List.all_cons, List.all_nil, nrR, Val.nr, Val.nrs, pureVal, and_self, List.filterMap_cons, List.filterMap_nil, List.getElem?_concat_length, List.length_set]
        refine comp_pure isHM (stands_l e1) (by simp [STR, top]) ?_ ?_
        · intro x hx
          obtain ⟨y, sy, rfl⟩ := str_sd hx
          refine ⟨_, rfl, ?_⟩
          simp only [↓k_ok, ↓k_bad, ↓k_bind, ↓k_ite, ↓k_lift, ↓k_noX, ↓k_optT, ↓k_optF, ↓k_op2T, ↓k_op2F, ↓k_optCT, ↓k_optCF, ↓on_some, ↓on_none, ↓e_k, ↓e_g, ↓e_x, ↓e_tup, ↓e_lst, ↓e_op1, ↓e_op2, ↓e_op3, ↓e_sl, ↓e_and, ↓e_or, ↓e_not, ↓e_ite, ↓e_chain, ↓e_call, ↓e_nil, ↓e_cons, ↓e_dic, ↓e_comp, ↓s_skip, ↓s_seq, ↓s_asg, ↓s_ex, ↓s_ret, ↓s_retN, ↓s_brk, ↓s_cont, ↓s_ite, ↓s_fo, ↓g_tg, ↓g_sub, ↓r_run, ↓r_call, ↓r_pure, ↓p_eq, ↓p_ne, ↓p_lt, ↓p_le, ↓p_gt, ↓p_ge, ↓p_addI, ↓p_addS, ↓p_addT, ↓p_sub, ↓p_mul, ↓p_mod, ↓p_fdiv, ↓p_pow, ↓p_in, ↓p_notin, ↓p_ixT, ↓p_neg, ↓p_abs, ↓p_int, ↓p_intB, ↓p_lenS, ↓p_tuple, ↓p_list, ↓p_repr, ↓p_rev, ↓p_slT, ↓p_slr, ↓p_sll, ↓vb_ss, ↓p_addl, ↓p_addr, ↓p_ixl, ↓p_ixri, ↓p_ixrs, ↓p_app, ↓p_ext, ↓p_popa, ↓p_popz, ↓p_ins, ↓p_lenT, ↓p_lenl, ↓p_lenr, ↓p_set, ↓p_isN, ↓p_noN, ↓p_sort, ↓as_nil, ↓as_cons, ↓lb_cc, ↓lb_nc, ↓lb_cn, ↓lb_nn, ↓onE_some, ↓onE_none, ↓at_lit, ↓at_last, ↓q_ss, ↓q_ii, ↓q_bb, ↓q_tt, ↓q_ll, ↓q_vs, ↓q_vi, ↓q_vt, ↓q_nil, ↓q_nilc, ↓q_cnil, ↓q_cons, ↓q_any0, ↓q_any1, ↓q_anyS, seqR, seqV, truthV, settle, settles, isNil, pre2, pre3, intOf, bindT, bindTs, permute, isV, wipeE, List.length_cons, List.length_nil, List.getElem?_cons_zero, List.getElem?_cons_succ, List.set_cons_zero, List.set_cons_succ, List.map_cons, List.map_nil, List.replicate, List.append, List.cons_append, List.nil_append, true_and, and_true, if_true, if_false, Bool.false_eq_true, Option.bind, Bool.not_true, Bool.not_false, Bool.true_and, Bool.false_and, Bool.and_true, Bool.and_false, Bool.or_true, Bool.or_false, Bool.true_or, Bool.false_or, lstAt, ownL, mutAt, dicAt, Option.map, Option.map_some, Option.map_none, List.getElem?_nil, keyOk, Bool.or_self, Bool.and_self, Nat.zero_le, Nat.reduceAdd, Nat.reduceSub, Nat.reduceLT, Nat.reduceLeDiff, Nat.reduceEqDiff, Nat.reduceBEq, beq_self_eq_true, Nat.zero_add, Nat.add_zero, List.length_map, top, List.length_append, List.all_cons, List.all_nil, nrR, Val.nr, Val.nrs, pureVal, and_self, List.filterMap_cons, List.filterMap_nil, List.getElem?_concat_length, List.length_set]
          exact fun _ => ⟨by simp [cut, cutIx], by simp [cut, cutIx], _, rfl, ⟨h0, h1, y, p0, p1, p2, p4, t, s, a0, a1, sy, b0, b1, b2, b3, b4, rfl⟩⟩
        · intro l1 hl1 ll1
          have e0' : (st.set 0 (.lst (fd ++ l1)))[0]? = some (.lst (fd ++ l1)) := set_self e0
          have e1' : (st.set 0 (.lst (fd ++ l1)))[1]? = some (.lst STR) := (set_ne (by decide)).trans e1
          simp only [e0, walk_l e1', ↓k_ok, ↓k_bad, ↓k_bind, ↓k_ite, ↓k_lift, ↓k_noX, ↓k_optT, ↓k_optF, ↓k_op2T, ↓k_op2F, ↓k_optCT, ↓k_optCF, ↓on_some, ↓on_none, ↓e_k, ↓e_g, ↓e_x, ↓e_tup, ↓e_lst, ↓e_op1, ↓e_op2, ↓e_op3, ↓e_sl, ↓e_and, ↓e_or, ↓e_not, ↓e_ite, ↓e_chain, ↓e_call, ↓e_nil, ↓e_cons, ↓e_dic, ↓e_comp, ↓s_skip, ↓s_seq, ↓s_asg, ↓s_ex, ↓s_ret, ↓s_retN, ↓s_brk, ↓s_cont, ↓s_ite, ↓s_fo, ↓g_tg, ↓g_sub, ↓r_run, ↓r_call, ↓r_pure, ↓p_eq, ↓p_ne, ↓p_lt, ↓p_le, ↓p_gt, ↓p_ge, ↓p_addI, ↓p_addS, ↓p_addT, ↓p_sub, ↓p_mul, ↓p_mod, ↓p_fdiv, ↓p_pow, ↓p_in, ↓p_notin, ↓p_ixT, ↓p_neg, ↓p_abs, ↓p_int, ↓p_intB, ↓p_lenS, ↓p_tuple, ↓p_list, ↓p_repr, ↓p_rev, ↓p_slT, ↓p_slr, ↓p_sll, ↓vb_ss, ↓p_addl, ↓p_addr, ↓p_ixl, ↓p_ixri, ↓p_ixrs, ↓p_app, ↓p_ext, ↓p_popa, ↓p_popz, ↓p_ins, ↓p_lenT, ↓p_lenl, ↓p_lenr, ↓p_set, ↓p_isN, ↓p_noN, ↓p_sort, ↓as_nil, ↓as_cons, ↓lb_cc, ↓lb_nc, ↓lb_cn, ↓lb_nn, ↓onE_some, ↓onE_none, ↓at_lit, ↓at_last, ↓q_ss, ↓q_ii, ↓q_bb, ↓q_tt, ↓q_ll, ↓q_vs, ↓q_vi, ↓q_vt, ↓q_nil, ↓q_nilc, ↓q_cnil, ↓q_cons, ↓q_any0, ↓q_any1, ↓q_anyS, seqR, seqV, truthV, settle, settles, isNil, pre2, pre3, intOf, bindT, bindTs, permute, isV, wipeE, List.length_cons, List.length_nil, List.getElem?_cons_zero, List.getElem?_cons_succ, List.set_cons_zero, List.set_cons_succ, List.map_cons, List.map_nil, List.replicate, List.append, List.cons_append, List.nil_append, true_and, and_true, if_true, if_false, Bool.false_eq_true, Option.bind, Bool.not_true, Bool.not_false, Bool.true_and, Bool.false_and, Bool.and_true, Bool.and_false, Bool.or_true, Bool.or_false, Bool.true_or, Bool.false_or, lstAt, ownL, mutAt, dicAt, Option.map, Option.map_some, Option.map_none, List.getElem?_nil, keyOk, Bool.or_self, Bool.and_self, Nat.zero_le, Nat.reduceAdd, Nat.reduceSub, Nat.reduceLT, Nat.reduceLeDiff, Nat.reduceEqDiff, Nat.reduceBEq, beq_self_eq_true, Nat.zero_add, Nat.add_zero, List.length_map, top, List.length_append, List.all_cons, List.all_nil, nrR, Val.nr, Val.nrs, pureVal, and_self, List.filterMap_cons, List.filterMap_nil, List.getElem?_concat_length, List.length_set]
          generalize st.set 0 (.lst (fd ++ l1)) = st1 at e0' e1'
          refine ⟨by simp [STR] at ll1; omega, ?_⟩
          refine comp_pure (fun v => ∃ y, SD y ∧ v = .str y) (stands_l e1') (by simp [STR, top]) ?_ ?_
          · intro x hx
            obtain ⟨y, sy, rfl⟩ := str_sd hx
            refine ⟨_, rfl, ?_⟩
            simp only [↓k_ok, ↓k_bad, ↓k_bind, ↓k_ite, ↓k_lift, ↓k_noX, ↓k_optT, ↓k_optF, ↓k_op2T, ↓k_op2F, ↓k_optCT, ↓k_optCF, ↓on_some, ↓on_none, ↓e_k, ↓e_g, ↓e_x, ↓e_tup, ↓e_lst, ↓e_op1, ↓e_op2, ↓e_op3, ↓e_sl, ↓e_and, ↓e_or, ↓e_not, ↓e_ite, ↓e_chain, ↓e_call, ↓e_nil, ↓e_cons, ↓e_dic, ↓e_comp, ↓s_skip, ↓s_seq, ↓s_asg, ↓s_ex, ↓s_ret, ↓s_retN, ↓s_brk, ↓s_cont, ↓s_ite, ↓s_fo, ↓g_tg, ↓g_sub, ↓r_run, ↓r_call, ↓r_pure, ↓p_eq, ↓p_ne, ↓p_lt, ↓p_le, ↓p_gt, ↓p_ge, ↓p_addI, ↓p_addS, ↓p_addT, ↓p_sub, ↓p_mul, ↓p_mod, ↓p_fdiv, ↓p_pow, ↓p_in, ↓p_notin, ↓p_ixT, ↓p_neg, ↓p_abs, ↓p_int, ↓p_intB, ↓p_lenS, ↓p_tuple, ↓p_list, ↓p_repr, ↓p_rev, ↓p_slT, ↓p_slr, ↓p_sll, ↓vb_ss, ↓p_addl, ↓p_addr, ↓p_ixl, ↓p_ixri, ↓p_ixrs, ↓p_app, ↓p_ext, ↓p_popa, ↓p_popz, ↓p_ins, ↓p_lenT, ↓p_lenl, ↓p_lenr, ↓p_set, ↓p_isN, ↓p_noN, ↓p_sort, ↓as_nil, ↓as_cons, ↓lb_cc, ↓lb_nc, ↓lb_cn, ↓lb_nn, ↓onE_some, ↓onE_none, ↓at_lit, ↓at_last, ↓q_ss, ↓q_ii, ↓q_bb, ↓q_tt, ↓q_ll, ↓q_vs, ↓q_vi, ↓q_vt, ↓q_nil, ↓q_nilc, ↓q_cnil, ↓q_cons, ↓q_any0, ↓q_any1, ↓q_anyS, seqR, seqV, truthV, settle, settles, isNil, pre2, pre3, intOf, bindT, bindTs, permute, isV, wipeE, List.length_cons, List.length_nil, List.getElem?_cons_zero, List.getElem?_cons_succ, List.set_cons_zero, List.set_cons_succ, List.map_cons, List.map_nil, List.replicate, List.append, List.cons_append, List.nil_append, true_and, and_true, if_true, if_false, Bool.false_eq_true, Option.bind, Bool.not_true, Bool.not_false, Bool.true_and, Bool.false_and, Bool.and_true, Bool.and_false, Bool.or_true, Bool.or_false, Bool.true_or, Bool.false_or, lstAt, ownL, mutAt, dicAt, Option.map, Option.map_some, Option.map_none, List.getElem?_nil, keyOk, Bool.or_self, Bool.and_self, Nat.zero_le, Nat.reduceAdd, Nat.reduceSub, Nat.reduceLT, Nat.reduceLeDiff, Nat.reduceEqDiff, Nat.reduceBEq, beq_self_eq_true, Nat.zero_add, Nat.add_zero, List.length_map, top, List.length_append, List.all_cons, List.all_nil, nrR, Val.nr, Val.nrs, pureVal, and_self, List.filterMap_cons, List.filterMap_nil, List.getElem?_concat_length, List.length_set]
            exact fun _ => ⟨_, rfl, y, sy, rfl⟩
          · intro l2 hl2 ll2
            have n1 := (List.getElem?_eq_some_iff.mp e1').1
            have f0 : (st1 ++ [Mi.Obj.lst l2])[0]? = some (.lst (fd ++ l1)) := (List.getElem?_append_left (by omega)).trans e0'
            have f1 : (st1 ++ [Mi.Obj.lst l2])[1]? = some (.lst STR) := (List.getElem?_append_left n1).trans e1'
            have f2 : (st1 ++ [Mi.Obj.lst l2])[st1.length]? = some (.lst l2) := by rw [List.getElem?_concat_length]
            simp only [f0, walk_l f2, ↓k_ok, ↓k_bad, ↓k_bind, ↓k_ite, ↓k_lift, ↓k_noX, ↓k_optT, ↓k_optF, ↓k_op2T, ↓k_op2F, ↓k_optCT, ↓k_optCF, ↓on_some, ↓on_none, ↓e_k, ↓e_g, ↓e_x, ↓e_tup, ↓e_lst, ↓e_op1, ↓e_op2, ↓e_op3, ↓e_sl, ↓e_and, ↓e_or, ↓e_not, ↓e_ite, ↓e_chain, ↓e_call, ↓e_nil, ↓e_cons, ↓e_dic, ↓e_comp, ↓s_skip, ↓s_seq, ↓s_asg, ↓s_ex, ↓s_ret, ↓s_retN, ↓s_brk, ↓s_cont, ↓s_ite, ↓s_fo, ↓g_tg, ↓g_sub, ↓r_run, ↓r_call, ↓r_pure, ↓p_eq, ↓p_ne, ↓p_lt, ↓p_le, ↓p_gt, ↓p_ge, ↓p_addI, ↓p_addS, ↓p_addT, ↓p_sub, ↓p_mul, ↓p_mod, ↓p_fdiv, ↓p_pow, ↓p_in, ↓p_notin, ↓p_ixT, ↓p_neg, ↓p_abs, ↓p_int, ↓p_intB, ↓p_lenS, ↓p_tuple, ↓p_list, ↓p_repr, ↓p_rev, ↓p_slT, ↓p_slr, ↓p_sll, ↓vb_ss, ↓p_addl, ↓p_addr, ↓p_ixl, ↓p_ixri, ↓p_ixrs, ↓p_app, ↓p_ext, ↓p_popa, ↓p_popz, ↓p_ins, ↓p_lenT, ↓p_lenl, ↓p_lenr, ↓p_set, ↓p_isN, ↓p_noN, ↓p_sort, ↓as_nil, ↓as_cons, ↓lb_cc, ↓lb_nc, ↓lb_cn, ↓lb_nn, ↓onE_some, ↓onE_none, ↓at_lit, ↓at_last, ↓q_ss, ↓q_ii, ↓q_bb, ↓q_tt, ↓q_ll, ↓q_vs, ↓q_vi, ↓q_vt, ↓q_nil, ↓q_nilc, ↓q_cnil, ↓q_cons, ↓q_any0, ↓q_any1, ↓q_anyS, seqR, seqV, truthV, settle, settles, isNil, pre2, pre3, intOf, bindT, bindTs, permute, isV, wipeE, List.length_cons, List.length_nil, List.getElem?_cons_zero, List.getElem?_cons_succ, List.set_cons_zero, List.set_cons_succ, List.map_cons, List.map_nil, List.replicate, List.append, List.cons_append, List.nil_append, true_and, and_true, if_true, if_false, Bool.false_eq_true, Option.bind, Bool.not_true, Bool.not_false, Bool.true_and, Bool.false_and, Bool.and_true, Bool.and_false, Bool.or_true, Bool.or_false, Bool.true_or, Bool.false_or, lstAt, ownL, mutAt, dicAt, Option.map, Option.map_some, Option.map_none, List.getElem?_nil, keyOk, Bool.or_self, Bool.and_self, Nat.zero_le, Nat.reduceAdd, Nat.reduceSub, Nat.reduceLT, Nat.reduceLeDiff, Nat.reduceEqDiff, Nat.reduceBEq, beq_self_eq_true, Nat.zero_add, Nat.add_zero, List.length_map, top, List.length_append, List.all_cons, List.all_nil, nrR, Val.nr, Val.nrs, pureVal, and_self, List.filterMap_cons, List.filterMap_nil, List.getElem?_concat_length, List.length_set]
            generalize st1 ++ [Mi.Obj.lst l2] = st2 at f0 f1 f2
            refine comp_pure isHM (stands_l f2) (by simp [STR] at ll2; simp only [top]; omega) ?_ ?_
            · intro x hx
              obtain ⟨y, sy, rfl⟩ := hl2 x hx
              refine ⟨_, rfl, ?_⟩
              simp only [↓k_ok, ↓k_bad, ↓k_bind, ↓k_ite, ↓k_lift, ↓k_noX, ↓k_optT, ↓k_optF, ↓k_op2T, ↓k_op2F, ↓k_optCT, ↓k_optCF, ↓on_some, ↓on_none, ↓e_k, ↓e_g, ↓e_x, ↓e_tup, ↓e_lst, ↓e_op1, ↓e_op2, ↓e_op3, ↓e_sl, ↓e_and, ↓e_or, ↓e_not, ↓e_ite, ↓e_chain, ↓e_call, ↓e_nil, ↓e_cons, ↓e_dic, ↓e_comp, ↓s_skip, ↓s_seq, ↓s_asg, ↓s_ex, ↓s_ret, ↓s_retN, ↓s_brk, ↓s_cont, ↓s_ite, ↓s_fo, ↓g_tg, ↓g_sub, ↓r_run, ↓r_call, ↓r_pure, ↓p_eq, ↓p_ne, ↓p_lt, ↓p_le, ↓p_gt, ↓p_ge, ↓p_addI, ↓p_addS, ↓p_addT, ↓p_sub, ↓p_mul, ↓p_mod, ↓p_fdiv, ↓p_pow, ↓p_in, ↓p_notin, ↓p_ixT, ↓p_neg, ↓p_abs, ↓p_int, ↓p_intB, ↓p_lenS, ↓p_tuple, ↓p_list, ↓p_repr, ↓p_rev, ↓p_slT, ↓p_slr, ↓p_sll, ↓vb_ss, ↓p_addl, ↓p_addr, ↓p_ixl, ↓p_ixri, ↓p_ixrs, ↓p_app, ↓p_ext, ↓p_popa, ↓p_popz, ↓p_ins, ↓p_lenT, ↓p_lenl, ↓p_lenr, ↓p_set, ↓p_isN, ↓p_noN, ↓p_sort, ↓as_nil, ↓as_cons, ↓lb_cc, ↓lb_nc, ↓lb_cn, ↓lb_nn, ↓onE_some, ↓onE_none, ↓at_lit, ↓at_last, ↓q_ss, ↓q_ii, ↓q_bb, ↓q_tt, ↓q_ll, ↓q_vs, ↓q_vi, ↓q_vt, ↓q_nil, ↓q_nilc, ↓q_cnil, ↓q_cons, ↓q_any0, ↓q_any1, ↓q_anyS, seqR, seqV, truthV, settle, settles, isNil, pre2, pre3, intOf, bindT, bindTs, permute, isV, wipeE, List.length_cons, List.length_nil, List.getElem?_cons_zero, List.getElem?_cons_succ, List.set_cons_zero, List.set_cons_succ, List.map_cons, List.map_nil, List.replicate, List.append, List.cons_append, List.nil_append, true_and, and_true, if_true, if_false, Bool.false_eq_true, Option.bind, Bool.not_true, Bool.not_false, Bool.true_and, Bool.false_and, Bool.and_true, Bool.and_false, Bool.or_true, Bool.or_false, Bool.true_or, Bool.false_or, lstAt, ownL, mutAt, dicAt, Option.map, Option.map_some, Option.map_none, List.getElem?_nil, keyOk, Bool.or_self, Bool.and_self, Nat.zero_le, Nat.reduceAdd, Nat.reduceSub, Nat.reduceLT, Nat.reduceLeDiff, Nat.reduceEqDiff, Nat.reduceBEq, beq_self_eq_true, Nat.zero_add, Nat.add_zero, List.length_map, top, List.length_append, List.all_cons, List.all_nil, nrR, Val.nr, Val.nrs, pureVal, and_self, List.filterMap_cons, List.filterMap_nil, List.getElem?_concat_length, List.length_set]
              exact fun _ => ⟨by simp [cut, cutIx], by simp [cut, cutIx], _, rfl, ⟨h0, h1, h2, p0, p1, y, p4, t, s, a0, a1, a2, b0, b1, sy, b3, b4, rfl⟩⟩
            · intro l3 hl3 ll3
              simp [STR] at ll1 ll2
              simp only [f0, ↓k_ok, ↓k_bad, ↓k_bind, ↓k_ite, ↓k_lift, ↓k_noX, ↓k_optT, ↓k_optF, ↓k_op2T, ↓k_op2F, ↓k_optCT, ↓k_optCF, ↓on_some, ↓on_none, ↓e_k, ↓e_g, ↓e_x, ↓e_tup, ↓e_lst, ↓e_op1, ↓e_op2, ↓e_op3, ↓e_sl, ↓e_and, ↓e_or, ↓e_not, ↓e_ite, ↓e_chain, ↓e_call, ↓e_nil, ↓e_cons, ↓e_dic, ↓e_comp, ↓s_skip, ↓s_seq, ↓s_asg, ↓s_ex, ↓s_ret, ↓s_retN, ↓s_brk, ↓s_cont, ↓s_ite, ↓s_fo, ↓g_tg, ↓g_sub, ↓r_run, ↓r_call, ↓r_pure, ↓p_eq, ↓p_ne, ↓p_lt, ↓p_le, ↓p_gt, ↓p_ge, ↓p_addI, ↓p_addS, ↓p_addT, ↓p_sub, ↓p_mul, ↓p_mod, ↓p_fdiv, ↓p_pow, ↓p_in, ↓p_notin, ↓p_ixT, ↓p_neg, ↓p_abs, ↓p_int, ↓p_intB, ↓p_lenS, ↓p_tuple, ↓p_list, ↓p_repr, ↓p_rev, ↓p_slT, ↓p_slr, ↓p_sll, ↓vb_ss, ↓p_addl, ↓p_addr, ↓p_ixl, ↓p_ixri, ↓p_ixrs, ↓p_app, ↓p_ext, ↓p_popa, ↓p_popz, ↓p_ins, ↓p_lenT, ↓p_lenl, ↓p_lenr, ↓p_set, ↓p_isN, ↓p_noN, ↓p_sort, ↓as_nil, ↓as_cons, ↓lb_cc, ↓lb_nc, ↓lb_cn, ↓lb_nn, ↓onE_some, ↓onE_none, ↓at_lit, ↓at_last, ↓q_ss, ↓q_ii, ↓q_bb, ↓q_tt, ↓q_ll, ↓q_vs, ↓q_vi, ↓q_vt, ↓q_nil, ↓q_nilc, ↓q_cnil, ↓q_cons, ↓q_any0, ↓q_any1, ↓q_anyS, seqR, seqV, truthV, settle, settles, isNil, pre2, pre3, intOf, bindT, bindTs, permute, isV, wipeE, List.length_cons, List.length_nil, List.getElem?_cons_zero, List.getElem?_cons_succ, List.set_cons_zero, List.set_cons_succ, List.map_cons, List.map_nil, List.replicate, List.append, List.cons_append, List.nil_append, true_and, and_true, if_true, if_false, Bool.false_eq_true, Option.bind, Bool.not_true, Bool.not_false, Bool.true_and, Bool.false_and, Bool.and_true, Bool.and_false, Bool.or_true, Bool.or_false, Bool.true_or, Bool.false_or, lstAt, ownL, mutAt, dicAt, Option.map, Option.map_some, Option.map_none, List.getElem?_nil, keyOk, Bool.or_self, Bool.and_self, Nat.zero_le, Nat.reduceAdd, Nat.reduceSub, Nat.reduceLT, Nat.reduceLeDiff, Nat.reduceEqDiff, Nat.reduceBEq, beq_self_eq_true, Nat.zero_add, Nat.add_zero, List.length_map, top, List.length_append, List.all_cons, List.all_nil, nrR, Val.nr, Val.nrs, pureVal, and_self, List.filterMap_cons, List.filterMap_nil, List.getElem?_concat_length, List.length_set]
              refine ⟨by omega, .inr (.inr (.inr trivial)), _, _, _, rfl, set_self f0, (set_ne (by decide)).trans f1, ?_, by simp only [List.length_append]; omega⟩
              intro a ha
              simp only [List.mem_append] at ha
              rcases ha with (ha | ha) | ha
              · exact hf a ha
              · exact hl1 a ha
              · exact hl3 a ha
      · cases hx
    · rintro ρ st ⟨_, fd, o4, o5, rfl, e0, e1, hf, hl⟩
      exact ⟨_, rfl, fd, o4, o5, rfl, e0, hf, by omega⟩
  rintro ρ st ⟨fd, o4, o5, rfl, e0, hf, hl⟩
  refine seq_ok (fun ρ st => ∃ fd o6, ρ = [some (hV h0 h1 h2), some (mV p0 p1 p2 p4 t s), some (.ref 0), some (.ref 1), o4, o5, o6, none, none] ∧ st[0]? = some (.lst fd) ∧ (∀ a ∈ fd, isHM a) ∧ fd.length ≤ 22) ?_ ?_
  · simp only [walk_t, ↓k_ok, ↓k_bad, ↓k_bind, ↓k_ite, ↓k_lift, ↓k_noX, ↓k_optT, ↓k_optF, ↓k_op2T, ↓k_op2F, ↓k_optCT, ↓k_optCF, ↓on_some, ↓on_none, ↓e_k, ↓e_g, ↓e_x, ↓e_tup, ↓e_lst, ↓e_op1, ↓e_op2, ↓e_op3, ↓e_sl, ↓e_and, ↓e_or, ↓e_not, ↓e_ite, ↓e_chain, ↓e_call, ↓e_nil, ↓e_cons, ↓e_dic, ↓e_comp, ↓s_skip, ↓s_seq, ↓s_asg, ↓s_ex, ↓s_ret, ↓s_retN, ↓s_brk, ↓s_cont, ↓s_ite, ↓s_fo, ↓g_tg, ↓g_sub, ↓r_run, ↓r_call, ↓r_pure, ↓p_eq, ↓p_ne, ↓p_lt, ↓p_le, ↓p_gt, ↓p_ge, ↓p_addI, ↓p_addS, ↓p_addT, ↓p_sub, ↓p_mul, ↓p_mod, ↓p_fdiv, ↓p_pow, ↓p_in, ↓p_notin, ↓p_ixT, ↓p_neg, ↓p_abs, ↓p_int, ↓p_intB, ↓p_lenS, ↓p_tuple, ↓p_list, ↓p_repr, ↓p_rev, ↓p_slT, ↓p_slr, ↓p_sll, ↓vb_ss, ↓p_addl, ↓p_addr, ↓p_ixl, ↓p_ixri, ↓p_ixrs, ↓p_app, ↓p_ext, ↓p_popa, ↓p_popz, ↓p_ins, ↓p_lenT, ↓p_lenl, ↓p_lenr, ↓p_set, ↓p_isN, ↓p_noN, ↓p_sort, ↓as_nil, ↓as_cons, ↓lb_cc, ↓lb_nc, ↓lb_cn, ↓lb_nn, ↓onE_some, ↓onE_none, ↓at_lit, ↓at_last, ↓q_ss, ↓q_ii, ↓q_bb, ↓q_tt, ↓q_ll, ↓q_vs, ↓q_vi, ↓q_vt, ↓q_nil, ↓q_nilc, ↓q_cnil, ↓q_cons, ↓q_any0, ↓q_any1, ↓q_anyS, seqR, seqV, truthV, settle, settles, isNil, pre2, pre3, intOf, bindT, bindTs, permute, isV, wipeE, List.length_cons, List.length_nil, List.getElem?_cons_zero, List.getElem?_cons_succ, List.set_cons_zero, List.set_cons_succ, List.map_cons, List.map_nil, List.replicate, List.append, List.cons_append, List.nil_append, true_and, and_true, if_true, if_false, Bool.false_eq_true, Option.bind, Bool.not_true, Bool.not_false, Bool.true_and, Bool.false_and, Bool.and_true, Bool.and_false, Bool.or_true, Bool.or_false, Bool.true_or, Bool.false_or, lstAt, ownL, mutAt, dicAt, Option.map, Option.map_some, Option.map_none, List.getElem?_nil, keyOk, Bool.or_self, Bool.and_self, Nat.zero_le, Nat.reduceAdd, Nat.reduceSub, Nat.reduceLT, Nat.reduceLeDiff, Nat.reduceEqDiff, Nat.reduceBEq, beq_self_eq_true, Nat.zero_add, Nat.add_zero, List.length_map, top, List.length_append, List.all_cons, List.all_nil, nrR, Val.nr, Val.nrs, pureVal, and_self, List.filterMap_cons, List.filterMap_nil, List.getElem?_concat_length, List.length_set]
    refine for_inv (fun xs ρ st => (∀ x ∈ xs, x ∈ THX) ∧ ∃ fd o6, ρ = [some (hV h0 h1 h2), some (mV p0 p1 p2 p4 t s), some (.ref 0), some (.ref 1), o4, o5, o6, none, none] ∧ st[0]? = some (.lst fd) ∧ (∀ a ∈ fd, isHM a) ∧ fd.length + xs.length ≤ 22) ?_ ?_ ?_ _ _ _ ⟨fun _ h => h, fd, none, rfl, e0, hf, by simp; omega⟩
    · intros; rfl
    · rintro x xs ρ st ⟨hx, fd, o6, rfl, e0, hf, hl⟩
      simp only [List.length_cons] at hl
      obtain ⟨u, hu, rfl⟩ := thx_td (hx x List.mem_cons_self)
      refine ⟨_, rfl, ?_⟩
      simp only [hV, mV, q_strs, e0, ↓k_ok, ↓k_bad, ↓k_bind, ↓k_ite, ↓k_lift, ↓k_noX, ↓k_optT, ↓k_optF, ↓k_op2T, ↓k_op2F, ↓k_optCT, ↓k_optCF, ↓on_some, ↓on_none, ↓e_k, ↓e_g, ↓e_x, ↓e_tup, ↓e_lst, ↓e_op1, ↓e_op2, ↓e_op3, ↓e_sl, ↓e_and, ↓e_or, ↓e_not, ↓e_ite, ↓e_chain, ↓e_call, ↓e_nil, ↓e_cons, ↓e_dic, ↓e_comp, ↓s_skip, ↓s_seq, ↓s_asg, ↓s_ex, ↓s_ret, ↓s_retN, ↓s_brk, ↓s_cont, ↓s_ite, ↓s_fo, ↓g_tg, ↓g_sub, ↓r_run, ↓r_call, ↓r_pure, ↓p_eq, ↓p_ne, ↓p_lt, ↓p_le, ↓p_gt, ↓p_ge, ↓p_addI, ↓p_addS, ↓p_addT, ↓p_sub, ↓p_mul, ↓p_mod, ↓p_fdiv, ↓p_pow, ↓p_in, ↓p_notin, ↓p_ixT, ↓p_neg, ↓p_abs, ↓p_int, ↓p_intB, ↓p_lenS, ↓p_tuple, ↓p_list, ↓p_repr, ↓p_rev, ↓p_slT, ↓p_slr, ↓p_sll, ↓vb_ss, ↓p_addl, ↓p_addr, ↓p_ixl, ↓p_ixri, ↓p_ixrs, ↓p_app, ↓p_ext, ↓p_popa, ↓p_popz, ↓p_ins, ↓p_lenT, ↓p_lenl, ↓p_lenr, ↓p_set, ↓p_isN, ↓p_noN, ↓p_sort, ↓as_nil, ↓as_cons, ↓lb_cc, ↓lb_nc, ↓lb_cn, ↓lb_nn, ↓onE_some, ↓onE_none, ↓at_lit, ↓at_last, ↓q_ss, ↓q_ii, ↓q_bb, ↓q_tt, ↓q_ll, ↓q_vs, ↓q_vi, ↓q_vt, ↓q_nil, ↓q_nilc, ↓q_cnil, ↓q_cons, ↓q_any0, ↓q_any1, ↓q_anyS, seqR, seqV, truthV, settle, settles, isNil, pre2, pre3, intOf, bindT, bindTs, permute, isV, wipeE, List.length_cons, List.length_nil, List.getElem?_cons_zero, List.getElem?_cons_succ, List.set_cons_zero, List.set_cons_succ, List.map_cons, List.map_nil, List.replicate, List.append, List.cons_append, List.nil_append, true_and, and_true, if_true, if_false, Bool.false_eq_true, Option.bind, Bool.not_true, Bool.not_false, Bool.true_and, Bool.false_and, Bool.and_true, Bool.and_false, Bool.or_true, Bool.or_false, Bool.true_or, Bool.false_or, lstAt, ownL, mutAt, dicAt, Option.map, Option.map_some, Option.map_none, List.getElem?_nil, keyOk, Bool.or_self, Bool.and_self, Nat.zero_le, Nat.reduceAdd, Nat.reduceSub, Nat.reduceLT, Nat.reduceLeDiff, Nat.reduceEqDiff, Nat.reduceBEq, beq_self_eq_true, Nat.zero_add, Nat.add_zero, List.length_map, top, List.length_append, List.all_cons, List.all_nil, nrR, Val.nr, Val.nrs, pureVal, and_self, List.filterMap_cons, List.filterMap_nil, List.getElem?_concat_length, List.length_set]
      have hx' : ∀ x ∈ xs, x ∈ THX := fun x h => hx x (List.mem_cons_of_mem _ h)
      cases (u == t)
      · simp only [↓k_ok, ↓k_bad, ↓k_bind, ↓k_ite, ↓k_lift, ↓k_noX, ↓k_optT, ↓k_optF, ↓k_op2T, ↓k_op2F, ↓k_optCT, ↓k_optCF, ↓on_some, ↓on_none, ↓e_k, ↓e_g, ↓e_x, ↓e_tup, ↓e_lst, ↓e_op1, ↓e_op2, ↓e_op3, ↓e_sl, ↓e_and, ↓e_or, ↓e_not, ↓e_ite, ↓e_chain, ↓e_call, ↓e_nil, ↓e_cons, ↓e_dic, ↓e_comp, ↓s_skip, ↓s_seq, ↓s_asg, ↓s_ex, ↓s_ret, ↓s_retN, ↓s_brk, ↓s_cont, ↓s_ite, ↓s_fo, ↓g_tg, ↓g_sub, ↓r_run, ↓r_call, ↓r_pure, ↓p_eq, ↓p_ne, ↓p_lt, ↓p_le, ↓p_gt, ↓p_ge, ↓p_addI, ↓p_addS, ↓p_addT, ↓p_sub, ↓p_mul, ↓p_mod, ↓p_fdiv, ↓p_pow, ↓p_in, ↓p_notin, ↓p_ixT, ↓p_neg, ↓p_abs, ↓p_int, ↓p_intB, ↓p_lenS, ↓p_tuple, ↓p_list, ↓p_repr, ↓p_rev, ↓p_slT, ↓p_slr, ↓p_sll, ↓vb_ss, ↓p_addl, ↓p_addr, ↓p_ixl, ↓p_ixri, ↓p_ixrs, ↓p_app, ↓p_ext, ↓p_popa, ↓p_popz, ↓p_ins, ↓p_lenT, ↓p_lenl, ↓p_lenr, ↓p_set, ↓p_isN, ↓p_noN, ↓p_sort, ↓as_nil, ↓as_cons, ↓lb_cc, ↓lb_nc, ↓lb_cn, ↓lb_nn, ↓onE_some, ↓onE_none, ↓at_lit, ↓at_last, ↓q_ss, ↓q_ii, ↓q_bb, ↓q_tt, ↓q_ll, ↓q_vs, ↓q_vi, ↓q_vt, ↓q_nil, ↓q_nilc, ↓q_cnil, ↓q_cons, ↓q_any0, ↓q_any1, ↓q_anyS, seqR, seqV, truthV, settle, settles, isNil, pre2, pre3, intOf, bindT, bindTs, permute, isV, wipeE, List.length_cons, List.length_nil, List.getElem?_cons_zero, List.getElem?_cons_succ, List.set_cons_zero, List.set_cons_succ, List.map_cons, List.map_nil, List.replicate, List.append, List.cons_append, List.nil_append, true_and, and_true, if_true, if_false, Bool.false_eq_true, Option.bind, Bool.not_true, Bool.not_false, Bool.true_and, Bool.false_and, Bool.and_true, Bool.and_false, Bool.or_true, Bool.or_false, Bool.true_or, Bool.false_or, lstAt, ownL, mutAt, dicAt, Option.map, Option.map_some, Option.map_none, List.getElem?_nil, keyOk, Bool.or_self, Bool.and_self, Nat.zero_le, Nat.reduceAdd, Nat.reduceSub, Nat.reduceLT, Nat.reduceLeDiff, Nat.reduceEqDiff, Nat.reduceBEq, beq_self_eq_true, Nat.zero_add, Nat.add_zero, List.length_map, top, List.length_append, List.all_cons, List.all_nil, nrR, Val.nr, Val.nrs, pureVal, and_self, List.filterMap_cons, List.filterMap_nil, List.getElem?_concat_length, List.length_set]
        refine ⟨by simp [cut, cutIx], by simp [cut, cutIx], by omega, hx', _, _, rfl, set_self e0, ?_, by simp only [List.length_append, List.length_cons, List.length_nil]; omega⟩
        intro a ha
        rcases List.mem_append.mp ha with ha | ha
        · exact hf a ha
        · rw [List.mem_singleton.mp ha]
          exact ⟨h0, h1, h2, p0, p1, p2, p4, u, s, a0, a1, a2, b0, b1, b2, hu, b4, rfl⟩
      · simp only [↓k_ok, ↓k_bad, ↓k_bind, ↓k_ite, ↓k_lift, ↓k_noX, ↓k_optT, ↓k_optF, ↓k_op2T, ↓k_op2F, ↓k_optCT, ↓k_optCF, ↓on_some, ↓on_none, ↓e_k, ↓e_g, ↓e_x, ↓e_tup, ↓e_lst, ↓e_op1, ↓e_op2, ↓e_op3, ↓e_sl, ↓e_and, ↓e_or, ↓e_not, ↓e_ite, ↓e_chain, ↓e_call, ↓e_nil, ↓e_cons, ↓e_dic, ↓e_comp, ↓s_skip, ↓s_seq, ↓s_asg, ↓s_ex, ↓s_ret, ↓s_retN, ↓s_brk, ↓s_cont, ↓s_ite, ↓s_fo, ↓g_tg, ↓g_sub, ↓r_run, ↓r_call, ↓r_pure, ↓p_eq, ↓p_ne, ↓p_lt, ↓p_le, ↓p_gt, ↓p_ge, ↓p_addI, ↓p_addS, ↓p_addT, ↓p_sub, ↓p_mul, ↓p_mod, ↓p_fdiv, ↓p_pow, ↓p_in, ↓p_notin, ↓p_ixT, ↓p_neg, ↓p_abs, ↓p_int, ↓p_intB, ↓p_lenS, ↓p_tuple, ↓p_list, ↓p_repr, ↓p_rev, ↓p_slT, ↓p_slr, ↓p_sll, ↓vb_ss, ↓p_addl, ↓p_addr, ↓p_ixl, ↓p_ixri, ↓p_ixrs, ↓p_app, ↓p_ext, ↓p_popa, ↓p_popz, ↓p_ins, ↓p_lenT, ↓p_lenl, ↓p_lenr, ↓p_set, ↓p_isN, ↓p_noN, ↓p_sort, ↓as_nil, ↓as_cons, ↓lb_cc, ↓lb_nc, ↓lb_cn, ↓lb_nn, ↓onE_some, ↓onE_none, ↓at_lit, ↓at_last, ↓q_ss, ↓q_ii, ↓q_bb, ↓q_tt, ↓q_ll, ↓q_vs, ↓q_vi, ↓q_vt, ↓q_nil, ↓q_nilc, ↓q_cnil, ↓q_cons, ↓q_any0, ↓q_any1, ↓q_anyS, seqR, seqV, truthV, settle, settles, isNil, pre2, pre3, intOf, bindT, bindTs, permute, isV, wipeE, List.length_cons, List.length_nil, List.getElem?_cons_zero, List.getElem?_cons_succ, List.set_cons_zero, List.set_cons_succ, List.map_cons, List.map_nil, List.replicate, List.append, List.cons_append, List.nil_append, true_and, and_true, if_true, if_false, Bool.false_eq_true, Option.bind, Bool.not_true, Bool.not_false, Bool.true_and, Bool.false_and, Bool.and_true, Bool.and_false, Bool.or_true, Bool.or_false, Bool.true_or, Bool.false_or, lstAt, ownL, mutAt, dicAt, Option.map, Option.map_some, Option.map_none, List.getElem?_nil, keyOk, Bool.or_self, Bool.and_self, Nat.zero_le, Nat.reduceAdd, Nat.reduceSub, Nat.reduceLT, Nat.reduceLeDiff, Nat.reduceEqDiff, Nat.reduceBEq, beq_self_eq_true, Nat.zero_add, Nat.add_zero, List.length_map, top, List.length_append, List.all_cons, List.all_nil, nrR, Val.nr, Val.nrs, pureVal, and_self, List.filterMap_cons, List.filterMap_nil, List.getElem?_concat_length, List.length_set]
        exact ⟨hx', _, _, rfl, rfl, hf, by omega⟩
    · rintro ρ st ⟨_, fd, o6, rfl, e0, hf, hl⟩
      exact ⟨_, rfl, fd, o6, rfl, e0, hf, hl⟩
  rintro ρ st ⟨fd, o6, rfl, e0, hf, hl⟩
  simp only [hV, mV, e0, ↓k_ok, ↓k_bad, ↓k_bind, ↓k_ite, ↓k_lift, ↓k_noX, ↓k_optT, ↓k_optF, ↓k_op2T, ↓k_op2F, ↓k_optCT, ↓k_optCF, ↓on_some, ↓on_none, ↓e_k, ↓e_g, ↓e_x, ↓e_tup, ↓e_lst, ↓e_op1, ↓e_op2, ↓e_op3, ↓e_sl, ↓e_and, ↓e_or, ↓e_not, ↓e_ite, ↓e_chain, ↓e_call, ↓e_nil, ↓e_cons, ↓e_dic, ↓e_comp, ↓s_skip, ↓s_seq, ↓s_asg, ↓s_ex, ↓s_ret, ↓s_retN, ↓s_brk, ↓s_cont, ↓s_ite, ↓s_fo, ↓g_tg, ↓g_sub, ↓r_run, ↓r_call, ↓r_pure, ↓p_eq, ↓p_ne, ↓p_lt, ↓p_le, ↓p_gt, ↓p_ge, ↓p_addI, ↓p_addS, ↓p_addT, ↓p_sub, ↓p_mul, ↓p_mod, ↓p_fdiv, ↓p_pow, ↓p_in, ↓p_notin, ↓p_ixT, ↓p_neg, ↓p_abs, ↓p_int, ↓p_intB, ↓p_lenS, ↓p_tuple, ↓p_list, ↓p_repr, ↓p_rev, ↓p_slT, ↓p_slr, ↓p_sll, ↓vb_ss, ↓p_addl, ↓p_addr, ↓p_ixl, ↓p_ixri, ↓p_ixrs, ↓p_app, ↓p_ext, ↓p_popa, ↓p_popz, ↓p_ins, ↓p_lenT, ↓p_lenl, ↓p_lenr, ↓p_set, ↓p_isN, ↓p_noN, ↓p_sort, ↓as_nil, ↓as_cons, ↓lb_cc, ↓lb_nc, ↓lb_cn, ↓lb_nn, ↓onE_some, ↓onE_none, ↓at_lit, ↓at_last, ↓q_ss, ↓q_ii, ↓q_bb, ↓q_tt, ↓q_ll, ↓q_vs, ↓q_vi, ↓q_vt, ↓q_nil, ↓q_nilc, ↓q_cnil, ↓q_cons, ↓q_any0, ↓q_any1, ↓q_anyS, seqR, seqV, truthV, settle, settles, isNil, pre2, pre3, intOf, bindT, bindTs, permute, isV, wipeE, List.length_cons, List.length_nil, List.getElem?_cons_zero, List.getElem?_cons_succ, List.set_cons_zero, List.set_cons_succ, List.map_cons, List.map_nil, List.replicate, List.append, List.cons_append, List.nil_append, true_and, and_true, if_true, if_false, Bool.false_eq_true, Option.bind, Bool.not_true, Bool.not_false, Bool.true_and, Bool.false_and, Bool.and_true, Bool.and_false, Bool.or_true, Bool.or_false, Bool.true_or, Bool.false_or, lstAt, ownL, mutAt, dicAt, Option.map, Option.map_some, Option.map_none, List.getElem?_nil, keyOk, Bool.or_self, Bool.and_self, Nat.zero_le, Nat.reduceAdd, Nat.reduceSub, Nat.reduceLT, Nat.reduceLeDiff, Nat.reduceEqDiff, Nat.reduceBEq, beq_self_eq_true, Nat.zero_add, Nat.add_zero, List.length_map, top, List.length_append, List.all_cons, List.all_nil, nrR, Val.nr, Val.nrs, pureVal, and_self, List.filterMap_cons, List.filterMap_nil, List.getElem?_concat_length, List.length_set]
  have key : ∀ y, PD y → ∀ p ∈ fd ++ [Val.tup [Val.tup [Val.str h0, Val.str h1, Val.str h2], Val.tup (cut [Val.str p0, Val.str p1, Val.str p2, Val.tup (List.map Val.str t), Val.str p4, Val.bl s] none (some 4) ++ [Val.str y, Val.bl s])], Val.tup [Val.tup [Val.str h0, Val.str h1, Val.str h2], Val.tup (cut [Val.str p0, Val.str p1, Val.str p2, Val.tup (List.map Val.str t), Val.str p4, Val.bl s] none (some 5) ++ [Val.bl !s])]], isHM p := by
    intro y hy p hp
    simp only [List.mem_append, List.mem_cons, List.not_mem_nil, or_false] at hp
    rcases hp with hp | rfl | rfl
    · exact hf p hp
    · exact ⟨h0, h1, h2, p0, p1, p2, y, t, s, a0, a1, a2, b0, b1, b2, b3, hy, rfl⟩
    · exact ⟨h0, h1, h2, p0, p1, p2, p4, t, !s, a0, a1, a2, b0, b1, b2, b3, b4, rfl⟩
  split
  · exact ⟨by simp [cut, cutIx], by simp [cut, cutIx], by omega, _, rfl, key _ (.inl rfl), by simp only [List.length_append, List.length_cons, List.length_nil]; omega⟩
  · exact ⟨by simp [cut, cutIx], by simp [cut, cutIx], by omega, _, rfl, key _ (.inr rfl), by simp only [List.length_append, List.length_cons, List.length_nil]; omega⟩
end Law
end
section
set_option Elab.async false
set_option maxRecDepth 100000
set_option linter.all false
namespace Law
open Mi
theorem isHM.nr {v : Val} (h : isHM v) : v.nr = true := by
  obtain ⟨h0, h1, h2, p0, p1, p2, p4, t, s, _, _, _, _, _, _, _, _, rfl⟩ := h
  simp only [Val.nr, Val.nrs, h_nr, m_nr, Bool.and_self]
theorem law_ok {ns : List Int} (hn : ns.length ≤ 63) : Ok (f_law [.ref 0] [.frz (ns.map .int)]) fun r _ => r = .v (.bl true) := by
  have wr : ∀ q st, walk .range1 (.v (.int 10)) q st = some (rng 0 10, []) := fun _ _ => rfl
  unfold f_law d_law m_law
  rw [r_run]
  refine ⟨rfl, ?_⟩
  refine seq_ok (fun ρ st => ∃ d l, ρ = [some (.ref 0), some (.ref d), none, none, none, none, none, none] ∧ Dk st d l) ?_ ?_
  · simp only [↓k_ok, ↓k_bad, ↓k_bind, ↓k_ite, ↓k_lift, ↓k_noX, ↓k_optT, ↓k_optF, ↓k_op2T, ↓k_op2F, ↓k_optCT, ↓k_optCF, ↓on_some, ↓on_none, ↓e_k, ↓e_g, ↓e_x, ↓e_tup, ↓e_lst, ↓e_op1, ↓e_op2, ↓e_op3, ↓e_sl, ↓e_and, ↓e_or, ↓e_not, ↓e_ite, ↓e_chain, ↓e_call, ↓e_nil, ↓e_cons, ↓e_dic, ↓e_comp, ↓s_skip, ↓s_seq, ↓s_asg, ↓s_ex, ↓s_ret, ↓s_retN, ↓s_brk, ↓s_cont, ↓s_ite, ↓s_fo, ↓g_tg, ↓g_sub, ↓r_run, ↓r_call, ↓r_pure, ↓p_eq, ↓p_ne, ↓p_lt, ↓p_le, ↓p_gt, ↓p_ge, ↓p_addI, ↓p_addS, ↓p_addT, ↓p_sub, ↓p_mul, ↓p_mod, ↓p_fdiv, ↓p_pow, ↓p_in, ↓p_notin, ↓p_ixT, ↓p_neg, ↓p_abs, ↓p_int, ↓p_intB, ↓p_lenS, ↓p_tuple, ↓p_list, ↓p_repr, ↓p_rev, ↓p_slT, ↓p_slr, ↓p_sll, ↓vb_ss, ↓p_addl, ↓p_addr, ↓p_ixl, ↓p_ixri, ↓p_ixrs, ↓p_app, ↓p_ext, ↓p_popa, ↓p_popz, ↓p_ins, ↓p_lenT, ↓p_lenl, ↓p_lenr, ↓p_set, ↓p_isN, ↓p_noN, ↓p_sort, ↓as_nil, ↓as_cons, ↓lb_cc, ↓lb_nc, ↓lb_cn, ↓lb_nn, ↓onE_some, ↓onE_none, ↓at_lit, ↓at_last, ↓q_ss, ↓q_ii, ↓q_bb, ↓q_tt, ↓q_ll, ↓q_vs, ↓q_vi, ↓q_vt, ↓q_nil, ↓q_nilc, ↓q_cnil, ↓q_cons, ↓q_any0, ↓q_any1, ↓q_anyS, seqR, seqV, truthV, settle, settles, isNil, pre2, pre3, intOf, bindT, bindTs, permute, isV, wipeE, List.length_cons, List.length_nil, List.getElem?_cons_zero, List.getElem?_cons_succ, List.set_cons_zero, List.set_cons_succ, List.map_cons, List.map_nil, List.replicate, List.append, List.cons_append, List.nil_append, true_and, and_true, if_true, if_false, Bool.false_eq_true, Option.bind, Bool.not_true, Bool.not_false, Bool.true_and, Bool.false_and, Bool.and_true, Bool.and_false, Bool.or_true, Bool.or_false, Bool.true_or, Bool.false_or, lstAt, ownL, mutAt, dicAt, Option.map, Option.map_some, Option.map_none, List.getElem?_nil, keyOk, Bool.or_self, Bool.and_self, Nat.zero_le, Nat.reduceAdd, Nat.reduceSub, Nat.reduceLT, Nat.reduceLeDiff, Nat.reduceEqDiff, Nat.reduceBEq, beq_self_eq_true, Nat.zero_add, Nat.add_zero, List.length_map, top, List.length_append, List.all_cons, List.all_nil, nrR, Val.nr, Val.nrs, pureVal, and_self, List.filterMap_cons, List.filterMap_nil, List.getElem?_concat_length, List.length_set]
    refine Ok.imp (deck_ok hn) ?_
    rintro r st ⟨d, l, rfl, k⟩
    simp only [↓k_ok, ↓k_bad, ↓k_bind, ↓k_ite, ↓k_lift, ↓k_noX, ↓k_optT, ↓k_optF, ↓k_op2T, ↓k_op2F, ↓k_optCT, ↓k_optCF, ↓on_some, ↓on_none, ↓e_k, ↓e_g, ↓e_x, ↓e_tup, ↓e_lst, ↓e_op1, ↓e_op2, ↓e_op3, ↓e_sl, ↓e_and, ↓e_or, ↓e_not, ↓e_ite, ↓e_chain, ↓e_call, ↓e_nil, ↓e_cons, ↓e_dic, ↓e_comp, ↓s_skip, ↓s_seq, ↓s_asg, ↓s_ex, ↓s_ret, ↓s_retN, ↓s_brk, ↓s_cont, ↓s_ite, ↓s_fo, ↓g_tg, ↓g_sub, ↓r_run, ↓r_call, ↓r_pure, ↓p_eq, ↓p_ne, ↓p_lt, ↓p_le, ↓p_gt, ↓p_ge, ↓p_addI, ↓p_addS, ↓p_addT, ↓p_sub, ↓p_mul, ↓p_mod, ↓p_fdiv, ↓p_pow, ↓p_in, ↓p_notin, ↓p_ixT, ↓p_neg, ↓p_abs, ↓p_int, ↓p_intB, ↓p_lenS, ↓p_tuple, ↓p_list, ↓p_repr, ↓p_rev, ↓p_slT, ↓p_slr, ↓p_sll, ↓vb_ss, ↓p_addl, ↓p_addr, ↓p_ixl, ↓p_ixri, ↓p_ixrs, ↓p_app, ↓p_ext, ↓p_popa, ↓p_popz, ↓p_ins, ↓p_lenT, ↓p_lenl, ↓p_lenr, ↓p_set, ↓p_isN, ↓p_noN, ↓p_sort, ↓as_nil, ↓as_cons, ↓lb_cc, ↓lb_nc, ↓lb_cn, ↓lb_nn, ↓onE_some, ↓onE_none, ↓at_lit, ↓at_last, ↓q_ss, ↓q_ii, ↓q_bb, ↓q_tt, ↓q_ll, ↓q_vs, ↓q_vi, ↓q_vt, ↓q_nil, ↓q_nilc, ↓q_cnil, ↓q_cons, ↓q_any0, ↓q_any1, ↓q_anyS, seqR, seqV, truthV, settle, settles, isNil, pre2, pre3, intOf, bindT, bindTs, permute, isV, wipeE, List.length_cons, List.length_nil, List.getElem?_cons_zero, List.getElem?_cons_succ, List.set_cons_zero, List.set_cons_succ, List.map_cons, List.map_nil, List.replicate, List.append, List.cons_append, List.nil_append, true_and, and_true, if_true, if_false, Bool.false_eq_true, Option.bind, Bool.not_true, Bool.not_false, Bool.true_and, Bool.false_and, Bool.and_true, Bool.and_false, Bool.or_true, Bool.or_false, Bool.true_or, Bool.false_or, lstAt, ownL, mutAt, dicAt, Option.map, Option.map_some, Option.map_none, List.getElem?_nil, keyOk, Bool.or_self, Bool.and_self, Nat.zero_le, Nat.reduceAdd, Nat.reduceSub, Nat.reduceLT, Nat.reduceLeDiff, Nat.reduceEqDiff, Nat.reduceBEq, beq_self_eq_true, Nat.zero_add, Nat.add_zero, List.length_map, top, List.length_append, List.all_cons, List.all_nil, nrR, Val.nr, Val.nrs, pureVal, and_self, List.filterMap_cons, List.filterMap_nil, List.getElem?_concat_length, List.length_set]
    exact ⟨_, rfl, d, l, rfl, k⟩
  rintro ρ st ⟨d, l, rfl, k⟩
  refine seq_ok (fun ρ st => True) ?_ ?_
  · simp only [wr, ↓k_ok, ↓k_bad, ↓k_bind, ↓k_ite, ↓k_lift, ↓k_noX, ↓k_optT, ↓k_optF, ↓k_op2T, ↓k_op2F, ↓k_optCT, ↓k_optCF, ↓on_some, ↓on_none, ↓e_k, ↓e_g, ↓e_x, ↓e_tup, ↓e_lst, ↓e_op1, ↓e_op2, ↓e_op3, ↓e_sl, ↓e_and, ↓e_or, ↓e_not, ↓e_ite, ↓e_chain, ↓e_call, ↓e_nil, ↓e_cons, ↓e_dic, ↓e_comp, ↓s_skip, ↓s_seq, ↓s_asg, ↓s_ex, ↓s_ret, ↓s_retN, ↓s_brk, ↓s_cont, ↓s_ite, ↓s_fo, ↓g_tg, ↓g_sub, ↓r_run, ↓r_call, ↓r_pure, ↓p_eq, ↓p_ne, ↓p_lt, ↓p_le, ↓p_gt, ↓p_ge, ↓p_addI, ↓p_addS, ↓p_addT, ↓p_sub, ↓p_mul, ↓p_mod, ↓p_fdiv, ↓p_pow, ↓p_in, ↓p_notin, ↓p_ixT, ↓p_neg, ↓p_abs, ↓p_int, ↓p_intB, ↓p_lenS, ↓p_tuple, ↓p_list, ↓p_repr, ↓p_rev, ↓p_slT, ↓p_slr, ↓p_sll, ↓vb_ss, ↓p_addl, ↓p_addr, ↓p_ixl, ↓p_ixri, ↓p_ixrs, ↓p_app, ↓p_ext, ↓p_popa, ↓p_popz, ↓p_ins, ↓p_lenT, ↓p_lenl, ↓p_lenr, ↓p_set, ↓p_isN, ↓p_noN, ↓p_sort, ↓as_nil, ↓as_cons, ↓lb_cc, ↓lb_nc, ↓lb_cn, ↓lb_nn, ↓onE_some, ↓onE_none, ↓at_lit, ↓at_last, ↓q_ss, ↓q_ii, ↓q_bb, ↓q_tt, ↓q_ll, ↓q_vs, ↓q_vi, ↓q_vt, ↓q_nil, ↓q_nilc, ↓q_cnil, ↓q_cons, ↓q_any0, ↓q_any1, ↓q_anyS, seqR, seqV, truthV, settle, settles, isNil, pre2, pre3, intOf, bindT, bindTs, permute, isV, wipeE, List.length_cons, List.length_nil, List.getElem?_cons_zero, List.getElem?_cons_succ, List.set_cons_zero, List.set_cons_succ, List.map_cons, List.map_nil, List.replicate, List.append, List.cons_append, List.nil_append, true_and, and_true, if_true, if_false, Bool.false_eq_true, Option.bind, Bool.not_true, Bool.not_false, Bool.true_and, Bool.false_and, Bool.and_true, Bool.and_false, Bool.or_true, Bool.or_false, Bool.true_or, Bool.false_or, lstAt, ownL, mutAt, dicAt, Option.map, Option.map_some, Option.map_none, List.getElem?_nil, keyOk, Bool.or_self, Bool.and_self, Nat.zero_le, Nat.reduceAdd, Nat.reduceSub, Nat.reduceLT, Nat.reduceLeDiff, Nat.reduceEqDiff, Nat.reduceBEq, beq_self_eq_true, Nat.zero_add, Nat.add_zero, List.length_map, top, List.length_append, List.all_cons, List.all_nil, nrR, Val.nr, Val.nrs, pureVal, and_self, List.filterMap_cons, List.filterMap_nil, List.getElem?_concat_length, List.length_set]
    refine for_inv (fun xs ρ st => (∀ x ∈ xs, ∃ i : Int, x = .int i) ∧ (∃ o2 o3 o4 o5 o6 o7, ρ = [some (.ref 0), some (.ref d), o2, o3, o4, o5, o6, o7]) ∧ Dk st d l) ?_ ?_ ?_ _ _ _ ⟨fun x hx => ?_, ⟨none, none, none, none, none, none, rfl⟩, k⟩
    · intros; rfl
    · rintro x xs ρ st ⟨hx, ⟨o2, o3, o4, o5, o6, o7, rfl⟩, k⟩
      obtain ⟨i, rfl⟩ := hx x List.mem_cons_self
      have hx' := fun y hy => hx y (List.mem_cons_of_mem _ hy)
      clear hx
      refine ⟨_, rfl, ?_⟩
      refine seq_ok (fun ρ st => ∃ h0 h1 h2, SD h0 ∧ SD h1 ∧ SD h2 ∧ ρ = [some (.ref 0), some (.ref d), some (.int i), some (hV h0 h1 h2), o4, o5, o6, o7] ∧ Dk st d l) ?_ ?_
      · simp only [↓k_ok, ↓k_bad, ↓k_bind, ↓k_ite, ↓k_lift, ↓k_noX, ↓k_optT, ↓k_optF, ↓k_op2T, ↓k_op2F, ↓k_optCT, ↓k_optCF, ↓on_some, ↓on_none, ↓e_k, ↓e_g, ↓e_x, ↓e_tup, ↓e_lst, ↓e_op1, ↓e_op2, ↓e_op3, ↓e_sl, ↓e_and, ↓e_or, ↓e_not, ↓e_ite, ↓e_chain, ↓e_call, ↓e_nil, ↓e_cons, ↓e_dic, ↓e_comp, ↓s_skip, ↓s_seq, ↓s_asg, ↓s_ex, ↓s_ret, ↓s_retN, ↓s_brk, ↓s_cont, ↓s_ite, ↓s_fo, ↓g_tg, ↓g_sub, ↓r_run, ↓r_call, ↓r_pure, ↓p_eq, ↓p_ne, ↓p_lt, ↓p_le, ↓p_gt, ↓p_ge, ↓p_addI, ↓p_addS, ↓p_addT, ↓p_sub, ↓p_mul, ↓p_mod, ↓p_fdiv, ↓p_pow, ↓p_in, ↓p_notin, ↓p_ixT, ↓p_neg, ↓p_abs, ↓p_int, ↓p_intB, ↓p_lenS, ↓p_tuple, ↓p_list, ↓p_repr, ↓p_rev, ↓p_slT, ↓p_slr, ↓p_sll, ↓vb_ss, ↓p_addl, ↓p_addr, ↓p_ixl, ↓p_ixri, ↓p_ixrs, ↓p_app, ↓p_ext, ↓p_popa, ↓p_popz, ↓p_ins, ↓p_lenT, ↓p_lenl, ↓p_lenr, ↓p_set, ↓p_isN, ↓p_noN, ↓p_sort, ↓as_nil, ↓as_cons, ↓lb_cc, ↓lb_nc, ↓lb_cn, ↓lb_nn, ↓onE_some, ↓onE_none, ↓at_lit, ↓at_last, ↓q_ss, ↓q_ii, ↓q_bb, ↓q_tt, ↓q_ll, ↓q_vs, ↓q_vi, ↓q_vt, ↓q_nil, ↓q_nilc, ↓q_cnil, ↓q_cons, ↓q_any0, ↓q_any1, ↓q_anyS, seqR, seqV, truthV, settle, settles, isNil, pre2, pre3, intOf, bindT, bindTs, permute, isV, wipeE, List.length_cons, List.length_nil, List.getElem?_cons_zero, List.getElem?_cons_succ, List.set_cons_zero, List.set_cons_succ, List.map_cons, List.map_nil, List.replicate, List.append, List.cons_append, List.nil_append, true_and, and_true, if_true, if_false, Bool.false_eq_true, Option.bind, Bool.not_true, Bool.not_false, Bool.true_and, Bool.false_and, Bool.and_true, Bool.and_false, Bool.or_true, Bool.or_false, Bool.true_or, Bool.false_or, lstAt, ownL, mutAt, dicAt, Option.map, Option.map_some, Option.map_none, List.getElem?_nil, keyOk, Bool.or_self, Bool.and_self, Nat.zero_le, Nat.reduceAdd, Nat.reduceSub, Nat.reduceLT, Nat.reduceLeDiff, Nat.reduceEqDiff, Nat.reduceBEq, beq_self_eq_true, Nat.zero_add, Nat.add_zero, List.length_map, top, List.length_append, List.all_cons, List.all_nil, nrR, Val.nr, Val.nrs, pureVal, and_self, List.filterMap_cons, List.filterMap_nil, List.getElem?_concat_length, List.length_set]
        refine Ok.imp (head_ok k) ?_
        rintro r st ⟨⟨h0, h1, h2, a0, a1, a2, rfl⟩, k, _⟩
        simp only [↓k_ok, ↓k_bad, ↓k_bind, ↓k_ite, ↓k_lift, ↓k_noX, ↓k_optT, ↓k_optF, ↓k_op2T, ↓k_op2F, ↓k_optCT, ↓k_optCF, ↓on_some, ↓on_none, ↓e_k, ↓e_g, ↓e_x, ↓e_tup, ↓e_lst, ↓e_op1, ↓e_op2, ↓e_op3, ↓e_sl, ↓e_and, ↓e_or, ↓e_not, ↓e_ite, ↓e_chain, ↓e_call, ↓e_nil, ↓e_cons, ↓e_dic, ↓e_comp, ↓s_skip, ↓s_seq, ↓s_asg, ↓s_ex, ↓s_ret, ↓s_retN, ↓s_brk, ↓s_cont, ↓s_ite, ↓s_fo, ↓g_tg, ↓g_sub, ↓r_run, ↓r_call, ↓r_pure, ↓p_eq, ↓p_ne, ↓p_lt, ↓p_le, ↓p_gt, ↓p_ge, ↓p_addI, ↓p_addS, ↓p_addT, ↓p_sub, ↓p_mul, ↓p_mod, ↓p_fdiv, ↓p_pow, ↓p_in, ↓p_notin, ↓p_ixT, ↓p_neg, ↓p_abs, ↓p_int, ↓p_intB, ↓p_lenS, ↓p_tuple, ↓p_list, ↓p_repr, ↓p_rev, ↓p_slT, ↓p_slr, ↓p_sll, ↓vb_ss, ↓p_addl, ↓p_addr, ↓p_ixl, ↓p_ixri, ↓p_ixrs, ↓p_app, ↓p_ext, ↓p_popa, ↓p_popz, ↓p_ins, ↓p_lenT, ↓p_lenl, ↓p_lenr, ↓p_set, ↓p_isN, ↓p_noN, ↓p_sort, ↓as_nil, ↓as_cons, ↓lb_cc, ↓lb_nc, ↓lb_cn, ↓lb_nn, ↓onE_some, ↓onE_none, ↓at_lit, ↓at_last, ↓q_ss, ↓q_ii, ↓q_bb, ↓q_tt, ↓q_ll, ↓q_vs, ↓q_vi, ↓q_vt, ↓q_nil, ↓q_nilc, ↓q_cnil, ↓q_cons, ↓q_any0, ↓q_any1, ↓q_anyS, seqR, seqV, truthV, settle, settles, isNil, pre2, pre3, intOf, bindT, bindTs, permute, isV, wipeE, List.length_cons, List.length_nil, List.getElem?_cons_zero, List.getElem?_cons_succ, List.set_cons_zero, List.set_cons_succ, List.map_cons, List.map_nil, List.replicate, List.append, List.cons_append, List.nil_append, true_and, and_true, if_true, if_false, Bool.false_eq_true, Option.bind, Bool.not_true, Bool.not_false, Bool.true_and, Bool.false_and, Bool.and_true, Bool.and_false, Bool.or_true, Bool.or_false, Bool.true_or, Bool.false_or, lstAt, ownL, mutAt, dicAt, Option.map, Option.map_some, Option.map_none, List.getElem?_nil, keyOk, Bool.or_self, Bool.and_self, Nat.zero_le, Nat.reduceAdd, Nat.reduceSub, Nat.reduceLT, Nat.reduceLeDiff, Nat.reduceEqDiff, Nat.reduceBEq, beq_self_eq_true, Nat.zero_add, Nat.add_zero, List.length_map, top, List.length_append, List.all_cons, List.all_nil, nrR, Val.nr, Val.nrs, pureVal, and_self, List.filterMap_cons, List.filterMap_nil, List.getElem?_concat_length, List.length_set]
        exact ⟨_, rfl, h0, h1, h2, a0, a1, a2, rfl, k⟩
      rintro ρ st ⟨h0, h1, h2, a0, a1, a2, rfl, k⟩
      refine seq_ok (fun ρ st => ∃ v, isM v ∧ ρ = [some (.ref 0), some (.ref d), some (.int i), some (hV h0 h1 h2), some v, o5, o6, o7] ∧ Dk st d l) ?_ ?_
      · simp only [Int.reduceLT, ↓k_ok, ↓k_bad, ↓k_bind, ↓k_ite, ↓k_lift, ↓k_noX, ↓k_optT, ↓k_optF, ↓k_op2T, ↓k_op2F, ↓k_optCT, ↓k_optCF, ↓on_some, ↓on_none, ↓e_k, ↓e_g, ↓e_x, ↓e_tup, ↓e_lst, ↓e_op1, ↓e_op2, ↓e_op3, ↓e_sl, ↓e_and, ↓e_or, ↓e_not, ↓e_ite, ↓e_chain, ↓e_call, ↓e_nil, ↓e_cons, ↓e_dic, ↓e_comp, ↓s_skip, ↓s_seq, ↓s_asg, ↓s_ex, ↓s_ret, ↓s_retN, ↓s_brk, ↓s_cont, ↓s_ite, ↓s_fo, ↓g_tg, ↓g_sub, ↓r_run, ↓r_call, ↓r_pure, ↓p_eq, ↓p_ne, ↓p_lt, ↓p_le, ↓p_gt, ↓p_ge, ↓p_addI, ↓p_addS, ↓p_addT, ↓p_sub, ↓p_mul, ↓p_mod, ↓p_fdiv, ↓p_pow, ↓p_in, ↓p_notin, ↓p_ixT, ↓p_neg, ↓p_abs, ↓p_int, ↓p_intB, ↓p_lenS, ↓p_tuple, ↓p_list, ↓p_repr, ↓p_rev, ↓p_slT, ↓p_slr, ↓p_sll, ↓vb_ss, ↓p_addl, ↓p_addr, ↓p_ixl, ↓p_ixri, ↓p_ixrs, ↓p_app, ↓p_ext, ↓p_popa, ↓p_popz, ↓p_ins, ↓p_lenT, ↓p_lenl, ↓p_lenr, ↓p_set, ↓p_isN, ↓p_noN, ↓p_sort, ↓as_nil, ↓as_cons, ↓lb_cc, ↓lb_nc, ↓lb_cn, ↓lb_nn, ↓onE_some, ↓onE_none, ↓at_lit, ↓at_last, ↓q_ss, ↓q_ii, ↓q_bb, ↓q_tt, ↓q_ll, ↓q_vs, ↓q_vi, ↓q_vt, ↓q_nil, ↓q_nilc, ↓q_cnil, ↓q_cons, ↓q_any0, ↓q_any1, ↓q_anyS, seqR, seqV, truthV, settle, settles, isNil, pre2, pre3, intOf, bindT, bindTs, permute, isV, wipeE, List.length_cons, List.length_nil, List.getElem?_cons_zero, List.getElem?_cons_succ, List.set_cons_zero, List.set_cons_succ, List.map_cons, List.map_nil, List.replicate, List.append, List.cons_append, List.nil_append, true_and, and_true, if_true, if_false, Bool.false_eq_true, Option.bind, Bool.not_true, Bool.not_false, Bool.true_and, Bool.false_and, Bool.and_true, Bool.and_false, Bool.or_true, Bool.or_false, Bool.true_or, Bool.false_or, lstAt, ownL, mutAt, dicAt, Option.map, Option.map_some, Option.map_none, List.getElem?_nil, keyOk, Bool.or_self, Bool.and_self, Nat.zero_le, Nat.reduceAdd, Nat.reduceSub, Nat.reduceLT, Nat.reduceLeDiff, Nat.reduceEqDiff, Nat.reduceBEq, beq_self_eq_true, Nat.zero_add, Nat.add_zero, List.length_map, top, List.length_append, List.all_cons, List.all_nil, nrR, Val.nr, Val.nrs, pureVal, and_self, List.filterMap_cons, List.filterMap_nil, List.getElem?_concat_length, List.length_set]
        split
        · refine Ok.imp (any_ok k) ?_
          rintro r st ⟨⟨v, hv, rfl⟩, k, _⟩
          simp only [↓k_ok, ↓k_bad, ↓k_bind, ↓k_ite, ↓k_lift, ↓k_noX, ↓k_optT, ↓k_optF, ↓k_op2T, ↓k_op2F, ↓k_optCT, ↓k_optCF, ↓on_some, ↓on_none, ↓e_k, ↓e_g, ↓e_x, ↓e_tup, ↓e_lst, ↓e_op1, ↓e_op2, ↓e_op3, ↓e_sl, ↓e_and, ↓e_or, ↓e_not, ↓e_ite, ↓e_chain, ↓e_call, ↓e_nil, ↓e_cons, ↓e_dic, ↓e_comp, ↓s_skip, ↓s_seq, ↓s_asg, ↓s_ex, ↓s_ret, ↓s_retN, ↓s_brk, ↓s_cont, ↓s_ite, ↓s_fo, ↓g_tg, ↓g_sub, ↓r_run, ↓r_call, ↓r_pure, ↓p_eq, ↓p_ne, ↓p_lt, ↓p_le, ↓p_gt, ↓p_ge, ↓p_addI, ↓p_addS, ↓p_addT, ↓p_sub, ↓p_mul, ↓p_mod, ↓p_fdiv, ↓p_pow, ↓p_in, ↓p_notin, ↓p_ixT, ↓p_neg, ↓p_abs, ↓p_int, ↓p_intB, ↓p_lenS, ↓p_tuple, ↓p_list, ↓p_repr, ↓p_rev, ↓p_slT, ↓p_slr, ↓p_sll, ↓vb_ss, ↓p_addl, ↓p_addr, ↓p_ixl, ↓p_ixri, ↓p_ixrs, ↓p_app, ↓p_ext, ↓p_popa, ↓p_popz, ↓p_ins, ↓p_lenT, ↓p_lenl, ↓p_lenr, ↓p_set, ↓p_isN, ↓p_noN, ↓p_sort, ↓as_nil, ↓as_cons, ↓lb_cc, ↓lb_nc, ↓lb_cn, ↓lb_nn, ↓onE_some, ↓onE_none, ↓at_lit, ↓at_last, ↓q_ss, ↓q_ii, ↓q_bb, ↓q_tt, ↓q_ll, ↓q_vs, ↓q_vi, ↓q_vt, ↓q_nil, ↓q_nilc, ↓q_cnil, ↓q_cons, ↓q_any0, ↓q_any1, ↓q_anyS, seqR, seqV, truthV, settle, settles, isNil, pre2, pre3, intOf, bindT, bindTs, permute, isV, wipeE, List.length_cons, List.length_nil, List.getElem?_cons_zero, List.getElem?_cons_succ, List.set_cons_zero, List.set_cons_succ, List.map_cons, List.map_nil, List.replicate, List.append, List.cons_append, List.nil_append, true_and, and_true, if_true, if_false, Bool.false_eq_true, Option.bind, Bool.not_true, Bool.not_false, Bool.true_and, Bool.false_and, Bool.and_true, Bool.and_false, Bool.or_true, Bool.or_false, Bool.true_or, Bool.false_or, lstAt, ownL, mutAt, dicAt, Option.map, Option.map_some, Option.map_none, List.getElem?_nil, keyOk, Bool.or_self, Bool.and_self, Nat.zero_le, Nat.reduceAdd, Nat.reduceSub, Nat.reduceLT, Nat.reduceLeDiff, Nat.reduceEqDiff, Nat.reduceBEq, beq_self_eq_true, Nat.zero_add, Nat.add_zero, List.length_map, top, List.length_append, List.all_cons, List.all_nil, nrR, Val.nr, Val.nrs, pureVal, and_self, List.filterMap_cons, List.filterMap_nil, List.getElem?_concat_length, List.length_set]
          exact ⟨_, rfl, v, hv, rfl, k⟩
        · refine Ok.imp (fit_ok k) ?_
          rintro r st ⟨⟨v, hv, rfl⟩, k, _⟩
          simp only [↓k_ok, ↓k_bad, ↓k_bind, ↓k_ite, ↓k_lift, ↓k_noX, ↓k_optT, ↓k_optF, ↓k_op2T, ↓k_op2F, ↓k_optCT, ↓k_optCF, ↓on_some, ↓on_none, ↓e_k, ↓e_g, ↓e_x, ↓e_tup, ↓e_lst, ↓e_op1, ↓e_op2, ↓e_op3, ↓e_sl, ↓e_and, ↓e_or, ↓e_not, ↓e_ite, ↓e_chain, ↓e_call, ↓e_nil, ↓e_cons, ↓e_dic, ↓e_comp, ↓s_skip, ↓s_seq, ↓s_asg, ↓s_ex, ↓s_ret, ↓s_retN, ↓s_brk, ↓s_cont, ↓s_ite, ↓s_fo, ↓g_tg, ↓g_sub, ↓r_run, ↓r_call, ↓r_pure, ↓p_eq, ↓p_ne, ↓p_lt, ↓p_le, ↓p_gt, ↓p_ge, ↓p_addI, ↓p_addS, ↓p_addT, ↓p_sub, ↓p_mul, ↓p_mod, ↓p_fdiv, ↓p_pow, ↓p_in, ↓p_notin, ↓p_ixT, ↓p_neg, ↓p_abs, ↓p_int, ↓p_intB, ↓p_lenS, ↓p_tuple, ↓p_list, ↓p_repr, ↓p_rev, ↓p_slT, ↓p_slr, ↓p_sll, ↓vb_ss, ↓p_addl, ↓p_addr, ↓p_ixl, ↓p_ixri, ↓p_ixrs, ↓p_app, ↓p_ext, ↓p_popa, ↓p_popz, ↓p_ins, ↓p_lenT, ↓p_lenl, ↓p_lenr, ↓p_set, ↓p_isN, ↓p_noN, ↓p_sort, ↓as_nil, ↓as_cons, ↓lb_cc, ↓lb_nc, ↓lb_cn, ↓lb_nn, ↓onE_some, ↓onE_none, ↓at_lit, ↓at_last, ↓q_ss, ↓q_ii, ↓q_bb, ↓q_tt, ↓q_ll, ↓q_vs, ↓q_vi, ↓q_vt, ↓q_nil, ↓q_nilc, ↓q_cnil, ↓q_cons, ↓q_any0, ↓q_any1, ↓q_anyS, seqR, seqV, truthV, settle, settles, isNil, pre2, pre3, intOf, bindT, bindTs, permute, isV, wipeE, List.length_cons, List.length_nil, List.getElem?_cons_zero, List.getElem?_cons_succ, List.set_cons_zero, List.set_cons_succ, List.map_cons, List.map_nil, List.replicate, List.append, List.cons_append, List.nil_append, true_and, and_true, if_true, if_false, Bool.false_eq_true, Option.bind, Bool.not_true, Bool.not_false, Bool.true_and, Bool.false_and, Bool.and_true, Bool.and_false, Bool.or_true, Bool.or_false, Bool.true_or, Bool.false_or, lstAt, ownL, mutAt, dicAt, Option.map, Option.map_some, Option.map_none, List.getElem?_nil, keyOk, Bool.or_self, Bool.and_self, Nat.zero_le, Nat.reduceAdd, Nat.reduceSub, Nat.reduceLT, Nat.reduceLeDiff, Nat.reduceEqDiff, Nat.reduceBEq, beq_self_eq_true, Nat.zero_add, Nat.add_zero, List.length_map, top, List.length_append, List.all_cons, List.all_nil, nrR, Val.nr, Val.nrs, pureVal, and_self, List.filterMap_cons, List.filterMap_nil, List.getElem?_concat_length, List.length_set]
          exact ⟨_, rfl, v, hv, rfl, k⟩
      rintro ρ st ⟨v, ⟨p0, p1, p2, p4, t, s, b0, b1, b2, b4, b3, rfl⟩, rfl, k⟩
      simp only [h_nr, m_nr, ↓k_ok, ↓k_bad, ↓k_bind, ↓k_ite, ↓k_lift, ↓k_noX, ↓k_optT, ↓k_optF, ↓k_op2T, ↓k_op2F, ↓k_optCT, ↓k_optCF, ↓on_some, ↓on_none, ↓e_k, ↓e_g, ↓e_x, ↓e_tup, ↓e_lst, ↓e_op1, ↓e_op2, ↓e_op3, ↓e_sl, ↓e_and, ↓e_or, ↓e_not, ↓e_ite, ↓e_chain, ↓e_call, ↓e_nil, ↓e_cons, ↓e_dic, ↓e_comp, ↓s_skip, ↓s_seq, ↓s_asg, ↓s_ex, ↓s_ret, ↓s_retN, ↓s_brk, ↓s_cont, ↓s_ite, ↓s_fo, ↓g_tg, ↓g_sub, ↓r_run, ↓r_call, ↓r_pure, ↓p_eq, ↓p_ne, ↓p_lt, ↓p_le, ↓p_gt, ↓p_ge, ↓p_addI, ↓p_addS, ↓p_addT, ↓p_sub, ↓p_mul, ↓p_mod, ↓p_fdiv, ↓p_pow, ↓p_in, ↓p_notin, ↓p_ixT, ↓p_neg, ↓p_abs, ↓p_int, ↓p_intB, ↓p_lenS, ↓p_tuple, ↓p_list, ↓p_repr, ↓p_rev, ↓p_slT, ↓p_slr, ↓p_sll, ↓vb_ss, ↓p_addl, ↓p_addr, ↓p_ixl, ↓p_ixri, ↓p_ixrs, ↓p_app, ↓p_ext, ↓p_popa, ↓p_popz, ↓p_ins, ↓p_lenT, ↓p_lenl, ↓p_lenr, ↓p_set, ↓p_isN, ↓p_noN, ↓p_sort, ↓as_nil, ↓as_cons, ↓lb_cc, ↓lb_nc, ↓lb_cn, ↓lb_nn, ↓onE_some, ↓onE_none, ↓at_lit, ↓at_last, ↓q_ss, ↓q_ii, ↓q_bb, ↓q_tt, ↓q_ll, ↓q_vs, ↓q_vi, ↓q_vt, ↓q_nil, ↓q_nilc, ↓q_cnil, ↓q_cons, ↓q_any0, ↓q_any1, ↓q_anyS, seqR, seqV, truthV, settle, settles, isNil, pre2, pre3, intOf, bindT, bindTs, permute, isV, wipeE, List.length_cons, List.length_nil, List.getElem?_cons_zero, List.getElem?_cons_succ, List.set_cons_zero, List.set_cons_succ, List.map_cons, List.map_nil, List.replicate, List.append, List.cons_append, List.nil_append, true_and, and_true, if_true, if_false, Bool.false_eq_true, Option.bind, Bool.not_true, Bool.not_false, Bool.true_and, Bool.false_and, Bool.and_true, Bool.and_false, Bool.or_true, Bool.or_false, Bool.true_or, Bool.false_or, lstAt, ownL, mutAt, dicAt, Option.map, Option.map_some, Option.map_none, List.getElem?_nil, keyOk, Bool.or_self, Bool.and_self, Nat.zero_le, Nat.reduceAdd, Nat.reduceSub, Nat.reduceLT, Nat.reduceLeDiff, Nat.reduceEqDiff, Nat.reduceBEq, beq_self_eq_true, Nat.zero_add, Nat.add_zero, List.length_map, top, List.length_append, List.all_cons, List.all_nil, nrR, Val.nr, Val.nrs, pureVal, and_self, List.filterMap_cons, List.filterMap_nil, List.getElem?_concat_length, List.length_set]
      refine Ok.imp (near_ok a0 a1 a2 b0 b1 b2 b3 b4) ?_
      rintro r _ ⟨ps, rfl, hps, lps⟩
      have hn : Val.nrs ps = true := by
        clear lps
        induction ps with
        | nil => rfl
        | cons p ps ih => simp only [Val.nrs, (hps p List.mem_cons_self).nr, ih fun q hq => hps q (List.mem_cons_of_mem _ hq), Bool.and_self]
      simp only [hn, walk_el, ↓k_ok, ↓k_bad, ↓k_bind, ↓k_ite, ↓k_lift, ↓k_noX, ↓k_optT, ↓k_optF, ↓k_op2T, ↓k_op2F, ↓k_optCT, ↓k_optCF, ↓on_some, ↓on_none, ↓e_k, ↓e_g, ↓e_x, ↓e_tup, ↓e_lst, ↓e_op1, ↓e_op2, ↓e_op3, ↓e_sl, ↓e_and, ↓e_or, ↓e_not, ↓e_ite, ↓e_chain, ↓e_call, ↓e_nil, ↓e_cons, ↓e_dic, ↓e_comp, ↓s_skip, ↓s_seq, ↓s_asg, ↓s_ex, ↓s_ret, ↓s_retN, ↓s_brk, ↓s_cont, ↓s_ite, ↓s_fo, ↓g_tg, ↓g_sub, ↓r_run, ↓r_call, ↓r_pure, ↓p_eq, ↓p_ne, ↓p_lt, ↓p_le, ↓p_gt, ↓p_ge, ↓p_addI, ↓p_addS, ↓p_addT, ↓p_sub, ↓p_mul, ↓p_mod, ↓p_fdiv, ↓p_pow, ↓p_in, ↓p_notin, ↓p_ixT, ↓p_neg, ↓p_abs, ↓p_int, ↓p_intB, ↓p_lenS, ↓p_tuple, ↓p_list, ↓p_repr, ↓p_rev, ↓p_slT, ↓p_slr, ↓p_sll, ↓vb_ss, ↓p_addl, ↓p_addr, ↓p_ixl, ↓p_ixri, ↓p_ixrs, ↓p_app, ↓p_ext, ↓p_popa, ↓p_popz, ↓p_ins, ↓p_lenT, ↓p_lenl, ↓p_lenr, ↓p_set, ↓p_isN, ↓p_noN, ↓p_sort, ↓as_nil, ↓as_cons, ↓lb_cc, ↓lb_nc, ↓lb_cn, ↓lb_nn, ↓onE_some, ↓onE_none, ↓at_lit, ↓at_last, ↓q_ss, ↓q_ii, ↓q_bb, ↓q_tt, ↓q_ll, ↓q_vs, ↓q_vi, ↓q_vt, ↓q_nil, ↓q_nilc, ↓q_cnil, ↓q_cons, ↓q_any0, ↓q_any1, ↓q_anyS, seqR, seqV, truthV, settle, settles, isNil, pre2, pre3, intOf, bindT, bindTs, permute, isV, wipeE, List.length_cons, List.length_nil, List.getElem?_cons_zero, List.getElem?_cons_succ, List.set_cons_zero, List.set_cons_succ, List.map_cons, List.map_nil, List.replicate, List.append, List.cons_append, List.nil_append, true_and, and_true, if_true, if_false, Bool.false_eq_true, Option.bind, Bool.not_true, Bool.not_false, Bool.true_and, Bool.false_and, Bool.and_true, Bool.and_false, Bool.or_true, Bool.or_false, Bool.true_or, Bool.false_or, lstAt, ownL, mutAt, dicAt, Option.map, Option.map_some, Option.map_none, List.getElem?_nil, keyOk, Bool.or_self, Bool.and_self, Nat.zero_le, Nat.reduceAdd, Nat.reduceSub, Nat.reduceLT, Nat.reduceLeDiff, Nat.reduceEqDiff, Nat.reduceBEq, beq_self_eq_true, Nat.zero_add, Nat.add_zero, List.length_map, top, List.length_append, List.all_cons, List.all_nil, nrR, Val.nr, Val.nrs, pureVal, and_self, List.filterMap_cons, List.filterMap_nil, List.getElem?_concat_length, List.length_set]
      refine ⟨by omega, ?_⟩
      refine for_inv (fun xs ρ st => (∀ x ∈ xs, ∃ (j : Int) (v : Val), isHM v ∧ x = .tup [.int j, v]) ∧ (∃ o5 o6 o7, ρ = [some (.ref 0), some (.ref d), some (.int i), some (hV h0 h1 h2), some (mV p0 p1 p2 p4 t s), o5, o6, o7]) ∧ Dk st d l) ?_ ?_ ?_ _ _ _ ⟨fun x hx => ?_, ⟨_, _, _, rfl⟩, k⟩
      · intros; rfl
      · rintro x ys ρ st ⟨hy, ⟨o5, o6, o7, rfl⟩, k⟩
        obtain ⟨j, v, ⟨g0, g1, g2, q0, q1, q2, q4, u, z, c0, c1, c2, e0, e1, e2, e3, e4, rfl⟩, rfl⟩ := hy x List.mem_cons_self
        have hy' := fun y h => hy y (List.mem_cons_of_mem _ h)
        clear hy
        obtain ⟨f, hf⟩ := Classical.skolem.mp (right_ok (s := z) c0 c1 c2 e0 e1 e2 e3 e4)
        refine ⟨_, rfl, ?_⟩
        simp only [hf, h_nr, m_nr, ite_self, ↓k_ok, ↓k_bad, ↓k_bind, ↓k_ite, ↓k_lift, ↓k_noX, ↓k_optT, ↓k_optF, ↓k_op2T, ↓k_op2F, ↓k_optCT, ↓k_optCF, ↓on_some, ↓on_none, ↓e_k, ↓e_g, ↓e_x, ↓e_tup, ↓e_lst, ↓e_op1, ↓e_op2, ↓e_op3, ↓e_sl, ↓e_and, ↓e_or, ↓e_not, ↓e_ite, ↓e_chain, ↓e_call, ↓e_nil, ↓e_cons, ↓e_dic, ↓e_comp, ↓s_skip, ↓s_seq, ↓s_asg, ↓s_ex, ↓s_ret, ↓s_retN, ↓s_brk, ↓s_cont, ↓s_ite, ↓s_fo, ↓g_tg, ↓g_sub, ↓r_run, ↓r_call, ↓r_pure, ↓p_eq, ↓p_ne, ↓p_lt, ↓p_le, ↓p_gt, ↓p_ge, ↓p_addI, ↓p_addS, ↓p_addT, ↓p_sub, ↓p_mul, ↓p_mod, ↓p_fdiv, ↓p_pow, ↓p_in, ↓p_notin, ↓p_ixT, ↓p_neg, ↓p_abs, ↓p_int, ↓p_intB, ↓p_lenS, ↓p_tuple, ↓p_list, ↓p_repr, ↓p_rev, ↓p_slT, ↓p_slr, ↓p_sll, ↓vb_ss, ↓p_addl, ↓p_addr, ↓p_ixl, ↓p_ixri, ↓p_ixrs, ↓p_app, ↓p_ext, ↓p_popa, ↓p_popz, ↓p_ins, ↓p_lenT, ↓p_lenl, ↓p_lenr, ↓p_set, ↓p_isN, ↓p_noN, ↓p_sort, ↓as_nil, ↓as_cons, ↓lb_cc, ↓lb_nc, ↓lb_cn, ↓lb_nn, ↓onE_some, ↓onE_none, ↓at_lit, ↓at_last, ↓q_ss, ↓q_ii, ↓q_bb, ↓q_tt, ↓q_ll, ↓q_vs, ↓q_vi, ↓q_vt, ↓q_nil, ↓q_nilc, ↓q_cnil, ↓q_cons, ↓q_any0, ↓q_any1, ↓q_anyS, seqR, seqV, truthV, settle, settles, isNil, pre2, pre3, intOf, bindT, bindTs, permute, isV, wipeE, List.length_cons, List.length_nil, List.getElem?_cons_zero, List.getElem?_cons_succ, List.set_cons_zero, List.set_cons_succ, List.map_cons, List.map_nil, List.replicate, List.append, List.cons_append, List.nil_append, true_and, and_true, if_true, if_false, Bool.false_eq_true, Option.bind, Bool.not_true, Bool.not_false, Bool.true_and, Bool.false_and, Bool.and_true, Bool.and_false, Bool.or_true, Bool.or_false, Bool.true_or, Bool.false_or, lstAt, ownL, mutAt, dicAt, Option.map, Option.map_some, Option.map_none, List.getElem?_nil, keyOk, Bool.or_self, Bool.and_self, Nat.zero_le, Nat.reduceAdd, Nat.reduceSub, Nat.reduceLT, Nat.reduceLeDiff, Nat.reduceEqDiff, Nat.reduceBEq, beq_self_eq_true, Nat.zero_add, Nat.add_zero, List.length_map, top, List.length_append, List.all_cons, List.all_nil, nrR, Val.nr, Val.nrs, pureVal, and_self, List.filterMap_cons, List.filterMap_nil, List.getElem?_concat_length, List.length_set]
        exact ⟨hy', ⟨_, _, _, rfl⟩, k⟩
      · rintro ρ st ⟨_, ⟨o5, o6, o7, rfl⟩, k⟩
        simp only [↓k_ok, ↓k_bad, ↓k_bind, ↓k_ite, ↓k_lift, ↓k_noX, ↓k_optT, ↓k_optF, ↓k_op2T, ↓k_op2F, ↓k_optCT, ↓k_optCF, ↓on_some, ↓on_none, ↓e_k, ↓e_g, ↓e_x, ↓e_tup, ↓e_lst, ↓e_op1, ↓e_op2, ↓e_op3, ↓e_sl, ↓e_and, ↓e_or, ↓e_not, ↓e_ite, ↓e_chain, ↓e_call, ↓e_nil, ↓e_cons, ↓e_dic, ↓e_comp, ↓s_skip, ↓s_seq, ↓s_asg, ↓s_ex, ↓s_ret, ↓s_retN, ↓s_brk, ↓s_cont, ↓s_ite, ↓s_fo, ↓g_tg, ↓g_sub, ↓r_run, ↓r_call, ↓r_pure, ↓p_eq, ↓p_ne, ↓p_lt, ↓p_le, ↓p_gt, ↓p_ge, ↓p_addI, ↓p_addS, ↓p_addT, ↓p_sub, ↓p_mul, ↓p_mod, ↓p_fdiv, ↓p_pow, ↓p_in, ↓p_notin, ↓p_ixT, ↓p_neg, ↓p_abs, ↓p_int, ↓p_intB, ↓p_lenS, ↓p_tuple, ↓p_list, ↓p_repr, ↓p_rev, ↓p_slT, ↓p_slr, ↓p_sll, ↓vb_ss, ↓p_addl, ↓p_addr, ↓p_ixl, ↓p_ixri, ↓p_ixrs, ↓p_app, ↓p_ext, ↓p_popa, ↓p_popz, ↓p_ins, ↓p_lenT, ↓p_lenl, ↓p_lenr, ↓p_set, ↓p_isN, ↓p_noN, ↓p_sort, ↓as_nil, ↓as_cons, ↓lb_cc, ↓lb_nc, ↓lb_cn, ↓lb_nn, ↓onE_some, ↓onE_none, ↓at_lit, ↓at_last, ↓q_ss, ↓q_ii, ↓q_bb, ↓q_tt, ↓q_ll, ↓q_vs, ↓q_vi, ↓q_vt, ↓q_nil, ↓q_nilc, ↓q_cnil, ↓q_cons, ↓q_any0, ↓q_any1, ↓q_anyS, seqR, seqV, truthV, settle, settles, isNil, pre2, pre3, intOf, bindT, bindTs, permute, isV, wipeE, List.length_cons, List.length_nil, List.getElem?_cons_zero, List.getElem?_cons_succ, List.set_cons_zero, List.set_cons_succ, List.map_cons, List.map_nil, List.replicate, List.append, List.cons_append, List.nil_append, true_and, and_true, if_true, if_false, Bool.false_eq_true, Option.bind, Bool.not_true, Bool.not_false, Bool.true_and, Bool.false_and, Bool.and_true, Bool.and_false, Bool.or_true, Bool.or_false, Bool.true_or, Bool.false_or, lstAt, ownL, mutAt, dicAt, Option.map, Option.map_some, Option.map_none, List.getElem?_nil, keyOk, Bool.or_self, Bool.and_self, Nat.zero_le, Nat.reduceAdd, Nat.reduceSub, Nat.reduceLT, Nat.reduceLeDiff, Nat.reduceEqDiff, Nat.reduceBEq, beq_self_eq_true, Nat.zero_add, Nat.add_zero, List.length_map, top, List.length_append, List.all_cons, List.all_nil, nrR, Val.nr, Val.nrs, pureVal, and_self, List.filterMap_cons, List.filterMap_nil, List.getElem?_concat_length, List.length_set]
        exact ⟨hx', ⟨_, _, _, _, _, _, rfl⟩, k⟩
      · obtain ⟨j, v, hv, rfl⟩ := mem_zipE hx
        refine ⟨j, v, ?_, rfl⟩
        rcases List.mem_cons.mp hv with rfl | hv
        · exact ⟨h0, h1, h2, p0, p1, p2, p4, t, s, a0, a1, a2, b0, b1, b2, b3, b4, rfl⟩
        · exact hps v hv
    · rintro ρ st ⟨_, ⟨o2, o3, o4, o5, o6, o7, rfl⟩, k⟩
      exact ⟨_, rfl⟩
    · obtain ⟨i, _, _, rfl⟩ := mem_rng hx
      exact ⟨i, rfl⟩
  rintro ρ st _
  simp only [↓k_ok, ↓k_bad, ↓k_bind, ↓k_ite, ↓k_lift, ↓k_noX, ↓k_optT, ↓k_optF, ↓k_op2T, ↓k_op2F, ↓k_optCT, ↓k_optCF, ↓on_some, ↓on_none, ↓e_k, ↓e_g, ↓e_x, ↓e_tup, ↓e_lst, ↓e_op1, ↓e_op2, ↓e_op3, ↓e_sl, ↓e_and, ↓e_or, ↓e_not, ↓e_ite, ↓e_chain, ↓e_call, ↓e_nil, ↓e_cons, ↓e_dic, ↓e_comp, ↓s_skip, ↓s_seq, ↓s_asg, ↓s_ex, ↓s_ret, ↓s_retN, ↓s_brk, ↓s_cont, ↓s_ite, ↓s_fo, ↓g_tg, ↓g_sub, ↓r_run, ↓r_call, ↓r_pure, ↓p_eq, ↓p_ne, ↓p_lt, ↓p_le, ↓p_gt, ↓p_ge, ↓p_addI, ↓p_addS, ↓p_addT, ↓p_sub, ↓p_mul, ↓p_mod, ↓p_fdiv, ↓p_pow, ↓p_in, ↓p_notin, ↓p_ixT, ↓p_neg, ↓p_abs, ↓p_int, ↓p_intB, ↓p_lenS, ↓p_tuple, ↓p_list, ↓p_repr, ↓p_rev, ↓p_slT, ↓p_slr, ↓p_sll, ↓vb_ss, ↓p_addl, ↓p_addr, ↓p_ixl, ↓p_ixri, ↓p_ixrs, ↓p_app, ↓p_ext, ↓p_popa, ↓p_popz, ↓p_ins, ↓p_lenT, ↓p_lenl, ↓p_lenr, ↓p_set, ↓p_isN, ↓p_noN, ↓p_sort, ↓as_nil, ↓as_cons, ↓lb_cc, ↓lb_nc, ↓lb_cn, ↓lb_nn, ↓onE_some, ↓onE_none, ↓at_lit, ↓at_last, ↓q_ss, ↓q_ii, ↓q_bb, ↓q_tt, ↓q_ll, ↓q_vs, ↓q_vi, ↓q_vt, ↓q_nil, ↓q_nilc, ↓q_cnil, ↓q_cons, ↓q_any0, ↓q_any1, ↓q_anyS, seqR, seqV, truthV, settle, settles, isNil, pre2, pre3, intOf, bindT, bindTs, permute, isV, wipeE, List.length_cons, List.length_nil, List.getElem?_cons_zero, List.getElem?_cons_succ, List.set_cons_zero, List.set_cons_succ, List.map_cons, List.map_nil, List.replicate, List.append, List.cons_append, List.nil_append, true_and, and_true, if_true, if_false, Bool.false_eq_true, Option.bind, Bool.not_true, Bool.not_false, Bool.true_and, Bool.false_and, Bool.and_true, Bool.and_false, Bool.or_true, Bool.or_false, Bool.true_or, Bool.false_or, lstAt, ownL, mutAt, dicAt, Option.map, Option.map_some, Option.map_none, List.getElem?_nil, keyOk, Bool.or_self, Bool.and_self, Nat.zero_le, Nat.reduceAdd, Nat.reduceSub, Nat.reduceLT, Nat.reduceLeDiff, Nat.reduceEqDiff, Nat.reduceBEq, beq_self_eq_true, Nat.zero_add, Nat.add_zero, List.length_map, top, List.length_append, List.all_cons, List.all_nil, nrR, Val.nr, Val.nrs, pureVal, and_self, List.filterMap_cons, List.filterMap_nil, List.getElem?_concat_length, List.length_set]
theorem plain {ns : List Int} (hn : ns.length ≤ 63) : ∃ st', f_law [.ref 0] [.frz (ns.map .int)] = .ok (.v (.bl true)) st' := by
  obtain ⟨r, st, e, rfl⟩ := Ok.ex (law_ok hn)
  exact ⟨st, e⟩
end Law
end
open PySem PySem.W PyProof.Rows
set_option maxHeartbeats 0 in
theorem PySem.Challenge.cw_doubtbooks_k27_whole_what_a_manner_lacks_holds : PySem.Challenge.rw_doubtbooks_k27_whole_what_a_manner_lacks.Holds := by
  w_on; o_law; k_head; (case hw => w_witness2)
  k_fill
  refine Mi.walk_mini (l := PySem.Challenge.rw_doubtbooks_k27_whole_what_a_manner_lacks) (n := 63) (k := 5) (x := "script") (F := Law.f_law) rfl (by decide) rfl ⟨rfl, by decide, by decide⟩ (fun w h Y => PySem.W.kIn_of Y) ?L ?F (fun _ h => Law.plain h)
  case F =>
    intro w mg fa h KX G hmg
    refine' Law.all_mk KX G hmg ?a0 ?l0 ?c0 ?k0 ?a1 ?l1 ?c1 ?k1 ?a2 ?l2 ?c2 ?k2 ?a3 ?l3 ?c3 ?k3 ?a4 ?l4 ?c4 ?k4 ?a5 ?l5 ?c5 ?k5 ?a6 ?l6 ?c6 ?k6 ?a7 ?l7 ?c7 ?k7 ?a8 ?l8 ?c8 ?k8 ?a9 ?l9 ?c9 ?k9 ?a10 ?l10 ?c10 ?k10 ?a11 ?l11 ?c11 ?k11 ?a12 ?l12 ?c12 ?k12 ?a13 ?l13 ?c13 ?k13 ?z0 ?z1 ?z2 ?z3 ?z4 ?z5 ?z6 ?z7 ?gg0
    (case a0 => k_is); (case l0 => k_is); (case c0 => k_is); (case k0 => k_is); (case a1 => k_is); (case l1 => k_is); (case c1 => k_is); (case k1 => k_is); (case a2 => k_is); (case l2 => k_is); (case c2 => k_is); (case k2 => k_is); (case a3 => k_is); (case l3 => k_is); (case c3 => k_is); (case k3 => k_is); (case a4 => k_is); (case l4 => k_is); (case c4 => k_is); (case k4 => k_is); (case a5 => k_is); (case l5 => k_is); (case c5 => k_is); (case k5 => k_is); (case a6 => k_is); (case l6 => k_is); (case c6 => k_is); (case k6 => k_is); (case a7 => k_is); (case l7 => k_is); (case c7 => k_is); (case k7 => k_is); (case a8 => k_is); (case l8 => k_is); (case c8 => k_is); (case k8 => k_is); (case a9 => k_is); (case l9 => k_is); (case c9 => k_is); (case k9 => k_is); (case a10 => k_is); (case l10 => k_is); (case c10 => k_is); (case k10 => k_is); (case a11 => k_is); (case l11 => k_is); (case c11 => k_is); (case k11 => k_is); (case a12 => k_is); (case l12 => k_is); (case c12 => k_is); (case k12 => k_is); (case a13 => k_is); (case l13 => k_is); (case c13 => k_is); (case k13 => k_is); (case z0 => k_is); (case z1 => k_is); (case z2 => k_is); (case z3 => k_is); (case z4 => k_is); (case z5 => k_is); (case z6 => k_is); (case z7 => k_is); (case gg0 => k_is)
  case L =>
    intro p
    exact Mi.noList_ok (by rfl)
