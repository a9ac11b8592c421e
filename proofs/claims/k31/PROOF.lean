import PyProof.Rows.All
import Wide.All
import OpenK.AllK
import Wide.FinOn
import HandS.ForMost
import HandS.Wide
import HandS.TupAny
import HandS.TupMul
import HandS.Style
import HandS.Deep
import HandS.IsInst
import PyProof.Rows.EqDataRows
import PyProof.NeKinds
import HandS.RaiseMore
import HandS.More
import KE.SortData
import HandS.Conv
import HandS.WordsExc
import HandS.Zip
import KE.GoesMore
import HandS.Small
import HandS.MakeKwOnly
import HandS.NoneIn
import HandS.Ends
import PySem.Challenge.RW_doubtbooks_k31_whole_the_least_ways
import PyProof.TableCode
set_option Elab.async false
set_option linter.all false
section
set_option linter.all false
set_option autoImplicit false
/-! MiCore: Mini, an own small language: values, stores, the syntax, the interpreter. -/
namespace Mi

/-- a value: tuples stand by value, lists and dicts by a reference into the store -/
inductive Val where
  | non
  | bl (b : Bool)
  | int (i : Int)
  | str (x : List Nat)
  | tup (xs : List Val)
  | ref (n : Nat)

mutual
def Val.beq : Val → Val → Bool
  | .non, .non => true
  | .bl a, .bl b => a == b
  | .int a, .int b => a == b
  | .str a, .str b => a == b
  | .tup a, .tup b => Val.beqs a b
  | .ref a, .ref b => a == b
  | _, _ => false
def Val.beqs : List Val → List Val → Bool
  | [], [] => true
  | x :: xs, y :: ys => Val.beq x y && Val.beqs xs ys
  | _, _ => false
end
mutual
theorem Val.beq_refl : ∀ a : Val, Val.beq a a = true
  | .non => by simp [Val.beq]
  | .bl b => by simp [Val.beq]
  | .int b => by simp [Val.beq]
  | .str b => by simp [Val.beq]
  | .tup xs => by simp [Val.beq, Val.beqs_refl xs]
  | .ref b => by simp [Val.beq]
theorem Val.beqs_refl : ∀ a : List Val, Val.beqs a a = true
  | [] => by simp [Val.beqs]
  | x :: xs => by simp [Val.beqs, Val.beq_refl x, Val.beqs_refl xs]
end
mutual
theorem Val.eq_of_beq : ∀ a b : Val, Val.beq a b = true → a = b
  | .non, b, h => by cases b <;> simp_all [Val.beq]
  | .bl _, b, h => by cases b <;> simp_all [Val.beq]
  | .int _, b, h => by cases b <;> simp_all [Val.beq]
  | .str _, b, h => by cases b <;> simp_all [Val.beq]
  | .tup xs, b, h => by
    cases b with
    | tup ys => rw [Val.eq_of_beqs xs ys (by simpa [Val.beq] using h)]
    | _ => simp [Val.beq] at h
  | .ref _, b, h => by cases b <;> simp_all [Val.beq]
theorem Val.eq_of_beqs : ∀ a b : List Val, Val.beqs a b = true → a = b
  | [], b, h => by cases b <;> simp_all [Val.beqs]
  | x :: xs, b, h => by
    cases b with
    | nil => simp [Val.beqs] at h
    | cons y ys =>
      simp only [Val.beqs, Bool.and_eq_true] at h
      rw [Val.eq_of_beq x y h.1, Val.eq_of_beqs xs ys h.2]
end
instance : BEq Val := ⟨Val.beq⟩
instance : LawfulBEq Val where
  rfl := fun {a} => Val.beq_refl a
  eq_of_beq := fun {a b} h => Val.eq_of_beq a b h
instance : DecidableEq Val := fun a b => if h : Val.beq a b = true then .isTrue (Val.eq_of_beq a b h) else .isFalse fun e => h (e ▸ Val.beq_refl a)

/-- what the store holds: a list, a list that is only read, a dict (t: its keys are tuples) -/
inductive Obj where
  | lst (xs : List Val)
  | frz (xs : List Val)
  | dic (t : Bool) (kvs : List (Val × Val))
  deriving DecidableEq
abbrev Store := List Obj
/-- an expression's value: a value, or a new list that nobody holds yet -/
inductive RV where
  | v (x : Val)
  | l (xs : List Val)
  deriving DecidableEq
inductive Res (α : Type) where
  | ok (a : α) (st : Store)
  | exc (c : Nat) (p : List Val) (st : Store)
  | bad
abbrev Env := List (Option Val)
abbrev Fn := List Val → Store → Res RV

def Res.bind {α β : Type} : Res α → (α → Store → Res β) → Res β
  | .ok a st, f => f a st
  | .exc c p st, _ => .exc c p st
  | .bad, _ => .bad
/-- an option in the place of a result -/
def lift {α : Type} (o : Option α) (st : Store) : Res α := match o with
  | some a => .ok a st
  | none => .bad

mutual
/-- no reference within -/
def Val.nr : Val → Bool
  | .tup xs => Val.nrs xs
  | .ref _ => false
  | _ => true
def Val.nrs : List Val → Bool
  | [] => true
  | x :: xs => Val.nr x && Val.nrs xs
end

abbrev top : Nat := 16777216

/-! ### views -/
/-- the list that stands at a reference -/
def lstAt (st : Store) (n : Nat) : Option (List Val) := match st[n]? with
  | some (.lst xs) => some xs
  | some (.frz xs) => some xs
  | _ => none
/-- a sequence: whether it is a list, and its items -/
def seqV (st : Store) : Val → Option (Bool × List Val)
  | .tup xs => some (false, xs)
  | .ref n => (lstAt st n).map fun xs => (true, xs)
  | _ => none
def seqR (st : Store) : RV → Option (Bool × List Val)
  | .v x => seqV st x
  | .l xs => some (true, xs)
def dicAt (st : Store) : RV → Option (Nat × Bool × List (Val × Val))
  | .v (.ref n) => match st[n]? with
    | some (.dic t kvs) => some (n, t, kvs)
    | _ => none
  | _ => none
/-- a list that may be changed -/
def mutAt (st : Store) : RV → Option (Nat × List Val)
  | .v (.ref n) => match st[n]? with
    | some (.lst xs) => some (n, xs)
    | _ => none
  | _ => none
/-- a list that is no locked one -/
def ownL (st : Store) : RV → Option (List Val)
  | .l xs => some xs
  | .v (.ref n) => match st[n]? with
    | some (.lst xs) => some xs
    | _ => none
  | _ => none
/-- a new list moves into the store -/
def settle (r : RV) (st : Store) : Val × Store := match r with
  | .v x => (x, st)
  | .l xs => (.ref st.length, st ++ [.lst xs])
def settles : List RV → Store → List Val × Store
  | [], st => ([], st)
  | r :: rs, st =>
    let p := settle r st
    let q := settles rs p.2
    (p.1 :: q.1, q.2)

def truthV (st : Store) : RV → Option Bool
  | .v .non => some false
  | .v (.bl b) => some b
  | .v (.int i) => some (i != 0)
  | .v (.str x) => if x.length ≤ top then some (!x.isEmpty) else none
  | .v (.tup xs) => some (!xs.isEmpty)
  | .v (.ref n) => match st[n]? with
    | some (.lst xs) => some (!xs.isEmpty)
    | some (.frz xs) => some (!xs.isEmpty)
    | some (.dic false kvs) => some (!kvs.isEmpty)
    | _ => none
  | .l xs => some (!xs.isEmpty)

/-! ### equality, order -/
def b2i (b : Bool) : Int := if b then 1 else 0
def eqFlat : Val → Val → Option Bool
  | .non, .non => some true
  | .bl a, .bl b => some (a == b)
  | .bl a, .int j => some (b2i a == j)
  | .int i, .bl b => some (i == b2i b)
  | .int i, .int j => some (i == j)
  | .str x, .str y => some (x == y)
  | .non, .bl _ | .non, .int _ | .non, .str _ => some false
  | .bl _, .non | .bl _, .str _ => some false
  | .int _, .non | .int _, .str _ => some false
  | .str _, .non | .str _, .bl _ | .str _, .int _ => some false
  | _, _ => none
def isFlat : Val → Bool
  | .non | .bl _ | .int _ | .str _ => true
  | _ => false
def eqAll (f : Val → Val → Option Bool) : List Val → List Val → Option Bool
  | [], [] => some true
  | x :: xs, y :: ys => (f x y).bind fun b => (eqAll f xs ys).bind fun c => some (b && c)
  | [], _ :: _ => some false
  | _ :: _, [] => some false
def eqV : Nat → Store → Val → Val → Option Bool
  | 0, _, _, _ => none
  | n + 1, st, a, b => match seqV st a, seqV st b with
    | some (k, xs), some (j, ys) => if k == j then (if k && xs.length != ys.length then some false else eqAll (eqV n st) xs ys) else some false
    | some _, none => if isFlat b then some false else none
    | none, some _ => if isFlat a then some false else none
    | none, none => eqFlat a b
def eqR (st : Store) (a b : RV) : Option Bool := match seqR st a, seqR st b with
    | some (k, xs), some (j, ys) => if k == j then (if k && xs.length != ys.length then some false else eqAll (eqV 60 st) xs ys) else some false
    | some _, none => match b with
      | .v b => if isFlat b then some false else none
      | .l _ => none
    | none, some _ => match a with
      | .v a => if isFlat a then some false else none
      | .l _ => none
    | none, none => match a, b with
      | .v a, .v b => eqFlat a b
      | _, _ => none
def anyEq (st : Store) (x : Val) : List Val → Option Bool
  | [] => some false
  | y :: ys => (eqV 60 st y x).bind fun b => (anyEq st x ys).bind fun c => some (b || c)
def placeEq (st : Store) (x : Val) : List Val → Option Nat
  | [] => none
  | y :: ys => (eqV 60 st y x).bind fun b => if b then (anyEq st x ys).map fun _ => 0 else (placeEq st x ys).map (· + 1)
def countEq (st : Store) (x : Val) : List Val → Option Nat
  | [] => some 0
  | y :: ys => (eqV 60 st y x).bind fun b => (countEq st x ys).map fun n => if b then n + 1 else n

/-! ### places, parts -/
def ix (n : Nat) (i : Int) : Option Nat := if 0 ≤ i then (if i < n then some i.toNat else none) else if -(n : Int) ≤ i then some (i + n).toNat else none
def at' {α : Type} (xs : List α) (i : Int) : Option α := (ix xs.length i).bind fun j => xs[j]?
def cutIx (n d : Nat) : Option Int → Nat
  | none => d
  | some v => if v < 0 then (v + (n : Int)).toNat else min v.toNat n
def cut {α : Type} (xs : List α) (lo hi : Option Int) : List α :=
  (xs.drop (cutIx xs.length 0 lo)).take (cutIx xs.length xs.length hi - cutIx xs.length 0 lo)

/-! ### dicts -/
def keyOk : Bool → Val → Bool
  | false, .int _ => true
  | false, .str _ => true
  | _, _ => false
def kget (kvs : List (Val × Val)) (k : Val) : Option Val := match kvs with
  | [] => none
  | (k', v) :: r => if k' == k then some v else kget r k
def kput (kvs : List (Val × Val)) (k v : Val) : List (Val × Val) :=
  if kvs.any (fun kv => kv.1 == k) then kvs.map (fun kv => if kv.1 == k then (kv.1, v) else kv) else kvs ++ [(k, v)]
end Mi
end
section
set_option linter.all false
set_option autoImplicit false
/-! MiEval: Mini's syntax and interpreter. -/
namespace Mi

inductive O1 where
  | neg | abs | len | int | str | repr | tuple | list | sorted | sum | isNon | notNon | isStr | isInt | isTup | isBool | pop | rev | lmax | lmin | isTrue | notTrue | rngL | rngT
  deriving DecidableEq
inductive O2 where
  | add | sub | mul | mod | fdiv | pow | eq | ne | lt | le | gt | ge | isin | notin | ix | append | extend | popAt | index | count | max2 | min2 | rngL2 | rngT2
  deriving DecidableEq
inductive O3 where
  | insert
  deriving DecidableEq
/-- targets -/
inductive T where
  | sl (i : Nat)
  | tp (ts : T)
  | nil
  | cons (t ts : T)
/-- what is walked -/
inductive IK where
  | seq | range1 | range2 | enum | zip
  deriving DecidableEq
inductive E where
  | k (v : Val)
  | x (i : Nat)
  | g (nm : List Nat) (v : Val)
  | nil
  | cons (h t : E)
  | tup (es : E)
  | lst (es : E)
  | dic (t : Bool) (es : E)
  | op1 (o : O1) (a : E)
  | op2 (o : O2) (a b : E)
  | op3 (o : O3) (a b c : E)
  | sl (a lo hi : E)
  | and (a b : E)
  | or (a b : E)
  | not (a : E)
  | ite (c a b : E)
  | chain (o p : O2) (a b c : E)
  | call (m : Bool) (j : Nat) (kw : List Nat) (es : E)
  | comp (own : List Nat) (tg : T) (ik : IK) (a b c e : E)
inductive G where
  | tg (t : T)
  | un (ts : T)
  | mv (i j : Nat)
  | sub (o i : E)
  | nil
  | cons (g gs : G)
inductive S where
  | skip
  | seq (s t : S)
  | asg (g : G) (e : E)
  | ex (e : E)
  | ret (e : E)
  | retN
  | ite (c : E) (s t : S)
  | whil (c : E) (s : S)
  | fo (tg : T) (ik : IK) (a b : E) (s : S)
  | brk | cont | never
inductive Out where
  | nx (ρ : Env) | rt (r : RV) | bk (ρ : Env) | ct (ρ : Env)

/-! ### texts -/
open PySem in
def toStr (x : List Nat) : Str := ⟨x.toArray⟩
/-- the datum that a value without references is -/
def datF : Nat → Store → Val → Option PySem.PyData
  | 0, _, _ => none
  | n + 1, st, a => match seqV st a with
    | some (true, xs) => (xs.mapM (datF n st)).map .list
    | some (false, xs) => (xs.mapM (datF n st)).map .tuple
    | none => match a with
      | .non => some .none
      | .bl b => some (.bool b)
      | .int i => if i.natAbs.log2 < 1920 then some (.int i) else none
      | .str x => if x.all (fun c => decide (c < 4294967296)) then some (.str (toStr x)) else none
      | _ => none
def datR (st : Store) : RV → Option PySem.PyData
  | .v a => datF 60 st a
  | .l xs => (xs.mapM (datF 59 st)).map .list

mutual
/-- how long a datum's text may be -/
def dsz : PySem.PyData → Nat
  | .none => 4
  | .bool _ => 5
  | .int _ => 1921
  | .str x => 10 * x.length + 2
  | .list xs => dszs xs + 2
  | .tuple xs => dszs xs + 3
  | .dict _ => 0
def dszs : List PySem.PyData → Nat
  | [] => 0
  | x :: xs => dsz x + 2 + dszs xs
end

/-! ### the order -/
mutual
def ltV : Val → Val → Option Bool
  | .int i, .int j => some (decide (i < j))
  | .str x, .str y => some (decide (x < y))
  | .tup xs, .tup ys => ltVs xs ys
  | _, _ => none
def ltVs : List Val → List Val → Option Bool
  | [], [] => some false
  | [], _ :: _ => some true
  | _ :: _, [] => some false
  | x :: xs, y :: ys => if x == y then ltVs xs ys else ltV x y
end
def leV (x y : Val) : Bool := (ltV y x).elim false fun b => !b
/-- all can be compared -/
def comparable (xs : List Val) : Bool := xs.all fun x => xs.all fun y => (ltV x y).isSome
def allInts : List Val → Option (List Int)
  | [] => some []
  | .int i :: r => (allInts r).map fun l => i :: l
  | _ => none
def allStrs : List Val → Option (List (List Nat))
  | [] => some []
  | .str i :: r => (allStrs r).map fun l => i :: l
  | _ => none

/-- a sort that Lean's kernel computes -/
def insV {α : Type} (le : α → α → Bool) (x : α) : List α → List α
  | [] => [x]
  | y :: ys => if le x y then x :: y :: ys else y :: insV le x ys
def isort {α : Type} (le : α → α → Bool) : List α → List α
  | [] => []
  | x :: xs => insV le x (isort le xs)
def leN : List Nat → List Nat → Bool
  | [], _ => true
  | _ :: _, [] => false
  | x :: xs, y :: ys => if x < y then true else if x = y then leN xs ys else false
/-! ### the order of tuples, place by place -/
mutual
/-- a value as a row of signs -/
def ktk : Val → List (Int ⊕ List Nat)
  | .non => []
  | .bl b => [.inl (if b then 1 else 0)]
  | .int n => [.inl n]
  | .str x => [.inr x]
  | .tup xs => ktks xs
  | .ref _ => []
def ktks : List Val → List (Int ⊕ List Nat)
  | [] => [.inl 0]
  | x :: xs => .inl 1 :: (ktk x ++ ktks xs)
end
mutual
/-- two values that can be compared place by place -/
def alikeV : Val → Val → Bool
  | .non, .non => true
  | .bl _, .bl _ => true
  | .int _, .int _ => true
  | .str _, .str _ => true
  | .tup xs, .tup ys => alikeVs xs ys
  | _, _ => false
def alikeVs : List Val → List Val → Bool
  | x :: xs, y :: ys => alikeV x y && alikeVs xs ys
  | [], _ => true
  | _ :: _, [] => true
end
mutual
def vdep : Val → Nat
  | .tup xs => vdeps xs + 1
  | _ => 0
def vdeps : List Val → Nat
  | [] => 0
  | x :: xs => max (vdep x) (vdeps xs)
end
def ltA : Int ⊕ List Nat → Int ⊕ List Nat → Bool
  | .inl a, .inl b => decide (a < b)
  | .inl _, .inr _ => true
  | .inr _, .inl _ => false
  | .inr a, .inr b => !leN b a
def ltK : List (Int ⊕ List Nat) → List (Int ⊕ List Nat) → Bool
  | [], [] => false
  | [], _ :: _ => true
  | _ :: _, [] => false
  | x :: r, y :: t => ltA x y || (!ltA y x && ltK r t)
def leT (a b : Val) : Bool := !ltK (ktk b) (ktk a)
/-- a tuple that is not empty, without references -/
def tup1 : Val → Bool
  | .tup (x :: xs) => Val.nr x && Val.nrs xs
  | _ => false
def sortOk (xs : List Val) : Bool := xs.all fun x => tup1 x && decide (vdep x ≤ 60) && xs.all (alikeV x)
def maxI : Int → List Int → Int
  | a, [] => a
  | a, b :: r => maxI (if a < b then b else a) r
def minI : Int → List Int → Int
  | a, [] => a
  | a, b :: r => minI (if b < a then b else a) r
/-! ### operations -/
def rng (lo : Int) (n : Nat) : List Val := (List.range n).map fun (i : Nat) => Val.int (lo + (i : Int))
/-- an object that is no string, no number, no tuple -/
def refF (st : Store) (n : Nat) : Res RV := match st[n]? with
  | some (.lst _) => .ok (.v (.bl false)) st
  | some (.frz _) => .ok (.v (.bl false)) st
  | some (.dic false _) => .ok (.v (.bl false)) st
  | _ => .bad
def rngOk (i j : Int) : Bool := decide (-(2 ^ 62) ≤ i ∧ i < 2 ^ 62 ∧ -(2 ^ 62) ≤ j ∧ j < 2 ^ 62 ∧ (j - i).toNat ≤ top)
def ov (x : Option Val) (st : Store) : Res RV := lift (x.map .v) st
def ol (x : Option (List Val)) (st : Store) : Res RV := lift (x.map .l) st
def intOf : RV → Option Int
  | .v (.int i) => some i
  | _ => none
def f1 (o : O1) (a : RV) (st : Store) : Res RV := match o with
  | .neg => match a with
    | .v (.int i) => .ok (.v (.int (-i))) st
    | _ => .bad
  | .abs => match a with
    | .v (.int i) => .ok (.v (.int (if i < 0 then -i else i))) st
    | _ => .bad
  | .int => match a with
    | .v (.int i) => .ok (.v (.int i)) st
    | .v (.bl b) => .ok (.v (.int (if b then 1 else 0))) st
    | _ => .bad
  | .len => match seqR st a with
    | some (_, xs) => .ok (.v (.int xs.length)) st
    | none => match a with
      | .v (.str x) => if x.length ≤ top then .ok (.v (.int x.length)) st else .bad
      | _ => match dicAt st a with
        | some (_, false, kvs) => .ok (.v (.int kvs.length)) st
        | _ => .bad
  | .str => match a with
    | .v (.int i) => if i.natAbs.log2 < 1920 then .ok (.v (.str (PySem.Str.ofString (toString i)).cps.toList)) st else .bad
    | _ => .bad
  | .repr => match datR st a with
    | some d => if dsz d ≤ top then .ok (.v (.str d.shown.cps.toList)) st else .bad
    | none => .bad
  | .tuple => match seqR st a with
    | some (_, xs) => .ok (.v (.tup xs)) st
    | none => .bad
  | .list => match seqR st a with
    | some (_, xs) => .ok (.l xs) st
    | none => .bad
  | .sorted => match seqR st a with
    | some (true, xs) => if xs.length < 64 then match allStrs xs with
      | some ys => .ok (.l ((isort leN ys).map .str)) st
      | none => match allInts xs with
        | some ys => .ok (.l ((isort (fun a b => decide (a ≤ b)) ys).map .int)) st
        | none => if sortOk xs then .ok (.l (isort leT xs)) st else .bad
      else .bad
    | _ => .bad
  | .sum => match seqR st a with
    | some (true, xs) => match allInts xs with
      | some ys => .ok (.v (.int ys.sum)) st
      | none => .bad
    | _ => .bad
  | .isNon => match a with
    | .v x => .ok (.v (.bl (x == .non))) st
    | .l _ => .ok (.v (.bl false)) st
  | .notNon => match a with
    | .v x => .ok (.v (.bl (!(x == .non)))) st
    | .l _ => .ok (.v (.bl true)) st
  | .isStr => match a with
    | .v (.str _) => .ok (.v (.bl true)) st
    | .v (.ref n) => refF st n
    | .v _ => .ok (.v (.bl false)) st
    | .l _ => .ok (.v (.bl false)) st
  | .isInt => match a with
    | .v (.int _) => .ok (.v (.bl true)) st
    | .v (.bl _) => .ok (.v (.bl true)) st
    | .v (.ref n) => refF st n
    | .v _ => .ok (.v (.bl false)) st
    | .l _ => .ok (.v (.bl false)) st
  | .isTup => match a with
    | .v (.tup _) => .ok (.v (.bl true)) st
    | .v (.ref n) => refF st n
    | .v _ => .ok (.v (.bl false)) st
    | .l _ => .ok (.v (.bl false)) st
  | .isBool => match a with
    | .v (.bl _) => .ok (.v (.bl true)) st
    | .v (.ref n) => refF st n
    | .v _ => .ok (.v (.bl false)) st
    | .l _ => .ok (.v (.bl false)) st
  | .pop => match mutAt st a with
    | some (n, xs) => match xs[xs.length - 1]? with
      | some y => .ok (.v y) (st.set n (.lst xs.dropLast))
      | none => .bad
    | none => .bad
  | .rev => match seqR st a with
    | some (true, xs) => .ok (.l xs.reverse) st
    | _ => .bad
  | .lmax => match seqR st a with
    | some (true, xs) => match allInts xs with
      | some (y :: ys) => .ok (.v (.int (maxI y ys))) st
      | _ => .bad
    | _ => .bad
  | .lmin => match seqR st a with
    | some (true, xs) => match allInts xs with
      | some (y :: ys) => .ok (.v (.int (minI y ys))) st
      | _ => .bad
    | _ => .bad
  | .isTrue => match a with
    | .v (.bl b) => .ok (.v (.bl b)) st
    | _ => .bad
  | .notTrue => match a with
    | .v (.bl b) => .ok (.v (.bl (!b))) st
    | _ => .bad
  | .rngL => match a with
    | .v (.int j) => if rngOk 0 j then .ok (.l (rng 0 (j - 0).toNat)) st else .bad
    | _ => .bad
  | .rngT => match a with
    | .v (.int j) => if rngOk 0 j then .ok (.v (.tup (rng 0 (j - 0).toNat))) st else .bad
    | _ => .bad
def cmpI (p : Int → Int → Bool) (a b : RV) (st : Store) : Res RV := match a, b with
  | .v (.int i), .v (.int j) => .ok (.v (.bl (p i j))) st
  | _, _ => .bad
def f2 (o : O2) (a b : RV) (st : Store) : Res RV := match o with
  | .add => match a, b with
    | .v (.int i), .v (.int j) => .ok (.v (.int (i + j))) st
    | .v (.str x), .v (.str y) => if x.length + y.length ≤ top then .ok (.v (.str (x ++ y))) st else .bad
    | .v (.tup x), .v (.tup y) => if x.length + y.length ≤ top then .ok (.v (.tup (x ++ y))) st else .bad
    | _, _ => match ownL st a, ownL st b with
      | some x, some y => if x.length + y.length ≤ top then .ok (.l (x ++ y)) st else .bad
      | _, _ => .bad
  | .sub => match a, b with
    | .v (.int i), .v (.int j) => .ok (.v (.int (i - j))) st
    | _, _ => .bad
  | .mul => match a, b with
    | .v (.int i), .v (.int j) => if i.natAbs < 2 ^ 64 ∨ j.natAbs < 2 ^ 64 ∨ i.natAbs.log2 + j.natAbs.log2 < 1000000 then .ok (.v (.int (i * j))) st else .bad
    | .v (.tup xs), .v (.int j) => if 2 ≤ j ∧ j ≤ 1000 ∧ xs.length ≤ 1000 ∧ xs ≠ [] then .ok (.v (.tup (List.replicate j.toNat xs).flatten)) st else .bad
    | _, .v (.int j) => match ownL st a with
      | some xs => if -(2 ^ 63) ≤ j ∧ j < 2 ^ 63 ∧ xs.length * j.toNat ≤ top then .ok (.l (List.replicate j.toNat xs).flatten) st else .bad
      | none => .bad
    | _, _ => .bad
  | .mod => match a, b with
    | .v (.int i), .v (.int j) => if 0 < j then .ok (.v (.int (i % j))) st else .bad
    | _, _ => .bad
  | .fdiv => match a, b with
    | .v (.int i), .v (.int j) => if 0 < j ∧ j.natAbs.log2 < 9000 then .ok (.v (.int (i / j))) st else .bad
    | _, _ => .bad
  | .pow => match a, b with
    | .v (.int i), .v (.int j) => if 0 ≤ j ∧ j ≤ 1000000 ∧ i.natAbs < 2 ^ 64 then .ok (.v (.int (i ^ j.toNat))) st else .bad
    | _, _ => .bad
  | .eq => ov ((eqR st a b).map .bl) st
  | .ne => ov ((eqR st a b).map fun b => .bl (!b)) st
  | .lt => cmpI (fun i j => decide (i < j)) a b st
  | .le => cmpI (fun i j => decide (i ≤ j)) a b st
  | .gt => cmpI (fun i j => decide (j < i)) a b st
  | .ge => cmpI (fun i j => decide (j ≤ i)) a b st
  | .isin => match a with
    | .v x => match seqR st b with
      | some (_, ys) => ov ((anyEq st x ys).map .bl) st
      | none => .bad
    | .l _ => .bad
  | .notin => match a with
    | .v x => match seqR st b with
      | some (_, ys) => ov ((anyEq st x ys).map fun b => .bl (!b)) st
      | none => .bad
    | .l _ => .bad
  | .ix => match b with
    | .v k => match seqR st a, k with
      | some (_, xs), .int i => ov (at' xs i) st
      | some _, _ => .bad
      | none, _ => match dicAt st a with
        | some (_, t, kvs) => if keyOk t k then ov (kget kvs k) st else .bad
        | none => .bad
    | .l _ => .bad
  | .append => match mutAt st a with
    | some (n, xs) => if xs.length < top then
        let p := settle b st
        .ok (.v .non) (p.2.set n (.lst (xs ++ [p.1]))) else .bad
    | none => .bad
  | .extend => match mutAt st a, ownL st b with
    | some (n, xs), some ys => if xs.length + ys.length ≤ top then .ok (.v .non) (st.set n (.lst (xs ++ ys))) else .bad
    | _, _ => .bad
  | .popAt => match mutAt st a, b with
    | some (n, xs), .v (.int i) => match ix xs.length i with
      | some j => match xs[j]? with
        | some y => .ok (.v y) (st.set n (.lst (xs.eraseIdx j)))
        | none => .bad
      | none => .bad
    | _, _ => .bad
  | .index => match seqR st a, b with
    | some (true, xs), .v y => ov ((placeEq st y xs).map fun n => .int n) st
    | _, _ => .bad
  | .count => match seqR st a, b with
    | some (true, xs), .v y => ov ((countEq st y xs).map fun n => .int n) st
    | _, _ => .bad
  | .max2 => match a, b with
    | .v (.int i), .v (.int j) => .ok (.v (.int (if j > i then j else i))) st
    | _, _ => .bad
  | .min2 => match a, b with
    | .v (.int i), .v (.int j) => .ok (.v (.int (if j < i then j else i))) st
    | _, _ => .bad
  | .rngL2 => match a, b with
    | .v (.int i), .v (.int j) => if rngOk i j then .ok (.l (rng i (j - i).toNat)) st else .bad
    | _, _ => .bad
  | .rngT2 => match a, b with
    | .v (.int i), .v (.int j) => if rngOk i j then .ok (.v (.tup (rng i (j - i).toNat))) st else .bad
    | _, _ => .bad
def f3 (o : O3) (a b c : RV) (st : Store) : Res RV := match o with
  | .insert => match mutAt st a, b with
    | some (n, xs), .v (.int 0) => if xs.length < top then
        let p := settle c st
        .ok (.v .non) (p.2.set n (.lst (p.1 :: xs))) else .bad
    | _, _ => .bad
/-- a[lo:hi] -/
def fsl (a : RV) (lo hi : Option Int) (st : Store) : Res RV := match seqR st a with
  | some (true, xs) => .ok (.l (cut xs lo hi)) st
  | some (false, xs) => .ok (.v (.tup (cut xs lo hi))) st
  | none => match a with
    | .v (.str x) => if x.length ≤ top then .ok (.v (.str (cut x lo hi))) st else .bad
    | _ => .bad

/-! ### targets, walks -/
mutual
def bindT : T → Val → Env → Option Env
  | .sl i, v, ρ => if i < ρ.length then some (ρ.set i (some v)) else none
  | .tp ts, v, ρ => match v with
    | .tup xs => bindTs ts xs ρ
    | _ => none
  | _, _, _ => none
def bindTs : T → List Val → Env → Option Env
  | .nil, [], ρ => some ρ
  | .cons t ts, x :: xs, ρ => (bindT t x ρ).bind fun ρ' => bindTs ts xs ρ'
  | _, _, _ => none
end
/-- the items of a walk, and the lists that have to stay as they are -/
def watch : RV → List Val → List (Nat × List Val)
  | .v (.ref n), xs => [(n, xs)]
  | _, _ => []
def zipE (xs : List Val) : List Val := (xs.zipIdx).map fun p => .tup [.int p.2, p.1]
def walk (k : IK) (a b : RV) (st : Store) : Option (List Val × List (Nat × List Val)) := match k with
  | .seq => (seqR st a).map fun p => (p.2, watch a p.2)
  | .range1 => match a with
    | .v (.int j) => if -(2 ^ 62) ≤ j ∧ j < 2 ^ 62 then some (rng 0 j.toNat, []) else none
    | _ => none
  | .range2 => match a, b with
    | .v (.int i), .v (.int j) => if -(2 ^ 62) ≤ i ∧ i < 2 ^ 62 ∧ -(2 ^ 62) ≤ j ∧ j < 2 ^ 62 then some (rng i (j - i).toNat, []) else none
    | _, _ => none
  | .enum => match seqR st a with
    | some (true, xs) => some (zipE xs, watch a xs)
    | some (false, xs) => some (zipE xs, [])
    | none => none
  | .zip => match seqR st a, seqR st b with
    | some (k, xs), some (j, ys) => if k == j then some ((xs.zip ys).map fun p => .tup [p.1, p.2], watch a xs ++ watch b ys) else none
    | _, _ => none
def stands (w : List (Nat × List Val)) (st : Store) : Bool := w.all fun p => lstAt st p.1 == some p.2
def forLoop (w : List (Nat × List Val)) (tg : T) (f : Env → Store → Res Out) : List Val → Env → Store → Res Out
  | [], ρ, st => if stands w st then .ok (.nx ρ) st else .bad
  | x :: xs, ρ, st => if stands w st then match bindT tg x ρ with
    | some ρ1 => (f ρ1 st).bind fun o st2 => match o with
      | .nx ρ2 => forLoop w tg f xs ρ2 st2
      | .ct ρ2 => forLoop w tg f xs ρ2 st2
      | .bk ρ2 => .ok (.nx ρ2) st2
      | .rt r => .ok (.rt r) st2
    | none => .bad
    else .bad
def whileLoop (c : Env → Store → Res Bool) (f : Env → Store → Res Out) : Nat → Env → Store → Res Out
  | 0, _, _ => .bad
  | n + 1, ρ, st => (c ρ st).bind fun b st1 => if b then (f ρ st1).bind fun o st2 => match o with
      | .nx ρ2 => whileLoop c f n ρ2 st2
      | .ct ρ2 => whileLoop c f n ρ2 st2
      | .bk ρ2 => .ok (.nx ρ2) st2
      | .rt r => .ok (.rt r) st2
    else .ok (.nx ρ) st1
def compLoop (w : List (Nat × List Val)) (tg : T) (c : Env → Store → Res Bool) (f : Env → Store → Res RV) (ρ : Env) : List Val → List Val → Store → Res (List Val)
  | [], acc, st => if stands w st then .ok acc st else .bad
  | x :: xs, acc, st => if stands w st then match bindT tg x ρ with
    | some ρ1 => (c ρ1 st).bind fun b st1 => if b then (f ρ1 st1).bind fun r st2 =>
          if acc.length < top then
            let p := settle r st2
            compLoop w tg c f ρ xs (acc ++ [p.1]) p.2
          else .bad
        else compLoop w tg c f ρ xs acc st1
    | none => .bad
    else .bad
def wipeE (ρ : Env) : List Nat → Env
  | [] => ρ
  | v :: vs => (wipeE ρ vs).set v none

/-! ### calls -/
/-- a call where nothing is handed on but values and new lists: from an empty store -/
def nrR : RV → Bool
  | .v x => x.nr
  | .l xs => Val.nrs xs
/-- what comes back of it -/
def pureVal (st st1 : Store) (x : Val) : Res RV := match x with
  | .ref n => match st1[n]? with
    | some (.lst xs) => if Val.nrs xs then .ok (.l xs) st else .bad
    | _ => .bad
  | x => if x.nr then .ok (.v x) st else .bad
def pureRes (st : Store) : Res RV → Res RV
  | .ok (.v x) st1 => pureVal st st1 x
  | .ok (.l xs) _ => if Val.nrs xs then .ok (.l xs) st else .bad
  | .exc c p _ => if Val.nrs p then .exc c p st else .bad
  | .bad => .bad
def pureCall (f : Fn) (rs : List RV) (st : Store) : Res RV :=
  if rs.all nrR then pureRes st (f (settles rs []).1 (settles rs []).2) else .bad
def permute (kw : List Nat) (rs : List RV) : List RV := match kw with
  | [] => rs
  | _ => kw.filterMap fun i => rs[i]?
def runCall (m : Bool) (f : Fn) (rs : List RV) (st : Store) : Res RV :=
  if m then pureCall f rs st else
    let p := settles rs st
    f p.1 p.2
def truthR (r : RV) (st : Store) : Res Bool := lift (truthV st r) st
def pairUp : List RV → Option (List (RV × RV))
  | [] => some []
  | a :: b :: r => (pairUp r).map fun l => (a, b) :: l
  | _ => none
def dicOf (t : Bool) : List Val → Option (List (Val × Val))
  | [] => some []
  | k :: v :: r => if keyOk t k then (dicOf t r).map fun l => (k, v) :: l else none
  | _ => none
def mergeD (kvs : List (Val × Val)) (more : List (Val × Val)) : List (Val × Val) := more.foldl (fun acc kv => kput acc kv.1 kv.2) kvs

/-- nothing may be raised -/
def noX {α : Type} : Res α → Res α
  | .exc _ _ _ => .bad
  | r => r
/-- what a method's receiver has to be, ahead of its arguments -/
def pre2 : O2 → RV → Store → Bool
  | .append, r, st | .extend, r, st | .popAt, r, st | .index, r, st | .count, r, st => match seqR st r with
    | some (true, _) => true
    | _ => false
  | _, _, _ => true
def pre3 : O3 → RV → Store → Bool
  | .insert, r, st => match seqR st r with
    | some (true, _) => true
    | _ => false
def isNil : E → Bool
  | .nil => true
  | _ => false
def isV : RV → Bool
  | .v _ => true
  | .l _ => false
/-- on, where a link of a chain holds -/
def chn (z : RV) (st : Store) (k : Store → Res RV) : Res RV := match z with
  | .v (.bl true) => k st
  | .v (.bl false) => .ok (.v (.bl false)) st
  | _ => .bad
/-- a slice's bound -/
def optI (no : Bool) (f : Store → Res RV) (st : Store) : Res (Option Int) :=
  if no then .ok none st else (f st).bind fun r st1 => match r with
    | .v (.int i) => .ok (some i) st1
    | _ => .bad
/-- a walk's second source -/
def opt2 (no : Bool) (f : Store → Res RV) (st : Store) : Res RV := if no then .ok (.v .non) st else f st
/-- a clause's test -/
def optC (no : Bool) (f : Store → Res RV) (st : Store) : Res Bool := if no then .ok true st else (f st).bind fun r st1 => truthR r st1

section
variable (cs : List Fn)
mutual
def ev : E → Env → Store → Res RV
  | .k v, _, st => .ok (.v v) st
  | .x i, ρ, st => match ρ[i]? with
    | some (some v) => .ok (.v v) st
    | _ => .bad
  | .g _ v, _, st => .ok (.v v) st
  | .nil, _, _ => .bad
  | .cons _ _, _, _ => .bad
  | .tup es, ρ, st => (evs es ρ st).bind fun rs st1 =>
      if rs.length ≤ top then
        let p := settles rs st1
        .ok (.v (.tup p.1)) p.2
      else .bad
  | .lst es, ρ, st => (evs es ρ st).bind fun rs st1 =>
      if rs.length ≤ top then
        let p := settles rs st1
        .ok (.l p.1) p.2
      else .bad
  | .dic t es, ρ, st => (evs es ρ st).bind fun rs st1 =>
      let p := settles rs st1
      match dicOf t p.1 with
      | some kvs => if kvs.length ≤ 15 ∧ (t = false ∨ kvs = []) then .ok (.v (.ref p.2.length)) (p.2 ++ [.dic t (mergeD [] kvs)]) else .bad
      | none => .bad
  | .op1 o a, ρ, st => (ev a ρ st).bind fun r st1 => f1 o r st1
  | .op2 o a b, ρ, st => (ev a ρ st).bind fun r st1 => if pre2 o r st1 then (ev b ρ st1).bind fun q st2 => f2 o r q st2 else .bad
  | .op3 o a b c, ρ, st => (ev a ρ st).bind fun r st1 => if pre3 o r st1 then (ev b ρ st1).bind fun q st2 => (ev c ρ st2).bind fun u st3 => f3 o r q u st3 else .bad
  | .sl a lo hi, ρ, st => (ev a ρ st).bind fun r st1 => (optI (isNil lo) (ev lo ρ) st1).bind fun l st2 => (optI (isNil hi) (ev hi ρ) st2).bind fun h st3 => fsl r l h st3
  | .and a b, ρ, st => (ev a ρ st).bind fun r st1 => match r with
    | .v (.bl true) => ev b ρ st1
    | .v (.bl false) => .ok (.v (.bl false)) st1
    | _ => .bad
  | .or a b, ρ, st => (ev a ρ st).bind fun r st1 => match r with
    | .v (.bl true) => .ok (.v (.bl true)) st1
    | .v (.bl false) => ev b ρ st1
    | _ => .bad
  | .not a, ρ, st => (ev a ρ st).bind fun r st1 => (truthR r st1).bind fun b st2 => .ok (.v (.bl (!b))) st2
  | .ite c a b, ρ, st => (ev c ρ st).bind fun r st1 => (truthR r st1).bind fun k st2 => if k then ev a ρ st2 else ev b ρ st2
  | .chain o p a b c, ρ, st => (ev a ρ st).bind fun r st1 => (ev b ρ st1).bind fun q st2 => if isV r && isV q then (f2 o r q st2).bind fun z st3 => chn z st3 fun st4 => (ev c ρ st4).bind fun u st5 => f2 p q u st5 else .bad
  | .call m j kw es, ρ, st => (evs es ρ st).bind fun rs st1 => match cs[j]? with
    | some f => runCall m f (permute kw rs) st1
    | none => .bad
  | .comp own tg k a b c e, ρ, st => (ev a ρ st).bind fun r st1 => (opt2 (isNil b) (ev b ρ) st1).bind fun q st2 => match walk k r q st2 with
    | some (xs, w) => (noX (compLoop w tg (fun ρ' st' => optC (isNil c) (ev c ρ') st') (fun ρ' st' => ev e ρ' st') (wipeE ρ own) xs [] st2)).bind fun l st3 => .ok (.l l) st3
    | none => .bad
/-- an argument list -/
def evs : E → Env → Store → Res (List RV)
  | .nil, _, st => .ok [] st
  | .cons h t, ρ, st => (ev h ρ st).bind fun r st1 => (evs t ρ st1).bind fun rs st2 => .ok (r :: rs) st2
  | _, _, _ => .bad
end
end

/-- o[i] = v -/
def fset (o i : RV) (v : Val) (st : Store) : Res Unit := match i with
  | .v k => match mutAt st o, k with
    | some (n, xs), .int j => match ix xs.length j with
      | some m => .ok () (st.set n (.lst (xs.set m v)))
      | none => .bad
    | some _, _ => .bad
    | none, _ => match dicAt st o with
      | some (n, t, kvs) => if keyOk t k ∧ kvs.length < top then .ok () (st.set n (.dic t (kput kvs k v))) else .bad
      | none => .bad
  | .l _ => .bad
def G.len : G → Nat
  | .cons _ gs => gs.len + 1
  | _ => 0
section
variable (cs : List Fn)
mutual
def setG : G → Val → Env → Store → Res Env
  | .tg t, v, ρ, st => lift (bindT t v ρ) st
  | .mv i _, v, ρ, st => lift (bindT (.sl i) v ρ) st
  | .un ts, v, ρ, st => match v with
    | .ref n => match lstAt st n with
      | some xs => lift (bindTs ts xs ρ) st
      | none => .bad
    | _ => .bad
  | .sub o i, v, ρ, st => (ev cs o ρ st).bind fun r st1 => (ev cs i ρ st1).bind fun q st2 => (fset r q v st2).bind fun _ st3 => .ok ρ st3
  | .cons g gs, v, ρ, st => match v with
    | .tup xs => if xs.length = gs.len + 1 then setGs (.cons g gs) xs ρ st else .bad
    | _ => .bad
  | .nil, _, _, _ => .bad
def setGs : G → List Val → Env → Store → Res Env
  | .nil, [], ρ, st => .ok ρ st
  | .cons g gs, x :: xs, ρ, st => (setG g x ρ st).bind fun ρ1 st1 => setGs gs xs ρ1 st1
  | _, _, _, _ => .bad
end
variable (fuel : Nat)
def ex : S → Env → Store → Res Out
  | .skip, ρ, st => .ok (.nx ρ) st
  | .seq s t, ρ, st => (ex s ρ st).bind fun o st1 => match o with
    | .nx ρ1 => ex t ρ1 st1
    | o => .ok o st1
  | .asg g e, ρ, st => (ev cs e ρ st).bind fun r st1 =>
      let p := settle r st1
      (setG cs g p.1 ρ p.2).bind fun ρ1 st2 => .ok (.nx ρ1) st2
  | .ex e, ρ, st => (ev cs e ρ st).bind fun _ st1 => .ok (.nx ρ) st1
  | .ret e, ρ, st => (ev cs e ρ st).bind fun r st1 => .ok (.rt r) st1
  | .retN, _, st => .ok (.rt (.v .non)) st
  | .ite c s t, ρ, st => (ev cs c ρ st).bind fun r st1 => (truthR r st1).bind fun b st2 => if b then ex s ρ st2 else ex t ρ st2
  | .whil c s, ρ, st => whileLoop (fun ρ' st' => (ev cs c ρ' st').bind fun r st1 => truthR r st1) (fun ρ' st' => ex s ρ' st') fuel ρ st
  | .fo tg k a b s, ρ, st => (ev cs a ρ st).bind fun r st1 => (opt2 (isNil b) (ev cs b ρ) st1).bind fun q st2 => match walk k r q st2 with
    | some (xs, w) => forLoop w tg (fun ρ' st' => ex s ρ' st') xs ρ st2
    | none => .bad
  | .brk, ρ, st => .ok (.bk ρ) st
  | .cont, ρ, st => .ok (.ct ρ) st
  | .never, _, _ => .bad
end
/-- a def: the number of its slots, of its parameters, its body -/
structure Def where
  slots : Nat
  pars : Nat
  body : S
abbrev FUEL : Nat := 1000000
def run (d : Def) (cs : List Fn) : Fn := fun args st =>
  if args.length = d.pars then
    match ex cs FUEL d.body (args.map some ++ List.replicate (d.slots - args.length) none) st with
    | .ok (.rt r) st1 => .ok r st1
    | .ok (.nx _) st1 => .ok (.v .non) st1
    | .ok _ _ => .bad
    | .exc c p st1 => .exc c p st1
    | .bad => .bad
  else .bad
end Mi
end
section
set_option linter.all false
set_option autoImplicit false
set_option maxRecDepth 10000
/-! MiRel: how Mini's values and stores lie in the layer's abstract heap. -/
namespace Mi
open PySem PySem.Spec L2
open PyProof.Rows hiding RelV

abbrev Mu := Nat → Addr
def keyVal : Key → Val
  | .inl i => .int i
  | .inr s => .str s.cps.toList

section
variable (K : PySem.W.Frag) (H : Hp) (μ : Mu) (N : Nat)
mutual
inductive VR : V → Val → Prop
  | non : VR .non .non
  | bl (b : Bool) : VR (.bl b) (.bl b)
  | int (i : Int) : VR (.int i) (.int i)
  | str (x : List Nat) : VR (.str (toStr x)) (.str x)
  | tup {a : Addr} {vs : List V} {ds : List Val} : SqT K H a vs → VRs vs ds → VR (.ref a) (.tup ds)
  | ref {n : Nat} : n < N → VR (.ref (μ n)) (.ref n)
inductive VRs : List V → List Val → Prop
  | nil : VRs [] []
  | cons {v : V} {vs : List V} {d : Val} {ds : List Val} : VR v d → VRs vs ds → VRs (v :: vs) (d :: ds)
end
/-- the pairs of a dict -/
inductive DRs : List (Key × V) → List (Val × Val) → Prop
  | nil : DRs [] []
  | cons {k : Key} {v : V} {d : Val} {l : List (Key × V)} {r : List (Val × Val)} : VR K H μ N v d → DRs l r → DRs ((k, v) :: l) ((keyVal k, d) :: r)
inductive DTs : List (List Key × V) → List (Val × Val) → Prop
  | nil : DTs [] []
  | cons {k : List Key} {v : V} {d : Val} {l : List (List Key × V)} {r : List (Val × Val)} : VR K H μ N v d → DTs l r → DTs ((k, v) :: l) ((.tup (k.map keyVal), d) :: r)
def OR (a : Addr) : Obj → Prop
  | .lst ds => ∃ vs, H a = some (.lst vs) ∧ VRs K H μ N vs ds
  | .frz ds => ∃ o vs, H a = some (.frz o (.lst vs)) ∧ VRs K H μ N vs ds
  | .dic false kvs => ∃ l, H a = some (.dK l) ∧ DRs K H μ N l kvs
  | .dic true kvs => ∃ l, H a = some (.dT l) ∧ DTs K H μ N l kvs
end
structure Rel (K : PySem.W.Frag) (H : Hp) (μ : Mu) (st : Store) : Prop where
  obj : ∀ n o, st[n]? = some o → OR K H μ st.length (μ n) o
  inj : ∀ n m, n < st.length → m < st.length → μ n = μ m → n = m
/-- from a state to a later one -/
structure Post (K : PySem.W.Frag) (μ : Mu) (st : Store) (H : Hp) (μ' : Mu) (st' : Store) (H' : Hp) : Prop where
  same : ∀ n, n < st.length → μ' n = μ n
  len : st.length ≤ st'.length
  rel : Rel K H' μ' st'
  frame : ∀ a o, H a = some o → (∀ n, n < st.length → μ n ≠ a) → H' a = some o
  fresh : ∀ n, st.length ≤ n → n < st'.length → H (μ' n) = none
/-- no object of the store is a tuple -/
theorem OR.not_tup {K : PySem.W.Frag} {H : Hp} {μ : Mu} {N : Nat} {a : Addr} {o : Obj} (h : OR K H μ N a o) : ∃ u, H a = some u ∧ (∀ xs, u ≠ .tup xs) ∧ ∀ ob xs, u ≠ .frz ob (.tup xs) := by
  cases o with
  | lst ds => obtain ⟨vs, e, _⟩ := h; exact ⟨_, e, (fun _ z => nomatch z), (fun _ _ z => nomatch z)⟩
  | frz ds => obtain ⟨o, vs, e, _⟩ := h; exact ⟨_, e, (fun _ z => nomatch z), (fun _ _ z => by cases z)⟩
  | dic t kvs =>
    cases t with
    | false => obtain ⟨l, e, _⟩ := h; exact ⟨_, e, (fun _ z => nomatch z), (fun _ _ z => nomatch z)⟩
    | true => obtain ⟨l, e, _⟩ := h; exact ⟨_, e, (fun _ z => nomatch z), (fun _ _ z => nomatch z)⟩
theorem Rel.there {K : PySem.W.Frag} {H : Hp} {μ : Mu} {st : Store} (r : Rel K H μ st) {n : Nat} (h : n < st.length) : ∃ u, H (μ n) = some u ∧ (∀ xs, u ≠ .tup xs) ∧ ∀ ob xs, u ≠ .frz ob (.tup xs) :=
  (r.obj n st[n] (List.getElem?_eq_getElem h)).not_tup
section
variable {K : PySem.W.Frag} {H H' : Hp} {μ μ' : Mu} {N N' : Nat} {st st' : Store}
/-- what values lean on is kept -/
structure Keep (K : PySem.W.Frag) (H H' : Hp) (μ μ' : Mu) (N N' : Nat) : Prop where
  same : ∀ n, n < N → μ' n = μ n
  len : N ≤ N'
  tup : ∀ a xs, SqT K H a xs → SqT K H' a xs
mutual
theorem VR.keep (k : Keep K H H' μ μ' N N') : ∀ (d : Val) (v : V), VR K H μ N v d → VR K H' μ' N' v d
  | .non, _, h => by cases h; exact .non
  | .bl b, _, h => by cases h; exact .bl b
  | .int i, _, h => by cases h; exact .int i
  | .str x, _, h => by cases h; exact .str x
  | .tup ds, _, h => by cases h with | tup s r => exact .tup (k.tup _ _ s) (VRs.keep k ds _ r)
  | .ref n, _, h => by
    cases h with
    | ref hn =>
      rw [← k.same n hn]
      exact .ref (Nat.lt_of_lt_of_le hn k.len)
theorem VRs.keep (k : Keep K H H' μ μ' N N') : ∀ (ds : List Val) (vs : List V), VRs K H μ N vs ds → VRs K H' μ' N' vs ds
  | [], _, h => by cases h; exact .nil
  | d :: ds, _, h => by cases h with | cons h1 h2 => exact .cons (VR.keep k d _ h1) (VRs.keep k ds _ h2)
end
theorem DRs.keep (k : Keep K H H' μ μ' N N') {l : List (Key × V)} {r : List (Val × Val)} (h : DRs K H μ N l r) : DRs K H' μ' N' l r := by
  induction h with
  | nil => exact .nil
  | cons h1 _ ih => exact .cons (VR.keep k _ _ h1) ih
theorem DTs.keep (k : Keep K H H' μ μ' N N') {l : List (List Key × V)} {r : List (Val × Val)} (h : DTs K H μ N l r) : DTs K H' μ' N' l r := by
  induction h with
  | nil => exact .nil
  | cons h1 _ ih => exact .cons (VR.keep k _ _ h1) ih
/-- an object whose place is kept -/
theorem OR.keep (k : Keep K H H' μ μ' N N') {a : Addr} {o : Obj} (h : OR K H μ N a o) (e : H' a = H a) : OR K H' μ' N' a o := by
  cases o with
  | lst ds => obtain ⟨vs, q, r⟩ := h; exact ⟨vs, e.trans q, VRs.keep k _ _ r⟩
  | frz ds => obtain ⟨o, vs, q, r⟩ := h; exact ⟨o, vs, e.trans q, VRs.keep k _ _ r⟩
  | dic t kvs =>
    cases t with
    | false => obtain ⟨l, q, r⟩ := h; exact ⟨l, e.trans q, r.keep k⟩
    | true => obtain ⟨l, q, r⟩ := h; exact ⟨l, e.trans q, r.keep k⟩
theorem Post.keep {μ₀ : Mu} {st₀ : Store} {H₀ : Hp} (p : Post K μ₀ st₀ H₀ μ st H) (r : Rel K H₀ μ₀ st₀) : Keep K H₀ H μ₀ μ st₀.length st.length where
  same := p.same
  len := p.len
  tup := fun a xs h => by
    rcases h with (h | ⟨o, h⟩) | h
    · refine .inl (.inl (p.frame _ _ h fun n hn e => ?_))
      obtain ⟨u, e1, e2, _⟩ := r.there hn
      rw [e, h] at e1
      exact e2 xs (Option.some.inj e1).symm
    · refine .inl (.inr ⟨o, p.frame _ _ h fun n hn e => ?_⟩)
      obtain ⟨u, e1, _, e3⟩ := r.there hn
      rw [e, h] at e1
      exact e3 o xs (Option.some.inj e1).symm
    · exact .inr h
theorem Post.refl (r : Rel K H μ st) : Post K μ st H μ st H :=
  ⟨fun _ _ => rfl, Nat.le_refl _, r, fun _ _ h _ => h, fun n h1 h2 => absurd (Nat.lt_of_lt_of_le h2 h1) (Nat.lt_irrefl _)⟩
/-- what was free in the later heap was free in the earlier one -/
theorem Post.free {μ₀ : Mu} {st₀ : Store} {H₀ : Hp} (p : Post K μ₀ st₀ H₀ μ st H) {a : Addr} (h : H a = none) : H₀ a = none := by
  cases q : H₀ a with
  | none => rfl
  | some o =>
    by_cases c : ∃ n, n < st₀.length ∧ μ₀ n = a
    · obtain ⟨n, hn, e⟩ := c
      obtain ⟨u, e1, _⟩ := p.rel.there (Nat.lt_of_lt_of_le hn p.len)
      rw [p.same n hn, e, h] at e1
      cases e1
    · have := p.frame a o q fun n hn e => c ⟨n, hn, e⟩
      rw [h] at this
      cases this
theorem Post.trans {μ₁ μ₂ : Mu} {st₁ st₂ : Store} {H₁ H₂ : Hp} (p : Post K μ st H μ₁ st₁ H₁) (q : Post K μ₁ st₁ H₁ μ₂ st₂ H₂) : Post K μ st H μ₂ st₂ H₂ where
  same := fun n hn => (q.same n (Nat.lt_of_lt_of_le hn p.len)).trans (p.same n hn)
  len := Nat.le_trans p.len q.len
  rel := q.rel
  frame := fun a o h c => by
    refine q.frame a o (p.frame a o h c) fun n hn e => ?_
    by_cases hl : n < st.length
    · exact c n hl ((p.same n hl).symm.trans e)
    · have := p.fresh n (Nat.le_of_not_lt hl) hn
      rw [e, h] at this
      cases this
  fresh := fun n h1 h2 => by
    by_cases hl : n < st₁.length
    · rw [q.same n hl]
      exact p.fresh n h1 hl
    · exact p.free (q.fresh n (Nat.le_of_not_lt hl) h2)
end

/-! ### results -/
/-- a value as the interpreter gives it; H₀: the heap at the entry -/
def VRR (K : PySem.W.Frag) (H₀ H : Hp) (μ : Mu) (N : Nat) (v : V) : RV → Prop
  | .v d => VR K H μ N v d
  | .l ds => ∃ p vs, v = .ref p ∧ H₀ p = none ∧ H p = some (.lst vs) ∧ VRs K H μ N vs ds ∧ ∀ n, n < N → μ n ≠ p
inductive VRRs (K : PySem.W.Frag) (H₀ H : Hp) (μ : Mu) (N : Nat) : List V → List RV → List Addr → Prop
  | nil : VRRs K H₀ H μ N [] [] []
  | v {v : V} {d : Val} {vs : List V} {rs : List RV} {ps : List Addr} : VR K H μ N v d → VRRs K H₀ H μ N vs rs ps → VRRs K H₀ H μ N (v :: vs) (.v d :: rs) ps
  | l {p : Addr} {us : List V} {ds : List Val} {vs : List V} {rs : List RV} {ps : List Addr} : H₀ p = none → H p = some (.lst us) → VRs K H μ N us ds → (∀ n, n < N → μ n ≠ p) → p ∉ ps →
      VRRs K H₀ H μ N vs rs ps → VRRs K H₀ H μ N (.ref p :: vs) (.l ds :: rs) (p :: ps)
section
variable {K : PySem.W.Frag} {H₀ H H' : Hp} {μ μ' : Mu} {st st' : Store}
theorem VRR.step (p : Post K μ st H μ' st' H') (r : Rel K H μ st) {v : V} {x : RV} (h : VRR K H₀ H μ st.length v x) : VRR K H₀ H' μ' st'.length v x := by
  cases x with
  | v d => exact VR.keep (p.keep r) _ _ h
  | l ds =>
    obtain ⟨a, vs, e, e0, e1, r1, ne⟩ := h
    refine ⟨a, vs, e, e0, p.frame _ _ e1 ne, VRs.keep (p.keep r) _ _ r1, fun n hn z => ?_⟩
    by_cases hl : n < st.length
    · exact ne n hl ((p.same n hl).symm.trans z)
    · have := p.fresh n (Nat.le_of_not_lt hl) hn
      rw [z, e1] at this
      cases this
theorem VRR.older {Hx : Hp} {N : Nat} (h0 : ∀ a, H a = none → Hx a = none) {v : V} {x : RV} (h : VRR K H H' μ' N v x) : VRR K Hx H' μ' N v x := by
  cases x with
  | v d => exact h
  | l ds => obtain ⟨a, vs, e, e0, z⟩ := h; exact ⟨a, vs, e, h0 _ e0, z⟩
theorem VRRs.older {Hx : Hp} {N : Nat} (h0 : ∀ a, H a = none → Hx a = none) {vs : List V} {xs : List RV} {ps : List Addr} (h : VRRs K H H' μ' N vs xs ps) : VRRs K Hx H' μ' N vs xs ps := by
  induction h with
  | nil => exact .nil
  | v a _ ih => exact .v a ih
  | l a b c d e _ ih => exact .l (h0 _ a) b c d e ih
theorem VRRs.step (p : Post K μ st H μ' st' H') (r : Rel K H μ st) {vs : List V} {xs : List RV} {ps : List Addr} (h : VRRs K H₀ H μ st.length vs xs ps) : VRRs K H₀ H' μ' st'.length vs xs ps := by
  induction h with
  | nil => exact .nil
  | v a _ ih => exact .v (VR.keep (p.keep r) _ _ a) ih
  | l a b c d e _ ih =>
    refine .l a (p.frame _ _ b d) (VRs.keep (p.keep r) _ _ c) (fun n hn z => ?_) e ih
    by_cases hl : n < st.length
    · exact d n hl ((p.same n hl).symm.trans z)
    · have := p.fresh n (Nat.le_of_not_lt hl) hn
      rw [z, b] at this
      cases this
/-- the addresses of the new lists of later values are free at the entry -/
theorem VRRs.free {N : Nat} {vs : List V} {xs : List RV} {ps : List Addr} (h : VRRs K H₀ H μ N vs xs ps) : ∀ a ∈ ps, H₀ a = none := by
  induction h with
  | nil => intro a h; cases h
  | v _ _ ih => exact ih
  | l a _ _ _ _ _ ih =>
    intro b hb
    rcases List.mem_cons.mp hb with rfl | hb
    · exact a
    · exact ih b hb
theorem VRs.length {N : Nat} {vs : List V} {ds : List Val} (h : VRs K H μ N vs ds) : vs.length = ds.length := by
  have aux : ∀ (ds : List Val) (vs : List V), VRs K H μ N vs ds → vs.length = ds.length := by
    intro ds
    induction ds with
    | nil => intro vs h; cases h; rfl
    | cons d ds ih => intro vs h; cases h with | cons _ h2 => simp [ih _ h2]
  exact aux ds vs h
end

/-! ### a new list moves into the store -/
def muAdd (μ : Mu) (n : Nat) (p : Addr) : Mu := fun m => if m = n then p else μ m
theorem Post.add {K : PySem.W.Frag} {H₀ H : Hp} {μ₀ μ : Mu} {st₀ st : Store} {p : Addr} {us : List V} {ds : List Val} (P : Post K μ₀ st₀ H₀ μ st H) (h0 : H₀ p = none) (h1 : H p = some (.lst us)) (r : VRs K H μ st.length us ds)
    (ne : ∀ n, n < st.length → μ n ≠ p) : Post K μ₀ st₀ H₀ (muAdd μ st.length p) (st ++ [Obj.lst ds]) H ∧ Keep K H H μ (muAdd μ st.length p) st.length (st ++ [Obj.lst ds]).length := by
  have k : Keep K H H μ (muAdd μ st.length p) st.length (st ++ [Obj.lst ds]).length :=
    ⟨fun n hn => by unfold muAdd; rw [if_neg (Nat.ne_of_lt hn)], by simp, fun _ _ h => h⟩
  refine ⟨⟨fun n hn => ?_, Nat.le_trans P.len k.len, ⟨fun n o e => ?_, fun n m hn hm e => ?_⟩, P.frame, fun n hn hl => ?_⟩, k⟩
  · rw [k.same n (Nat.lt_of_lt_of_le hn P.len)]; exact P.same n hn
  · by_cases hn : n < st.length
    · rw [List.getElem?_append_left hn] at e
      rw [k.same n hn]
      exact (P.rel.obj n o e).keep k rfl
    · have hn' : n = st.length := by
        have := (List.getElem?_eq_some_iff.mp e).1
        simp at this; omega
      subst hn'
      simp at e
      subst e
      exact ⟨us, by simp [muAdd]; exact h1, VRs.keep k _ _ r⟩
  · simp at hn hm
    by_cases h1 : n = st.length <;> by_cases h2 : m = st.length
    · rw [h1, h2]
    · exfalso
      rw [h1] at e
      have hm' : m < st.length := by omega
      rw [k.same m hm'] at e
      exact ne m hm' (by rw [← e]; simp [muAdd])
    · exfalso
      rw [h2] at e
      have hn' : n < st.length := by omega
      rw [k.same n hn'] at e
      exact ne n hn' (by rw [e]; simp [muAdd])
    · have hn' : n < st.length := by omega
      have hm' : m < st.length := by omega
      rw [k.same n hn', k.same m hm'] at e
      exact P.rel.inj n m hn' hm' e
  · by_cases h1 : n = st.length
    · subst h1; simpa [muAdd] using h0
    · have : n < st.length := by simp at hl; omega
      rw [k.same n this]
      exact P.fresh n hn this
theorem settle_ok {K : PySem.W.Frag} {H₀ H : Hp} {μ₀ μ : Mu} {st₀ st : Store} {v : V} {r : RV} (P : Post K μ₀ st₀ H₀ μ st H) (h : VRR K H₀ H μ st.length v r) :
    ∃ μ', Post K μ₀ st₀ H₀ μ' (settle r st).2 H ∧ Keep K H H μ μ' st.length (settle r st).2.length ∧ VR K H μ' (settle r st).2.length v (settle r st).1 := by
  cases r with
  | v d => exact ⟨μ, P, ⟨fun _ _ => rfl, Nat.le_refl _, fun _ _ h => h⟩, h⟩
  | l ds =>
    obtain ⟨p, us, rfl, h0, h1, hr, ne⟩ := h
    obtain ⟨P', k⟩ := P.add h0 h1 hr ne
    refine ⟨_, P', k, ?_⟩
    have e : (muAdd μ st.length p) st.length = p := by simp [muAdd]
    have z : VR K H (muAdd μ st.length p) (st ++ [Obj.lst ds]).length (.ref ((muAdd μ st.length p) st.length)) (.ref st.length) := .ref (by simp)
    rw [e] at z
    exact z
theorem settles_ok {K : PySem.W.Frag} {H₀ H : Hp} {μ₀ : Mu} {st₀ : Store} : ∀ {vs : List V} {rs : List RV} {ps : List Addr} {μ : Mu} {st : Store}, Post K μ₀ st₀ H₀ μ st H → VRRs K H₀ H μ st.length vs rs ps →
    ∃ μ', Post K μ₀ st₀ H₀ μ' (settles rs st).2 H ∧ Keep K H H μ μ' st.length (settles rs st).2.length ∧ VRs K H μ' (settles rs st).2.length vs (settles rs st).1 := by
  intro vs rs ps μ st P h
  induction rs generalizing vs ps μ st with
  | nil => cases h; exact ⟨μ, P, ⟨fun _ _ => rfl, Nat.le_refl _, fun _ _ h => h⟩, .nil⟩
  | cons r rs ih =>
    cases h with
    | v hv hr =>
      obtain ⟨μ', P', k, z⟩ := ih P hr
      exact ⟨μ', P', k, .cons (VR.keep k _ _ hv) z⟩
    | @l p us ds vs _ ps h0 h1 hu ne np hr =>
      obtain ⟨P1, k1⟩ := P.add h0 h1 hu ne
      have hr1 : VRRs K H₀ H (muAdd μ st.length p) (st ++ [Obj.lst ds]).length vs rs ps := by
        clear ih h0 h1 hu ne P P1
        induction hr with
        | nil => exact .nil
        | v a _ ih => exact .v (VR.keep k1 _ _ a) (ih np)
        | @l q _ _ _ _ ps a b c d e _ ih =>
          have nq : ¬ p = q := fun z => np (by rw [z]; exact List.mem_cons_self)
          refine .l a b (VRs.keep k1 _ _ c) (fun n hn z => ?_) e (ih fun z => np (List.mem_cons_of_mem _ z))
          simp at hn
          by_cases hl : n < st.length
          · rw [k1.same n hl] at z
            exact d n hl z
          · have : n = st.length := by omega
            subst this
            simp [muAdd] at z
            exact nq z
      obtain ⟨μ', P', k, z⟩ := ih P1 hr1
      refine ⟨μ', P', ⟨fun n hn => (k.same n (Nat.lt_of_lt_of_le hn k1.len)).trans (k1.same n hn), Nat.le_trans k1.len k.len, fun _ _ h => h⟩, .cons ?_ z⟩
      have e : μ' st.length = p := by rw [k.same st.length (by simp)]; simp [muAdd]
      have w : VR K H μ' (settles rs (st ++ [Obj.lst ds])).2.length (.ref (μ' st.length)) (.ref st.length) := .ref (Nat.lt_of_lt_of_le (by simp) k.len)
      rw [e] at w
      exact w
end Mi
end
section
set_option linter.all false
set_option autoImplicit false
set_option maxRecDepth 10000
/-! MiOps: Mini's operations are the model's. -/
namespace Mi
open PySem PySem.Spec L2
open PyProof.Rows hiding RelV

/-- what is wanted of an exception -/
abbrev XW := Nat → List Val → Mu → Store → Hp → Prop
def After (K : PySem.W.Frag) (W : XW) (μ : Mu) (st : Store) (H : Hp) (c : Res RV) (Q : VK) : Prop := match c with
  | .ok r st' => ∀ μ' H' v, Post K μ st H μ' st' H' → VRR K H H' μ' st'.length v r → Q v H'
  | .exc c p st' => ∀ μ' H', Post K μ st H μ' st' H' → W c p μ' st' H'
  | .bad => False

section
variable {K : PySem.W.Frag} {W : XW} {H₀ H H' : Hp} {μ₀ μ μ' : Mu} {st₀ st st' : Store} {Q : VK}
theorem Keep.refl : Keep K H H μ μ st.length st.length := ⟨fun _ _ => rfl, Nat.le_refl _, fun _ _ h => h⟩
theorem fin {d : Val} {v : V} (a : After K W μ₀ st₀ H₀ (.ok (.v d) st) Q) (P : Post K μ₀ st₀ H₀ μ st H) (h : VR K H μ st.length v d) : Q v H := a μ H v P h
theorem sq_upd {p : Addr} {o : HO} (hp : H p = none) {a : Addr} {xs : List V} (h : SqT K H a xs) : SqT K (upd H p o) a xs := by
  rcases h with (h | ⟨ob, h⟩) | h
  · exact .inl (.inl (by rw [upd_ne (ne_of_none h hp)]; exact h))
  · exact .inl (.inr ⟨ob, by rw [upd_ne (ne_of_none h hp)]; exact h⟩)
  · exact .inr h
theorem Keep.upd {p : Addr} {o : HO} (hp : H p = none) : Keep K H (upd H p o) μ μ st.length st.length := ⟨fun _ _ => rfl, Nat.le_refl _, fun _ _ h => sq_upd hp h⟩
theorem Rel.upd {p : Addr} {o : HO} (r : Rel K H μ st) (hp : H p = none) : Rel K (upd H p o) μ st where
  obj := fun n ob e => by
    have hn := (List.getElem?_eq_some_iff.mp e).1
    obtain ⟨u, e1, _⟩ := r.there hn
    exact (r.obj n ob e).keep (Keep.upd hp) (upd_ne (ne_of_none e1 hp))
  inj := r.inj
theorem Post.upd {p : Addr} {o : HO} (P : Post K μ₀ st₀ H₀ μ st H) (hp : H p = none) : Post K μ₀ st₀ H₀ μ st (upd H p o) where
  same := P.same
  len := P.len
  rel := P.rel.upd hp
  frame := fun a ob h c => by
    have := P.frame a ob h c
    rw [upd_ne (ne_of_none this hp)]; exact this
  fresh := P.fresh
theorem Rel.ne {p : Addr} (r : Rel K H μ st) (hp : H p = none) : ∀ n, n < st.length → μ n ≠ p := fun n hn e => by
  obtain ⟨u, e1, _⟩ := r.there hn
  rw [e, hp] at e1; cases e1
theorem finL {ds : List Val} {vs : List V} (a : After K W μ₀ st₀ H₀ (.ok (.l ds) st) Q) (P : Post K μ₀ st₀ H₀ μ st H) (h : VRs K H μ st.length vs ds) {p : Addr} (hp : H p = none) : Q (.ref p) (upd H p (.lst vs)) :=
  a μ _ _ (P.upd hp) ⟨p, vs, rfl, P.free hp, upd_same, VRs.keep (Keep.upd hp) _ _ h, P.rel.ne hp⟩
theorem finT {ds : List Val} {vs : List V} (a : After K W μ₀ st₀ H₀ (.ok (.v (.tup ds)) st) Q) (P : Post K μ₀ st₀ H₀ μ st H) (h : VRs K H μ st.length vs ds) {p : Addr} (hp : H p = none) : Q (.ref p) (upd H p (.tup vs)) :=
  a μ _ _ (P.upd hp) (VR.tup (.of upd_same) (VRs.keep (Keep.upd hp) _ _ h))
/-- an object of the store is written -/
theorem Post.write {n : Nat} {o : Obj} {u u' : HO} (P : Post K μ₀ st₀ H₀ μ st H) (hn : n < st.length) (hu : H (μ n) = some u) (hm : ∀ xs, u ≠ .tup xs) (hf : ∀ ob xs, u ≠ .frz ob (.tup xs))
    (new : Keep K H (L2.upd H (μ n) u') μ μ st.length st.length → OR K (L2.upd H (μ n) u') μ st.length (μ n) o) : Post K μ₀ st₀ H₀ μ (st.set n o) (L2.upd H (μ n) u') ∧ Keep K H (L2.upd H (μ n) u') μ μ st.length st.length := by
  have k : Keep K H (L2.upd H (μ n) u') μ μ st.length st.length := ⟨fun _ _ => rfl, Nat.le_refl _, fun a xs h => by
    rcases h with (h | ⟨ob, h⟩) | h
    · exact .inl (.inl (by rw [upd_ne fun e => by rw [e, hu] at h; exact hm xs (Option.some.inj h)]; exact h))
    · exact .inl (.inr ⟨ob, by rw [upd_ne fun e => by rw [e, hu] at h; exact hf ob xs (Option.some.inj h)]; exact h⟩)
    · exact .inr h⟩
  refine ⟨⟨P.same, by simpa using P.len, ⟨fun m ob e => ?_, fun a b ha hb => ?_⟩, fun a ob h c => ?_, fun m h1 h2 => ?_⟩, k⟩
  · rw [List.length_set]
    by_cases hmn : m = n
    · subst hmn
      rw [List.getElem?_set_self hn] at e
      cases e
      exact new k
    · rw [List.getElem?_set_ne (Ne.symm hmn)] at e
      have hml := (List.getElem?_eq_some_iff.mp e).1
      exact (P.rel.obj m ob e).keep k (upd_ne fun z => hmn (P.rel.inj m n hml hn z))
  · rw [List.length_set] at ha hb
    exact P.rel.inj a b ha hb
  · rw [upd_ne fun e => ?_]
    · exact P.frame a ob h c
    · by_cases hl : n < st₀.length
      · exact c n hl (by rw [e, P.same n hl])
      · have := P.fresh n (Nat.le_of_not_lt hl) hn
        rw [← e, h] at this
        cases this
  · rw [List.length_set] at h2
    exact P.fresh m h1 h2
/-- a list of the store is rewritten -/
theorem Post.lst {n : Nat} {xs ds : List Val} {vs : List V} (P : Post K μ₀ st₀ H₀ μ st H) (e : st[n]? = some (.lst xs)) (h : VRs K H μ st.length vs ds) :
    Post K μ₀ st₀ H₀ μ (st.set n (.lst ds)) (L2.upd H (μ n) (.lst vs)) ∧ Keep K H (L2.upd H (μ n) (.lst vs)) μ μ st.length st.length := by
  have hn := (List.getElem?_eq_some_iff.mp e).1
  obtain ⟨us, e1, _⟩ := P.rel.obj n _ e
  exact P.write hn e1 (fun _ z => nomatch z) (fun _ _ z => nomatch z) fun k => ⟨vs, upd_same, VRs.keep k _ _ h⟩

/-! ### views -/
theorem lstAt_ok {n : Nat} {ds : List Val} (r : Rel K H μ st) (e : lstAt st n = some ds) : ∃ vs, SqL K H (μ n) vs ∧ VRs K H μ st.length vs ds := by
  unfold lstAt at e
  split at e
  · rename_i xs h; cases e
    obtain ⟨vs, e1, r1⟩ := r.obj n _ h
    exact ⟨vs, .of e1, r1⟩
  · rename_i xs h; cases e
    obtain ⟨o, vs, e1, r1⟩ := r.obj n _ h
    exact ⟨vs, .inl (.inr ⟨o, e1⟩), r1⟩
  · cases e
theorem seqV_list {d : Val} {v : V} {ds : List Val} (r : Rel K H μ st) (h : VR K H μ st.length v d) (e : seqV st d = some (true, ds)) : ∃ a vs, v = .ref a ∧ SqL K H a vs ∧ VRs K H μ st.length vs ds := by
  cases d with
  | ref n =>
    cases h with
    | ref hn =>
      simp only [seqV, Option.map_eq_some_iff] at e
      obtain ⟨xs, e1, e2⟩ := e
      cases e2
      obtain ⟨vs, a, b⟩ := lstAt_ok r e1
      exact ⟨_, vs, rfl, a, b⟩
  | tup xs => simp [seqV] at e
  | _ => simp [seqV] at e
theorem seqV_tup {d : Val} {v : V} {ds : List Val} (h : VR K H μ st.length v d) (e : seqV st d = some (false, ds)) : ∃ a vs, d = .tup ds ∧ v = .ref a ∧ SqT K H a vs ∧ VRs K H μ st.length vs ds := by
  cases d with
  | tup xs =>
    simp [seqV] at e
    subst e
    cases h with
    | tup s q => exact ⟨_, _, rfl, rfl, s, q⟩
  | ref n =>
    simp only [seqV, Option.map_eq_some_iff] at e
    obtain ⟨xs, e1, e2⟩ := e
    cases e2
  | _ => simp [seqV] at e
theorem seqR_list {x : RV} {v : V} {ds : List Val} (r : Rel K H μ st) (h : VRR K H₀ H μ st.length v x) (e : seqR st x = some (true, ds)) : ∃ a vs, v = .ref a ∧ SqL K H a vs ∧ VRs K H μ st.length vs ds := by
  cases x with
  | v d => exact seqV_list r h e
  | l xs =>
    simp [seqR] at e
    subst e
    obtain ⟨p, vs, e0, _, e1, e2, _⟩ := h
    exact ⟨p, vs, e0, .of e1, e2⟩
theorem seqR_tup {x : RV} {v : V} {ds : List Val} (h : VRR K H₀ H μ st.length v x) (e : seqR st x = some (false, ds)) : ∃ a vs, x = .v (.tup ds) ∧ v = .ref a ∧ SqT K H a vs ∧ VRs K H μ st.length vs ds := by
  cases x with
  | v d =>
    obtain ⟨a, vs, e1, e2, e3, e4⟩ := seqV_tup h e
    exact ⟨a, vs, by rw [e1], e2, e3, e4⟩
  | l xs => simp [seqR] at e
theorem seqR_any {x : RV} {v : V} {k : Bool} {ds : List Val} (r : Rel K H μ st) (h : VRR K H₀ H μ st.length v x) (e : seqR st x = some (k, ds)) : ∃ a vs, v = .ref a ∧ (SqL K H a vs ∨ SqT K H a vs) ∧ VRs K H μ st.length vs ds := by
  cases k with
  | true => obtain ⟨a, vs, e0, e1, e2⟩ := seqR_list r h e; exact ⟨a, vs, e0, .inl e1, e2⟩
  | false => obtain ⟨a, vs, _, e0, e1, e2⟩ := seqR_tup h e; exact ⟨a, vs, e0, .inr e1, e2⟩
theorem mutAt_ok {x : RV} {v : V} {n : Nat} {ds : List Val} (r : Rel K H μ st) (h : VRR K H₀ H μ st.length v x) (e : mutAt st x = some (n, ds)) :
    ∃ vs, x = .v (.ref n) ∧ st[n]? = some (.lst ds) ∧ v = .ref (μ n) ∧ H (μ n) = some (.lst vs) ∧ VRs K H μ st.length vs ds := by
  unfold mutAt at e
  split at e
  · split at e
    · rename_i n' xs h'
      simp at e
      obtain ⟨rfl, rfl⟩ := e
      obtain ⟨vs, e1, e2⟩ := r.obj _ _ h'
      cases h with
      | ref hn => exact ⟨vs, rfl, h', rfl, e1, e2⟩
    · cases e
  · cases e
theorem dicAt_ok {x : RV} {v : V} {n : Nat} {t : Bool} {kvs : List (Val × Val)} (r : Rel K H μ st) (h : VRR K H₀ H μ st.length v x) (e : dicAt st x = some (n, t, kvs)) :
    x = .v (.ref n) ∧ st[n]? = some (.dic t kvs) ∧ v = .ref (μ n) ∧ OR K H μ st.length (μ n) (.dic t kvs) := by
  unfold dicAt at e
  split at e
  · split at e
    · rename_i n' t' kvs' h'
      simp at e
      obtain ⟨rfl, rfl, rfl⟩ := e
      have o := r.obj _ _ h'
      cases h with
      | ref hn => exact ⟨rfl, h', rfl, o⟩
    · cases e
  · cases e

/-! ### lists of values -/
theorem VRs.get {N : Nat} : ∀ {ds : List Val} {vs : List V} {i : Nat} {d : Val}, VRs K H μ N vs ds → ds[i]? = some d → ∃ v, vs[i]? = some v ∧ VR K H μ N v d := by
  intro ds
  induction ds with
  | nil => intro vs i d h e; simp at e
  | cons x xs ih =>
    intro vs i d h e
    cases h with
    | cons h1 h2 =>
      cases i with
      | zero => simp at e; subst e; exact ⟨_, rfl, h1⟩
      | succ i => simp at e; obtain ⟨v, a, b⟩ := ih h2 e; exact ⟨v, by simpa using a, b⟩
theorem VRs.app {N : Nat} : ∀ {ds es : List Val} {vs us : List V}, VRs K H μ N vs ds → VRs K H μ N us es → VRs K H μ N (vs ++ us) (ds ++ es) := by
  intro ds
  induction ds with
  | nil => intro es vs us h g; cases h; exact g
  | cons x xs ih => intro es vs us h g; cases h with | cons h1 h2 => exact .cons h1 (ih h2 g)
theorem VRs.take {N : Nat} : ∀ {ds : List Val} {vs : List V} (n : Nat), VRs K H μ N vs ds → VRs K H μ N (vs.take n) (ds.take n) := by
  intro ds
  induction ds with
  | nil => intro vs n h; cases h; simp; exact .nil
  | cons x xs ih =>
    intro vs n h
    cases h with
    | cons h1 h2 =>
      cases n with
      | zero => exact .nil
      | succ n => exact .cons h1 (ih n h2)
theorem VRs.drop {N : Nat} : ∀ {ds : List Val} {vs : List V} (n : Nat), VRs K H μ N vs ds → VRs K H μ N (vs.drop n) (ds.drop n) := by
  intro ds
  induction ds with
  | nil => intro vs n h; cases h; simp; exact .nil
  | cons x xs ih =>
    intro vs n h
    cases h with
    | cons h1 h2 =>
      cases n with
      | zero => exact .cons h1 h2
      | succ n => exact ih n h2
theorem VRs.dropLast {N : Nat} {ds : List Val} {vs : List V} (h : VRs K H μ N vs ds) : VRs K H μ N vs.dropLast ds.dropLast := by
  rw [List.dropLast_eq_take, List.dropLast_eq_take, VRs.length h]
  exact VRs.take _ h
theorem VRs.set {N : Nat} {d : Val} {v : V} (r : VR K H μ N v d) : ∀ {ds : List Val} {vs : List V} (n : Nat), VRs K H μ N vs ds → VRs K H μ N (vs.set n v) (ds.set n d) := by
  intro ds
  induction ds with
  | nil => intro vs n h; cases h; exact .nil
  | cons x xs ih =>
    intro vs n h
    cases h with
    | cons h1 h2 =>
      cases n with
      | zero => exact .cons r h2
      | succ n => exact .cons h1 (ih n h2)
theorem VRs.eraseIdx {N : Nat} : ∀ {ds : List Val} {vs : List V} (n : Nat), VRs K H μ N vs ds → VRs K H μ N (vs.eraseIdx n) (ds.eraseIdx n) := by
  intro ds
  induction ds with
  | nil => intro vs n h; cases h; exact .nil
  | cons x xs ih =>
    intro vs n h
    cases h with
    | cons h1 h2 =>
      cases n with
      | zero => exact h2
      | succ n => exact .cons h1 (ih n h2)
theorem VRs.reverse {N : Nat} : ∀ {ds : List Val} {vs : List V}, VRs K H μ N vs ds → VRs K H μ N vs.reverse ds.reverse := by
  intro ds
  induction ds with
  | nil => intro vs h; cases h; exact .nil
  | cons x xs ih => intro vs h; cases h with | cons h1 h2 => simp; exact (ih h2).app (.cons h1 .nil)
theorem VRs.rep {N : Nat} {ds : List Val} {vs : List V} (h : VRs K H μ N vs ds) : ∀ n : Nat, VRs K H μ N (List.replicate n vs).flatten (List.replicate n ds).flatten
  | 0 => .nil
  | n + 1 => by simp [List.replicate_succ]; exact h.app (VRs.rep h n)
theorem VRs.empty {N : Nat} {ds : List Val} {vs : List V} (h : VRs K H μ N vs ds) : vs.isEmpty = ds.isEmpty := by
  cases ds <;> cases h <;> rfl
theorem ix_eq (n : Nat) (i : Int) : ix n i = ixN n i := rfl
theorem VRs.at {N : Nat} {ds : List Val} {vs : List V} {i : Int} {d : Val} (h : VRs K H μ N vs ds) (e : at' ds i = some d) : ∃ v, atI vs i = some v ∧ VR K H μ N v d := by
  unfold at' at e
  unfold atI
  rw [VRs.length h, ← ix_eq]
  cases q : ix ds.length i with
  | none => rw [q] at e; cases e
  | some j =>
    rw [q] at e
    exact VRs.get h e
theorem VRs.cut {N : Nat} {ds : List Val} {vs : List V} (lo hi : Option Int) (h : VRs K H μ N vs ds) : VRs K H μ N (cutV vs lo hi) (cut ds lo hi) := by
  have e : ∀ n d o, cutIx n d o = HT.sIx n d o := fun n d o => by cases o <;> rfl
  unfold cutV Mi.cut
  rw [VRs.length h, e, e]
  exact (VRs.drop _ h).take _
end

/-! ### operations by one value -/
section
variable {X : Cx}
/-- what the interpreter's operation asks, as a reading -/
def r1 (X : Cx) (o : O1) (v : V) (H : Hp) (Q : VK) : Prop :=
  ∃ (W : XW) (μ₀ : Mu) (st₀ : Store) (H₀ : Hp) (μ : Mu) (st : Store) (r : RV), Post X.K μ₀ st₀ H₀ μ st H ∧ VRR X.K H₀ H μ st.length v r ∧ After X.K W μ₀ st₀ H₀ (f1 o r st) Q
def r2 (X : Cx) (o : O2) (v u : V) (H : Hp) (Q : VK) : Prop :=
  ∃ (W : XW) (μ₀ : Mu) (st₀ : Store) (H₀ : Hp) (μ : Mu) (st : Store) (r q : RV), Post X.K μ₀ st₀ H₀ μ st H ∧ VRR X.K H₀ H μ st.length v r ∧ VRR X.K H₀ H μ st.length u q ∧ After X.K W μ₀ st₀ H₀ (f2 o r q st) Q
abbrev c1 (X : Cx) (o : O1) : List V → Hp → VK → Prop := fun xs H Q => ∃ v, xs = [v] ∧ r1 X o v H Q

theorem bin_int {o : O2} {f : Value → Value → Sem Value} {C : Int → Int → Prop} {g : Int → Int → V} (rule : OpR X f (rI C g))
    (h : ∀ (r q : RV) (st : Store) (W : XW) (μ₀ : Mu) (st₀ : Store) (H₀ : Hp) (Q : VK), After X.K W μ₀ st₀ H₀ (f2 o r q st) Q → ∃ i j d, r = .v (.int i) ∧ q = .v (.int j) ∧ C i j ∧ f2 o r q st = .ok (.v d) st ∧ (∀ K H μ N, VR K H μ N (g i j) d)) :
    OpR X f (r2 X o) := by
  intro pins s σ H x y v u Q I rx ry hr
  obtain ⟨W, μ₀, st₀, H₀, μ, st, r, q, P, hv, hu, a⟩ := hr
  obtain ⟨i, j, d, rfl, rfl, c, e, z⟩ := h _ _ _ _ _ _ _ _ a
  rw [e] at a
  cases hv; cases hu
  exact rule pins s σ H _ _ v u Q I rx ry ⟨i, j, rfl, rfl, c, fin a P (z _ _ _ _)⟩
theorem bin_int0 {o : O2} {f : Value → Value → Sem Value} {g : Int → Int → V} (rule : OpR X f (rI0 g))
    (h : ∀ (r q : RV) (st : Store) (W : XW) (μ₀ : Mu) (st₀ : Store) (H₀ : Hp) (Q : VK), After X.K W μ₀ st₀ H₀ (f2 o r q st) Q → ∃ i j d, r = .v (.int i) ∧ q = .v (.int j) ∧ f2 o r q st = .ok (.v d) st ∧ (∀ K H μ N, VR K H μ N (g i j) d)) :
    OpR X f (r2 X o) :=
  bin_int (C := fun _ _ => True) (fun pins s σ H x y v u Q I rx ry hr => rule pins s σ H x y v u Q I rx ry (by obtain ⟨i, j, e1, e2, _, q⟩ := hr; exact ⟨i, j, e1, e2, q⟩))
    fun r q st W μ₀ st₀ H₀ Q a => by obtain ⟨i, j, d, e1, e2, e3, e4⟩ := h r q st W μ₀ st₀ H₀ Q a; exact ⟨i, j, d, e1, e2, trivial, e3, e4⟩
theorem cmpI_ok {o : O2} {p : Int → Int → Bool} (ho : ∀ r q st, f2 o r q st = cmpI p r q st) (r q : RV) (st : Store) (W : XW) (μ₀ : Mu) (st₀ : Store) (H₀ : Hp) (Q : VK) (a : After X.K W μ₀ st₀ H₀ (f2 o r q st) Q) :
    ∃ i j d, r = .v (.int i) ∧ q = .v (.int j) ∧ f2 o r q st = .ok (.v d) st ∧ (∀ K H μ N, VR K H μ N (.bl (p i j)) d) := by
  rw [ho] at a ⊢
  unfold cmpI at a ⊢
  split at a
  · rename_i i j
    exact ⟨i, j, _, rfl, rfl, rfl, fun _ _ _ _ => .bl _⟩
  · exact a.elim
theorem o_ltM : OpR X (compareOp .Lt) (r2 X .lt) := bin_int0 op_lt (cmpI_ok fun _ _ _ => rfl)
theorem o_leM : OpR X (compareOp .LtE) (r2 X .le) := bin_int0 op_le (cmpI_ok fun _ _ _ => rfl)
theorem o_gtM : OpR X (compareOp .Gt) (r2 X .gt) := bin_int0 op_gt (cmpI_ok fun _ _ _ => rfl)
theorem o_geM : OpR X (compareOp .GtE) (r2 X .ge) := bin_int0 op_ge (cmpI_ok fun _ _ _ => rfl)
theorem o_subM : OpR X (binaryOp .Sub) (r2 X .sub) := bin_int0 op_sub fun r q st W μ₀ st₀ H₀ Q a => by
  simp only [f2] at a ⊢
  split at a
  · rename_i i j; exact ⟨i, j, _, rfl, rfl, rfl, fun _ _ _ _ => .int _⟩
  · exact a.elim
theorem o_modM : OpR X (binaryOp .Mod) (r2 X .mod) := bin_int op_mod fun r q st W μ₀ st₀ H₀ Q a => by
  simp only [f2] at a ⊢
  split at a
  · rename_i i j
    split at a
    · rename_i h; exact ⟨i, j, _, rfl, rfl, h, by simp [h], fun _ _ _ _ => .int _⟩
    · exact a.elim
  · exact a.elim
theorem o_fdivM : OpR X (binaryOp .FloorDiv) (r2 X .fdiv) := bin_int op_fdivW fun r q st W μ₀ st₀ H₀ Q a => by
  simp only [f2] at a ⊢
  split at a
  · rename_i i j
    split at a
    · rename_i h; exact ⟨i, j, _, rfl, rfl, h, by simp [h], fun _ _ _ _ => .int _⟩
    · exact a.elim
  · exact a.elim
theorem o_powM : OpR X (binaryOp .Pow) (r2 X .pow) := bin_int op_pow fun r q st W μ₀ st₀ H₀ Q a => by
  simp only [f2] at a ⊢
  split at a
  · rename_i i j
    split at a
    · rename_i h; exact ⟨i, j, _, rfl, rfl, h, by simp [h], fun _ _ _ _ => .int _⟩
    · exact a.elim
  · exact a.elim
end
end Mi
end
section
set_option linter.all false
set_option autoImplicit false
set_option maxRecDepth 10000
/-! MiEq: == of Mini's values is the model's. -/
namespace Mi
open PySem PySem.Spec L2
open PyProof.Rows hiding RelV

section
variable {K : PySem.W.Frag} {H : Hp} {μ : Mu} {st : Store}
theorem eqFlat_refl {a : Val} {r : Bool} (h : eqFlat a a = some r) : r = true := by
  cases a <;> simp [eqFlat] at h <;> exact h.symm ▸ rfl
theorem eqAll_refl {f : Val → Val → Option Bool} (hf : ∀ x r, f x x = some r → r = true) : ∀ {xs : List Val} {r : Bool}, eqAll f xs xs = some r → r = true := by
  intro xs
  induction xs with
  | nil => intro r h; simp [eqAll] at h; exact h.symm ▸ rfl
  | cons x xs ih =>
    intro r h
    simp only [eqAll, Option.bind_eq_some_iff] at h
    obtain ⟨b, h1, c, h2, h3⟩ := h
    have e1 := hf x b h1
    have e2 := ih h2
    subst e1; subst e2
    simpa using h3.symm
theorem eqV_refl : ∀ (n : Nat) (a : Val) (r : Bool), eqV n st a a = some r → r = true := by
  intro n
  induction n with
  | zero => intro a r h; simp [eqV] at h
  | succ n ih =>
    intro a r h
    unfold eqV at h
    cases q : seqV st a with
    | none => simp only [q] at h; exact eqFlat_refl h
    | some p =>
      obtain ⟨k, xs⟩ := p
      simp only [q, beq_self_eq_true, if_true, bne_self_eq_false, Bool.and_false, Bool.false_eq_true, if_false] at h
      exact eqAll_refl (fun x r hx => ih x r hx) h
end

section
variable {X : Cx} {pins : List (Addr × PySem.Obj)} {σ : L2.St} {H : Hp} {s : Shared} {μ : Mu} {st : Store}
/-- a tracked address is none of the module's -/
theorem not_K (I : Inv X pins σ H s) {a : Addr} {u : HO} (h : H a = some u) {o : PySem.Obj} (hk : X.K.lookup a = some o) : False := by
  have := (I.bs a o (I.mod.kin a o hk)).2
  rw [h] at this; cases this
theorem not_both (I : Inv X pins σ H s) (r : Rel X.K H μ st) {n : Nat} (hn : n < st.length) {xs : List V} (h : SqT X.K H (μ n) xs) : False := by
  obtain ⟨u, e1, e2, e3⟩ := r.there hn
  rcases h with (h | ⟨o, h⟩) | ⟨o, _, _, h, _⟩
  · rw [e1] at h; exact e2 xs (Option.some.inj h)
  · rw [e1] at h; exact e3 o xs (Option.some.inj h)
  · exact not_K I e1 h
theorem VR.i_ref {K : PySem.W.Frag} {N n : Nat} {v : V} (h : VR K H μ N v (.ref n)) : n < N ∧ v = .ref (μ n) := by cases h with | ref hn => exact ⟨hn, rfl⟩
theorem VR.i_tup {K : PySem.W.Frag} {N : Nat} {v : V} {ds : List Val} (h : VR K H μ N v (.tup ds)) : ∃ a vs, v = .ref a ∧ SqT K H a vs ∧ VRs K H μ N vs ds := by cases h with | tup a b => exact ⟨_, _, rfl, a, b⟩
theorem VR.i_non {K : PySem.W.Frag} {N : Nat} {v : V} (h : VR K H μ N v .non) : v = .non := by cases h; rfl
theorem VR.i_bl {K : PySem.W.Frag} {N : Nat} {v : V} {b : Bool} (h : VR K H μ N v (.bl b)) : v = .bl b := by cases h; rfl
theorem VR.i_int {K : PySem.W.Frag} {N : Nat} {v : V} {b : Int} (h : VR K H μ N v (.int b)) : v = .int b := by cases h; rfl
theorem VR.i_str {K : PySem.W.Frag} {N : Nat} {v : V} {b : List Nat} (h : VR K H μ N v (.str b)) : v = .str (toStr b) := by cases h; rfl
theorem toStr_inj {x y : List Nat} (h : toStr x = toStr y) : x = y := by
  have : (toStr x).cps.toList = (toStr y).cps.toList := by rw [h]
  simpa [toStr] using this
mutual
/-- a value stands for one datum alone -/
theorem VR.one (I : Inv X pins σ H s) (r : Rel X.K H μ st) : ∀ (d e : Val) (v : V), VR X.K H μ st.length v d → VR X.K H μ st.length v e → d = e
  | .non, e, v, h, g => by
    have := h.i_non; subst this; cases g; rfl
  | .bl b, e, v, h, g => by
    have := h.i_bl; subst this; cases g; rfl
  | .int i, e, v, h, g => by
    have := h.i_int; subst this; cases g; rfl
  | .str x, e, v, h, g => by
    have hv := h.i_str
    cases e with
    | str y => rw [toStr_inj (V.str.inj (hv.symm.trans g.i_str))]
    | non => have := g.i_non; rw [this] at hv; cases hv
    | bl b => have := g.i_bl; rw [this] at hv; cases hv
    | int b => have := g.i_int; rw [this] at hv; cases hv
    | tup b => obtain ⟨_, _, this, _⟩ := g.i_tup; rw [this] at hv; cases hv
    | ref b => have := g.i_ref.2; rw [this] at hv; cases hv
  | .tup xs, e, v, h, g => by
    obtain ⟨a, vs, hv, s1, q1⟩ := h.i_tup
    cases e with
    | str y => have := g.i_str; rw [this] at hv; cases hv
    | non => have := g.i_non; rw [this] at hv; cases hv
    | bl b => have := g.i_bl; rw [this] at hv; cases hv
    | int b => have := g.i_int; rw [this] at hv; cases hv
    | tup ys =>
      obtain ⟨b, us, hu, s2, q2⟩ := g.i_tup
      have e1 := V.ref.inj (hv.symm.trans hu)
      subst e1
      have e2 := I.tuple_inj s1 s2
      subst e2
      rw [VRs.one I r xs ys _ q1 q2]
    | ref n =>
      obtain ⟨hn, hu⟩ := g.i_ref
      have e1 := V.ref.inj (hv.symm.trans hu)
      rw [e1] at s1
      exact (not_both I r hn s1).elim
  | .ref n, e, v, h, g => by
    obtain ⟨hn, hv⟩ := h.i_ref
    cases e with
    | str y => have := g.i_str; rw [this] at hv; cases hv
    | non => have := g.i_non; rw [this] at hv; cases hv
    | bl b => have := g.i_bl; rw [this] at hv; cases hv
    | int b => have := g.i_int; rw [this] at hv; cases hv
    | tup ys =>
      obtain ⟨b, us, hu, s2, q2⟩ := g.i_tup
      have e1 := V.ref.inj (hu.symm.trans hv)
      rw [e1] at s2
      exact (not_both I r hn s2).elim
    | ref m =>
      obtain ⟨hm, hu⟩ := g.i_ref
      rw [r.inj n m hn hm (V.ref.inj (hv.symm.trans hu))]
theorem VRs.one (I : Inv X pins σ H s) (r : Rel X.K H μ st) : ∀ (d e : List Val) (v : List V), VRs X.K H μ st.length v d → VRs X.K H μ st.length v e → d = e
  | [], e, v, h, g => by
    cases h
    cases g; rfl
  | x :: xs, e, v, h, g => by
    cases v with
    | nil => cases h
    | cons u us =>
      cases e with
      | nil => cases g
      | cons y ys =>
        have h' : VR X.K H μ st.length u x ∧ VRs X.K H μ st.length us xs := by cases h with | cons a b => exact ⟨a, b⟩
        have g' : VR X.K H μ st.length u y ∧ VRs X.K H μ st.length us ys := by cases g with | cons a b => exact ⟨a, b⟩
        rw [VR.one I r _ _ _ h'.1 g'.1, VRs.one I r _ _ _ h'.2 g'.2]
end
theorem eqAll_range {f : Val → Val → Option Bool} : ∀ {xs ys : List Val} {r : Bool}, eqAll f xs ys = some r →
    ∃ g : Nat → Bool, (∀ (j : Nat) x y, xs[j]? = some x → ys[j]? = some y → f x y = some (g j)) ∧ ((List.range (min xs.length ys.length)).all g && xs.length == ys.length) = r := by
  intro xs
  induction xs with
  | nil => intro ys r h; cases ys with
    | nil => simp [eqAll] at h; exact ⟨fun _ => true, fun j x y e => by simp at e, by simp; exact h.symm ▸ rfl⟩
    | cons => simp [eqAll] at h; exact ⟨fun _ => true, fun j x y e => by simp at e, by simp; exact h.symm ▸ rfl⟩
  | cons x xs ih =>
    intro ys r h
    cases ys with
    | nil => simp [eqAll] at h; exact ⟨fun _ => true, fun j x y _ e => by simp at e, by simp; exact h.symm ▸ rfl⟩
    | cons y ys =>
      simp only [eqAll, Option.bind_eq_some_iff] at h
      obtain ⟨b, h1, c, h2, h3⟩ := h
      obtain ⟨g, g1, g2⟩ := ih h2
      refine ⟨fun j => match j with | 0 => b | j + 1 => g j, fun j u w e1 e2 => ?_, ?_⟩
      · cases j with
        | zero => simp at e1 e2; subst e1; subst e2; exact h1
        | succ j => simp at e1 e2; exact g1 j u w e1 e2
      · have e : min (x :: xs).length (y :: ys).length = min xs.length ys.length + 1 := by simp only [List.length_cons]; omega
        rw [e, List.range_succ_eq_map, List.all_cons, List.all_map]
        have : (List.range (min xs.length ys.length)).all ((fun j => match j with | 0 => b | j + 1 => g j) ∘ Nat.succ) = (List.range (min xs.length ys.length)).all g := rfl
        rw [this]
        have e2 : ((x :: xs).length == (y :: ys).length) = (xs.length == ys.length) := by simp
        rw [e2, ← Option.some.inj h3, ← g2, Bool.and_assoc]
theorem str_toStr (x y : List Nat) : (toStr x == toStr y) = (x == y) := by
  rw [← SeqAt.str_beq]; simp [toStr]
/-- what stands for a flat value -/
theorem flat_eq {A : Around} {v u : V} {a b : Val} {vv uu : Value} {r : Bool} {N : Nat} (h : eqFlat a b = some r) (ha : VR X.K H μ N v a) (hb : VR X.K H μ N u b) (rv : L2.RelV v vv) (ru : L2.RelV u uu) : SeqAt.EqAt A s vv uu r := by
  cases a with
  | non =>
    have := ha.i_non; subst this; cases rv
    cases b with
    | non => have := hb.i_non; subst this; cases ru; cases h; exact SeqAt.EqAt.same _
    | bl x => have := hb.i_bl; subst this; cases ru; cases h; exact SeqAt.EqAt.none_bool _
    | int x => have := hb.i_int; subst this; obtain ⟨t, rfl⟩ := ru; cases h; exact SeqAt.EqAt.none_int _ _
    | str x => have := hb.i_str; subst this; obtain ⟨t, rfl⟩ := ru; cases h; exact SeqAt.EqAt.none_str _ _
    | _ => cases h
  | bl y =>
    have := ha.i_bl; subst this; cases rv
    cases b with
    | non => have := hb.i_non; subst this; cases ru; cases h; exact SeqAt.EqAt.bool_none _
    | bl x => have := hb.i_bl; subst this; cases ru; cases h; exact SeqAt.EqAt.bool_bool _ _
    | int x => have := hb.i_int; subst this; obtain ⟨t, rfl⟩ := ru; cases h; exact SeqAt.EqAt.bool_int _ _ _
    | str x => have := hb.i_str; subst this; obtain ⟨t, rfl⟩ := ru; cases h; exact SeqAt.EqAt.bool_str _ _ _
    | _ => cases h
  | int y =>
    have := ha.i_int; subst this; obtain ⟨t', rfl⟩ := rv
    cases b with
    | non => have := hb.i_non; subst this; cases ru; cases h; exact SeqAt.EqAt.int_none _ _
    | bl x => have := hb.i_bl; subst this; cases ru; cases h; exact SeqAt.EqAt.int_bool _ _ _
    | int x => have := hb.i_int; subst this; obtain ⟨t, rfl⟩ := ru; cases h; exact SeqAt.EqAt.int_int _ _ _ _
    | str x => have := hb.i_str; subst this; obtain ⟨t, rfl⟩ := ru; cases h; exact SeqAt.EqAt.int_str _ _ _ _
    | _ => cases h
  | str y =>
    have := ha.i_str; subst this; obtain ⟨t', rfl⟩ := rv
    cases b with
    | non => have := hb.i_non; subst this; cases ru; cases h; exact SeqAt.EqAt.str_none _ _
    | bl x => have := hb.i_bl; subst this; cases ru; cases h; exact SeqAt.EqAt.str_bool _ _ _
    | int x => have := hb.i_int; subst this; obtain ⟨t, rfl⟩ := ru; cases h; exact SeqAt.EqAt.str_int _ _ _ _
    | str x =>
      have := hb.i_str; subst this; obtain ⟨t, rfl⟩ := ru
      cases h
      rw [← str_toStr]
      exact SeqAt.EqAt.str_str _ _ _ _
    | _ => cases h
  | _ => cases b <;> cases h
theorem vr_flat {A : Around} {u : V} {b : Val} {uu : Value} {N : Nat} (hu : A.units < cLine) (I : Inv X pins σ H s) (hb : isFlat b = true) (h : VR X.K H μ N u b) (ru : L2.RelV u uu) {p : Addr} {xs : List V}
    (hs : SqL X.K H p xs ∨ SqT X.K H p xs) : SeqAt.EqAt A s (.ref p) uu false ∧ SeqAt.EqAt A s uu (.ref p) false := by
  rcases hs with hs | hs
  · obtain ⟨its, _, pl, _⟩ := I.list hs
    have pl := pl.isList
    cases h <;> first | (simp [isFlat] at hb; done) | skip
    · subst ru; exact ⟨SeqAt.EqAt.list_none pl hu, SeqAt.EqAt.none_list pl hu⟩
    · subst ru; exact ⟨SeqAt.EqAt.list_bool _ pl hu, SeqAt.EqAt.bool_list _ pl hu⟩
    · obtain ⟨t, rfl⟩ := ru; exact ⟨SeqAt.EqAt.list_int _ _ pl hu, SeqAt.EqAt.int_list _ _ pl hu⟩
    · obtain ⟨t, rfl⟩ := ru; exact ⟨SeqAt.EqAt.list_str _ _ pl hu, SeqAt.EqAt.str_list _ _ pl hu⟩
  · obtain ⟨its, _, pl, _⟩ := I.tuple hs
    have pl : s.heap.IsTuple p its.toArray := pl
    cases h <;> first | (simp [isFlat] at hb; done) | skip
    · subst ru; exact ⟨SeqAt.EqAt.tuple_none pl hu, SeqAt.EqAt.none_tuple pl hu⟩
    · subst ru; exact ⟨SeqAt.EqAt.tuple_bool _ pl hu, SeqAt.EqAt.bool_tuple _ pl hu⟩
    · obtain ⟨t, rfl⟩ := ru; exact ⟨SeqAt.EqAt.tuple_int _ _ pl hu, SeqAt.EqAt.int_tuple _ _ pl hu⟩
    · obtain ⟨t, rfl⟩ := ru; exact ⟨SeqAt.EqAt.tuple_str _ _ pl hu, SeqAt.EqAt.str_tuple _ _ pl hu⟩
theorem Vals.at_ {vs : List V} {its : List Value} {N : Nat} {K : PySem.W.Frag} {ds : List Val} (h : VRs K H μ N vs ds) (rv : L2.Vals vs its) {j : Nat} (hj : j < its.length) : ∃ d v, ds[j]? = some d ∧ VR K H μ N v d ∧ L2.RelV v its[j] := by
  have hl : j < vs.length := by rw [L2.Vals.length rv]; exact hj
  have hd : j < ds.length := by rw [← VRs.length h]; exact hl
  obtain ⟨v, e1, r1⟩ := VRs.get h (List.getElem?_eq_getElem hd)
  obtain ⟨u, e2, r2⟩ := rv.get e1
  rw [List.getElem?_eq_getElem hj] at e2
  cases e2
  exact ⟨_, v, List.getElem?_eq_getElem hd, r1, r2⟩
theorem units_in1 (A : Around) : A.in1.units = A.units + 1 := by first | rfl | simp [Around.in1]
/-- two sequences -/
theorem seq_eq (I : Inv X pins σ H s) (r : Rel X.K H μ st) {n : Nat} {A : Around} (hu : A.units < cLine) {k j : Bool} {xs ys : List Val} {vs us : List V} {p q : Addr} {res : Bool}
    (ih : ∀ a b v u vv uu res, eqV n st a b = some res → VR X.K H μ st.length v a → VR X.K H μ st.length u b → L2.RelV v vv → L2.RelV u uu → SeqAt.EqAt A.in1 s vv uu res)
    (h : (if k == j then (if k && xs.length != ys.length then some false else eqAll (eqV n st) xs ys) else some false) = some res)
    (hp : if k then SqL X.K H p vs else SqT X.K H p vs) (hv : VRs X.K H μ st.length vs xs) (hq : if j then SqL X.K H q us else SqT X.K H q us) (hw : VRs X.K H μ st.length us ys) (hne : p = q → res = true) : SeqAt.EqAt A s (.ref p) (.ref q) res := by
  by_cases hpq : p = q
  · have := hne hpq
    subst this; subst hpq
    exact SeqAt.EqAt.same _
  cases k with
  | true =>
    obtain ⟨its, rv, pl, _⟩ := I.list hp
    cases j with
    | true =>
      obtain ⟨its2, rv2, pl2, _⟩ := I.list hq
      have l1 : its.length = xs.length := by rw [← L2.Vals.length rv, VRs.length hv]
      have l2 : its2.length = ys.length := by rw [← L2.Vals.length rv2, VRs.length hw]
      simp only [beq_self_eq_true, if_true, Bool.true_and] at h
      split at h
      · rename_i hl
        cases h
        refine SeqAt.EqAt.of_refs hpq (SeqAt.RcAt.lists_lengths pl.isList pl2.isList ?_ hu)
        simpa [l1, l2] using hl
      · rename_i hl
        have hl' : xs.length = ys.length := by simpa using hl
        obtain ⟨g, g1, g2⟩ := eqAll_range h
        have e : res = (List.range its.toArray.size).all g := by rw [← g2]; simp [l1, hl']
        rw [e]
        refine SeqAt.EqAt.of_refs hpq (SeqAt.RcAt.lists pl.isList pl2.isList (by simp [l1, l2, hl']) hu fun i h1 h2 => ?_)
        obtain ⟨d, v, e1, r1, r2⟩ := Vals.at_ hv rv (by simpa using h1)
        obtain ⟨d', v', e1', r1', r2'⟩ := Vals.at_ hw rv2 (by simpa using h2)
        exact ih _ _ _ _ _ _ _ (g1 i d d' e1 e1') r1 r1' (by simpa using r2) (by simpa using r2')
    | false =>
      obtain ⟨its2, rv2, pl2, _⟩ := I.tuple hq
      simp at h
      subst h
      exact SeqAt.EqAt.list_tuple pl.isList pl2 hu
  | false =>
    obtain ⟨its, rv, pl, _⟩ := I.tuple hp
    cases j with
    | true =>
      obtain ⟨its2, rv2, pl2, _⟩ := I.list hq
      simp at h
      subst h
      exact SeqAt.EqAt.tuple_list pl pl2.isList hu
    | false =>
      obtain ⟨its2, rv2, pl2, _⟩ := I.tuple hq
      have l1 : its.length = xs.length := by rw [← L2.Vals.length rv, VRs.length hv]
      have l2 : its2.length = ys.length := by rw [← L2.Vals.length rv2, VRs.length hw]
      simp only [beq_self_eq_true, if_true, Bool.false_and, Bool.false_eq_true, if_false] at h
      obtain ⟨g, g1, g2⟩ := eqAll_range h
      have e : res = ((List.range (min its.toArray.size its2.toArray.size)).all g && its.toArray.size == its2.toArray.size) := by rw [← g2]; simp [l1, l2]
      rw [e]
      refine SeqAt.EqAt.of_refs hpq (SeqAt.RcAt.tuples pl pl2 hu fun i h1 h2 => ?_)
      obtain ⟨d, v, e1, r1, r2⟩ := Vals.at_ hv rv (by simpa using h1)
      obtain ⟨d', v', e1', r1', r2'⟩ := Vals.at_ hw rv2 (by simpa using h2)
      exact ih _ _ _ _ _ _ _ (g1 i d d' e1 e1') r1 r1' (by simpa using r2) (by simpa using r2')
theorem eqV_at (I : Inv X pins σ H s) (r : Rel X.K H μ st) : ∀ (n : Nat) (A : Around), A.units + n < cLine → ∀ a b v u vv uu res, eqV n st a b = some res → VR X.K H μ st.length v a → VR X.K H μ st.length u b → L2.RelV v vv → L2.RelV u uu → SeqAt.EqAt A s vv uu res := by
  intro n
  induction n with
  | zero => intro A _ a b v u vv uu res h; simp [eqV] at h
  | succ n ih =>
    intro A hu a b v u vv uu res h ha hb rv ru
    have hu0 : A.units < cLine := by omega
    have same : ∀ p, v = .ref p → u = .ref p → res = true := fun p e1 e2 => by
      have : a = b := VR.one I r a b v ha (by rw [e1, ← e2]; exact hb)
      subst this
      exact eqV_refl _ _ _ h
    have h0 := h
    unfold eqV at h
    cases qa : seqV st a with
    | none =>
      cases qb : seqV st b with
      | none => simp only [qa, qb] at h; exact flat_eq h ha hb rv ru
      | some p =>
        obtain ⟨k, ys⟩ := p
        simp only [qa, qb] at h
        split at h
        · rename_i hf
          cases h
          obtain ⟨p, us, e, hs, _⟩ := seqR_any (H₀ := H) (x := .v b) r hb qb
          subst e
          cases ru
          exact (vr_flat hu0 I hf ha rv hs).2
        · cases h
    | some pa =>
      obtain ⟨k, xs⟩ := pa
      cases qb : seqV st b with
      | none =>
        simp only [qa, qb] at h
        split at h
        · rename_i hf
          cases h
          obtain ⟨p, us, e, hs, _⟩ := seqR_any (H₀ := H) (x := .v a) r ha qa
          subst e
          cases rv
          exact (vr_flat hu0 I hf hb ru hs).1
        · cases h
      | some pb =>
        obtain ⟨j, ys⟩ := pb
        simp only [qa, qb] at h
        have A1 : ∃ p vs, v = .ref p ∧ (if k then SqL X.K H p vs else SqT X.K H p vs) ∧ VRs X.K H μ st.length vs xs := by
          cases k with
          | true => obtain ⟨p, vs, e, x, y⟩ := seqV_list r ha qa; exact ⟨p, vs, e, x, y⟩
          | false => obtain ⟨p, vs, _, e, x, y⟩ := seqV_tup ha qa; exact ⟨p, vs, e, x, y⟩
        have B1 : ∃ p vs, u = .ref p ∧ (if j then SqL X.K H p vs else SqT X.K H p vs) ∧ VRs X.K H μ st.length vs ys := by
          cases j with
          | true => obtain ⟨p, vs, e, x, y⟩ := seqV_list r hb qb; exact ⟨p, vs, e, x, y⟩
          | false => obtain ⟨p, vs, _, e, x, y⟩ := seqV_tup hb qb; exact ⟨p, vs, e, x, y⟩
        obtain ⟨p, vs, rfl, s1, r1⟩ := A1
        obtain ⟨q, us, rfl, s2, r2⟩ := B1
        cases rv; cases ru
        exact seq_eq I r hu0 (fun a b v u vv uu res => ih A.in1 (by rw [units_in1]; omega) a b v u vv uu res) h s1 r1 s2 r2 fun e => same p rfl (by rw [e])
end
end Mi
end
section
set_option linter.all false
set_option autoImplicit false
set_option maxRecDepth 10000
/-! MiOps2: further operations. -/
namespace Mi
open PySem PySem.Spec L2
open PyProof.Rows hiding RelV

section
variable {K : PySem.W.Frag} {H₀ H : Hp} {μ : Mu} {st : Store}
theorem ownL_ok {x : RV} {v : V} {ds : List Val} (r : Rel K H μ st) (h : VRR K H₀ H μ st.length v x) (e : ownL st x = some ds) : ∃ a vs, v = .ref a ∧ H a = some (.lst vs) ∧ VRs K H μ st.length vs ds := by
  cases x with
  | l xs =>
    simp [ownL] at e
    subst e
    obtain ⟨p, vs, e0, _, e1, e2, _⟩ := h
    exact ⟨p, vs, e0, e1, e2⟩
  | v d =>
    unfold ownL at e
    split at e
    · rename_i h'; cases h'
    · rename_i n h'
      cases h'
      split at e
      · rename_i xs hx
        cases e
        obtain ⟨vs, e1, e2⟩ := r.obj _ _ hx
        obtain ⟨hn, hv⟩ := h.i_ref
        exact ⟨_, vs, hv, e1, e2⟩
      · cases e
    · cases e
end
section
variable {X : Cx}
theorem nr_v {K : PySem.W.Frag} {H₀ H : Hp} {μ : Mu} {N : Nat} {v : V} {d : Val} (h : VRR K H₀ H μ N v (.v d)) : VR K H μ N v d := h
theorem o_add : OpR X (binaryOp .Add) (r2 X .add) := by
  intro pins s σ H x y v u Q I rx ry hr
  obtain ⟨W, μ₀, st₀, H₀, μ, st, r, q, P, hv, hu, a⟩ := hr
  simp only [f2] at a
  split at a
  · rename_i i j
    have e1 := (nr_v hv).i_int; have e2 := (nr_v hu).i_int
    subst e1; subst e2
    exact op_add pins s σ H _ _ v u Q I rx ry ⟨i, j, rfl, rfl, fin a P (.int _)⟩
  · rename_i i j
    split at a
    · rename_i hl
      have e1 := (nr_v hv).i_str; have e2 := (nr_v hu).i_str
      subst e1; subst e2
      refine op_add_str pins s σ H _ _ v u Q I rx ry ⟨_, _, rfl, rfl, by simpa [toStr, Str.length] using (show i.length + j.length ≤ sizeLine from hl), ?_⟩
      have : VR X.K H μ st.length (.str (toStr (i ++ j))) (.str (i ++ j)) := .str _
      have e : toStr i ++ toStr j = toStr (i ++ j) := by show Str.append _ _ = _; simp [toStr, Str.append]
      rw [e]
      exact fin a P this
    · exact a.elim
  · rename_i xs ys
    split at a
    · rename_i hl
      obtain ⟨p, vs, rfl, s1, q1⟩ := (nr_v hv).i_tup
      obtain ⟨p2, us, rfl, s2, q2⟩ := (nr_v hu).i_tup
      refine op_catA pins s σ H _ _ v u Q I rx ry ⟨_, _, vs, us, rfl, rfl, s1, s2, by rw [VRs.length q1, VRs.length q2]; exact hl, fun e => ?_, fun e e' => ?_, fun _ _ p hp => finT a P (q1.app q2) hp⟩
      · subst e; cases q1; exact fin a P (.tup s2 q2)
      · subst e'; cases q2; exact fin a P (by rw [List.append_nil]; exact .tup s1 q1)
    · exact a.elim
  · split at a
    · rename_i xs ys e1 e2
      split at a
      · rename_i hl
        obtain ⟨p, vs, rfl, s1, q1⟩ := ownL_ok P.rel hv e1
        obtain ⟨p2, us, rfl, s2, q2⟩ := ownL_ok P.rel hu e2
        exact op_cat pins s σ H _ _ v u Q I rx ry ⟨_, _, vs, us, rfl, rfl, s1, s2, by rw [VRs.length q1, VRs.length q2]; exact hl, fun p hp => finL a P (q1.app q2) hp⟩
      · exact a.elim
    · exact a.elim
theorem o_mul : OpR X (binaryOp .Mult) (r2 X .mul) := by
  intro pins s σ H x y v u Q I rx ry hr
  obtain ⟨W, μ₀, st₀, H₀, μ, st, r, q, P, hv, hu, a⟩ := hr
  simp only [f2] at a
  split at a
  · rename_i i j
    split at a
    · rename_i hl
      have e1 := (nr_v hv).i_int; have e2 := (nr_v hu).i_int
      subst e1; subst e2
      rcases hl with hl | hl | hl
      · exact L2.op_mul pins s σ H _ _ v u Q I rx ry ⟨i, j, rfl, rfl, .inl ⟨by omega, by omega⟩, fin a P (.int _)⟩
      · exact L2.op_mul pins s σ H _ _ v u Q I rx ry ⟨i, j, rfl, rfl, .inr ⟨by omega, by omega⟩, fin a P (.int _)⟩
      · exact op_mulW pins s σ H _ _ v u Q I rx ry ⟨i, j, rfl, rfl, hl, fin a P (.int _)⟩
    · exact a.elim
  · rename_i xs j
    split at a
    · rename_i hl
      obtain ⟨p, vs, rfl, s1, q1⟩ := (nr_v hv).i_tup
      have e2 := (nr_v hu).i_int
      subst e2
      refine op_repT pins s σ H _ _ v u Q I rx ry ⟨_, j, vs, rfl, rfl, s1, fun z => ?_, hl.1, hl.2.1, by rw [VRs.length q1]; exact hl.2.2.1, fun p hp => finT a P (q1.rep _) hp⟩
      subst z; cases q1; exact hl.2.2.2 rfl
    · exact a.elim
  · rename_i j _ _
    split at a
    · rename_i xs e1
      split at a
      · rename_i hl
        obtain ⟨p, vs, rfl, s1, q1⟩ := ownL_ok P.rel hv e1
        have e2 := (nr_v hu).i_int
        subst e2
        exact op_rep pins s σ H _ _ v u Q I rx ry ⟨_, j, vs, rfl, rfl, s1, hl.1, hl.2.1, by rw [VRs.length q1]; exact hl.2.2, fun p hp => finL a P (q1.rep _) hp⟩
      · exact a.elim
    · exact a.elim
  · exact a.elim
/-! ### ==, != -/
theorem flat_rc {A : Around} {v u : V} {a b : Val} {vv uu : Value} {r : Bool} {N : Nat} {s : Shared} {H : Hp} {μ : Mu} (h : eqFlat a b = some r) (ha : VR X.K H μ N v a) (hb : VR X.K H μ N u b) (rv : L2.RelV v vv) (ru : L2.RelV u uu) : SeqAt.RcAt A s vv uu r ∧ SeqAt.RcNeAt A s vv uu (!r) := by
  cases a with
  | non =>
    have := ha.i_non; subst this; cases rv
    cases b with
    | non => have := hb.i_non; subst this; cases ru; cases h; exact ⟨SeqAt.RcAt.none_none, SeqAt.RcNeAt.none_none⟩
    | bl x => have := hb.i_bl; subst this; cases ru; cases h; exact ⟨SeqAt.RcAt.none_bool _, SeqAt.RcNeAt.none_bool _⟩
    | int x => have := hb.i_int; subst this; obtain ⟨t, rfl⟩ := ru; cases h; exact ⟨SeqAt.RcAt.none_int _ _, SeqAt.RcNeAt.none_int _ _⟩
    | str x => have := hb.i_str; subst this; obtain ⟨t, rfl⟩ := ru; cases h; exact ⟨SeqAt.RcAt.none_str _ _, SeqAt.RcNeAt.none_str _ _⟩
    | _ => cases h
  | bl y =>
    have := ha.i_bl; subst this; cases rv
    cases b with
    | non => have := hb.i_non; subst this; cases ru; cases h; exact ⟨SeqAt.RcAt.bool_none _, SeqAt.RcNeAt.bool_none _⟩
    | bl x => have := hb.i_bl; subst this; cases ru; cases h; exact ⟨SeqAt.RcAt.bool_bool _ _, SeqAt.RcNeAt.bool_bool _ _⟩
    | int x => have := hb.i_int; subst this; obtain ⟨t, rfl⟩ := ru; cases h; exact ⟨SeqAt.RcAt.bool_int _ _ _, SeqAt.RcNeAt.bool_int _ _ _⟩
    | str x => have := hb.i_str; subst this; obtain ⟨t, rfl⟩ := ru; cases h; exact ⟨SeqAt.RcAt.bool_str _ _ _, SeqAt.RcNeAt.bool_str _ _ _⟩
    | _ => cases h
  | int y =>
    have := ha.i_int; subst this; obtain ⟨t', rfl⟩ := rv
    cases b with
    | non => have := hb.i_non; subst this; cases ru; cases h; exact ⟨SeqAt.RcAt.int_none _ _, SeqAt.RcNeAt.int_none _ _⟩
    | bl x => have := hb.i_bl; subst this; cases ru; cases h; exact ⟨SeqAt.RcAt.int_bool _ _ _, SeqAt.RcNeAt.int_bool _ _ _⟩
    | int x => have := hb.i_int; subst this; obtain ⟨t, rfl⟩ := ru; cases h; exact ⟨SeqAt.RcAt.int_int _ _ _ _, SeqAt.RcNeAt.int_int _ _ _ _⟩
    | str x => have := hb.i_str; subst this; obtain ⟨t, rfl⟩ := ru; cases h; exact ⟨SeqAt.RcAt.int_str _ _ _ _, SeqAt.RcNeAt.int_str _ _ _ _⟩
    | _ => cases h
  | str y =>
    have := ha.i_str; subst this; obtain ⟨t', rfl⟩ := rv
    cases b with
    | non => have := hb.i_non; subst this; cases ru; cases h; exact ⟨SeqAt.RcAt.str_none _ _, SeqAt.RcNeAt.str_none _ _⟩
    | bl x => have := hb.i_bl; subst this; cases ru; cases h; exact ⟨SeqAt.RcAt.str_bool _ _ _, SeqAt.RcNeAt.str_bool _ _ _⟩
    | int x => have := hb.i_int; subst this; obtain ⟨t, rfl⟩ := ru; cases h; exact ⟨SeqAt.RcAt.str_int _ _ _ _, SeqAt.RcNeAt.str_int _ _ _ _⟩
    | str x =>
      have := hb.i_str; subst this; obtain ⟨t, rfl⟩ := ru
      cases h
      rw [← str_toStr]
      exact ⟨SeqAt.RcAt.str_str _ _ _ _, SeqAt.RcNeAt.str_str _ _ _ _⟩
    | _ => cases h
  | _ => cases b <;> cases h
end
section
variable {X : Cx} {pins : List (Addr × PySem.Obj)} {σ : L2.St} {H : Hp} {s : Shared} {μ : Mu} {st : Store}
theorem vr_flat_rc {A : Around} {u : V} {b : Val} {uu : Value} {N : Nat} (hu : A.units < cLine) (I : Inv X pins σ H s) (hb : isFlat b = true) (h : VR X.K H μ N u b) (ru : L2.RelV u uu) {p : Addr} {xs : List V}
    (hs : SqL X.K H p xs ∨ SqT X.K H p xs) : (SeqAt.RcAt A s (.ref p) uu false ∧ SeqAt.RcNeAt A s (.ref p) uu true) ∧ SeqAt.RcAt A s uu (.ref p) false ∧ SeqAt.RcNeAt A s uu (.ref p) true := by
  rcases hs with hs | hs
  · obtain ⟨its, _, pl, _⟩ := I.list hs
    have pl := pl.isList
    cases h <;> first | (simp [isFlat] at hb; done) | skip
    · subst ru; exact ⟨⟨SeqAt.RcAt.list_none pl hu, SeqAt.RcNeAt.list_none pl hu⟩, SeqAt.RcAt.none_list pl hu, SeqAt.RcNeAt.none_list pl hu⟩
    · subst ru; exact ⟨⟨SeqAt.RcAt.list_bool _ pl hu, SeqAt.RcNeAt.list_bool _ pl hu⟩, SeqAt.RcAt.bool_list _ pl hu, SeqAt.RcNeAt.bool_list _ pl hu⟩
    · obtain ⟨t, rfl⟩ := ru; exact ⟨⟨SeqAt.RcAt.list_int _ _ pl hu, SeqAt.RcNeAt.list_int _ _ pl hu⟩, SeqAt.RcAt.int_list _ _ pl hu, SeqAt.RcNeAt.int_list _ _ pl hu⟩
    · obtain ⟨t, rfl⟩ := ru; exact ⟨⟨SeqAt.RcAt.list_str _ _ pl hu, SeqAt.RcNeAt.list_str _ _ pl hu⟩, SeqAt.RcAt.str_list _ _ pl hu, SeqAt.RcNeAt.str_list _ _ pl hu⟩
  · obtain ⟨its, _, pl, _⟩ := I.tuple hs
    have pl : s.heap.IsTuple p its.toArray := pl
    cases h <;> first | (simp [isFlat] at hb; done) | skip
    · subst ru; exact ⟨⟨SeqAt.RcAt.tuple_none pl hu, SeqAt.RcNeAt.tuple_none pl hu⟩, SeqAt.RcAt.none_tuple pl hu, SeqAt.RcNeAt.none_tuple pl hu⟩
    · subst ru; exact ⟨⟨SeqAt.RcAt.tuple_bool _ pl hu, SeqAt.RcNeAt.tuple_bool _ pl hu⟩, SeqAt.RcAt.bool_tuple _ pl hu, SeqAt.RcNeAt.bool_tuple _ pl hu⟩
    · obtain ⟨t, rfl⟩ := ru; exact ⟨⟨SeqAt.RcAt.tuple_int _ _ pl hu, SeqAt.RcNeAt.tuple_int _ _ pl hu⟩, SeqAt.RcAt.int_tuple _ _ pl hu, SeqAt.RcNeAt.int_tuple _ _ pl hu⟩
    · obtain ⟨t, rfl⟩ := ru; exact ⟨⟨SeqAt.RcAt.tuple_str _ _ pl hu, SeqAt.RcNeAt.tuple_str _ _ pl hu⟩, SeqAt.RcAt.str_tuple _ _ pl hu, SeqAt.RcNeAt.str_tuple _ _ pl hu⟩
theorem seq_rc (I : Inv X pins σ H s) (r : Rel X.K H μ st) {A : Around} (hu : A.units + 64 < cLine) {k j : Bool} {xs ys : List Val} {vs us : List V} {p q : Addr} {res : Bool} {n : Nat} (hn : n ≤ 60)
    (h : (if k == j then (if k && xs.length != ys.length then some false else eqAll (eqV n st) xs ys) else some false) = some res)
    (hp : if k then SqL X.K H p vs else SqT X.K H p vs) (hv : VRs X.K H μ st.length vs xs) (hq : if j then SqL X.K H q us else SqT X.K H q us) (hw : VRs X.K H μ st.length us ys) : SeqAt.RcAt A s (.ref p) (.ref q) res ∧ SeqAt.RcNeAt A s (.ref p) (.ref q) (!res) := by
  have hu0 : A.units < cLine := by omega
  have ih : ∀ a b v u vv uu res, eqV n st a b = some res → VR X.K H μ st.length v a → VR X.K H μ st.length u b → L2.RelV v vv → L2.RelV u uu → SeqAt.EqAt A.in1 s vv uu res :=
    fun a b v u vv uu res => eqV_at I r n A.in1 (by rw [units_in1]; omega) a b v u vv uu res
  cases k with
  | true =>
    obtain ⟨its, rv, pl, _⟩ := I.list hp
    cases j with
    | true =>
      obtain ⟨its2, rv2, pl2, _⟩ := I.list hq
      have l1 : its.length = xs.length := by rw [← L2.Vals.length rv, VRs.length hv]
      have l2 : its2.length = ys.length := by rw [← L2.Vals.length rv2, VRs.length hw]
      simp only [beq_self_eq_true, if_true, Bool.true_and] at h
      split at h
      · rename_i hl
        cases h
        have hl' : (its.toArray.size != its2.toArray.size) = true := by simpa [l1, l2] using hl
        exact ⟨SeqAt.RcAt.lists_lengths pl.isList pl2.isList hl' hu0, SeqAt.RcNeAt.lists_lengths pl.isList pl2.isList hl' hu0⟩
      · rename_i hl
        have hl' : xs.length = ys.length := by simpa using hl
        obtain ⟨g, g1, g2⟩ := eqAll_range h
        have e : res = (List.range its.toArray.size).all g := by rw [← g2]; simp [l1, hl']
        have he : ∀ i (h1 : i < its.toArray.size) (h2 : i < its2.toArray.size), SeqAt.EqAt A.in1 s its.toArray[i] its2.toArray[i] (g i) := fun i h1 h2 => by
          obtain ⟨d, v, e1, r1, r2⟩ := Vals.at_ hv rv (by simpa using h1)
          obtain ⟨d', v', e1', r1', r2'⟩ := Vals.at_ hw rv2 (by simpa using h2)
          exact ih _ _ _ _ _ _ _ (g1 i d d' e1 e1') r1 r1' (by simpa using r2) (by simpa using r2')
        rw [e]
        exact ⟨SeqAt.RcAt.lists pl.isList pl2.isList (by simp [l1, l2, hl']) hu0 he, SeqAt.RcNeAt.lists pl.isList pl2.isList (by simp [l1, l2, hl']) hu0 he⟩
    | false =>
      obtain ⟨its2, rv2, pl2, _⟩ := I.tuple hq
      simp at h
      subst h
      exact ⟨SeqAt.RcAt.list_tuple pl.isList pl2 hu0, SeqAt.RcNeAt.list_tuple pl.isList pl2 hu0⟩
  | false =>
    obtain ⟨its, rv, pl, _⟩ := I.tuple hp
    cases j with
    | true =>
      obtain ⟨its2, rv2, pl2, _⟩ := I.list hq
      simp at h
      subst h
      exact ⟨SeqAt.RcAt.tuple_list pl pl2.isList hu0, SeqAt.RcNeAt.tuple_list pl pl2.isList hu0⟩
    | false =>
      obtain ⟨its2, rv2, pl2, _⟩ := I.tuple hq
      have l1 : its.length = xs.length := by rw [← L2.Vals.length rv, VRs.length hv]
      have l2 : its2.length = ys.length := by rw [← L2.Vals.length rv2, VRs.length hw]
      simp only [beq_self_eq_true, if_true, Bool.false_and, Bool.false_eq_true, if_false] at h
      obtain ⟨g, g1, g2⟩ := eqAll_range h
      have e : res = ((List.range (min its.toArray.size its2.toArray.size)).all g && its.toArray.size == its2.toArray.size) := by rw [← g2]; simp [l1, l2]
      have he : ∀ i (h1 : i < its.toArray.size) (h2 : i < its2.toArray.size), SeqAt.EqAt A.in1 s its.toArray[i] its2.toArray[i] (g i) := fun i h1 h2 => by
        obtain ⟨d, v, e1, r1, r2⟩ := Vals.at_ hv rv (by simpa using h1)
        obtain ⟨d', v', e1', r1', r2'⟩ := Vals.at_ hw rv2 (by simpa using h2)
        exact ih _ _ _ _ _ _ _ (g1 i d d' e1 e1') r1 r1' (by simpa using r2) (by simpa using r2')
      rw [e]
      exact ⟨SeqAt.RcAt.tuples pl pl2 hu0 he, SeqAt.RcNeAt.tuples pl pl2 hu0 he⟩
theorem seqR_k {K : PySem.W.Frag} {H₀ : Hp} {x : RV} {v : V} {k : Bool} {ds : List Val} (r : Rel K H μ st) (h : VRR K H₀ H μ st.length v x) (e : seqR st x = some (k, ds)) :
    ∃ a vs, v = .ref a ∧ (if k then SqL K H a vs else SqT K H a vs) ∧ VRs K H μ st.length vs ds := by
  cases k with
  | true => obtain ⟨a, vs, e0, e1, e2⟩ := seqR_list r h e; exact ⟨a, vs, e0, e1, e2⟩
  | false => obtain ⟨a, vs, _, e0, e1, e2⟩ := seqR_tup h e; exact ⟨a, vs, e0, e1, e2⟩
theorem eqR_rc (I : Inv X pins σ H s) (r : Rel X.K H μ st) {H₀ : Hp} {A : Around} (hu : A.units + 64 < cLine) {a b : RV} {v u : V} {vv uu : Value} {res : Bool} (h : eqR st a b = some res)
    (ha : VRR X.K H₀ H μ st.length v a) (hb : VRR X.K H₀ H μ st.length u b) (rv : L2.RelV v vv) (ru : L2.RelV u uu) : SeqAt.RcAt A s vv uu res ∧ SeqAt.RcNeAt A s vv uu (!res) := by
  have hu0 : A.units < cLine := by omega
  unfold eqR at h
  cases qa : seqR st a with
  | none =>
    cases qb : seqR st b with
    | none =>
      simp only [qa, qb] at h
      split at h
      · exact flat_rc h ha hb rv ru
      · cases h
    | some p =>
      obtain ⟨k, ys⟩ := p
      simp only [qa, qb] at h
      split at h
      · split at h
        · rename_i hf
          cases h
          obtain ⟨p, us, e, hs, _⟩ := seqR_any r hb qb
          subst e
          cases ru
          exact (vr_flat_rc hu0 I hf ha rv hs).2
        · cases h
      · cases h
  | some pa =>
    obtain ⟨k, xs⟩ := pa
    cases qb : seqR st b with
    | none =>
      simp only [qa, qb] at h
      split at h
      · split at h
        · rename_i hf
          cases h
          obtain ⟨p, us, e, hs, _⟩ := seqR_any r ha qa
          subst e
          cases rv
          exact (vr_flat_rc hu0 I hf hb ru hs).1
        · cases h
      · cases h
    | some pb =>
      obtain ⟨j, ys⟩ := pb
      simp only [qa, qb] at h
      obtain ⟨p, vs, rfl, s1, r1⟩ := seqR_k r ha qa
      obtain ⟨q, us, rfl, s2, r2⟩ := seqR_k r hb qb
      cases rv; cases ru
      exact seq_rc I r hu (Nat.le_refl _) h s1 r1 s2 r2
theorem o_eqM (hu : X.A.units + 64 < cLine) : OpR X (compareOp .Eq) (r2 X .eq) := by
  intro pins s σ H x y v u Q I rx ry hr
  obtain ⟨W, μ₀, st₀, H₀, μ, st, r, q, P, hv, hu', a⟩ := hr
  simp only [f2, ov, Mi.lift] at a
  cases e : eqR st r q with
  | none => rw [e] at a; exact a.elim
  | some b =>
    rw [e] at a
    exact (eqR_rc I P.rel hu e hv hu' rx ry).1 X.prog X.w X.xe _ ⟨.bl b, H, I, rfl, fin a P (.bl b)⟩
theorem o_neM (hu : X.A.units + 64 < cLine) : OpR X (compareOp .NotEq) (r2 X .ne) := by
  intro pins s σ H x y v u Q I rx ry hr
  obtain ⟨W, μ₀, st₀, H₀, μ, st, r, q, P, hv, hu', a⟩ := hr
  simp only [f2, ov, Mi.lift] at a
  cases e : eqR st r q with
  | none => rw [e] at a; exact a.elim
  | some b =>
    rw [e] at a
    exact (eqR_rc I P.rel hu e hv hu' rx ry).2 X.prog X.w X.xe _ ⟨.bl (!b), H, I, rfl, fin a P (.bl (!b))⟩
end
end Mi
end
section
set_option linter.all false
set_option autoImplicit false
set_option maxRecDepth 10000
/-! MiOps3: in, places, methods of lists, built-ins. -/
namespace Mi
open PySem PySem.Spec L2
open PyProof.Rows hiding RelV

/-! ### in, index, count -/
section
variable {X : Cx} {pins : List (Addr × PySem.Obj)} {σ : L2.St} {H : Hp} {s : Shared} {μ : Mu} {st : Store}
/-- the answer for an item, by its value -/
noncomputable def ansOf (st : Store) (x : Val) (its : List Value) (ds : List Val) (y : Value) : Bool :=
  @decide (∃ (j : Nat) (d : Val), its[j]? = some y ∧ ds[j]? = some d ∧ eqV 60 st d x = some true) (Classical.propDecidable _)
theorem RelV.fun {x y : V} {u : Value} (r : L2.RelV x u) (q : L2.RelV y u) : x = y := L2.RelV.inj r q
theorem ansOf_eq (I : Inv X pins σ H s) (r : Rel X.K H μ st) {x : Val} {vs : List V} {its : List Value} {ds : List Val} (hv : VRs X.K H μ st.length vs ds) (rv : L2.Vals vs its) {j : Nat} {d : Val} {y : Value} {b : Bool}
    (e1 : its[j]? = some y) (e2 : ds[j]? = some d) (h : eqV 60 st d x = some b) : ansOf st x its ds y = b := by
  unfold ansOf
  cases b with
  | true => exact @decide_eq_true _ (Classical.propDecidable _) ⟨j, d, e1, e2, h⟩
  | false =>
    refine @decide_eq_false _ (Classical.propDecidable _) ?_
    rintro ⟨j', d', e1', e2', h'⟩
    obtain ⟨v, a1, a2⟩ := VRs.get hv e2
    obtain ⟨u, b1, b2⟩ := rv.get a1
    rw [e1] at b1; cases b1
    obtain ⟨v', a1', a2'⟩ := VRs.get hv e2'
    obtain ⟨u', b1', b2'⟩ := rv.get a1'
    rw [e1'] at b1'; cases b1'
    have e := RelV.fun b2 b2'
    subst e
    have := VR.one I r d d' v a2 a2'
    subst this
    rw [h] at h'
    cases h'
theorem anyEq_ok : ∀ {x : Val} {ds : List Val} {b : Bool}, anyEq st x ds = some b → (∀ d ∈ ds, ∃ c, eqV 60 st d x = some c) ∧ ∀ f : Val → Bool, (∀ d ∈ ds, eqV 60 st d x = some (f d)) → ds.any f = b := by
  intro x ds
  induction ds with
  | nil => intro b h; simp [anyEq] at h; exact ⟨fun d hd => by simp at hd, fun f _ => by simp; exact h⟩
  | cons y ys ih =>
    intro b h
    simp only [anyEq, Option.bind_eq_some_iff] at h
    obtain ⟨c, h1, d, h2, h3⟩ := h
    obtain ⟨i1, i2⟩ := ih h2
    refine ⟨fun z hz => ?_, fun f hf => ?_⟩
    · rcases List.mem_cons.mp hz with rfl | hz
      · exact ⟨c, h1⟩
      · exact i1 z hz
    · have e1 := hf y List.mem_cons_self
      rw [h1] at e1
      have e2 := i2 f fun z hz => hf z (List.mem_cons_of_mem _ hz)
      simp only [List.any_cons, e2, ← Option.some.inj e1]
      exact Option.some.inj h3
theorem items_ans (I : Inv X pins σ H s) (r : Rel X.K H μ st) {A : Around} (hu : A.units + 64 < cLine) {x : Val} {v : V} {vv : Value} {vs : List V} {its : List Value} {ds : List Val} (hx : VR X.K H μ st.length v x) (rx : L2.RelV v vv)
    (hv : VRs X.K H μ st.length vs ds) (rv : L2.Vals vs its) (h : ∀ d ∈ ds, ∃ c, eqV 60 st d x = some c) : ∀ y, y ∈ its.toArray → SeqAt.EqAt A.in1 s y vv (ansOf st x its ds y) := fun y hy => by
  have hy' : y ∈ its := by simpa using hy
  obtain ⟨j, hj, e⟩ := List.mem_iff_getElem.mp hy'
  have hl : its.length = ds.length := by rw [← L2.Vals.length rv, VRs.length hv]
  obtain ⟨d, v', e1, r1, r2⟩ := Vals.at_ hv rv hj
  obtain ⟨c, hc⟩ := h d (List.mem_of_getElem? e1)
  rw [ansOf_eq I r hv rv (by rw [List.getElem?_eq_getElem hj, e]) e1 hc]
  exact eqV_at I r 60 A.in1 (by rw [units_in1]; omega) d x v' v y vv c hc r1 hx (by rw [← e]; exact r2) rx
theorem any_ans (I : Inv X pins σ H s) (r : Rel X.K H μ st) {x : Val} {vs : List V} {its : List Value} {ds : List Val} {b : Bool} (hv : VRs X.K H μ st.length vs ds) (rv : L2.Vals vs its) (h : anyEq st x ds = some b) : its.toArray.any (ansOf st x its ds) = b := by
  obtain ⟨h1, h2⟩ := anyEq_ok h
  have hl : its.length = ds.length := by rw [← L2.Vals.length rv, VRs.length hv]
  have e := h2 (fun d => (eqV 60 st d x).getD false) fun d hd => by obtain ⟨c, hc⟩ := h1 d hd; rw [hc]; rfl
  rw [← e]
  have : ∀ (j : Nat) (y : Value) (d : Val), its[j]? = some y → ds[j]? = some d → ansOf st x its ds y = (eqV 60 st d x).getD false := fun j y d e1 e2 => by
    obtain ⟨c, hc⟩ := h1 d (List.mem_of_getElem? e2)
    rw [ansOf_eq I r hv rv e1 e2 hc, hc]; rfl
  have e3 : its.toArray.any (ansOf st x its ds) = its.any (ansOf st x its ds) := by simp
  rw [e3, Bool.eq_iff_iff, List.any_eq_true, List.any_eq_true]
  constructor
  · rintro ⟨y, hy, e⟩
    obtain ⟨j, hj, ej⟩ := List.mem_iff_getElem.mp hy
    refine ⟨ds[j]'(by omega), List.getElem_mem _, ?_⟩
    rw [← this j y _ (by rw [List.getElem?_eq_getElem hj, ej]) (List.getElem?_eq_getElem (by omega))]
    exact e
  · rintro ⟨d, hd, e⟩
    obtain ⟨j, hj, ej⟩ := List.mem_iff_getElem.mp hd
    refine ⟨its[j]'(by omega), List.getElem_mem _, ?_⟩
    rw [this j _ d (List.getElem?_eq_getElem (by omega)) (by rw [List.getElem?_eq_getElem hj, ej])]
    exact e
theorem o_in (hu : X.A.units + 64 < cLine) : OpR X (compareOp .In) (r2 X .isin) := by
  intro pins s σ H x y v u Q I rx ry hr
  obtain ⟨W, μ₀, st₀, H₀, μ, st, r, q, P, hv, hu', a⟩ := hr
  simp only [f2] at a
  split at a
  · rename_i x0
    split at a
    · rename_i k ys e
      simp only [ov, Mi.lift] at a
      cases e2 : anyEq st x0 ys with
      | none => rw [e2] at a; exact a.elim
      | some b =>
        rw [e2] at a
        obtain ⟨h1, _⟩ := anyEq_ok e2
        have fin' : EP X pins σ Q (.bool b) s := ⟨.bl b, H, I, rfl, fin a P (.bl b)⟩
        obtain ⟨p, vs, rfl, hs, q1⟩ := seqR_any P.rel hu' e
        cases ry
        rcases hs with hs | hs
        · obtain ⟨its, rv, pl, _⟩ := I.list hs
          refine SeqAt.in_listAt (ansOf st x0 its ys) pl.isList (items_ans I P.rel hu (nr_v hv) rx q1 rv h1) ?_
          rw [any_ans I P.rel q1 rv e2]; exact fin'
        · obtain ⟨its, rv, pl, _⟩ := I.tuple hs
          refine SeqAt.in_tupleAt (ansOf st x0 its ys) pl (items_ans I P.rel hu (nr_v hv) rx q1 rv h1) ?_
          rw [any_ans I P.rel q1 rv e2]; exact fin'
    · exact a.elim
  · exact a.elim
theorem o_notin (hu : X.A.units + 64 < cLine) : OpR X (compareOp .NotIn) (r2 X .notin) := by
  intro pins s σ H x y v u Q I rx ry hr
  obtain ⟨W, μ₀, st₀, H₀, μ, st, r, q, P, hv, hu', a⟩ := hr
  simp only [f2] at a
  split at a
  · rename_i x0
    split at a
    · rename_i k ys e
      simp only [ov, Mi.lift] at a
      cases e2 : anyEq st x0 ys with
      | none => rw [e2] at a; exact a.elim
      | some b =>
        rw [e2] at a
        obtain ⟨h1, _⟩ := anyEq_ok e2
        have fin' : EP X pins σ Q (.bool (!b)) s := ⟨.bl (!b), H, I, rfl, fin a P (.bl (!b))⟩
        obtain ⟨p, vs, rfl, hs, q1⟩ := seqR_any P.rel hu' e
        cases ry
        rcases hs with hs | hs
        · obtain ⟨its, rv, pl, _⟩ := I.list hs
          refine SeqAt.notIn_listAt (ansOf st x0 its ys) pl.isList (items_ans I P.rel hu (nr_v hv) rx q1 rv h1) ?_
          rw [any_ans I P.rel q1 rv e2]; exact fin'
        · obtain ⟨its, rv, pl, _⟩ := I.tuple hs
          refine SeqAt.notIn_tupleAt (ansOf st x0 its ys) pl (items_ans I P.rel hu (nr_v hv) rx q1 rv h1) ?_
          rw [any_ans I P.rel q1 rv e2]; exact fin'
    · exact a.elim
  · exact a.elim
theorem placeEq_ok : ∀ {x : Val} {ds : List Val} {j : Nat}, placeEq st x ds = some j → (∃ d, ds[j]? = some d ∧ eqV 60 st d x = some true ∧ ∀ m d', m < j → ds[m]? = some d' → eqV 60 st d' x = some false) ∧ ∀ d ∈ ds, ∃ c, eqV 60 st d x = some c := by
  intro x ds
  induction ds with
  | nil => intro j h; simp [placeEq] at h
  | cons y ys ih =>
    intro j h
    simp only [placeEq, Option.bind_eq_some_iff] at h
    obtain ⟨c, h1, h2⟩ := h
    cases c with
    | true =>
      simp only [if_true, Option.map_eq_some_iff] at h2
      obtain ⟨b, h2, h3⟩ := h2
      subst h3
      refine ⟨⟨y, rfl, h1, fun m d' h => absurd h (Nat.not_lt_zero _)⟩, fun z hz => ?_⟩
      rcases List.mem_cons.mp hz with rfl | hz
      · exact ⟨_, h1⟩
      · exact (anyEq_ok h2).1 z hz
    | false =>
      simp only [Bool.false_eq_true, if_false, Option.map_eq_some_iff] at h2
      obtain ⟨k, h3, h4⟩ := h2
      subst h4
      obtain ⟨⟨d, a, b, c⟩, al⟩ := ih h3
      refine ⟨⟨d, by simpa using a, b, fun m d' hm e => ?_⟩, fun z hz => (by
        rcases List.mem_cons.mp hz with rfl | hz
        · exact ⟨_, h1⟩
        · exact al z hz)⟩
      cases m with
      | zero => simp at e; subst e; exact h1
      | succ m => exact c m d' (by omega) (by simpa using e)
end

/-! ### subscripts -/
section
variable {X : Cx}
theorem key_inj {k' k : Key} (z : keyVal k' = keyVal k) : k' = k := by
  cases k' with
  | inl a => cases k with
    | inl b => simp [keyVal] at z; rw [z]
    | inr b => simp [keyVal] at z
  | inr a => cases k with
    | inl b => simp [keyVal] at z
    | inr b =>
      simp [keyVal] at z
      cases a; cases b
      simp at z
      rw [z]
theorem dr_get {K : PySem.W.Frag} {H : Hp} {μ : Mu} {N : Nat} {l : List (Key × V)} {kvs : List (Val × Val)} {k : Key} {d : Val} (h : DRs K H μ N l kvs) (e : kget kvs (keyVal k) = some d) : ∃ v, valV l k = some v ∧ VR K H μ N v d := by
  induction h with
  | nil => simp [kget] at e
  | @cons k' v d' l r hv _ ih =>
    simp only [kget] at e
    by_cases hk : k' = k
    · subst hk
      simp at e
      subst e
      exact ⟨v, valV_pos rfl, hv⟩
    · have hne : (keyVal k' == keyVal k) = false := by
        rw [beq_eq_false_iff_ne]
        exact fun z => hk (key_inj z)
      rw [hne] at e
      simp at e
      obtain ⟨u, a, b⟩ := ih e
      exact ⟨u, by rw [valV_neg hk]; exact a, b⟩
/-- a key of the plain kind, as a key of the layer's -/
theorem key_of_val {K : PySem.W.Frag} {H : Hp} {μ : Mu} {N : Nat} {k : Val} {v : V} (h : keyOk false k = true) (r : VR K H μ N v k) : ∃ kk : Key, v = kV kk ∧ k = keyVal kk := by
  cases k with
  | int i => exact ⟨.inl i, r.i_int, rfl⟩
  | str x => exact ⟨.inr (toStr x), r.i_str, by simp [keyVal, toStr]⟩
  | _ => simp [keyOk] at h
theorem o_ix_seq : IxR X (fun x y H Q => ∃ (W : XW) (μ₀ : Mu) (st₀ : Store) (H₀ : Hp) (μ : Mu) (st : Store) (r : RV) (k : Bool) (xs : List Val) (i : Int), Post X.K μ₀ st₀ H₀ μ st H ∧ VRR X.K H₀ H μ st.length x r ∧ y = .int i ∧ seqR st r = some (k, xs) ∧
    After X.K W μ₀ st₀ H₀ (ov (at' xs i) st) Q) := by
  intro value slice pins s σ H x y v u Q I rx ry hr hs
  obtain ⟨W, μ₀, st₀, H₀, μ, st, r, k, xs, i, P, hv, rfl, e, a⟩ := hr
  cases e2 : at' xs i with
  | none => rw [e2] at a; exact a.elim
  | some d =>
    rw [e2] at a
    obtain ⟨p, vs, rfl, h1, h2⟩ := seqR_k P.rel hv e
    obtain ⟨v', g1, g2⟩ := VRs.at h2 e2
    cases k with
    | true => exact ix_list value slice pins s σ H _ _ v u Q I rx ry ⟨p, vs, i, v', rfl, rfl, h1, g1, fin a P g2⟩ hs
    | false => exact ix_tup value slice pins s σ H _ _ v u Q I rx ry ⟨p, vs, i, v', rfl, rfl, h1, g1, fin a P g2⟩ hs
/-- what a dict of the store holds -/
theorem dget_of {K : PySem.W.Frag} {H : Hp} {μ : Mu} {st : Store} {n : Nat} {t : Bool} {kvs : List (Val × Val)} {k d : Val} {y : V} (ho : OR K H μ st.length (μ n) (.dic t kvs)) (hk : keyOk t k = true) (hy : VR K H μ st.length y k)
    (e : kget kvs k = some d) : ∃ v, DGet H (μ n) y (some v) ∧ VR K H μ st.length v d := by
  cases t with
  | false =>
    obtain ⟨l, e1, r1⟩ := ho
    obtain ⟨kk, rfl, rfl⟩ := key_of_val hk hy
    obtain ⟨v, a, b⟩ := dr_get r1 e
    exact ⟨v, a ▸ DGet.k e1, b⟩
  | true => simp [keyOk] at hk
end
end Mi
end
section
set_option linter.all false
set_option autoImplicit false
set_option maxRecDepth 10000
/-! MiOps4: subscripts, methods of lists, built-ins. -/
namespace Mi
open PySem PySem.Spec L2
open PyProof.Rows hiding RelV

section
variable {X : Cx}
theorem DRs.length {K : PySem.W.Frag} {H : Hp} {μ : Mu} {N : Nat} {l : List (Key × V)} {kvs : List (Val × Val)} (h : DRs K H μ N l kvs) : kvs.length = l.length := by
  induction h with
  | nil => rfl
  | cons _ _ ih => simp [ih]
theorem o_ix (hu : X.A.units + 1 < cLine) : IxR X (r2 X .ix) := by
  intro value slice pins s σ H x y v u Q I rx ry hr hs
  obtain ⟨W, μ₀, st₀, H₀, μ, st, r, q, P, hv, hu', a⟩ := hr
  cases q with
  | l _ => exact a.elim
  | v k =>
    cases e : seqR st r with
    | some p =>
      obtain ⟨b, xs⟩ := p
      cases k with
      | int i =>
        simp only [f2, e] at a
        have e2 := (nr_v hu').i_int
        subst e2
        exact o_ix_seq value slice pins s σ H _ _ v u Q I rx ry ⟨W, μ₀, st₀, H₀, μ, st, r, b, xs, i, P, hv, rfl, e, a⟩ hs
      | _ => simp only [f2, e] at a; exact a.elim
    | none =>
      simp only [f2, e] at a
      cases e1 : dicAt st r with
      | none => rw [e1] at a; exact a.elim
      | some p =>
        obtain ⟨n, t, kvs⟩ := p
        rw [e1] at a
        dsimp only at a
        split at a
        · rename_i hk
          cases e2 : kget kvs k with
          | none => rw [e2] at a; exact a.elim
          | some d =>
            rw [e2] at a
            obtain ⟨rfl, h1, rfl, ho⟩ := dicAt_ok P.rel hv e1
            obtain ⟨z, g, gv⟩ := dget_of ho hk hu' e2
            cases rx
            exact tail_any (dict_typeIs I g) PySem.F.slot_dict_getitem.lookup (d_getItem hu I g ry fun w' s3 I3 rw' => ⟨z, H, I3, rw', fin a P gv⟩) hs
        · exact a.elim
abbrev m1 (X : Cx) (o : O1) : V → List V → Hp → VK → Prop := fun x xs H Q => xs = [] ∧ r1 X o x H Q
abbrev m2 (X : Cx) (o : O2) : V → List V → Hp → VK → Prop := fun x xs H Q => ∃ y, xs = [y] ∧ r2 X o x y H Q
def r3 (X : Cx) (o : O3) (v u w : V) (H : Hp) (Q : VK) : Prop :=
  ∃ (W : XW) (μ₀ : Mu) (st₀ : Store) (H₀ : Hp) (μ : Mu) (st : Store) (r q p : RV), Post X.K μ₀ st₀ H₀ μ st H ∧ VRR X.K H₀ H μ st.length v r ∧ VRR X.K H₀ H μ st.length u q ∧ VRR X.K H₀ H μ st.length w p ∧ After X.K W μ₀ st₀ H₀ (f3 o r q p st) Q
abbrev m3 (X : Cx) (o : O3) : V → List V → Hp → VK → Prop := fun x xs H Q => ∃ y z, xs = [y, z] ∧ r3 X o x y z H Q
theorem m_append : MtR X "list.append" (m2 X .append) := by
  intro pins s σ H x xs v us Q I rx rxs hr
  obtain ⟨y, rfl, W, μ₀, st₀, H₀, μ, st, r, q, P, hv, hu, a⟩ := hr
  simp only [f2] at a
  split at a
  · rename_i n ds e
    split at a
    · rename_i hl
      obtain ⟨vs, rfl, e1, rfl, e2, q1⟩ := mutAt_ok P.rel hv e
      obtain ⟨μ', P', k, z⟩ := settle_ok P hu
      have hn := (List.getElem?_eq_some_iff.mp e1).1
      have e3 : (settle q st).2[n]? = some (.lst ds) := by
        cases q with
        | v d => exact e1
        | l es => simp [settle]; rw [List.getElem?_append_left hn]; exact e1
      obtain ⟨P2, k2⟩ := P'.lst e3 ((VRs.keep k _ _ q1).app (.cons z .nil))
      rw [k.same n hn] at P2
      refine mt_append pins s σ H _ _ v us Q I rx rxs ⟨_, vs, y, rfl, rfl, e2, by rw [VRs.length q1]; exact hl, ?_⟩
      exact a μ' _ _ P2 .non
    · exact a.elim
  · exact a.elim
theorem m_extend : MtR X "list.extend" (m2 X .extend) := by
  intro pins s σ H x xs v us Q I rx rxs hr
  obtain ⟨y, rfl, W, μ₀, st₀, H₀, μ, st, r, q, P, hv, hu, a⟩ := hr
  simp only [f2] at a
  split at a
  · rename_i n ds es e e'
    split at a
    · rename_i hl
      obtain ⟨vs, rfl, e1, rfl, e2, q1⟩ := mutAt_ok P.rel hv e
      obtain ⟨p, ws, rfl, e4, q2⟩ := ownL_ok P.rel hu e'
      obtain ⟨P2, k2⟩ := P.lst e1 (q1.app q2)
      refine mt_extend pins s σ H _ _ v us Q I rx rxs ⟨_, p, vs, ws, rfl, rfl, e2, e4, by rw [VRs.length q1, VRs.length q2]; exact hl, ?_⟩
      exact a μ _ _ P2 .non
    · exact a.elim
  · exact a.elim
theorem m_pop : MtR X "list.pop" (m1 X .pop) := by
  intro pins s σ H x xs v us Q I rx rxs hr
  obtain ⟨rfl, W, μ₀, st₀, H₀, μ, st, r, P, hv, a⟩ := hr
  simp only [f1] at a
  split at a
  · rename_i n ds e
    split at a
    · rename_i d e5
      obtain ⟨vs, rfl, e1, rfl, e2, q1⟩ := mutAt_ok P.rel hv e
      obtain ⟨y, e6, q2⟩ := VRs.get q1 e5
      obtain ⟨P2, k2⟩ := P.lst e1 q1.dropLast
      refine mt_pop pins s σ H _ _ v us Q I rx rxs ⟨_, vs, y, rfl, rfl, e2, by rw [VRs.length q1]; exact e6, ?_⟩
      exact a μ _ _ P2 (by rw [List.length_set]; exact VR.keep k2 _ _ q2)
    · exact a.elim
  · exact a.elim
theorem m_popAt : MtR X "list.pop" (m2 X .popAt) := by
  intro pins s σ H x xs v us Q I rx rxs hr
  obtain ⟨y, rfl, W, μ₀, st₀, H₀, μ, st, r, q, P, hv, hu, a⟩ := hr
  simp only [f2] at a
  split at a
  · rename_i n ds i e
    split at a
    · rename_i j ej
      split at a
      · rename_i d e5
        obtain ⟨vs, rfl, e1, rfl, e2, q1⟩ := mutAt_ok P.rel hv e
        have ei := (nr_v hu).i_int
        subst ei
        obtain ⟨y, e6, q2⟩ := VRs.get q1 e5
        obtain ⟨P2, k2⟩ := P.lst e1 (VRs.eraseIdx j q1)
        rw [ix_eq, ← VRs.length q1] at ej
        obtain ⟨s1, s2, s3, s4⟩ := ixN_seq ej
        have hlen : vs.length ≤ sizeLine := by
          obtain ⟨its, n', rv, pl, z⟩ := I.lst e2
          exact z
        have := line63
        refine mt_popAt pins s σ H _ _ v us Q I rx rxs ⟨_, vs, i, j, y, rfl, rfl, e2, by omega, by omega, s1, e6, ?_⟩
        exact a μ _ _ P2 (by rw [List.length_set]; exact VR.keep k2 _ _ q2)
      · exact a.elim
    · exact a.elim
  · exact a.elim
theorem m_insert : MtR X "list.insert" (m3 X .insert) := by
  intro pins s σ H x xs v us Q I rx rxs hr
  obtain ⟨y, w, rfl, W, μ₀, st₀, H₀, μ, st, r, q, p, P, hv, hu, hw, a⟩ := hr
  simp only [f3] at a
  split at a
  · rename_i n ds e
    split at a
    · rename_i hl
      obtain ⟨vs, rfl, e1, rfl, e2, q1⟩ := mutAt_ok P.rel hv e
      have ei := (nr_v hu).i_int
      subst ei
      obtain ⟨μ', P', k, z⟩ := settle_ok P hw
      have hn := (List.getElem?_eq_some_iff.mp e1).1
      have e3 : (settle p st).2[n]? = some (.lst ds) := by
        cases p with
        | v d => exact e1
        | l es => simp [settle]; rw [List.getElem?_append_left hn]; exact e1
      obtain ⟨P2, k2⟩ := P'.lst e3 (.cons z (VRs.keep k _ _ q1))
      rw [k.same n hn] at P2
      refine mt_insert pins s σ H _ _ v us Q I rx rxs ⟨_, vs, 0, w, rfl, rfl, e2, by rw [VRs.length q1]; exact hl, Int.le_refl _, by decide, ?_⟩
      have := a μ' _ _ P2 .non
      simpa using this
    · exact a.elim
  · exact a.elim
theorem countEq_ok {st : Store} : ∀ {x : Val} {ds : List Val} {n : Nat}, countEq st x ds = some n → (∀ d ∈ ds, ∃ c, eqV 60 st d x = some c) ∧ ∀ f : Val → Bool, (∀ d ∈ ds, eqV 60 st d x = some (f d)) → ds.countP f = n := by
  intro x ds
  induction ds with
  | nil => intro n h; simp [countEq] at h; exact ⟨fun d hd => by simp at hd, fun f _ => by simp; exact h⟩
  | cons y ys ih =>
    intro n h
    simp only [countEq, Option.bind_eq_some_iff, Option.map_eq_some_iff] at h
    obtain ⟨c, h1, d, h2, h3⟩ := h
    obtain ⟨i1, i2⟩ := ih h2
    refine ⟨fun z hz => ?_, fun f hf => ?_⟩
    · rcases List.mem_cons.mp hz with rfl | hz
      · exact ⟨c, h1⟩
      · exact i1 z hz
    · have e1 := hf y List.mem_cons_self
      rw [h1] at e1
      have e2 := i2 f fun z hz => hf z (List.mem_cons_of_mem _ hz)
      have e3 := Option.some.inj e1
      rw [List.countP_cons, e2, ← e3, ← h3]
      cases c <;> rfl
theorem countP_zip {α β : Type} {f : α → Bool} {g : β → Bool} : ∀ {xs : List α} {ys : List β}, xs.length = ys.length → (∀ (j : Nat) (x : α) (y : β), xs[j]? = some x → ys[j]? = some y → f x = g y) → xs.countP f = ys.countP g
  | [], [], _, _ => rfl
  | [], _ :: _, h, _ => by cases h
  | _ :: _, [], h, _ => by cases h
  | x :: xs, y :: ys, h, k => by
    rw [List.countP_cons, List.countP_cons, k 0 x y rfl rfl, countP_zip (by simpa using h) fun j a b e1 e2 => k (j + 1) a b (by simpa using e1) (by simpa using e2)]
theorem m_index (hu : X.A.units + 64 < cLine) : MtR X "list.index" (m2 X .index) := by
  intro pins s σ H x xs v us Q I rx rxs hr
  obtain ⟨y, rfl, W, μ₀, st₀, H₀, μ, st, r, q, P, hv, hw, a⟩ := hr
  simp only [f2] at a
  split at a
  · rename_i ds x0 e
    simp only [ov, Mi.lift] at a
    cases e2 : placeEq st x0 ds with
    | none => rw [e2] at a; exact a.elim
    | some j =>
      rw [e2] at a
      obtain ⟨⟨d, h1, h2, h3⟩, all⟩ := placeEq_ok e2
      obtain ⟨p, vs, rfl, hs, q1⟩ := seqR_list P.rel hv e
      cases rx
      cases rxs with
      | cons ry rt =>
        rename_i uy ut
        cases rt
        obtain ⟨its, rv, ⟨⟨cls, dd, data, sls⟩, n, ho, hc, hdn, hdt⟩, hlen⟩ := I.list hs
        simp only at hc hdt
        subst hc hdt
        have hl : its.length = ds.length := by rw [← L2.Vals.length rv, VRs.length q1]
        have hjd := (List.getElem?_eq_some_iff.mp h1).1
        have hsl := sizeLine_eq
        have hvl := VRs.length q1
        have hj : j < its.toArray.size := by rw [List.size_toArray]; omega
        refine call_meets PySem.F.slot_list_index ⟨_, ho, rfl⟩ PySem.F.entry_list_index (PySem.F.args_list_index_2 _ _)
          (SeqAt.list_indexAt p its.toArray n dd sls uy (ansOf st x0 its ds) j hj (by omega) ?_ ?_) ⟨ho, items_ans I P.rel hu (nr_v hw) ry q1 rv all, ?_⟩
        · exact ansOf_eq I P.rel q1 rv (by rw [List.getElem_toArray, List.getElem?_eq_getElem]) h1 h2
        · intro m hm hmj
          have hm' : m < ds.length := by omega
          exact ansOf_eq I P.rel q1 rv (by rw [List.getElem_toArray, List.getElem?_eq_getElem]) (List.getElem?_eq_getElem hm') (h3 m _ hmj (List.getElem?_eq_getElem hm'))
        · exact ⟨.int (j : Nat), H, I.tok _, ⟨_, rfl⟩, fin a P (.int _)⟩
  · exact a.elim
theorem m_count (hu : X.A.units + 64 < cLine) : MtR X "list.count" (m2 X .count) := by
  intro pins s σ H x xs v us Q I rx rxs hr
  obtain ⟨y, rfl, W, μ₀, st₀, H₀, μ, st, r, q, P, hv, hw, a⟩ := hr
  simp only [f2] at a
  split at a
  · rename_i ds x0 e
    simp only [ov, Mi.lift] at a
    cases e2 : countEq st x0 ds with
    | none => rw [e2] at a; exact a.elim
    | some j =>
      rw [e2] at a
      obtain ⟨all, h2⟩ := countEq_ok e2
      obtain ⟨p, vs, rfl, hs, q1⟩ := seqR_list P.rel hv e
      cases rx
      cases rxs with
      | cons ry rt =>
        rename_i uy ut
        cases rt
        obtain ⟨its, rv, ⟨⟨cls, dd, data, sls⟩, n, ho, hc, hdn, hdt⟩, hlen⟩ := I.list hs
        simp only at hc hdt
        subst hc hdt
        have hl : its.length = ds.length := by rw [← L2.Vals.length rv, VRs.length q1]
        refine call_meets PySem.F.slot_list_count ⟨_, ho, rfl⟩ PySem.F.entry_list_count (PySem.F.args_list_count_2 _ _)
          (SeqAt.list_countAt p its.toArray n dd sls uy (ansOf st x0 its ds)) ⟨ho, items_ans I P.rel hu (nr_v hw) ry q1 rv all, ?_⟩
        have ec : its.toArray.toList.countP (ansOf st x0 its ds) = j := by
          rw [← h2 (fun d => (eqV 60 st d x0).getD false) fun d hd => by obtain ⟨c, hc⟩ := all d hd; rw [hc]; rfl]
          refine countP_zip (by simpa using hl) fun j y d e1 e2 => ?_
          obtain ⟨c, hc⟩ := all d (List.mem_of_getElem? e2)
          rw [ansOf_eq I P.rel q1 rv (by simpa using e1) e2 hc, hc]; rfl
        refine ⟨.int (j : Nat), H, I.tok _, ⟨s.toks, ?_⟩, fin a P (.int _)⟩
        show Value.int ((its.toArray.toList.countP (ansOf st x0 its ds) : Nat) : Int) s.toks = Value.int ((j : Nat) : Int) s.toks
        rw [ec]
  · exact a.elim
/-! ### built-ins -/
abbrev c2' (X : Cx) (o : O2) : List V → Hp → VK → Prop := fun xs H Q => ∃ x y, xs = [x, y] ∧ r2 X o x y H Q
theorem c_max2 (hc : X.calm = true) : CallR X (.builtin "max") (c2' X .max2) := by
  intro pins s σ H xs us Q I rxs hr
  obtain ⟨x, y, rfl, W, μ₀, st₀, H₀, μ, st, r, q, P, hv, hw, a⟩ := hr
  simp only [f2] at a
  split at a
  · obtain rfl := (nr_v hv).i_int
    obtain rfl := (nr_v hw).i_int
    exact call_max2 hc pins s σ H _ us Q I rxs ⟨_, _, rfl, fin a P (.int _)⟩
  · exact a.elim
theorem c_min2 (hc : X.calm = true) : CallR X (.builtin "min") (c2' X .min2) := by
  intro pins s σ H xs us Q I rxs hr
  obtain ⟨x, y, rfl, W, μ₀, st₀, H₀, μ, st, r, q, P, hv, hw, a⟩ := hr
  simp only [f2] at a
  split at a
  · obtain rfl := (nr_v hv).i_int
    obtain rfl := (nr_v hw).i_int
    exact call_min2 hc pins s σ H _ us Q I rxs ⟨_, _, rfl, fin a P (.int _)⟩
  · exact a.elim
theorem maxI_mem : ∀ (a : Int) (l : List Int), maxI a l ∈ a :: l ∧ ∀ y ∈ a :: l, y ≤ maxI a l
  | a, [] => by simp [maxI]
  | a, b :: r => by
    obtain ⟨h1, h2⟩ := maxI_mem (if a < b then b else a) r
    simp only [maxI]
    refine ⟨?_, fun y hy => ?_⟩
    · rcases List.mem_cons.mp h1 with h | h
      · rw [h]; split <;> simp
      · exact List.mem_cons_of_mem _ (List.mem_cons_of_mem _ h)
    · have h3 := h2 _ List.mem_cons_self
      generalize maxI (if a < b then b else a) r = M at h2 h3 ⊢
      rcases List.mem_cons.mp hy with rfl | hy
      · split at h3 <;> omega
      · rcases List.mem_cons.mp hy with rfl | hy
        · split at h3 <;> omega
        · exact h2 y (List.mem_cons_of_mem _ hy)
theorem minI_mem : ∀ (a : Int) (l : List Int), minI a l ∈ a :: l ∧ ∀ y ∈ a :: l, minI a l ≤ y
  | a, [] => by simp [minI]
  | a, b :: r => by
    obtain ⟨h1, h2⟩ := minI_mem (if b < a then b else a) r
    simp only [minI]
    refine ⟨?_, fun y hy => ?_⟩
    · rcases List.mem_cons.mp h1 with h | h
      · rw [h]; split <;> simp
      · exact List.mem_cons_of_mem _ (List.mem_cons_of_mem _ h)
    · have h3 := h2 _ List.mem_cons_self
      generalize minI (if b < a then b else a) r = M at h2 h3 ⊢
      rcases List.mem_cons.mp hy with rfl | hy
      · split at h3 <;> omega
      · rcases List.mem_cons.mp hy with rfl | hy
        · split at h3 <;> omega
        · exact h2 y (List.mem_cons_of_mem _ hy)
theorem CallR.or {f : Value} {r r' : List V → Hp → VK → Prop} (h : CallR X f r) (h' : CallR X f r') : CallR X f (fun xs H Q => r xs H Q ∨ r' xs H Q) := by
  intro pins s σ H xs us Q I rv hr
  rcases hr with hr | hr
  · exact h pins s σ H xs us Q I rv hr
  · exact h' pins s σ H xs us Q I rv hr
theorem c_len : CallR X (.builtin "len") (c1 X .len) := by
  intro pins s σ H xs us Q I rxs hr
  obtain ⟨v, rfl, W, μ₀, st₀, H₀, μ, st, r, P, hv, a⟩ := hr
  simp only [f1] at a
  split at a
  · rename_i k ds e
    obtain ⟨p, vs, rfl, hs, q1⟩ := seqR_any P.rel hv e
    refine call_len_seq pins s σ H _ us Q I rxs ⟨p, vs, rfl, hs, ?_⟩
    rw [VRs.length q1]
    exact fin a P (.int _)
  · split at a
    · rename_i x _
      split at a
      · rename_i hl
        have e := (nr_v hv).i_str
        subst e
        refine call_len_str pins s σ H _ us Q I rxs ⟨_, rfl, by simpa [toStr, Str.length] using (show x.length ≤ sizeLine from hl), ?_⟩
        have : ((toStr x).length : Int) = x.length := by simp [toStr, Str.length]
        rw [this]
        exact fin a P (.int _)
      · exact a.elim
    · split at a
      · rename_i n kvs e
        obtain ⟨rfl, h1, rfl, l, ho, hd⟩ := dicAt_ok P.rel hv e
        obtain ⟨u, rfl, ru⟩ : ∃ u, us = [u] ∧ L2.RelV (.ref (μ n)) u := by
          cases rxs with | cons r t => cases t; exact ⟨_, rfl, r⟩
        cases ru
        have hl : kvs.length = l.length := hd.length
        exact d_len I (.inl ho) fun t s' I' => ⟨.int l.length, H, I', ⟨t, rfl⟩, by rw [← hl]; exact fin a P (.int _)⟩
      · exact a.elim
theorem c_abs : CallR X (.builtin "abs") (c1 X .abs) := by
  intro pins s σ H xs us Q I rxs hr
  obtain ⟨v, rfl, W, μ₀, st₀, H₀, μ, st, r, P, hv, a⟩ := hr
  simp only [f1] at a
  split at a
  · have e := (nr_v hv).i_int
    subst e
    exact call_abs pins s σ H _ us Q I rxs ⟨_, rfl, fin a P (.int _)⟩
  · exact a.elim
theorem c_int : CallR X (.type "int") (c1 X .int) := by
  intro pins s σ H xs us Q I rxs hr
  obtain ⟨v, rfl, W, μ₀, st₀, H₀, μ, st, r, P, hv, a⟩ := hr
  simp only [f1] at a
  split at a
  · have e := (nr_v hv).i_int
    subst e
    exact call_int1 pins s σ H _ us Q I rxs (.inl ⟨_, rfl, fin a P (.int _)⟩)
  · have e := (nr_v hv).i_bl
    subst e
    exact call_int1 pins s σ H _ us Q I rxs (.inr ⟨_, rfl, fin a P (.int _)⟩)
  · exact a.elim
theorem u_neg : UnR X (unaryOp .USub) (r1 X .neg) := by
  intro pins s σ H x u Q I rx hr
  obtain ⟨W, μ₀, st₀, H₀, μ, st, r, P, hv, a⟩ := hr
  simp only [f1] at a
  split at a
  · have e := (nr_v hv).i_int
    subst e
    exact un_neg pins s σ H _ u Q I rx ⟨_, rfl, fin a P (.int _)⟩
  · exact a.elim
theorem c_str : CallR X (.type "str") (c1 X .str) := by
  intro pins s σ H xs us Q I rxs hr
  obtain ⟨v, rfl, W, μ₀, st₀, H₀, μ, st, r, P, hv, a⟩ := hr
  simp only [f1] at a
  split at a
  · rename_i i
    split at a
    · rename_i hl
      have e := (nr_v hv).i_int
      subst e
      refine call_str_int pins s σ H _ us Q I rxs ⟨_, rfl, hl, ?_⟩
      have := fin a P (.str _)
      simpa [toStr] using this
    · exact a.elim
  · exact a.elim
theorem c_list : CallR X (.type "list") (c1 X .list) := by
  intro pins s σ H xs us Q I rxs hr
  obtain ⟨v, rfl, W, μ₀, st₀, H₀, μ, st, r, P, hv, a⟩ := hr
  simp only [f1] at a
  split at a
  · rename_i k ds e
    obtain ⟨p, vs, rfl, hs, q1⟩ := seqR_any P.rel hv e
    exact call_list_of pins s σ H _ us Q I rxs ⟨p, vs, rfl, hs, fun l hl => finL a P q1 hl⟩
  · exact a.elim
theorem c_tuple : CallR X (.type "tuple") (c1 X .tuple) := by
  intro pins s σ H xs us Q I rxs hr
  obtain ⟨v, rfl, W, μ₀, st₀, H₀, μ, st, r, P, hv, a⟩ := hr
  simp only [f1] at a
  split at a
  · rename_i k ds e
    cases k with
    | true =>
      obtain ⟨p, vs, rfl, hs, q1⟩ := seqR_list P.rel hv e
      exact call_tuple_of pins s σ H _ us Q I rxs ⟨p, vs, rfl, .inl ⟨hs, fun l hl => finT a P q1 hl⟩⟩
    | false =>
      obtain ⟨p, vs, rfl, rfl, hs, q1⟩ := seqR_tup hv e
      exact call_tuple_of pins s σ H _ us Q I rxs ⟨p, vs, rfl, .inr ⟨hs, fin a P hv⟩⟩
  · exact a.elim
theorem allInts_eq : ∀ {ds : List Val} {is : List Int}, allInts ds = some is → ds = is.map .int
  | [], is, h => by simp [allInts] at h; subst h; rfl
  | .int i :: r, is, h => by
    simp only [allInts, Option.map_eq_some_iff] at h
    obtain ⟨l, e, rfl⟩ := h
    rw [allInts_eq e]; rfl
  | .non :: r, is, h => by simp [allInts] at h
  | .bl _ :: r, is, h => by simp [allInts] at h
  | .str _ :: r, is, h => by simp [allInts] at h
  | .tup _ :: r, is, h => by simp [allInts] at h
  | .ref _ :: r, is, h => by simp [allInts] at h
theorem allStrs_eq : ∀ {ds : List Val} {is : List (List Nat)}, allStrs ds = some is → ds = is.map .str
  | [], is, h => by simp [allStrs] at h; subst h; rfl
  | .str i :: r, is, h => by
    simp only [allStrs, Option.map_eq_some_iff] at h
    obtain ⟨l, e, rfl⟩ := h
    rw [allStrs_eq e]; rfl
  | .non :: r, is, h => by simp [allStrs] at h
  | .bl _ :: r, is, h => by simp [allStrs] at h
  | .int _ :: r, is, h => by simp [allStrs] at h
  | .tup _ :: r, is, h => by simp [allStrs] at h
  | .ref _ :: r, is, h => by simp [allStrs] at h
theorem vrs_ints {K : PySem.W.Frag} {H : Hp} {μ : Mu} {N : Nat} : ∀ {is : List Int} {vs : List V}, VRs K H μ N vs (is.map .int) → vs = is.map .int
  | [], _, h => by cases h; rfl
  | i :: is, _, h => by cases h with | cons a b => rw [a.i_int, vrs_ints b]; rfl
theorem vrs_strs {K : PySem.W.Frag} {H : Hp} {μ : Mu} {N : Nat} : ∀ {is : List (List Nat)} {vs : List V}, VRs K H μ N vs (is.map .str) → vs = is.map fun x => .str (toStr x)
  | [], _, h => by cases h; rfl
  | i :: is, _, h => by cases h with | cons a b => rw [a.i_str, vrs_strs b]; rfl
theorem ints_vrs {K : PySem.W.Frag} {H : Hp} {μ : Mu} {N : Nat} : ∀ (is : List Int), VRs K H μ N (is.map .int) (is.map .int)
  | [] => .nil
  | i :: is => .cons (.int i) (ints_vrs is)
theorem strs_vrs {K : PySem.W.Frag} {H : Hp} {μ : Mu} {N : Nat} : ∀ (is : List (List Nat)), VRs K H μ N (is.map fun x => .str (toStr x)) (is.map .str)
  | [] => .nil
  | i :: is => .cons (.str i) (strs_vrs is)
theorem c_sum (hc : X.calm = true) : CallR X (.builtin "sum") (c1 X .sum) := by
  intro pins s σ H xs us Q I rxs hr
  obtain ⟨v, rfl, W, μ₀, st₀, H₀, μ, st, r, P, hv, a⟩ := hr
  simp only [f1] at a
  split at a
  · rename_i ds e
    split at a
    · rename_i is e2
      have := allInts_eq e2
      subst this
      obtain ⟨p, vs, rfl, hs, q1⟩ := seqR_list P.rel hv e
      have := vrs_ints q1
      subst this
      exact cr_sum hc pins s σ H _ us Q I rxs ⟨p, is, rfl, hs, fin a P (.int _)⟩
    · exact a.elim
  · exact a.elim
theorem c_lmax (hc : X.calm = true) : CallR X (.builtin "max") (c1 X .lmax) := by
  intro pins s σ H xs us Q I rxs hr
  obtain ⟨v, rfl, W, μ₀, st₀, H₀, μ, st, r, P, hv, a⟩ := hr
  simp only [f1] at a
  split at a
  · rename_i ds e
    split at a
    · rename_i y ys e2
      have := allInts_eq e2
      subst this
      obtain ⟨p, vs, rfl, hs, q1⟩ := seqR_list P.rel hv e
      have := vrs_ints q1
      subst this
      obtain ⟨h1, h2⟩ := maxI_mem y ys
      refine cr_max hc pins s σ H _ us Q I rxs ⟨p, y :: ys, rfl, hs, by simp, fun m hm hle => ?_⟩
      have : m = maxI y ys := Int.le_antisymm (h2 m hm) (hle _ h1)
      subst this
      exact fin a P (.int _)
    · exact a.elim
  · exact a.elim
theorem c_lmin (hc : X.calm = true) : CallR X (.builtin "min") (c1 X .lmin) := by
  intro pins s σ H xs us Q I rxs hr
  obtain ⟨v, rfl, W, μ₀, st₀, H₀, μ, st, r, P, hv, a⟩ := hr
  simp only [f1] at a
  split at a
  · rename_i ds e
    split at a
    · rename_i y ys e2
      have := allInts_eq e2
      subst this
      obtain ⟨p, vs, rfl, hs, q1⟩ := seqR_list P.rel hv e
      have := vrs_ints q1
      subst this
      obtain ⟨h1, h2⟩ := minI_mem y ys
      refine cr_min hc pins s σ H _ us Q I rxs ⟨p, y :: ys, rfl, hs, by simp, fun m hm hle => ?_⟩
      have : m = minI y ys := Int.le_antisymm (hle _ h1) (h2 m hm)
      subst this
      exact fin a P (.int _)
    · exact a.elim
  · exact a.elim
end
end Mi
end
section
set_option linter.all false
set_option autoImplicit false
set_option maxRecDepth 10000
/-! MiOps5: repr, sorted, is, isinstance, slices, truth. -/
namespace Mi
open PySem PySem.Spec L2
open PyProof.Rows hiding RelV

/-! ### repr -/
section
variable {X : Cx} {pins : List (Addr × PySem.Obj)} {σ : L2.St} {H : Hp} {s : Shared} {μ : Mu} {st : Store}
theorem textFrom_le : ∀ (ts : List Str) (k : Nat) (acc : Str), (textFrom k acc ts).length ≤ acc.length + piled ts
  | [], k, acc => Nat.le_add_right _ _
  | t :: ts, k, acc => by
    have h := textFrom_le ts (k + 1) (acc ++ (if k > 0 then ", " else "" : String) ++ t)
    have e : (acc ++ (if k > 0 then ", " else "" : String) ++ t).length ≤ acc.length + 2 + t.length := by
      rw [strLen_append, strLen_append]
      split
      · exact Nat.le_refl _
      · show acc.length + 0 + t.length ≤ _; omega
    rw [piled_cons]
    show (textFrom (k + 1) _ ts).length ≤ _
    omega
theorem listText_le (ts : List Str) : (listText ts).length ≤ piled ts + 2 := by
  unfold listText
  rw [strLen_append]
  have := textFrom_le ts 0 "["
  have e1 : (("[" : String) : Str).length = 1 := rfl
  have e2 : (("]" : String) : Str).length = 1 := rfl
  omega
theorem tupleText_le (ts : List Str) : (tupleText ts).length ≤ piled ts + 3 := by
  unfold tupleText
  rw [strLen_append, strLen_append]
  have e1 : (("(" : String) : Str).length = 1 := rfl
  have e2 : ((if ts.length == 1 then ",)" else ")" : String) : Str).length ≤ 2 := by
    split
    · exact Nat.le_refl _
    · show 1 ≤ 2; omega
  have e3 : (Str.join ", " ts).length ≤ piled ts := by
    by_cases h : ts = []
    · subst h; exact Nat.le_refl _
    · have := join_length_add ts h; omega
  omega
/-- the datum of a value -/
structure IsDat (K : PySem.W.Frag) (H : Hp) (n : Nat) (v : V) (d : PyData) : Prop where
  dp : Dp K H v d
  dep : d.depth ≤ n
  sh : d.showable = true
  nd : d.hasDict = false
  sz : d.shown.length ≤ dsz d
structure IsDats (K : PySem.W.Frag) (H : Hp) (n : Nat) (v : List V) (d : List PyData) : Prop where
  dp : DpAll K H v d
  dep : PyData.depthAll d ≤ n
  sh : PyData.showableAll d = true
  nd : PyData.hasDictAll d = false
  sz : piled (PyData.shownAll d) ≤ dszs d
theorem dats_of {K : PySem.W.Frag} {f : Val → Option PyData} {n : Nat} (ih : ∀ a d v, f a = some d → VR K H μ st.length v a → IsDat K H n v d) : ∀ {xs : List Val} {vs : List V} {ds : List PyData}, xs.mapM f = some ds → VRs K H μ st.length vs xs → IsDats K H n vs ds := by
  intro xs
  induction xs with
  | nil =>
    intro vs ds h r
    cases r
    simp at h
    subst h
    exact ⟨.nil, by simp [PyData.depthAll], by simp [PyData.showableAll], by simp [PyData.hasDictAll], by simp [PyData.shownAll, dszs, piled]⟩
  | cons x xs ih2 =>
    intro vs ds h r
    cases r with
    | cons r1 r2 =>
      rw [List.mapM_cons] at h
      simp only [Option.bind_eq_bind, Option.bind_eq_some_iff] at h
      obtain ⟨d, h1, ds', h2, h3⟩ := h
      cases h3
      have a := ih _ _ _ h1 r1
      have b := ih2 h2 r2
      exact ⟨.cons a.dp b.dp, by simp only [PyData.depthAll]; exact Nat.max_le.mpr ⟨a.dep, b.dep⟩, by simp [PyData.showableAll, a.sh, b.sh], by simp [PyData.hasDictAll, a.nd, b.nd], by
        have := a.sz; have := b.sz
        rw [PyData.shownAll, piled_cons, dszs]; omega⟩
theorem datF_ok {K : PySem.W.Frag} (r : Rel K H μ st) : ∀ (n : Nat) (a : Val) (d : PyData) (v : V), datF n st a = some d → VR K H μ st.length v a → IsDat K H n v d := by
  intro n
  induction n with
  | zero => intro a d v h; simp [datF] at h
  | succ n ih =>
    intro a d v h hv
    unfold datF at h
    split at h
    · rename_i xs e
      simp only [Option.map_eq_some_iff] at h
      obtain ⟨ds, h1, rfl⟩ := h
      obtain ⟨p, vs, rfl, hs, q⟩ := seqV_list r hv e
      have b := dats_of (fun a d v => ih a d v) h1 q
      exact ⟨.lst hs b.dp, by simp only [PyData.depth]; exact Nat.succ_le_succ b.dep, by simp [PyData.showable, b.sh], by simp [PyData.hasDict, b.nd], by
        have := b.sz; have := listText_le (PyData.shownAll ds)
        rw [PyData.shown, dsz]; omega⟩
    · rename_i xs e
      simp only [Option.map_eq_some_iff] at h
      obtain ⟨ds, h1, rfl⟩ := h
      obtain ⟨p, vs, _, rfl, hs, q⟩ := seqV_tup hv e
      have b := dats_of (fun a d v => ih a d v) h1 q
      exact ⟨.tup hs b.dp, by simp only [PyData.depth]; exact Nat.succ_le_succ b.dep, by simp [PyData.showable, b.sh], by simp [PyData.hasDict, b.nd], by
        have := b.sz; have := tupleText_le (PyData.shownAll ds)
        rw [PyData.shown, dsz]; omega⟩
    · split at h
      · cases h; rw [hv.i_non]; exact ⟨.non, by simp [PyData.depth], by simp [PyData.showable], by simp [PyData.hasDict], by rw [PyData.shown, dsz]; exact Nat.le_refl _⟩
      · cases h; rw [hv.i_bl]; exact ⟨.bl _, by simp [PyData.depth], by simp [PyData.showable], by simp [PyData.hasDict], by rw [PyData.shown, dsz]; split <;> decide⟩
      · split at h
        · rename_i hl
          cases h; rw [hv.i_int]; exact ⟨.int _, by simp [PyData.depth], by simp [PyData.showable, hl], by simp [PyData.hasDict], by rw [PyData.shown, dsz]; exact int_text_len_1921 hl⟩
        · cases h
      · split at h
        · rename_i hx
          cases h; rw [hv.i_str]; exact ⟨.str _, by simp [PyData.depth], by simp [PyData.showable], by simp [PyData.hasDict], by
            rw [PyData.shown, dsz]
            exact StrLaws.reprText_len _ fun c hc => by
              simp only [List.all_eq_true, decide_eq_true_eq] at hx
              exact hx c (by simpa [toStr] using hc)⟩
        · cases h
      · cases h
theorem datR_ok {K : PySem.W.Frag} {H₀ : Hp} (r : Rel K H μ st) {x : RV} {d : PyData} {v : V} (h : datR st x = some d) (hv : VRR K H₀ H μ st.length v x) : IsDat K H 60 v d := by
  cases x with
  | v a => exact datF_ok r 60 a d v h hv
  | l xs =>
    simp only [datR, Option.map_eq_some_iff] at h
    obtain ⟨ds, h1, rfl⟩ := h
    obtain ⟨p, vs, rfl, _, e, q, _⟩ := hv
    have b := dats_of (fun a d v => datF_ok r 59 a d v) h1 q
    exact ⟨.lst (.of e) b.dp, by simp only [PyData.depth]; exact Nat.succ_le_succ b.dep, by simp [PyData.showable, b.sh], by simp [PyData.hasDict, b.nd], by
        have := b.sz; have := listText_le (PyData.shownAll ds)
        rw [PyData.shown, dsz]; omega⟩
theorem str_back (x : Str) : toStr x.cps.toList = x := by cases x; simp [toStr]
theorem c_repr (hg : X.A.guards = some []) (hu : X.A.units + 64 < cLine) : CallR X (.builtin "repr") (c1 X .repr) := by
  intro pins s σ H xs us Q I rxs hr
  obtain ⟨v, rfl, W, μ₀, st₀, H₀, μ, st, r, P, hv, a⟩ := hr
  simp only [f1] at a
  split at a
  · rename_i d e
    split at a
    · rename_i hl
      have D := datR_ok P.rel e hv
      obtain ⟨u, rfl, ru⟩ : ∃ u, us = [u] ∧ L2.RelV v u := by
        cases rxs with | cons r t => cases t; exact ⟨_, rfl, r⟩
      obtain ⟨as, rd⟩ := Dp.reads I d v u D.dp ru
      have q : Q (.str d.shown) H := by
        have := fin a P (.str _)
        rwa [str_back] at this
      have hl' : d.shown.length ≤ sizeLine := Nat.le_trans D.sz (show _ ≤ sizeLine from hl)
      have F : ∀ (x : Str) (t : Tok) (s' : Shared), Inv X pins σ H s' → x = d.shown → EP X pins σ Q (.str x t) s' := fun x t s' I' e => ⟨.str d.shown, H, I', ⟨t, by rw [e]⟩, q⟩
      have rd0 := rd
      cases rd with
      | none => exact PySem.P.repr_of_none (F _ _ _ (I.tok _) (by simp [PyData.shown]))
      | bool b => exact PySem.P.repr_of_bool (F _ _ _ (I.tok _) (by cases b <;> simp [PyData.shown]))
      | int i t =>
        have := D.sh
        simp [PyData.showable] at this
        exact PySem.P.repr_of_int this (F _ _ _ (I.tok _) (by simp [PyData.shown]))
      | str x t => exact PySem.P.repr_of_str (F _ _ _ (I.tok _) (by simp [PyData.shown])) (by simpa [PyData.shown] using hl')
      | list => exact repr_of_reads' rd0 D.sh (fun z => by rw [D.nd] at z; cases z) hg (by have := D.dep; omega) (fun _ _ h => h) (fun h' t tk k => F _ _ _ (I.kept k) rfl) hl'
      | tuple => exact repr_of_reads' rd0 D.sh (fun z => by rw [D.nd] at z; cases z) hg (by have := D.dep; omega) (fun _ _ h => h) (fun h' t tk k => F _ _ _ (I.kept k) rfl) hl'
      | dict => have := D.nd; simp [PyData.hasDict] at this
    · exact a.elim
  · exact a.elim
/-! ### sorted -/
theorem each_of {K : PySem.W.Frag} {N : Nat} {β : Type} {enc : β → Val} {encD : β → PyData} {h : Heap} (hd : ∀ b v u, VR K H μ N v (enc b) → L2.RelV v u → ∃ as, Reads h u (encD b) as) :
    ∀ {bs : List β} {vs : List V} {its : List Value}, VRs K H μ N vs (bs.map enc) → L2.Vals vs its → PySem.W.EachIs (fun u b => ∃ v, L2.RelV v u ∧ VR K H μ N v (enc b)) its bs ∧ PySem.W.EachIs (fun u b => ∃ as, Reads h u (encD b) as) its bs := by
  intro bs
  induction bs with
  | nil => intro vs its h r; cases h; cases r; exact ⟨.nil, .nil⟩
  | cons b bs ih =>
    intro vs its h r
    cases h with
    | cons h1 h2 =>
      cases r with
      | cons r1 r2 =>
        obtain ⟨a, c⟩ := ih h2 r2
        exact ⟨.cons ⟨_, r1, h1⟩ a, .cons (hd _ _ _ h1 r1) c⟩
theorem back_of {K : PySem.W.Frag} {N : Nat} {β : Type} {enc : β → Val} : ∀ {bs : List β} {its : List Value}, PySem.W.EachIs (fun u b => ∃ v, L2.RelV v u ∧ VR K H μ N v (enc b)) its bs → ∃ vs, L2.Vals vs its ∧ VRs K H μ N vs (bs.map enc) := by
  intro bs
  induction bs with
  | nil => intro its h; cases h; exact ⟨[], .nil, .nil⟩
  | cons b bs ih =>
    intro its h
    cases h with
    | cons h1 h2 =>
      obtain ⟨vs, a, c⟩ := ih h2
      obtain ⟨v, r, q⟩ := h1
      exact ⟨v :: vs, .cons r a, .cons q c⟩
theorem sort_call {β : Type} (enc : β → Val) (encD : β → PyData) (I : Inv X pins σ H s) (hu : X.A.units + 64 < cLine) {p : Addr} {bs : List β} {vs : List V} {Q : Value → Shared → Prop} {E : Value → Shared → Prop} {N : Nat} (hs : SqL X.K H p vs) (hv : VRs X.K H μ N vs (bs.map enc))
    (hd : ∀ b v u, VR X.K H μ N v (enc b) → L2.RelV v u → ∃ as, Reads s.heap u (encD b) as) (hal : PySem.W.AllAlike (bs.map encD)) (hk : PySem.W.Sortable (bs.map encD)) (hdep : ∀ b ∈ bs, (encD b).depth ≤ 60)
    (q : ∀ l ws s', H l = none → VRs X.K H μ N ws ((bs.mergeSort (PySem.W.dataLe false encD)).map enc) → Inv X pins σ (L2.upd H l (.lst ws)) s' → Q (.ref l) s') : wpAny (model X.prog X.w) X.A (call (.builtin "sorted") [.ref p]) Q E s := by
  obtain ⟨its, rv, pl, hz⟩ := I.list hs
  obtain ⟨e1, e2⟩ := each_of hd hv rv
  have hlen : bs.length ≤ sizeLine := by
    have := VRs.length hv
    rw [List.length_map] at this
    rw [← this]; exact hz
  refine PySem.W.sorted_data pl.isList e1 e2 hal hk hlen (fun b hb => by have := hdep b hb; omega) fun out hl ho => ?_
  obtain ⟨ws, w1, w2⟩ := back_of ho
  obtain ⟨m, F⟩ := I.fr
  obtain ⟨c, F', N', _, keep⟩ := PySem.W.sorted_news (news := []) F (fun p hp => nomatch hp) its out
  have hnew := (N' _ List.mem_cons_self).1
  have hf : H (s.heap.objs.size + 1) = none := I.hok.fresh (Nat.le_succ _)
  refine q _ ws _ hf w2 (I.laid (a := s.heap.objs.size + 1) (t' := s.toks) keep (Nat.le_succ _) ⟨?_, out, c, w1, hnew⟩)
  rw [L2.Vals.length w1, hl]
  exact hlen
theorem le_str (is : List (List Nat)) : is.mergeSort (PySem.W.dataLe false fun x => PyData.str (toStr x)) = is.mergeSort (fun a b => decide (a ≤ b)) := by
  rw [PySem.W.dataLe_str toStr]
  refine congrArg (fun f => is.mergeSort f) ?_
  funext a b
  have e : ∀ x : List Nat, (toStr x).cps.toList = x := fun x => by simp [toStr]
  rw [e, e]
theorem le_int (is : List Int) : is.mergeSort (PySem.W.dataLe false fun x => PyData.int x) = is.mergeSort (fun a b => decide (a ≤ b)) := by
  rw [PySem.W.dataLe_int (fun x => x)]
theorem insV_perm {α : Type} (le : α → α → Bool) (x : α) : ∀ ys : List α, (insV le x ys).Perm (x :: ys)
  | [] => .refl _
  | y :: ys => by
    unfold insV
    split
    · exact .refl _
    · exact ((insV_perm le x ys).cons y).trans (.swap x y ys)
theorem isort_perm {α : Type} (le : α → α → Bool) : ∀ ys : List α, (isort le ys).Perm ys
  | [] => .refl _
  | y :: ys => (insV_perm le y _).trans ((isort_perm le ys).cons y)
theorem insV_sorted {α : Type} {le : α → α → Bool} (tr : ∀ a b c, le a b = true → le b c = true → le a c = true) (tot : ∀ a b, le a b = true ∨ le b a = true) (x : α) : ∀ ys : List α, ys.Pairwise (fun a b => le a b = true) → (insV le x ys).Pairwise fun a b => le a b = true
  | [], _ => by simp [insV]
  | y :: ys, h => by
    unfold insV
    obtain ⟨h1, h2⟩ := List.pairwise_cons.mp h
    split
    · rename_i e
      exact List.pairwise_cons.mpr ⟨fun z hz => by
        rcases List.mem_cons.mp hz with rfl | hz
        · exact e
        · exact tr _ _ _ e (h1 z hz), h⟩
    · rename_i e
      refine List.pairwise_cons.mpr ⟨fun z hz => ?_, insV_sorted tr tot x ys h2⟩
      rcases List.mem_cons.mp ((insV_perm le x ys).mem_iff.mp hz) with rfl | hz
      · exact (tot _ _).resolve_left e
      · exact h1 z hz
theorem isort_sorted {α : Type} {le : α → α → Bool} (tr : ∀ a b c, le a b = true → le b c = true → le a c = true) (tot : ∀ a b, le a b = true ∨ le b a = true) : ∀ ys : List α, (isort le ys).Pairwise fun a b => le a b = true
  | [] => .nil
  | y :: ys => insV_sorted tr tot y _ (isort_sorted tr tot ys)
theorem isort_eq {α : Type} {le : α → α → Bool} (tr : ∀ a b c, le a b = true → le b c = true → le a c = true) (tot : ∀ a b, le a b = true ∨ le b a = true) (anti : ∀ a b, le a b = true → le b a = true → a = b) (ys : List α) : isort le ys = ys.mergeSort le :=
  List.Perm.eq_of_pairwise (fun a b _ _ h1 h2 => anti a b h1 h2) (isort_sorted tr tot ys) (List.pairwise_mergeSort tr (fun a b => by simpa using tot a b) ys) ((isort_perm le ys).trans (List.mergeSort_perm ys le).symm)
theorem leN_iff : ∀ a b : List Nat, leN a b = true ↔ a ≤ b
  | [], b => by simp [leN]
  | x :: xs, [] => by simp [leN]
  | x :: xs, y :: ys => by
    unfold leN
    rw [List.cons_le_cons_iff]
    split
    · rename_i h; simp [h]
    · rename_i h
      split
      · rename_i e; subst e; simp [leN_iff xs ys]
      · rename_i e; simp [h, e]
theorem sort_int (ys : List Int) : isort (fun a b => decide (a ≤ b)) ys = ys.mergeSort (fun a b => decide (a ≤ b)) :=
  isort_eq (fun a b c h1 h2 => by simp at *; omega) (fun a b => by simp; omega) (fun a b h1 h2 => by simp at *; omega) ys
theorem sort_str (ys : List (List Nat)) : isort leN ys = ys.mergeSort (fun a b => decide (a ≤ b)) := by
  have e : leN = fun a b => decide (a ≤ b) := by
    funext a b
    rw [Bool.eq_iff_iff, leN_iff]
    simp
  rw [e]
  exact isort_eq (fun a b c h1 h2 => by simp at *; exact List.le_trans h1 h2) (fun a b => by simp; exact List.le_total a b) (fun a b h1 h2 => by simp at *; exact List.le_antisymm h1 h2) ys
/-! sorted, of tuples -/
theorem insV_filter {α : Type} {le : α → α → Bool} (h : PySem.W.TotalLe le) (c x : α) : ∀ ys : List α, (insV le x ys).filter (PySem.W.sameRank le c) = (x :: ys).filter (PySem.W.sameRank le c)
  | [] => rfl
  | y :: ys => by
    unfold insV
    split
    · rfl
    · rename_i hxy
      have ih := insV_filter h c x ys
      rw [List.filter_cons] at ih
      rw [List.filter_cons, ih, List.filter_cons, List.filter_cons]
      by_cases hx : PySem.W.sameRank le c x = true
      · have hy : PySem.W.sameRank le c y = false := by
          rw [Bool.eq_false_iff]
          intro hy
          unfold PySem.W.sameRank at hx hy
          rw [Bool.and_eq_true] at hx hy
          exact hxy (h.trans _ c _ hx.2 hy.1)
        simp [hx, hy]
      · simp [hx]
theorem isort_filter {α : Type} {le : α → α → Bool} (h : PySem.W.TotalLe le) (c : α) : ∀ ys : List α, (isort le ys).filter (PySem.W.sameRank le c) = ys.filter (PySem.W.sameRank le c)
  | [] => rfl
  | y :: ys => by
    show (insV le y (isort le ys)).filter _ = _
    rw [insV_filter h, List.filter_cons, List.filter_cons, isort_filter h c ys]
theorem isort_merge {α : Type} {le : α → α → Bool} (h : PySem.W.TotalLe le) (ys : List α) : isort le ys = ys.mergeSort le :=
  PySem.W.sort_unique h (isort_sorted h.trans h.total ys) fun c => isort_filter h c ys
theorem ltA_eq (a b : Int ⊕ List Nat) : ltA a b = PyProof.Rows.itemLt a b := by
  cases a with
  | inl a => cases b <;> rfl
  | inr a => cases b with
    | inl b => rfl
    | inr b =>
      show (!leN b a) = decide (a < b)
      rw [Bool.eq_iff_iff]
      have := leN_iff b a
      cases h : leN b a
      · simp only [Bool.not_false, decide_eq_true_eq, true_iff]
        rw [h] at this
        simp only [Bool.false_eq_true, false_iff] at this
        exact List.not_le.mp this
      · simp only [Bool.not_true, Bool.false_eq_true, decide_eq_true_eq, false_iff]
        exact List.not_lt.mpr (this.mp h)
theorem ltK_eq : ∀ a b : List (Int ⊕ List Nat), ltK a b = PyProof.Rows.lexLt PyProof.Rows.itemOrd a b
  | [], [] => rfl
  | [], _ :: _ => rfl
  | _ :: _, [] => rfl
  | x :: r, y :: t => by
    show (ltA x y || (!ltA y x && ltK r t)) = (PyProof.Rows.itemLt x y || (!PyProof.Rows.itemLt y x && PyProof.Rows.lexLt PyProof.Rows.itemOrd r t))
    rw [ltA_eq, ltA_eq, ltK_eq r t]
mutual
/-- a value without references as a datum -/
def dOf : Val → PyData
  | .non => .none
  | .bl b => .bool b
  | .int n => .int n
  | .str x => .str (toStr x)
  | .tup xs => .tuple (dOfs xs)
  | .ref _ => .none
def dOfs : List Val → List PyData
  | [] => []
  | x :: xs => dOf x :: dOfs xs
end
mutual
theorem dOf_toks : ∀ x : Val, PySem.W.keyToks (dOf x) = ktk x
  | .non => rfl
  | .bl b => rfl
  | .int n => rfl
  | .str x => by simp [dOf, PySem.W.keyToks, ktk, toStr]
  | .tup xs => by rw [dOf, PySem.W.keyToks, ktk, dOfs_toks xs]
  | .ref _ => rfl
theorem dOfs_toks : ∀ x : List Val, PySem.W.keyToksAll (dOfs x) = ktks x
  | [] => rfl
  | x :: xs => by rw [dOfs, PySem.W.keyToksAll, ktks, dOf_toks x, dOfs_toks xs]
end
mutual
theorem dOf_alike : ∀ x y : Val, alikeV x y = true → PySem.W.alike (dOf x) (dOf y) = true
  | .non, y, h => by cases y <;> simp [alikeV] at h; simp [dOf, PySem.W.alike]
  | .bl b, y, h => by cases y <;> simp [alikeV] at h; simp [dOf, PySem.W.alike]
  | .int b, y, h => by cases y <;> simp [alikeV] at h; simp [dOf, PySem.W.alike]
  | .str b, y, h => by cases y <;> simp [alikeV] at h; simp [dOf, PySem.W.alike]
  | .tup xs, y, h => by
    cases y <;> simp [alikeV] at h
    simp [dOf, PySem.W.alike]
    exact dOfs_alike _ _ h
  | .ref _, y, h => by simp [alikeV] at h
theorem dOfs_alike : ∀ x y : List Val, alikeVs x y = true → PySem.W.alikeAll (dOfs x) (dOfs y) = true
  | [], _, _ => by simp [dOfs, PySem.W.alikeAll]
  | _ :: _, [], _ => by simp [dOfs, PySem.W.alikeAll]
  | x :: xs, y :: ys, h => by
    simp [alikeVs] at h
    simp [dOfs, PySem.W.alikeAll]
    exact ⟨dOf_alike x y h.1, dOfs_alike xs ys h.2⟩
end
mutual
theorem dOf_depth : ∀ x : Val, (dOf x).depth = vdep x
  | .non => by simp [dOf, PyData.depth, vdep]
  | .bl b => by simp [dOf, PyData.depth, vdep]
  | .int n => by simp [dOf, PyData.depth, vdep]
  | .str x => by simp [dOf, PyData.depth, vdep]
  | .tup xs => by rw [dOf, PyData.depth, vdep, dOfs_depth xs]
  | .ref _ => by simp [dOf, PyData.depth, vdep]
theorem dOfs_depth : ∀ x : List Val, PyData.depthAll (dOfs x) = vdeps x
  | [] => by simp [dOfs, PyData.depthAll, vdeps]
  | x :: xs => by rw [dOfs, PyData.depthAll, vdeps, dOf_depth x, dOfs_depth xs]
end
mutual
theorem dOf_dp {K : PySem.W.Frag} {H : Hp} {μ : Mu} {N : Nat} : ∀ (x : Val) (v : V), x.nr = true → VR K H μ N v x → Dp K H v (dOf x)
  | .non, v, _, h => by rw [h.i_non]; exact .non
  | .bl b, v, _, h => by rw [h.i_bl]; exact .bl _
  | .int n, v, _, h => by rw [h.i_int]; exact .int _
  | .str x, v, _, h => by rw [h.i_str]; exact .str _
  | .tup xs, v, hn, h => by
    obtain ⟨a, vs, rfl, e, q⟩ := h.i_tup
    exact .tup e (dOfs_dp xs vs (by simpa [Val.nr] using hn) q)
  | .ref _, v, hn, h => by simp [Val.nr] at hn
theorem dOfs_dp {K : PySem.W.Frag} {H : Hp} {μ : Mu} {N : Nat} : ∀ (x : List Val) (v : List V), Val.nrs x = true → VRs K H μ N v x → DpAll K H v (dOfs x)
  | [], v, _, h => by cases h; exact .nil
  | x :: xs, v, hn, h => by
    cases h with
    | cons a b =>
      simp [Val.nrs] at hn
      exact .cons (dOf_dp x _ hn.1 a) (dOfs_dp xs _ hn.2 b)
end
theorem leT_total : PySem.W.TotalLe leT := by
  have e : leT = PySem.W.sortLe (PyProof.Rows.listOrd PyProof.Rows.itemOrd) false ktk := by
    funext a b
    unfold leT PySem.W.sortLe
    rw [ltK_eq]; rfl
  rw [e]
  exact PySem.W.sortLe_total _ _ _
theorem c_sorted (hu : X.A.units + 64 < cLine) : CallR X (.builtin "sorted") (c1 X .sorted) := by
  intro pins s σ H xs us Q I rxs hr
  obtain ⟨v, rfl, W, μ₀, st₀, H₀, μ, st, r, P, hv, a⟩ := hr
  simp only [f1] at a
  split at a
  · rename_i ds e
    obtain ⟨p, vs, rfl, hs, q1⟩ := seqR_list P.rel hv e
    obtain ⟨u, rfl, ru⟩ : ∃ u, us = [u] ∧ L2.RelV (.ref p) u := by
      cases rxs with | cons r t => cases t; exact ⟨_, rfl, r⟩
    cases ru
    split at a
    · split at a
      · rename_i is e2
        have := allStrs_eq e2
        subst this
        refine sort_call (μ := μ) Val.str (fun x => PyData.str (toStr x)) I hu hs q1 (fun b v u hv ru => ?_) (PySem.W.AllAlike.of fun _ _ => rfl) (PySem.W.Sortable.others fun _ => ⟨(fun z => nomatch z), (fun _ z => nomatch z)⟩) (fun _ _ => by simp [PyData.depth]) fun l ws s' hl w I' => ?_
        · have := hv.i_str
          subst this
          obtain ⟨t, rfl⟩ := ru
          exact ⟨_, .str _ t⟩
        · rw [le_str, ← sort_str] at w
          exact ⟨.ref l, _, I', rfl, finL a P w hl⟩
      · split at a
        · rename_i is e2
          have := allInts_eq e2
          subst this
          refine sort_call (μ := μ) Val.int (fun x => PyData.int x) I hu hs q1 (fun b v u hv ru => ?_) (PySem.W.AllAlike.of fun _ _ => rfl) (PySem.W.Sortable.others fun _ => ⟨(fun z => nomatch z), (fun _ z => nomatch z)⟩) (fun _ _ => by simp [PyData.depth]) fun l ws s' hl w I' => ?_
          · have := hv.i_int
            subst this
            obtain ⟨t, rfl⟩ := ru
            exact ⟨_, .int _ t⟩
          · rw [le_int, ← sort_int] at w
            exact ⟨.ref l, _, I', rfl, finL a P w hl⟩
        · split at a
          · rename_i hk
            have hk' : ∀ x ∈ ds, tup1 x = true ∧ vdep x ≤ 60 ∧ ∀ y ∈ ds, alikeV x y = true := fun x hx => by
              have := List.all_eq_true.mp hk x hx
              simp only [Bool.and_eq_true, decide_eq_true_eq] at this
              exact ⟨this.1.1, this.1.2, fun y hy => List.all_eq_true.mp this.2 y hy⟩
            have hnr : ∀ x : Val, tup1 x = true → x.nr = true := fun x h => by
              unfold tup1 at h
              split at h
              · simpa [Val.nr, Val.nrs] using h
              · cases h
            let bs : List {x : Val // tup1 x = true} := ds.attach.map fun x => ⟨x.1, (hk' x.1 x.2).1⟩
            have hb : bs.map (fun x => x.1) = ds := by simp [bs]
            have hmem : ∀ b ∈ bs, b.1 ∈ ds := fun b hb => by
              obtain ⟨x, _, rfl⟩ := List.mem_map.mp hb
              exact x.2
            rw [← hb] at q1
            refine sort_call (μ := μ) (fun x : {x : Val // tup1 x = true} => x.1) (fun x => dOf x.1) I hu hs q1 (fun b v u hv ru => Dp.reads I _ v u (dOf_dp b.1 v (hnr _ b.2) hv) ru) ?_ ?_ (fun b hb => by rw [dOf_depth]; exact (hk' _ (hmem b hb)).2.1) fun l ws s' hl w I' => ?_
            · intro d hd d' hd'
              obtain ⟨b, m1, rfl⟩ := List.mem_map.mp hd
              obtain ⟨b', m2, rfl⟩ := List.mem_map.mp hd'
              exact dOf_alike _ _ ((hk' _ (hmem b m1)).2.2 _ (hmem b' m2))
            · refine .inl fun d hd => ?_
              obtain ⟨b, m1, rfl⟩ := List.mem_map.mp hd
              have := b.2
              obtain ⟨x, hx⟩ := b
              unfold tup1 at hx
              split at hx
              · exact ⟨_, _, by simp only [dOf, dOfs]; rfl⟩
              · cases hx
            · have e : (bs.mergeSort (PySem.W.dataLe false fun x => dOf x.1)).map (fun x => x.1) = isort leT ds := by
                rw [isort_merge leT_total, ← hb]
                refine PySem.W.sort_maps (fun x : {x : Val // tup1 x = true} => x.1) fun x _ y _ => ?_
                show (!PyProof.Rows.lexLt PyProof.Rows.itemOrd (PySem.W.keyToks (dOf y.1)) (PySem.W.keyToks (dOf x.1))) = !ltK (ktk y.1) (ktk x.1)
                rw [dOf_toks, dOf_toks, ltK_eq]
              rw [e] at w
              exact ⟨.ref l, _, I', rfl, finL a P w hl⟩
          · exact a.elim
    · exact a.elim
  · exact a.elim
theorem o_isTM : OpR X (compareOp .Is) (fun x y H Q => y = .bl true ∧ r1 X .isTrue x H Q) := by
  intro pins s σ H x y v u Q I rx ry hr
  obtain ⟨rfl, W, μ₀, st₀, H₀, μ, st, r, P, hv, a⟩ := hr
  simp only [f1] at a
  split at a
  · rename_i b
    obtain rfl := (nr_v hv).i_bl
    refine op_isBl pins s σ H _ _ v u Q I rx ry ⟨b, true, rfl, rfl, ?_⟩
    have e : decide (b = true) = b := by cases b <;> rfl
    rw [e]
    exact fin a P (.bl _)
  · exact a.elim
theorem o_notTM : OpR X (compareOp .IsNot) (fun x y H Q => y = .bl true ∧ r1 X .notTrue x H Q) := by
  intro pins s σ H x y v u Q I rx ry hr
  obtain ⟨rfl, W, μ₀, st₀, H₀, μ, st, r, P, hv, a⟩ := hr
  simp only [f1] at a
  split at a
  · rename_i b
    obtain rfl := (nr_v hv).i_bl
    refine op_notBl pins s σ H _ _ v u Q I rx ry ⟨b, true, rfl, rfl, ?_⟩
    have e : (!decide (b = true)) = !b := by cases b <;> rfl
    rw [e]
    exact fin a P (.bl _)
  · exact a.elim
/-! ### is None, isinstance -/
theorem non_iff {K : PySem.W.Frag} {N : Nat} {v : V} {d : Val} (h : VR K H μ N v d) : decide (v = .non) = (d == .non) := by
  cases d with
  | non => rw [h.i_non]; rfl
  | bl b => rw [h.i_bl]; rfl
  | int b => rw [h.i_int]; rfl
  | str b => rw [h.i_str]; rfl
  | tup b => obtain ⟨a, _, e, _⟩ := h.i_tup; rw [e]; rfl
  | ref b => rw [h.i_ref.2]; rfl
def isNonR : RV → Bool
  | .v d => d == .non
  | .l _ => false
def tyName (st : Store) : Val → String
  | .non => "NoneType" | .bl _ => "bool" | .int _ => "int" | .str _ => "str" | .tup _ => "tuple"
  | .ref n => match st[n]? with
    | some (.lst _) => "list"
    | some (.frz _) => "list"
    | some (.dic _ _) => "dict"
    | _ => ""
def tyNameR (st : Store) : RV → String
  | .v d => tyName st d
  | .l _ => "list"
theorem non_iffR {K : PySem.W.Frag} {H₀ : Hp} {N : Nat} {v : V} {r : RV} (h : VRR K H₀ H μ N v r) : decide (v = .non) = isNonR r := by
  cases r with
  | v d => exact non_iff h
  | l xs => obtain ⟨p, _, e, _⟩ := h; rw [e]; rfl
theorem o_isNM : OpR X (compareOp .Is) (fun x y H Q => y = .non ∧ r1 X .isNon x H Q) := by
  intro pins s σ H x y v u Q I rx ry hr
  obtain ⟨rfl, W, μ₀, st₀, H₀, μ, st, r, P, hv, a⟩ := hr
  refine op_isN pins s σ H x _ v u Q I rx ry ⟨rfl, ?_⟩
  rw [non_iffR hv]
  cases r with
  | v d => exact fin a P (.bl _)
  | l xs => exact fin a P (.bl _)
theorem o_notN : OpR X (compareOp .IsNot) (fun x y H Q => y = .non ∧ r1 X .notNon x H Q) := by
  intro pins s σ H x y v u Q I rx ry hr
  obtain ⟨rfl, W, μ₀, st₀, H₀, μ, st, r, P, hv, a⟩ := hr
  refine op_notN pins s σ H x _ v u Q I rx ry ⟨rfl, ?_⟩
  rw [non_iffR hv]
  cases r with
  | v d => exact fin a P (.bl _)
  | l xs => exact fin a P (.bl _)
/-- the type of a sequence -/
theorem tyx_list {K : PySem.W.Frag} {p : Addr} {vs : List V} (h : SqL K H p vs) : TyX K H (.ref p) (.type "list") := by
  rcases h with (h | ⟨o, h⟩) | ⟨o, _, _, h, c, _⟩
  · exact .base (.lst h)
  · exact .base (.frz h)
  · exact .kList h c
theorem tyx_tup {K : PySem.W.Frag} {p : Addr} {vs : List V} (h : SqT K H p vs) : TyX K H (.ref p) (.type "tuple") := by
  rcases h with (h | ⟨o, h⟩) | ⟨o, _, _, h, c, _⟩
  · exact .base (.tup h)
  · exact .fTuple h
  · exact .kTuple h c
theorem tyx_of {K : PySem.W.Frag} {st : Store} (R : Rel K H μ st) {v : V} {d : Val} (h : VR K H μ st.length v d) (hd : ∀ n, d = .ref n → st[n]? ≠ none) : ∃ T : String, TyX K H v (.type T) ∧ T = tyName st d := by
  cases d with
  | non => rw [h.i_non]; exact ⟨_, .base .non, rfl⟩
  | bl b => rw [h.i_bl]; exact ⟨_, .base (.bl _), rfl⟩
  | int b => rw [h.i_int]; exact ⟨_, .base (.int _), rfl⟩
  | str b => rw [h.i_str]; exact ⟨_, .base (.str _), rfl⟩
  | tup b => obtain ⟨a, _, e, q, _⟩ := h.i_tup; rw [e]; exact ⟨_, tyx_tup q, rfl⟩
  | ref n =>
    obtain ⟨_, rfl⟩ := h.i_ref
    cases e : st[n]? with
    | none => exact absurd e (hd n rfl)
    | some o =>
      have q := R.obj n o e
      cases o with
      | lst xs => obtain ⟨vs, e1, _⟩ := q; exact ⟨"list", .base (.lst e1), by simp only [tyName, e]⟩
      | frz xs => obtain ⟨o, vs, e1, _⟩ := q; exact ⟨"list", .base (.frz e1), by simp only [tyName, e]⟩
      | dic t kvs =>
        cases t with
        | false => obtain ⟨l, e1, _⟩ := q; exact ⟨"dict", .base (.dK e1), by simp only [tyName, e]⟩
        | true => obtain ⟨l, e1, _⟩ := q; exact ⟨"dict", .base (.dT e1), by simp only [tyName, e]⟩
theorem isi_core {o : O1} {T : String} (h : ∀ (r : RV) (st : Store) (W : XW) (μ₀ : Mu) (st₀ : Store) (H₀ : Hp) (Q : VK), After X.K W μ₀ st₀ H₀ (f1 o r st) Q → ∃ b, f1 o r st = .ok (.v (.bl b)) st ∧ (∀ n, r = .v (.ref n) → st[n]? ≠ none) ∧
    kitB (tyNameR st r) T = some b) :
    CallR X (.builtin "isinstance") (fun xs H Q => ∃ v, xs = [v, .ty T] ∧ r1 X o v H Q) := by
  intro pins s σ H xs us Q I rxs hr
  obtain ⟨v, rfl, W, μ₀, st₀, H₀, μ, st, r, P, hv, a⟩ := hr
  obtain ⟨b, e, hn, hk⟩ := h _ _ _ _ _ _ _ a
  rw [e] at a
  cases r with
  | v d =>
    obtain ⟨T', t1, t2⟩ := tyx_of P.rel (nr_v hv) fun n z => hn n (by rw [z])
    subst t2
    exact call_isi pins s σ H _ us Q I rxs ⟨v, .ty T, _, _, b, rfl, .ty T, t1, kit_ty hk, fin a P (.bl b)⟩
  | l ds =>
    obtain ⟨p, vs, rfl, _, e1, _⟩ := hv
    exact call_isi pins s σ H _ us Q I rxs ⟨_, .ty T, _, _, b, rfl, .ty T, .base (.lst e1), kit_ty hk, fin a P (.bl b)⟩
theorem kit_ld {T : String} (h : kitB "list" T = some false) (h' : kitB "dict" T = some false) {o : O1} {n : Nat} {st : Store} (ho : f1 o (.v (.ref n)) st = refF st n) {W : XW} {μ₀ : Mu} {st₀ : Store} {H₀ : Hp} {K : PySem.W.Frag} {Q : VK} (a : After K W μ₀ st₀ H₀ (f1 o (.v (.ref n)) st) Q) :
    ∃ b, f1 o (.v (.ref n)) st = .ok (.v (.bl b)) st ∧ (∀ m, RV.v (.ref n) = .v (.ref m) → st[m]? ≠ none) ∧ kitB (tyNameR st (.v (.ref n))) T = some b := by
  rw [ho] at a ⊢
  unfold refF at a ⊢
  simp only [tyNameR, tyName]
  cases e : st[n]? with
  | none => rw [e] at a; exact a.elim
  | some u =>
    have hn : ∀ m, RV.v (.ref n) = .v (.ref m) → st[m]? ≠ none := fun m z => by cases z; rw [e]; exact fun z => nomatch z
    cases u with
    | lst xs => exact ⟨_, rfl, hn, h⟩
    | frz xs => exact ⟨_, rfl, hn, h⟩
    | dic t kvs =>
      cases t with
      | false => exact ⟨_, rfl, hn, h'⟩
      | true => rw [e] at a; exact a.elim
theorem c_isStr : CallR X (.builtin "isinstance") (fun xs H Q => ∃ v, xs = [v, .ty "str"] ∧ r1 X .isStr v H Q) := isi_core fun r st W μ₀ st₀ H₀ Q a => by
  cases r with
  | v d => cases d <;> first | exact kit_ld (by decide +kernel) (by decide +kernel) rfl a | exact ⟨_, rfl, fun n z => (nomatch z), by (simp only [tyNameR, tyName]; decide +kernel)⟩
  | l ds => exact ⟨_, rfl, fun n z => (nomatch z), by (simp only [tyNameR, tyName]; decide +kernel)⟩
theorem c_isInt : CallR X (.builtin "isinstance") (fun xs H Q => ∃ v, xs = [v, .ty "int"] ∧ r1 X .isInt v H Q) := isi_core fun r st W μ₀ st₀ H₀ Q a => by
  cases r with
  | v d => cases d <;> first | exact kit_ld (by decide +kernel) (by decide +kernel) rfl a | exact ⟨_, rfl, fun n z => (nomatch z), by (simp only [tyNameR, tyName]; decide +kernel)⟩
  | l ds => exact ⟨_, rfl, fun n z => (nomatch z), by (simp only [tyNameR, tyName]; decide +kernel)⟩
theorem c_isTup : CallR X (.builtin "isinstance") (fun xs H Q => ∃ v, xs = [v, .ty "tuple"] ∧ r1 X .isTup v H Q) := isi_core fun r st W μ₀ st₀ H₀ Q a => by
  cases r with
  | v d => cases d <;> first | exact kit_ld (by decide +kernel) (by decide +kernel) rfl a | exact ⟨_, rfl, fun n z => (nomatch z), by (simp only [tyNameR, tyName]; decide +kernel)⟩
  | l ds => exact ⟨_, rfl, fun n z => (nomatch z), by (simp only [tyNameR, tyName]; decide +kernel)⟩
theorem c_isBool : CallR X (.builtin "isinstance") (fun xs H Q => ∃ v, xs = [v, .ty "bool"] ∧ r1 X .isBool v H Q) := isi_core fun r st W μ₀ st₀ H₀ Q a => by
  cases r with
  | v d => cases d <;> first | exact kit_ld (by decide +kernel) (by decide +kernel) rfl a | exact ⟨_, rfl, fun n z => (nomatch z), by (simp only [tyNameR, tyName]; decide +kernel)⟩
  | l ds => exact ⟨_, rfl, fun n z => (nomatch z), by (simp only [tyNameR, tyName]; decide +kernel)⟩
/-! ### slices, reversed lists, truth -/
def rsl (X : Cx) (x : V) (lo hi : Option Int) (H : Hp) (Q : VK) : Prop :=
  ∃ (W : XW) (μ₀ : Mu) (st₀ : Store) (H₀ : Hp) (μ : Mu) (st : Store) (r : RV), Post X.K μ₀ st₀ H₀ μ st H ∧ VRR X.K H₀ H μ st.length x r ∧ After X.K W μ₀ st₀ H₀ (fsl r lo hi st) Q
theorem cut_all {α : Type} {xs : List α} {lo hi : Option Int} (h : HT.sIx xs.length 0 lo = 0 ∧ HT.sIx xs.length xs.length hi = xs.length) : cut xs lo hi = xs := by
  have e : ∀ n d o, cutIx n d o = HT.sIx n d o := fun n d o => by cases o <;> rfl
  unfold cut
  rw [e, e, h.1, h.2]
  simp
theorem s_any : SlR X (rsl X) := by
  intro pins s σ H x v vl vu lo hi sl Q I rx hs pl pu hr
  obtain ⟨W, μ₀, st₀, H₀, μ, st, r, P, hv, a⟩ := hr
  simp only [fsl] at a
  split at a
  · rename_i ds e
    obtain ⟨p, vs, rfl, h1, q1⟩ := seqR_list P.rel hv e
    exact sl_list pins s σ H _ v vl vu lo hi sl Q I rx hs pl pu ⟨p, vs, rfl, h1, fun l hl => finL a P (q1.cut lo hi) hl⟩
  · rename_i ds e
    obtain ⟨p, vs, rfl, rfl, h1, q1⟩ := seqR_tup hv e
    refine sl_tupA pins s σ H _ v vl vu lo hi sl Q I rx hs pl pu ⟨p, vs, rfl, h1, fun h => ?_, fun _ l hl => finT a P (q1.cut lo hi) hl⟩
    rw [VRs.length q1] at h
    rw [cut_all h] at a
    exact fin a P hv
  · split at a
    · rename_i z _
      split at a
      · rename_i hl
        have e := (nr_v hv).i_str
        subst e
        refine sl_str pins s σ H _ v vl vu lo hi sl Q I rx hs pl pu ⟨_, rfl, by simpa [toStr, Str.length] using (show z.length ≤ sizeLine from hl), ?_⟩
        have e2 : cutS (toStr z) lo hi = toStr (cut z lo hi) := by
          have e : ∀ n d o, cutIx n d o = HT.sIx n d o := fun n d o => by cases o <;> rfl
          simp [cutS, cut, toStr, e, Str.length]
        rw [e2]
        exact fin a P (.str _)
      · exact a.elim
    · exact a.elim
/-- a value's truth -/
theorem truth_ok {K : PySem.W.Frag} {H₀ : Hp} (P : Rel K H μ st) {v : V} {r : RV} {b : Bool} (hv : VRR K H₀ H μ st.length v r) (h : truthV st r = some b) : TruV K v H b := by
  cases r with
  | l ds =>
    have h := Option.some.inj h
    obtain ⟨p, vs, rfl, _, e1, q, _⟩ := hv
    exact .inl ⟨vs, .of e1, by rw [q.empty]; exact h.symm⟩
  | v d =>
    cases d with
    | non => rw [(nr_v hv).i_non]; exact (Option.some.inj h).symm
    | bl x => rw [(nr_v hv).i_bl]; exact (Option.some.inj h).symm
    | int x => rw [(nr_v hv).i_int]; exact (Option.some.inj h).symm
    | str x =>
      simp only [truthV] at h
      split at h
      · rename_i hl
        cases h
        rw [(nr_v hv).i_str]
        refine ⟨by simpa [toStr, Str.length] using (show x.length ≤ sizeLine from hl), ?_⟩
        cases x with
        | nil => rfl
        | cons c x =>
          simp only [toStr, Str.length, List.isEmpty_cons, Bool.not_false, List.size_toArray, List.length_cons]
          symm
          rw [bne_iff_ne]
          omega
      · cases h
    | tup x =>
      have h := Option.some.inj h
      obtain ⟨p, vs, rfl, e1, q⟩ := (nr_v hv).i_tup
      exact .inr (.inl ⟨vs, e1, by rw [q.empty]; exact h.symm⟩)
    | ref n =>
      obtain ⟨hn, rfl⟩ := (nr_v hv).i_ref
      simp only [truthV] at h
      split at h
      · rename_i xs e; cases h
        obtain ⟨vs, e1, q⟩ := P.obj n _ e
        exact .inl ⟨vs, .of e1, by rw [q.empty]⟩
      · rename_i xs e; cases h
        obtain ⟨o, vs, e1, q⟩ := P.obj n _ e
        exact .inl ⟨vs, .inl (.inr ⟨o, e1⟩), by rw [q.empty]⟩
      · rename_i kvs e; cases h
        obtain ⟨l, e1, q⟩ := P.obj n _ e
        exact .inr (.inr ⟨l, e1, by cases q <;> rfl⟩)
      · cases h
end
end Mi
end
section
set_option linter.all false
set_option autoImplicit false
set_option maxRecDepth 10000
/-! MiRd: readings of Mini's computations. -/
namespace Mi
open PySem PySem.Spec L2
open PyProof.Rows hiding RelV

abbrev W0 : XW := fun _ _ _ _ _ => False
/-- the slots -/
structure ER (K : PySem.W.Frag) (H : Hp) (μ : Mu) (N : Nat) (σ : L2.St) (ρ : Env) : Prop where
  len : σ.length = ρ.length
  get : ∀ (i : Nat) (d : Val), ρ[i]? = some (some d) → ∃ v, σ[i]? = some (some v) ∧ VR K H μ N v d
def AfterA (K : PySem.W.Frag) (W : XW) (μ : Mu) (st : Store) (H : Hp) (c : Res (List RV)) (Q : List V → Hp → Prop) : Prop := match c with
  | .ok rs st' => ∀ μ' H' vs ps, Post K μ st H μ' st' H' → VRRs K H H' μ' st'.length vs rs ps → Q vs H'
  | .exc c p st' => ∀ μ' H', Post K μ st H μ' st' H' → W c p μ' st' H'
  | .bad => False
def AfterT (K : PySem.W.Frag) (W : XW) (μ : Mu) (st : Store) (H : Hp) (c : Res Bool) (Q : Bool → Hp → Prop) : Prop := match c with
  | .ok b st' => ∀ μ' H', Post K μ st H μ' st' H' → Q b H'
  | .exc c p st' => ∀ μ' H', Post K μ st H μ' st' H' → W c p μ' st' H'
  | .bad => False
def AfterO (K : PySem.W.Frag) (W : XW) (μ : Mu) (st : Store) (H : Hp) (c : Res (Option Int)) (Q : Option Int → Hp → Prop) : Prop := match c with
  | .ok b st' => ∀ μ' H', Post K μ st H μ' st' H' → Q b H'
  | .exc c p st' => ∀ μ' H', Post K μ st H μ' st' H' → W c p μ' st' H'
  | .bad => False
abbrev Comp (α : Type) := Env → Store → Res α
def tE (K : PySem.W.Frag) (W : XW) (f : Comp RV) : TE := fun σ H Q => ∃ μ st ρ, Rel K H μ st ∧ ER K H μ st.length σ ρ ∧ After K W μ st H (f ρ st) Q
def tA (K : PySem.W.Frag) (W : XW) (f : Comp (List RV)) : TA := fun σ H Q => ∃ μ st ρ, Rel K H μ st ∧ ER K H μ st.length σ ρ ∧ AfterA K W μ st H (f ρ st) Q
def tT (K : PySem.W.Frag) (W : XW) (f : Comp RV) : TT := fun σ H Q => ∃ μ st ρ, Rel K H μ st ∧ ER K H μ st.length σ ρ ∧ AfterT K W μ st H ((f ρ st).bind fun r st1 => truthR r st1) Q
def tO (K : PySem.W.Frag) (W : XW) (f : Comp (Option Int)) : TO := fun σ H Q => ∃ μ st ρ, Rel K H μ st ∧ ER K H μ st.length σ ρ ∧ AfterO K W μ st H (f ρ st) Q

section
variable {K : PySem.W.Frag} {W : XW} {H H' H₀ : Hp} {μ μ' μ₀ : Mu} {st st' st₀ : Store} {σ : L2.St} {ρ : Env}
theorem ER.step (P : Post K μ st H μ' st' H') (r : Rel K H μ st) (e : ER K H μ st.length σ ρ) : ER K H' μ' st'.length σ ρ :=
  ⟨e.len, fun i d h => by obtain ⟨v, a, b⟩ := e.get i d h; exact ⟨v, a, VR.keep (P.keep r) _ _ b⟩⟩
theorem After.step {c : Res RV} {Q : VK} (P : Post K μ₀ st₀ H₀ μ st H) (a : After K W μ₀ st₀ H₀ c Q) : After K W μ st H c Q := by
  cases c with
  | ok r st' => exact fun μ' H' v P' h => a μ' H' v (P.trans P') (h.older fun _ z => P.free z)
  | exc c p st' => exact fun μ' H' P' => a μ' H' (P.trans P')
  | bad => exact a
theorem AfterT.step {c : Res Bool} {Q : Bool → Hp → Prop} (P : Post K μ₀ st₀ H₀ μ st H) (a : AfterT K W μ₀ st₀ H₀ c Q) : AfterT K W μ st H c Q := by
  cases c with
  | ok r st' => exact fun μ' H' P' => a μ' H' (P.trans P')
  | exc c p st' => exact fun μ' H' P' => a μ' H' (P.trans P')
  | bad => exact a
theorem AfterO.step {c : Res (Option Int)} {Q : Option Int → Hp → Prop} (P : Post K μ₀ st₀ H₀ μ st H) (a : AfterO K W μ₀ st₀ H₀ c Q) : AfterO K W μ st H c Q := by
  cases c with
  | ok r st' => exact fun μ' H' P' => a μ' H' (P.trans P')
  | exc c p st' => exact fun μ' H' P' => a μ' H' (P.trans P')
  | bad => exact a
theorem AfterA.step {c : Res (List RV)} {Q : List V → Hp → Prop} (P : Post K μ₀ st₀ H₀ μ st H) (a : AfterA K W μ₀ st₀ H₀ c Q) : AfterA K W μ st H c Q := by
  cases c with
  | ok r st' => exact fun μ' H' v ps P' h => a μ' H' v ps (P.trans P') (h.older fun _ z => P.free z)
  | exc c p st' => exact fun μ' H' P' => a μ' H' (P.trans P')
  | bad => exact a
theorem VRRs.len {N : Nat} {vs : List V} {rs : List RV} {ps : List Addr} (hv : VRRs K H₀ H μ N vs rs ps) : rs.length = vs.length := by
  induction hv with
  | nil => rfl
  | v _ _ ih => simp [ih]
  | l _ _ _ _ _ _ ih => simp [ih]
/-- values that wait -/
def Mid (K : PySem.W.Frag) (W : XW) (σ : L2.St) (vs : List V) (H : Hp) (g : List RV → Comp RV) (Q : VK) : Prop :=
  ∃ μ₀ st₀ H₀ ρ μ st rs ps, Rel K H₀ μ₀ st₀ ∧ ER K H₀ μ₀ st₀.length σ ρ ∧ Post K μ₀ st₀ H₀ μ st H ∧ VRRs K H₀ H μ st.length vs rs ps ∧ After K W μ₀ st₀ H₀ (g rs ρ st) Q
def MidT (K : PySem.W.Frag) (W : XW) (σ : L2.St) (vs : List V) (H : Hp) (g : List RV → Comp Bool) (Q : Bool → Hp → Prop) : Prop :=
  ∃ μ₀ st₀ H₀ ρ μ st rs ps, Rel K H₀ μ₀ st₀ ∧ ER K H₀ μ₀ st₀.length σ ρ ∧ Post K μ₀ st₀ H₀ μ st H ∧ VRRs K H₀ H μ st.length vs rs ps ∧ AfterT K W μ₀ st₀ H₀ (g rs ρ st) Q
theorem mid_start {f : Comp RV} {g : List RV → Comp RV} {Q : VK} (h : tE K W f σ H Q) (e : ∀ ρ st, f ρ st = g [] ρ st) : Mid K W σ [] H g Q := by
  obtain ⟨μ, st, ρ, r, er, a⟩ := h
  exact ⟨μ, st, H, ρ, μ, st, [], [], r, er, .refl r, .nil, by rw [← e]; exact a⟩
theorem midT_start {f : Comp RV} {g : List RV → Comp Bool} {Q : Bool → Hp → Prop} (h : tT K W f σ H Q) (e : ∀ ρ st, ((f ρ st).bind fun r st1 => truthR r st1) = g [] ρ st) : MidT K W σ [] H g Q := by
  obtain ⟨μ, st, ρ, r, er, a⟩ := h
  exact ⟨μ, st, H, ρ, μ, st, [], [], r, er, .refl r, .nil, by rw [← e]; exact a⟩
theorem VRRs.snoc {N : Nat} {vs : List V} {rs : List RV} {ps : List Addr} {v : V} {r : RV} (hp : ∀ p ∈ ps, H p ≠ none) (h : VRRs K H₀ H' μ' N vs rs ps) (hr : VRR K H H' μ' N v r) (h0 : ∀ a, H a = none → H₀ a = none) :
    ∃ qs, VRRs K H₀ H' μ' N (vs ++ [v]) (rs ++ [r]) qs ∧ ∀ q ∈ qs, q ∈ ps ∨ H q = none := by
  induction h with
  | nil =>
    cases r with
    | v d => exact ⟨[], .v hr .nil, fun q h => nomatch h⟩
    | l ds =>
      obtain ⟨p, us, rfl, a, b, c, d⟩ := hr
      exact ⟨[p], .l (h0 _ a) b c d (by simp) .nil, fun q h => by simp at h; subst h; exact .inr a⟩
  | v a _ ih =>
    obtain ⟨qs, x, y⟩ := ih hp
    exact ⟨qs, .v a x, y⟩
  | @l p us ds vs rs ps a b c d e h ih =>
    obtain ⟨qs, x, y⟩ := ih fun q hq => hp q (List.mem_cons_of_mem _ hq)
    refine ⟨p :: qs, .l a b c d (fun z => ?_) x, fun q hq => ?_⟩
    · rcases y p z with z | z
      · exact e z
      · exact hp p List.mem_cons_self z
    · rcases List.mem_cons.mp hq with rfl | hq
      · exact .inl List.mem_cons_self
      · rcases y q hq with z | z
        · exact .inl (List.mem_cons_of_mem _ z)
        · exact .inr z
theorem VRRs.live {N : Nat} {vs : List V} {rs : List RV} {ps : List Addr} (h : VRRs K H₀ H μ N vs rs ps) : ∀ p ∈ ps, H p ≠ none := by
  induction h with
  | nil => intro p h; cases h
  | v _ _ ih => exact ih
  | l a b _ _ _ _ ih =>
    intro q hq
    rcases List.mem_cons.mp hq with rfl | hq
    · rw [b]; exact fun z => nomatch z
    · exact ih q hq
/-- the next value -/
theorem mid_next {f : Comp RV} {g g' : List RV → Comp RV} {vs : List V} {Q : VK} (h : Mid K W σ vs H g Q) (e : ∀ rs ρ st, rs.length = vs.length → g rs ρ st = ((f ρ st).bind fun r st1 => g' (rs ++ [r]) ρ st1) ∨ g rs ρ st = .bad) :
    tE K W f σ H fun v H1 => Mid K W σ (vs ++ [v]) H1 g' Q := by
  obtain ⟨μ₀, st₀, H₀, ρ, μ, st, rs, ps, r, er, P, hv, a⟩ := h
  have hl : rs.length = vs.length := hv.len
  refine ⟨μ, st, ρ, P.rel, er.step P r, ?_⟩
  rcases e rs ρ st hl with e | e
  · rw [e] at a
    cases hf : f ρ st with
    | bad => rw [hf] at a; exact a
    | exc c p st' => rw [hf] at a; exact fun μ' H' P' => a μ' H' (P.trans P')
    | ok x st1 =>
      rw [hf] at a
      intro μ1 H1 v P1 h1
      obtain ⟨qs, q1, _⟩ := VRRs.snoc hv.live (hv.step P1 P.rel) h1 fun a z => P.free z
      exact ⟨μ₀, st₀, H₀, ρ, μ1, st1, rs ++ [x], qs, r, er, P.trans P1, q1, a⟩
  · rw [e] at a; exact a.elim
theorem midT_next {f : Comp RV} {g g' : List RV → Comp Bool} {vs : List V} {Q : Bool → Hp → Prop} (h : MidT K W σ vs H g Q) (e : ∀ rs ρ st, rs.length = vs.length → g rs ρ st = ((f ρ st).bind fun r st1 => g' (rs ++ [r]) ρ st1) ∨ g rs ρ st = .bad) :
    tE K W f σ H fun v H1 => MidT K W σ (vs ++ [v]) H1 g' Q := by
  obtain ⟨μ₀, st₀, H₀, ρ, μ, st, rs, ps, r, er, P, hv, a⟩ := h
  have hl : rs.length = vs.length := hv.len
  refine ⟨μ, st, ρ, P.rel, er.step P r, ?_⟩
  rcases e rs ρ st hl with e | e
  · rw [e] at a
    cases hf : f ρ st with
    | bad => rw [hf] at a; exact a
    | exc c p st' => rw [hf] at a; exact fun μ' H' P' => a μ' H' (P.trans P')
    | ok x st1 =>
      rw [hf] at a
      intro μ1 H1 v P1 h1
      obtain ⟨qs, q1, _⟩ := VRRs.snoc hv.live (hv.step P1 P.rel) h1 fun a z => P.free z
      exact ⟨μ₀, st₀, H₀, ρ, μ1, st1, rs ++ [x], qs, r, er, P.trans P1, q1, a⟩
  · rw [e] at a; exact a.elim
/-- on with the rest, the values that wait forgotten -/
theorem mid_go {f : Comp RV} {g : List RV → Comp RV} {vs : List V} {Q : VK} (h : Mid K W σ vs H g Q) (e : ∀ rs ρ st, rs.length = vs.length → g rs ρ st = f ρ st) : tE K W f σ H Q := by
  obtain ⟨μ₀, st₀, H₀, ρ, μ, st, rs, ps, r, er, P, hv, a⟩ := h
  have hl : rs.length = vs.length := hv.len
  rw [e rs ρ st hl] at a
  exact ⟨μ, st, ρ, P.rel, er.step P r, a.step P⟩
/-- two values -/
theorem mid2 {g : List RV → Comp RV} {v u : V} {Q : VK} (h : Mid K W σ [v, u] H g Q) : ∃ μ₀ st₀ H₀ ρ μ st r q, Post K μ₀ st₀ H₀ μ st H ∧ VRR K H₀ H μ st.length v r ∧ VRR K H₀ H μ st.length u q ∧ After K W μ₀ st₀ H₀ (g [r, q] ρ st) Q := by
  obtain ⟨μ₀, st₀, H₀, ρ, μ, st, rs, ps, r, er, P, hv, a⟩ := h
  cases hv with
  | v h1 hr =>
    cases hr with
    | v h2 hr => cases hr; exact ⟨μ₀, st₀, H₀, ρ, μ, st, .v _, .v _, P, h1, h2, a⟩
    | l a1 a2 a3 a4 a5 hr => cases hr; exact ⟨μ₀, st₀, H₀, ρ, μ, st, .v _, .l _, P, h1, ⟨_, _, rfl, a1, a2, a3, a4⟩, a⟩
  | l b1 b2 b3 b4 b5 hr =>
    cases hr with
    | v h2 hr => cases hr; exact ⟨μ₀, st₀, H₀, ρ, μ, st, .l _, .v _, P, ⟨_, _, rfl, b1, b2, b3, b4⟩, h2, a⟩
    | l a1 a2 a3 a4 a5 hr => cases hr; exact ⟨μ₀, st₀, H₀, ρ, μ, st, .l _, .l _, P, ⟨_, _, rfl, b1, b2, b3, b4⟩, ⟨_, _, rfl, a1, a2, a3, a4⟩, a⟩
theorem mid1 {g : List RV → Comp RV} {v : V} {Q : VK} (h : Mid K W σ [v] H g Q) : ∃ μ₀ st₀ H₀ ρ μ st r, Rel K H₀ μ₀ st₀ ∧ ER K H₀ μ₀ st₀.length σ ρ ∧ Post K μ₀ st₀ H₀ μ st H ∧ VRR K H₀ H μ st.length v r ∧ After K W μ₀ st₀ H₀ (g [r] ρ st) Q := by
  obtain ⟨μ₀, st₀, H₀, ρ, μ, st, rs, ps, r, er, P, hv, a⟩ := h
  cases hv with
  | v h1 hr => cases hr; exact ⟨μ₀, st₀, H₀, ρ, μ, st, .v _, r, er, P, h1, a⟩
  | l b1 b2 b3 b4 b5 hr => cases hr; exact ⟨μ₀, st₀, H₀, ρ, μ, st, .l _, r, er, P, ⟨_, _, rfl, b1, b2, b3, b4⟩, a⟩
theorem midT1 {g : List RV → Comp Bool} {v : V} {Q : Bool → Hp → Prop} (h : MidT K W σ [v] H g Q) : ∃ μ₀ st₀ H₀ ρ μ st r, Rel K H₀ μ₀ st₀ ∧ ER K H₀ μ₀ st₀.length σ ρ ∧ Post K μ₀ st₀ H₀ μ st H ∧ VRR K H₀ H μ st.length v r ∧ AfterT K W μ₀ st₀ H₀ (g [r] ρ st) Q := by
  obtain ⟨μ₀, st₀, H₀, ρ, μ, st, rs, ps, r, er, P, hv, a⟩ := h
  cases hv with
  | v h1 hr => cases hr; exact ⟨μ₀, st₀, H₀, ρ, μ, st, .v _, r, er, P, h1, a⟩
  | l b1 b2 b3 b4 b5 hr => cases hr; exact ⟨μ₀, st₀, H₀, ρ, μ, st, .l _, r, er, P, ⟨_, _, rfl, b1, b2, b3, b4⟩, a⟩
/-- the test by a value's truth -/
theorem tT_truth {f : Comp RV} {Q : Bool → Hp → Prop} (h : tT K W f σ H Q) : tE K W f σ H fun v H1 => ∃ k, TruV K v H1 k ∧ Q k H1 := by
  obtain ⟨μ, st, ρ, r, er, a⟩ := h
  refine ⟨μ, st, ρ, r, er, ?_⟩
  cases hf : f ρ st with
  | bad => rw [hf] at a; exact a
  | exc c p st' => rw [hf] at a; exact a
  | ok x st1 =>
    rw [hf] at a
    intro μ1 H1 v P1 h1
    simp only [Res.bind, truthR, lift] at a
    cases ht : truthV st1 x with
    | none => rw [ht] at a; exact a.elim
    | some b => rw [ht] at a; exact ⟨b, truth_ok P1.rel h1 ht, a μ1 H1 P1⟩
/-- .. where it is a bool -/
theorem tT_bool {f : Comp RV} (hb : ∀ ρ st r st', f ρ st = .ok r st' → ∃ b, r = .v (.bl b)) {Q : Bool → Hp → Prop} (h : tT K W f σ H Q) : tE K W f σ H fun v H1 => ∃ k, v = .bl k ∧ Q k H1 := by
  obtain ⟨μ, st, ρ, r, er, a⟩ := h
  refine ⟨μ, st, ρ, r, er, ?_⟩
  cases hf : f ρ st with
  | bad => rw [hf] at a; exact a
  | exc c p st' => rw [hf] at a; exact a
  | ok x st1 =>
    rw [hf] at a
    intro μ1 H1 v P1 h1
    obtain ⟨b, rfl⟩ := hb _ _ _ _ hf
    exact ⟨b, (nr_v h1).i_bl, a μ1 H1 P1⟩
end
end Mi
end
section
set_option linter.all false
set_option autoImplicit false
set_option maxRecDepth 10000
/-! MiCall: defs that do what the interpreter says; calls of these. -/
namespace Mi
open PySem PySem.Spec L2
open PyProof.Rows hiding RelV

/-- how an exception lies in the air -/
def xk (W : XW) : XK := fun _ _ _ => False
/-- what is wanted of W's is wanted of U's -/
def XSub (U W : XW) : Prop := ∀ c p μ st H, U c p μ st H → W c p μ st H ∨ (Val.nrs p = true ∧ ∃ μ' st', W c p μ' st' H)
theorem XSub.refl {W : XW} : XSub W W := fun _ _ _ _ _ h => .inl h
theorem xk_sub {U W : XW} (h : XSub U W) {c : Value} {d : Option Addr} {H : Hp} (x : xk U c d H) : xk W c d H := x
/-- exceptions of W's kind are let out -/
def XTk (X : Cx) (W : XW) : Prop := Takes X fun c d _ H => xk W c d H
theorem XTk.none {X : Cx} {W : XW} : XTk X W := takes0
theorem XTk.sub {X : Cx} {U W : XW} (h : XSub U W) (t : XTk X W) : XTk X U := Takes.imp t fun _ _ _ _ x => xk_sub h x
/-- the def at f does F, by at most k levels -/
structure FnM (P : Program) (w : World) (K : PySem.W.Frag) (mg : Str → Option Value) (base : Heap) (k : Nat) (f : Addr) (fd : FuncData) (ps : List Str) (F : Fn) : Prop where
  arity : ∀ ds st, F ds st ≠ .bad → ds.length = ps.length
  run : ∀ (A : Around) (outer : List PySem.Env) (s : Shared) (H : Hp) (args : Args) (us : List Value) (vs : List V) (ds : List Val) (μ : Mu) (st : Store) (W : XW) (Q : VK), Room k A → A.guards = some [] → Env0 P w K mg base A outer s H →
    BindsTo s fd args (ps.zip us) → L2.Vals vs us → Rel K H μ st → VRs K H μ st.length vs ds → After K W μ st H (F ds st) Q → codeAny (model P w) A (.call (.ref f) args) (CR (L2.CX P w) outer P w H s Q (xk W)) s
theorem FnM.mono {P : Program} {w : World} {K : PySem.W.Frag} {mg : Str → Option Value} {base : Heap} {j k : Nat} {f : Addr} {fd : FuncData} {ps : List Str} {F : Fn} (h : FnM P w K mg base j f fd ps F) (l : j ≤ k) : FnM P w K mg base k f fd ps F :=
  ⟨h.arity, fun A outer s H args us vs ds μ st W Q hr => h.run A outer s H args us vs ds μ st W Q (hr.mono l)⟩
section
variable {X : Cx} {pins : List (Addr × PySem.Obj)} {σ : L2.St} {H : Hp} {s : Shared} {k : Nat} {f : Addr} {fd : FuncData} {ps : List Str} {F : Fn}
theorem cr_ep {W : XW} {Q : VK} (xt : XTk X W) (I : Inv X pins σ H s) {r : Result} {s' : Shared} (h : CR (L2.CX X.prog X.w) X.stack X.prog X.w H s Q (xk W) r s') : match r with | .ok (.ret v) => EP X pins σ Q v s' | .ok _ => False | .error e => X.xe e s' := by
  rcases r with e | fl
  · exact xt _ _ (XE.of_call I (fun _ _ _ h => h) h)
  · cases fl <;> first | exact I.after h | exact h
theorem not_bad {K : PySem.W.Frag} {W : XW} {μ : Mu} {st : Store} {c : Res RV} {Q : VK} (a : After K W μ st H c Q) : c ≠ .bad := fun e => by rw [e] at a; exact a
/-- a call, its values at hand -/
theorem call_fn {us : List Value} {vs : List V} {ds : List Val} {μ : Mu} {st : Store} {W : XW} {Q : VK} (xt : XTk X W) (h : FnM X.prog X.w X.K X.mg X.base k f fd ps F) (hr : Room k X.A) (hg : X.A.guards = some []) (hb : Binds X.K fd ps []) (I : Inv X pins σ H s) (rv : L2.Vals vs us)
    (r : Rel X.K H μ st) (rd : VRs X.K H μ st.length vs ds) (a : After X.K W μ st H (F ds st) Q) : wpAny (model X.prog X.w) X.A (call (.ref f) us) (EP X pins σ Q) X.xe s := by
  have hl : us.length = ps.length := by rw [← rv.length, VRs.length rd]; exact h.arity _ _ (not_bad a)
  have b := hb s us I.kIn (by simpa using hl)
  rw [List.append_nil] at b
  refine wpAny_call (codeAny_mono (h.run X.A X.stack s H ⟨us, []⟩ us vs ds μ st W Q hr hg I.env0 b rv r rd a) fun r s' hq => ?_)
  have := cr_ep xt I hq
  rcases r with e | fl
  · exact this
  · cases fl <;> first | exact this | exact this.elim
theorem call_fnK {us ws : List Value} {vs zs : List V} {ks : List Str} {g : List Value → List Value → List Value} {gV : List V → List V → List V} {ds : List Val} {μ : Mu} {st : Store} {W : XW} {Q : VK} (xt : XTk X W) (h : FnM X.prog X.w X.K X.mg X.base k f fd ps F) (hr : Room k X.A) (hg : X.A.guards = some [])
    (hb : KBinds X.K fd ps ks g gV) (I : Inv X pins σ H s) (rv : L2.Vals vs us) (rz : L2.Vals zs ws) (r : Rel X.K H μ st) (rd : VRs X.K H μ st.length (gV vs zs) ds) (a : After X.K W μ st H (F ds st) Q) :
    wpAny (model X.prog X.w) X.A (call (.ref f) us (ks.zip ws)) (EP X pins σ Q) X.xe s := by
  have r2 := hb.rel rv rz
  have hl : (g us ws).length = ps.length := by rw [← r2.length, VRs.length rd]; exact h.arity _ _ (not_bad a)
  refine wpAny_call (codeAny_mono (h.run X.A X.stack s H ⟨us, ks.zip ws⟩ (g us ws) (gV vs zs) ds μ st W Q hr hg I.env0 (hb.to s us ws I.kIn hl) r2 r rd a) fun r s' hq => ?_)
  have := cr_ep xt I hq
  rcases r with e | fl
  · exact this
  · cases fl <;> first | exact this | exact this.elim
end

/-! ### a call from an empty store -/
section
variable {K : PySem.W.Frag} {W : XW} {H H₀ : Hp} {μ μ₀ : Mu} {st st₀ : Store}
mutual
theorem VR.nr {N N' : Nat} {μ' : Mu} : ∀ (d : Val) (v : V), d.nr = true → VR K H μ N v d → VR K H μ' N' v d
  | .non, _, _, h => by cases h; exact .non
  | .bl b, _, _, h => by cases h; exact .bl b
  | .int i, _, _, h => by cases h; exact .int i
  | .str x, _, _, h => by cases h; exact .str x
  | .tup ds, _, hn, h => by
    cases h with
    | tup s r => exact .tup s (VRs.nr ds _ (by simpa [Val.nr] using hn) r)
  | .ref n, _, hn, h => by simp [Val.nr] at hn
theorem VRs.nr {N N' : Nat} {μ' : Mu} : ∀ (ds : List Val) (vs : List V), Val.nrs ds = true → VRs K H μ N vs ds → VRs K H μ' N' vs ds
  | [], _, _, h => by cases h; exact .nil
  | d :: ds, _, hn, h => by
    simp only [Val.nrs, Bool.and_eq_true] at hn
    cases h with
    | cons h1 h2 => exact .cons (VR.nr d _ hn.1 h1) (VRs.nr ds _ hn.2 h2)
end
theorem VRRs.nr {N : Nat} {H₁ : Hp} {μ' : Mu} {vs : List V} {rs : List RV} {ps : List Addr} (h : VRRs K H₀ H μ N vs rs ps) (hn : rs.all nrR = true) (h1 : ∀ p ∈ ps, H₁ p = none) : VRRs K H₁ H μ' 0 vs rs ps := by
  induction h with
  | nil => exact .nil
  | v a _ ih =>
    simp only [List.all_cons, Bool.and_eq_true] at hn
    exact .v (VR.nr _ _ hn.1 a) (ih hn.2 h1)
  | l a b c d e _ ih =>
    simp only [List.all_cons, Bool.and_eq_true] at hn
    exact .l (h1 _ List.mem_cons_self) b (VRs.nr _ _ hn.1 c) (fun n h => absurd h (Nat.not_lt_zero _)) e (ih hn.2 fun p hp => h1 p (List.mem_cons_of_mem _ hp))
theorem VRRs.apart {N : Nat} {vs : List V} {rs : List RV} {ps : List Addr} (h : VRRs K H₀ H μ N vs rs ps) : ∀ p ∈ ps, ∀ n, n < N → μ n ≠ p := by
  induction h with
  | nil => intro p h; cases h
  | v _ _ ih => exact ih
  | l _ _ _ d _ _ ih =>
    intro p hp
    rcases List.mem_cons.mp hp with rfl | hp
    · exact d
    · exact ih p hp
/-- the addresses of what settles -/
theorem settles_at {μ' : Mu} : ∀ {vs : List V} {rs : List RV} {ps : List Addr} {st : Store} {μ : Mu}, VRRs K H₀ H μ st.length vs rs ps → VRs K H μ' (settles rs st).2.length vs (settles rs st).1 → ∀ n, st.length ≤ n → n < (settles rs st).2.length → μ' n ∈ ps := by
  intro vs rs
  induction rs generalizing vs with
  | nil => intro ps st μ h _ n h1 h2; cases h; exact absurd (Nat.lt_of_lt_of_le h2 h1) (Nat.lt_irrefl _)
  | cons r rs ih =>
    intro ps st μ h z n h1 h2
    cases h with
    | v hv hr =>
      cases z with
      | cons z1 z2 => exact ih hr z2 n h1 h2
    | @l p us ds vs _ ps a b c d e hr =>
      cases z with
      | cons z1 z2 =>
        by_cases hn : n = st.length
        · subst hn
          obtain ⟨_, z3⟩ := z1.i_ref
          rw [← V.ref.inj z3]; exact List.mem_cons_self
        · refine List.mem_cons_of_mem _ (ih (μ := muAdd μ st.length p) (st := st ++ [Obj.lst ds]) ?_ z2 n (by simp; omega) h2)
          have k : Keep K H H μ (muAdd μ st.length p) st.length (st ++ [Obj.lst ds]).length := ⟨fun n hn => by unfold muAdd; rw [if_neg (Nat.ne_of_lt hn)], by simp, fun _ _ h => h⟩
          have np := e
          clear e
          clear ih z1 z2 h1 h2 b c
          induction hr with
          | nil => exact .nil
          | v a' _ ih => exact .v (VR.keep k _ _ a') (ih np)
          | @l q _ _ _ _ ps' a' b' c' d' e' _ ih =>
            refine .l a' b' (VRs.keep k _ _ c') (fun m hm => ?_) e' (ih fun z => np (List.mem_cons_of_mem _ z))
            unfold muAdd
            split
            · exact fun z => np (by rw [z]; exact List.mem_cons_self)
            · simp at hm
              exact d' m (by omega)
theorem pure_ok {F : Fn} {vs : List V} {rs : List RV} {ps : List Addr} {Q : VK} (P : Post K μ₀ st₀ H₀ μ st H) (hv : VRRs K H₀ H μ st.length vs rs ps) (a : After K W μ₀ st₀ H₀ (pureCall F rs st) Q) :
    ∃ ds μ' st' U, Rel K H μ' st' ∧ VRs K H μ' st'.length vs ds ∧ After K U μ' st' H (F ds st') Q ∧ XSub U W := by
  unfold pureCall at a
  split at a
  · rename_i hn
    let H₁ : Hp := fun p => if p ∈ ps then none else H p
    have r1 : Rel K H μ [] := ⟨fun n o e => by simp at e, fun n m h => absurd h (Nat.not_lt_zero _)⟩
    have P1 : Post K μ [] H₁ μ [] H := ⟨fun _ _ => rfl, Nat.le_refl _, r1, fun a o h _ => by
      show H a = some o
      have h' : (if a ∈ ps then none else H a) = some o := h
      split at h'
      · cases h'
      · exact h', fun n _ h => absurd h (Nat.not_lt_zero _)⟩
    have hv1 : VRRs K H₁ H μ ([] : Store).length vs rs ps := hv.nr hn fun p hp => by show (if p ∈ ps then none else H p) = none; rw [if_pos hp]
    obtain ⟨μ', P2, k, z⟩ := settles_ok P1 hv1
    have inps : ∀ n, n < (settles rs []).2.length → μ' n ∈ ps := fun n h => settles_at hv1 z n (Nat.zero_le _) h
    refine ⟨(settles rs []).1, μ', (settles rs []).2, fun c p _ _ H => Val.nrs p = true ∧ ∃ μ st, W c p μ st H, P2.rel, z, ?_, fun c p _ _ _ h => .inr h⟩
    -- what stands behind the call
    have back : ∀ μ2 st2 H2, Post K μ' (settles rs []).2 H μ2 st2 H2 → Post K μ₀ st₀ H₀ μ st H2 := fun μ2 st2 H2 P3 => by
      have fr : ∀ b o, H b = some o → b ∉ ps → H2 b = some o := fun b o h hb => P3.frame b o h fun n hn e => hb (e ▸ inps n hn)
      have kk : Keep K H H2 μ μ st.length st.length := ⟨fun _ _ => rfl, Nat.le_refl _, (P3.keep P2.rel).tup⟩
      refine ⟨P.same, P.len, ⟨fun n o e => ?_, P.rel.inj⟩, fun b o h c => fr b o (P.frame b o h c) fun hb => ?_, P.fresh⟩
      · have hn := (List.getElem?_eq_some_iff.mp e).1
        obtain ⟨u, e1, _⟩ := P.rel.there hn
        exact (P.rel.obj n o e).keep kk ((fr _ u e1 fun hb => hv.apart _ hb n hn rfl).trans e1.symm)
      · rw [hv.free b hb] at h; cases h
    cases hF : F (settles rs []).1 (settles rs []).2 with
    | bad => rw [hF] at a; exact a
    | exc c p st1 =>
      rw [hF] at a
      dsimp only [pureRes] at a
      split at a
      · rename_i hp
        exact fun μ2 H2 P3 => ⟨hp, _, _, a μ H2 (back μ2 st1 H2 P3)⟩
      · exact a.elim
    | ok r st1 =>
      rw [hF] at a
      intro μ2 H2 v P3 h3
      have B := back μ2 st1 H2 P3
      have ap : ∀ b, H b = none → ∀ n, n < st.length → μ n ≠ b := fun b hb n hn e => by
        obtain ⟨u, e1, _⟩ := P.rel.there hn
        rw [e, hb] at e1; cases e1
      cases r with
      | l xs =>
        dsimp only [pureRes] at a
        split at a
        · rename_i hx
          obtain ⟨p, us, rfl, e0, e1, e2, _⟩ := h3
          exact a μ H2 _ B ⟨p, us, rfl, P.free e0, e1, VRs.nr _ _ hx e2, ap p e0⟩
        · exact a.elim
      | v x =>
        have flat : After K W μ₀ st₀ H₀ (if x.nr then .ok (.v x) st else .bad) Q → Q v H2 := fun a => by
          split at a
          · rename_i hn'
            exact a μ H2 _ B (VR.nr _ _ hn' h3)
          · exact a.elim
        cases x with
        | ref n =>
          dsimp only [pureRes, pureVal] at a
          split at a
          · rename_i xs e
            split at a
            · rename_i hx
              obtain ⟨us, e1, e2⟩ := P3.rel.obj n _ e
              obtain ⟨hn, rfl⟩ := (nr_v h3).i_ref
              have hfree : H₀ (μ2 n) = none ∧ ∀ m, m < st.length → μ m ≠ μ2 n := by
                by_cases hl : n < (settles rs []).2.length
                · rw [P3.same n hl]
                  exact ⟨hv.free _ (inps n hl), hv.apart _ (inps n hl)⟩
                · have h0 := P3.fresh n (Nat.le_of_not_lt hl) hn
                  exact ⟨P.free h0, ap _ h0⟩
              exact a μ H2 _ B ⟨_, us, rfl, hfree.1, e1, VRs.nr _ _ hx e2, hfree.2⟩
            · exact a.elim
          · exact a.elim
        | _ => exact flat a
  · exact a.elim
theorem permV_ok : ∀ {vs : List V} {rs : List RV} {ps : List Addr} {N : Nat}, VRRs K H₀ H μ N vs rs ps → VRRs K H₀ H μ N vs (permute [] rs) ps := fun h => h
/-- either call -/
theorem run_ok {m : Bool} {F : Fn} {vs : List V} {rs : List RV} {ps : List Addr} {Q : VK} (P : Post K μ₀ st₀ H₀ μ st H) (hv : VRRs K H₀ H μ st.length vs rs ps) (a : After K W μ₀ st₀ H₀ (runCall m F rs st) Q) :
    ∃ ds μ' st' U, Rel K H μ' st' ∧ VRs K H μ' st'.length vs ds ∧ After K U μ' st' H (F ds st') Q ∧ XSub U W := by
  cases m with
  | true => exact pure_ok P hv a
  | false =>
    simp only [runCall, Bool.false_eq_true, if_false] at a
    obtain ⟨μ', P', k, z⟩ := settles_ok P hv
    exact ⟨_, μ', _, W, P'.rel, z, a.step P', .refl⟩
end
end Mi
end
section
set_option linter.all false
set_option autoImplicit false
set_option maxRecDepth 100000
/-! MiEnum: enumerate of a tuple. -/
namespace Mi
open PySem PySem.Spec L2
open PyProof.Rows hiding RelV

abbrev tupIt (l : Addr) : PySem.Obj := { cls := .type "tuple_iterator", data := .fields #[.ref l, .int 0 0] }
abbrev enumObj (n : Nat) : PySem.Obj := { cls := .type "enumerate", data := .fields #[.none, .bool false, .ref n, rawInt 0, .none, .none] }
open AutoSeq1 (wpAny_loadPart') in
theorem enum_new_tup (l : Addr) (xs : Array Value) (n : Nat) (dd : Option Addr) (sl : Array (Option Value)) :
    Meets (Builtin.«enumerate.__new__» ⟨[.type "enumerate", .ref l], []⟩) (fun _ R s =>
      s.heap.get? l = some { cls := .type "tuple", dict := dd, data := .seq xs n, slots := sl } ∧
      R (.ok (.ret (.ref (s.heap.push (tupIt l)).objs.size))) { s with heap := (s.heap.push (tupIt l)).push (enumObj s.heap.objs.size) }) := by
  refine .of_wp fun prog w A R s0 hy => ?_
  obtain ⟨hp, gg, dr, tok, os⟩ := s0
  obtain ⟨hget, hres⟩ := hy
  have hsub := sub_enumerate
  have hT : Heap.IsTuple (Shared.heap ⟨hp, gg, dr, tok, os⟩) l xs := ⟨_, hget, rfl, n, rfl⟩
  wp_walk using wpAny_loadPart' hget
  refine wpAny_stack_any fun stk => wpAny_pure ?_
  split
  · rename_i cc _ _ _ _ _
    cases (cc == Value.type "enumerate")
    all_goals
      wp_walk using wpAny_loadPart' hget, wpAny_pyIter_tuple hT
      exact ⟨_, rfl, hres⟩
  · wp_walk using wpAny_loadPart' hget, wpAny_pyIter_tuple hT
    exact ⟨_, rfl, hres⟩
section
variable {prog : Program} {w : World} {A : Around} {E : Value → Shared → Prop} {s : Shared}
theorem call_enum_tup {l : Addr} {xs : Array Value} {Q : Value → Shared → Prop} (hT : s.heap.IsTuple l xs)
    (q : ∀ h', IsEnum h' (s.heap.objs.size + 1) s.heap.objs.size 0 .none → h'.IsTupleIter s.heap.objs.size l 0 → h'.objs.size = s.heap.objs.size + 2 →
      (∀ b o, s.heap.get? b = some o → h'.get? b = some o) → Q (.ref (s.heap.objs.size + 1)) { s with heap := h' }) : wpAny (model prog w) A (call (.type "enumerate") [.ref l]) Q E s := by
  obtain ⟨⟨cl, dt, da, sl⟩, h1, h2, n, h3⟩ := hT
  cases h2; cases h3
  refine callType_new F.called_enumerate (by decide) (F.typeCall_enumerate_1 _) (F.newCall_enumerate_1 _) (fun ob => F.args_object_init_2 ob _) F.entry_enumerate_new (enum_new_tup l xs n dt sl) ⟨h1, ?_⟩
  have z1 : (s.heap.push (tupIt l)).objs.size = s.heap.objs.size + 1 := Heap.size_push ..
  rw [z1]
  have he : IsEnum ((s.heap.push (tupIt l)).push (enumObj s.heap.objs.size)) (s.heap.objs.size + 1) s.heap.objs.size 0 .none := by
    have e1 := Heap.get?_push_size (s.heap.push (tupIt l)) (o := enumObj s.heap.objs.size) rfl
    rw [z1] at e1
    exact e1
  exact ⟨⟨_, he, rfl⟩, q _ he ⟨_, Heap.get?_push_of_some _ (Heap.get?_push_size _ rfl), rfl, rfl⟩ (by rw [Heap.size_push, z1]) fun b o x => Heap.get?_push_of_some _ (Heap.get?_push_of_some _ x)⟩
end
/-- the tuple at a, each item in a new pair -/
def ItT (K : PySem.W.Frag) (a : Addr) : It where
  go i H := ∃ (xs : List V) (x : V), SqT K H a xs ∧ xs[i]? = some x
  yld i H v H' := ∃ T x, v = .ref T ∧ H T = none ∧ H' = L2.upd H T (.tup [.int (i : Nat), x]) ∧ ∀ xs, SqT K H a xs → xs[i]? = some x
  stop i H := ∃ xs : List V, SqT K H a xs ∧ xs.length ≤ i
theorem turn_enumT {P : Program} {w : World} {K : PySem.W.Frag} {elts : List Expr} {kk : Nat} {tpos : Pos} (a e it : Addr) (hai : a ≠ it) (hae : a ≠ e) :
    Turn P w K (.Tuple elts kk tpos) (ItT K a) [e, it] e (fun i h => (∃ old, IsEnum h e it ((i : Nat) : Int) old) ∧ h.IsTupleIter it a i ∧ e ≠ it) where
  mem := List.mem_cons_self
  obj := fun i h st b hb => by
    obtain ⟨⟨old, he⟩, ⟨o, ho, _, hd⟩, _⟩ := st
    have hb' : b = e ∨ b = it := by simpa using hb
    rcases hb' with rfl | rfl
    · exact ⟨_, he, fun v q => nomatch q⟩
    · exact ⟨o, ho, fun v q => by rw [hd] at q; cases q⟩
  keep := fun i h h' st k => by
    obtain ⟨⟨old, he⟩, hi, hne⟩ := st
    exact ⟨⟨old, k e List.mem_cons_self _ he⟩, hi.at fun o q => k it (by simp) o q, hne⟩
  item := by
    intro X hP hw hK hc i pins s σ H Ex I hf st hg
    cases hP; cases hw; cases hK
    obtain ⟨⟨old, he⟩, hit, hne⟩ := st
    obtain ⟨xs, x, hq, hx⟩ := hg
    obtain ⟨its, rv, p, _⟩ := I.tuple hq
    obtain ⟨u, hu, ru⟩ := rv.get hx
    have le : e < s.heap.objs.size := Heap.lt_size he
    have li : it < s.heap.objs.size := by obtain ⟨_, q, _⟩ := hit; exact Heap.lt_size q
    have D := Draws.tuple (prog := X.prog) (w := X.w) (A := X.A.in1) (by first | exact I.ok.hd hc | (show X.A.handled = none; exact I.ok.hd hc)) it a hai its.toArray
    have hlt : i < its.toArray.size := by
      have := (List.getElem?_eq_some_iff.mp hu).1
      simpa using this
    refine wpAny_pyNext_enum_itemD D he ⟨hit, p⟩ hlt hne (by simp [hne, Ne.symm hae]) fun z h' tk hz ho st' hT hsz hk => ?_
    have ez : z = u := by
      have : its[i]? = some z := by simpa using hz
      rw [hu] at this
      exact (Option.some.inj this).symm
    subst ez
    refine ⟨_, rfl, wpAny_letOwnedTupleGo_enum (s := { s with heap := h', toks := tk + 1 }) ho fun h2 he2 sb => ?_⟩
    have hT2 : h2.get? s.heap.objs.size = some { cls := .type "tuple", data := .seq #[.int i tk, z] } := (sb.2 _ (Nat.ne_of_gt le)).trans hT
    have nw : ObjOk X.prog X.w (L2.upd H s.heap.objs.size (.tup [.int (i : Nat), x])) h2 s.heap.objs.size (.tup [.int (i : Nat), x]) :=
      ⟨(by decide : 2 ≤ sizeLine), [.int i tk, z], .cons ⟨_, rfl⟩ (.cons ru .nil), ⟨_, hT2, rfl, _, rfl⟩⟩
    have J := I.turnedNew (t' := tk + 1) (ch := [e, it]) (fun b ob hb q => (sb.2 b fun z => hb (by simp [z])).trans (hk b ob (fun z => hb (by simp [z])) (fun z => hb (by simp [z])) q)) hf (Nat.le_refl _) nw
    refine ⟨.ref s.heap.objs.size, _, J, rfl, ⟨_, x, rfl, I.hok.fresh (Nat.le_refl _), rfl, fun ys hy => by rw [I.tuple_inj hy hq]; exact hx⟩, ⟨⟨z, ?_⟩, st'.1.at fun o q => (sb.2 it (Ne.symm hne)).trans q, hne⟩, fun b hb => ?_⟩
    · rw [show ((i + 1 : Nat) : Int) = (i : Int) + 1 by omega]; exact he2
    · have hb' : b = e ∨ b = it := by simpa using hb
      have lb : b < s.heap.objs.size := by rcases hb' with rfl | rfl <;> assumption
      rw [upd_ne (Nat.ne_of_lt lb)]
      exact (hf b hb).1
  done := by
    intro X hP hw hK hc i pins s σ H Ex I hf st hg
    cases hP; cases hw; cases hK
    obtain ⟨⟨old, he⟩, hit, hne⟩ := st
    obtain ⟨xs, hq, hx⟩ := hg
    obtain ⟨its, rv, p, _⟩ := I.tuple hq
    obtain ⟨f0, f1, f2, f3, f4, f5⟩ := hf it (by simp)
    have hl := rv.length
    have hh : X.A.in1.handled = none := by first | exact I.ok.hd hc | (show X.A.handled = none; exact I.ok.hd hc)
    have hT : s.TypeIs (.ref e) "enumerate" := ⟨_, he, rfl⟩
    unfold pyNext
    refine wpAny_bind (wpAny_attempt (wpAny_callSpecial?_slot (name := Str.ofString "__next__") hT F.slot_enumerate_next (wpAny_call_entry F.slot_enumerate_next hT F.entry_enumerate_next ?_ (F.args_enumerate_next_1 _))))
    show wpAny _ _ (field (.ref e) 2 >>= _) _ _ _
    refine wpAny_bind (wpAny_field he rfl (x := .ref it) rfl (wpAny_bind ?_))
    refine wpAny_nextOf_tuple_end hh hit p (by simp; omega) fun h2 y hb hy => ?_
    obtain ⟨o, ho, hcl⟩ := hy
    refine wpAny_bind (wpAny_isInstance (T := "StopIteration") (b := true) ⟨o, ho, hcl⟩ isSubtype_stop ?_)
    exact wpAny_pure ⟨rfl, I.turned (t' := s.toks) (fun b ob hne' q => hb b ob hne' q) f0 f1 f3 f4 f5⟩
  self := fun A i s Q E st h => by
    obtain ⟨⟨_, he⟩, _⟩ := st
    exact wpAny_pyIter_enum he h
end Mi
end
section
set_option linter.all false
set_option autoImplicit false
set_option maxRecDepth 10000
/-! MiWalk: what loops and comprehensions walk. -/
namespace Mi
open PySem PySem.Spec L2
open PyProof.Rows hiding RelV

/-- J yields xs, from the state (μ₁, st₁, H₁) on, as long as the lists of w stand -/
def JOk (K : PySem.W.Frag) (μ₁ : Mu) (st₁ : Store) (H₁ : Hp) (J : It) (xs : List Val) (w : List (Nat × List Val)) : Prop :=
  ∀ μ st H, Post K μ₁ st₁ H₁ μ st H → stands w st = true →
    (∀ i, i < xs.length → J.go i H ∧ ∀ x H', J.yld i H x H' → ∃ d, xs[i]? = some d ∧ Post K μ st H μ st H' ∧ VR K H' μ st.length x d) ∧ ∀ i, xs.length ≤ i → J.stop i H
def AfterW (K : PySem.W.Frag) (W : XW) (μ : Mu) (st : Store) (H : Hp) (c : Res (List Val × List (Nat × List Val))) (R : It → Hp → Prop) : Prop := match c with
  | .ok p st' => ∀ μ' H' J, Post K μ st H μ' st' H' → JOk K μ' st' H' J p.1 p.2 → R J H'
  | .exc c p st' => ∀ μ' H', Post K μ st H μ' st' H' → W c p μ' st' H'
  | .bad => False
def walkM (k : IK) (fa fb : Comp RV) : Comp (List Val × List (Nat × List Val)) := fun ρ st => (fa ρ st).bind fun r st1 => (fb ρ st1).bind fun q st2 => lift (walk k r q st2) st2
def tI (K : PySem.W.Frag) (W : XW) (k : IK) (fa fb : Comp RV) : TI := fun σ H R => ∃ μ st ρ, Rel K H μ st ∧ ER K H μ st.length σ ρ ∧ AfterW K W μ st H (walkM k fa fb ρ st) R

section
variable {K : PySem.W.Frag} {H H₀ : Hp} {μ μ₀ : Mu} {st st₀ : Store} {σ : L2.St}
/-- a list that is walked stands -/
theorem list_stays {H₀ : Hp} (r : Rel K H μ st) {x : RV} {v : V} {ds : List Val} (hv : VRR K H₀ H μ st.length v x) (e : seqR st x = some (true, ds)) {a : Addr} (ha : v = .ref a) :
    ∀ μ' st' H', Post K μ st H μ' st' H' → stands (watch x ds) st' = true → ∃ vs, SqL K H' a vs ∧ VRs K H' μ' st'.length vs ds := fun μ' st' H' P hw => by
  subst ha
  cases x with
  | l xs =>
    simp [seqR] at e
    subst e
    have hv' := VRR.step P r hv
    obtain ⟨p, vs, e0, _, e1, e2, _⟩ := hv'
    cases e0
    exact ⟨vs, .of e1, e2⟩
  | v d =>
    cases d with
    | ref n =>
      obtain ⟨hn, e1⟩ := (nr_v hv).i_ref
      have e2 := V.ref.inj e1
      subst e2
      simp only [watch, stands, List.all_cons, List.all_nil, Bool.and_true, beq_iff_eq] at hw
      rw [← P.same n hn]
      exact lstAt_ok P.rel hw
    | tup xs => simp [seqR, seqV] at e
    | _ => simp [seqR, seqV] at e
theorem tup_stays {H₀ : Hp} (r : Rel K H μ st) {x : RV} {v : V} {ds : List Val} (hv : VRR K H₀ H μ st.length v x) (e : seqR st x = some (false, ds)) {a : Addr} (ha : v = .ref a) :
    ∃ vs, ∀ μ' st' H', Post K μ st H μ' st' H' → SqT K H' a vs ∧ VRs K H' μ' st'.length vs ds := by
  obtain ⟨b, vs, _, e1, e2, e3⟩ := seqR_tup hv e
  have := V.ref.inj (ha.symm.trans e1)
  subst this
  exact ⟨vs, fun μ' st' H' P => ⟨(P.keep r).tup _ _ e2, VRs.keep (P.keep r) _ _ e3⟩⟩
theorem stands_app {w1 w2 : List (Nat × List Val)} (h : stands (w1 ++ w2) st = true) : stands w1 st = true ∧ stands w2 st = true := by
  simpa [stands] using h
/-- a new tuple of a turn -/
theorem pair_new {n m : Val} {x y : V} (r : Rel K H μ st) (h1 : VR K H μ st.length x n) (h2 : VR K H μ st.length y m) {t : Addr} (ht : H t = none) :
    Post K μ st H μ st (L2.upd H t (.tup [x, y])) ∧ VR K (L2.upd H t (.tup [x, y])) μ st.length (.ref t) (.tup [n, m]) :=
  ⟨(Post.refl r).upd ht, .tup (.of upd_same) (.cons (VR.keep (Keep.upd ht) _ _ h1) (.cons (VR.keep (Keep.upd ht) _ _ h2) .nil))⟩
end
section
variable {K : PySem.W.Frag} {H H₀ : Hp} {μ μ₀ : Mu} {st st₀ : Store}
theorem jok_list {a : Addr} {ds : List Val} {w : List (Nat × List Val)} (h : ∀ μ' st' H', Post K μ st H μ' st' H' → stands w st' = true → ∃ vs, SqL K H' a vs ∧ VRs K H' μ' st'.length vs ds) : JOk K μ st H (Itl K a) ds w := fun μ' st' H' P hw => by
  obtain ⟨vs, h1, h2⟩ := h μ' st' H' P hw
  have hl := VRs.length h2
  refine ⟨fun i hi => ⟨⟨vs, _, h1, List.getElem?_eq_getElem (by omega)⟩, fun x H2 hy => ?_⟩, fun i hi => ⟨vs, h1, by omega⟩⟩
  obtain ⟨rfl, f⟩ := hy
  obtain ⟨v, e1, e2⟩ := VRs.get h2 (List.getElem?_eq_getElem hi)
  have := f vs h1
  rw [e1] at this
  exact ⟨_, List.getElem?_eq_getElem hi, .refl P.rel, Option.some.inj this ▸ e2⟩
theorem jok_tup {a : Addr} {ds : List Val} {vs : List V} (h : ∀ μ' st' H', Post K μ st H μ' st' H' → SqT K H' a vs ∧ VRs K H' μ' st'.length vs ds) : JOk K μ st H (Itt K a) ds [] := fun μ' st' H' P hw => by
  obtain ⟨h1, h2⟩ := h μ' st' H' P
  have hl := VRs.length h2
  refine ⟨fun i hi => ⟨⟨vs, _, h1, List.getElem?_eq_getElem (by omega)⟩, fun x H2 hy => ?_⟩, fun i hi => ⟨vs, h1, by omega⟩⟩
  obtain ⟨rfl, f⟩ := hy
  obtain ⟨v, e1, e2⟩ := VRs.get h2 (List.getElem?_eq_getElem hi)
  have := f vs h1
  rw [e1] at this
  exact ⟨_, List.getElem?_eq_getElem hi, .refl P.rel, Option.some.inj this ▸ e2⟩
theorem rng_len (lo : Int) (n : Nat) : (rng lo n).length = n := by simp [rng]
theorem rng_get {lo : Int} {n i : Nat} (h : i < n) : (rng lo n)[i]? = some (.int (lo + i)) := by simp [rng, h]
theorem jok_range {lo : Int} {n : Nat} : JOk K μ st H (Itr lo n) (rng lo n) [] := fun μ' st' H' P hw => by
  refine ⟨fun i hi => ⟨by rwa [rng_len] at hi, fun x H2 hy => ?_⟩, fun i hi => by rwa [rng_len] at hi⟩
  rw [rng_len] at hi
  obtain ⟨rfl, rfl⟩ := hy
  exact ⟨_, rng_get hi, .refl P.rel, .int _⟩
theorem zipE_get {xs : List Val} {i : Nat} {d : Val} (h : xs[i]? = some d) : (zipE xs)[i]? = some (.tup [.int i, d]) := by
  have hi := (List.getElem?_eq_some_iff.mp h)
  simp [zipE, List.getElem?_map, List.getElem?_zipIdx, h]
theorem zipE_len (xs : List Val) : (zipE xs).length = xs.length := by simp [zipE]
theorem jok_enumL {a : Addr} {ds : List Val} {w : List (Nat × List Val)} (h : ∀ μ' st' H', Post K μ st H μ' st' H' → stands w st' = true → ∃ vs, SqL K H' a vs ∧ VRs K H' μ' st'.length vs ds) : JOk K μ st H (Ite K a) (zipE ds) w := fun μ' st' H' P hw => by
  obtain ⟨vs, h1, h2⟩ := h μ' st' H' P hw
  have hl := VRs.length h2
  refine ⟨fun i hi => ?_, fun i hi => ⟨vs, h1, by rw [zipE_len] at hi; omega⟩⟩
  rw [zipE_len] at hi
  refine ⟨⟨vs, _, h1, List.getElem?_eq_getElem (by omega)⟩, fun x H2 hy => ?_⟩
  obtain ⟨t, y, rfl, ht, rfl, f⟩ := hy
  obtain ⟨v, e1, e2⟩ := VRs.get h2 (List.getElem?_eq_getElem hi)
  have := f vs h1
  rw [e1] at this
  cases this
  obtain ⟨P1, z⟩ := pair_new P.rel (.int (i : Nat)) e2 ht
  exact ⟨_, zipE_get (List.getElem?_eq_getElem hi), P1, z⟩
theorem jok_enumT {a : Addr} {ds : List Val} {vs : List V} (h : ∀ μ' st' H', Post K μ st H μ' st' H' → SqT K H' a vs ∧ VRs K H' μ' st'.length vs ds) : JOk K μ st H (ItT K a) (zipE ds) [] := fun μ' st' H' P hw => by
  obtain ⟨h1, h2⟩ := h μ' st' H' P
  have hl := VRs.length h2
  refine ⟨fun i hi => ?_, fun i hi => ⟨vs, h1, by rw [zipE_len] at hi; omega⟩⟩
  rw [zipE_len] at hi
  refine ⟨⟨vs, _, h1, List.getElem?_eq_getElem (by omega)⟩, fun x H2 hy => ?_⟩
  obtain ⟨t, y, rfl, ht, rfl, f⟩ := hy
  obtain ⟨v, e1, e2⟩ := VRs.get h2 (List.getElem?_eq_getElem hi)
  have := f vs h1
  rw [e1] at this
  cases this
  obtain ⟨P1, z⟩ := pair_new P.rel (.int (i : Nat)) e2 ht
  exact ⟨_, zipE_get (List.getElem?_eq_getElem hi), P1, z⟩
def zipV (xs ys : List Val) : List Val := (xs.zip ys).map fun p => .tup [p.1, p.2]
theorem zipV_len (xs ys : List Val) : (zipV xs ys).length = min xs.length ys.length := by simp [zipV]
theorem zipV_get {xs ys : List Val} {i : Nat} {d e : Val} (h : xs[i]? = some d) (g : ys[i]? = some e) : (zipV xs ys)[i]? = some (.tup [d, e]) := by
  have : (xs.zip ys)[i]? = some (d, e) := List.getElem?_zip_eq_some.mpr ⟨h, g⟩
  simp [zipV, List.getElem?_map, this]
theorem jok_zipL {a b : Addr} {ds es : List Val} {w : List (Nat × List Val)} (h : ∀ μ' st' H', Post K μ st H μ' st' H' → stands w st' = true → (∃ vs, SqL K H' a vs ∧ VRs K H' μ' st'.length vs ds) ∧ ∃ us, SqL K H' b us ∧ VRs K H' μ' st'.length us es) :
    JOk K μ st H (Itz K a b) (zipV ds es) w := fun μ' st' H' P hw => by
  obtain ⟨⟨vs, h1, h2⟩, us, g1, g2⟩ := h μ' st' H' P hw
  have hl := VRs.length h2
  have gl := VRs.length g2
  refine ⟨fun i hi => ?_, fun i hi => ⟨vs, us, h1, g1, by rw [zipV_len] at hi; omega⟩⟩
  rw [zipV_len] at hi
  refine ⟨⟨vs, us, _, _, h1, g1, List.getElem?_eq_getElem (by omega), List.getElem?_eq_getElem (by omega)⟩, fun x H2 hy => ?_⟩
  obtain ⟨t, y, z, rfl, ht, rfl, f, f'⟩ := hy
  obtain ⟨v, e1, e2⟩ := VRs.get h2 (List.getElem?_eq_getElem (i := i) (by omega))
  obtain ⟨u, e1', e2'⟩ := VRs.get g2 (List.getElem?_eq_getElem (i := i) (by omega))
  have q1 := f vs h1
  have q2 := f' us g1
  rw [e1] at q1; rw [e1'] at q2
  cases q1; cases q2
  obtain ⟨P1, z⟩ := pair_new P.rel e2 e2' ht
  exact ⟨_, zipV_get (List.getElem?_eq_getElem (by omega)) (List.getElem?_eq_getElem (by omega)), P1, z⟩
theorem jok_zipT {a b : Addr} {ds es : List Val} {vs us : List V} (h : ∀ μ' st' H', Post K μ st H μ' st' H' → SqT K H' a vs ∧ VRs K H' μ' st'.length vs ds) (g : ∀ μ' st' H', Post K μ st H μ' st' H' → SqT K H' b us ∧ VRs K H' μ' st'.length us es) :
    JOk K μ st H (RZ.ItzT K a b) (zipV ds es) [] := fun μ' st' H' P hw => by
  obtain ⟨h1, h2⟩ := h μ' st' H' P
  obtain ⟨g1, g2⟩ := g μ' st' H' P
  have hl := VRs.length h2
  have gl := VRs.length g2
  refine ⟨fun i hi => ?_, fun i hi => ⟨vs, us, h1, g1, by rw [zipV_len] at hi; omega⟩⟩
  rw [zipV_len] at hi
  refine ⟨⟨vs, us, _, _, h1, g1, List.getElem?_eq_getElem (by omega), List.getElem?_eq_getElem (by omega)⟩, fun x H2 hy => ?_⟩
  obtain ⟨t, y, z, rfl, ht, rfl, f, f'⟩ := hy
  obtain ⟨v, e1, e2⟩ := VRs.get h2 (List.getElem?_eq_getElem (i := i) (by omega))
  obtain ⟨u, e1', e2'⟩ := VRs.get g2 (List.getElem?_eq_getElem (i := i) (by omega))
  have q1 := f vs h1
  have q2 := f' us g1
  rw [e1] at q1; rw [e1'] at q2
  cases q1; cases q2
  obtain ⟨P1, z⟩ := pair_new P.rel e2 e2' ht
  exact ⟨_, zipV_get (List.getElem?_eq_getElem (by omega)) (List.getElem?_eq_getElem (by omega)), P1, z⟩
theorem stands_nil : stands [] st = true := rfl
end

/-! ### the rules -/
section
variable {X : Cx} {W : XW} {tg : Expr}
theorem it_list {pins : List (Addr × PySem.Obj)} {σ : L2.St} {H1 : Hp} {s1 : Shared} {a : Addr} {xs : List V} {R : It → Hp → Prop} (I1 : Inv X pins σ H1 s1) (hq : SqL X.K H1 a xs) (q : R (Itl X.K a) H1) :
    wpAny (model X.prog X.w) X.A (pyIter (.ref a)) (PIE X pins σ tg R) X.xe s1 := by
  obtain ⟨its, rv, p, _⟩ := I1.list hq
  refine wpAny_pyIter_list p.isList ⟨s1.heap.objs.size, [s1.heap.objs.size], _, _, H1, rfl, I1.kept (t' := s1.toks) fun b o e => Heap.get?_push_of_some _ e, turn_list a _, ⟨_, Heap.get?_push_size _ rfl, rfl, rfl⟩, fun b hb => ?_, q⟩
  rw [List.mem_singleton.mp hb]
  exact I1.fpOk (Nat.le_refl _) (I1.hok.fresh (Nat.le_refl _))
theorem it_tup {pins : List (Addr × PySem.Obj)} {σ : L2.St} {H1 : Hp} {s1 : Shared} {a : Addr} {xs : List V} {R : It → Hp → Prop} (I1 : Inv X pins σ H1 s1) (hq : SqT X.K H1 a xs) (q : R (Itt X.K a) H1) :
    wpAny (model X.prog X.w) X.A (pyIter (.ref a)) (PIE X pins σ tg R) X.xe s1 := by
  obtain ⟨its, rv, p, _⟩ := I1.tuple hq
  refine wpAny_pyIter_tuple (show s1.heap.IsTuple a its.toArray from p) ⟨s1.heap.objs.size, [s1.heap.objs.size], _, _, H1, rfl, I1.kept (t' := s1.toks) fun b o e => Heap.get?_push_of_some _ e, turn_tuple a _, ⟨_, Heap.get?_push_size _ rfl, rfl, rfl⟩, fun b hb => ?_, q⟩
  rw [List.mem_singleton.mp hb]
  exact I1.fpOk (Nat.le_refl _) (I1.hok.fresh (Nat.le_refl _))
theorem afterW_1 {K : PySem.W.Frag} {W : XW} {k : IK} {f : Comp RV} {μ : Mu} {st : Store} {H : Hp} {ρ : Env} {R : It → Hp → Prop} (a : AfterW K W μ st H (walkM k f (fun _ st => .ok (.v .non) st) ρ st) R) :
    After K W μ st H (f ρ st) fun v H1 => ∃ μ1 st1 r p, Post K μ st H μ1 st1 H1 ∧ VRR K H H1 μ1 st1.length v r ∧ walk k r (.v .non) st1 = some p ∧ ∀ J, JOk K μ1 st1 H1 J p.1 p.2 → R J H1 := by
  unfold walkM at a
  cases hf : f ρ st with
  | bad => rw [hf] at a; exact a
  | exc c p st' => rw [hf] at a; exact a
  | ok r st1 =>
    rw [hf] at a
    intro μ1 H1 v P h
    simp only [Res.bind, lift] at a
    cases e : walk k r (.v .non) st1 with
    | none => rw [e] at a; exact a.elim
    | some p => rw [e] at a; exact ⟨μ1, st1, r, p, P, h, e, fun J hJ => a μ1 H1 J P hJ⟩
theorem pi_seq {e : Expr} {f : Comp RV} (he : PE X e (tE X.K W f)) : PI X tg e (tI X.K W .seq f fun _ st => .ok (.v .non) st) := by
  refine ⟨fun pins s σ H R I h => ?_⟩
  obtain ⟨μ, st, ρ, r, er, a⟩ := h
  refine thn (he.run pins s σ H _ I ⟨μ, st, ρ, r, er, afterW_1 a⟩) fun v s1 ⟨x, H1, I1, rx, μ1, st1, r1, p, P, hv, e, q⟩ => ?_
  simp only [walk, Option.map_eq_some_iff] at e
  obtain ⟨⟨k, ds⟩, e1, rfl⟩ := e
  cases k with
  | true =>
    obtain ⟨a, vs, rfl, hs, _⟩ := seqR_list P.rel hv e1
    cases rx
    exact it_list I1 hs (q _ (jok_list (list_stays P.rel hv e1 rfl)))
  | false =>
    obtain ⟨a, vs, e0, rfl, hs, _⟩ := seqR_tup hv e1
    cases rx
    obtain ⟨us, hu⟩ := tup_stays P.rel hv e1 rfl
    subst e0
    exact it_tup I1 hs (q _ (jok_tup hu))
theorem pi_rng1 {a : Expr} {f : Comp RV} {p pos : Pos} (hg : Gl X "range") (hm : X.mg "range" = none) (ha : PE X a (tE X.K W f)) (hs : starEach [a] X.env = [(false, eval a X.env)]) :
    PI X tg (.Call (.Name "range" p) [a] [] pos) (tI X.K W .range1 f fun _ st => .ok (.v .non) st) := by
  refine ⟨fun pins s σ H R I h => (pi_range1 hg hm (pa_cons ha pa_nil hs) hs).run pins s σ H R I ?_⟩
  obtain ⟨μ, st, ρ, r, er, a⟩ := h
  refine ⟨μ, st, ρ, r, er, ?_⟩
  have a' := afterW_1 a
  cases hf : f ρ st with
  | bad => rw [hf] at a'; exact a'
  | exc c p st' => rw [hf] at a'; exact a'
  | ok r1 st1 =>
    rw [hf] at a'
    intro μ1 H1 v P h
    obtain ⟨μ2, st2, r2, p, P2, hv, e, q⟩ := a' μ1 H1 v P h
    simp only [walk] at e
    split at e
    · rename_i j
      split at e
      · rename_i hj
        cases e
        have ev := (nr_v hv).i_int
        subst ev
        exact ⟨j, rfl, hj.1, hj.2, q _ jok_range⟩
      · cases e
    · cases e
/-- two sources -/
theorem afterW_2 {K : PySem.W.Frag} {W : XW} {k : IK} {f g : Comp RV} {σ : L2.St} {H : Hp} {R : It → Hp → Prop} (h : tI K W k f g σ H R) :
    tCons (tE K W f) (tCons (tE K W g) tNil) σ H fun vs H1 => ∃ v u μ1 st1 r q p, vs = [v, u] ∧ Rel K H1 μ1 st1 ∧ VRR K H H1 μ1 st1.length v r ∧ VRR K H H1 μ1 st1.length u q ∧ walk k r q st1 = some p ∧ ∀ J, JOk K μ1 st1 H1 J p.1 p.2 → R J H1 := by
  obtain ⟨μ, st, ρ, r, er, a⟩ := h
  unfold walkM at a
  refine ⟨μ, st, ρ, r, er, ?_⟩
  cases hf : f ρ st with
  | bad => rw [hf] at a; exact a
  | exc c p st' => rw [hf] at a; exact a
  | ok r1 st1 =>
    rw [hf] at a
    intro μ1 H1 v P1 h1
    refine ⟨μ1, st1, ρ, P1.rel, er.step P1 r, ?_⟩
    simp only [Res.bind] at a
    cases hg : g ρ st1 with
    | bad => rw [hg] at a; exact a
    | exc c p st' => rw [hg] at a; exact fun μ' H' P' => a μ' H' (P1.trans P')
    | ok r2 st2 =>
      rw [hg] at a
      intro μ2 H2 u P2 h2
      simp only [Res.bind, lift] at a
      cases e : walk k r1 r2 st2 with
      | none => rw [e] at a; exact a.elim
      | some p =>
        rw [e] at a
        exact ⟨v, u, μ2, st2, r1, r2, p, rfl, P2.rel, h1.step P2 P1.rel, h2.older fun _ z => P1.free z, e, fun J hJ => a μ2 H2 J (P1.trans P2) hJ⟩
theorem tE_imp {K : PySem.W.Frag} {W : XW} {f : Comp RV} {σ : L2.St} {H : Hp} {Q Q' : VK} (h : tE K W f σ H Q) (i : ∀ v H, Q v H → Q' v H) : tE K W f σ H Q' := by
  obtain ⟨μ, st, ρ, r, er, a⟩ := h
  refine ⟨μ, st, ρ, r, er, ?_⟩
  cases hf : f ρ st with
  | bad => rw [hf] at a; exact a
  | exc c p st' => rw [hf] at a; exact a
  | ok r1 st1 => rw [hf] at a; exact fun μ' H' v P h => i _ _ (a μ' H' v P h)
theorem cons2_imp {K : PySem.W.Frag} {W : XW} {f g : Comp RV} {σ : L2.St} {H : Hp} {Q Q' : List V → Hp → Prop} (h : tCons (tE K W f) (tCons (tE K W g) tNil) σ H Q) (i : ∀ v H, Q v H → Q' v H) : tCons (tE K W f) (tCons (tE K W g) tNil) σ H Q' :=
  tE_imp h fun v H1 h1 => tE_imp h1 fun u H2 h2 => i _ _ h2
theorem pi_rng2 {a b : Expr} {f g : Comp RV} {p pos : Pos} (hg : Gl X "range") (hm : X.mg "range" = none) (ha : PE X a (tE X.K W f)) (hb : PE X b (tE X.K W g)) (hs : starEach [a, b] X.env = [(false, eval a X.env), (false, eval b X.env)]) (hs2 : starEach [b] X.env = [(false, eval b X.env)]) :
    PI X tg (.Call (.Name "range" p) [a, b] [] pos) (tI X.K W .range2 f g) := by
  refine ⟨fun pins s σ H R I h => (pi_range2 hg hm (pa_cons ha (pa_cons hb pa_nil hs2) (by rw [hs, hs2])) hs hs2).run pins s σ H R I ?_⟩
  have := afterW_2 h
  unfold iRng2
  refine cons2_imp this fun vs H1 ⟨v, u, μ1, st1, r, q, p, e0, rl, h1, h2, e, c⟩ => ?_
  simp only [walk] at e
  split at e
  · rename_i i j
    split at e
    · rename_i hj
      cases e
      have ev := (nr_v h1).i_int
      have eu := (nr_v h2).i_int
      subst ev; subst eu
      exact ⟨i, j, e0, hj, c _ jok_range⟩
    · cases e
  · cases e
theorem afterW_1c {K : PySem.W.Frag} {W : XW} {k : IK} {f : Comp RV} {σ : L2.St} {H : Hp} {R : It → Hp → Prop} (h : tI K W k f (fun _ st => .ok (.v .non) st) σ H R) :
    tCons (tE K W f) tNil σ H fun vs H1 => ∃ v H μ st μ1 st1 r p, vs = [v] ∧ Post K μ st H μ1 st1 H1 ∧ VRR K H H1 μ1 st1.length v r ∧ walk k r (.v .non) st1 = some p ∧ ∀ J, JOk K μ1 st1 H1 J p.1 p.2 → R J H1 := by
  obtain ⟨μ, st, ρ, r, er, a⟩ := h
  exact tE_imp ⟨μ, st, ρ, r, er, afterW_1 a⟩ fun v H1 ⟨μ1, st1, r, p, P, q⟩ => ⟨v, H, μ, st, μ1, st1, r, p, rfl, P, q⟩
/-- enumerate of a list or a tuple -/
theorem pi_enm {e : Expr} {f : Comp RV} {p pos tpos : Pos} {elts : List Expr} {kk : Nat} (hg : Gl X "enumerate") (hm : X.mg "enumerate" = none) (ha : PE X e (tE X.K W f)) (hs : starEach [e] X.env = [(false, eval e X.env)]) :
    PI X (.Tuple elts kk tpos) (.Call (.Name "enumerate" p) [e] [] pos) (tI X.K W .enum f fun _ st => .ok (.v .non) st) := by
  refine ⟨fun pins s σ H R I h => ?_⟩
  refine Call_ (ld_blt I hg hm boot_enumerate (PyProof.Rows.callWith_type1 (thn ((pa_cons ha pa_nil hs).run pos pins s σ H _ I (afterW_1c h)) fun us s1 ⟨vs, H1, I1, r1, v, H0, μ0, st0, μ1, st1, x, pr, e0, P, hv, e1, q⟩ => ?_) hs rfl))
  subst e0
  cases r1 with
  | cons rx rr =>
    cases rr
    simp only [walk] at e1
    have fr : ∀ b, s1.heap.objs.size ≤ b → FpOk X pins H1 b := fun b hb => I1.fpOk hb (I1.hok.fresh hb)
    split at e1
    · rename_i ds e2
      cases e1
      obtain ⟨a, vs, rfl, hq, _⟩ := seqR_list P.rel hv e2
      cases rx
      obtain ⟨its, rv, p', _⟩ := I1.list hq
      refine call_enumerate_list p'.isList fun h' he hit hsz hk => wpAny_pyIter_enum he ?_
      have I2 : Inv X pins σ H1 { s1 with heap := h' } := I1.kept (t' := s1.toks) hk
      refine ⟨_, [s1.heap.objs.size + 1, s1.heap.objs.size], _, _, H1, rfl, I2, turn_enum a (s1.heap.objs.size + 1) s1.heap.objs.size, ⟨⟨.none, he⟩, hit, Nat.succ_ne_self _⟩, fun b hb => fr b ?_, q _ (jok_enumL (list_stays P.rel hv e2 rfl))⟩
      simp at hb
      rcases hb with rfl | rfl <;> omega
    · rename_i ds e2
      cases e1
      obtain ⟨a, vs, e3, rfl, hq, _⟩ := seqR_tup hv e2
      cases rx
      obtain ⟨us, hu⟩ := tup_stays P.rel hv e2 rfl
      obtain ⟨its, rv, p', _⟩ := I1.tuple hq
      obtain ⟨o1, ho1, _⟩ := id p'
      have hlt := Heap.lt_size ho1
      refine call_enum_tup (show s1.heap.IsTuple a its.toArray from p') fun h' he hit hsz hk => wpAny_pyIter_enum he ?_
      have I2 : Inv X pins σ H1 { s1 with heap := h' } := I1.kept (t' := s1.toks) hk
      refine ⟨_, [s1.heap.objs.size + 1, s1.heap.objs.size], _, _, H1, rfl, I2, turn_enumT a (s1.heap.objs.size + 1) s1.heap.objs.size (Nat.ne_of_lt hlt) (Nat.ne_of_lt (Nat.lt_succ_of_lt hlt)), ⟨⟨.none, he⟩, hit, Nat.succ_ne_self _⟩, fun b hb => fr b ?_, q _ (jok_enumT hu)⟩
      simp at hb
      rcases hb with rfl | rfl <;> omega
    · cases e1
/-- zip of two lists, of two tuples -/
theorem pi_zp {e e2 : Expr} {f g : Comp RV} {p pos tpos : Pos} {elts : List Expr} {kk : Nat} (hg : Gl X "zip") (hm : X.mg "zip" = none) (ha : PE X e (tE X.K W f)) (hb : PE X e2 (tE X.K W g)) (hs : starEach [e, e2] X.env = [(false, eval e X.env), (false, eval e2 X.env)]) (hs2 : starEach [e2] X.env = [(false, eval e2 X.env)]) :
    PI X (.Tuple elts kk tpos) (.Call (.Name "zip" p) [e, e2] [] pos) (tI X.K W .zip f g) := by
  refine ⟨fun pins s σ H R I h => (RZ.pi_zipA hg hm (pa_cons ha (pa_cons hb pa_nil hs2) (by rw [hs, hs2])) (by rw [hs, hs2]) (by rw [hs2]; rfl)).run pins s σ H R I ?_⟩
  have := afterW_2 h
  unfold RZ.iZipA
  refine cons2_imp this fun vs H1 ⟨v, u, μ1, st1, r, q, p, e0, rl, h1, h2, e, c⟩ => ?_
  simp only [walk] at e
  split at e
  · rename_i k xs j ys e3 e4
    split at e
    · rename_i hkj
      cases e
      have hkj : k = j := by simpa using hkj
      subst hkj
      cases k with
      | true =>
        obtain ⟨a, as, rfl, hq, _⟩ := seqR_list rl h1 e3
        obtain ⟨b, bs, rfl, hq', _⟩ := seqR_list rl h2 e4
        refine ⟨a, b, as, bs, e0, .inl ⟨hq, hq', c _ (jok_zipL fun μ' st' H' P hw => ?_)⟩⟩
        have := stands_app hw
        exact ⟨list_stays rl h1 e3 rfl _ _ _ P this.1, list_stays rl h2 e4 rfl _ _ _ P this.2⟩
      | false =>
        obtain ⟨a, as, e5, rfl, hq, _⟩ := seqR_tup h1 e3
        obtain ⟨b, bs, e6, rfl, hq', _⟩ := seqR_tup h2 e4
        obtain ⟨us, hu⟩ := tup_stays rl h1 e3 rfl
        obtain ⟨ws, hw⟩ := tup_stays rl h2 e4 rfl
        subst e5 e6
        refine ⟨a, b, as, bs, e0, .inr ⟨hq, hq', c _ (jok_zipT hu hw)⟩⟩
    · cases e
  · cases e
end
end Mi
end
section
set_option linter.all false
set_option autoImplicit false
set_option maxRecDepth 10000
/-! MiLoop: comprehensions and loops. -/
namespace Mi
open PySem PySem.Spec L2
open PyProof.Rows hiding RelV

def T.slots : T → List Nat
  | .sl i => [i]
  | .tp ts => ts.slots
  | .nil => []
  | .cons t ts => t.slots ++ ts.slots
def T.len : T → Nat
  | .cons _ ts => ts.len + 1
  | _ => 0
def gT (K : PySem.W.Frag) (t : T) : TG := fun v σ H Q => ∃ d μ N ρ ρ', VR K H μ N v d ∧ ER K H μ N σ ρ ∧ bindT t d ρ = some ρ' ∧ ∀ σ', ER K H μ N σ' ρ' → σ'.length = σ.length → (∀ i, i ∉ t.slots → σ'[i]? = σ[i]?) → Q σ' H
def gTs (K : PySem.W.Frag) (t : T) : TGs := fun vs σ H Q => ∃ ds μ N ρ ρ', VRs K H μ N vs ds ∧ ER K H μ N σ ρ ∧ bindTs t ds ρ = some ρ' ∧ ∀ σ', ER K H μ N σ' ρ' → σ'.length = σ.length → (∀ i, i ∉ t.slots → σ'[i]? = σ[i]?) → Q σ' H
def tB (K : PySem.W.Frag) (W : XW) (f : Comp Bool) : TT := fun σ H Q => ∃ μ st ρ, Rel K H μ st ∧ ER K H μ st.length σ ρ ∧ AfterT K W μ st H (f ρ st) Q
section
variable {K : PySem.W.Frag} {W : XW} {H H' H₀ : Hp} {μ μ' μ₀ : Mu} {st st' st₀ : Store} {σ : L2.St} {ρ : Env} {N : Nat}
theorem ER.set {v : V} {d : Val} {i : Nat} (e : ER K H μ N σ ρ) (h : VR K H μ N v d) : ER K H μ N (σ.set i (some v)) (ρ.set i (some d)) :=
  ⟨by simp [e.len], fun j x hj => by
    by_cases hij : i = j
    · subst hij
      by_cases hi : i < ρ.length
      · rw [List.getElem?_set_self hi] at hj
        cases hj
        exact ⟨v, by rw [List.getElem?_set_self (by rw [e.len]; exact hi)], h⟩
      · rw [List.getElem?_eq_none (by simpa using hi)] at hj; cases hj
    · rw [List.getElem?_set_ne hij] at hj
      obtain ⟨u, a, b⟩ := e.get j x hj
      exact ⟨u, by rw [List.getElem?_set_ne hij]; exact a, b⟩⟩
theorem wipe_get (σ : L2.St) (i : Nat) : ∀ vs : List Nat, (wipe σ vs)[i]? = if i ∈ vs then (if i < σ.length then some none else none) else σ[i]?
  | [] => by simp [wipe]
  | v :: vs => by
    unfold wipe
    by_cases h : v = i
    · subst h
      simp only [List.mem_cons_self, if_true]
      split
      · rename_i hl; exact List.getElem?_set_self (by rw [wipe_length]; exact hl)
      · rename_i hl; exact List.getElem?_eq_none (by rw [List.length_set, wipe_length]; omega)
    · rw [List.getElem?_set_ne h, wipe_get σ i vs]
      simp [List.mem_cons, Ne.symm h]
theorem wipeE_length (ρ : Env) : ∀ vs : List Nat, (wipeE ρ vs).length = ρ.length
  | [] => rfl
  | v :: vs => by unfold wipeE; rw [List.length_set, wipeE_length ρ vs]
theorem ER.wipe (e : ER K H μ N σ ρ) : ∀ vs, ER K H μ N (L2.wipe σ vs) (wipeE ρ vs)
  | [] => e
  | v :: vs => by
    have ih := e.wipe vs
    refine ⟨by simp [L2.wipe, wipeE, ih.len], fun j x hj => ?_⟩
    unfold wipeE at hj
    unfold L2.wipe
    by_cases h : v = j
    · subst h
      by_cases hi : v < (wipeE ρ vs).length
      · rw [List.getElem?_set_self hi] at hj; cases hj
      · rw [List.getElem?_eq_none (by simpa using hi)] at hj; cases hj
    · rw [List.getElem?_set_ne h] at hj
      obtain ⟨u, a, b⟩ := ih.get j x hj
      exact ⟨u, by rw [List.getElem?_set_ne h]; exact a, b⟩
theorem wipe_same {σ σ2 : L2.St} {own sl : List Nat} (hs : ∀ i ∈ sl, i ∈ own) (hl : σ2.length = (L2.wipe σ own).length) (h : ∀ i, i ∉ sl → σ2[i]? = (L2.wipe σ own)[i]?) : L2.wipe σ2 own = L2.wipe σ own := by
  refine List.ext_getElem? fun i => ?_
  rw [wipe_length] at hl
  rw [wipe_get, wipe_get]
  split
  · rw [hl]
  · rename_i hn
    rw [h i fun z => hn (hs i z), wipe_get, if_neg hn]
theorem Post.own {D : Addr} {us vs : List V} (P : Post K μ₀ st₀ H₀ μ st H) (h0 : H₀ D = none) (hD : H D = some (.lst us)) (ne : ∀ n, n < st.length → μ n ≠ D) :
    Post K μ₀ st₀ H₀ μ st (L2.upd H D (.lst vs)) ∧ Keep K H (L2.upd H D (.lst vs)) μ μ st.length st.length := by
  have k : Keep K H (L2.upd H D (.lst vs)) μ μ st.length st.length := ⟨fun _ _ => rfl, Nat.le_refl _, fun a xs h => by
    rcases h with (h | ⟨ob, h⟩) | h
    · exact .inl (.inl (by rw [upd_ne fun e => by rw [e, hD] at h; cases h]; exact h))
    · exact .inl (.inr ⟨ob, by rw [upd_ne fun e => by rw [e, hD] at h; cases h]; exact h⟩)
    · exact .inr h⟩
  refine ⟨⟨P.same, P.len, ⟨fun n o e => (P.rel.obj n o e).keep k (upd_ne (ne n (List.getElem?_eq_some_iff.mp e).1)), P.rel.inj⟩, fun a o h c => ?_, P.fresh⟩, k⟩
  rw [upd_ne fun e => by rw [e, h0] at h; cases h]
  exact P.frame a o h c
theorem Post.stay (P : Post K μ st H μ' st' H') {D : Addr} {o : HO} (e : H D = some o) (ne : ∀ n, n < st.length → μ n ≠ D) : H' D = some o ∧ ∀ n, n < st'.length → μ' n ≠ D := by
  refine ⟨P.frame _ _ e ne, fun n hn z => ?_⟩
  by_cases hl : n < st.length
  · exact ne n hl ((P.same n hl).symm.trans z)
  · have := P.fresh n (Nat.le_of_not_lt hl) hn
    rw [z, e] at this; cases this
theorem VRs.append {vs us : List V} {ds es : List Val} (h : VRs K H μ N vs ds) (g : VRs K H μ N us es) : VRs K H μ N (vs ++ us) (ds ++ es) := by
  induction ds generalizing vs with
  | nil => cases h; exact g
  | cons d ds ih => cases h with | cons a b => exact .cons a (ih b)
/-! ### comprehensions -/
theorem comp_ok {k : IK} {fa fb fe : Comp RV} {fc : Comp Bool} {tg : T} {own : List Nat} {Q : VK} (hs : ∀ i ∈ tg.slots, i ∈ own)
    (h : tE K W (fun ρ st => (walkM k fa fb ρ st).bind fun p st2 => (noX (compLoop p.2 tg fc fe (wipeE ρ own) p.1 [] st2)).bind fun l st3 => .ok (.l l) st3) σ H Q) :
    tLc (tI K W k fa fb) (gT K tg) (tB K W0 fc) (tE K W0 fe) own σ H Q := by
  obtain ⟨μ, st, ρ, r, er, a⟩ := h
  refine ⟨μ, st, ρ, r, er, ?_⟩
  dsimp only at a
  cases hw : walkM k fa fb ρ st with
  | bad => rw [hw] at a; exact a
  | exc c p st' => rw [hw] at a; exact a
  | ok p st2 =>
    rw [hw] at a
    intro μ2 H2 J P2 hJ D hD
    have er2 := (er.step P2 r).wipe own
    refine ⟨fun i m Hc => m = p.1.length - i ∧ i ≤ p.1.length ∧ ∃ μc stc acc vs, Post K μ2 st2 H2 μc stc Hc ∧ Hc D = some (.lst vs) ∧ VRs K Hc μc stc.length vs acc ∧ (∀ n, n < stc.length → μc n ≠ D) ∧
      After K W μ st H ((noX (compLoop p.2 tg fc fe (wipeE ρ own) (p.1.drop i) acc stc)).bind fun l st3 => .ok (.l l) st3) Q,
      ⟨_, rfl, Nat.zero_le _, μ2, st2, [], [], (Post.refl P2.rel).upd hD, upd_same, .nil, P2.rel.ne hD, by rw [List.drop_zero]; exact a⟩, ?_⟩
    rintro i m Hc ⟨rfl, hi, μc, stc, acc, vs, P, eD, hv, ne, a⟩
    by_cases hlt : i < p.1.length
    · rw [List.drop_eq_getElem_cons hlt] at a
      unfold compLoop at a
      split at a
      · rename_i hst
        have hj := (hJ μc stc Hc P hst).1 i hlt
        cases hb : bindT tg p.1[i] (wipeE ρ own) with
        | none => rw [hb] at a; exact a.elim
        | some ρ1 =>
          rw [hb] at a
          refine .inr ⟨hj.1, fun H' => p.1.length - (i + 1) = p.1.length - (i + 1) ∧ i + 1 ≤ p.1.length ∧ ∃ μc stc acc vs, Post K μ2 st2 H2 μc stc H' ∧ H' D = some (.lst vs) ∧ VRs K H' μc stc.length vs acc ∧ (∀ n, n < stc.length → μc n ≠ D) ∧
            After K W μ st H ((noX (compLoop p.2 tg fc fe (wipeE ρ own) (p.1.drop (i + 1)) acc stc)).bind fun l st3 => .ok (.l l) st3) Q, fun H' h => ⟨_, by omega, h⟩, fun x H' y => ?_⟩
          obtain ⟨d, e, P1, hx⟩ := hj.2 x H' y
          rw [List.getElem?_eq_getElem hlt] at e
          cases e
          refine ⟨_, μc, stc.length, _, ρ1, hx, er2.step (P.trans P1) P2.rel, hb, fun σ2 e2 hl hag => ⟨wipe_same hs hl hag, μc, stc, ρ1, P1.rel, e2, ?_⟩⟩
          cases hc : fc ρ1 stc with
          | bad => simp only [hc] at a; exact a
          | exc c q st' => simp only [hc] at a; exact a.elim
          | ok b st3 =>
            simp only [hc, Res.bind] at a
            intro μ3 H3 P3
            obtain ⟨eD3, ne3⟩ := (P1.trans P3).stay eD ne
            have k3 := (P1.trans P3).keep P.rel
            cases b with
            | false =>
              simp only [Bool.false_eq_true, if_false] at a ⊢
              exact ⟨trivial, hlt, μ3, st3, acc, vs, P.trans (P1.trans P3), eD3, VRs.keep k3 _ _ hv, ne3, a⟩
            | true =>
              simp only [if_true] at a ⊢
              refine ⟨μ3, st3, ρ1, P3.rel, e2.step P3 P1.rel, ?_⟩
              cases hf : fe ρ1 st3 with
              | bad => simp only [hf] at a; exact a
              | exc c q st' => simp only [hf] at a; exact a.elim
              | ok r4 st4 =>
                simp only [hf] at a
                intro μ4 H4 y P4 hy
                by_cases hz : acc.length < top
                · simp only [hz, if_true] at a
                  obtain ⟨μ5, P5, k5, hy5⟩ := settle_ok P4 hy
                  obtain ⟨eD5, ne5⟩ := P5.stay eD3 ne3
                  obtain ⟨P6, k6⟩ := ((P.trans (P1.trans P3)).trans P5).own (vs := vs ++ [y]) hD eD5 ne5
                  refine ⟨vs, eD5, ?_, trivial, hlt, μ5, _, _, _, P6, upd_same, VRs.keep k6 _ _ ((VRs.keep (P5.keep P3.rel) _ _ (VRs.keep k3 _ _ hv)).append (.cons hy5 .nil)), ne5, a⟩
                  rw [VRs.length hv]; exact hz
                · simp only [hz, if_false] at a
                  exact a.elim
      · exact a.elim
    · have : i = p.1.length := by omega
      subst this
      rw [List.drop_length] at a
      unfold compLoop at a
      split at a
      · rename_i hst
        exact .inl ⟨(hJ μc stc Hc P hst).2 _ (Nat.le_refl _), a μc Hc (.ref D) (P2.trans P) ⟨D, vs, rfl, P2.free hD, eD, hv, ne⟩⟩
      · exact a.elim
/-! ### loops -/
def AfterS (K : PySem.W.Frag) (W : XW) (μ : Mu) (st : Store) (H : Hp) (c : Res Out) (D : Ends) : Prop := match c with
  | .ok o st' => ∀ μ' H', Post K μ st H μ' st' H' → match o with
    | .nx ρ => ∀ σ', ER K H' μ' st'.length σ' ρ → D.nx σ' H'
    | .rt r => ∀ v, VRR K H H' μ' st'.length v r → D.rt v H'
    | .bk ρ => ∀ σ', ER K H' μ' st'.length σ' ρ → D.bk σ' H'
    | .ct ρ => ∀ σ', ER K H' μ' st'.length σ' ρ → D.ct σ' H'
  | .exc c p st' => ∀ μ' H', Post K μ st H μ' st' H' → W c p μ' st' H'
  | .bad => False
def tS (K : PySem.W.Frag) (W : XW) (f : Comp Out) : TS := fun D σ H => ∃ μ st ρ, Rel K H μ st ∧ ER K H μ st.length σ ρ ∧ AfterS K W μ st H (f ρ st) D
theorem AfterS.step {c : Res Out} {D : Ends} (P : Post K μ₀ st₀ H₀ μ st H) (a : AfterS K W μ₀ st₀ H₀ c D) : AfterS K W μ st H c D := by
  cases c with
  | ok o st' =>
    intro μ' H' P'
    have a' := a μ' H' (P.trans P')
    cases o with
    | rt r => exact fun v h => a' v (h.older fun _ z => P.free z)
    | _ => exact a'
  | exc c p st' => exact fun μ' H' P' => a μ' H' (P.trans P')
  | bad => exact a
/-- a body's ends, then the loop's -/
theorem body_ends {c : Res Out} {D : Ends} {Nn : L2.St → Hp → Prop} {g : Env → Store → Res Out} (a : AfterS K W μ st H (c.bind fun o st2 => match o with
      | .nx ρ2 => g ρ2 st2
      | .ct ρ2 => g ρ2 st2
      | .bk ρ2 => .ok (.nx ρ2) st2
      | .rt r => .ok (.rt r) st2) D)
    (h : ∀ ρ2 st2 μ2 H2 σ2, Post K μ st H μ2 st2 H2 → ER K H2 μ2 st2.length σ2 ρ2 → AfterS K W μ st H (g ρ2 st2) D → Nn σ2 H2) : AfterS K W μ st H c { D with nx := Nn, ct := Nn, bk := D.nx } := by
  cases c with
  | bad => exact a
  | exc c p st' => exact a
  | ok o st2 =>
    intro μ2 H2 P2
    cases o with
    | nx ρ2 => exact fun σ2 e2 => h ρ2 st2 μ2 H2 σ2 P2 e2 a
    | ct ρ2 => exact fun σ2 e2 => h ρ2 st2 μ2 H2 σ2 P2 e2 a
    | bk ρ2 => exact a μ2 H2 P2
    | rt r => exact a μ2 H2 P2
theorem for_ok {k : IK} {fa fb : Comp RV} {f : Comp Out} {tg : T} {D : Ends}
    (h : tS K W (fun ρ st => (walkM k fa fb ρ st).bind fun p st2 => forLoop p.2 tg f p.1 ρ st2) D σ H) : tFor (tI K W k fa fb) (gT K tg) (tS K W f) D σ H := by
  obtain ⟨μ, st, ρ, r, er, a⟩ := h
  refine ⟨μ, st, ρ, r, er, ?_⟩
  dsimp only at a
  cases hw : walkM k fa fb ρ st with
  | bad => rw [hw] at a; exact a
  | exc c p st' => rw [hw] at a; exact a
  | ok p st2 =>
    rw [hw] at a
    intro μ2 H2 J P2 hJ
    refine ⟨fun i m σc Hc => m = p.1.length - i ∧ i ≤ p.1.length ∧ ∃ μc stc ρc, Post K μ2 st2 H2 μc stc Hc ∧ ER K Hc μc stc.length σc ρc ∧ AfterS K W μc stc Hc (forLoop p.2 tg f (p.1.drop i) ρc stc) D,
      ⟨_, rfl, Nat.zero_le _, μ2, st2, ρ, .refl P2.rel, er.step P2 r, by rw [List.drop_zero]; exact AfterS.step P2 a⟩, ?_⟩
    rintro i m σc Hc ⟨rfl, hi, μc, stc, ρc, P, e2, a⟩
    by_cases hlt : i < p.1.length
    · rw [List.drop_eq_getElem_cons hlt] at a
      unfold forLoop at a
      split at a
      · rename_i hst
        have hj := (hJ μc stc Hc P hst).1 i hlt
        cases hb : bindT tg p.1[i] ρc with
        | none => rw [hb] at a; exact a.elim
        | some ρ1 =>
          rw [hb] at a
          refine .inr ⟨hj.1, fun σ' H' => p.1.length - (i + 1) = p.1.length - (i + 1) ∧ i + 1 ≤ p.1.length ∧ ∃ μc stc ρc, Post K μ2 st2 H2 μc stc H' ∧ ER K H' μc stc.length σ' ρc ∧ AfterS K W μc stc H' (forLoop p.2 tg f (p.1.drop (i + 1)) ρc stc) D,
            fun σ' H' h => ⟨_, by omega, h⟩, fun x H' y => ?_⟩
          obtain ⟨d, e, P1, hx⟩ := hj.2 x H' y
          rw [List.getElem?_eq_getElem hlt] at e
          cases e
          refine ⟨_, μc, stc.length, _, ρ1, hx, e2.step P1 P.rel, hb, fun σ2 e3 _ _ => ⟨μc, stc, ρ1, P1.rel, e3, ?_⟩⟩
          exact body_ends (AfterS.step P1 a) fun ρ2 st3 μ3 H3 σ3 P3 e4 a4 => ⟨rfl, hlt, μ3, st3, ρ2, P.trans (P1.trans P3), e4, a4.step P3⟩
      · exact a.elim
    · have : i = p.1.length := by omega
      subst this
      rw [List.drop_length] at a
      unfold forLoop at a
      split at a
      · rename_i hst
        exact .inl ⟨(hJ μc stc Hc P hst).2 _ (Nat.le_refl _), a μc Hc (.refl P.rel) _ e2⟩
      · exact a.elim
theorem while_ok {n : Nat} {fc : Comp Bool} {f : Comp Out} {D : Ends} (h : tS K W (fun ρ st => whileLoop fc f n ρ st) D σ H) : tWhile (tB K W fc) (tS K W f) D σ H := by
  obtain ⟨μ, st, ρ, r, er, a⟩ := h
  refine ⟨fun m σc Hc => ∃ μc stc ρc, Rel K Hc μc stc ∧ ER K Hc μc stc.length σc ρc ∧ AfterS K W μc stc Hc (whileLoop fc f m ρc stc) D, ⟨n, μ, st, ρ, r, er, a⟩, ?_⟩
  rintro m σc Hc ⟨μc, stc, ρc, rc, ec, a⟩
  cases m with
  | zero => exact a.elim
  | succ m =>
    unfold whileLoop at a
    refine ⟨μc, stc, ρc, rc, ec, ?_⟩
    cases hc : fc ρc stc with
    | bad => rw [hc] at a; exact a
    | exc c p st' => rw [hc] at a; exact a
    | ok b st1 =>
      simp only [hc, Res.bind] at a
      intro μ1 H1 P1
      cases b with
      | false =>
        simp only [Bool.false_eq_true, if_false] at a ⊢
        exact a μ1 H1 P1 _ (ec.step P1 rc)
      | true =>
        simp only [if_true] at a ⊢
        refine ⟨fun σ' H' => ∃ μc stc ρc, Rel K H' μc stc ∧ ER K H' μc stc.length σ' ρc ∧ AfterS K W μc stc H' (whileLoop fc f m ρc stc) D, fun σ' H' h => ⟨m, Nat.lt_succ_self _, h⟩, μ1, st1, ρc, P1.rel, ec.step P1 rc, ?_⟩
        exact body_ends (AfterS.step P1 a) fun ρ2 st3 μ3 H3 σ3 P3 e4 a4 => ⟨μ3, st3, ρ2, P3.rel, e4, a4.step P3⟩
end
end Mi
end
section
set_option linter.all false
set_option autoImplicit false
set_option maxRecDepth 10000
/-! MiNode: the expressions' rules, node by node. -/
namespace Mi
open PySem PySem.Spec L2
open PyProof.Rows hiding RelV

theorem pe_imp {X : Cx} {e : Expr} {t t' : TE} (h : PE X e t) (i : ∀ σ H Q, t' σ H Q → t σ H Q) : PE X e t' := ⟨fun pins s σ H Q I q => h.run pins s σ H Q I (i _ _ _ q)⟩
theorem pt_imp {X : Cx} {e : Expr} {t t' : TT} (h : PT X e t) (i : ∀ σ H Q, t' σ H Q → t σ H Q) : PT X e t' := ⟨fun pins s σ H Q I q => h.run pins s σ H Q I (i _ _ _ q)⟩
theorem pw_imp {X : Cx} {e : Expr} {t t' : TT} (h : PW X e t) (i : ∀ σ H Q, t' σ H Q → t σ H Q) : PW X e t' := ⟨fun wh pins s σ H Q I q => h.run wh pins s σ H Q I (i _ _ _ q)⟩
theorem pa_imp {X : Cx} {e : List Expr} {t t' : TA} (h : PA X e t) (i : ∀ σ H Q, t' σ H Q → t σ H Q) : PA X e t' := ⟨fun pos pins s σ H Q I q => h.run pos pins s σ H Q I (i _ _ _ q)⟩
theorem po_imp {X : Cx} {e : Option Expr} {t t' : TO} (h : PO X e t) (i : ∀ σ H Q, t' σ H Q → t σ H Q) : PO X e t' := ⟨fun pins s σ H Q I q => h.run pins s σ H Q I (i _ _ _ q)⟩

/-! ### not starred -/
def noS : Expr → Bool
  | .Starred .. => false
  | _ => true
theorem star1 {e : Expr} {es : List Expr} {env : PySem.Env} (h : noS e = true) : starEach (e :: es) env = (false, eval e env) :: starEach es env := by
  cases e <;> first | rfl | cases h
theorem asg1 {e : Expr} {es : List Expr} {env : PySem.Env} (h : noS e = true) : assignEach (e :: es) env = (false, assign e env) :: assignEach es env := by
  cases e <;> first | rfl | cases h
theorem starA : ∀ {es : List Expr} {env : PySem.Env} {pos : Pos}, es.all noS = true → (backTo pos (starEach es env)).any (·.1) = false
  | [], _, _, _ => rfl
  | e :: es, env, pos, h => by
    simp only [List.all_cons, Bool.and_eq_true] at h
    rw [star1 h.1]
    exact starA (es := es) (env := env) (pos := pos) h.2
theorem starAll : ∀ {es : List Expr} {env : PySem.Env} {pos : Pos}, es.all noS = true → (backTo pos (starEach es env)).all (fun x => !x.1) = true
  | [], _, _, _ => rfl
  | e :: es, env, pos, h => by
    simp only [List.all_cons, Bool.and_eq_true] at h
    rw [star1 h.1]
    exact starAll (es := es) (env := env) (pos := pos) h.2
theorem asgLen : ∀ {es : List Expr} {env : PySem.Env}, (assignEach es env).length = es.length
  | [], _ => rfl
  | e :: es, env => by cases e <;> exact congrArg (· + 1) (asgLen (es := es) (env := env))
theorem asgNo : ∀ {es : List Expr} {env : PySem.Env}, es.all noS = true → (assignEach es env).findIdx? (·.1) = none
  | [], _, _ => rfl
  | e :: es, env, h => by
    simp only [List.all_cons, Bool.and_eq_true] at h
    rw [asg1 h.1, List.findIdx?_cons]
    have := asgNo (es := es) (env := env) h.2
    simp [this]
/-- no zero-argument call of a name -/
def baseOk : Expr → Bool
  | .Call (.Name n _) [] [] _ => n != "super"
  | _ => true
theorem base_ok {o : Expr} {m : Str} {env : PySem.Env} (h : baseOk o = true) : attributeBase o m env (eval o env) = eval o env := by
  unfold attributeBase
  split
  · simp only [baseOk] at h
    simp [h]
  · rfl
def noSet : Expr → Bool
  | .Set .. => false
  | _ => true
theorem folded_ok {e : Expr} {env : PySem.Env} (h : noSet e = true) (x : Value) : foldedSetIterable e env x = pure x := by
  unfold foldedSetIterable
  split
  · simp [noSet] at h
  · rfl
theorem marks_ok {op : CmpOp} {e : Expr} (h : noSet e = true) : behindInMarks op e = false := by
  cases e <;> first | rfl | cases h
def noSlice : Expr → Bool
  | .Slice .. => false
  | _ => true
theorem plainIx_ok {e : Expr} (h : noSlice e = true) : PlainIx e := by
  intro o i
  cases e <;> first | rfl | cases h
def plainT : Expr → Bool
  | .UnaryOp .Not _ _ => false
  | .BoolOp .. => false
  | .IfExp .. => false
  | .Compare .. => false
  | _ => true
theorem truth_plain {e : Expr} {env : PySem.Env} (h : plainT e = true) (whole : Sem Value) : isTrue e env whole = (do let v ← whole; standAt e.pos; holding [v] (truthy v)) := by
  cases e with
  | UnaryOp op x p => cases op <;> first | rfl | cases h
  | _ => first | rfl | cases h

section
variable {X : Cx} {W : XW} {cs : List Fn} {pos p1 p2 : Pos}
/-- an expression by Mini: as a value, as a test -/
structure PQ (X : Cx) (W : XW) (x : Expr) (f : Comp RV) : Prop where
  e : PE X x (tE X.K W f)
  t : PT X x (tT X.K W f)
theorem pq_plain {x : Expr} {f : Comp RV} (h : PE X x (tE X.K W f)) (hp : plainT x = true) : PQ X W x f :=
  ⟨h, pt_imp (pt_truth h (truth_plain hp)) fun σ H Q q => tT_truth q⟩

/-! ### constants, names -/
theorem n_c {f : Comp RV} {v : V} {d : Val} {x : Expr} (h : PE X x (tC v)) (hf : ∀ ρ st, f ρ st = .ok (.v d) st) (hv : ∀ H μ N, VR X.K H μ N v d) : PE X x (tE X.K W f) :=
  pe_imp h fun σ H Q ⟨μ, st, ρ, r, er, a⟩ => by
    rw [hf] at a
    exact a μ H v (.refl r) (hv _ _ _)
def chkK : Val → Const → Bool
  | .non, .none => true
  | .bl b, .bool c => b == c
  | .int i, .int j => i == j
  | .str x, .str y => toStr x == y
  | _, _ => false
theorem n_k {v : Val} {c : Const} {j : Nat} (h : chkK v c = true) : PE X (.Constant c j pos) (tE X.K W (ev cs (.k v))) := by
  cases v <;> cases c <;> first | cases h | skip
  · exact n_c pe_non (fun _ _ => rfl) fun _ _ _ => .non
  · obtain rfl := eq_of_beq h
    exact n_c pe_bl (fun _ _ => rfl) fun _ _ _ => .bl _
  · obtain rfl := eq_of_beq h
    exact n_c pe_int (fun _ _ => rfl) fun _ _ _ => .int _
  · obtain rfl := eq_of_beq h
    exact n_c pe_str (fun _ _ => rfl) fun _ _ _ => .str _
def visB (sc : Scope) (x : Str) : Bool := match sc.names.lookup x with
  | some .local => true
  | some .cell => true
  | some .free => true
  | _ => false
def okName (x : Str) : Bool := !(x == ("__debug__" : Str)) && !(x == ("__classdict__" : Str)) && !(x == ("__name__" : Str))
theorem visB_ok {sc : Scope} {x : Str} (h : visB sc x = true) : Vis sc x := by
  unfold visB at h
  split at h <;> first | exact .inl (by assumption) | exact .inr (.inl (by assumption)) | exact .inr (.inr (by assumption)) | cases h
theorem okName_ok {x : Str} (h : okName x = true) : (x == ("__debug__" : Str)) = false ∧ (x == ("__classdict__" : Str)) = false ∧ x ≠ "__name__" := by
  simp only [okName, Bool.and_eq_true, Bool.not_eq_true'] at h
  exact ⟨h.1.1, h.1.2, fun e => by have := h.2; rw [e] at this; exact absurd this (by decide)⟩
theorem n_x {i : Nat} {x : Str} (hN : X.N[i]? = some x) (hv : visB X.env.scope x = true) (hn : okName x = true) : PE X (.Name x pos) (tE X.K W (ev cs (.x i))) :=
  pe_imp (pe_var hN (visB_ok hv) (okName_ok hn).1 (okName_ok hn).2.1) fun σ H Q ⟨μ, st, ρ, r, er, a⟩ => by
    simp only [ev] at a
    split at a
    · rename_i d e
      obtain ⟨v, e1, e2⟩ := er.get i d e
      exact ⟨v, e1, a μ H v (.refl r) e2⟩
    · exact a.elim

/-! ### argument lists -/
theorem n_nil : PA X [] (tA X.K W (evs cs .nil)) := pa_imp pa_nil fun σ H Q ⟨μ, st, ρ, r, er, a⟩ => by
  simp only [evs] at a
  exact a μ H [] [] (.refl r) .nil
theorem n_cons {x : Expr} {xs : List Expr} {h t : E} (hs : noS x = true) (h1 : PE X x (tE X.K W (ev cs h))) (h2 : PA X xs (tA X.K W (evs cs t))) : PA X (x :: xs) (tA X.K W (evs cs (.cons h t))) :=
  pa_imp (pa_cons h1 h2 (star1 hs)) fun σ H Q ⟨μ, st, ρ, r, er, a⟩ => by
    refine ⟨μ, st, ρ, r, er, ?_⟩
    simp only [evs] at a
    cases hf : ev cs h ρ st with
    | bad => rw [hf] at a; exact a
    | exc c p st' => rw [hf] at a; exact a
    | ok x1 st1 =>
      rw [hf] at a
      intro μ1 H1 v P1 hv
      refine ⟨μ1, st1, ρ, P1.rel, er.step P1 r, ?_⟩
      simp only [Res.bind] at a
      cases hg : evs cs t ρ st1 with
      | bad => rw [hg] at a; exact a
      | exc c p st' => rw [hg] at a; exact fun μ' H' P' => a μ' H' (P1.trans P')
      | ok rs st2 =>
        rw [hg] at a
        intro μ2 H2 vs ps P2 hvs
        have hv2 := VRR.step P2 P1.rel hv
        cases x1 with
        | v d => exact a μ2 H2 (v :: vs) ps (P1.trans P2) (.v hv2 (hvs.older fun _ z => P1.free z))
        | l ds =>
          obtain ⟨p, us, rfl, e0, e1, e2, e3⟩ := hv2
          refine a μ2 H2 _ (p :: ps) (P1.trans P2) (.l e0 e1 e2 e3 (fun hp => ?_) (hvs.older fun _ z => P1.free z))
          obtain ⟨p', us', e4, _, e5, _⟩ := hv
          cases e4
          have := hvs.free p hp
          rw [e5] at this; cases this
theorem args_then {es : E} {g : List RV → Store → Res RV} {f : Comp RV} {K : PySem.W.Frag} {σ : L2.St} {H : Hp} {Q : VK} (hf : ∀ ρ st, f ρ st = (evs cs es ρ st).bind fun rs st1 => g rs st1) (h : tE K W f σ H Q) :
    tA K W (evs cs es) σ H fun vs H1 => ∃ μ₀ st₀ H₀ μ st rs ps, Rel K H₀ μ₀ st₀ ∧ Post K μ₀ st₀ H₀ μ st H1 ∧ VRRs K H₀ H1 μ st.length vs rs ps ∧ After K W μ₀ st₀ H₀ (g rs st) Q := by
  obtain ⟨μ, st, ρ, r, er, a⟩ := h
  refine ⟨μ, st, ρ, r, er, ?_⟩
  rw [hf] at a
  cases he : evs cs es ρ st with
  | bad => rw [he] at a; exact a
  | exc c p st' => rw [he] at a; exact a
  | ok rs st1 =>
    rw [he] at a
    exact fun μ1 H1 vs ps P1 hv => ⟨μ, st, H, μ1, st1, rs, ps, r, P1, hv, a⟩
theorem n_tupM {es : E} {xs : List Expr} {k : Nat} (h : PA X xs (tA X.K W (evs cs es))) : PE X (.Tuple xs k pos) (tE X.K W (ev cs (.tup es))) :=
  pe_imp (pe_tup h) fun σ H Q q => by
    obtain ⟨μ, st, ρ, r, er, a⟩ := args_then (g := fun rs st1 => if rs.length ≤ top then .ok (.v (.tup (settles rs st1).1)) (settles rs st1).2 else .bad) (fun ρ st => by rw [ev]) q
    refine ⟨μ, st, ρ, r, er, ?_⟩
    cases he : evs cs es ρ st with
    | bad => rw [he] at a; exact a
    | exc c p st' => rw [he] at a; exact a
    | ok rs st1 =>
      rw [he] at a
      intro μ1 H1 vs ps P1 hv
      obtain ⟨μ₀, st₀, H₀, μ, st, rs, ps, r0, P, hv, a⟩ := a μ1 H1 vs ps P1 hv
      split at a
      · rename_i hz
        obtain ⟨μ', P', k', z⟩ := settles_ok P hv
        exact ⟨by rw [← hv.len]; exact hz, fun p hp => finT a P' z hp⟩
      · exact a.elim
theorem n_lstM {es : E} {xs : List Expr} (h : PA X xs (tA X.K W (evs cs es))) : PE X (.List xs pos) (tE X.K W (ev cs (.lst es))) :=
  pe_imp (pe_lst h) fun σ H Q q => by
    obtain ⟨μ, st, ρ, r, er, a⟩ := args_then (g := fun rs st1 => if rs.length ≤ top then .ok (.l (settles rs st1).1) (settles rs st1).2 else .bad) (fun ρ st => by rw [ev]) q
    refine ⟨μ, st, ρ, r, er, ?_⟩
    cases he : evs cs es ρ st with
    | bad => rw [he] at a; exact a
    | exc c p st' => rw [he] at a; exact a
    | ok rs st1 =>
      rw [he] at a
      intro μ1 H1 vs ps P1 hv
      obtain ⟨μ₀, st₀, H₀, μ, st, rs, ps, r0, P, hv, a⟩ := a μ1 H1 vs ps P1 hv
      split at a
      · rename_i hz
        obtain ⟨μ', P', k', z⟩ := settles_ok P hv
        exact ⟨by rw [← hv.len]; exact hz, fun p hp => finL a P' z hp⟩
      · exact a.elim

/-! ### operations -/
variable {a b c : E} {xa xb xc : Expr}
section
variable {K : PySem.W.Frag} {σ : L2.St} {H : Hp} {Q : VK}
theorem op1_then {o : O1} (h : tE K W (ev cs (.op1 o a)) σ H Q) : tE K W (ev cs a) σ H fun x H1 => ∃ (W : XW) (μ₀ : Mu) (st₀ : Store) (H₀ : Hp) (μ : Mu) (st : Store) (r : RV), Post K μ₀ st₀ H₀ μ st H1 ∧ VRR K H₀ H1 μ st.length x r ∧ After K W μ₀ st₀ H₀ (f1 o r st) Q := by
  have m := mid_start (g := fun _ ρ st => (ev cs a ρ st).bind fun r st1 => f1 o r st1) h fun ρ st => by rw [ev]
  refine tE_imp (mid_next (f := ev cs a) (g' := fun rs ρ st => match rs with | [r] => f1 o r st | _ => .bad) m fun rs ρ st hl => .inl ?_) fun v H1 m => ?_
  · cases rs with
    | nil => rfl
    | cons _ _ => cases hl
  · obtain ⟨μ₀, st₀, H₀, ρ, μ, st, r, _, _, P, hv, q⟩ := mid1 m
    exact ⟨W, μ₀, st₀, H₀, μ, st, r, P, hv, q⟩
theorem op2_then {o : O2} (h : tE K W (ev cs (.op2 o a b)) σ H Q) : tE K W (ev cs a) σ H fun x H1 => (∃ (H₀ : Hp) (μ : Mu) (st : Store) (r : RV), Rel K H1 μ st ∧ VRR K H₀ H1 μ st.length x r ∧ pre2 o r st = true) ∧
    tE K W (ev cs b) σ H1 fun y H2 => ∃ (W : XW) (μ₀ : Mu) (st₀ : Store) (H₀ : Hp) (μ : Mu) (st : Store) (r q : RV), Post K μ₀ st₀ H₀ μ st H2 ∧ VRR K H₀ H2 μ st.length x r ∧ VRR K H₀ H2 μ st.length y q ∧ After K W μ₀ st₀ H₀ (f2 o r q st) Q := by
  have m := mid_start (g := fun _ ρ st => (ev cs a ρ st).bind fun r st1 => if pre2 o r st1 then (ev cs b ρ st1).bind fun q st2 => f2 o r q st2 else .bad) h fun ρ st => by rw [ev]
  refine tE_imp (mid_next (f := ev cs a) (g' := fun rs ρ st1 => match rs with | [r] => if pre2 o r st1 then (ev cs b ρ st1).bind fun q st2 => f2 o r q st2 else .bad | _ => .bad) m fun rs ρ st hl => .inl ?_) fun v H1 m => ⟨?_, ?_⟩
  · cases rs with
    | nil => rfl
    | cons _ _ => cases hl
  · obtain ⟨μ₀, st₀, H₀, ρ, μ, st, r, r0, er, P, hv, q⟩ := mid1 m
    by_cases hp : pre2 o r st = true
    · exact ⟨H₀, μ, st, r, P.rel, hv, hp⟩
    · simp [hp] at q
      exact q.elim
  · refine tE_imp (mid_next (f := ev cs b) (g' := fun rs ρ st => match rs with | [r, q] => f2 o r q st | _ => .bad) m fun rs ρ st hl => ?_) fun y H2 m => ?_
    · rcases rs with _ | ⟨r, _ | ⟨_, _⟩⟩
      · cases hl
      · by_cases hp : pre2 o r st = true
        · exact .inl (by simp [hp])
        · exact .inr (by simp [hp])
      · cases hl
    · obtain ⟨μ₀, st₀, H₀, ρ, μ, st, r, q, P, hv, hu, q⟩ := mid2 m
      exact ⟨W, μ₀, st₀, H₀, μ, st, _, _, P, hv, hu, q⟩
theorem op3_then {o : O3} (h : tE K W (ev cs (.op3 o a b c)) σ H Q) : tE K W (ev cs a) σ H fun x H1 => (∃ (H₀ : Hp) (μ : Mu) (st : Store) (r : RV), Rel K H1 μ st ∧ VRR K H₀ H1 μ st.length x r ∧ pre3 o r st = true) ∧
    tE K W (ev cs b) σ H1 fun y H2 => tE K W (ev cs c) σ H2 fun z H3 => ∃ (W : XW) (μ₀ : Mu) (st₀ : Store) (H₀ : Hp) (μ : Mu) (st : Store) (r q u : RV) (ps : List Addr), Post K μ₀ st₀ H₀ μ st H3 ∧ VRRs K H₀ H3 μ st.length [x, y, z] [r, q, u] ps ∧ After K W μ₀ st₀ H₀ (f3 o r q u st) Q := by
  have m := mid_start (g := fun _ ρ st => (ev cs a ρ st).bind fun r st1 => if pre3 o r st1 then (ev cs b ρ st1).bind fun q st2 => (ev cs c ρ st2).bind fun u st3 => f3 o r q u st3 else .bad) h fun ρ st => by rw [ev]
  refine tE_imp (mid_next (f := ev cs a) (g' := fun rs ρ st1 => match rs with | [r] => if pre3 o r st1 then (ev cs b ρ st1).bind fun q st2 => (ev cs c ρ st2).bind fun u st3 => f3 o r q u st3 else .bad | _ => .bad) m fun rs ρ st hl => .inl ?_) fun v H1 m => ⟨?_, ?_⟩
  · cases rs with
    | nil => rfl
    | cons _ _ => cases hl
  · obtain ⟨μ₀, st₀, H₀, ρ, μ, st, r, r0, er, P, hv, q⟩ := mid1 m
    by_cases hp : pre3 o r st = true
    · exact ⟨H₀, μ, st, r, P.rel, hv, hp⟩
    · simp [hp] at q
      exact q.elim
  · refine tE_imp (mid_next (f := ev cs b) (g' := fun rs ρ st => match rs with | [r, q] => (ev cs c ρ st).bind fun u st3 => f3 o r q u st3 | _ => .bad) m fun rs ρ st hl => ?_) fun y H2 m => ?_
    · rcases rs with _ | ⟨r, _ | ⟨_, _⟩⟩
      · cases hl
      · by_cases hp : pre3 o r st = true
        · exact .inl (by simp [hp])
        · exact .inr (by simp [hp])
      · cases hl
    · refine tE_imp (mid_next (f := ev cs c) (g' := fun rs ρ st => match rs with | [r, q, u] => f3 o r q u st | _ => .bad) m fun rs ρ st hl => .inl ?_) fun z H3 m => ?_
      · rcases rs with _ | ⟨r, _ | ⟨_, _ | ⟨_, _⟩⟩⟩ <;> first | rfl | cases hl
      · obtain ⟨μ₀, st₀, H₀, ρ, μ, st, rs, ps, r, er, P, hv, q⟩ := m
        have hl := hv.len
        rcases rs with _ | ⟨r1, _ | ⟨r2, _ | ⟨r3, _ | ⟨_, _⟩⟩⟩⟩ <;> first | cases hl | skip
        exact ⟨W, μ₀, st₀, H₀, μ, st, r1, r2, r3, ps, P, hv, q⟩
end
end
end Mi
end
section
set_option linter.all false
set_option autoImplicit false
set_option maxRecDepth 10000
/-! MiView: which expressions are which of Mini's operations. -/
namespace Mi
open PySem PySem.Spec L2
open PyProof.Rows hiding RelV

def b2 : Operator → Option O2
  | .Add => some .add
  | .Sub => some .sub
  | .Mult => some .mul
  | .Mod => some .mod
  | .FloorDiv => some .fdiv
  | .Pow => some .pow
  | _ => none
def c2 : CmpOp → Option O2
  | .Eq => some .eq
  | .NotEq => some .ne
  | .Lt => some .lt
  | .LtE => some .le
  | .Gt => some .gt
  | .GtE => some .ge
  | .In => some .isin
  | .NotIn => some .notin
  | _ => none
def mname : O2 → Option Str
  | .append => some "append"
  | .extend => some "extend"
  | .popAt => some "pop"
  | .index => some "index"
  | .count => some "count"
  | _ => none
section
variable {X : Cx} {W : XW} {cs : List Fn} {a b c : E} {xa xb xc x : Expr}
theorem b2_ok (hu : X.A.units + 64 < cLine) {op : Operator} {o : O2} (h : b2 op = some o) : OpR X (binaryOp op) (r2 X o) := by
  cases op <;> first | (cases h; done) | skip
  all_goals cases h
  · exact o_add
  · exact o_subM
  · exact o_mul
  · exact o_modM
  · exact o_powM
  · exact o_fdivM
theorem c2_ok (hu : X.A.units + 64 < cLine) {op : CmpOp} {o : O2} (h : c2 op = some o) : OpR X (compareOp op) (r2 X o) := by
  cases op <;> first | (cases h; done) | skip
  all_goals cases h
  · exact o_eqM hu
  · exact o_neM hu
  · exact o_ltM
  · exact o_leM
  · exact o_gtM
  · exact o_geM
  · exact o_in hu
  · exact o_notin hu
theorem b2_plain {op : Operator} {o : O2} (h : b2 op = some o) : ∀ r st, pre2 o r st = true := by
  cases op <;> cases h <;> exact fun _ _ => rfl
theorem c2_bool {op : CmpOp} {o : O2} (h : c2 op = some o) {r q u : RV} {st st' : Store} (e : f2 o r q st = .ok u st') : ∃ b, u = .v (.bl b) := by
  have ovb : ∀ {x : Option Bool} {f : Bool → Bool}, ov (x.map fun b => .bl (f b)) st = .ok u st' → ∃ b, u = .v (.bl b) := fun {x f} e => by
    cases x <;> simp [ov, lift] at e
    exact ⟨_, e.1.symm⟩
  have cmb : ∀ {p : Int → Int → Bool}, cmpI p r q st = .ok u st' → ∃ b, u = .v (.bl b) := fun {p} e => by
    unfold cmpI at e
    split at e
    · cases e; exact ⟨_, rfl⟩
    · cases e
  cases op <;> cases h <;> simp only [f2] at e
  · exact ovb (f := fun b => b) e
  · exact ovb e
  · exact cmb e
  · exact cmb e
  · exact cmb e
  · exact cmb e
  · split at e
    · split at e
      · exact ovb (f := fun b => b) e
      · cases e
    · cases e
  · split at e
    · split at e
      · exact ovb e
      · cases e
    · cases e
theorem pre_list {o : O2} (h : mname o ≠ none) : ∀ r st, pre2 o r st = true → ∃ ds, seqR st r = some (true, ds) := fun r st hp => by
  have key : (match seqR st r with | some (true, _) => true | _ => false) = true → ∃ ds, seqR st r = some (true, ds) := fun e => by
    split at e
    · rename_i ds e2; exact ⟨ds, e2⟩
    · cases e
  cases o <;> first | exact absurd rfl h | exact key hp
/-- the two operands -/
def v2 (o : O2) (x : Expr) : Option (Expr × Expr) := match x with
  | .BinOp a op b _ => if b2 op = some o then some (a, b) else none
  | .Compare a [op] [b] _ => if c2 op = some o ∧ noSet b = true then some (a, b) else none
  | .Subscript a b _ => if o = .ix ∧ noSlice b = true then some (a, b) else none
  | .Call (.Attribute r m apos) [e] [] cpos => if mname o = some m ∧ baseOk r = true ∧ noS e = true ∧ (apos.endLine == cpos.line) = true then some (r, e) else none
  | _ => none
theorem few1 {e : Expr} {env : PySem.Env} {cpos : Pos} (h : noS e = true) : ((backTo cpos (starEach [e] env)).all (fun x => !x.1) && (backToKw cpos (keywordEach [] env)).all (fun x => x.1.isSome)
      && decide (([e] : List Expr).length + ([] : List Keyword).length + (if ([] : List Keyword).isEmpty then 0 else 1) < 30)) = true := by
  rw [starAll (by simp [h])]; rfl
theorem v2_ok {o : O2} (hu : X.A.units + 64 < cLine) (h : v2 o x = some (xa, xb)) (ha : PE X xa (tE X.K W (ev cs a))) (hb : PE X xb (tE X.K W (ev cs b))) : PQ X W x (ev cs (.op2 o a b)) := by
  unfold v2 at h
  split at h
  · split at h
    · rename_i e; cases h
      exact pq_plain (pe_imp (pe_op (b2_ok hu e) ha hb) fun σ H Q q => tE_imp (op2_then q) fun v H1 z => z.2) rfl
    · cases h
  · split at h
    · rename_i e; cases h
      refine ⟨pe_imp (pe_cmpR (c2_ok hu e.1) ha hb (marks_ok e.2)) fun σ H Q q => tE_imp (op2_then q) fun v H1 z => z.2, pt_imp (pt_cmpR (c2_ok hu e.1) ha hb (marks_ok e.2)) fun σ H Q q => ?_⟩
      refine tE_imp (op2_then (tT_bool (fun ρ st r st' e2 => ?_) q)) fun v H1 z => z.2
      rw [ev] at e2
      cases ha' : ev cs a ρ st with
      | bad => rw [ha'] at e2; cases e2
      | exc _ _ _ => rw [ha'] at e2; cases e2
      | ok r1 st1 =>
        rw [ha'] at e2
        simp only [Res.bind] at e2
        split at e2
        · cases hb' : ev cs b ρ st1 with
          | bad => rw [hb'] at e2; cases e2
          | exc _ _ _ => rw [hb'] at e2; cases e2
          | ok r2 st2 => rw [hb'] at e2; exact c2_bool e.1 e2
        · cases e2
    · cases h
  · split at h
    · rename_i e; cases h
      obtain ⟨rfl, e⟩ := e
      exact pq_plain (pe_imp (pe_ix (o_ix (by omega)) ha hb (plainIx_ok e)) fun σ H Q q => tE_imp (op2_then q) fun v H1 z => z.2) rfl
    · cases h
  · split at h
    · rename_i e; cases h
      obtain ⟨e1, e2, e3, e4⟩ := e
      refine pq_plain ?_ rfl
      have go : ∀ {id : String} {m : Str}, Slot "list" m id → typeOf (.builtin id) = pure (.type "method_descriptor") → MtR X id (m2 X o) → ∀ {apos cpos : Pos}, (apos.endLine == cpos.line) = true → PE X (.Call (.Attribute xa m apos) [xb] [] cpos) (tE X.K W (ev cs (.op2 o a b))) := fun {id m} sl ty mt {apos cpos} e4 =>
        pe_imp (pe_bm PySem.F.plainAttrs_list sl ty mt ha (pa_cons hb pa_nil (star1 e3)) (base_ok e2) (few1 e3) e4 (star1 e3) rfl) fun σ H Q q => by
          refine tE_imp (op2_then q) fun v H1 z => ?_
          obtain ⟨⟨H₀, μ, st, r, R, hv, hp⟩, z⟩ := z
          obtain ⟨ds, e⟩ := pre_list (by rw [e1]; exact fun z => nomatch z) r st hp
          obtain ⟨p, vs, e5, e6, _⟩ := seqR_list R hv e
          refine ⟨by rw [e5]; exact .inl ⟨rfl, vs, e6⟩, tE_imp z fun y H2 q => ⟨y, rfl, q⟩⟩
      cases o <;> cases e1
      · exact go PySem.F.slot_list_append PySem.F.type_list_append m_append e4
      · exact go PySem.F.slot_list_extend PySem.F.type_list_extend m_extend e4
      · exact go PySem.F.slot_list_pop PySem.F.type_list_pop m_popAt e4
      · exact go PySem.F.slot_list_index PySem.F.type_list_index (m_index hu) e4
      · exact go PySem.F.slot_list_count PySem.F.type_list_count (m_count hu) e4
    · cases h
  · cases h
end
end Mi
end
section
set_option linter.all false
set_option autoImplicit false
set_option maxRecDepth 10000
/-! MiGood: what is known around a def's text. -/
namespace Mi
open PySem PySem.Spec L2
open PyProof.Rows hiding RelV

/-- a callee: its name, its parameters, how it is called with keywords: the positional ones, the names, the order -/
structure Fd where
  name : Str
  ps : List Str
  kws : List (Nat × List Str × List Nat)
structure Ctx where
  N : List Str
  sc : Scope
  cl : Option Scope
  bn : List Str
  gs : List (List Nat × Val)
  fs : List Fd
  k : Nat
def Ctx.fnb (c : Ctx) (x : Str) : Bool := match c.cl with
  | none => true
  | some sc => sc.names.lookup x == some .cell
def Ctx.blk (c : Ctx) (scope : Scope) : Ctx := { c with sc := relS scope c.sc, cl := some scope }
/-- arguments put in order -/
def perm {α : Type} (kw : List Nat) (xs : List α) : List α := kw.filterMap fun i => xs[i]?
structure CalP (P : Program) (w : World) (K : PySem.W.Frag) (mg : Str → Option Value) (base : Heap) (k : Nat) (fd : Fd) (F : Fn) (f : Addr) (d : FuncData) : Prop where
  fn : FnM P w K mg base k f d fd.ps F
  mg : mg fd.name = some (.ref f)
  kp : PySem.W.keepIn K (.ref f) = true
  bi : Binds K d fd.ps []
  kw : ∀ p ∈ fd.kws, ∀ us ws : List Value, us.length = p.1 → ws.length = p.2.1.length → bindArgs d ⟨us, p.2.1.zip ws⟩ = pure (fd.ps.zip (perm p.2.2 (us ++ ws)))
abbrev Cal (X : Cx) (k : Nat) (fd : Fd) (F : Fn) (f : Addr) (d : FuncData) : Prop := CalP X.prog X.w X.K X.mg X.base k fd F f d
structure Good (X : Cx) (W : XW) (c : Ctx) (cs : List Fn) : Prop where
  N : X.N = c.N
  nd : c.N.Nodup
  sc : X.env.scope = c.sc
  calm : X.calm = true
  gu : X.A.guards = some []
  room : Room c.k X.A
  fn : ∀ x, c.fnb x = true → X.fn x = true
  bn : ∀ x ∈ c.bn, X.mg x = none
  gs : ∀ p ∈ c.gs, ∃ v u, X.mg (toStr p.1) = some u ∧ RelV v u ∧ ∀ H μ N, VR X.K H μ N v p.2
  xt : XTk X W
  fs : ∀ (j : Nat) (fd : Fd), c.fs[j]? = some fd → ∃ F f d, cs[j]? = some F ∧ Cal X c.k fd F f d
section
variable {X : Cx} {W : XW} {c : Ctx} {cs : List Fn}
theorem Good.units (g : Good X W c cs) : X.A.units + 64 < cLine := g.room.units
theorem Good.blk (g : Good X W c cs) {s : Shared} {H : Hp} {scope : Scope} {cl : List (Str × Addr)} {C : Addr} {fp : List Addr} : Good (X.blk s H scope (compEnvC scope cl C X.env) fp) W0 (c.blk scope) cs where
  N := g.N
  nd := g.nd
  sc := by
    show relS scope X.env.scope = relS scope c.sc
    rw [g.sc]
  calm := g.calm
  gu := g.gu
  room := g.room
  fn := fun x h => h
  bn := g.bn
  gs := g.gs
  xt := .none
  fs := fun j fd e => let ⟨F, f, d, z, k⟩ := g.fs j fd e; ⟨F, f, d, z, ⟨k.fn, k.mg, k.kp, k.bi, k.kw⟩⟩
def glB (c : Ctx) (x : Str) : Bool := (c.sc.names.lookup x == some .globalImplicit) && okName x
def btB (c : Ctx) (x : Str) : Bool := glB c x && c.bn.contains x
theorem glB_ok (g : Good X W c cs) {x : Str} (h : glB c x = true) : Gl X x ∧ (x == ("__debug__" : Str)) = false ∧ x ≠ "__name__" := by
  simp only [glB, Bool.and_eq_true] at h
  refine ⟨?_, (okName_ok h.2).1, (okName_ok h.2).2.2⟩
  show X.env.scope.names.lookup x = _
  rw [g.sc]; exact eq_of_beq h.1
theorem btB_ok (g : Good X W c cs) {x : Str} (h : btB c x = true) : Gl X x ∧ X.mg x = none ∧ (x == ("__debug__" : Str)) = false ∧ x ≠ "__name__" := by
  simp only [btB, Bool.and_eq_true, List.contains_iff_mem] at h
  obtain ⟨h1, h2⟩ := h
  obtain ⟨a, b, d⟩ := glB_ok g h1
  exact ⟨a, g.bn x h2, b, d⟩
end
end Mi
end
section
set_option linter.all false
set_option autoImplicit false
set_option maxRecDepth 10000
/-! MiView1: operations of one value, slices. -/
namespace Mi
open PySem PySem.Spec L2
open PyProof.Rows hiding RelV

/-- built-ins of one value -/
def bname : O1 → Option Str
  | .abs => some "abs"
  | .len => some "len"
  | .int => some "int"
  | .str => some "str"
  | .repr => some "repr"
  | .tuple => some "tuple"
  | .list => some "list"
  | .sorted => some "sorted"
  | .sum => some "sum"
  | .lmax => some "max"
  | .lmin => some "min"
  | _ => none
def iname : O1 → Option Str
  | .isStr => some "str"
  | .isInt => some "int"
  | .isTup => some "tuple"
  | .isBool => some "bool"
  | _ => none
def v1 (c : Ctx) (o : O1) (x : Expr) : Option Expr := match x with
  | .UnaryOp .USub e _ => if o = .neg then some e else none
  | .Compare e [.Is] [.Constant .none _ _] _ => if o = .isNon then some e else none
  | .Compare e [.IsNot] [.Constant .none _ _] _ => if o = .notNon then some e else none
  | .Compare e [.Is] [.Constant (.bool true) _ _] _ => if o = .isTrue then some e else none
  | .Compare e [.IsNot] [.Constant (.bool true) _ _] _ => if o = .notTrue then some e else none
  | .Call (.Name f _) [e] [] _ => if bname o = some f ∧ btB c f = true ∧ noS e = true then some e else none
  | .Call (.Name f _) [e, .Name t _] [] _ => if iname o = some t ∧ f = "isinstance" ∧ btB c f = true ∧ btB c t = true ∧ noS e = true then some e else none
  | .Call (.Attribute r m apos) [] [] cpos => if o = .pop ∧ m = "pop" ∧ baseOk r = true ∧ (apos.endLine == cpos.line) = true then some r else none
  | .Subscript e (.Slice none none (some (.UnaryOp .USub (.Constant (.int 1) _ _) _)) _) _ => if o = .rev then some e else none
  | _ => none
theorem boot_sum : bootBuiltins "sum" = some (.builtin "sum") := by decide +kernel
theorem boot_len : bootBuiltins "len" = some (.builtin "len") := by decide +kernel
theorem boot_max : bootBuiltins "max" = some (.builtin "max") := by decide +kernel
theorem boot_min : bootBuiltins "min" = some (.builtin "min") := by decide +kernel
/-- list(range(..)), tuple(range(..)) -/
theorem rng_ints (i : Int) (n : Nat) : rng i n = ((List.range n).map fun (k : Nat) => i + (k : Int)).map Val.int := by simp [rng]
theorem rgV_ints (i j : Int) : rgV i j = ((List.range (j - i).toNat).map fun (k : Nat) => i + (k : Int)).map V.int := by simp [rgV]
theorem rgOk_of {i j : Int} (h : rngOk i j = true) : RgOk i j := by
  unfold rngOk at h
  have h' := of_decide_eq_true h
  exact h'
section
variable {X : Cx}
theorem r_rngL {i j : Int} {W : XW} {μ₀ : Mu} {st₀ : Store} {H₀ : Hp} {μ : Mu} {st : Store} {H : Hp} {Q : VK} (P : Post X.K μ₀ st₀ H₀ μ st H) (a : After X.K W μ₀ st₀ H₀ (if rngOk i j then .ok (.l (rng i (j - i).toNat)) st else .bad) Q) :
    RgOk i j ∧ ∀ q, H q = none → Q (.ref q) (upd H q (.lst (rgV i j))) := by
  split at a
  · rename_i h
    refine ⟨rgOk_of h, fun q hq => ?_⟩
    rw [rng_ints] at a
    rw [rgV_ints]
    exact finL a P (ints_vrs _) hq
  · exact a.elim
theorem r_rngT {i j : Int} {W : XW} {μ₀ : Mu} {st₀ : Store} {H₀ : Hp} {μ : Mu} {st : Store} {H : Hp} {Q : VK} (P : Post X.K μ₀ st₀ H₀ μ st H) (a : After X.K W μ₀ st₀ H₀ (if rngOk i j then .ok (.v (.tup (rng i (j - i).toNat))) st else .bad) Q) :
    RgOk i j ∧ ∀ q, H q = none → Q (.ref q) (upd H q (.tup (rgV i j))) := by
  split at a
  · rename_i h
    refine ⟨rgOk_of h, fun q hq => ?_⟩
    rw [rng_ints] at a
    rw [rgV_ints]
    exact finT a P (ints_vrs _) hq
  · exact a.elim
end
def v1r (c : Ctx) (o : O1) (x : Expr) : Option Expr := match x with
  | .Call (.Name f _) [.Call (.Name g _) [e] [] _] [] _ => if ((o = .rngL ∧ f = "list") ∨ (o = .rngT ∧ f = "tuple")) ∧ g = "range" ∧ btB c f = true ∧ btB c g = true ∧ noS e = true then some e else none
  | _ => none
def v2r (c : Ctx) (o : O2) (x : Expr) : Option (Expr × Expr) := match x with
  | .Call (.Name f _) [.Call (.Name g _) [a, b] [] _] [] _ => if ((o = .rngL2 ∧ f = "list") ∨ (o = .rngT2 ∧ f = "tuple")) ∧ g = "range" ∧ btB c f = true ∧ btB c g = true ∧ noS a = true ∧ noS b = true then some (a, b) else none
  | _ => none
section
variable {X : Cx} {W : XW} {c : Ctx} {cs : List Fn} {a b : E} {xa xb x : Expr}
theorem v1r_ok {o : O1} (g : Good X W c cs) (h : v1r c o x = some xa) (ha : PE X xa (tE X.K W (ev cs a))) : PQ X W x (ev cs (.op1 o a)) := by
  unfold v1r at h
  split at h
  · split at h
    · rename_i e; cases h
      obtain ⟨e0, rfl, e2, e3, e4⟩ := e
      obtain ⟨b1, b2, b3, b4⟩ := btB_ok g e2
      obtain ⟨c1, c2, c3, c4⟩ := btB_ok g e3
      rcases e0 with ⟨rfl, rfl⟩ | ⟨rfl, rfl⟩
      · refine pq_plain (pe_imp (pe_listRg g.calm b1 b2 (prg_1 c1 c2 ha (star1 e4)) (star1 rfl)) fun σ H Q q => tE_imp (op1_then q) fun v H1 z => ?_) rfl
        obtain ⟨W, μ₀, st₀, H₀, μ, st, r, P, hv, a⟩ := z
        simp only [f1] at a
        split at a
        · obtain rfl := (nr_v hv).i_int
          exact ⟨_, rfl, r_rngL P a⟩
        · exact a.elim
      · refine pq_plain (pe_imp (pe_tupRg g.calm b1 b2 (prg_1 c1 c2 ha (star1 e4)) (star1 rfl)) fun σ H Q q => tE_imp (op1_then q) fun v H1 z => ?_) rfl
        obtain ⟨W, μ₀, st₀, H₀, μ, st, r, P, hv, a⟩ := z
        simp only [f1] at a
        split at a
        · obtain rfl := (nr_v hv).i_int
          exact ⟨_, rfl, r_rngT P a⟩
        · exact a.elim
    · cases h
  · cases h
theorem v2r_ok {o : O2} (g : Good X W c cs) (h : v2r c o x = some (xa, xb)) (ha : PE X xa (tE X.K W (ev cs a))) (hb : PE X xb (tE X.K W (ev cs b))) : PQ X W x (ev cs (.op2 o a b)) := by
  unfold v2r at h
  split at h
  · split at h
    · rename_i e; cases h
      obtain ⟨e0, rfl, e2, e3, e4, e5⟩ := e
      obtain ⟨b1, b2, b3, b4⟩ := btB_ok g e2
      obtain ⟨c1, c2, c3, c4⟩ := btB_ok g e3
      rcases e0 with ⟨rfl, rfl⟩ | ⟨rfl, rfl⟩
      · refine pq_plain (pe_imp (pe_listRg g.calm b1 b2 (prg_2 c1 c2 ha hb (star1 e4) (star1 e5) (starA (by simp [e5]))) (star1 rfl)) fun σ H Q q => tE_imp (op2_then q) fun v H1 z => tE_imp z.2 fun u H2 z => ?_) rfl
        obtain ⟨W, μ₀, st₀, H₀, μ, st, r, q, P, hv, hw, a⟩ := z
        simp only [f2] at a
        split at a
        · obtain rfl := (nr_v hv).i_int
          obtain rfl := (nr_v hw).i_int
          exact ⟨_, _, rfl, rfl, r_rngL P a⟩
        · exact a.elim
      · refine pq_plain (pe_imp (pe_tupRg g.calm b1 b2 (prg_2 c1 c2 ha hb (star1 e4) (star1 e5) (starA (by simp [e5]))) (star1 rfl)) fun σ H Q q => tE_imp (op2_then q) fun v H1 z => tE_imp z.2 fun u H2 z => ?_) rfl
        obtain ⟨W, μ₀, st₀, H₀, μ, st, r, q, P, hv, hw, a⟩ := z
        simp only [f2] at a
        split at a
        · obtain rfl := (nr_v hv).i_int
          obtain rfl := (nr_v hw).i_int
          exact ⟨_, _, rfl, rfl, r_rngT P a⟩
        · exact a.elim
    · cases h
  · cases h
end
/-- max, min of two -/
def mname2 : O2 → Option Str
  | .max2 => some "max"
  | .min2 => some "min"
  | _ => none
def v2b (c : Ctx) (o : O2) (x : Expr) : Option (Expr × Expr) := match x with
  | .Call (.Name f _) [a, b] [] _ => if mname2 o = some f ∧ btB c f = true ∧ noS a = true ∧ noS b = true then some (a, b) else none
  | _ => none
section
variable {X : Cx} {W : XW} {c : Ctx} {cs : List Fn} {a b : E} {xa xb x : Expr}
theorem v2b_ok {o : O2} (g : Good X W c cs) (h : v2b c o x = some (xa, xb)) (ha : PE X xa (tE X.K W (ev cs a))) (hb : PE X xb (tE X.K W (ev cs b))) : PQ X W x (ev cs (.op2 o a b)) := by
  unfold v2b at h
  split at h
  · split at h
    · rename_i e; cases h
      obtain ⟨e1, e2, e3, e4⟩ := e
      obtain ⟨b1, b2, b3, b4⟩ := btB_ok g e2
      cases o <;> cases e1
      · exact pq_plain (pe_imp (pe_callB (c_max2 g.calm) b1 b2 boot_max (pa_cons ha (pa_cons hb pa_nil (star1 e4)) (star1 e3)) b4 b3 (star1 e3) (starA (by simp [e4]))) fun σ H Q q => tE_imp (op2_then q) fun v H1 z => tE_imp z.2 fun u H2 z => ⟨v, u, rfl, z⟩) rfl
      · exact pq_plain (pe_imp (pe_callB (c_min2 g.calm) b1 b2 boot_min (pa_cons ha (pa_cons hb pa_nil (star1 e4)) (star1 e3)) b4 b3 (star1 e3) (starA (by simp [e4]))) fun σ H Q q => tE_imp (op2_then q) fun v H1 z => tE_imp z.2 fun u H2 z => ⟨v, u, rfl, z⟩) rfl
    · cases h
  · cases h
end
section
variable {X : Cx} {W : XW} {c : Ctx} {cs : List Fn} {a : E} {xa x : Expr}
theorem r1_then {o : O1} {σ : L2.St} {H : Hp} {Q : VK} (h : tE X.K W (ev cs (.op1 o a)) σ H Q) : tE X.K W (ev cs a) σ H fun x H1 => r1 X o x H1 Q := op1_then h
theorem v1_ok {o : O1} (g : Good X W c cs) (h : v1 c o x = some xa) (ha : PE X xa (tE X.K W (ev cs a))) : PQ X W x (ev cs (.op1 o a)) := by
  have hu := g.units
  have bt : ∀ {f : Str} {p pos : Pos} {id : String}, btB c f = true → noS xa = true → bootBuiltins f = some (.builtin id) → CallR X (.builtin id) (c1 X o) → PQ X W (.Call (.Name f p) [xa] [] pos) (ev cs (.op1 o a)) := fun {f p pos id} h1 h2 h3 h4 => by
    obtain ⟨b1, b2, b3, b4⟩ := btB_ok g h1
    exact pq_plain (pe_imp (pe_callB h4 b1 b2 h3 (pa_cons ha pa_nil (star1 h2)) b4 b3 (star1 h2) rfl) fun σ H Q q => tE_imp (r1_then q) fun v H1 z => ⟨v, rfl, z⟩) rfl
  have ty : ∀ {f : Str} {p pos : Pos} {id : String}, btB c f = true → noS xa = true → bootBuiltins f = some (.type id) → CallR X (.type id) (c1 X o) → PQ X W (.Call (.Name f p) [xa] [] pos) (ev cs (.op1 o a)) := fun {f p pos id} h1 h2 h3 h4 => by
    obtain ⟨b1, b2, b3, b4⟩ := btB_ok g h1
    exact pq_plain (pe_imp (pe_callTy h4 b1 b2 h3 (pa_cons ha pa_nil (star1 h2)) b4 b3 (star1 h2) rfl) fun σ H Q q => tE_imp (r1_then q) fun v H1 z => ⟨v, rfl, z⟩) rfl
  have isi : ∀ {p pos p2 : Pos} {T : String} {t : Str}, btB c "isinstance" = true → btB c t = true → noS xa = true → bootBuiltins t = some (.type T) → CallR X (.builtin "isinstance") (fun xs H Q => ∃ v, xs = [v, .ty T] ∧ r1 X o v H Q) → PQ X W (.Call (.Name "isinstance" p) [xa, .Name t p2] [] pos) (ev cs (.op1 o a)) := fun {p pos p2 T t} h1 ht h2 h3 h4 => by
    obtain ⟨b1, b2, b3, b4⟩ := btB_ok g h1
    obtain ⟨t1, t2, t3, t4⟩ := btB_ok g ht
    exact pq_plain (pe_imp (pe_callB h4 b1 b2 boot_isinstance (pa_cons ha (pa_cons (pe_bltn t1 t2 h3 (v := .ty T) rfl t4 t3) pa_nil rfl) (star1 h2)) b4 b3 (star1 h2) rfl) fun σ H Q q => tE_imp (r1_then q) fun v H1 z => ⟨v, rfl, z⟩) rfl
  unfold v1 at h
  split at h
  · split at h
    · rename_i e; cases h; subst e
      exact pq_plain (pe_imp (pe_un u_neg ha) fun σ H Q q => r1_then q) rfl
    · cases h
  · split at h
    · rename_i e; cases h; subst e
      refine ⟨pe_imp (pe_cmpR o_isNM ha pe_non rfl) fun σ H Q q => tE_imp (r1_then q) fun v H1 z => ⟨rfl, z⟩, pt_imp (pt_cmpR o_isNM ha pe_non rfl) fun σ H Q q => tE_imp (r1_then (tT_bool (fun ρ st r st' e2 => ?_) q)) fun v H1 z => ⟨rfl, z⟩⟩
      rw [ev] at e2
      cases ha' : ev cs a ρ st with
      | bad => rw [ha'] at e2; cases e2
      | exc _ _ _ => rw [ha'] at e2; cases e2
      | ok r1 st1 => rw [ha'] at e2; cases r1 <;> (cases e2; exact ⟨_, rfl⟩)
    · cases h
  · split at h
    · rename_i e; cases h; subst e
      refine ⟨pe_imp (pe_cmpR o_notN ha pe_non rfl) fun σ H Q q => tE_imp (r1_then q) fun v H1 z => ⟨rfl, z⟩, pt_imp (pt_cmpR o_notN ha pe_non rfl) fun σ H Q q => tE_imp (r1_then (tT_bool (fun ρ st r st' e2 => ?_) q)) fun v H1 z => ⟨rfl, z⟩⟩
      rw [ev] at e2
      cases ha' : ev cs a ρ st with
      | bad => rw [ha'] at e2; cases e2
      | exc _ _ _ => rw [ha'] at e2; cases e2
      | ok r1 st1 => rw [ha'] at e2; cases r1 <;> (cases e2; exact ⟨_, rfl⟩)
    · cases h
  · split at h
    · rename_i e; cases h; subst e
      refine ⟨pe_imp (pe_cmpR o_isTM ha pe_bl rfl) fun σ H Q q => tE_imp (r1_then q) fun v H1 z => ⟨rfl, z⟩, pt_imp (pt_cmpR o_isTM ha pe_bl rfl) fun σ H Q q => tE_imp (r1_then (tT_bool (fun ρ st r st' e2 => ?_) q)) fun v H1 z => ⟨rfl, z⟩⟩
      rw [ev] at e2
      cases ha' : ev cs a ρ st with
      | bad => rw [ha'] at e2; cases e2
      | exc _ _ _ => rw [ha'] at e2; cases e2
      | ok r1 st1 => rw [ha'] at e2; simp only [Res.bind, f1] at e2; split at e2 <;> first | (cases e2; exact ⟨_, rfl⟩) | cases e2
    · cases h
  · split at h
    · rename_i e; cases h; subst e
      refine ⟨pe_imp (pe_cmpR o_notTM ha pe_bl rfl) fun σ H Q q => tE_imp (r1_then q) fun v H1 z => ⟨rfl, z⟩, pt_imp (pt_cmpR o_notTM ha pe_bl rfl) fun σ H Q q => tE_imp (r1_then (tT_bool (fun ρ st r st' e2 => ?_) q)) fun v H1 z => ⟨rfl, z⟩⟩
      rw [ev] at e2
      cases ha' : ev cs a ρ st with
      | bad => rw [ha'] at e2; cases e2
      | exc _ _ _ => rw [ha'] at e2; cases e2
      | ok r1 st1 => rw [ha'] at e2; simp only [Res.bind, f1] at e2; split at e2 <;> first | (cases e2; exact ⟨_, rfl⟩) | cases e2
    · cases h
  · split at h
    · rename_i e; cases h
      obtain ⟨e1, e2, e3⟩ := e
      cases o <;> cases e1
      · exact bt e2 e3 boot_abs c_abs
      · exact bt e2 e3 boot_len c_len
      · exact ty e2 e3 boot_int c_int
      · exact ty e2 e3 boot_str c_str
      · exact bt e2 e3 boot_repr (c_repr g.gu hu)
      · exact ty e2 e3 boot_tuple c_tuple
      · exact ty e2 e3 boot_list c_list
      · exact bt e2 e3 boot_sorted (c_sorted hu)
      · exact bt e2 e3 boot_sum (c_sum g.calm)
      · exact bt e2 e3 boot_max (c_lmax g.calm)
      · exact bt e2 e3 boot_min (c_lmin g.calm)
    · cases h
  · split at h
    · rename_i e; cases h
      obtain ⟨e1, rfl, e3, e4, e5⟩ := e
      cases o <;> cases e1
      · exact isi e3 e4 e5 boot_str c_isStr
      · exact isi e3 e4 e5 boot_int c_isInt
      · exact isi e3 e4 e5 boot_tuple c_isTup
      · exact isi e3 e4 e5 boot_bool c_isBool
    · cases h
  · split at h
    · rename_i e; cases h
      obtain ⟨rfl, rfl, e3, e4⟩ := e
      refine pq_plain (pe_imp (pe_bm0 PySem.F.plainAttrs_list PySem.F.slot_list_pop PySem.F.type_list_pop m_pop ha (base_ok e3) e4) fun σ H Q q => tE_imp (r1_then q) fun v H1 z => ⟨?_, rfl, z⟩) rfl
      obtain ⟨W, μ₀, st₀, H₀, μ, st, r, P, hv, a⟩ := z
      simp only [f1] at a
      split at a
      · rename_i n ds e
        obtain ⟨vs, rfl, e1, rfl, e2, q1⟩ := mutAt_ok P.rel hv e
        exact .inl ⟨rfl, vs, .of e2⟩
      · exact a.elim
    · cases h
  · split at h
    · rename_i e; cases h; subst e
      refine pq_plain (pe_imp (pe_revL ha) fun σ H Q q => tE_imp (r1_then q) fun v H1 z => ?_) rfl
      obtain ⟨W, μ₀, st₀, H₀, μ, st, r, P, hv, a⟩ := z
      simp only [f1] at a
      split at a
      · rename_i ds e
        obtain ⟨p, vs, rfl, e1, e2⟩ := seqR_list P.rel hv e
        exact ⟨p, vs, rfl, e1, fun q hq => finL a P (VRs.reverse e2) hq⟩
      · exact a.elim
    · cases h
  · cases h
end
end Mi
end
section
set_option linter.all false
set_option autoImplicit false
set_option maxRecDepth 10000
/-! MiView2: insert, slices, tests, calls. -/
namespace Mi
open PySem PySem.Spec L2
open PyProof.Rows hiding RelV

theorem bind_assoc {α β γ : Type} (r : Res α) (f : α → Store → Res β) (g : β → Store → Res γ) : (r.bind f).bind g = r.bind fun a st => (f a st).bind g := by
  cases r <;> rfl
section
variable {K : PySem.W.Frag} {H H' H₀ : Hp} {μ μ' μ₀ : Mu} {N : Nat}
theorem VRRs.uncons {v : V} {r : RV} {vs : List V} {rs : List RV} {ps : List Addr} (h : VRRs K H₀ H μ N (v :: vs) (r :: rs) ps) : VRR K H₀ H μ N v r ∧ ∃ qs, VRRs K H₀ H μ N vs rs qs := by
  cases h with
  | v a b => exact ⟨a, _, b⟩
  | l a b c d e f => exact ⟨⟨_, _, rfl, a, b, c, d⟩, _, f⟩
end
section
variable {X : Cx} {W : XW} {c : Ctx} {cs : List Fn} {a b e : E} {xa xb xc x : Expr}
/-! ### insert -/
def v3 (o : O3) (x : Expr) : Option (Expr × Expr × Expr) := match x with
  | .Call (.Attribute r m apos) [e, f] [] cpos => if o = .insert ∧ m = "insert" ∧ baseOk r = true ∧ noS e = true ∧ noS f = true ∧ (apos.endLine == cpos.line) = true then some (r, e, f) else none
  | _ => none
theorem few2 {e f : Expr} {env : PySem.Env} {cpos : Pos} (h : noS e = true) (h2 : noS f = true) : ((backTo cpos (starEach [e, f] env)).all (fun x => !x.1) && (backToKw cpos (keywordEach [] env)).all (fun x => x.1.isSome)
      && decide (([e, f] : List Expr).length + ([] : List Keyword).length + (if ([] : List Keyword).isEmpty then 0 else 1) < 30)) = true := by
  rw [starAll (by simp [h, h2])]; rfl
theorem v3_ok {o : O3} (h : v3 o x = some (xa, xb, xc)) (ha : PE X xa (tE X.K W (ev cs a))) (hb : PE X xb (tE X.K W (ev cs b))) (hc : PE X xc (tE X.K W (ev cs e))) : PQ X W x (ev cs (.op3 o a b e)) := by
  unfold v3 at h
  split at h
  · split at h
    · rename_i z; cases h
      obtain ⟨rfl, rfl, e2, e3, e5, e4⟩ := z
      refine pq_plain (pe_imp (pe_bm PySem.F.plainAttrs_list PySem.F.slot_list_insert PySem.F.type_list_insert m_insert ha (pa_cons hb (pa_cons hc pa_nil (star1 e5)) (star1 e3)) (base_ok e2) (few2 e3 e5) e4 (star1 e3) (starA (by simp [e5]))) fun σ H Q q => ?_) rfl
      refine tE_imp (op3_then q) fun v H1 z => ?_
      obtain ⟨⟨H₀, μ, st, r, R, hv, hp⟩, z⟩ := z
      have : ∃ ds, seqR st r = some (true, ds) := by
        simp only [pre3] at hp
        split at hp
        · rename_i ds e; exact ⟨ds, e⟩
        · cases hp
      obtain ⟨ds, e6⟩ := this
      obtain ⟨p, vs, e7, e8, _⟩ := seqR_list R hv e6
      refine ⟨by rw [e7]; exact .inl ⟨rfl, vs, e8⟩, tE_imp z fun y H2 z => tE_imp z fun w H3 z => ?_⟩
      obtain ⟨W, μ₀, st₀, H₀, μ, st, r, q, u, ps, P, hv, a⟩ := z
      obtain ⟨h1, _, hv⟩ := hv.uncons
      obtain ⟨h2, _, hv⟩ := hv.uncons
      exact ⟨y, w, rfl, W, μ₀, st₀, H₀, μ, st, r, q, u, P, h1, h2, hv.uncons.1, a⟩
    · cases h
  · cases h

/-! ### slices -/
theorem n_opt0 : PO X none (tO X.K W fun ρ st => optI (isNil .nil) (ev cs .nil ρ) st) := po_imp po_none fun σ H Q ⟨μ, st, ρ, r, er, a⟩ => a μ H (.refl r)
theorem n_opt1 (hn : isNil a = false) (ha : PE X xa (tE X.K W (ev cs a))) : PO X (some xa) (tO X.K W fun ρ st => optI (isNil a) (ev cs a ρ) st) := po_imp (po_some ha) fun σ H Q ⟨μ, st, ρ, r, er, z⟩ => by
  refine ⟨μ, st, ρ, r, er, ?_⟩
  simp only [optI, hn, Bool.false_eq_true, if_false] at z
  cases hf : ev cs a ρ st with
  | bad => rw [hf] at z; exact z
  | exc c p st' => rw [hf] at z; exact z
  | ok r1 st1 =>
    rw [hf] at z
    intro μ1 H1 v P1 hv
    simp only [Res.bind] at z
    split at z
    · rename_i i
      exact ⟨i, (nr_v hv).i_int, z μ1 H1 P1⟩
    · exact z.elim
theorem mid_opt {K : PySem.W.Frag} {σ : L2.St} {H : Hp} {f : Comp (Option Int)} {g : List RV → Comp RV} {g' : Option Int → List RV → Comp RV} {vs : List V} {Q : VK} (h : Mid K W σ vs H g Q)
    (e : ∀ rs ρ st, rs.length = vs.length → g rs ρ st = ((f ρ st).bind fun l st1 => g' l rs ρ st1)) : tO K W f σ H fun l H1 => Mid K W σ vs H1 (g' l) Q := by
  obtain ⟨μ₀, st₀, H₀, ρ, μ, st, rs, ps, r, er, P, hv, a⟩ := h
  refine ⟨μ, st, ρ, P.rel, er.step P r, ?_⟩
  rw [e rs ρ st hv.len] at a
  cases hf : f ρ st with
  | bad => rw [hf] at a; exact a
  | exc c p st' => rw [hf] at a; exact fun μ' H' P' => a μ' H' (P.trans P')
  | ok x st1 =>
    rw [hf] at a
    intro μ1 H1 P1
    exact ⟨μ₀, st₀, H₀, ρ, μ1, st1, rs, ps, r, er, P.trans P1, hv.step P1 P.rel, a⟩
theorem tO_imp {K : PySem.W.Frag} {f : Comp (Option Int)} {σ : L2.St} {H : Hp} {Q Q' : Option Int → Hp → Prop} (h : tO K W f σ H Q) (i : ∀ v H, Q v H → Q' v H) : tO K W f σ H Q' := by
  obtain ⟨μ, st, ρ, r, er, a⟩ := h
  refine ⟨μ, st, ρ, r, er, ?_⟩
  cases hf : f ρ st with
  | bad => rw [hf] at a; exact a
  | exc c p st' => rw [hf] at a; exact a
  | ok r1 st1 => rw [hf] at a; exact fun μ' H' P => i _ _ (a μ' H' P)
theorem n_sl {lo hi : E} {xlo xhi : Option Expr} {p2 pos : Pos} (ha : PE X xa (tE X.K W (ev cs a))) (hl : PO X xlo (tO X.K W fun ρ st => optI (isNil lo) (ev cs lo ρ) st)) (hh : PO X xhi (tO X.K W fun ρ st => optI (isNil hi) (ev cs hi ρ) st)) :
    PQ X W (.Subscript xa (.Slice xlo xhi none p2) pos) (ev cs (.sl a lo hi)) := by
  refine pq_plain (pe_imp (pe_slice s_any ha hl hh) fun σ H Q q => ?_) rfl
  have m := mid_start (g := fun _ ρ st => (ev cs a ρ st).bind fun r st1 => (optI (isNil lo) (ev cs lo ρ) st1).bind fun l st2 => (optI (isNil hi) (ev cs hi ρ) st2).bind fun h st3 => fsl r l h st3) q fun ρ st => by rw [ev]
  refine tE_imp (mid_next (f := ev cs a) (g' := fun rs ρ st1 => match rs with | [r] => (optI (isNil lo) (ev cs lo ρ) st1).bind fun l st2 => (optI (isNil hi) (ev cs hi ρ) st2).bind fun h st3 => fsl r l h st3 | _ => .bad) m fun rs ρ st hl => .inl ?_) fun v H1 m => ?_
  · cases rs with
    | nil => rfl
    | cons _ _ => cases hl
  refine tO_imp (mid_opt (f := fun ρ st => optI (isNil lo) (ev cs lo ρ) st) (g' := fun l rs ρ st2 => match rs with | [r] => (optI (isNil hi) (ev cs hi ρ) st2).bind fun h st3 => fsl r l h st3 | _ => .bad) m fun rs ρ st hl => ?_) fun l H2 m => ?_
  · rcases rs with _ | ⟨r, _ | ⟨_, _⟩⟩ <;> first | rfl | cases hl
  refine tO_imp (mid_opt (f := fun ρ st => optI (isNil hi) (ev cs hi ρ) st) (g' := fun h rs ρ st2 => match rs with | [r] => fsl r l h st2 | _ => .bad) m fun rs ρ st hl => ?_) fun h H3 m => ?_
  · rcases rs with _ | ⟨r, _ | ⟨_, _⟩⟩ <;> first | rfl | cases hl
  obtain ⟨μ₀, st₀, H₀, ρ, μ, st, r, _, _, P, hv, z⟩ := mid1 m
  exact ⟨W, μ₀, st₀, H₀, μ, st, r, P, hv, z⟩

/-! ### tests -/
theorem tT_then {f g : Comp RV} {h : Bool → Comp RV} {K : PySem.W.Frag} {σ : L2.St} {H : Hp} {Q : VK} (hf : ∀ ρ st, f ρ st = ((g ρ st).bind fun r st1 => truthR r st1).bind fun k st2 => h k ρ st2) (q : tE K W f σ H Q) :
    tT K W g σ H fun k H1 => tE K W (h k) σ H1 Q := by
  obtain ⟨μ, st, ρ, r, er, a⟩ := q
  refine ⟨μ, st, ρ, r, er, ?_⟩
  rw [hf] at a
  cases hg : (g ρ st).bind fun r st1 => truthR r st1 with
  | bad => rw [hg] at a; exact a
  | exc c p st' => rw [hg] at a; exact a
  | ok k st1 => rw [hg] at a; exact fun μ1 H1 P1 => ⟨μ1, st1, ρ, P1.rel, er.step P1 r, a.step P1⟩
theorem tT_thenT {f g : Comp RV} {h : Bool → Comp RV} {K : PySem.W.Frag} {σ : L2.St} {H : Hp} {Q : Bool → Hp → Prop} (hf : ∀ ρ st, f ρ st = ((g ρ st).bind fun r st1 => truthR r st1).bind fun k st2 => h k ρ st2) (q : tT K W f σ H Q) :
    tT K W g σ H fun k H1 => tT K W (h k) σ H1 Q := by
  obtain ⟨μ, st, ρ, r, er, a⟩ := q
  refine ⟨μ, st, ρ, r, er, ?_⟩
  rw [hf, bind_assoc] at a
  cases hg : (g ρ st).bind fun r st1 => truthR r st1 with
  | bad => rw [hg] at a; exact a
  | exc c p st' => rw [hg] at a; exact a
  | ok k st1 => rw [hg] at a; exact fun μ1 H1 P1 => ⟨μ1, st1, ρ, P1.rel, er.step P1 r, a.step P1⟩
theorem ite_eq (ρ : Env) (st : Store) : ev cs (.ite e a b) ρ st = ((ev cs e ρ st).bind fun r st1 => truthR r st1).bind fun k st2 => if k then ev cs a ρ st2 else ev cs b ρ st2 := by rw [bind_assoc, ev]
theorem not_eq (ρ : Env) (st : Store) : ev cs (.not a) ρ st = ((ev cs a ρ st).bind fun r st1 => truthR r st1).bind fun k st2 => .ok (.v (.bl (!k))) st2 := by rw [bind_assoc, ev]
theorem n_ite {pos : Pos} (hc : PQ X W xc (ev cs e)) (ha : PQ X W xa (ev cs a)) (hb : PQ X W xb (ev cs b)) : PQ X W (.IfExp xc xa xb pos) (ev cs (.ite e a b)) := by
  refine ⟨pe_imp (pe_ifExp hc.t ha.e hb.e) fun σ H Q q => ?_, ⟨fun pins s σ H Q I q => ?_⟩⟩
  · have := tT_then (h := fun k ρ st2 => if k then ev cs a ρ st2 else ev cs b ρ st2) ite_eq q
    obtain ⟨μ, st, ρ, r, er, z⟩ := this
    refine ⟨μ, st, ρ, r, er, ?_⟩
    cases hg : (ev cs e ρ st).bind fun r st1 => truthR r st1 with
    | bad => rw [hg] at z; exact z
    | exc c p st' => rw [hg] at z; exact z
    | ok k st1 =>
      rw [hg] at z
      intro μ1 H1 P1
      have := z μ1 H1 P1
      cases k <;> exact this
  · have z := tT_thenT (h := fun k ρ st2 => if k then ev cs a ρ st2 else ev cs b ρ st2) ite_eq q
    show wpAny (model X.prog X.w) X.A (do if ← isTrue xc X.env (eval xc X.env) then isTrue xa X.env (eval xa X.env) else isTrue xb X.env (eval xb X.env)) (TP X pins σ Q) X.xe s
    refine wpAny_bind (thn (hc.t.run pins s σ H _ I z) fun k s1 ⟨H1, I1, q1⟩ => ?_)
    cases k with
    | true => exact ha.t.run pins s1 σ H1 Q I1 q1
    | false => exact hb.t.run pins s1 σ H1 Q I1 q1
theorem n_not {pos : Pos} (ha : PQ X W xa (ev cs a)) : PQ X W (.UnaryOp .Not xa pos) (ev cs (.not a)) := by
  have key : ∀ {σ : L2.St} {H : Hp} {R : Bool → Hp → Prop}, tT X.K W (fun ρ st => (((ev cs a ρ st).bind fun r st1 => truthR r st1).bind fun k st2 => .ok (.v (.bl (!k))) st2)) σ H R → tT X.K W (ev cs a) σ H fun k H1 => R (!k) H1 := fun {σ H R} q => by
    obtain ⟨μ, st, ρ, r, er, z⟩ := q
    refine ⟨μ, st, ρ, r, er, ?_⟩
    dsimp only at z
    cases hg : (ev cs a ρ st).bind fun r st1 => truthR r st1 with
    | bad => rw [hg] at z; exact z
    | exc c p st' => rw [hg] at z; exact z
    | ok k st1 => rw [hg] at z; exact fun μ1 H1 P1 => z μ1 H1 P1
  refine ⟨⟨fun pins s σ H Q I q => ?_⟩, pt_imp (pt_not ha.t) fun σ H Q q => key (by
    obtain ⟨μ, st, ρ, r, er, z⟩ := q
    rw [not_eq] at z
    exact ⟨μ, st, ρ, r, er, z⟩)⟩
  have q2 : tT X.K W (ev cs a) σ H fun k H1 => Q (.bl (!k)) H1 := by
    obtain ⟨μ, st, ρ, r, er, z⟩ := q
    refine ⟨μ, st, ρ, r, er, ?_⟩
    rw [not_eq] at z
    cases hg : (ev cs a ρ st).bind fun r st1 => truthR r st1 with
    | bad => rw [hg] at z; exact z
    | exc c p st' => rw [hg] at z; exact z
    | ok k st1 => rw [hg] at z; exact fun μ1 H1 P1 => z μ1 H1 _ P1 (.bl _)
  refine UnaryOp_ (thn (ha.e.run pins s σ H _ I (tT_truth q2)) fun v s1 ⟨x, H1, I1, r1, k, tv, q1⟩ => ?_)
  exact not_of (thn (tru_ok pins s1 σ H1 x v (fun k H2 => Q (.bl (!k)) H2) I1 r1 ⟨k, tv, q1⟩) fun k s2 ⟨H2, I2, q3⟩ => ⟨.bl (!k), H2, I2, rfl, q3⟩)
end
end Mi
end
section
set_option linter.all false
set_option autoImplicit false
set_option maxRecDepth 10000
/-! MiBool: and, or, chains. -/
namespace Mi
open PySem PySem.Spec L2
open PyProof.Rows hiding RelV

/-- and/or of one value is that value -/
def strip : Expr → Expr
  | .BoolOp _ [a] _ => a
  | x => x
def vAnd (x : Expr) : Option (Expr × Expr) := match x with
  | .BoolOp .And (a :: b :: r) p => some (a, strip (.BoolOp .And (b :: r) p))
  | _ => none
def vOr (x : Expr) : Option (Expr × Expr) := match x with
  | .BoolOp .Or (a :: b :: r) p => some (a, strip (.BoolOp .Or (b :: r) p))
  | _ => none
section
variable {X : Cx} {W : XW} {c : Ctx} {cs : List Fn} {a b e : E} {xa xb xc x : Expr}
theorem strip_e {op : BoolOp} {b : Expr} {r : List Expr} {p : Pos} {t : TE} (h : PE X (strip (.BoolOp op (b :: r) p)) t) : PE X (.BoolOp op (b :: r) p) t := by
  cases r with
  | nil => exact pe_one h
  | cons _ _ => exact h
theorem strip_and {b : Expr} {r : List Expr} {p : Pos} {t : TT} (h : PT X (strip (.BoolOp .And (b :: r) p)) t) : PW X (.BoolOp .And (b :: r) p) t := by
  cases r with
  | nil => exact pw_and1 h
  | cons _ _ => exact ⟨fun wh pins s σ H Q I q => h.run pins s σ H Q I q⟩
theorem strip_or {b : Expr} {r : List Expr} {p : Pos} {t : TT} (h : PT X (strip (.BoolOp .Or (b :: r) p)) t) : PW X (.BoolOp .Or (b :: r) p) t := by
  cases r with
  | nil => exact pw_or1 h
  | cons _ _ => exact ⟨fun wh pins s σ H Q I q => h.run pins s σ H Q I q⟩
theorem AfterT.bl {K : PySem.W.Frag} {μ : Mu} {st : Store} {H : Hp} {st1 : Store} {b : Bool} : truthR (.v (.bl b)) st1 = .ok b st1 := rfl
theorem n_and (h : vAnd x = some (xa, xb)) (ha : PQ X W xa (ev cs a)) (hb : PQ X W xb (ev cs b)) : PQ X W x (ev cs (.and a b)) := by
  unfold vAnd at h
  split at h
  · cases h
    refine ⟨pe_imp (pe_and ha.e (strip_e hb.e)) fun σ H Q q => ?_, pt_imp (PW.pt (pw_and ha.t (strip_and hb.t))) fun σ H Q q => ?_⟩
    · obtain ⟨μ, st, ρ, r, er, z⟩ := q
      refine ⟨μ, st, ρ, r, er, ?_⟩
      rw [ev] at z
      cases hf : ev cs a ρ st with
      | bad => rw [hf] at z; exact z
      | exc c p st' => rw [hf] at z; exact z
      | ok r1 st1 =>
        rw [hf] at z
        intro μ1 H1 v P1 hv
        simp only [Res.bind] at z
        split at z
        · exact ⟨true, (nr_v hv).i_bl, μ1, st1, ρ, P1.rel, er.step P1 r, z.step P1⟩
        · exact ⟨false, (nr_v hv).i_bl, z μ1 H1 _ P1 (.bl _)⟩
        · exact z.elim
    · obtain ⟨μ, st, ρ, r, er, z⟩ := q
      refine ⟨μ, st, ρ, r, er, ?_⟩
      rw [ev, bind_assoc] at z
      cases hf : ev cs a ρ st with
      | bad => rw [hf] at z; exact z
      | exc c p st' => rw [hf] at z; exact z
      | ok r1 st1 =>
        rw [hf] at z
        cases r1 with
        | l _ => exact z.elim
        | v d => cases d with
          | bl k => cases k with
            | true => exact fun μ1 H1 P1 => ⟨μ1, st1, ρ, P1.rel, er.step P1 r, AfterT.step P1 z⟩
            | false => exact fun μ1 H1 P1 => z μ1 H1 P1
          | _ => exact z.elim
  · cases h
theorem n_or (h : vOr x = some (xa, xb)) (ha : PQ X W xa (ev cs a)) (hb : PQ X W xb (ev cs b)) : PQ X W x (ev cs (.or a b)) := by
  unfold vOr at h
  split at h
  · cases h
    refine ⟨pe_imp (pe_or ha.e (strip_e hb.e)) fun σ H Q q => ?_, pt_imp (PW.pt (pw_or ha.t (strip_or hb.t))) fun σ H Q q => ?_⟩
    · obtain ⟨μ, st, ρ, r, er, z⟩ := q
      refine ⟨μ, st, ρ, r, er, ?_⟩
      rw [ev] at z
      cases hf : ev cs a ρ st with
      | bad => rw [hf] at z; exact z
      | exc c p st' => rw [hf] at z; exact z
      | ok r1 st1 =>
        rw [hf] at z
        intro μ1 H1 v P1 hv
        simp only [Res.bind] at z
        split at z
        · exact ⟨true, (nr_v hv).i_bl, z μ1 H1 _ P1 (.bl _)⟩
        · exact ⟨false, (nr_v hv).i_bl, μ1, st1, ρ, P1.rel, er.step P1 r, z.step P1⟩
        · exact z.elim
    · obtain ⟨μ, st, ρ, r, er, z⟩ := q
      refine ⟨μ, st, ρ, r, er, ?_⟩
      rw [ev, bind_assoc] at z
      cases hf : ev cs a ρ st with
      | bad => rw [hf] at z; exact z
      | exc c p st' => rw [hf] at z; exact z
      | ok r1 st1 =>
        rw [hf] at z
        cases r1 with
        | l _ => exact z.elim
        | v d => cases d with
          | bl k => cases k with
            | true => exact fun μ1 H1 P1 => z μ1 H1 P1
            | false => exact fun μ1 H1 P1 => ⟨μ1, st1, ρ, P1.rel, er.step P1 r, AfterT.step P1 z⟩
          | _ => exact z.elim
  · cases h
/-! ### a op b op c -/
def vChain (o p : O2) (x : Expr) : Option (Expr × Expr × Expr) := match x with
  | .Compare a [op, op'] [b, d] _ => if c2 op = some o ∧ c2 op' = some p ∧ noSet d = true then some (a, b, d) else none
  | _ => none
theorem n_chain {o p : O2} {d : E} {xd : Expr} (hu : X.A.units + 64 < cLine) (h : vChain o p x = some (xa, xb, xd)) (ha : PE X xa (tE X.K W (ev cs a))) (hb : PE X xb (tE X.K W (ev cs b))) (hd : PE X xd (tE X.K W (ev cs d))) : PQ X W x (ev cs (.chain o p a b d)) := by
  unfold vChain at h
  split at h
  · split at h
    · rename_i op op' pos z
      cases h
      obtain ⟨z1', z2, z3⟩ := z
      have key : ∀ {σ : L2.St} {H : Hp} {Q : VK}, tE X.K W (ev cs (.chain o p a b d)) σ H Q → tChain (r2 X o) (r2 X p) (tE X.K W (ev cs a)) (tE X.K W (ev cs b)) (tE X.K W (ev cs d)) σ H Q := fun {σ H Q} q => by
        have m := mid_start (g := fun _ ρ st => (ev cs a ρ st).bind fun r st1 => (ev cs b ρ st1).bind fun q st2 => if isV r && isV q then (f2 o r q st2).bind fun z st3 => chn z st3 fun st4 => (ev cs d ρ st4).bind fun u st5 => f2 p q u st5 else .bad) q fun ρ st => by rw [ev]
        refine tE_imp (mid_next (f := ev cs a) (g' := fun rs ρ st1 => match rs with | [r] => (ev cs b ρ st1).bind fun q st2 => if isV r && isV q then (f2 o r q st2).bind fun z st3 => chn z st3 fun st4 => (ev cs d ρ st4).bind fun u st5 => f2 p q u st5 else .bad | _ => .bad) m fun rs ρ st hl => .inl ?_) fun v H1 m => ?_
        · cases rs with
          | nil => rfl
          | cons _ _ => cases hl
        refine tE_imp (mid_next (f := ev cs b) (g' := fun rs ρ st2 => match rs with | [r, q] => if isV r && isV q then (f2 o r q st2).bind fun z st3 => chn z st3 fun st4 => (ev cs d ρ st4).bind fun u st5 => f2 p q u st5 else .bad | _ => .bad) m fun rs ρ st hl => .inl ?_) fun y H2 m => ?_
        · rcases rs with _ | ⟨r, _ | ⟨_, _⟩⟩ <;> first | rfl | cases hl
        obtain ⟨μ₀, st₀, H₀, ρ, μ, st, rs, ps, r, er, P, hv, z⟩ := m
        have hl := hv.len
        rcases rs with _ | ⟨r1, _ | ⟨r2, _ | ⟨_, _⟩⟩⟩ <;> first | cases hl | skip
        obtain ⟨h1, _, h2⟩ := hv.uncons
        replace h2 := h2.uncons.1
        dsimp only at z
        cases r1 with
        | l _ => exact z.elim
        | v d1 =>
          cases r2 with
          | l _ => exact z.elim
          | v d2 =>
            simp only [isV, Bool.and_self, if_true] at z
            refine ⟨W, μ, st, H2, μ, st, .v d1, .v d2, .refl P.rel, h1, h2, ?_⟩
            cases hf : f2 o (.v d1) (.v d2) st with
            | bad => rw [hf] at z; exact z
            | exc c p st' => rw [hf] at z; exact fun μ' H' P' => z μ' H' (P.trans P')
            | ok z1 st3 =>
              rw [hf] at z
              intro μ3 H3 w P3 hw
              simp only [Res.bind] at z
              obtain ⟨k, rfl⟩ := c2_bool z1' hf
              cases k with
              | false => exact ⟨false, (nr_v hw).i_bl, z μ3 H3 _ (P.trans P3) (.bl _)⟩
              | true =>
                refine ⟨true, (nr_v hw).i_bl, μ3, st3, ρ, P3.rel, er.step (P.trans P3) r, ?_⟩
                simp only [chn] at z
                cases hd' : ev cs d ρ st3 with
                | bad => rw [hd'] at z; exact z
                | exc c p st' => rw [hd'] at z; exact fun μ' H' P' => z μ' H' ((P.trans P3).trans P')
                | ok u st4 =>
                  rw [hd'] at z
                  intro μ4 H4 w' P4 hw'
                  exact ⟨W, μ₀, st₀, H₀, μ4, st4, .v d2, u, (P.trans P3).trans P4, VR.keep (P4.keep P3.rel) _ _ (VR.keep (P3.keep P.rel) _ _ h2), hw'.older fun _ z => (P.trans P3).free z, z⟩
      refine ⟨pe_imp (pe_chain (c2_ok hu z1') (c2_ok hu z2) ha hb hd (marks_ok z3)) fun σ H Q q => key q, pt_imp (pt_chain (c2_ok hu z1') (c2_ok hu z2) ha hb hd (marks_ok z3)) fun σ H Q q => key (tT_bool (fun ρ st r st' e2 => ?_) q)⟩
      rw [ev] at e2
      cases ha' : ev cs a ρ st with
      | bad => rw [ha'] at e2; cases e2
      | exc _ _ _ => rw [ha'] at e2; cases e2
      | ok r1 st1 =>
        rw [ha'] at e2
        simp only [Res.bind] at e2
        cases hb' : ev cs b ρ st1 with
        | bad => rw [hb'] at e2; cases e2
        | exc _ _ _ => rw [hb'] at e2; cases e2
        | ok r2 st2 =>
          rw [hb'] at e2
          simp only [Res.bind] at e2
          split at e2
          · cases hf : f2 o r1 r2 st2 with
            | bad => rw [hf] at e2; cases e2
            | exc _ _ _ => rw [hf] at e2; cases e2
            | ok u st3 =>
              rw [hf] at e2
              simp only [Res.bind] at e2
              obtain ⟨k, rfl⟩ := c2_bool z1' hf
              cases k with
              | false => simp only [chn] at e2; cases e2; exact ⟨_, rfl⟩
              | true =>
                simp only [chn] at e2
                cases hd' : ev cs d ρ st3 with
                | bad => rw [hd'] at e2; cases e2
                | exc _ _ _ => rw [hd'] at e2; cases e2
                | ok u st4 => rw [hd'] at e2; exact c2_bool z2 e2
          · cases e2
    · cases h
  · cases h
end
end Mi
end
section
set_option linter.all false
set_option autoImplicit false
set_option maxRecDepth 10000
/-! MiDict: dict displays, stores. -/
namespace Mi
open PySem PySem.Spec L2
open PyProof.Rows hiding RelV

section
variable {K : PySem.W.Frag} {H H' H₀ : Hp} {μ μ' μ₀ : Mu} {N : Nat} {st st' st₀ : Store}
theorem key_beq (k' k : Key) : (keyVal k' == keyVal k) = decide (k' = k) := by
  by_cases h : k' = k
  · subst h; simp
  · rw [decide_eq_false h, beq_eq_false_iff_ne]
    exact fun z => h (key_inj z)
theorem dr_any {l : List (Key × V)} {kvs : List (Val × Val)} {k : Key} (h : DRs K H μ N l kvs) : kvs.any (fun kv => kv.1 == keyVal k) = l.any fun kv => decide (kv.1 = k) := by
  induction h with
  | nil => rfl
  | cons _ _ ih => simp only [List.any_cons, ih, key_beq]
theorem dr_map {l : List (Key × V)} {kvs : List (Val × Val)} {k : Key} {v : V} {d : Val} (h : DRs K H μ N l kvs) (hv : VR K H μ N v d) : DRs K H μ N (l.map fun kv => if kv.1 = k then (kv.1, v) else kv) (kvs.map fun kv => if kv.1 == keyVal k then (kv.1, d) else kv) := by
  induction h with
  | nil => exact .nil
  | @cons k' v' d' l r h1 _ ih =>
    simp only [List.map_cons, key_beq]
    by_cases e : k' = k
    · simp only [e, decide_true, if_true]
      exact .cons hv ih
    · simp only [e, decide_false, Bool.false_eq_true, if_false]
      exact .cons h1 ih
theorem dr_app {l : List (Key × V)} {kvs : List (Val × Val)} {k : Key} {v : V} {d : Val} (h : DRs K H μ N l kvs) (hv : VR K H μ N v d) : DRs K H μ N (l ++ [(k, v)]) (kvs ++ [(keyVal k, d)]) := by
  induction h with
  | nil => exact .cons hv .nil
  | cons h1 _ ih => exact .cons h1 ih
theorem dr_put {l : List (Key × V)} {kvs : List (Val × Val)} {k : Key} {v : V} {d : Val} (h : DRs K H μ N l kvs) (hv : VR K H μ N v d) : DRs K H μ N (putK l k v) (kput kvs (keyVal k) d) := by
  unfold putK kput
  rw [dr_any h]
  split
  · exact dr_map h hv
  · exact dr_app h hv
theorem dr_merge : ∀ {more : List (Key × V)} {mo : List (Val × Val)} {l : List (Key × V)} {kvs : List (Val × Val)}, DRs K H μ N more mo → DRs K H μ N l kvs → DRs K H μ N (mergeK l more) (mergeD kvs mo) := by
  intro more mo l kvs h
  induction h generalizing l kvs with
  | nil => exact fun g => g
  | cons h1 _ ih => exact fun g => ih (dr_put g h1)
theorem dicOf_ok : ∀ {ps : List (V × V)} {ds : List Val} {kvs : List (Val × Val)}, VRs K H μ N (ps.flatMap fun p => [p.1, p.2]) ds → dicOf false ds = some kvs → ∃ l : List (Key × V), ps = l.map (fun kv => (kV kv.1, kv.2)) ∧ DRs K H μ N l kvs ∧ l.length = kvs.length := by
  intro ps
  induction ps with
  | nil =>
    intro ds kvs h e
    cases h
    simp [dicOf] at e
    subst e
    exact ⟨[], rfl, .nil, rfl⟩
  | cons p ps ih =>
    intro ds kvs h e
    simp only [List.flatMap_cons, List.cons_append, List.nil_append] at h
    cases h with
    | cons h1 h2 =>
      cases h2 with
      | cons h2 h3 =>
        simp only [dicOf] at e
        split at e
        · rename_i hk
          simp only [Option.map_eq_some_iff] at e
          obtain ⟨r, e1, rfl⟩ := e
          obtain ⟨l, rfl, e2, e3⟩ := ih h3 e1
          obtain ⟨kk, e4, rfl⟩ := key_of_val hk h1
          exact ⟨(kk, p.2) :: l, by simp [← e4], .cons h2 e2, by simp [e3]⟩
        · cases e
/-- an object that stood alone moves into the store -/
theorem Post.addD {p : Addr} {l : List (Key × V)} {kvs : List (Val × Val)} (P : Post K μ₀ st₀ H₀ μ st H) (h0 : H₀ p = none) (h1 : H p = some (.dK [])) (r : DRs K H μ st.length l kvs)
    (ne : ∀ n, n < st.length → μ n ≠ p) : Post K μ₀ st₀ H₀ (muAdd μ st.length p) (st ++ [Obj.dic false kvs]) (L2.upd H p (.dK l)) := by
  have k : Keep K H (L2.upd H p (.dK l)) μ (muAdd μ st.length p) st.length (st ++ [Obj.dic false kvs]).length :=
    ⟨fun n hn => by unfold muAdd; rw [if_neg (Nat.ne_of_lt hn)], by simp, fun a xs h => by
      rcases h with (h | ⟨ob, h⟩) | h
      · exact .inl (.inl (by rw [upd_ne fun e => by rw [e, h1] at h; cases h]; exact h))
      · exact .inl (.inr ⟨ob, by rw [upd_ne fun e => by rw [e, h1] at h; cases h]; exact h⟩)
      · exact .inr h⟩
  refine ⟨fun n hn => ?_, Nat.le_trans P.len k.len, ⟨fun n o e => ?_, fun n m hn hm e => ?_⟩, fun a o h c => ?_, fun n hn hl => ?_⟩
  · rw [k.same n (Nat.lt_of_lt_of_le hn P.len)]; exact P.same n hn
  · by_cases hn : n < st.length
    · rw [List.getElem?_append_left hn] at e
      rw [k.same n hn]
      exact (P.rel.obj n o e).keep k (upd_ne (ne n hn))
    · have hn' : n = st.length := by
        have := (List.getElem?_eq_some_iff.mp e).1
        simp at this; omega
      subst hn'
      simp at e
      subst e
      exact ⟨l, by simp [muAdd, L2.upd], r.keep k⟩
  · simp at hn hm
    by_cases h1 : n = st.length <;> by_cases h2 : m = st.length
    · rw [h1, h2]
    · exfalso
      rw [h1] at e
      have hm' : m < st.length := by omega
      rw [k.same m hm'] at e
      exact ne m hm' (by rw [← e]; simp [muAdd])
    · exfalso
      rw [h2] at e
      have hn' : n < st.length := by omega
      rw [k.same n hn'] at e
      exact ne n hn' (by rw [e]; simp [muAdd])
    · have hn' : n < st.length := by omega
      have hm' : m < st.length := by omega
      rw [k.same n hn', k.same m hm'] at e
      exact P.rel.inj n m hn' hm' e
  · rw [upd_ne fun e => by rw [e, h0] at h; cases h]
    exact P.frame a o h c
  · by_cases h1 : n = st.length
    · subst h1; simpa [muAdd] using h0
    · have : n < st.length := by simp at hl; omega
      rw [k.same n this]
      exact P.fresh n hn this
end
section
variable {X : Cx} {W : XW} {c : Ctx} {cs : List Fn} {a b e : E} {xa xb xc x : Expr}
/-- the items of a display, by pairs -/
def trsOf (K : PySem.W.Frag) (W : XW) (cs : List Fn) : E → List (TE × TE)
  | .cons h (.cons h2 t) => (tE K W (ev cs h), tE K W (ev cs h2)) :: trsOf K W cs t
  | _ => []
def evenE : E → Bool
  | .nil => true
  | .cons _ (.cons _ t) => evenE t
  | _ => false
theorem cons_then {K : PySem.W.Frag} {h t : E} {σ : L2.St} {H : Hp} {Q : List V → Hp → Prop} (q : tA K W (evs cs (.cons h t)) σ H Q) : tE K W (ev cs h) σ H fun x H1 => tA K W (evs cs t) σ H1 fun xs H2 => Q (x :: xs) H2 := by
  obtain ⟨μ, st, ρ, r, er, a⟩ := q
  refine ⟨μ, st, ρ, r, er, ?_⟩
  simp only [evs] at a
  cases hf : ev cs h ρ st with
  | bad => rw [hf] at a; exact a
  | exc c p st' => rw [hf] at a; exact a
  | ok x1 st1 =>
    rw [hf] at a
    intro μ1 H1 v P1 hv
    refine ⟨μ1, st1, ρ, P1.rel, er.step P1 r, ?_⟩
    simp only [Res.bind] at a
    cases hg : evs cs t ρ st1 with
    | bad => rw [hg] at a; exact a
    | exc c p st' => rw [hg] at a; exact fun μ' H' P' => a μ' H' (P1.trans P')
    | ok rs st2 =>
      rw [hg] at a
      intro μ2 H2 vs ps P2 hvs
      have hv2 := VRR.step P2 P1.rel hv
      cases x1 with
      | v d => exact a μ2 H2 (v :: vs) ps (P1.trans P2) (.v hv2 (hvs.older fun _ z => P1.free z))
      | l ds =>
        obtain ⟨p, us, rfl, e0, e1, e2, e3⟩ := hv2
        refine a μ2 H2 _ (p :: ps) (P1.trans P2) (.l e0 e1 e2 e3 (fun hp => ?_) (hvs.older fun _ z => P1.free z))
        obtain ⟨p', us', e4, _, e5, _⟩ := hv
        cases e4
        have := hvs.free p hp
        rw [e5] at this; cases this
theorem nil_then {K : PySem.W.Frag} {σ : L2.St} {H : Hp} {Q : List V → Hp → Prop} (q : tA K W (evs cs .nil) σ H Q) : Q [] H := by
  obtain ⟨μ, st, ρ, r, er, a⟩ := q
  exact a μ H [] [] (.refl r) .nil
theorem pairs_then {K : PySem.W.Frag} : ∀ (es : E) {σ : L2.St} {H : Hp} {Q : List V → Hp → Prop}, evenE es = true → tA K W (evs cs es) σ H Q → tPairs (trsOf K W cs es) σ H fun ps H2 => Q (ps.flatMap fun p => [p.1, p.2]) H2
  | .nil, _, _, _, _, q => by unfold trsOf; exact nil_then q
  | .cons h (.cons h2 t), _, _, _, he, q => by
    unfold trsOf
    exact tE_imp (cons_then q) fun x H1 q1 => tE_imp (cons_then q1) fun y H2 q2 => pairs_then t he q2
theorem tPairs_imp : ∀ {trs : List (TE × TE)} {σ : L2.St} {H : Hp} {Q Q' : List (V × V) → Hp → Prop}, tPairs trs σ H Q → (∀ ps H, Q ps H → Q' ps H) → (∀ p ∈ trs, ∀ σ H (R R' : VK), p.1 σ H R → (∀ v H, R v H → R' v H) → p.1 σ H R') → (∀ p ∈ trs, ∀ σ H (R R' : VK), p.2 σ H R → (∀ v H, R v H → R' v H) → p.2 σ H R') → tPairs trs σ H Q'
  | [], _, _, _, _, h, i, _, _ => i _ _ h
  | (tk, tv) :: r, σ, H, Q, Q', h, i, m1, m2 => m1 _ List.mem_cons_self σ H _ _ h fun x H1 h1 => m2 _ List.mem_cons_self σ H1 _ _ h1 fun y H2 h2 => tPairs_imp h2 (fun ps H3 q => i _ _ q) (fun p hp => m1 p (List.mem_cons_of_mem _ hp)) fun p hp => m2 p (List.mem_cons_of_mem _ hp)
theorem trs_mono {K : PySem.W.Frag} : ∀ (es : E), (∀ p ∈ trsOf K W cs es, ∀ σ H (R R' : VK), p.1 σ H R → (∀ v H, R v H → R' v H) → p.1 σ H R') ∧ (∀ p ∈ trsOf K W cs es, ∀ σ H (R R' : VK), p.2 σ H R → (∀ v H, R v H → R' v H) → p.2 σ H R')
  | .cons h (.cons h2 t) => by
    unfold trsOf
    obtain ⟨i1, i2⟩ := trs_mono (K := K) t
    refine ⟨fun p hp => ?_, fun p hp => ?_⟩
    · rcases List.mem_cons.mp hp with rfl | hp
      · exact fun σ H R R' q i => tE_imp q i
      · exact i1 p hp
    · rcases List.mem_cons.mp hp with rfl | hp
      · exact fun σ H R R' q i => tE_imp q i
      · exact i2 p hp
  | .nil => ⟨fun p hp => by simp [trsOf] at hp, fun p hp => by simp [trsOf] at hp⟩
  | .cons h .nil => ⟨fun p hp => by simp [trsOf] at hp, fun p hp => by simp [trsOf] at hp⟩
  | .cons h (.k _) | .cons h (.x _) | .cons h (.g _ _) | .cons h (.tup _) | .cons h (.lst _) | .cons h (.dic _ _) | .cons h (.op1 _ _) | .cons h (.op2 _ _ _) | .cons h (.op3 _ _ _ _) | .cons h (.sl _ _ _) | .cons h (.and _ _) | .cons h (.or _ _) | .cons h (.not _) | .cons h (.ite _ _ _) | .cons h (.chain _ _ _ _ _) | .cons h (.call _ _ _ _) | .cons h (.comp _ _ _ _ _ _ _) => ⟨fun p hp => by simp [trsOf] at hp, fun p hp => by simp [trsOf] at hp⟩
  | .k _ | .x _ | .g _ _ | .tup _ | .lst _ | .dic _ _ | .op1 _ _ | .op2 _ _ _ | .op3 _ _ _ _ | .sl _ _ _ | .and _ _ | .or _ _ | .not _ | .ite _ _ _ | .chain _ _ _ _ _ | .call _ _ _ _ | .comp _ _ _ _ _ _ _ => ⟨fun p hp => by simp [trsOf] at hp, fun p hp => by simp [trsOf] at hp⟩
theorem n_dic {es : E} {ks : List (Option Expr)} {vs : List Expr} {pos : Pos} (he : evenE es = true) (h : PPs X pos ks vs (trsOf X.K W cs es)) (h1 : ks.all (·.isSome) = true) (h2 : ks.length = vs.length) (h3 : ks ≠ []) (h4 : ks.length ≤ 15) : PE X (.Dict ks vs pos) (tE X.K W (ev cs (.dic false es))) := by
  refine pe_imp (pe_disp h h1 h2 h3 h4) fun σ H Q q => ?_
  obtain ⟨μ, st, ρ, r, er, a⟩ := q
  intro p hp
  have P0 : Post X.K μ st H μ st (L2.upd H p (.dK [])) := (Post.refl r).upd hp
  rw [ev] at a
  have q : tA X.K W (evs cs es) σ (L2.upd H p (.dK [])) fun vs H2 => H2 p = some (.dK []) ∧ ∃ μ2 st2 ds kvs, Post X.K μ st H μ2 st2 H2 ∧ VRs X.K H2 μ2 st2.length vs ds ∧ dicOf false ds = some kvs ∧ kvs.length ≤ 15 ∧ (∀ n, n < st2.length → μ2 n ≠ p) ∧ After X.K W μ st H (.ok (.v (.ref st2.length)) (st2 ++ [.dic false (mergeD [] kvs)])) Q := by
    refine ⟨μ, st, ρ, P0.rel, er.step P0 r, ?_⟩
    cases hf : evs cs es ρ st with
    | bad => rw [hf] at a; exact a
    | exc c q st' => rw [hf] at a; exact fun μ' H' P' => a μ' H' (P0.trans P')
    | ok rs st1 =>
      rw [hf] at a
      intro μ1 H1 vs ps P1 hv
      simp only [Res.bind] at a
      cases hd : dicOf false (settles rs st1).1 with
      | none => rw [hd] at a; exact a.elim
      | some kvs =>
        rw [hd] at a
        dsimp only at a
        split at a
        · rename_i hz
          obtain ⟨μ2, P2, k2, z⟩ := settles_ok P1 hv
          obtain ⟨e1, ne⟩ := P2.stay (D := p) upd_same (r.ne hp)
          exact ⟨e1, μ2, _, _, kvs, P0.trans P2, z, hd, hz.1, ne, a⟩
        · exact a.elim
  refine tPairs_imp (pairs_then es he q) (fun ps H2 z => ?_) (trs_mono es).1 (trs_mono es).2
  obtain ⟨e1, μ2, st2, ds, kvs, P2, hv, hd, hz, ne, a⟩ := z
  obtain ⟨l, rfl, hl, hl2⟩ := dicOf_ok hv hd
  refine ⟨e1, l, rfl, by rw [hl2]; exact hz, ?_⟩
  have P3 := P2.addD hp e1 (dr_merge hl .nil) ne
  refine a _ _ _ P3 ?_
  have z : VR X.K (L2.upd H2 p (.dK (mergeK [] l))) (muAdd μ2 st2.length p) (st2 ++ [Obj.dic false (mergeD [] kvs)]).length (.ref (muAdd μ2 st2.length p st2.length)) (.ref st2.length) := .ref (by simp)
  have e : muAdd μ2 st2.length p st2.length = p := by simp [muAdd]
  rw [e] at z
  exact z
theorem n_dic0 {pos : Pos} : PE X (.Dict [] [] pos) (tE X.K W (ev cs (.dic false .nil))) := by
  refine pe_imp pe_dnewK fun σ H Q q => ?_
  obtain ⟨μ, st, ρ, r, er, a⟩ := q
  intro p hp
  have P0 : Post X.K μ st H μ st (L2.upd H p (.dK [])) := (Post.refl r).upd hp
  have P3 := P0.addD (l := []) (kvs := []) hp upd_same .nil (r.ne hp)
  have e2 : L2.upd (L2.upd H p (.dK [])) p (.dK []) = L2.upd H p (.dK []) := by funext b; unfold L2.upd; split <;> rfl
  rw [e2] at P3
  refine a _ _ _ P3 ?_
  have z : VR X.K (L2.upd H p (.dK [])) (muAdd μ st.length p) (st ++ [Obj.dic false []]).length (.ref (muAdd μ st.length p st.length)) (.ref st.length) := .ref (by simp)
  have e : muAdd μ st.length p st.length = p := by simp [muAdd]
  rw [e] at z
  exact z
end
end Mi
end
section
set_option linter.all false
set_option autoImplicit false
set_option maxRecDepth 10000
/-! MiComp: what is walked, comprehensions. -/
namespace Mi
open PySem PySem.Spec L2
open PyProof.Rows hiding RelV

def call1 (f : Str) (c : Ctx) (x : Expr) : Option Expr := match x with
  | .Call (.Name g _) [e] [] _ => if g = f ∧ btB c g = true ∧ noS e = true then some e else none
  | _ => none
def call2 (f : Str) (c : Ctx) (x : Expr) : Option (Expr × Expr) := match x with
  | .Call (.Name g _) [e, e2] [] _ => if g = f ∧ btB c g = true ∧ noS e = true ∧ noS e2 = true then some (e, e2) else none
  | _ => none
def vI (c : Ctx) (k : IK) (iter : Expr) : Option (Expr × Option Expr) := match k with
  | .seq => if noSet iter = true then some (iter, none) else none
  | .range1 => (call1 "range" c iter).map fun e => (e, none)
  | .range2 => (call2 "range" c iter).map fun e => (e.1, some e.2)
  | .enum => (call1 "enumerate" c iter).map fun e => (e, none)
  | .zip => (call2 "zip" c iter).map fun e => (e.1, some e.2)
theorem call1_is {f : Str} {c : Ctx} {x e : Expr} (h : call1 f c x = some e) : ∃ p pos, x = .Call (.Name f p) [e] [] pos ∧ btB c f = true ∧ noS e = true := by
  unfold call1 at h
  split at h
  · split at h
    · rename_i z; cases h; obtain ⟨rfl, z2, z3⟩ := z; exact ⟨_, _, rfl, z2, z3⟩
    · cases h
  · cases h
theorem call2_is {f : Str} {c : Ctx} {x : Expr} {e : Expr × Expr} (h : call2 f c x = some e) : ∃ p pos, x = .Call (.Name f p) [e.1, e.2] [] pos ∧ btB c f = true ∧ noS e.1 = true ∧ noS e.2 = true := by
  unfold call2 at h
  split at h
  · split at h
    · rename_i z; cases h; obtain ⟨rfl, z2, z3⟩ := z; exact ⟨_, _, rfl, z2, z3⟩
    · cases h
  · cases h
def isTupX : Expr → Bool
  | .Tuple .. => true
  | _ => false
/-- pairs are walked into a written tuple -/
def pairT : IK → Expr → Bool
  | .enum, t => isTupX t
  | .zip, t => isTupX t
  | _, _ => true
section
variable {X : Cx} {W : XW} {c : Ctx} {cs : List Fn} {a b e : E} {xa xb xc x tg iter : Expr} {oxb : Option Expr}
theorem vI_set {k : IK} (h : vI c k iter = some (xa, oxb)) : noSet iter = true := by
  cases k <;> simp only [vI, Option.map_eq_some_iff] at h
  · split at h
    · rename_i z; exact z
    · cases h
  all_goals obtain ⟨e, h, _⟩ := h
  · obtain ⟨p, pos, rfl, _⟩ := call1_is h; rfl
  · obtain ⟨p, pos, rfl, _⟩ := call2_is h; rfl
  · obtain ⟨p, pos, rfl, _⟩ := call1_is h; rfl
  · obtain ⟨p, pos, rfl, _⟩ := call2_is h; rfl
/-- the second source -/
def SrcB (X : Cx) (W : XW) (cs : List Fn) (b : E) : Option Expr → Prop
  | none => b = .nil
  | some xb => isNil b = false ∧ PE X xb (tE X.K W (ev cs b))
theorem vI_ok {k : IK} (g : Good X W c cs) (h : vI c k iter = some (xa, oxb)) (ht : pairT k tg = true) (ha : PE X xa (tE X.K W (ev cs a))) (hb : SrcB X W cs b oxb) :
    PI X tg iter (tI X.K W k (ev cs a) fun ρ st => opt2 (isNil b) (ev cs b ρ) st) := by
  have e0 : b = .nil → (fun ρ st => opt2 (isNil b) (ev cs b ρ) st) = fun _ st => .ok (.v .non) st := fun e => by subst e; rfl
  have e1 : isNil b = false → (fun ρ st => opt2 (isNil b) (ev cs b ρ) st) = ev cs b := fun e => by funext ρ st; simp [opt2, e]
  cases k <;> simp only [vI, Option.map_eq_some_iff] at h
  · split at h
    · cases h
      rw [e0 hb]
      exact pi_seq ha
    · cases h
  all_goals obtain ⟨e, h, z⟩ := h; cases z
  · obtain ⟨p, pos, rfl, z2, z3⟩ := call1_is h
    obtain ⟨b1, b2, b3, b4⟩ := btB_ok g z2
    rw [e0 hb]
    exact pi_rng1 b1 b2 ha (star1 z3)
  · obtain ⟨p, pos, rfl, z2, z3, z4⟩ := call2_is h
    obtain ⟨b1, b2, b3, b4⟩ := btB_ok g z2
    rw [e1 hb.1]
    exact pi_rng2 b1 b2 ha hb.2 (by rw [star1 z3, star1 z4]; rfl) (star1 z4)
  · obtain ⟨p, pos, rfl, z2, z3⟩ := call1_is h
    obtain ⟨b1, b2, b3, b4⟩ := btB_ok g z2
    rw [e0 hb]
    cases tg <;> first | exact pi_enm b1 b2 ha (star1 z3) | cases ht
  · obtain ⟨p, pos, rfl, z2, z3, z4⟩ := call2_is h
    obtain ⟨b1, b2, b3, b4⟩ := btB_ok g z2
    rw [e1 hb.1]
    cases tg <;> first | exact pi_zp b1 b2 ha hb.2 (by rw [star1 z3, star1 z4]; rfl) (star1 z4) | cases ht

/-! ### targets -/
def locB (c : Ctx) (x : Str) : Bool := match c.sc.names.lookup x with
  | some .local => true
  | some .cell => c.fnb x
  | _ => false
theorem locB_ok (g : Good X W c cs) {x : Str} (h : locB c x = true) : Loc X.env.scope x ∧ (X.fn x = true ∨ X.env.scope.names.lookup x = some .local) := by
  unfold locB at h
  rw [g.sc]
  split at h
  · rename_i e; exact ⟨.inl e, .inr e⟩
  · rename_i e; exact ⟨.inr e, .inl (g.fn x h)⟩
  · cases h
mutual
def chkTM : T → Ctx → Expr → Bool
  | .sl i, c, x => match x with
    | .Name n _ => decide (c.N[i]? = some n) && locB c n
    | _ => false
  | .tp ts, c, x => match x with
    | .Tuple es _ _ => chkTs ts c es
    | _ => false
  | _, _, _ => false
def chkTs : T → Ctx → List Expr → Bool
  | .nil, _, xs => xs.isEmpty
  | .cons t ts, c, xs => match xs with
    | x :: xs => noS x && chkTM t c x && chkTs ts c xs
    | _ => false
  | _, _, _ => false
end
theorem chkTs_s : ∀ {ts : T} {xs : List Expr}, chkTs ts c xs = true → xs.all noS = true ∧ xs.length = ts.len := by
  intro ts
  induction ts with
  | sl i => intro xs h; simp [chkTs] at h
  | tp t ih => intro xs h; simp [chkTs] at h
  | nil => intro xs h; simp [chkTs] at h; subst h; exact ⟨rfl, rfl⟩
  | cons t ts _ ih =>
    intro xs h
    cases xs with
    | nil => simp [chkTs] at h
    | cons x xs =>
      simp only [chkTs, Bool.and_eq_true] at h
      obtain ⟨h1, h2⟩ := ih h.2
      exact ⟨by simp [h.1.1, h1], by simp [T.len, h2]⟩
theorem bindTs_len : ∀ {ts : T} {ds : List Val} {ρ ρ' : Env}, bindTs ts ds ρ = some ρ' → ds.length = ts.len := by
  intro ts
  induction ts with
  | sl i => intro ds ρ ρ' h; cases ds <;> simp [bindTs] at h
  | tp t ih => intro ds ρ ρ' h; cases ds <;> simp [bindTs] at h
  | nil => intro ds ρ ρ' h; cases ds with
    | nil => rfl
    | cons _ _ => simp [bindTs] at h
  | cons t ts _ ih =>
    intro ds ρ ρ' h
    cases ds with
    | nil => simp [bindTs] at h
    | cons d ds =>
      simp only [bindTs, Option.bind_eq_some_iff] at h
      obtain ⟨ρ1, _, h⟩ := h
      simp [T.len, ih h]
theorem pg_imp {e : Expr} {t t' : TG} (h : PG X e t) (i : ∀ v σ H Q, t' v σ H Q → t v σ H Q) : PG X e t' := ⟨fun pins s σ H v u Q I r q => h.run pins s σ H v u Q I r (i _ _ _ _ q)⟩
theorem pgs_imp {e : List Expr} {t t' : TGs} (h : PGs X e t) (i : ∀ v σ H Q, t' v σ H Q → t v σ H Q) : PGs X e t' := ⟨fun pins s σ H vs us Q I r q => h.run pins s σ H vs us Q I r (i _ _ _ _ q)⟩
theorem chkT_ok (g : Good X W c cs) : ∀ (t : T), (∀ x, chkTM t c x = true → PG X x (gT X.K t)) ∧ (∀ xs, chkTs t c xs = true → PGs X xs (gTs X.K t)) := by
  intro t
  induction t with
  | sl i =>
    refine ⟨fun x h => ?_, fun xs h => by simp [chkTs] at h⟩
    cases x <;> simp only [chkTM] at h <;> first | cases h | skip
    simp only [Bool.and_eq_true, decide_eq_true_eq] at h
    obtain ⟨h1, h2⟩ := locB_ok g h.2
    refine pg_imp (pg_name (by rw [g.N]; exact g.nd) (by rw [g.N]; exact h.1) h1 h2) fun v σ H Q q => ?_
    obtain ⟨d, μ, N, ρ, ρ', hv, er, hb, q⟩ := q
    simp only [bindT] at hb
    split at hb
    · cases hb
      refine q _ (er.set hv) (by simp) fun j hj => ?_
      rw [List.getElem?_set_ne]
      intro e; exact hj (by simp [T.slots, e])
    · cases hb
  | tp ts ih =>
    refine ⟨fun x h => ?_, fun xs h => by simp [chkTs] at h⟩
    cases x <;> simp only [chkTM] at h <;> first | cases h | skip
    obtain ⟨s1, s2⟩ := chkTs_s h
    refine pg_imp (pg_tup (n := ts.len) g.calm (ih.2 _ h) (by rw [asgLen, s2]) (asgNo s1)) fun v σ H Q q => ?_
    obtain ⟨d, μ, N, ρ, ρ', hv, er, hb, q⟩ := q
    cases d <;> simp only [bindT] at hb <;> first | cases hb | skip
    obtain ⟨a, vs, e1, e2, e3⟩ := hv.i_tup
    exact ⟨a, vs, e1, e2, by rw [VRs.length e3]; exact bindTs_len hb, _, μ, N, ρ, ρ', e3, er, hb, q⟩
  | nil =>
    refine ⟨fun x h => by simp [chkTM] at h, fun xs h => ?_⟩
    simp only [chkTs, List.isEmpty_iff] at h
    subst h
    refine pgs_imp pgs_nil fun v σ H Q q => ?_
    obtain ⟨d, μ, N, ρ, ρ', hv, er, hb, q⟩ := q
    cases d with
    | nil =>
      simp only [bindTs] at hb
      cases hb
      cases hv
      exact ⟨rfl, q σ er rfl fun _ _ => rfl⟩
    | cons _ _ => simp [bindTs] at hb
  | cons t ts ih1 ih2 =>
    refine ⟨fun x h => by simp [chkTM] at h, fun xs h => ?_⟩
    cases xs with
    | nil => simp [chkTs] at h
    | cons x xs =>
      simp only [chkTs, Bool.and_eq_true] at h
      refine pgs_imp (pgs_cons (ih1.1 x h.1.2) (ih2.2 xs h.2) (by rw [asg1 h.1.1]; rfl)) fun v σ H Q q => ?_
      obtain ⟨ds, μ, N, ρ, ρ', hv, er, hb, q⟩ := q
      cases ds with
      | nil => simp [bindTs] at hb
      | cons d ds =>
        simp only [bindTs, Option.bind_eq_some_iff] at hb
        obtain ⟨ρ1, hb1, hb2⟩ := hb
        cases hv with
        | cons h1 h2 =>
          refine ⟨_, _, rfl, d, μ, N, ρ, ρ1, h1, er, hb1, fun σ1 e1 l1 s1 => ⟨ds, μ, N, ρ1, ρ', h2, e1, hb2, fun σ2 e2 l2 s2 => q σ2 e2 (l2.trans l1) fun i hi => ?_⟩⟩
          simp only [T.slots, List.mem_append, not_or] at hi
          rw [s2 i hi.2, s1 i hi.1]
/-! ### comprehensions -/
theorem n_if0 {X : Cx} {W : XW} : PTs X [] (tB X.K W fun ρ st => optC (isNil .nil) (ev cs .nil ρ) st) := ⟨fun pins s σ H Q I h => by
  obtain ⟨μ, st, ρ, r, er, a⟩ := h
  exact pts_nil.run pins s σ H Q I (a μ H (.refl r))⟩
theorem n_if1 {X : Cx} {W : XW} {e : E} {xc : Expr} (hn : isNil e = false) (h : PT X xc (tT X.K W (ev cs e))) : PTs X [xc] (tB X.K W fun ρ st => optC (isNil e) (ev cs e ρ) st) := ⟨fun pins s σ H Q I q => by
  obtain ⟨μ, st, ρ, r, er, a⟩ := q
  simp only [optC, hn, Bool.false_eq_true, if_false] at a
  exact (pts_one h).run pins s σ H Q I ⟨μ, st, ρ, r, er, a⟩⟩
theorem comp_eqM {own : List Nat} {t : T} {k : IK} {d : E} (ρ : Env) (st : Store) : ev cs (.comp own t k a b d e) ρ st =
    (walkM k (ev cs a) (fun ρ st => opt2 (isNil b) (ev cs b ρ) st) ρ st).bind fun p st2 => (noX (compLoop p.2 t (fun ρ' st' => optC (isNil d) (ev cs d ρ') st') (fun ρ' st' => ev cs e ρ' st') (wipeE ρ own) p.1 [] st2)).bind fun l st3 => .ok (.l l) st3 := by
  rw [ev, walkM, bind_assoc]
  congr 1
  funext r st1
  rw [bind_assoc]
  congr 1
  funext q st2
  cases walk k r q st2 <;> rfl
def ownB (c : Ctx) (own : List Nat) : List (Str × Nat) := own.filterMap fun i => (c.N[i]?).map fun x => (x, i)
theorem ownB_ok {own : List Nat} (h : own.all (fun i => decide (i < c.N.length)) = true) : (ownB c own).map (·.2) = own := by
  induction own with
  | nil => rfl
  | cons i own ih =>
    simp only [List.all_cons, Bool.and_eq_true, decide_eq_true_eq] at h
    unfold ownB
    rw [List.filterMap_cons]
    simp [h.1]
    exact ih h.2
theorem n_comp {own : List Nat} {t : T} {k : IK} {d : E} {ifs : List Expr} {scope : Scope} {pos : Pos} (g : Good X W c cs) (hi : PI X tg iter (tI X.K W k (ev cs a) fun ρ st => opt2 (isNil b) (ev cs b ρ) st)) (hset : noSet iter = true)
    (ho : own.all (fun i => decide (i < c.N.length)) = true) (hk : blkC c.N c.sc scope (ownB c own) = true) (hsl : t.slots.all (fun i => own.contains i) = true) (ht : chkTM t (c.blk scope) tg = true)
    (hd : ∀ (s : Shared) (H : Hp) (C : Addr) (cl : List (Str × Addr)) (fp : List Addr), PTs (X.blk s H scope (compEnvC scope cl C X.env) fp) ifs (tB X.K W0 fun ρ st => optC (isNil d) (ev cs d ρ) st))
    (he : ∀ (s : Shared) (H : Hp) (C : Addr) (cl : List (Str × Addr)) (fp : List Addr), PE (X.blk s H scope (compEnvC scope cl C X.env) fp) x (tE X.K W0 (ev cs e))) :
    PE X (.ListComp x [⟨tg, iter, ifs, 0⟩] scope pos) (tE X.K W (ev cs (.comp own t k a b d e))) := by
  have ok : BlkOk X.N X.env.scope scope (ownB c own) := by rw [g.N, g.sc]; exact blkOk_by hk
  refine pe_imp (pe_lc (g := gT X.K t) g.calm (by rw [g.N]; exact g.nd) hi ok (fun s H C cl fp => (chkT_ok (g.blk (s := s) (H := H) (cl := cl) (C := C) (fp := fp)) t).1 tg ht) hd he (folded_ok hset)) fun σ H Q q => ?_
  rw [ownB_ok ho]
  refine comp_ok (fun i hi => by simpa using List.all_eq_true.mp hsl i hi) ?_
  obtain ⟨μ, st, ρ, r, er, z⟩ := q
  rw [comp_eqM] at z
  exact ⟨μ, st, ρ, r, er, z⟩
end
end Mi
end
section
set_option linter.all false
set_option autoImplicit false
set_option maxRecDepth 10000
/-! MiArgs: calls of the module's defs. -/
namespace Mi
open PySem PySem.Spec L2
open PyProof.Rows hiding RelV

def takeE : Nat → E → E
  | n + 1, .cons h t => .cons h (takeE n t)
  | _, _ => .nil
def dropE : Nat → E → E
  | 0, e => e
  | n + 1, .cons _ t => dropE n t
  | _ + 1, _ => .nil
def tL (K : PySem.W.Frag) (W : XW) (cs : List Fn) : E → TA
  | .nil => tNil
  | .cons h t => tCons (tE K W (ev cs h)) (tL K W cs t)
  | _ => fun _ _ _ => False
/-- expressions in a row -/
inductive Each (X : Cx) (W : XW) (cs : List Fn) : E → List Expr → Prop
  | nil : Each X W cs .nil []
  | cons {h t : E} {x : Expr} {xs : List Expr} : noS x = true → PE X x (tE X.K W (ev cs h)) → Each X W cs t xs → Each X W cs (.cons h t) (x :: xs)
section
variable {K : PySem.W.Frag} {H H' H₀ : Hp} {μ μ' μ₀ : Mu} {N : Nat} {st st' st₀ : Store}
theorem VRRs.lens {vs : List V} {rs : List RV} {ps : List Addr} (h : VRRs K H₀ H μ N vs rs ps) : rs.length = vs.length := h.len
theorem VRRs.at {vs : List V} {rs : List RV} {ps : List Addr} (h : VRRs K H₀ H μ N vs rs ps) : ∀ {i : Nat} {r : RV}, rs[i]? = some r → ∃ v, vs[i]? = some v ∧ VRR K H₀ H μ N v r ∧ (∀ xs, r = .l xs → ∃ p ∈ ps, v = .ref p) := by
  induction h with
  | nil => intro i r e; simp at e
  | @v v d vs rs ps a _ ih =>
    intro i r e
    cases i with
    | zero => simp at e; subst e; exact ⟨v, rfl, a, fun xs z => nomatch z⟩
    | succ i => exact ih (by simpa using e)
  | @l p us ds vs rs ps a b c d n _ ih =>
    intro i r e
    cases i with
    | zero => simp at e; subst e; exact ⟨_, rfl, ⟨p, us, rfl, a, b, c, d⟩, fun xs z => ⟨p, List.mem_cons_self, rfl⟩⟩
    | succ i =>
      obtain ⟨v, h1, h2, h3⟩ := ih (i := i) (r := r) (by simpa using e)
      exact ⟨v, by simpa using h1, h2, fun xs z => let ⟨q, hq, e⟩ := h3 xs z; ⟨q, List.mem_cons_of_mem _ hq, e⟩⟩
theorem VRRs.apart2 {vs : List V} {rs : List RV} {ps : List Addr} (h : VRRs K H₀ H μ N vs rs ps) : ∀ {i j : Nat} {xs ys : List Val} {p q : Addr}, i ≠ j → rs[i]? = some (.l xs) → rs[j]? = some (.l ys) → vs[i]? = some (.ref p) → vs[j]? = some (.ref q) → p ≠ q := by
  induction h with
  | nil => intro i j xs ys p q _ e; simp at e
  | v a _ ih =>
    intro i j xs ys p q hij e1 e2 e3 e4
    cases i with
    | zero => simp at e1
    | succ i =>
      cases j with
      | zero => simp at e2
      | succ j => exact ih (i := i) (j := j) (by omega) (by simpa using e1) (by simpa using e2) (by simpa using e3) (by simpa using e4)
  | @l p0 us ds vs rs ps a b c d n hr ih =>
    intro i j xs ys p q hij e1 e2 e3 e4
    cases i with
    | zero =>
      simp at e3
      subst e3
      cases j with
      | zero => exact absurd rfl hij
      | succ j =>
        obtain ⟨v, h1, _, h3⟩ := hr.at (i := j) (r := .l ys) (by simpa using e2)
        obtain ⟨q', hq, e⟩ := h3 ys rfl
        have e4' : vs[j]? = some (.ref q) := by simpa using e4
        rw [h1, e] at e4'
        cases e4'
        exact fun z => n (z ▸ hq)
    | succ i =>
      cases j with
      | zero =>
        simp at e4
        subst e4
        obtain ⟨v, h1, _, h3⟩ := hr.at (i := i) (r := .l xs) (by simpa using e1)
        obtain ⟨q', hq, e⟩ := h3 xs rfl
        have e3' : vs[i]? = some (.ref p) := by simpa using e3
        rw [h1, e] at e3'
        cases e3'
        exact fun z => n (z ▸ hq)
      | succ j => exact ih (i := i) (j := j) (by omega) (by simpa using e1) (by simpa using e2) (by simpa using e3) (by simpa using e4)
theorem VRRs.perm {vs : List V} {rs : List RV} {ps : List Addr} (h : VRRs K H₀ H μ N vs rs ps) : ∀ {kw : List Nat}, kw.Nodup → kw.all (fun i => decide (i < rs.length)) = true →
    ∃ qs, VRRs K H₀ H μ N (perm kw vs) (perm kw rs) qs ∧ ∀ q ∈ qs, ∃ j ∈ kw, ∃ ys, rs[j]? = some (.l ys) ∧ vs[j]? = some (.ref q) := by
  intro kw
  induction kw with
  | nil => exact fun _ _ => ⟨[], .nil, fun q hq => nomatch hq⟩
  | cons i kw ih =>
    intro nd ha
    simp only [List.all_cons, Bool.and_eq_true, decide_eq_true_eq] at ha
    obtain ⟨qs, h1, h2⟩ := ih (List.nodup_cons.mp nd).2 ha.2
    have er : rs[i]? = some rs[i] := List.getElem?_eq_getElem ha.1
    obtain ⟨v, ev, hv, hl⟩ := h.at er
    have p1 : Mi.perm (i :: kw) vs = v :: Mi.perm kw vs := by unfold Mi.perm; rw [List.filterMap_cons, ev]
    have p2 : Mi.perm (i :: kw) rs = rs[i] :: Mi.perm kw rs := by unfold Mi.perm; rw [List.filterMap_cons, er]
    rw [p1, p2]
    generalize rs[i] = r at er hv hl
    cases r with
    | v d => exact ⟨qs, .v hv h1, fun q hq => let ⟨j, hj, z⟩ := h2 q hq; ⟨j, List.mem_cons_of_mem _ hj, z⟩⟩
    | l xs =>
      obtain ⟨p, us, rfl, a, b, c, d⟩ := hv
      refine ⟨p :: qs, .l a b c d (fun hp => ?_) h1, fun q hq => ?_⟩
      · obtain ⟨j, hj, ys, z1, z2⟩ := h2 p hp
        exact h.apart2 (i := i) (j := j) (fun e => (List.nodup_cons.mp nd).1 (by rw [e]; exact hj)) er z1 ev z2 rfl
      · rcases List.mem_cons.mp hq with rfl | hq
        · exact ⟨i, List.mem_cons_self, xs, er, ev⟩
        · obtain ⟨j, hj, z⟩ := h2 q hq
          exact ⟨j, List.mem_cons_of_mem _ hj, z⟩
end
section
variable {X : Cx} {W : XW} {c : Ctx} {cs : List Fn}
theorem tL_split {K : PySem.W.Frag} : ∀ (n : Nat) (es : E) {σ : L2.St} {H : Hp} {Q : List V → Hp → Prop}, tA K W (evs cs es) σ H Q → tL K W cs (takeE n es) σ H fun vs H1 => tA K W (evs cs (dropE n es)) σ H1 fun zs H2 => Q (vs ++ zs) H2
  | 0, es, _, _, _, q => by unfold takeE; exact q
  | n + 1, .cons h t, _, _, _, q => by
    unfold takeE dropE tL
    exact tE_imp (cons_then q) fun x H1 q1 => tL_split n t q1
  | n + 1, .nil, _, _, _, q => by unfold takeE dropE tL; exact q
  | n + 1, .k _, _, _, _, q | n + 1, .x _, _, _, _, q | n + 1, .g _ _, _, _, _, q | n + 1, .tup _, _, _, _, q | n + 1, .lst _, _, _, _, q | n + 1, .dic _ _, _, _, _, q | n + 1, .op1 _ _, _, _, _, q | n + 1, .op2 _ _ _, _, _, _, q | n + 1, .op3 _ _ _ _, _, _, _, q | n + 1, .sl _ _ _, _, _, _, q | n + 1, .and _ _, _, _, _, q | n + 1, .or _ _, _, _, _, q | n + 1, .not _, _, _, _, q | n + 1, .ite _ _ _, _, _, _, q | n + 1, .chain _ _ _ _ _, _, _, _, q | n + 1, .call _ _ _ _, _, _, _, q | n + 1, .comp _ _ _ _ _ _ _, _, _, _, q => by
    obtain ⟨μ, st, ρ, r, er, a⟩ := q
    simp only [evs] at a
    exact a.elim
theorem tA_tL {K : PySem.W.Frag} : ∀ (es : E) {σ : L2.St} {H : Hp} {Q : List V → Hp → Prop}, tA K W (evs cs es) σ H Q → tL K W cs es σ H Q
  | .cons h t, _, _, _, q => by unfold tL; exact tE_imp (cons_then q) fun x H1 q1 => tA_tL t q1
  | .nil, _, _, _, q => by unfold tL; exact nil_then q
  | .k _, _, _, _, q | .x _, _, _, _, q | .g _ _, _, _, _, q | .tup _, _, _, _, q | .lst _, _, _, _, q | .dic _ _, _, _, _, q | .op1 _ _, _, _, _, q | .op2 _ _ _, _, _, _, q | .op3 _ _ _ _, _, _, _, q | .sl _ _ _, _, _, _, q | .and _ _, _, _, _, q | .or _ _, _, _, _, q | .not _, _, _, _, q | .ite _ _ _, _, _, _, q | .chain _ _ _ _ _, _, _, _, q | .call _ _ _ _, _, _, _, q | .comp _ _ _ _ _ _ _, _, _, _, q => by
    obtain ⟨μ, st, ρ, r, er, a⟩ := q
    simp only [evs] at a
    exact a.elim
theorem tL_imp {K : PySem.W.Frag} : ∀ {es : E} {σ : L2.St} {H : Hp} {Q Q' : List V → Hp → Prop}, tL K W cs es σ H Q → (∀ vs H, Q vs H → Q' vs H) → tL K W cs es σ H Q' := by
  intro es
  induction es with
  | nil => intro σ H Q Q' h i; exact i _ _ h
  | cons h t _ ih => intro σ H Q Q' q i; exact tE_imp q fun x H1 q1 => ih q1 fun vs H2 z => i _ _ z
  | _ => intro σ H Q Q' h i; exact False.elim h
theorem Each.pa {es : E} {xs : List Expr} (h : Each X W cs es xs) : PA X xs (tL X.K W cs es) := by
  induction h with
  | nil => exact pa_nil
  | cons a b _ ih => exact pa_cons b ih (star1 a)
theorem Each.noS {es : E} {xs : List Expr} (h : Each X W cs es xs) : xs.all Mi.noS = true := by
  induction h with
  | nil => rfl
  | cons a b _ ih => simp [a, ih]
theorem Each.take {es : E} {ys : List Expr} : ∀ {xs : List Expr}, Each X W cs es (xs ++ ys) → Each X W cs (takeE xs.length es) xs ∧ Each X W cs (dropE xs.length es) ys := by
  intro xs
  induction xs generalizing es with
  | nil => intro h; exact ⟨by show Each X W cs (takeE 0 es) []; unfold takeE; exact .nil, by show Each X W cs (dropE 0 es) ys; unfold dropE; exact h⟩
  | cons x xs ih =>
    intro h
    rw [List.cons_append] at h
    cases h with
    | cons a b r =>
      obtain ⟨h1, h2⟩ := ih r
      exact ⟨by rw [List.length_cons, takeE]; exact .cons a b h1, by rw [List.length_cons, dropE]; exact h2⟩
theorem Each.tA {es : E} {xs : List Expr} (h : Each X W cs es xs) : PA X xs (Mi.tA X.K W (evs cs es)) := pa_imp h.pa fun σ H Q q => tA_tL es q
theorem Each.pk : ∀ {kws : List Keyword} {es : E}, Each X W cs es (kws.map (·.value)) → PK X kws (tL X.K W cs es) := by
  intro kws
  induction kws with
  | nil => intro es h; cases h; exact pk_nil
  | cons k kws ih =>
    intro es h
    cases h with
    | cons a b r =>
      obtain ⟨n, v, p⟩ := k
      exact pk_cons b (ih r)
end
end Mi
end
section
set_option linter.all false
set_option autoImplicit false
set_option maxRecDepth 10000
/-! MiCallE: calls of the module's defs, walked. -/
namespace Mi
open PySem PySem.Spec L2
open PyProof.Rows hiding RelV

def kwNames (kws : List Keyword) : List Str := kws.filterMap (·.arg)
def kwAll (kws : List Keyword) : Bool := kws.all fun k => k.arg.isSome
section
variable {X : Cx} {W : XW} {c : Ctx} {cs : List Fn}
theorem kw_all : ∀ {kws : List Keyword} {env : PySem.Env} {pos : Pos}, kwAll kws = true → (backToKw pos (keywordEach kws env)).all (·.1.isSome) = true ∧ (backToKw pos (keywordEach kws env)).filterMap (·.1) = kwNames kws ∧ (backToKw pos (keywordEach kws env)).any (·.1.isNone) = false
  | [], _, _, _ => ⟨rfl, rfl, rfl⟩
  | ⟨n, v, p⟩ :: kws, env, pos, h => by
    simp only [kwAll, List.all_cons, Bool.and_eq_true] at h
    obtain ⟨h1, h2, h3⟩ := kw_all (kws := kws) (env := env) (pos := pos) h.2
    have e : backToKw pos (keywordEach (⟨n, v, p⟩ :: kws) env) = (n, do let v ← eval v env; standAt pos; pure v) :: backToKw pos (keywordEach kws env) := rfl
    rw [e]
    cases n with
    | none => simp at h
    | some n =>
      refine ⟨by simp only [List.all_cons, h1]; rfl, ?_, by simp only [List.any_cons, h3]; rfl⟩
      rw [List.filterMap_cons]
      simp only [h2]
      rfl
theorem kw_len {kws : List Keyword} (h : kwAll kws = true) : (kwNames kws).length = kws.length := by
  induction kws with
  | nil => rfl
  | cons k kws ih =>
    simp only [kwAll, List.all_cons, Bool.and_eq_true] at h
    unfold kwNames
    rw [List.filterMap_cons]
    cases e : k.arg with
    | none => rw [e] at h; simp at h
    | some n => simp only [List.length_cons]; exact congrArg (· + 1) (ih h.2)
theorem vals_perm {vs : List V} {us : List Value} (rr : L2.Vals vs us) : ∀ kw : List Nat, L2.Vals (perm kw vs) (perm kw us)
  | [] => .nil
  | i :: kw => by
    have ih := vals_perm rr kw
    unfold perm at ih ⊢
    rw [List.filterMap_cons, List.filterMap_cons]
    cases e : vs[i]? with
    | none =>
      have : us[i]? = none := by
        rw [List.getElem?_eq_none_iff] at e ⊢
        rw [← rr.length]; exact e
      rw [this]
      exact ih
    | some v =>
      obtain ⟨u, eu, ru⟩ := rr.get e
      rw [eu]
      exact .cons ru ih
theorem lens {es : E} {xs : List Expr} (h : Each X W cs es xs) : ∀ {K : PySem.W.Frag} {σ : L2.St} {H : Hp} {Q : List V → Hp → Prop}, tL K W cs es σ H Q → tL K W cs es σ H fun vs H1 => vs.length = xs.length ∧ Q vs H1 := by
  induction h with
  | nil => exact fun q => ⟨rfl, q⟩
  | @cons h t x xs a b _ ih =>
    intro K σ H Q q
    unfold tL at q ⊢
    exact tE_imp q fun y H1 q1 => tL_imp (ih q1) fun vs H2 z => ⟨by rw [List.length_cons, List.length_cons, z.1], z.2⟩
/-- what stands behind the arguments -/
theorem call_then {m : Bool} {j : Nat} {kw : List Nat} {es : E} {F : Fn} {K : PySem.W.Frag} {σ : L2.St} {H : Hp} {Q : VK} (hF : cs[j]? = some F) (h : tE K W (ev cs (.call m j kw es)) σ H Q) :
    tA K W (evs cs es) σ H fun vs H1 => ∃ μ₀ st₀ H₀ μ st rs ps, Rel K H₀ μ₀ st₀ ∧ Post K μ₀ st₀ H₀ μ st H1 ∧ VRRs K H₀ H1 μ st.length vs rs ps ∧ After K W μ₀ st₀ H₀ (runCall m F (permute kw rs) st) Q :=
  args_then (g := fun rs st => runCall m F (permute kw rs) st) (fun ρ st => by rw [ev, hF]) h
theorem n_call {m : Bool} {j : Nat} {es : E} {fd : Fd} {p pos : Pos} {args : List Expr} (g : Good X W c cs) (hj : c.fs[j]? = some fd) (hgl : glB c fd.name = true) (he : Each X W cs es args) : PE X (.Call (.Name fd.name p) args [] pos) (tE X.K W (ev cs (.call m j [] es))) := by
  refine ⟨fun pins s σ H Q I h => ?_⟩
  obtain ⟨F, f, d, hF, cal⟩ := g.fs j fd hj
  obtain ⟨b1, b2, b3⟩ := glB_ok g hgl
  have q := call_then hF h
  have fin : ∀ {us : List Value} {vs : List V} {s1 : Shared} {H1 : Hp}, Inv X pins σ H1 s1 → L2.Vals vs us → (∃ μ₀ st₀ H₀ μ st rs ps, Rel X.K H₀ μ₀ st₀ ∧ Post X.K μ₀ st₀ H₀ μ st H1 ∧ VRRs X.K H₀ H1 μ st.length vs rs ps ∧ After X.K W μ₀ st₀ H₀ (runCall m F (permute [] rs) st) Q) → wpAny (model X.prog X.w) X.A (call (.ref f) us) (EP X pins σ Q) X.xe s1 := fun {us vs s1 H1} I1 rv z => by
    obtain ⟨μ₀, st₀, H₀, μ, st, rs, ps, R, P, hv, a⟩ := z
    obtain ⟨ds, μ', st', U, R', hd, a', xs⟩ := run_ok P hv a
    exact call_fn (g.xt.sub xs) cal.fn g.room g.gu cal.bi I1 rv R' hd a'
  refine wpAny_Call_Name_kw (ld_glob I b1 cal.mg ?_ b2)
  cases args with
  | nil =>
    cases he
    exact PySem.W.callWith_K0 I.kIn cal.kp (fin (us := []) I .nil (nil_then q))
  | cons x xs =>
    have hs := he.noS
    simp only [List.all_cons, Bool.and_eq_true] at hs
    refine PySem.W.callWith_K (h₀ := X.base) I.ok.mod.kin cal.kp (thn (he.tA.run pos pins s σ H _ I q) fun us s1 ⟨vs, H1, I1, r, z⟩ => ⟨I1.kIn, ?_⟩) (star1 hs.1) (starA hs.2)
    exact fin I1 r z
theorem n_callK {m : Bool} {j : Nat} {kw : List Nat} {es : E} {fd : Fd} {p pos : Pos} {args : List Expr} {kws : List Keyword} (g : Good X W c cs) (hj : c.fs[j]? = some fd) (hgl : glB c fd.name = true) (he : Each X W cs es (args ++ kws.map (·.value)))
    (hall : kwAll kws = true) (hk : (args.length, kwNames kws, kw) ∈ fd.kws) (hn : kw ≠ []) (nd : kw.Nodup) (hlt : kw.all (fun i => decide (i < args.length + kws.length)) = true) : PE X (.Call (.Name fd.name p) args kws pos) (tE X.K W (ev cs (.call m j kw es))) := by
  refine ⟨fun pins s σ H Q I h => ?_⟩
  obtain ⟨F, f, d, hF, cal⟩ := g.fs j fd hj
  obtain ⟨b1, b2, b3⟩ := glB_ok g hgl
  have q := call_then hF h
  obtain ⟨he1, he2⟩ := he.take
  obtain ⟨k1, k2, k3⟩ := kw_all (env := X.env) (pos := pos) hall
  have hz : kws.map (·.value) = kws.map (·.value) ++ [] := by simp
  have hpm : ∀ rs : List RV, permute kw rs = perm kw rs := fun rs => by cases kw with
    | nil => exact absurd rfl hn
    | cons _ _ => rfl
  have q2 := tL_split args.length es q
  have fin : ∀ {us ws : List Value} {vs zs : List V} {s1 : Shared} {H1 : Hp}, Inv X pins σ H1 s1 → L2.Vals vs us → L2.Vals zs ws → us.length = args.length → ws.length = kws.length → (∃ μ₀ st₀ H₀ μ st rs ps, Rel X.K H₀ μ₀ st₀ ∧ Post X.K μ₀ st₀ H₀ μ st H1 ∧ VRRs X.K H₀ H1 μ st.length (vs ++ zs) rs ps ∧ After X.K W μ₀ st₀ H₀ (runCall m F (permute kw rs) st) Q) →
      wpAny (model X.prog X.w) X.A (call (.ref f) us ((kwNames kws).zip ws)) (EP X pins σ Q) X.xe s1 := fun {us ws vs zs s1 H1} I1 rv rz hl1 hl2 z => by
    obtain ⟨μ₀, st₀, H₀, μ, st, rs, ps, R, P, hv, a⟩ := z
    have hlen := hv.len
    have hl3 : rs.length = args.length + kws.length := by rw [hlen, List.length_append, rv.length, rz.length, hl1, hl2]
    obtain ⟨qs, hp, _⟩ := hv.perm nd (by rw [hl3]; exact hlt)
    rw [hpm] at a
    obtain ⟨ds, μ', st', U, R', hd, a', xs⟩ := run_ok P hp a
    have bt : BindsTo s1 d ⟨us, (kwNames kws).zip ws⟩ (fd.ps.zip (perm kw (us ++ ws))) := .of_eq (cal.kw _ hk us ws hl1 (by rw [hl2, kw_len hall]))
    have rp : L2.Vals (perm kw (vs ++ zs)) (perm kw (us ++ ws)) := vals_perm (rv.append rz) kw
    refine wpAny_call (codeAny_mono (cal.fn.run X.A X.stack s1 H1 _ _ _ ds μ' st' U Q g.room g.gu I1.env0 bt rp R' hd a') fun r s' hq => ?_)
    have := cr_ep (g.xt.sub xs) I1 hq
    rcases r with e | fl
    · exact this
    · cases fl <;> first | exact this | exact this.elim
  refine wpAny_Call_Name_kw (ld_glob I b1 cal.mg ?_ b2)
  have he2' : Each X W cs (dropE args.length es) (kws.map (·.value)) := he2
  cases args with
  | nil =>
    have q3 : tA X.K W (evs cs es) σ H fun zs H2 => ∃ μ₀ st₀ H₀ μ st rs ps, Rel X.K H₀ μ₀ st₀ ∧ Post X.K μ₀ st₀ H₀ μ st H2 ∧ VRRs X.K H₀ H2 μ st.length ([] ++ zs) rs ps ∧ After X.K W μ₀ st₀ H₀ (runCall m F (permute kw rs) st) Q := q
    refine PySem.W.callWith_KW0 (h₀ := X.base) I.ok.mod.kin cal.kp k1 (thn (he2'.pk.run pos pins s σ H _ I (lens he2' (tA_tL _ q3))) fun ws s2 ⟨zs, H2, I2, rz, hl, z⟩ => ⟨I2.kIn, ?_⟩) (by rw [k3]; rfl)
    rw [k2]
    exact fin (us := []) (vs := []) I2 .nil rz rfl (by rw [← rz.length, hl]; simp) z
  | cons x xs =>
    have hs := he1.noS
    simp only [List.all_cons, Bool.and_eq_true] at hs
    refine PySem.W.callWith_KW (h₀ := X.base) I.ok.mod.kin cal.kp k1 (thn (he1.pa.run pos pins s σ H _ I (lens he1 q2)) fun us s1 ⟨vs, H1, I1, r, hl1, z⟩ => ?_) (by rw [star1 hs.1, k3]; simp [backTo]; simpa [backTo] using starA (env := X.env) (pos := pos) hs.2) (star1 hs.1)
    refine thn (he2'.pk.run pos pins s1 σ H1 _ I1 (lens he2' (tA_tL _ z))) fun ws s2 ⟨zs, H2, I2, rz, hl2, z⟩ => ⟨I2.kIn, ?_⟩
    rw [k2]
    exact fin (us := us) I2 r rz (by rw [← r.length, hl1]) (by rw [← rz.length, hl2]; simp) z
end
end Mi
end
section
set_option linter.all false
set_option autoImplicit false
set_option maxRecDepth 10000
/-! MiChk: the look that an expression is Mini's. -/
namespace Mi
open PySem PySem.Spec L2
open PyProof.Rows hiding RelV

mutual
def chk : E → Ctx → Expr → Bool
  | .k v, _, x => match x with
    | .Constant k _ _ => chkK v k
    | _ => false
  | .x i, c, x => match x with
    | .Name n _ => decide (c.N[i]? = some n) && visB c.sc n && okName n
    | _ => false
  | .g nm v, c, x => match x with
    | .Name n _ => (toStr nm == n) && glB c n && decide ((nm, v) ∈ c.gs)
    | _ => false
  | .tup es, c, x => match x with
    | .Tuple xs _ _ => chks es c xs
    | _ => false
  | .lst es, c, x => match x with
    | .List xs _ => chks es c xs
    | _ => false
  | .dic t es, c, x => match x with
    | .Dict ks vs _ => !t && ((isNil es && ks.isEmpty && vs.isEmpty) || (evenE es && ks.all (·.isSome) && (ks.length == vs.length) && !ks.isEmpty && decide (ks.length ≤ 15) && chkd es c ks vs))
    | _ => false
  | .op1 o a, c, x => match v1 c o x with
    | some e => chk a c e
    | none => match v1r c o x with
      | some e => chk a c e
      | none => false
  | .op2 o a b, c, x => match v2 o x with
    | some p => chk a c p.1 && chk b c p.2
    | none => match v2b c o x with
      | some p => chk a c p.1 && chk b c p.2
      | none => match v2r c o x with
        | some p => chk a c p.1 && chk b c p.2
        | none => false
  | .op3 o a b d, c, x => match v3 o x with
    | some p => chk a c p.1 && chk b c p.2.1 && chk d c p.2.2
    | none => false
  | .sl a lo hi, c, x => match x with
    | .Subscript xa (.Slice xl xh none _) _ => chk a c xa && (match xl with
      | none => isNil lo
      | some y => !isNil lo && chk lo c y) && (match xh with
      | none => isNil hi
      | some y => !isNil hi && chk hi c y)
    | _ => false
  | .and a b, c, x => match vAnd x with
    | some p => chk a c p.1 && chk b c p.2
    | none => false
  | .or a b, c, x => match vOr x with
    | some p => chk a c p.1 && chk b c p.2
    | none => false
  | .not a, c, x => match x with
    | .UnaryOp .Not e _ => chk a c e
    | _ => false
  | .ite d a b, c, x => match x with
    | .IfExp xd xa xb _ => chk d c xd && chk a c xa && chk b c xb
    | _ => false
  | .chain o q a b d, c, x => match vChain o q x with
    | some p => chk a c p.1 && chk b c p.2.1 && chk d c p.2.2
    | none => false
  | .call m j kw es, c, x => match x with
    | .Call (.Name f _) args kws _ => match c.fs[j]? with
      | some fd => (fd.name == f) && glB c fd.name && chks es c (args ++ kws.map (·.value)) && ((kws.isEmpty && kw.isEmpty) || (kwAll kws && decide ((args.length, kwNames kws, kw) ∈ fd.kws) && !kw.isEmpty && decide kw.Nodup && kw.all (fun i => decide (i < args.length + kws.length))))
      | none => false
    | _ => false
  | .comp own t k a b d e, c, x => match x with
    | .ListComp elt [⟨tg, iter, ifs, 0⟩] scope _ => match vI c k iter with
      | some p => pairT k tg && chk a c p.1 && (match p.2 with
        | none => isNil b
        | some y => !isNil b && chk b c y) && own.all (fun i => decide (i < c.N.length)) && blkC c.N c.sc scope (ownB c own) && t.slots.all (fun i => own.contains i) && chkTM t (c.blk scope) tg && (match ifs with
        | [] => isNil d
        | [y] => !isNil d && chk d (c.blk scope) y
        | _ => false) && chk e (c.blk scope) elt
      | none => false
    | _ => false
  | .nil, _, _ => false
  | .cons _ _, _, _ => false
def chks : E → Ctx → List Expr → Bool
  | .nil, _, xs => xs.isEmpty
  | .cons h t, c, xs => match xs with
    | x :: xs => noS x && chk h c x && chks t c xs
    | [] => false
  | _, _, _ => false
def chkd : E → Ctx → List (Option Expr) → List Expr → Bool
  | .nil, _, ks, vs => ks.isEmpty && vs.isEmpty
  | .cons h (.cons h2 t), c, ks, vs => match ks, vs with
    | some k :: ks, v :: vs => chk h c k && chk h2 c v && chkd t c ks vs
    | _, _ => false
  | _, _, _, _ => false
end
theorem isNil_eq {e : E} (h : isNil e = true) : e = .nil := by cases e <;> first | rfl | cases h
theorem n_g {X : Cx} {W : XW} {c : Ctx} {cs : List Fn} {nm : List Nat} {v : Val} {pos : Pos} (g : Good X W c cs) (hg : glB c (toStr nm) = true) (hm : (nm, v) ∈ c.gs) : PE X (.Name (toStr nm) pos) (tE X.K W (ev cs (.g nm v))) := by
  obtain ⟨u, w, h1, h2, h3⟩ := g.gs _ hm
  obtain ⟨b1, b2, _⟩ := glB_ok g hg
  exact n_c (pe_glob b1 h1 h2 b2) (fun _ _ => rfl) h3
mutual
theorem chk_ok {cs : List Fn} : ∀ (e : E) {X : Cx} {W : XW} {c : Ctx} {x : Expr}, Good X W c cs → chk e c x = true → PQ X W x (ev cs e)
  | .k v, X, W, c, x, g, h => by
    cases x <;> simp only [chk] at h <;> first | cases h | skip
    exact pq_plain (n_k h) rfl
  | .x i, X, W, c, x, g, h => by
    cases x <;> simp only [chk] at h <;> first | cases h | skip
    simp only [Bool.and_eq_true, decide_eq_true_eq] at h
    exact pq_plain (n_x (by rw [g.N]; exact h.1.1) (by rw [g.sc]; exact h.1.2) h.2) rfl
  | .g nm v, X, W, c, x, g, h => by
    cases x <;> simp only [chk] at h <;> first | cases h | skip
    simp only [Bool.and_eq_true, decide_eq_true_eq] at h
    obtain ⟨⟨h1, h2⟩, h3⟩ := h
    obtain rfl := eq_of_beq h1
    exact pq_plain (n_g g h2 h3) rfl
  | .tup es, X, W, c, x, g, h => by
    cases x <;> simp only [chk] at h <;> first | cases h | skip
    exact pq_plain (n_tupM (chks_ok es g h).tA) rfl
  | .lst es, X, W, c, x, g, h => by
    cases x <;> simp only [chk] at h <;> first | cases h | skip
    exact pq_plain (n_lstM (chks_ok es g h).tA) rfl
  | .dic t es, X, W, c, x, g, h => by
    cases x <;> simp only [chk] at h <;> first | cases h | skip
    simp only [Bool.and_eq_true, Bool.or_eq_true, Bool.not_eq_true', decide_eq_true_eq, List.isEmpty_iff] at h
    obtain ⟨rfl, h⟩ := h
    rcases h with ⟨⟨h1, rfl⟩, rfl⟩ | ⟨⟨⟨⟨⟨h1, h2⟩, h3⟩, h4⟩, h5⟩, h6⟩
    · rw [isNil_eq h1]
      exact pq_plain n_dic0 rfl
    · exact pq_plain (n_dic h1 (chkd_ok es g h6) h2 (eq_of_beq h3) (by intro e; rw [e] at h4; cases h4) h5) rfl
  | .op1 o a, X, W, c, x, g, h => by
    simp only [chk] at h
    split at h
    · rename_i e he
      exact v1_ok g he (chk_ok a g h).e
    · split at h
      · rename_i e he
        exact v1r_ok g he (chk_ok a g h).e
      · cases h
  | .op2 o a b, X, W, c, x, g, h => by
    simp only [chk] at h
    split at h
    · rename_i p hp
      simp only [Bool.and_eq_true] at h
      exact v2_ok g.units hp (chk_ok a g h.1).e (chk_ok b g h.2).e
    · split at h
      · rename_i p hp
        simp only [Bool.and_eq_true] at h
        exact v2b_ok g hp (chk_ok a g h.1).e (chk_ok b g h.2).e
      · split at h
        · rename_i p hp
          simp only [Bool.and_eq_true] at h
          exact v2r_ok g hp (chk_ok a g h.1).e (chk_ok b g h.2).e
        · cases h
  | .op3 o a b d, X, W, c, x, g, h => by
    simp only [chk] at h
    split at h
    · rename_i p hp
      simp only [Bool.and_eq_true] at h
      exact v3_ok hp (chk_ok a g h.1.1).e (chk_ok b g h.1.2).e (chk_ok d g h.2).e
    · cases h
  | .sl a lo hi, X, W, c, x, g, h => by
    simp only [chk] at h
    split at h
    · rename_i xa xl xh _ _
      simp only [Bool.and_eq_true] at h
      obtain ⟨⟨h1, h2⟩, h3⟩ := h
      refine n_sl (chk_ok a g h1).e ?_ ?_
      · cases xl with
        | none => rw [isNil_eq h2]; exact n_opt0
        | some y =>
          simp only [Bool.and_eq_true, Bool.not_eq_true'] at h2
          exact n_opt1 h2.1 (chk_ok lo g h2.2).e
      · cases xh with
        | none => rw [isNil_eq h3]; exact n_opt0
        | some y =>
          simp only [Bool.and_eq_true, Bool.not_eq_true'] at h3
          exact n_opt1 h3.1 (chk_ok hi g h3.2).e
    · cases h
  | .and a b, X, W, c, x, g, h => by
    simp only [chk] at h
    split at h
    · rename_i p hp
      simp only [Bool.and_eq_true] at h
      exact n_and hp (chk_ok a g h.1) (chk_ok b g h.2)
    · cases h
  | .or a b, X, W, c, x, g, h => by
    simp only [chk] at h
    split at h
    · rename_i p hp
      simp only [Bool.and_eq_true] at h
      exact n_or hp (chk_ok a g h.1) (chk_ok b g h.2)
    · cases h
  | .not a, X, W, c, x, g, h => by
    simp only [chk] at h
    split at h
    · exact n_not (chk_ok a g h)
    · cases h
  | .ite d a b, X, W, c, x, g, h => by
    simp only [chk] at h
    split at h
    · simp only [Bool.and_eq_true] at h
      exact n_ite (chk_ok d g h.1.1) (chk_ok a g h.1.2) (chk_ok b g h.2)
    · cases h
  | .chain o q a b d, X, W, c, x, g, h => by
    simp only [chk] at h
    split at h
    · rename_i p hp
      simp only [Bool.and_eq_true] at h
      exact n_chain g.units hp (chk_ok a g h.1.1).e (chk_ok b g h.1.2).e (chk_ok d g h.2).e
    · cases h
  | .call m j kw es, X, W, c, x, g, h => by
    simp only [chk] at h
    split at h
    · split at h
      · rename_i fd hfd
        simp only [Bool.and_eq_true, Bool.or_eq_true, Bool.not_eq_true', decide_eq_true_eq, List.isEmpty_iff] at h
        obtain ⟨⟨⟨h1, h2⟩, h3⟩, h4⟩ := h
        obtain rfl := eq_of_beq h1
        rcases h4 with ⟨rfl, rfl⟩ | ⟨⟨⟨⟨h4, h5⟩, h6⟩, h7⟩, h8⟩
        · rw [List.map_nil, List.append_nil] at h3
          exact pq_plain (n_call g hfd h2 (chks_ok es g h3)) rfl
        · exact pq_plain (n_callK g hfd h2 (chks_ok es g h3) h4 h5 (by intro e; rw [e] at h6; cases h6) h7 h8) rfl
      · cases h
    · cases h
  | .comp own t k a b d e, X, W, c, x, g, h => by
    simp only [chk] at h
    split at h
    · split at h
      · rename_i tg iter ifs scope _ p hp
        simp only [Bool.and_eq_true] at h
        obtain ⟨⟨⟨⟨⟨⟨⟨⟨h1, h2⟩, h3⟩, h4⟩, h5⟩, h6⟩, h7⟩, h8⟩, h9⟩ := h
        obtain ⟨xa, ob⟩ := p
        refine pq_plain (n_comp g (vI_ok g hp h1 (chk_ok a g h2).e ?_) (vI_set hp) h4 h5 h6 h7 ?_ fun s H C cl fp => (chk_ok e g.blk h9).e) rfl
        · cases ob with
          | none => exact isNil_eq h3
          | some y =>
            simp only [Bool.and_eq_true, Bool.not_eq_true'] at h3
            exact ⟨h3.1, (chk_ok b g h3.2).e⟩
        · intro s H C cl fp
          split at h8
          · rw [isNil_eq h8]
            exact n_if0
          · simp only [Bool.and_eq_true, Bool.not_eq_true'] at h8
            exact n_if1 h8.1 (chk_ok d g.blk h8.2).t
          · cases h8
      · cases h
    · cases h
  | .nil, X, W, c, x, g, h => by simp [chk] at h
  | .cons _ _, X, W, c, x, g, h => by simp [chk] at h
theorem chks_ok {cs : List Fn} : ∀ (e : E) {X : Cx} {W : XW} {c : Ctx} {xs : List Expr}, Good X W c cs → chks e c xs = true → Each X W cs e xs
  | .nil, X, W, c, xs, g, h => by
    simp only [chks, List.isEmpty_iff] at h
    subst h
    exact .nil
  | .cons a t, X, W, c, xs, g, h => by
    cases xs with
    | nil => simp [chks] at h
    | cons x xs =>
      simp only [chks, Bool.and_eq_true] at h
      exact .cons h.1.1 (chk_ok a g h.1.2).e (chks_ok t g h.2)
  | .k _, X, W, c, xs, g, h | .x _, X, W, c, xs, g, h | .g _ _, X, W, c, xs, g, h | .tup _, X, W, c, xs, g, h | .lst _, X, W, c, xs, g, h | .dic _ _, X, W, c, xs, g, h | .op1 _ _, X, W, c, xs, g, h | .op2 _ _ _, X, W, c, xs, g, h | .op3 _ _ _ _, X, W, c, xs, g, h | .sl _ _ _, X, W, c, xs, g, h | .and _ _, X, W, c, xs, g, h | .or _ _, X, W, c, xs, g, h | .not _, X, W, c, xs, g, h | .ite _ _ _, X, W, c, xs, g, h | .chain _ _ _ _ _, X, W, c, xs, g, h | .call _ _ _ _, X, W, c, xs, g, h | .comp _ _ _ _ _ _ _, X, W, c, xs, g, h => by simp [chks] at h
theorem chkd_ok {cs : List Fn} : ∀ (e : E) {X : Cx} {W : XW} {c : Ctx} {ks : List (Option Expr)} {vs : List Expr} {pos : Pos}, Good X W c cs → chkd e c ks vs = true → PPs X pos ks vs (trsOf X.K W cs e)
  | .nil, X, W, c, ks, vs, pos, g, h => by
    simp only [chkd, Bool.and_eq_true, List.isEmpty_iff] at h
    obtain ⟨rfl, rfl⟩ := h
    exact pps_nil
  | .cons a (.cons b t), X, W, c, ks, vs, pos, g, h => by
    simp only [chkd] at h
    split at h
    · simp only [Bool.and_eq_true] at h
      unfold trsOf
      exact pps_cons (chk_ok a g h.1.1).e (chk_ok b g h.1.2).e (chkd_ok t g h.2)
    · cases h
  | .cons a .nil, X, W, c, ks, vs, pos, g, h => by simp [chkd] at h
  | .cons a (.k _), X, W, c, ks, vs, pos, g, h | .cons a (.x _), X, W, c, ks, vs, pos, g, h | .cons a (.g _ _), X, W, c, ks, vs, pos, g, h | .cons a (.tup _), X, W, c, ks, vs, pos, g, h | .cons a (.lst _), X, W, c, ks, vs, pos, g, h | .cons a (.dic _ _), X, W, c, ks, vs, pos, g, h | .cons a (.op1 _ _), X, W, c, ks, vs, pos, g, h | .cons a (.op2 _ _ _), X, W, c, ks, vs, pos, g, h | .cons a (.op3 _ _ _ _), X, W, c, ks, vs, pos, g, h | .cons a (.sl _ _ _), X, W, c, ks, vs, pos, g, h | .cons a (.and _ _), X, W, c, ks, vs, pos, g, h | .cons a (.or _ _), X, W, c, ks, vs, pos, g, h | .cons a (.not _), X, W, c, ks, vs, pos, g, h | .cons a (.ite _ _ _), X, W, c, ks, vs, pos, g, h | .cons a (.chain _ _ _ _ _), X, W, c, ks, vs, pos, g, h | .cons a (.call _ _ _ _), X, W, c, ks, vs, pos, g, h | .cons a (.comp _ _ _ _ _ _ _), X, W, c, ks, vs, pos, g, h => by simp [chkd] at h
  | .k _, X, W, c, ks, vs, pos, g, h | .x _, X, W, c, ks, vs, pos, g, h | .g _ _, X, W, c, ks, vs, pos, g, h | .tup _, X, W, c, ks, vs, pos, g, h | .lst _, X, W, c, ks, vs, pos, g, h | .dic _ _, X, W, c, ks, vs, pos, g, h | .op1 _ _, X, W, c, ks, vs, pos, g, h | .op2 _ _ _, X, W, c, ks, vs, pos, g, h | .op3 _ _ _ _, X, W, c, ks, vs, pos, g, h | .sl _ _ _, X, W, c, ks, vs, pos, g, h | .and _ _, X, W, c, ks, vs, pos, g, h | .or _ _, X, W, c, ks, vs, pos, g, h | .not _, X, W, c, ks, vs, pos, g, h | .ite _ _ _, X, W, c, ks, vs, pos, g, h | .chain _ _ _ _ _, X, W, c, ks, vs, pos, g, h | .call _ _ _ _, X, W, c, ks, vs, pos, g, h | .comp _ _ _ _ _ _ _, X, W, c, ks, vs, pos, g, h => by simp [chkd] at h
end
end Mi
end
section
set_option linter.all false
set_option autoImplicit false
set_option maxRecDepth 10000
/-! MiAsg: stores. -/
namespace Mi
open PySem PySem.Spec L2
open PyProof.Rows hiding RelV

def AfterU (K : PySem.W.Frag) (W : XW) (μ : Mu) (st : Store) (H : Hp) (c : Res Unit) (Q : Hp → Prop) : Prop := match c with
  | .ok _ st' => ∀ μ' H', Post K μ st H μ' st' H' → Q H'
  | .exc c p st' => ∀ μ' H', Post K μ st H μ' st' H' → W c p μ' st' H'
  | .bad => False
def AfterG (K : PySem.W.Frag) (W : XW) (μ : Mu) (st : Store) (H : Hp) (c : Res Env) (Q : L2.St → Hp → Prop) : Prop := match c with
  | .ok ρ st' => ∀ μ' H', Post K μ st H μ' st' H' → ∀ σ', ER K H' μ' st'.length σ' ρ → Q σ' H'
  | .exc c p st' => ∀ μ' H', Post K μ st H μ' st' H' → W c p μ' st' H'
  | .bad => False
section
variable {K : PySem.W.Frag} {W : XW} {H H' H₀ : Hp} {μ μ' μ₀ : Mu} {st st' st₀ : Store} {σ : L2.St} {ρ : Env} {N : Nat}
theorem AfterU.step {c : Res Unit} {Q : Hp → Prop} (P : Post K μ₀ st₀ H₀ μ st H) (a : AfterU K W μ₀ st₀ H₀ c Q) : AfterU K W μ st H c Q := by
  cases c with
  | ok r st' => exact fun μ' H' P' => a μ' H' (P.trans P')
  | exc c p st' => exact fun μ' H' P' => a μ' H' (P.trans P')
  | bad => exact a
theorem AfterG.step {c : Res Env} {Q : L2.St → Hp → Prop} (P : Post K μ₀ st₀ H₀ μ st H) (a : AfterG K W μ₀ st₀ H₀ c Q) : AfterG K W μ st H c Q := by
  cases c with
  | ok r st' => exact fun μ' H' P' => a μ' H' (P.trans P')
  | exc c p st' => exact fun μ' H' P' => a μ' H' (P.trans P')
  | bad => exact a
/-- what comes behind an expression's value -/
theorem tE_map {cs : List Fn} {e : E} {Q : VK} {R : Hp → V → Prop} {g : RV → Store → Res Out} {D : Ends} (h : tS K W (fun ρ st => (ev cs e ρ st).bind g) D σ H)
    (k : ∀ (μ : Mu) (st : Store) (ρ : Env) (r : RV) (μ1 : Mu) (st1 : Store) (H1 : Hp) (v : V), Rel K H μ st → ER K H μ st.length σ ρ → Post K μ st H μ1 st1 H1 → VRR K H H1 μ1 st1.length v r → AfterS K W μ st H (g r st1) D → Q v H1) : tE K W (ev cs e) σ H Q := by
  obtain ⟨μ, st, ρ, r, er, a⟩ := h
  refine ⟨μ, st, ρ, r, er, ?_⟩
  dsimp only at a
  cases he : ev cs e ρ st with
  | bad => rw [he] at a; exact a
  | exc c p st' => rw [he] at a; exact a
  | ok x st1 => rw [he] at a; exact fun μ1 H1 v P1 hv => k μ st ρ x μ1 st1 H1 v r er P1 hv a
end
section
variable {X : Cx} {W : XW} {c : Ctx} {cs : List Fn}
/-- o[i] = v by values -/
def rset (X : Cx) : TSet := fun o i v H Q => ∃ (W : XW) (μ₀ : Mu) (st₀ : Store) (H₀ : Hp) (μ : Mu) (st : Store) (r q : RV) (d : Val), Post X.K μ₀ st₀ H₀ μ st H ∧ VRR X.K H₀ H μ st.length o r ∧ VRR X.K H₀ H μ st.length i q ∧ VR X.K H μ st.length v d ∧ AfterU X.K W μ₀ st₀ H₀ (fset r q d st) Q
theorem set_any (hu : X.A.units + 64 < cLine) : PSet X (rset X) := by
  intro pins s σ H o i v ov iv u Q I ro ri rv h
  obtain ⟨W, μ₀, st₀, H₀, μ, st, r, q, d, P, h1, h2, h3, a⟩ := h
  unfold fset at a
  cases q with
  | l _ => exact a.elim
  | v k =>
    dsimp only at a
    split at a
    · rename_i n xs j e
      obtain ⟨vs, rfl, e1, rfl, e2, e3⟩ := mutAt_ok P.rel h1 e
      split at a
      · rename_i m em
        obtain ⟨P2, k2⟩ := P.lst e1 (VRs.set h3 m e3)
        have ei := (nr_v h2).i_int
        subst ei
        exact L2.set_list pins s σ H _ _ v ov iv u Q I ro ri rv ⟨_, vs, j, m, rfl, rfl, e2, by rw [VRs.length e3, ← ix_eq]; exact em, a μ _ P2⟩
      · exact a.elim
    · exact a.elim
    · rename_i e
      split at a
      · rename_i n t kvs ed
        split at a
        · rename_i hz
          obtain ⟨hk, hz⟩ := hz
          cases t with
          | true => simp [keyOk] at hk
          | false =>
            obtain ⟨rfl, he, rfl, l, el, hl⟩ := dicAt_ok P.rel h1 ed
            have hn := (List.getElem?_eq_some_iff.mp he).1
            obtain ⟨kk, e4, rfl⟩ := key_of_val hk (nr_v h2)
            subst e4
            obtain ⟨P2, k2⟩ := P.write (o := .dic false (kput kvs (keyVal kk) d)) (u' := .dK (putK l kk v)) hn el (fun _ z => nomatch z) (fun _ _ z => nomatch z) fun k => ⟨_, upd_same, (dr_put hl h3).keep k⟩
            exact L2.set_dict (by omega) pins s σ H _ _ v ov iv u Q I ro ri rv ⟨_, _, rfl, DPut.k el (by rw [← hl.length]; exact hz), a μ _ P2⟩
        · exact a.elim
      · exact a.elim
/-! ### targets -/
def gG (K : PySem.W.Frag) (W : XW) (cs : List Fn) (g : G) : TG := fun v σ H Q => ∃ d μ st ρ, Rel K H μ st ∧ ER K H μ st.length σ ρ ∧ VR K H μ st.length v d ∧ AfterG K W μ st H (setG cs g d ρ st) Q
def gGs (K : PySem.W.Frag) (W : XW) (cs : List Fn) (g : G) : TGs := fun v σ H Q => ∃ d μ st ρ, Rel K H μ st ∧ ER K H μ st.length σ ρ ∧ VRs K H μ st.length v d ∧ AfterG K W μ st H (setGs cs g d ρ st) Q
mutual
def chkG : G → Ctx → Expr → Bool
  | .tg t, c, x => chkTM t c x
  | .mv i _, c, x => chkTM (.sl i) c x
  | .un ts, c, x => match x with
    | .Tuple es _ _ => chkTs ts c es
    | _ => false
  | .sub o i, c, x => match x with
    | .Subscript xo xi _ => noSlice xi && chk o c xo && chk i c xi
    | _ => false
  | .cons g gs, c, x => match x with
    | .Tuple es _ _ => chkGs (.cons g gs) c es
    | _ => false
  | .nil, _, _ => false
def chkGs : G → Ctx → List Expr → Bool
  | .nil, _, xs => xs.isEmpty
  | .cons g gs, c, xs => match xs with
    | x :: xs => noS x && chkG g c x && chkGs gs c xs
    | [] => false
  | _, _, _ => false
end
theorem chkGs_s : ∀ {gs : G} {xs : List Expr}, chkGs gs c xs = true → xs.all noS = true ∧ xs.length = gs.len := by
  intro gs
  induction gs with
  | tg t => intro xs h; simp [chkGs] at h
  | un t => intro xs h; simp [chkGs] at h
  | mv i j => intro xs h; simp [chkGs] at h
  | sub o i => intro xs h; simp [chkGs] at h
  | nil => intro xs h; simp [chkGs] at h; subst h; exact ⟨rfl, rfl⟩
  | cons g gs _ ih =>
    intro xs h
    cases xs with
    | nil => simp [chkGs] at h
    | cons x xs =>
      simp only [chkGs, Bool.and_eq_true] at h
      obtain ⟨h1, h2⟩ := ih h.2
      exact ⟨by simp [h.1.1, h1], by simp [G.len, h2]⟩
theorem sub_assign {X : Cx} {o i : Expr} {pos : Pos} (h : noSlice i = true) : ∀ v, assign (.Subscript o i pos) X.env v = (do
      let ov ← holding [v] (eval o X.env)
      let iv ← holding [v, ov] (eval i X.env)
      standAt pos
      holding [v, ov, iv] (setItem ov iv v)
      release [v, ov, iv] []) := by
  intro v
  cases i <;> first | rfl | cases h
theorem AfterG.then {K : PySem.W.Frag} {W : XW} {μ₀ μ : Mu} {st₀ st : Store} {H₀ H : Hp} {σ : L2.St} {ρ : Env} {cs : List Fn} {e : E} {g : RV → Store → Res Env} {Q : VK} {R : L2.St → Hp → Prop} (P : Post K μ₀ st₀ H₀ μ st H) (er : ER K H μ st.length σ ρ) (a : AfterG K W μ₀ st₀ H₀ ((ev cs e ρ st).bind g) R)
    (k : ∀ (x : RV) (μ1 : Mu) (st1 : Store) (H1 : Hp) (v : V), Post K μ st H μ1 st1 H1 → VRR K H H1 μ1 st1.length v x → AfterG K W μ₀ st₀ H₀ (g x st1) R → Q v H1) : tE K W (ev cs e) σ H Q := by
  refine ⟨μ, st, ρ, P.rel, er, ?_⟩
  cases he : ev cs e ρ st with
  | bad => rw [he] at a; exact a
  | exc c p st' => rw [he] at a; exact fun μ' H' P' => a μ' H' (P.trans P')
  | ok x st1 => rw [he] at a; exact fun μ1 H1 v P1 hv => k x μ1 st1 H1 v P1 hv a
theorem chkG_ok (g0 : Good X W c cs) : ∀ (g : G), (∀ x, chkG g c x = true → PG X x (gG X.K W cs g)) ∧ (∀ xs, chkGs g c xs = true → PGs X xs (gGs X.K W cs g)) := by
  intro g
  induction g with
  | tg t =>
    refine ⟨fun x h => ?_, fun xs h => by simp [chkGs] at h⟩
    refine pg_imp ((chkT_ok g0 t).1 x (by simpa [chkG] using h)) fun v σ H Q q => ?_
    obtain ⟨d, μ, st, ρ, r, er, hv, a⟩ := q
    simp only [setG] at a
    cases hb : bindT t d ρ with
    | none => rw [hb] at a; exact a.elim
    | some ρ' => rw [hb] at a; exact ⟨d, μ, st.length, ρ, ρ', hv, er, hb, fun σ' e _ _ => a μ H (.refl r) σ' e⟩
  | mv i j =>
    refine ⟨fun x h => ?_, fun xs h => by simp [chkGs] at h⟩
    refine pg_imp ((chkT_ok g0 (.sl i)).1 x (by simpa [chkG] using h)) fun v σ H Q q => ?_
    obtain ⟨d, μ, st, ρ, r, er, hv, a⟩ := q
    simp only [setG] at a
    cases hb : bindT (.sl i) d ρ with
    | none => rw [hb] at a; exact a.elim
    | some ρ' => rw [hb] at a; exact ⟨d, μ, st.length, ρ, ρ', hv, er, hb, fun σ' e _ _ => a μ H (.refl r) σ' e⟩
  | un ts =>
    refine ⟨fun x h => ?_, fun xs h => by simp [chkGs] at h⟩
    cases x <;> simp only [chkG] at h <;> first | cases h | skip
    obtain ⟨s1, s2⟩ := chkTs_s h
    refine pg_imp (pg_unl (n := ts.len) g0.calm ((chkT_ok g0 ts).2 _ h) (by rw [asgLen, s2]) (asgNo s1)) fun v σ H Q q => ?_
    obtain ⟨d, μ, st, ρ, r, er, hv, a⟩ := q
    cases d <;> simp only [setG] at a <;> first | exact a.elim | skip
    rename_i n
    cases hl : lstAt st n with
    | none => rw [hl] at a; exact a.elim
    | some xs =>
      rw [hl] at a
      dsimp only at a
      obtain ⟨p, vs, rfl, hs, q⟩ := seqV_list r hv (show seqV st (.ref n) = some (true, xs) by simp only [seqV, hl, Option.map_some])
      cases hb : bindTs ts xs ρ with
      | none => rw [hb] at a; exact a.elim
      | some ρ' =>
        rw [hb] at a
        exact ⟨p, vs, rfl, hs, by rw [VRs.length q]; exact bindTs_len hb, xs, μ, st.length, ρ, ρ', q, er, hb, fun σ' e _ _ => a μ H (.refl r) σ' e⟩
  | sub o i =>
    refine ⟨fun x h => ?_, fun xs h => by simp [chkGs] at h⟩
    cases x <;> simp only [chkG] at h <;> first | cases h | skip
    simp only [Bool.and_eq_true] at h
    obtain ⟨⟨h1, h2⟩, h3⟩ := h
    refine pg_imp (pg_sub (chk_ok o g0 h2).e (chk_ok i g0 h3).e (set_any g0.units) (sub_assign h1)) fun v σ H Q q => ?_
    obtain ⟨d, μ, st, ρ, r, er, hv, a⟩ := q
    simp only [setG] at a
    refine AfterG.then (.refl r) er a fun x μ1 st1 H1 ov P1 ho a => ?_
    refine AfterG.then P1 (er.step P1 r) a fun y μ2 st2 H2 iv P2 hi a => ?_
    refine ⟨W, μ, st, H, μ2, st2, x, y, d, P1.trans P2, ho.step P2 P1.rel, hi.older fun _ z => P1.free z, VR.keep (P2.keep P1.rel) _ _ (VR.keep (P1.keep r) _ _ hv), ?_⟩
    cases hf : fset x y d st2 with
    | bad => rw [hf] at a; exact a
    | exc c p st' => rw [hf] at a; exact a
    | ok u st3 => rw [hf] at a; exact fun μ3 H3 P3 => a μ3 H3 P3 σ (er.step P3 r)
  | nil =>
    refine ⟨fun x h => by simp [chkG] at h, fun xs h => ?_⟩
    simp only [chkGs, List.isEmpty_iff] at h
    subst h
    refine pgs_imp pgs_nil fun v σ H Q q => ?_
    obtain ⟨d, μ, st, ρ, r, er, hv, a⟩ := q
    cases d with
    | nil =>
      cases hv
      simp only [setGs] at a
      exact ⟨rfl, a μ H (.refl r) σ er⟩
    | cons _ _ => simp only [setGs] at a; exact a.elim
  | cons g gs ih1 ih2 =>
    have two : ∀ xs, chkGs (.cons g gs) c xs = true → PGs X xs (gGs X.K W cs (.cons g gs)) := fun xs h => by
      cases xs with
      | nil => simp [chkGs] at h
      | cons x xs =>
        simp only [chkGs, Bool.and_eq_true] at h
        refine pgs_imp (pgs_cons (ih1.1 x h.1.2) (ih2.2 xs h.2) (by rw [asg1 h.1.1]; rfl)) fun v σ H Q q => ?_
        obtain ⟨ds, μ, st, ρ, r, er, hv, a⟩ := q
        cases ds with
        | nil => simp only [setGs] at a; exact a.elim
        | cons d ds =>
          simp only [setGs] at a
          cases hv with
          | cons h1 h2 =>
            refine ⟨_, _, rfl, d, μ, st, ρ, r, er, h1, ?_⟩
            cases hg : setG cs g d ρ st with
            | bad => rw [hg] at a; exact a
            | exc c p st' => rw [hg] at a; exact a
            | ok ρ1 st1 =>
              rw [hg] at a
              intro μ1 H1 P1 σ1 e1
              exact ⟨ds, μ1, st1, ρ1, P1.rel, e1, VRs.keep (P1.keep r) _ _ h2, AfterG.step P1 a⟩
    refine ⟨fun x h => ?_, two⟩
    cases x <;> simp only [chkG] at h <;> first | cases h | skip
    obtain ⟨s1, s2⟩ := chkGs_s h
    refine pg_imp (pg_tup (n := (G.cons g gs).len) g0.calm (two _ h) (by rw [asgLen, s2]) (asgNo s1)) fun v σ H Q q => ?_
    obtain ⟨d, μ, st, ρ, r, er, hv, a⟩ := q
    cases d <;> simp only [setG] at a <;> first | exact a.elim | skip
    split at a
    · rename_i hl
      obtain ⟨p, vs, e1, e2, e3⟩ := hv.i_tup
      exact ⟨p, vs, e1, e2, by rw [VRs.length e3]; exact hl, _, μ, st, ρ, r, er, e3, a⟩
    · exact a.elim
end
end Mi
end
section
set_option linter.all false
set_option autoImplicit false
set_option maxRecDepth 10000
/-! MiStm: statements. -/
namespace Mi
open PySem PySem.Spec L2
open PyProof.Rows hiding RelV

/-- a new list that is stored ahead of the comprehension's end -/
def swL (c : Ctx) (tg e : Expr) : Bool := match tg, e with
  | .Name y py, .ListComp _ _ scope p => decide (c.sc.names.lookup y = some .local) && (py.line == p.line) && !(scope.names.any fun (n, k) => n == y && (k == .local || k == .cell))
  | _, _ => false
def noSC : Expr → Bool
  | .SetComp .. => false
  | .DictComp .. => false
  | _ => true
def noComp : Expr → Bool
  | .ListComp .. => false
  | .SetComp .. => false
  | .DictComp .. => false
  | _ => true
def isStar : Expr → Bool
  | .Starred .. => true
  | _ => false
def nmOf (c : Ctx) (l : Nat) : Expr → Option Str
  | .Name id pos => if (c.sc.names.lookup id == some .local && pos.line == l) = true then some id else none
  | _ => none
/-- stores that are made from the right -/
def swN (c : Ctx) (ts vs : List Expr) : Option (Option (List Str)) :=
  if (!(ts.length == 2 || ts.length == 3) || vs.length != ts.length) = true then some none
  else if (vs.any isStar) = true then some none
  else if ((ts.filterMap (nmOf c ((ts.head?.map (·.pos.line)).getD 0))).length != ts.length || (ts.filterMap (nmOf c ((ts.head?.map (·.pos.line)).getD 0))).eraseDups.length != (ts.filterMap (nmOf c ((ts.head?.map (·.pos.line)).getD 0))).length) = true then some none
  else if (vs.all (foldedForSure 8)) = true then some none
  else if (vs.all (constantsAlone 8)) = true then none
  else some (some (ts.filterMap (nmOf c ((ts.head?.map (·.pos.line)).getD 0))))
def swP (c : Ctx) (tg e : Expr) : Option (Option (List Str)) := match tg, e with
  | .Tuple ts _ _, .Tuple vs _ _ => swN c ts vs
  | .List _ _, _ => none
  | _, _ => some none
section
variable {X : Cx} {W : XW} {c : Ctx} {cs : List Fn}
theorem block_fun {env : PySem.Env} (h : env.scope.kind = .function) : env.blockKind = .function := by unfold Env.blockKind; rw [h]; rfl
theorem swL_false {tg e : Expr} {l : Nat} {env : PySem.Env} (hs : env.scope = c.sc) (hk : c.sc.kind = .function) (h : swL c tg e = false) (h2 : noSC e = true) : swapsWith e (some tg) l env = pure false := by
  have hb : env.blockKind = .function := block_fun (by rw [hs]; exact hk)
  have hkd : ∀ y, env.kindOf y = c.sc.names.lookup y := fun y => by show env.scope.names.lookup y = _; rw [hs]
  cases e <;> first | rfl | (cases h2; done) | skip
  cases tg <;> first | rfl | skip
  rename_i elt gens scope p y py
  unfold swapsWith
  simp only [hb, hkd, Expr.pos]
  simp only [swL] at h
  congr 1
  rw [← h]
  congr 1
  congr 1
  cases c.sc.names.lookup y with
  | none => rfl
  | some k => cases k <;> rfl
theorem noComp_sw {e : Expr} {l : Nat} {env : PySem.Env} {t : Option Expr} (h : noComp e = true) : swapsWith e t l env = pure false := by
  cases e <;> first | rfl | cases h
def nmE (env : PySem.Env) (l : Nat) : Expr → Option Str
  | .Name id pos => if (env.kindOf id == some .local && pos.line == l) = true then some id else none
  | _ => none
theorem nm_eq {env : PySem.Env} (hs : env.scope = c.sc) : nmE env = nmOf c := by
  funext l e
  cases e <;> first | rfl | skip
  unfold nmE nmOf
  show (if (env.scope.names.lookup _ == some .local && _) = true then _ else _) = _
  rw [hs]
theorem swP_ok {tg e : Expr} {env : PySem.Env} {r : Option (List Str)} (hs : env.scope = c.sc) (hk : c.sc.kind = .function) (h : swP c tg e = some r) : swappedStores [tg] e env = pure r := by
  have hb : env.blockKind = .function := block_fun (by rw [hs]; exact hk)
  cases tg <;> first | (cases h; done) | (cases h; rfl) | skip
  cases e <;> first | (cases h; rfl) | skip
  rename_i ts k1 p1 vs k2 p2
  simp only [swP, swN] at h
  rw [← nm_eq hs] at h
  unfold swappedStores
  simp only [hb]
  have hf : (ScopeKind.function != ScopeKind.function) = false := by decide
  rw [hf, Bool.or_false]
  have hst : (vs.any fun x => match x with | .Starred value pos => true | x => false) = vs.any isStar := by
    congr 1
  split at h
  · rename_i c1; cases h; rw [if_pos c1]
  · rename_i c1
    rw [if_neg c1]
    split at h
    · rename_i c2; cases h
      exact if_pos c2
    · rename_i c2
      refine (if_neg c2).trans ?_
      split at h
      · rename_i c3; cases h
        exact if_pos c3
      · rename_i c3
        refine (if_neg c3).trans ?_
        split at h
        · rename_i c4; cases h; rw [if_pos c4]
        · rename_i c4
          rw [if_neg c4]
          split at h
          · cases h
          · rename_i c5
            rw [if_neg c5]
            cases h
            rfl
/-! ### a new list, stored -/
theorem chk_comp {own : List Nat} {t : T} {k : IK} {a b d e : E} {x : Expr} (g : Good X W c cs) (h : chk (.comp own t k a b d e) c x = true) : ∃ elt tg iter ifs scope pos, x = .ListComp elt [⟨tg, iter, ifs, 0⟩] scope pos ∧
    PI X tg iter (tI X.K W k (ev cs a) fun ρ st => opt2 (isNil b) (ev cs b ρ) st) ∧ noSet iter = true ∧ own.all (fun i => decide (i < c.N.length)) = true ∧ blkC c.N c.sc scope (ownB c own) = true ∧ t.slots.all (fun i => own.contains i) = true ∧ chkTM t (c.blk scope) tg = true ∧
    (∀ (s : Shared) (H : Hp) (C : Addr) (cl : List (Str × Addr)) (fp : List Addr), PTs (X.blk s H scope (compEnvC scope cl C X.env) fp) ifs (tB X.K W0 fun ρ st => optC (isNil d) (ev cs d ρ) st)) ∧
    ∀ (s : Shared) (H : Hp) (C : Addr) (cl : List (Str × Addr)) (fp : List Addr), PE (X.blk s H scope (compEnvC scope cl C X.env) fp) elt (tE X.K W0 (ev cs e)) := by
  simp only [chk] at h
  split at h
  · split at h
    · rename_i elt tg iter ifs scope pos _ p hp
      simp only [Bool.and_eq_true] at h
      obtain ⟨⟨⟨⟨⟨⟨⟨⟨h1, h2⟩, h3⟩, h4⟩, h5⟩, h6⟩, h7⟩, h8⟩, h9⟩ := h
      obtain ⟨xa, ob⟩ := p
      refine ⟨elt, tg, iter, ifs, scope, _, rfl, vI_ok g hp h1 (chk_ok a g h2).e ?_, vI_set hp, h4, h5, h6, h7, ?_, fun s H C cl fp => (chk_ok e g.blk h9).e⟩
      · cases ob with
        | none => exact isNil_eq h3
        | some y =>
          simp only [Bool.and_eq_true, Bool.not_eq_true'] at h3
          exact ⟨h3.1, (chk_ok b g h3.2).e⟩
      · intro s H C cl fp
        split at h8
        · rw [isNil_eq h8]
          exact n_if0
        · simp only [Bool.and_eq_true, Bool.not_eq_true'] at h8
          exact n_if1 h8.1 (chk_ok d g.blk h8.2).t
        · cases h8
    · cases h
  · cases h
theorem s_setLc {own : List Nat} {t : T} {k : IK} {a b d e : E} {x : Expr} {i fuel : Nat} {y : Str} {py spos : Pos} (g : Good X W c cs) (kd : c.sc.kind = .function) (h : chk (.comp own t k a b d e) c x = true) (hw : swL c (.Name y py) x = true) (hi : c.N[i]? = some y) :
    PS X (.Assign [.Name y py] x spos) (tS X.K W (ex cs fuel (.asg (.tg (.sl i)) (.comp own t k a b d e)))) := by
  obtain ⟨elt, tg, iter, ifs, scope, pos, rfl, h1, h2, h3, h4, h5, h6, h7, h8⟩ := chk_comp g h
  simp only [swL, Bool.and_eq_true, decide_eq_true_eq, Bool.not_eq_true'] at hw
  obtain ⟨⟨w1, w2⟩, w3⟩ := hw
  have hyl : X.env.scope.names.lookup y = some .local := by rw [g.sc]; exact w1
  have ok : BlkOk X.N X.env.scope scope (ownB c own) := by rw [g.N, g.sc]; exact blkOk_by h4
  have base := ps_setLc (i := i) (g := gT X.K t) (spos := spos) g.calm (by rw [g.N]; exact g.nd) (by rw [g.N]; exact hi) hyl (sw_true (by rw [g.sc]; exact kd) hyl w2 w3) h1 ok
    (fun s H C cl fp => (chkT_ok (g.blk (s := s) (H := H) (cl := cl) (C := C) (fp := fp)) t).1 tg h6) h7 h8 (folded_ok h2)
  refine ⟨fun pins s σ H D I q => base.run pins s σ H D I ?_⟩
  rw [ownB_ok h3]
  refine comp_ok (fun i hi => by simpa using List.all_eq_true.mp h5 i hi) ?_
  obtain ⟨μ, st, ρ, r, er, z⟩ := q
  have z2 : tE X.K W (ev cs (.comp own t k a b d e)) σ H fun x H1 => gName i x σ H1 D.nx := by
    refine ⟨μ, st, ρ, r, er, ?_⟩
    simp only [ex] at z
    cases he : ev cs (.comp own t k a b d e) ρ st with
    | bad => rw [he] at z; exact z
    | exc c p st' => rw [he] at z; exact z
    | ok x1 st1 =>
      rw [he] at z
      intro μ1 H1 v P1 hv
      obtain ⟨μ2, P2, k2, hv2⟩ := settle_ok P1 hv
      simp only [Res.bind, setG, bindT] at z
      by_cases hl : i < ρ.length
      · rw [if_pos hl] at z
        exact z μ2 H1 P2 _ ((er.step P2 r).set hv2)
      · rw [if_neg hl] at z
        exact z.elim
  obtain ⟨μ, st, ρ, r, er, z⟩ := z2
  rw [comp_eqM] at z
  exact ⟨μ, st, ρ, r, er, z⟩
/-! ### stores from the right -/
theorem par_then {ts : T} {es : E} {fuel : Nat} {K : PySem.W.Frag} {σ : L2.St} {H : Hp} {D : Ends} (h : tS K W (ex cs fuel (.asg (.tg (.tp ts)) (.tup es))) D σ H) :
    tA K W (evs cs es) σ H fun vs H1 => ∃ ds μ N ρ ρ', ER K H1 μ N σ ρ ∧ VRs K H1 μ N vs ds ∧ bindTs ts ds ρ = some ρ' ∧ ∀ σ', ER K H1 μ N σ' ρ' → D.nx σ' H1 := by
  obtain ⟨μ, st, ρ, r, er, z⟩ := h
  refine ⟨μ, st, ρ, r, er, ?_⟩
  simp only [ex, ev] at z
  cases he : evs cs es ρ st with
  | bad => rw [he] at z; exact z
  | exc c p st' => rw [he] at z; exact z
  | ok rs st1 =>
    rw [he] at z
    intro μ1 H1 vs ps P1 hv
    simp only [Res.bind] at z
    obtain ⟨μ2, P2, k2, hd⟩ := settles_ok P1 hv
    split at z
    · rename_i hz
      split at hz
      · cases hz
        simp only [settle, setG, bindT] at z
        cases hb : bindTs ts (settles rs st1).1 ρ with
        | none => rw [hb] at z; exact z.elim
        | some ρ' => rw [hb] at z; exact ⟨_, μ2, _, ρ, ρ', er.step P2 r, hd, hb, fun σ' e => z μ2 H1 P2 σ' e⟩
      · cases hz
    · rename_i hz
      split at hz <;> cases hz
    · exact z.elim
theorem tA_imp {K : PySem.W.Frag} {f : Comp (List RV)} {σ : L2.St} {H : Hp} {Q Q' : List V → Hp → Prop} (h : tA K W f σ H Q) (i : ∀ v H, Q v H → Q' v H) : tA K W f σ H Q' := by
  obtain ⟨μ, st, ρ, r, er, a⟩ := h
  refine ⟨μ, st, ρ, r, er, ?_⟩
  cases hf : f ρ st with
  | bad => rw [hf] at a; exact a
  | exc c p st' => rw [hf] at a; exact a
  | ok r1 st1 => rw [hf] at a; exact fun μ' H' v ps P h => i _ _ (a μ' H' v ps P h)
def par2 (c : Ctx) (g : G) (e : E) (tg v : Expr) : Bool := match g, e, tg, v with
  | .tg (.tp (.cons (.sl i) (.cons (.sl j) .nil))), .tup es, .Tuple [.Name x _, .Name y _] _ _, .Tuple [_, _] _ _ =>
    decide (c.N[i]? = some x) && decide (c.N[j]? = some y) && decide (i ≠ j) && decide (c.sc.names.lookup x = some .local) && decide (c.sc.names.lookup y = some .local) && decide (swP c tg v = some (some [x, y]))
  | _, _, _, _ => false
def par3 (c : Ctx) (g : G) (e : E) (tg v : Expr) : Bool := match g, e, tg, v with
  | .tg (.tp (.cons (.sl i) (.cons (.sl j) (.cons (.sl l) .nil)))), .tup es, .Tuple [.Name x _, .Name y _, .Name z _] _ _, .Tuple [_, _, _] _ _ =>
    decide (c.N[i]? = some x) && decide (c.N[j]? = some y) && decide (c.N[l]? = some z) && decide (i ≠ j) && decide (i ≠ l) && decide (j ≠ l) && decide (c.sc.names.lookup x = some .local) && decide (c.sc.names.lookup y = some .local) && decide (c.sc.names.lookup z = some .local) && decide (swP c tg v = some (some [x, y, z]))
  | _, _, _, _ => false
theorem s_par2 {g0 : G} {e : E} {tg v : Expr} {spos : Pos} {fuel : Nat} (g : Good X W c cs) (kd : c.sc.kind = .function) (h : par2 c g0 e tg v = true) (hc : chk e c v = true) : PS X (.Assign [tg] v spos) (tS X.K W (ex cs fuel (.asg g0 e))) := by
  unfold par2 at h
  split at h
  · rename_i i j es x px y py k1 p1 xa xb k2 p2
    simp only [Bool.and_eq_true, decide_eq_true_eq] at h
    obtain ⟨⟨⟨⟨⟨h1, h2⟩, h3⟩, h4⟩, h5⟩, h6⟩ := h
    simp only [chk] at hc
    have ha := (chks_ok es g hc).tA
    have base := ps_par (pos := spos) g.calm (by rw [g.N]; exact g.nd) (by rw [g.N]; exact h1) (by rw [g.N]; exact h2) h3 (by rw [g.sc]; exact h4) (by rw [g.sc]; exact h5) ha (swP_ok g.sc kd h6)
    refine ⟨fun pins s σ H D I q => base.run pins s σ H D I ?_⟩
    refine tA_imp (par_then q) fun vs H1 z => ?_
    obtain ⟨ds, μ, N, ρ, ρ', er, hv, hb, z⟩ := z
    rcases ds with _ | ⟨d1, _ | ⟨d2, _ | ⟨_, _⟩⟩⟩ <;> simp only [bindTs, Option.bind_eq_some_iff] at hb
    · cases hb
    · obtain ⟨_, _, hb⟩ := hb; cases hb
    · obtain ⟨ρ1, hb1, ρ2, hb2, hb⟩ := hb
      cases hb
      cases hv with
      | cons v1 hv => cases hv with
        | cons v2 hv =>
          cases hv
          refine ⟨_, _, rfl, z _ ?_⟩
          simp only [bindT] at hb1 hb2
          split at hb1 <;> cases hb1
          split at hb2 <;> cases hb2
          exact (er.set v1).set v2
    · obtain ⟨_, _, _, _, hb⟩ := hb; cases hb
  · cases h
theorem s_par3 {g0 : G} {e : E} {tg v : Expr} {spos : Pos} {fuel : Nat} (g : Good X W c cs) (kd : c.sc.kind = .function) (h : par3 c g0 e tg v = true) (hc : chk e c v = true) : PS X (.Assign [tg] v spos) (tS X.K W (ex cs fuel (.asg g0 e))) := by
  unfold par3 at h
  split at h
  · simp only [Bool.and_eq_true, decide_eq_true_eq] at h
    obtain ⟨⟨⟨⟨⟨⟨⟨⟨⟨h1, h2⟩, h3⟩, h4⟩, h5⟩, h6⟩, h7⟩, h8⟩, h9⟩, h10⟩ := h
    simp only [chk] at hc
    have ha := (chks_ok _ g hc).tA
    have base := ps_par3 (pos := spos) g.calm (by rw [g.N]; exact g.nd) (by rw [g.N]; exact h1) (by rw [g.N]; exact h2) (by rw [g.N]; exact h3) h4 h5 h6 (by rw [g.sc]; exact h7) (by rw [g.sc]; exact h8) (by rw [g.sc]; exact h9) ha (swP_ok g.sc kd h10)
    refine ⟨fun pins s σ H D I q => base.run pins s σ H D I ?_⟩
    refine tA_imp (par_then q) fun vs H1 z => ?_
    obtain ⟨ds, μ, N, ρ, ρ', er, hv, hb, z⟩ := z
    rcases ds with _ | ⟨d1, _ | ⟨d2, _ | ⟨d3, _ | ⟨_, _⟩⟩⟩⟩ <;> simp only [bindTs, Option.bind_eq_some_iff] at hb
    · cases hb
    · obtain ⟨_, _, hb⟩ := hb; cases hb
    · obtain ⟨_, _, _, _, hb⟩ := hb; cases hb
    · obtain ⟨ρ1, hb1, ρ2, hb2, ρ3, hb3, hb⟩ := hb
      cases hb
      cases hv with
      | cons v1 hv => cases hv with
        | cons v2 hv => cases hv with
          | cons v3 hv =>
            cases hv
            refine ⟨_, _, _, rfl, z _ ?_⟩
            simp only [bindT] at hb1 hb2 hb3
            split at hb1 <;> cases hb1
            split at hb2 <;> cases hb2
            split at hb3 <;> cases hb3
            exact ((er.set v1).set v2).set v3
    · obtain ⟨_, _, _, _, _, _, hb⟩ := hb; cases hb
  · cases h
end
end Mi
end
section
set_option linter.all false
set_option autoImplicit false
set_option maxRecDepth 10000
/-! MiStmt: the look that statements are Mini's. -/
namespace Mi
open PySem PySem.Spec L2
open PyProof.Rows hiding RelV

def isComp : E → Bool
  | .comp .. => true
  | _ => false
def asgB (c : Ctx) (g : G) (e : E) (tg v : Expr) : Bool :=
  if swL c tg v = true then (match g, tg with
    | .tg (.sl i), .Name y _ => isComp e && decide (c.N[i]? = some y)
    | _, _ => false)
  else match swP c tg v with
    | some none => noS tg && noSC v && chkG g c tg
    | some (some _) => par2 c g e tg v || par3 c g e tg v
    | none => false
mutual
def chkS : S → Ctx → Stmt → Bool
  | .never, _, _ => true
  | .skip, _, x => match x with
    | .Pass _ => true
    | _ => false
  | .asg g e, c, x => match x with
    | .Assign [tg] v _ => chk e c v && asgB c g e tg v
    | _ => false
  | .ex e, c, x => match x with
    | .Expr v _ => noComp v && chk e c v
    | _ => false
  | .ret e, c, x => match x with
    | .Return (some v) _ => chk e c v
    | _ => false
  | .retN, _, x => match x with
    | .Return none _ => true
    | _ => false
  | .ite d s t, c, x => match x with
    | .If v a b _ => chk d c v && chkSs s c a && chkSs t c b
    | _ => false
  | .whil d s, c, x => match x with
    | .While v a [] _ => chk d c v && chkSs s c a
    | _ => false
  | .fo t k a b s, c, x => match x with
    | .For tg iter body [] _ => match vI c k iter with
      | some p => pairT k tg && chk a c p.1 && (match p.2 with
        | none => isNil b
        | some y => !isNil b && chk b c y) && chkTM t c tg && chkSs s c body
      | none => false
    | _ => false
  | .brk, _, x => match x with
    | .Break _ => true
    | _ => false
  | .cont, _, x => match x with
    | .Continue _ => true
    | _ => false
  | .seq _ _, _, _ => false
def chkSs : S → Ctx → List Stmt → Bool
  | .skip, _, xs => xs.isEmpty
  | .seq s t, c, xs => match xs with
    | x :: xs => chkS s c x && chkSs t c xs
    | [] => false
  | .never, _, _ => true
  | _, _, _ => false
end
section
variable {X : Cx} {W : XW} {c : Ctx} {cs : List Fn} {fuel : Nat}
theorem ps_imp {e : Stmt} {t t' : TS} (h : PS X e t) (i : ∀ D σ H, t' D σ H → t D σ H) : PS X e t' := ⟨fun pins s σ H D I q => h.run pins s σ H D I (i _ _ _ q)⟩
theorem pss_imp {e : List Stmt} {t t' : TS} (h : PSs X e t) (i : ∀ D σ H, t' D σ H → t D σ H) : PSs X e t' := ⟨fun pins s σ H D I q => h.run pins s σ H D I (i _ _ _ q)⟩
theorem tB_of {K : PySem.W.Frag} {f : Comp RV} {σ : L2.St} {H : Hp} {Q : Bool → Hp → Prop} (h : tB K W (fun ρ st => (f ρ st).bind fun r st1 => truthR r st1) σ H Q) : tT K W f σ H Q := h
theorem stm_asg {g0 : G} {e : E} {tg v : Expr} {pos : Pos} (g : Good X W c cs) (kd : c.sc.kind = .function) (h : chk e c v = true) (h2 : asgB c g0 e tg v = true) : PS X (.Assign [tg] v pos) (tS X.K W (ex cs fuel (.asg g0 e))) := by
  unfold asgB at h2
  split at h2
  · rename_i hw
    split at h2
    · rename_i i y py
      simp only [Bool.and_eq_true, decide_eq_true_eq] at h2
      cases e <;> first | exact s_setLc g kd h hw h2.2 | cases h2.1
    · cases h2
  · rename_i hw
    split at h2
    · rename_i hp
      simp only [Bool.and_eq_true] at h2
      obtain ⟨⟨h3, h4⟩, h5⟩ := h2
      refine ps_imp (ps_asg (chk_ok e g h).e ((chkG_ok g g0).1 tg h5) (swL_false g.sc kd (by simpa using hw) h4) (swP_ok g.sc kd hp) (by rw [asg1 h3]; rfl)) fun D σ H q => ?_
      obtain ⟨μ, st, ρ, r, er, z⟩ := q
      refine ⟨μ, st, ρ, r, er, ?_⟩
      simp only [ex] at z
      cases he : ev cs e ρ st with
      | bad => rw [he] at z; exact z
      | exc c p st' => rw [he] at z; exact z
      | ok x1 st1 =>
        rw [he] at z
        intro μ1 H1 v P1 hv
        obtain ⟨μ2, P2, k2, hv2⟩ := settle_ok P1 hv
        refine ⟨_, μ2, _, ρ, P2.rel, er.step P2 r, hv2, ?_⟩
        simp only [Res.bind] at z
        cases hg : setG cs g0 (settle x1 st1).1 ρ (settle x1 st1).2 with
        | bad => rw [hg] at z; exact z
        | exc c p st' => rw [hg] at z; exact fun μ' H' P' => z μ' H' (P2.trans P')
        | ok ρ1 st2 => rw [hg] at z; exact fun μ' H' P' => z μ' H' (P2.trans P')
    · simp only [Bool.or_eq_true] at h2
      rcases h2 with h2 | h2
      · exact s_par2 g kd h2 h
      · exact s_par3 g kd h2 h
    · cases h2
mutual
theorem chkS_ok (g : Good X W c cs) (kd : c.sc.kind = .function) (po : PassesOwn (model X.prog X.w) X.A X.env X.xe) : ∀ (s : S) {x : Stmt}, chkS s c x = true → PS X x (tS X.K W (ex cs fuel s))
  | .never, x, h => ps_imp ps_never fun D σ H ⟨μ, st, ρ, r, er, z⟩ => by simp only [ex] at z; exact z
  | .skip, x, h => by
    cases x <;> simp only [chkS] at h <;> first | cases h | skip
    exact ps_imp ps_pass fun D σ H ⟨μ, st, ρ, r, er, z⟩ => by simp only [ex] at z; exact z μ H (.refl r) σ er
  | .asg g0 e, x, h => by
    simp only [chkS] at h
    split at h
    · simp only [Bool.and_eq_true] at h
      exact stm_asg g kd h.1 h.2
    · cases h
  | .ex e, x, h => by
    cases x <;> simp only [chkS] at h <;> first | cases h | skip
    simp only [Bool.and_eq_true] at h
    refine ps_imp (ps_expr (chk_ok e g h.2).e (noComp_sw h.1)) fun D σ H q => ?_
    obtain ⟨μ, st, ρ, r, er, z⟩ := q
    refine ⟨μ, st, ρ, r, er, ?_⟩
    simp only [ex] at z
    cases he : ev cs e ρ st with
    | bad => rw [he] at z; exact z
    | exc c p st' => rw [he] at z; exact z
    | ok x1 st1 => rw [he] at z; exact fun μ1 H1 v P1 hv => z μ1 H1 P1 σ (er.step P1 r)
  | .ret e, x, h => by
    simp only [chkS] at h
    split at h
    · refine ps_imp (ps_ret (chk_ok e g h).e) fun D σ H q => ?_
      obtain ⟨μ, st, ρ, r, er, z⟩ := q
      refine ⟨μ, st, ρ, r, er, ?_⟩
      simp only [ex] at z
      cases he : ev cs e ρ st with
      | bad => rw [he] at z; exact z
      | exc c p st' => rw [he] at z; exact z
      | ok x1 st1 => rw [he] at z; exact fun μ1 H1 v P1 hv => z μ1 H1 P1 v hv
    · cases h
  | .retN, x, h => by
    simp only [chkS] at h
    split at h
    · exact ps_imp ps_retN fun D σ H ⟨μ, st, ρ, r, er, z⟩ => by simp only [ex] at z; exact z μ H (.refl r) _ .non
    · cases h
  | .ite d s t, x, h => by
    cases x <;> simp only [chkS] at h <;> first | cases h | skip
    simp only [Bool.and_eq_true] at h
    refine ps_imp (ps_if (chk_ok d g h.1.1).t (chkSs_ok g kd po s h.1.2) (chkSs_ok g kd po t h.2)) fun D σ H q => ?_
    obtain ⟨μ, st, ρ, r, er, z⟩ := q
    refine ⟨μ, st, ρ, r, er, ?_⟩
    simp only [ex] at z
    rw [← bind_assoc] at z
    cases he : (ev cs d ρ st).bind fun r st1 => truthR r st1 with
    | bad => rw [he] at z; exact z
    | exc c p st' => rw [he] at z; exact z
    | ok b st1 =>
      rw [he] at z
      intro μ1 H1 P1
      cases b with
      | true => exact ⟨μ1, st1, ρ, P1.rel, er.step P1 r, AfterS.step P1 z⟩
      | false => exact ⟨μ1, st1, ρ, P1.rel, er.step P1 r, AfterS.step P1 z⟩
  | .whil d s, x, h => by
    simp only [chkS] at h
    split at h
    · simp only [Bool.and_eq_true] at h
      refine ps_imp (ps_while po (chk_ok d g h.1).t (chkSs_ok g kd po s h.2)) fun D σ H q => ?_
      exact while_ok (n := fuel) (fc := fun ρ st => (ev cs d ρ st).bind fun r st1 => truthR r st1) (f := ex cs fuel s) (by
        obtain ⟨μ, st, ρ, r, er, z⟩ := q
        simp only [ex] at z
        exact ⟨μ, st, ρ, r, er, z⟩)
    · cases h
  | .fo t k a b s, x, h => by
    simp only [chkS] at h
    split at h
    · split at h
      · rename_i p hp
        simp only [Bool.and_eq_true] at h
        obtain ⟨⟨⟨⟨h1, h2⟩, h3⟩, h4⟩, h5⟩ := h
        obtain ⟨xa, ob⟩ := p
        have hb : SrcB X W cs b ob := by
          cases ob with
          | none => exact isNil_eq h3
          | some y =>
            simp only [Bool.and_eq_true, Bool.not_eq_true'] at h3
            exact ⟨h3.1, (chk_ok b g h3.2).e⟩
        refine ps_imp (ps_for po g.calm (vI_ok g hp h1 (chk_ok a g h2).e hb) ((chkT_ok g t).1 _ h4) (chkSs_ok g kd po s h5) (folded_ok (vI_set hp))) fun D σ H q => ?_
        refine for_ok ?_
        obtain ⟨μ, st, ρ, r, er, z⟩ := q
        refine ⟨μ, st, ρ, r, er, ?_⟩
        simp only [ex] at z
        have e : (fun ρ st => (walkM k (ev cs a) (fun ρ st => opt2 (isNil b) (ev cs b ρ) st) ρ st).bind fun p st2 => forLoop p.2 t (ex cs fuel s) p.1 ρ st2) ρ st = (ev cs a ρ st).bind fun r st1 => (opt2 (isNil b) (ev cs b ρ) st1).bind fun q st2 => match walk k r q st2 with
            | some (xs, w) => forLoop w t (fun ρ' st' => ex cs fuel s ρ' st') xs ρ st2
            | none => .bad := by
          dsimp only
          rw [walkM, bind_assoc]
          congr 1
          funext r st1
          rw [bind_assoc]
          congr 1
          funext q st2
          cases walk k r q st2 <;> rfl
        rw [e]
        exact z
      · cases h
    · cases h
  | .brk, x, h => by
    simp only [chkS] at h
    split at h
    · exact ps_imp ps_break fun D σ H ⟨μ, st, ρ, r, er, z⟩ => by simp only [ex] at z; exact z μ H (.refl r) σ er
    · cases h
  | .cont, x, h => by
    simp only [chkS] at h
    split at h
    · exact ps_imp ps_continue fun D σ H ⟨μ, st, ρ, r, er, z⟩ => by simp only [ex] at z; exact z μ H (.refl r) σ er
    · cases h
  | .seq _ _, x, h => by simp [chkS] at h
theorem chkSs_ok (g : Good X W c cs) (kd : c.sc.kind = .function) (po : PassesOwn (model X.prog X.w) X.A X.env X.xe) : ∀ (s : S) {xs : List Stmt}, chkSs s c xs = true → PSs X xs (tS X.K W (ex cs fuel s))
  | .skip, xs, h => by
    simp only [chkSs, List.isEmpty_iff] at h
    subst h
    exact pss_imp pss_nil fun D σ H ⟨μ, st, ρ, r, er, z⟩ => by simp only [ex] at z; exact z μ H (.refl r) σ er
  | .seq s t, xs, h => by
    cases xs with
    | nil => simp [chkSs] at h
    | cons x xs =>
      simp only [chkSs, Bool.and_eq_true] at h
      refine pss_imp (pss_cons (chkS_ok g kd po s h.1) (chkSs_ok g kd po t h.2)) fun D σ H q => ?_
      obtain ⟨μ, st, ρ, r, er, z⟩ := q
      refine ⟨μ, st, ρ, r, er, ?_⟩
      simp only [ex] at z
      cases he : ex cs fuel s ρ st with
      | bad => rw [he] at z; exact z
      | exc c p st' => rw [he] at z; exact z
      | ok o st1 =>
        rw [he] at z
        intro μ1 H1 P1
        cases o with
        | nx ρ1 => exact fun σ1 e1 => ⟨μ1, st1, ρ1, P1.rel, e1, AfterS.step P1 z⟩
        | rt _ => exact z μ1 H1 P1
        | bk _ => exact z μ1 H1 P1
        | ct _ => exact z μ1 H1 P1
  | .never, xs, h => pss_imp pss_never fun D σ H ⟨μ, st, ρ, r, er, z⟩ => by simp only [ex] at z; exact z
  | .asg _ _, xs, h | .ex _, xs, h | .ret _, xs, h | .retN, xs, h | .ite _ _ _, xs, h | .whil _ _, xs, h | .fo _ _ _ _ _, xs, h | .brk, xs, h | .cont, xs, h => by simp [chkSs] at h
end
end
end Mi
end
section
set_option linter.all false
set_option autoImplicit false
set_option maxRecDepth 10000
/-! MiFun: a def does what the interpreter says. -/
namespace Mi
open PySem PySem.Spec L2
open PyProof.Rows hiding RelV

/-- what the module holds for a def's text -/
structure Wld (P : Program) (w : World) (K : PySem.W.Frag) (mg : Str → Option Value) (base : Heap) (c : Ctx) (cs : List Fn) : Prop where
  bn : ∀ x ∈ c.bn, mg x = none
  gs : ∀ p ∈ c.gs, ∃ v u, mg (toStr p.1) = some u ∧ RelV v u ∧ ∀ H μ N, VR K H μ N v p.2
  fs : ∀ (j : Nat) (fd : Fd), c.fs[j]? = some fd → ∃ F f d, cs[j]? = some F ∧ CalP P w K mg base c.k fd F f d
section
variable {P : Program} {w : World} {K : PySem.W.Frag} {mg : Str → Option Value} {base : Heap} {c : Ctx} {cs : List Fn}
theorem start_er {H : Hp} {μ : Mu} {N slots : Nat} {nm : List Str} {vs : List V} {ds : List Val} (h : VRs K H μ N vs ds) (hs : slots = nm.length) : ER K H μ N (start nm vs) (ds.map some ++ List.replicate (slots - ds.length) none) := by
  have hl := VRs.length h
  refine ⟨by simp [L2.start, hl, hs], fun i d e => ?_⟩
  by_cases hi : i < ds.length
  · rw [List.getElem?_append_left (by simpa using hi), List.getElem?_map, List.getElem?_eq_getElem hi] at e
    cases e
    obtain ⟨v, e1, e2⟩ := VRs.get h (List.getElem?_eq_getElem hi)
    refine ⟨v, ?_, e2⟩
    unfold L2.start
    rw [List.getElem?_append_left (by simpa [hl] using hi), List.getElem?_map, e1]
    rfl
  · rw [List.getElem?_append_right (by simpa using hi), List.getElem?_replicate] at e
    split at e <;> cases e
/-- a def's body, run -/
theorem body_after {W : XW} {d : Def} {ds : List Val} {μ : Mu} {st : Store} {H : Hp} {Q : VK} (a : After K W μ st H (run d cs ds st) Q) :
    ds.length = d.pars ∧ AfterS K W μ st H (ex cs FUEL d.body (ds.map some ++ List.replicate (d.slots - ds.length) none) st) { nx := fun _ H' => Q .non H', rt := Q } := by
  unfold run at a
  split at a
  · rename_i hl
    refine ⟨hl, ?_⟩
    cases he : ex cs FUEL d.body (ds.map some ++ List.replicate (d.slots - ds.length) none) st with
    | bad => rw [he] at a; exact a
    | exc c p st1 => rw [he] at a; exact a
    | ok o st1 =>
      rw [he] at a
      intro μ1 H1 P1
      cases o with
      | nx ρ => exact fun σ' e => a μ1 H1 _ P1 .non
      | rt r => exact fun v hv => a μ1 H1 v P1 hv
      | bk _ => exact a.elim
      | ct _ => exact a.elim
  · exact a.elim
theorem fnm_of {x qual : Str} {stm : Stmt} {f : Addr} {fd : FuncData} {ps : List Str} {d : Def} (F : Fun K x qual stm f fd) (S : FnScope c.N ps (defScope stm)) (hsc : c.sc = defScope stm) (hcl : c.cl = none) (h1 : d.slots = c.N.length) (h2 : d.pars = ps.length)
    (wl : Wld P w K mg base c cs) (hb : chkSs d.body c (defBody stm) = true) : FnM P w K mg base (c.k + 1) f fd ps (run d cs) := by
  obtain ⟨oc, od, kV, doc, pm, an, cdv, ct, osl, rfl, lk, hcd⟩ := F.ex
  constructor
  · intro ds st hne
    rw [← h2]
    unfold run at hne
    split at hne
    · assumption
    · exact absurd rfl hne
  intro A outer s H args us vs ds μ st W Q hr hg e0 bt rv rl rd a
  obtain ⟨hlen, aS⟩ := body_after a
  have hvl : vs.length = ps.length := (VRs.length rd).trans (hlen.trans h2)
  have keep := fun b o e => (e0.bs b o e).1
  have kIn : K.In s.heap := e0.mod.kin.keeps keep
  have known : ∀ y ∈ ps.zip us, (defScope stm).names.lookup y.1 = some .local ∨ ((defScope stm).names.lookup y.1 = some .cell ∧ ((cellsFrom (s.heap.objs.size + 1) (defScope stm).names []).lookup y.1).isSome = true) := by
    rintro ⟨n, v⟩ hy
    have hp := S.par n (List.of_mem_zip hy).1
    exact hp.imp id fun q => ⟨q, PySem.W.cellsFrom_some _ _ _ (.inl q)⟩
  refine codeAny_call_function hr.depth (kIn _ _ lk) rfl S.co S.gen rfl (PySem.W.codeRec_of kIn hcd) (bt _ _ _ _ (wpAny_newFunctionEnv_cells S.kind known fun env he s1 inn => ?_))
  subst he
  refine ⟨(e0.mod.nolimit.keeps keep).keeps inn.toInCall.keep, codeAny_func ?_⟩
  let X : Cx := cxOf (L2.CX P w) P w K mg base c.N qual (defScope stm) f cdv A outer s H (xk W)
  have good : Good X W c cs := by
    refine ⟨rfl, S.nd, hsc.symm, rfl, hg, hr.deeper _, fun _ _ => rfl, wl.bn, wl.gs, ?_, wl.fs⟩
    exact takes_of rfl rfl rfl rfl
  have own : PassesOwn (model X.prog X.w) X.A X.env X.xe := passes_of rfl
  have body : PSs X (defBody stm) (tS K W (ex cs FUEL d.body)) := chkSs_ok good (by rw [hsc]; exact S.kind) own d.body hb
  have I : Inv X [] (start c.N vs) H s1 := inv_start S hr.hd e0 hvl rv inn
  have er := start_er (nm := c.N) rd h1
  refine wpAny_mono (body.run [] s1 (start c.N vs) H { nx := fun _ H' => Q .non H', rt := Q } I ⟨μ, st, _, rl, er, aS⟩) (fun fl s' hs => ?_) fun _ _ hx => hx
  cases fl with
  | ret u => obtain ⟨v, σ', H', J, q, z⟩ := hs; exact ⟨v, H', J.os, J.bare, J.base, J.hok, q, z⟩
  | next => obtain ⟨σ', H', J, z⟩ := hs; exact ⟨V.non, H', J.os, J.bare, J.base, J.hok, rfl, z⟩
  | brk => obtain ⟨_, _, _, z⟩ := hs; exact z.elim
  | cont => obtain ⟨_, _, _, z⟩ := hs; exact z.elim
end
end Mi
end
section
set_option linter.all false
set_option autoImplicit false
set_option maxRecDepth 10000
/-! MiEnd: a law's own call. -/
namespace Mi
open PySem PySem.Spec L2
open PyProof.Rows hiding RelV

/-- the script alone, known to the object -/
def hpOf (a : Addr) (us : List Value) (ns : List Int) : Hp := fun b => if b = a then some (.frz { cls := .type "list", data := .seq us.toArray } (.lst (ns.map V.int))) else none
theorem hpOf_at {a : Addr} {us : List Value} {ns : List Int} : hpOf a us ns a = some (.frz { cls := .type "list", data := .seq us.toArray } (.lst (ns.map V.int))) := if_pos rfl
theorem hpOf_ne {a b : Addr} {us : List Value} {ns : List Int} (h : b ≠ a) : hpOf a us ns b = none := if_neg h
theorem law_run {P : Program} {w : World} {K : PySem.W.Frag} {mg mb : Str → Option Value} {k : Nat} {fa a : Addr} {fd : FuncData} {x : Str} {F : Fn} {s : Shared} {us : List Value} {ns : List Int}
    (kIn : K.In s.heap) (gns : s.heap.Ns mainGlobals mg) (bns : s.heap.Ns builtinsNs mb) (bts : ∀ x : Str, x ≠ "__name__" → mb x = bootBuiltins x) (nl : s.heap.NoLimit) (gens : s.gens = #[])
    (ha : s.heap.get? a = some { cls := .type "list", data := .seq us.toArray }) (hi : IntsAre us ns) (hl : ns.length ≤ sizeLine) (room : Room k callerA) (out : K.lookup a = none)
    (hF : ∀ base : Heap, K.In base → base.Ns mainGlobals mg → FnM P w K mg base k fa fd [x] F) (bind : ∀ (s : Shared) (u : Value), BindsTo s fd ⟨[u], []⟩ [(x, u)])
    (res : ∃ st', F [.ref 0] [.frz (ns.map .int)] = .ok (.v (.bl true)) st') :
    codeAny (model P w) callerA (.call (.ref fa) ⟨[.ref a], []⟩) (fun r s' => r = .ok (.ret (.bool true)) ∧ OldK s.heap s'.heap ∧ s'.os = s.os ∧ AllBare s'.gens) s := by
  generalize hH : hpOf a us ns = H
  have Ha : H a = some (.frz { cls := .type "list", data := .seq us.toArray } (.lst (ns.map V.int))) := by rw [← hH]; exact hpOf_at
  have Hn : ∀ b, b ≠ a → H b = none := fun b h => by rw [← hH]; exact hpOf_ne h
  have rv := vals_ints hi
  have hok : HOk P w H s.heap := fun b u e => by
    by_cases h : b = a
    · rw [h] at e ⊢
      rw [Ha] at e
      cases e
      exact ⟨ha, by rw [List.length_map]; exact hl, us, _, rv, ha⟩
    · rw [Hn b h] at e; cases e
  -- the heap without the script
  have notA : ∀ b o, s.heap.get? b = some o → b ≠ a → (hidT s.heap H).get? b = some o := fun b o e h => hidT_get e (Hn b h)
  have nsOf : ∀ {b : Addr} {m : Str → Option Value}, s.heap.Ns b m → (hidT s.heap H).Ns b m := fun {b m} z => by
    obtain ⟨o, es, ep, e, d, r⟩ := z
    refine ⟨o, es, ep, notA b o e fun h => ?_, d, r⟩
    rw [h, ha] at e
    cases e
    cases d
  have kBase : K.In (hidT s.heap H) := fun b o e => notA b o (kIn b o e) fun h => by rw [h, out] at e; cases e
  have md : Mod K mg (hidT s.heap H) := ⟨kBase, nsOf gns, ⟨mb, nsOf bns, bts⟩, nl.imp fun _ z => ⟨nsOf z.1, z.2⟩⟩
  have env : Env0 P w K mg (hidT s.heap H) callerA [] s H := ⟨rfl, md, fun b o e => of_hidT e, Nat.le_of_eq (hidT_size _ _), trivial, (fun b hb => (List.not_mem_nil (show b ∈ ([] : List Addr) from hb)).elim), hok, .of_eq gens⟩
  let μ : Mu := fun _ => a
  have rel : Rel K H μ [.frz (ns.map .int)] := by
    refine ⟨fun n o e => ?_, fun n m h1 h2 _ => ?_⟩
    · cases n with
      | zero => cases e; exact ⟨_, _, Ha, ints_vrs ns⟩
      | succ n => simp at e
    · simp at h1 h2; omega
  have arg : VRs K H μ [Obj.frz (ns.map Val.int)].length [V.ref a] [Val.ref 0] := .cons (VR.ref (μ := μ) (n := 0) (by simp)) .nil
  obtain ⟨st', er⟩ := res
  have aft : After K W0 μ [.frz (ns.map .int)] H (F [.ref 0] [.frz (ns.map .int)]) (fun v _ => v = .bl true) := by
    rw [er]
    exact fun μ' H' v _ h => (nr_v h).i_bl
  refine codeAny_mono ((hF _ kBase (nsOf gns)).run callerA [] s H ⟨[.ref a], []⟩ [.ref a] [.ref a] [.ref 0] μ _ W0 _ room rfl env (bind s (.ref a)) (.cons rfl .nil) rel arg aft) fun r s' h => ?_
  rcases r with e | fl
  · obtain ⟨_, _, _, _, _, _, _, _, _, _, _, _, z⟩ := h
    exact z.elim
  cases fl with
  | ret u =>
    obtain ⟨v, H', os, bare, un, hok', rvv, z⟩ := h
    have z' : v = .bl true := z
    subst z'
    obtain rfl : u = Value.bool true := rvv
    refine ⟨rfl, OldK.of_keep fun b o e => ?_, os, bare⟩
    by_cases h : b = a
    · rw [h] at e ⊢
      have f2 := un.frzs a _ _ Ha
      obtain ⟨e2, _⟩ := hok' a _ f2
      rw [ha] at e
      cases e
      exact e2
    · exact un.keep b o e (Hn b h) (List.not_mem_nil (a := b)) (List.not_mem_nil (a := b))
  | next => exact h.elim
  | brk => exact h.elim
  | cont => exact h.elim
/-- the goal of a law's head -/
theorem walk_mini {l : PySem.W.OpenLaw} {n k : Nat} {q : Program} {loose : List Str} {XP : (Str → Option Value) → Heap → Prop} {YP : World → Heap → Prop} {d : DefRec} {K : Params → PySem.W.Frag} {x : Str} {F : Fn}
    (most : l.most = some n) (small : n ≤ sizeLine) (dfs : d.params.defaults = []) (room : Room k callerA) (hY : ∀ (w : World) (h : Heap), YP w h → (K w.params).In h)
    (noList : ∀ (p : Params) (a : Addr) (us : List Value) (ns : List Int), IntsAre us ns → (K p).lookup a ≠ some { cls := .type "list", data := .seq us.toArray })
    (hF : ∀ (w : World) (mg : Str → Option Value) (fa : Addr) (h : Heap), (K w.params).In h → h.Ns mainGlobals mg → mg d.name = some (.ref fa) →
      ∃ fd : FuncData, (∀ (s : Shared) (u : Value), BindsTo s fd ⟨[u], []⟩ [(x, u)]) ∧ ∀ base : Heap, (K w.params).In base → base.Ns mainGlobals mg → FnM l.prog w (K w.params) mg base k fa fd [x] F)
    (res : ∀ ns : List Int, ns.length ≤ n → ∃ st', F [.ref 0] [.frz (ns.map .int)] = .ok (.v (.bl true)) st') :
    PySem.W.WalkO q loose XP YP l.row.toRowW d [] (fun f vs => PySem.call f vs) :=
  Att.attach_call most dfs fun w _ s mg mb fa _ _ _ _ a us ns G Y _ _ _ hmg ha hi hlen hg => by
    have kIn := hY w _ Y
    obtain ⟨fd, hb, hf⟩ := hF w mg fa _ kIn G.T.g hmg
    refine law_run kIn G.T.g G.T.b G.T.builtins G.T.nolimit hg ha hi (Nat.le_trans hlen small) room ?_ hf hb (res ns hlen)
    cases e : (K w.params).lookup a with
    | none => rfl
    | some o =>
      have e2 := kIn a o e
      rw [ha] at e2
      cases e2
      exact absurd e (noList _ a us ns hi)
end Mi
namespace Mi
open PySem PySem.Spec L2
open PyProof.Rows hiding RelV
/-! ### what a generated text says of its defs -/
def AllN (mg : Str → Option Value) : List Str → Prop
  | [] => True
  | x :: r => mg x = none ∧ AllN mg r
theorem AllN.all {mg : Str → Option Value} : ∀ {l : List Str}, AllN mg l → ∀ x ∈ l, mg x = none
  | _ :: _, h, y, hy => by
    rcases List.mem_cons.mp hy with rfl | hy
    · exact h.1
    · exact h.2.all y hy
def AllG (K : PySem.W.Frag) (mg : Str → Option Value) : List (List Nat × Val) → Prop
  | [] => True
  | p :: r => (∃ v u, mg (toStr p.1) = some u ∧ RelV v u ∧ ∀ H μ N, VR K H μ N v p.2) ∧ AllG K mg r
theorem AllG.all {K : PySem.W.Frag} {mg : Str → Option Value} : ∀ {l : List (List Nat × Val)}, AllG K mg l → ∀ p ∈ l, ∃ v u, mg (toStr p.1) = some u ∧ RelV v u ∧ ∀ H μ N, VR K H μ N v p.2
  | _ :: _, h, y, hy => by
    rcases List.mem_cons.mp hy with rfl | hy
    · exact h.1
    · exact h.2.all y hy
section
variable {P : Program} {w : World} {K : PySem.W.Frag} {mg : Str → Option Value} {base : Heap}
theorem CalP.mono {k j : Nat} {fd : Fd} {F : Fn} {f : Addr} {d : FuncData} (h : CalP P w K mg base k fd F f d) (l : k ≤ j) : CalP P w K mg base j fd F f d := ⟨h.fn.mono l, h.mg, h.kp, h.bi, h.kw⟩
def AllF (P : Program) (w : World) (K : PySem.W.Frag) (mg : Str → Option Value) (base : Heap) (k : Nat) : List Fd → List Fn → Prop
  | [], _ => True
  | fd :: fs, F :: cs => (∃ f d, CalP P w K mg base k fd F f d) ∧ AllF P w K mg base k fs cs
  | _ :: _, [] => False
theorem AllF.all {k : Nat} : ∀ {fs : List Fd} {cs : List Fn}, AllF P w K mg base k fs cs → ∀ (j : Nat) (fd : Fd), fs[j]? = some fd → ∃ F f d, cs[j]? = some F ∧ CalP P w K mg base k fd F f d
  | [], _, _, j, fd, e => by simp at e
  | _ :: _, [], h, _, _, _ => h.elim
  | a :: fs, F :: cs, h, 0, fd, e => by
    cases e
    obtain ⟨f, d, z⟩ := h.1
    exact ⟨F, f, d, rfl, z⟩
  | a :: fs, F :: cs, h, j + 1, fd, e => h.2.all j fd (by simpa using e)
theorem fn_mk {c : Ctx} {cs : List Fn} {fdd : Fd} {stm : Stmt} {d : Def} {f : Addr} {oc : Value} {od an : Option Addr} {osl : Array (Option Value)} {kV doc pm cdv ct : Value} (X : K.In base) (G : base.Ns mainGlobals mg)
    (a : PySem.W.nsIn K mainGlobals fdd.name = some (some (.ref f))) (l : K.lookup f = some ⟨oc, od, .func (PySem.W.fnOf fdd.name fdd.name (defArgs stm) (defBody stm) (defScope stm) .none kV doc pm an cdv ct), osl⟩)
    (cI : PySem.W.codeIn K cdv fdd.name = true) (kI : PySem.W.keepIn K (.ref f) = true) (S : FnScope c.N fdd.ps (defScope stm)) (hsc : c.sc = defScope stm) (hcl : c.cl = none) (h1 : d.slots = c.N.length) (h2 : d.pars = fdd.ps.length)
    (hb : chkSs d.body c (defBody stm) = true) (bn : AllN mg c.bn) (gs : AllG K mg c.gs) (fs : AllF P w K mg base c.k c.fs cs)
    (bi : ∀ (kV doc pm : Value) (an : Option Addr) (cdv ct : Value) (us : List Value), us.length = fdd.ps.length → bindArgs (PySem.W.fnOf fdd.name fdd.name (defArgs stm) (defBody stm) (defScope stm) .none kV doc pm an cdv ct) ⟨us, []⟩ = pure (fdd.ps.zip us))
    (kw : ∀ (kV doc pm : Value) (an : Option Addr) (cdv ct : Value), ∀ p ∈ fdd.kws, ∀ us ws : List Value, us.length = p.1 → ws.length = p.2.1.length → bindArgs (PySem.W.fnOf fdd.name fdd.name (defArgs stm) (defBody stm) (defScope stm) .none kV doc pm an cdv ct) ⟨us, p.2.1.zip ws⟩ = pure (fdd.ps.zip (perm p.2.2 (us ++ ws)))) :
    CalP P w K mg base (c.k + 1) fdd (run d cs) f (PySem.W.fnOf fdd.name fdd.name (defArgs stm) (defBody stm) (defScope stm) .none kV doc pm an cdv ct) := by
  have F := fun_mk (st := stm) l cI kI
  exact ⟨fnm_of F S hsc hcl h1 h2 ⟨bn.all, gs.all, fs.all⟩ hb, PySem.W.mg_of X G a, kI, F.binds bi, kw _ _ _ _ _ _⟩
end
/-- no list of ints (or empty list) is written by the top -/
def plainO (o : PySem.Obj) : Bool := match o with
  | ⟨.type "list", _, .seq xs _, _⟩ => match xs.toList with
    | .int _ _ :: _ => false
    | [] => false
    | _ => true
  | _ => true
def noListB : PySem.W.Frag → Bool
  | [] => true
  | q :: r => plainO q.2 && noListB r
theorem noList_ok : ∀ {K : PySem.W.Frag}, noListB K = true → ∀ (a : Addr) (us : List Value) (ns : List Int), IntsAre us ns → K.lookup a ≠ some { cls := .type "list", data := .seq us.toArray }
  | [], _, a, us, ns, _ => by simp
  | (b, o) :: r, h, a, us, ns, hi => by
    simp only [noListB, Bool.and_eq_true] at h
    intro e
    rw [List.lookup_cons] at e
    split at e
    · cases e
      cases hi with
      | nil => exact absurd h.1 (by decide)
      | cons n t _ => exact absurd h.1 (by simp [plainO])
    · exact noList_ok h.2 a us ns hi e
end Mi
end
section
set_option linter.all false
set_option autoImplicit false
/-! MiPlain: words for plain laws: what a computation comes to. -/
namespace Mi
/-- it comes to a value, and so it is -/
def Ok {α : Type} (r : Res α) (Q : α → Store → Prop) : Prop := match r with
  | .ok a st => Q a st
  | _ => False
section
variable {α β : Type}
theorem Ok.bind {r : Res α} {f : α → Store → Res β} {P : α → Store → Prop} {Q : β → Store → Prop} (h : Ok r P) (k : ∀ a st, P a st → Ok (f a st) Q) : Ok (r.bind f) Q := by
  cases r with
  | ok a st => exact k a st h
  | exc _ _ _ => exact h.elim
  | bad => exact h.elim
theorem Ok.imp {r : Res α} {P Q : α → Store → Prop} (h : Ok r P) (k : ∀ a st, P a st → Q a st) : Ok r Q := by
  cases r with
  | ok a st => exact k a st h
  | exc _ _ _ => exact h.elim
  | bad => exact h.elim
theorem Ok.ex {r : Res α} {Q : α → Store → Prop} (h : Ok r Q) : ∃ a st, r = .ok a st ∧ Q a st := by
  cases r with
  | ok a st => exact ⟨a, st, rfl, h⟩
  | exc _ _ _ => exact h.elim
  | bad => exact h.elim
theorem Ok.of {r : Res α} {Q : α → Store → Prop} {a : α} {st : Store} (e : r = .ok a st) (h : Q a st) : Ok r Q := by rw [e]; exact h
/-- there is something, and so it is -/
def onS {α : Type} (o : Option α) (Q : α → Prop) : Prop := match o with
  | some a => Q a
  | none => False
theorem on_some {α : Type} {a : α} {Q : α → Prop} : onS (some a) Q = Q a := rfl
theorem on_none {α : Type} {Q : α → Prop} : onS (none : Option α) Q = False := rfl
theorem k_ok {a : α} {st : Store} {Q : α → Store → Prop} : Ok (.ok a st) Q = Q a st := rfl
theorem k_bad {Q : α → Store → Prop} : Ok .bad Q = False := rfl
theorem k_bind {r : Res α} {f : α → Store → Res β} {Q : β → Store → Prop} : Ok (r.bind f) Q = Ok r fun a st => Ok (f a st) Q := by cases r <;> rfl
theorem k_ite {c : Prop} [Decidable c] {r q : Res α} {Q : α → Store → Prop} : Ok (if c then r else q) Q = if c then Ok r Q else Ok q Q := by split <;> rfl
theorem k_lift {o : Option α} {st : Store} {Q : α → Store → Prop} : Ok (lift o st) Q = onS o fun a => Q a st := by cases o <;> rfl
theorem k_noX {r : Res α} {Q : α → Store → Prop} : Ok (noX r) Q = Ok r Q := by cases r <;> rfl
end
section
variable {cs : List Fn} {ρ : Env} {st : Store} {Q : RV → Store → Prop} {a b c d e es : E} {v : Val}
/-! ### expressions -/
theorem e_k : Ok (ev cs (.k v) ρ st) Q = Q (.v v) st := rfl
theorem e_g {nm : List Nat} : Ok (ev cs (.g nm v) ρ st) Q = Q (.v v) st := rfl
theorem e_x {i : Nat} : Ok (ev cs (.x i) ρ st) Q = onS ρ[i]? fun o => onS o fun v => Q (.v v) st := by
  rw [ev]
  cases h : ρ[i]? with
  | none => rfl
  | some o => cases o <;> rfl
theorem e_tup : Ok (ev cs (.tup es) ρ st) Q = Ok (evs cs es ρ st) fun rs st1 => rs.length ≤ top ∧ Q (.v (.tup (settles rs st1).1)) (settles rs st1).2 := by
  rw [ev, k_bind]
  congr 1
  funext rs st1
  rw [k_ite]
  by_cases h : rs.length ≤ top <;> simp [h, k_ok, k_bad]
theorem e_lst : Ok (ev cs (.lst es) ρ st) Q = Ok (evs cs es ρ st) fun rs st1 => rs.length ≤ top ∧ Q (.l (settles rs st1).1) (settles rs st1).2 := by
  rw [ev, k_bind]
  congr 1
  funext rs st1
  rw [k_ite]
  by_cases h : rs.length ≤ top <;> simp [h, k_ok, k_bad]
theorem e_op1 {o : O1} : Ok (ev cs (.op1 o a) ρ st) Q = Ok (ev cs a ρ st) fun r st1 => Ok (f1 o r st1) Q := by rw [ev, k_bind]
theorem e_op2 {o : O2} : Ok (ev cs (.op2 o a b) ρ st) Q = Ok (ev cs a ρ st) fun r st1 => pre2 o r st1 = true ∧ Ok (ev cs b ρ st1) fun q st2 => Ok (f2 o r q st2) Q := by
  rw [ev, k_bind]
  congr 1
  funext r st1
  rw [k_ite]
  by_cases h : pre2 o r st1 = true <;> simp [h, k_bind, k_bad]
theorem e_op3 {o : O3} : Ok (ev cs (.op3 o a b c) ρ st) Q = Ok (ev cs a ρ st) fun r st1 => pre3 o r st1 = true ∧ Ok (ev cs b ρ st1) fun q st2 => Ok (ev cs c ρ st2) fun u st3 => Ok (f3 o r q u st3) Q := by
  rw [ev, k_bind]
  congr 1
  funext r st1
  rw [k_ite]
  by_cases h : pre3 o r st1 = true <;> simp [h, k_bind, k_bad]
theorem e_sl {lo hi : E} : Ok (ev cs (.sl a lo hi) ρ st) Q = Ok (ev cs a ρ st) fun r st1 => Ok (optI (isNil lo) (ev cs lo ρ) st1) fun l st2 => Ok (optI (isNil hi) (ev cs hi ρ) st2) fun h st3 => Ok (fsl r l h st3) Q := by
  rw [ev, k_bind]
  congr 1; funext r st1
  rw [k_bind]
  congr 1; funext l st2
  rw [k_bind]
theorem k_optT {f : Store → Res RV} {Q : Option Int → Store → Prop} : Ok (optI true f st) Q = Q none st := rfl
theorem k_optF {f : Store → Res RV} {Q : Option Int → Store → Prop} : Ok (optI false f st) Q = Ok (f st) fun r st1 => onS (intOf r) fun i => Q (some i) st1 := by
  simp only [optI, Bool.false_eq_true, if_false, k_bind]
  congr 1
  funext r st1
  cases r with
  | l _ => rfl
  | v x => cases x <;> rfl
theorem e_and : Ok (ev cs (.and a b) ρ st) Q = Ok (ev cs a ρ st) fun r st1 => match r with | .v (.bl k) => if k = true then Ok (ev cs b ρ st1) Q else Q (.v (.bl false)) st1 | _ => False := by
  rw [ev, k_bind]
  congr 1; funext r st1
  cases r with
  | l _ => rfl
  | v x => cases x with
    | bl k => cases k <;> rfl
    | _ => rfl
theorem e_or : Ok (ev cs (.or a b) ρ st) Q = Ok (ev cs a ρ st) fun r st1 => match r with | .v (.bl k) => if k = true then Q (.v (.bl true)) st1 else Ok (ev cs b ρ st1) Q | _ => False := by
  rw [ev, k_bind]
  congr 1; funext r st1
  cases r with
  | l _ => rfl
  | v x => cases x with
    | bl k => cases k <;> rfl
    | _ => rfl
theorem e_not : Ok (ev cs (.not a) ρ st) Q = Ok (ev cs a ρ st) fun r st1 => onS (truthV st1 r) fun k => Q (.v (.bl (!k))) st1 := by
  rw [ev, k_bind]
  congr 1; funext r st1
  rw [k_bind, truthR, k_lift]
  cases truthV st1 r <;> rfl
theorem e_ite : Ok (ev cs (.ite c a b) ρ st) Q = Ok (ev cs c ρ st) fun r st1 => onS (truthV st1 r) fun k => if k = true then Ok (ev cs a ρ st1) Q else Ok (ev cs b ρ st1) Q := by
  rw [ev, k_bind]
  congr 1; funext r st1
  rw [k_bind, truthR, k_lift]
  cases h : truthV st1 r with
  | none => rfl
  | some k => exact k_ite
theorem e_chain {o p : O2} : Ok (ev cs (.chain o p a b c) ρ st) Q = Ok (ev cs a ρ st) fun r st1 => Ok (ev cs b ρ st1) fun q st2 => (isV r && isV q) = true ∧ Ok (f2 o r q st2) fun z st3 => match z with
    | .v (.bl k) => if k = true then Ok (ev cs c ρ st3) fun u st4 => Ok (f2 p q u st4) Q else Q (.v (.bl false)) st3
    | _ => False := by
  rw [ev, k_bind]
  congr 1; funext r st1
  rw [k_bind]
  congr 1; funext q st2
  rw [k_ite]
  by_cases h : (isV r && isV q) = true
  · rw [if_pos h, k_bind]
    simp only [h, true_and]
    congr 1; funext z st3
    cases z with
    | l _ => rfl
    | v x => cases x with
      | bl k => cases k with
        | true => exact k_bind
        | false => rfl
      | _ => rfl
  · rw [if_neg h]; simp [h, k_bad]
theorem e_call {m : Bool} {j : Nat} {kw : List Nat} : Ok (ev cs (.call m j kw es) ρ st) Q = Ok (evs cs es ρ st) fun rs st1 => onS cs[j]? fun f => Ok (runCall m f (permute kw rs) st1) Q := by
  rw [ev, k_bind]
  congr 1; funext rs st1
  cases cs[j]? <;> rfl
theorem e_nil {Q : List RV → Store → Prop} : Ok (evs cs .nil ρ st) Q = Q [] st := by rw [evs]; rfl
theorem e_cons {Q : List RV → Store → Prop} : Ok (evs cs (.cons a b) ρ st) Q = Ok (ev cs a ρ st) fun r st1 => Ok (evs cs b ρ st1) fun rs st2 => Q (r :: rs) st2 := by
  rw [evs, k_bind]
  congr 1; funext r st1
  rw [k_bind]; rfl
theorem e_dic {t : Bool} : Ok (ev cs (.dic t es) ρ st) Q = Ok (evs cs es ρ st) fun rs st1 => onS (dicOf t (settles rs st1).1) fun kvs => (kvs.length ≤ 15 ∧ (t = false ∨ kvs = [])) ∧ Q (.v (.ref (settles rs st1).2.length)) ((settles rs st1).2 ++ [.dic t (mergeD [] kvs)]) := by
  rw [ev, k_bind]
  congr 1; funext rs st1
  dsimp only
  cases h : dicOf t (settles rs st1).1 with
  | none => rfl
  | some kvs =>
    dsimp only [onS]
    rw [k_ite]
    by_cases h : kvs.length ≤ 15 ∧ (t = false ∨ kvs = []) <;> simp [h, k_ok, k_bad]
theorem e_comp {own : List Nat} {t : T} {k : IK} : Ok (ev cs (.comp own t k a b c e) ρ st) Q = Ok (ev cs a ρ st) fun r st1 => Ok (opt2 (isNil b) (ev cs b ρ) st1) fun q st2 => onS (walk k r q st2) fun p => Ok (compLoop p.2 t (fun ρ' st' => optC (isNil c) (ev cs c ρ') st') (fun ρ' st' => ev cs e ρ' st') (wipeE ρ own) p.1 [] st2) fun l st3 => Q (.l l) st3 := by
  rw [ev, k_bind]
  congr 1; funext r st1
  rw [k_bind]
  congr 1; funext q st2
  cases walk k r q st2 with
  | none => rfl
  | some p => exact k_bind.trans k_noX
theorem k_op2T {f : Store → Res RV} : Ok (opt2 true f st) Q = Q (.v .non) st := rfl
theorem k_op2F {f : Store → Res RV} : Ok (opt2 false f st) Q = Ok (f st) Q := rfl
theorem k_optCT {f : Store → Res RV} {Q : Bool → Store → Prop} : Ok (optC true f st) Q = Q true st := rfl
theorem k_optCF {f : Store → Res RV} {Q : Bool → Store → Prop} : Ok (optC false f st) Q = Ok (f st) fun r st1 => onS (truthV st1 r) fun k => Q k st1 := by
  simp only [optC, Bool.false_eq_true, if_false, k_bind, truthR, k_lift]
end
section
variable {cs : List Fn} {ρ : Env} {st : Store} {n : Nat} {Q : Out → Store → Prop} {s t : S} {a b c e : E}
/-! ### statements -/
theorem s_skip : Ok (ex cs n .skip ρ st) Q = Q (.nx ρ) st := rfl
theorem s_seq : Ok (ex cs n (.seq s t) ρ st) Q = Ok (ex cs n s ρ st) fun o st1 => match o with | .nx ρ1 => Ok (ex cs n t ρ1 st1) Q | o => Q o st1 := by
  rw [ex, k_bind]
  congr 1; funext o st1
  cases o <;> rfl
theorem s_asg {g : G} : Ok (ex cs n (.asg g e) ρ st) Q = Ok (ev cs e ρ st) fun r st1 => Ok (setG cs g (settle r st1).1 ρ (settle r st1).2) fun ρ1 st2 => Q (.nx ρ1) st2 := by
  rw [ex, k_bind]
  congr 1; funext r st1
  rw [k_bind]; rfl
theorem s_ex : Ok (ex cs n (.ex e) ρ st) Q = Ok (ev cs e ρ st) fun _ st1 => Q (.nx ρ) st1 := by rw [ex, k_bind]; rfl
theorem s_ret : Ok (ex cs n (.ret e) ρ st) Q = Ok (ev cs e ρ st) fun r st1 => Q (.rt r) st1 := by rw [ex, k_bind]; rfl
theorem s_retN : Ok (ex cs n .retN ρ st) Q = Q (.rt (.v .non)) st := rfl
theorem s_brk : Ok (ex cs n .brk ρ st) Q = Q (.bk ρ) st := rfl
theorem s_cont : Ok (ex cs n .cont ρ st) Q = Q (.ct ρ) st := rfl
theorem s_ite : Ok (ex cs n (.ite c s t) ρ st) Q = Ok (ev cs c ρ st) fun r st1 => onS (truthV st1 r) fun k => if k = true then Ok (ex cs n s ρ st1) Q else Ok (ex cs n t ρ st1) Q := by
  rw [ex, k_bind]
  congr 1; funext r st1
  rw [k_bind, truthR, k_lift]
  cases h : truthV st1 r with
  | none => rfl
  | some k => exact k_ite
theorem s_whil : Ok (ex cs n (.whil c s) ρ st) Q = Ok (whileLoop (fun ρ' st' => (ev cs c ρ' st').bind fun r st1 => truthR r st1) (fun ρ' st' => ex cs n s ρ' st') n ρ st) Q := by rw [ex]
theorem s_fo {t : T} {k : IK} : Ok (ex cs n (.fo t k a b s) ρ st) Q = Ok (ev cs a ρ st) fun r st1 => Ok (opt2 (isNil b) (ev cs b ρ) st1) fun q st2 => onS (walk k r q st2) fun p => Ok (forLoop p.2 t (fun ρ' st' => ex cs n s ρ' st') p.1 ρ st2) Q := by
  rw [ex, k_bind]
  congr 1; funext r st1
  rw [k_bind]
  congr 1; funext q st2
  cases walk k r q st2 <;> rfl
theorem g_tg {t : T} {v : Val} {Q : Env → Store → Prop} : Ok (setG cs (.tg t) v ρ st) Q = onS (bindT t v ρ) fun ρ' => Q ρ' st := by
  rw [setG, k_lift]
theorem g_sub {o i : E} {v : Val} {Q : Env → Store → Prop} : Ok (setG cs (.sub o i) v ρ st) Q = Ok (ev cs o ρ st) fun r st1 => Ok (ev cs i ρ st1) fun q st2 => Ok (fset r q v st2) fun _ st3 => Q ρ st3 := by
  rw [setG, k_bind]
  congr 1; funext r st1
  rw [k_bind]
  congr 1; funext q st2
  rw [k_bind]; rfl
theorem r_run {d : Def} {args : List Val} {Q : RV → Store → Prop} : Ok (run d cs args st) Q = (args.length = d.pars ∧ Ok (ex cs FUEL d.body (args.map some ++ List.replicate (d.slots - args.length) none) st) fun o st1 => match o with
    | .rt r => Q r st1
    | .nx _ => Q (.v .non) st1
    | _ => False) := by
  unfold run
  by_cases h : args.length = d.pars
  · simp only [h, if_true, true_and]
    cases ex cs FUEL d.body (args.map some ++ List.replicate (d.slots - d.pars) none) st with
    | ok o st1 => cases o <;> rfl
    | exc _ _ _ => rfl
    | bad => rfl
  · simp [h, k_bad]
theorem r_call {f : Fn} {rs : List RV} {Q : RV → Store → Prop} : Ok (runCall false f rs st) Q = Ok (f (settles rs st).1 (settles rs st).2) Q := rfl
theorem r_pure {f : Fn} {rs : List RV} {Q : RV → Store → Prop} : Ok (runCall true f rs st) Q = (rs.all nrR = true ∧ Ok (f (settles rs []).1 (settles rs []).2) fun r st1 => match r with
    | .v x => Ok (pureVal st st1 x) Q
    | .l xs => Val.nrs xs = true ∧ Q (.l xs) st) := by
  show Ok (pureCall f rs st) Q = _
  unfold pureCall
  rw [k_ite]
  by_cases h : rs.all nrR = true
  · rw [if_pos h]
    simp only [h, true_and]
    cases f (settles rs []).1 (settles rs []).2 with
    | ok r st1 =>
      cases r with
      | v x => rfl
      | l xs =>
        show Ok (if Val.nrs xs then _ else _) Q = _
        by_cases h : Val.nrs xs = true <;> simp [h, k_ok, k_bad]
    | exc c p st1 =>
      show Ok (if Val.nrs p then _ else _) Q = False
      split <;> rfl
    | bad => rfl
  · simp [h, k_bad]
/-! ### loops -/
theorem l_for0 {w : List (Nat × List Val)} {t : T} {f : Env → Store → Res Out} : Ok (forLoop w t f [] ρ st) Q = (stands w st = true ∧ Q (.nx ρ) st) := by
  unfold forLoop
  by_cases h : stands w st = true <;> simp [h, k_ok, k_bad]
theorem l_for1 {w : List (Nat × List Val)} {t : T} {f : Env → Store → Res Out} {x : Val} {xs : List Val} : Ok (forLoop w t f (x :: xs) ρ st) Q = (stands w st = true ∧ onS (bindT t x ρ) fun ρ1 => Ok (f ρ1 st) fun o st2 => match o with
      | .nx ρ2 => Ok (forLoop w t f xs ρ2 st2) Q
      | .ct ρ2 => Ok (forLoop w t f xs ρ2 st2) Q
      | .bk ρ2 => Q (.nx ρ2) st2
      | .rt r => Q (.rt r) st2) := by
  rw [forLoop]
  by_cases h : stands w st = true
  · simp only [h, if_true, true_and]
    cases bindT t x ρ with
    | none => rfl
    | some ρ1 =>
      dsimp only [onS]
      rw [k_bind]
      congr 1; funext o st2
      cases o <;> rfl
  · simp [h, k_bad]
theorem l_comp0 {w : List (Nat × List Val)} {t : T} {c : Env → Store → Res Bool} {f : Env → Store → Res RV} {acc : List Val} {Q : List Val → Store → Prop} : Ok (compLoop w t c f ρ [] acc st) Q = (stands w st = true ∧ Q acc st) := by
  unfold compLoop
  by_cases h : stands w st = true <;> simp [h, k_ok, k_bad]
theorem l_comp1 {w : List (Nat × List Val)} {t : T} {c : Env → Store → Res Bool} {f : Env → Store → Res RV} {x : Val} {xs acc : List Val} {Q : List Val → Store → Prop} : Ok (compLoop w t c f ρ (x :: xs) acc st) Q = (stands w st = true ∧ onS (bindT t x ρ) fun ρ1 => Ok (c ρ1 st) fun k st1 => if k = true then Ok (f ρ1 st1) fun r st2 => acc.length < top ∧ Ok (compLoop w t c f ρ xs (acc ++ [(settle r st2).1]) (settle r st2).2) Q else Ok (compLoop w t c f ρ xs acc st1) Q) := by
  rw [compLoop]
  by_cases h : stands w st = true
  · simp only [h, if_true, true_and]
    cases bindT t x ρ with
    | none => rfl
    | some ρ1 =>
      dsimp only [onS]
      rw [k_bind]
      congr 1; funext k st1
      cases k with
      | false => simp
      | true =>
        simp only [if_true]
        rw [k_bind]
        congr 1; funext r st2
        rw [k_ite]
        by_cases h : acc.length < top <;> simp [h, k_bad]
  · simp [h, k_bad]
end
/-- a loop that keeps J -/
theorem for_inv {w : List (Nat × List Val)} {t : T} {f : Env → Store → Res Out} (J : List Val → Env → Store → Prop) {Q : Out → Store → Prop} (hw : ∀ xs ρ st, J xs ρ st → stands w st = true)
    (step : ∀ x xs ρ st, J (x :: xs) ρ st → ∃ ρ1, bindT t x ρ = some ρ1 ∧ Ok (f ρ1 st) fun o st2 => match o with
      | .nx ρ2 => J xs ρ2 st2
      | .ct ρ2 => J xs ρ2 st2
      | .bk ρ2 => Q (.nx ρ2) st2
      | .rt r => Q (.rt r) st2) (fin : ∀ ρ st, J [] ρ st → Q (.nx ρ) st) : ∀ (xs : List Val) (ρ : Env) (st : Store), J xs ρ st → Ok (forLoop w t f xs ρ st) Q
  | [], ρ, st, h => by rw [l_for0]; exact ⟨hw _ _ _ h, fin _ _ h⟩
  | x :: xs, ρ, st, h => by
    rw [l_for1]
    refine ⟨hw _ _ _ h, ?_⟩
    obtain ⟨ρ1, e, z⟩ := step x xs ρ st h
    rw [e, on_some]
    refine Ok.imp z fun o st2 q => ?_
    cases o with
    | nx ρ2 => exact for_inv J hw step fin xs ρ2 st2 q
    | ct ρ2 => exact for_inv J hw step fin xs ρ2 st2 q
    | bk ρ2 => exact q
    | rt r => exact q
theorem comp_inv {w : List (Nat × List Val)} {t : T} {c : Env → Store → Res Bool} {f : Env → Store → Res RV} {ρ : Env} (J : List Val → List Val → Store → Prop) {Q : List Val → Store → Prop} (hw : ∀ xs acc st, J xs acc st → stands w st = true)
    (step : ∀ x xs acc st, J (x :: xs) acc st → ∃ ρ1, bindT t x ρ = some ρ1 ∧ Ok (c ρ1 st) fun k st1 => if k = true then Ok (f ρ1 st1) fun r st2 => acc.length < top ∧ J xs (acc ++ [(settle r st2).1]) (settle r st2).2 else J xs acc st1)
    (fin : ∀ acc st, J [] acc st → Q acc st) : ∀ (xs acc : List Val) (st : Store), J xs acc st → Ok (compLoop w t c f ρ xs acc st) Q
  | [], acc, st, h => by rw [l_comp0]; exact ⟨hw _ _ _ h, fin _ _ h⟩
  | x :: xs, acc, st, h => by
    rw [l_comp1]
    refine ⟨hw _ _ _ h, ?_⟩
    obtain ⟨ρ1, e, z⟩ := step x xs acc st h
    rw [e, on_some]
    refine Ok.imp z fun k st1 q => ?_
    cases k with
    | false => simp only [Bool.false_eq_true, if_false] at q ⊢; exact comp_inv J hw step fin xs acc st1 q
    | true =>
      simp only [if_true] at q ⊢
      exact Ok.imp q fun r st2 q => ⟨q.1, comp_inv J hw step fin xs _ _ q.2⟩
end Mi
end
section
set_option linter.all false
set_option autoImplicit false
/-! MiPlain2: operations, for plain laws. -/
namespace Mi
section
variable {st : Store} {Q : RV → Store → Prop} {a b c : RV} {i j : Int} {x y : List Nat} {xs ys : List Val} {u v : Val}
theorem p_eq : Ok (f2 .eq a b st) Q = onS (eqR st a b) fun k => Q (.v (.bl k)) st := by
  simp only [f2, ov]; cases eqR st a b <;> rfl
theorem p_ne : Ok (f2 .ne a b st) Q = onS (eqR st a b) fun k => Q (.v (.bl (!k))) st := by
  simp only [f2, ov]; cases eqR st a b <;> rfl
theorem p_lt : Ok (f2 .lt (.v (.int i)) (.v (.int j)) st) Q = Q (.v (.bl (decide (i < j)))) st := rfl
theorem p_le : Ok (f2 .le (.v (.int i)) (.v (.int j)) st) Q = Q (.v (.bl (decide (i ≤ j)))) st := rfl
theorem p_gt : Ok (f2 .gt (.v (.int i)) (.v (.int j)) st) Q = Q (.v (.bl (decide (j < i)))) st := rfl
theorem p_ge : Ok (f2 .ge (.v (.int i)) (.v (.int j)) st) Q = Q (.v (.bl (decide (j ≤ i)))) st := rfl
theorem p_addI : Ok (f2 .add (.v (.int i)) (.v (.int j)) st) Q = Q (.v (.int (i + j))) st := rfl
theorem p_addS : Ok (f2 .add (.v (.str x)) (.v (.str y)) st) Q = (x.length + y.length ≤ top ∧ Q (.v (.str (x ++ y))) st) := by
  simp only [f2]; rw [k_ite]; by_cases h : x.length + y.length ≤ top <;> simp [h, k_ok, k_bad]
theorem p_addT : Ok (f2 .add (.v (.tup xs)) (.v (.tup ys)) st) Q = (xs.length + ys.length ≤ top ∧ Q (.v (.tup (xs ++ ys))) st) := by
  simp only [f2]; rw [k_ite]; by_cases h : xs.length + ys.length ≤ top <;> simp [h, k_ok, k_bad]
theorem p_addL (h : ownL st a = some xs) (g : ownL st b = some ys) : Ok (f2 .add a b st) Q = (xs.length + ys.length ≤ top ∧ Q (.l (xs ++ ys)) st) := by
  have e : f2 .add a b st = if xs.length + ys.length ≤ top then .ok (.l (xs ++ ys)) st else .bad := by
    simp only [f2]
    split
    · simp [ownL] at h
    · simp [ownL] at h
    · simp [ownL] at h
    · rw [h, g]
  rw [e, k_ite]
  by_cases h : xs.length + ys.length ≤ top <;> simp [h, k_ok, k_bad]
theorem p_sub : Ok (f2 .sub (.v (.int i)) (.v (.int j)) st) Q = Q (.v (.int (i - j))) st := rfl
theorem p_mul : Ok (f2 .mul (.v (.int i)) (.v (.int j)) st) Q = ((i.natAbs < 2 ^ 64 ∨ j.natAbs < 2 ^ 64 ∨ i.natAbs.log2 + j.natAbs.log2 < 1000000) ∧ Q (.v (.int (i * j))) st) := by
  simp only [f2]; rw [k_ite]; by_cases h : i.natAbs < 2 ^ 64 ∨ j.natAbs < 2 ^ 64 ∨ i.natAbs.log2 + j.natAbs.log2 < 1000000 <;> simp [h, k_ok, k_bad]
theorem p_mod : Ok (f2 .mod (.v (.int i)) (.v (.int j)) st) Q = (0 < j ∧ Q (.v (.int (i % j))) st) := by
  simp only [f2]; rw [k_ite]; by_cases h : 0 < j <;> simp [h, k_ok, k_bad]
theorem p_fdiv : Ok (f2 .fdiv (.v (.int i)) (.v (.int j)) st) Q = ((0 < j ∧ j.natAbs.log2 < 9000) ∧ Q (.v (.int (i / j))) st) := by
  simp only [f2]; rw [k_ite]; by_cases h : 0 < j ∧ j.natAbs.log2 < 9000 <;> simp [h, k_ok, k_bad]
theorem p_pow : Ok (f2 .pow (.v (.int i)) (.v (.int j)) st) Q = ((0 ≤ j ∧ j ≤ 1000000 ∧ i.natAbs < 2 ^ 64) ∧ Q (.v (.int (i ^ j.toNat))) st) := by
  simp only [f2]; rw [k_ite]; by_cases h : 0 ≤ j ∧ j ≤ 1000000 ∧ i.natAbs < 2 ^ 64 <;> simp [h, k_ok, k_bad]
theorem p_in : Ok (f2 .isin (.v u) b st) Q = onS (seqR st b) fun p => onS (anyEq st u p.2) fun k => Q (.v (.bl k)) st := by
  simp only [f2]
  cases h : seqR st b with
  | none => rfl
  | some p =>
    obtain ⟨k, ys⟩ := p
    simp only [ov, on_some]
    cases anyEq st u ys <;> rfl
theorem p_notin : Ok (f2 .notin (.v u) b st) Q = onS (seqR st b) fun p => onS (anyEq st u p.2) fun k => Q (.v (.bl (!k))) st := by
  simp only [f2]
  cases h : seqR st b with
  | none => rfl
  | some p =>
    obtain ⟨k, ys⟩ := p
    simp only [ov, on_some]
    cases anyEq st u ys <;> rfl
theorem p_ixT : Ok (f2 .ix (.v (.tup xs)) (.v (.int i)) st) Q = onS (at' xs i) fun d => Q (.v d) st := by
  simp only [f2, seqR, seqV, ov]; cases at' xs i <;> rfl
theorem p_ixL {l : Bool} (h : seqR st a = some (l, xs)) : Ok (f2 .ix a (.v (.int i)) st) Q = onS (at' xs i) fun d => Q (.v d) st := by
  simp only [f2, h, ov]; cases at' xs i <;> rfl
theorem p_ixD {n : Nat} {kvs : List (Val × Val)} (h : st[n]? = some (.dic false kvs)) : Ok (f2 .ix (.v (.ref n)) (.v (.str x)) st) Q = onS (kget kvs (.str x)) fun d => Q (.v d) st := by
  have e : seqR st (.v (.ref n)) = none := by simp [seqR, seqV, lstAt, h]
  have e2 : dicAt st (.v (.ref n)) = some (n, false, kvs) := by simp [dicAt, h]
  simp only [f2, e, e2, keyOk, if_true, ov]
  cases kget kvs (.str x) <;> rfl
theorem p_append {n : Nat} (h : mutAt st a = some (n, xs)) : Ok (f2 .append a b st) Q = (xs.length < top ∧ Q (.v .non) ((settle b st).2.set n (.lst (xs ++ [(settle b st).1])))) := by
  simp only [f2, h]; rw [k_ite]; by_cases h : xs.length < top <;> simp [h, k_ok, k_bad]
theorem p_extend {n : Nat} (h : mutAt st a = some (n, xs)) (g : ownL st b = some ys) : Ok (f2 .extend a b st) Q = (xs.length + ys.length ≤ top ∧ Q (.v .non) (st.set n (.lst (xs ++ ys)))) := by
  simp only [f2, h, g]; rw [k_ite]; by_cases h : xs.length + ys.length ≤ top <;> simp [h, k_ok, k_bad]
theorem p_popAt {n m : Nat} (h : mutAt st a = some (n, xs)) (g : ix xs.length i = some m) (e : xs[m]? = some u) : Ok (f2 .popAt a (.v (.int i)) st) Q = Q (.v u) (st.set n (.lst (xs.eraseIdx m))) := by
  simp only [f2, h, g, e]; rfl
/-! ### one value -/
theorem p_neg : Ok (f1 .neg (.v (.int i)) st) Q = Q (.v (.int (-i))) st := rfl
theorem p_abs : Ok (f1 .abs (.v (.int i)) st) Q = Q (.v (.int (if i < 0 then -i else i))) st := rfl
theorem p_int : Ok (f1 .int (.v (.int i)) st) Q = Q (.v (.int i)) st := rfl
theorem p_intB {k : Bool} : Ok (f1 .int (.v (.bl k)) st) Q = Q (.v (.int (if k then 1 else 0))) st := rfl
theorem p_len {l : Bool} (h : seqR st a = some (l, xs)) : Ok (f1 .len a st) Q = Q (.v (.int xs.length)) st := by simp only [f1, h]; rfl
theorem p_lenS : Ok (f1 .len (.v (.str x)) st) Q = (x.length ≤ top ∧ Q (.v (.int x.length)) st) := by
  simp only [f1, seqR, seqV]; rw [k_ite]; by_cases h : x.length ≤ top <;> simp [h, k_ok, k_bad]
theorem p_tuple : Ok (f1 .tuple a st) Q = onS (seqR st a) fun p => Q (.v (.tup p.2)) st := by
  simp only [f1]; cases seqR st a <;> rfl
theorem p_list : Ok (f1 .list a st) Q = onS (seqR st a) fun p => Q (.l p.2) st := by
  simp only [f1]; cases seqR st a <;> rfl
theorem p_sortS {zs : List (List Nat)} (h : seqR st a = some (true, zs.map .str)) (hl : zs.length < 64) : Ok (f1 .sorted a st) Q = Q (.l ((isort leN zs).map .str)) st := by
  have e : ∀ zs : List (List Nat), allStrs (zs.map .str) = some zs := fun zs => by
    induction zs with
    | nil => rfl
    | cons z zs ih => simp [allStrs, ih]
  simp only [f1, h, List.length_map, hl, if_true, e]; rfl
theorem p_repr : Ok (f1 .repr a st) Q = onS (datR st a) fun d => dsz d ≤ top ∧ Q (.v (.str d.shown.cps.toList)) st := by
  simp only [f1]
  cases datR st a with
  | none => rfl
  | some d => simp only [on_some]; rw [k_ite]; by_cases h : dsz d ≤ top <;> simp [h, k_ok, k_bad]
theorem p_pop {n : Nat} (h : mutAt st a = some (n, xs)) (g : xs[xs.length - 1]? = some u) : Ok (f1 .pop a st) Q = Q (.v u) (st.set n (.lst xs.dropLast)) := by
  simp only [f1, h, g]; rfl
theorem p_rev : Ok (f1 .rev a st) Q = onS (seqR st a) fun p => p.1 = true ∧ Q (.l p.2.reverse) st := by
  simp only [f1]
  cases seqR st a with
  | none => rfl
  | some p => obtain ⟨k, xs⟩ := p; cases k <;> simp [k_ok, k_bad, on_some]
theorem p_slT {lo hi : Option Int} : Ok (fsl (.v (.tup xs)) lo hi st) Q = Q (.v (.tup (cut xs lo hi))) st := rfl
theorem p_slL {lo hi : Option Int} (h : seqR st a = some (true, xs)) : Ok (fsl a lo hi st) Q = Q (.l (cut xs lo hi)) st := by simp only [fsl, h]; rfl
/-! ### equality by shapes -/
theorem q_ss : eqR st (.v (.str x)) (.v (.str y)) = some (x == y) := rfl
theorem q_ii : eqR st (.v (.int i)) (.v (.int j)) = some (i == j) := rfl
theorem q_bb {k m : Bool} : eqR st (.v (.bl k)) (.v (.bl m)) = some (k == m) := rfl
theorem q_tt : eqR st (.v (.tup xs)) (.v (.tup ys)) = eqAll (eqV 60 st) xs ys := rfl
theorem q_ll : eqR st (.l xs) (.l ys) = if xs.length != ys.length then some false else eqAll (eqV 60 st) xs ys := by simp [eqR, seqR]
theorem q_vs : eqV 60 st (.str x) (.str y) = some (x == y) := rfl
theorem q_vi : eqV 60 st (.int i) (.int j) = some (i == j) := rfl
theorem q_vt : eqV 60 st (.tup xs) (.tup ys) = eqAll (eqV 59 st) xs ys := rfl
theorem q_nil {f : Val → Val → Option Bool} : eqAll f [] [] = some true := rfl
theorem q_nilc {f : Val → Val → Option Bool} : eqAll f [] (u :: xs) = some false := rfl
theorem q_cnil {f : Val → Val → Option Bool} : eqAll f (u :: xs) [] = some false := rfl
theorem q_cons {f : Val → Val → Option Bool} : eqAll f (u :: xs) (v :: ys) = (f u v).bind fun b => (eqAll f xs ys).bind fun c => some (b && c) := rfl
theorem q_any0 : anyEq st u [] = some false := rfl
theorem q_any1 : anyEq st u (v :: ys) = (eqV 60 st v u).bind fun b => (anyEq st u ys).bind fun c => some (b || c) := rfl
theorem q_anyS {zs : List (List Nat)} : anyEq st (.str x) (zs.map .str) = some (zs.contains x) := by
  induction zs with
  | nil => rfl
  | cons z zs ih =>
    rw [List.map_cons, q_any1, q_vs, ih]
    simp only [Option.bind, List.contains_cons]
    congr 1
    rw [Bool.beq_comm]
/-! ### by what the store holds -/
def onE {α : Type} (o : Option α) (f : α → Prop) (g : Prop) : Prop := match o with
  | some a => f a
  | none => g
theorem onE_some {α : Type} {x : α} {f : α → Prop} {g : Prop} : onE (some x) f g = f x := rfl
theorem onE_none {α : Type} {f : α → Prop} {g : Prop} : onE none f g = g := rfl
theorem p_addl : Ok (f2 .add (.l xs) b st) Q = onS (ownL st b) fun ys => xs.length + ys.length ≤ top ∧ Q (.l (xs ++ ys)) st := by
  cases h : ownL st b with
  | some ys => exact p_addL rfl h
  | none => simp only [f2, h]; rfl
theorem p_addr {n : Nat} : Ok (f2 .add (.v (.ref n)) b st) Q = onS (ownL st (.v (.ref n))) fun xs => onS (ownL st b) fun ys => xs.length + ys.length ≤ top ∧ Q (.l (xs ++ ys)) st := by
  cases g : ownL st (.v (.ref n)) with
  | none => simp only [f2, g]; rfl
  | some xs =>
    cases h : ownL st b with
    | some ys => exact p_addL g h
    | none => simp only [f2, g, h]; rfl
theorem p_ixl : Ok (f2 .ix (.l xs) (.v (.int i)) st) Q = onS (at' xs i) fun d => Q (.v d) st := p_ixL (l := true) rfl
theorem p_ixri {n : Nat} : Ok (f2 .ix (.v (.ref n)) (.v (.int i)) st) Q = onE (lstAt st n) (fun xs => onS (at' xs i) fun d => Q (.v d) st) (onS (dicAt st (.v (.ref n))) fun p => keyOk p.2.1 (.int i) = true ∧ onS (kget p.2.2 (.int i)) fun d => Q (.v d) st) := by
  cases h : lstAt st n with
  | some xs => exact p_ixL (l := true) (by simp [seqR, seqV, h])
  | none =>
    have e : seqR st (.v (.ref n)) = none := by simp [seqR, seqV, h]
    simp only [f2, e, onE_none]
    cases dicAt st (.v (.ref n)) with
    | none => rfl
    | some p =>
      obtain ⟨m, t, kvs⟩ := p
      simp only [on_some]
      rw [k_ite]
      by_cases hk : keyOk t (.int i) = true
      · simp only [hk, if_true, true_and, ov]
        cases kget kvs (.int i) <;> rfl
      · simp [hk, k_bad]
theorem p_ixrs {n : Nat} : Ok (f2 .ix (.v (.ref n)) (.v (.str x)) st) Q = onE (lstAt st n) (fun _ => False) (onS (dicAt st (.v (.ref n))) fun p => keyOk p.2.1 (.str x) = true ∧ onS (kget p.2.2 (.str x)) fun d => Q (.v d) st) := by
  cases h : lstAt st n with
  | some xs =>
    have e : seqR st (.v (.ref n)) = some (true, xs) := by simp [seqR, seqV, h]
    simp only [f2, e]; rfl
  | none =>
    have e : seqR st (.v (.ref n)) = none := by simp [seqR, seqV, h]
    simp only [f2, e, onE_none]
    cases dicAt st (.v (.ref n)) with
    | none => rfl
    | some p =>
      obtain ⟨m, t, kvs⟩ := p
      simp only [on_some]
      rw [k_ite]
      by_cases hk : keyOk t (.str x) = true
      · simp only [hk, if_true, true_and, ov]
        cases kget kvs (.str x) <;> rfl
      · simp [hk, k_bad]
theorem p_app : Ok (f2 .append a b st) Q = onS (mutAt st a) fun p => p.2.length < top ∧ Q (.v .non) ((settle b st).2.set p.1 (.lst (p.2 ++ [(settle b st).1]))) := by
  cases h : mutAt st a with
  | some p => exact p_append h
  | none => simp only [f2, h]; rfl
theorem p_ext : Ok (f2 .extend a b st) Q = onS (mutAt st a) fun p => onS (ownL st b) fun ys => p.2.length + ys.length ≤ top ∧ Q (.v .non) (st.set p.1 (.lst (p.2 ++ ys))) := by
  cases h : mutAt st a with
  | none => simp only [f2, h]; rfl
  | some p =>
    cases g : ownL st b with
    | none => simp only [f2, h, g, on_some, on_none]; rfl
    | some ys => simp only [on_some]; exact p_extend h g
theorem p_popa : Ok (f2 .popAt a (.v (.int i)) st) Q = onS (mutAt st a) fun p => onS (ix p.2.length i) fun m => onS p.2[m]? fun u => Q (.v u) (st.set p.1 (.lst (p.2.eraseIdx m))) := by
  cases h : mutAt st a with
  | none => simp only [f2, h]; rfl
  | some p =>
    cases g : ix p.2.length i with
    | none => simp only [f2, h, g, on_some, on_none]; rfl
    | some m =>
      cases e : p.2[m]? with
      | none => simp only [f2, h, g, e, on_some, on_none]; rfl
      | some u => simp only [on_some, g, e]; exact p_popAt h g e
theorem p_popz : Ok (f1 .pop a st) Q = onS (mutAt st a) fun p => onS p.2[p.2.length - 1]? fun u => Q (.v u) (st.set p.1 (.lst p.2.dropLast)) := by
  cases h : mutAt st a with
  | none => simp only [f1, h]; rfl
  | some p =>
    cases e : p.2[p.2.length - 1]? with
    | none => simp only [f1, h, e, on_some, on_none]; rfl
    | some u => simp only [on_some, e]; exact p_pop h e
theorem p_ins : Ok (f3 .insert a (.v (.int 0)) b st) Q = onS (mutAt st a) fun p => p.2.length < top ∧ Q (.v .non) ((settle b st).2.set p.1 (.lst ((settle b st).1 :: p.2))) := by
  cases h : mutAt st a with
  | none => simp only [f3, h]; rfl
  | some p =>
    simp only [f3, h]
    rw [k_ite]
    by_cases h : p.2.length < top <;> simp [h, k_ok, k_bad, on_some]
theorem p_lenT : Ok (f1 .len (.v (.tup xs)) st) Q = Q (.v (.int xs.length)) st := rfl
theorem p_lenl : Ok (f1 .len (.l xs) st) Q = Q (.v (.int xs.length)) st := rfl
theorem p_lenr {n : Nat} : Ok (f1 .len (.v (.ref n)) st) Q = onE (lstAt st n) (fun xs => Q (.v (.int xs.length)) st) (onS (dicAt st (.v (.ref n))) fun p => p.2.1 = false ∧ Q (.v (.int p.2.2.length)) st) := by
  cases h : lstAt st n with
  | some xs => exact p_len (l := true) (by simp [seqR, seqV, h])
  | none =>
    have e : seqR st (.v (.ref n)) = none := by simp [seqR, seqV, h]
    simp only [f1, e, onE_none]
    cases dicAt st (.v (.ref n)) with
    | none => rfl
    | some p => obtain ⟨m, t, kvs⟩ := p; cases t <;> simp [k_ok, k_bad, on_some]
theorem p_set {o : RV} {k : Val} {Q : Unit → Store → Prop} : Ok (fset o (.v k) v st) Q = onE (mutAt st o) (fun p => match k with
    | .int j => onS (ix p.2.length j) fun m => Q () (st.set p.1 (.lst (p.2.set m v)))
    | _ => False) (onS (dicAt st o) fun p => (keyOk p.2.1 k = true ∧ p.2.2.length < top) ∧ Q () (st.set p.1 (.dic p.2.1 (kput p.2.2 k v)))) := by
  simp only [fset]
  cases h : mutAt st o with
  | some p =>
    simp only [onE_some]
    cases k with
    | int j => dsimp only; cases ix p.2.length j <;> rfl
    | _ => rfl
  | none =>
    simp only [onE_none]
    cases dicAt st o with
    | none => rfl
    | some p =>
      obtain ⟨m, t, kvs⟩ := p
      simp only [on_some]
      rw [k_ite]
      by_cases hk : keyOk t k = true ∧ kvs.length < top <;> simp [hk, k_ok, k_bad]
theorem p_isN {u : Val} : Ok (f1 .isNon (.v u) st) Q = Q (.v (.bl (u == .non))) st := rfl
theorem p_noN {u : Val} : Ok (f1 .notNon (.v u) st) Q = Q (.v (.bl (!(u == .non)))) st := rfl
theorem at_lit {α : Type} {xs : List α} (n : Nat) : at' xs (no_index (OfNat.ofNat n : Int)) = xs[n]? := by
  show at' xs ((n : Nat) : Int) = _
  unfold at' ix
  rw [if_pos (Int.natCast_nonneg n)]
  by_cases h : n < xs.length
  · rw [if_pos (by omega)]; simp
  · rw [if_neg (by omega), List.getElem?_eq_none (by omega)]; rfl
theorem at_nat {α : Type} {xs : List α} (n : Nat) : at' xs ((n : Nat) : Int) = xs[n]? := at_lit n
theorem at_last {α : Type} {xs : List α} : at' xs (-1) = xs[xs.length - 1]? := by
  unfold at' ix
  rw [if_neg (by decide)]
  by_cases h : xs.length = 0
  · rw [if_neg (by omega), List.getElem?_eq_none (by omega)]; rfl
  · rw [if_pos (by omega)]
    have : ((-1 : Int) + (xs.length : Int)).toNat = xs.length - 1 := by omega
    simp [this]
theorem p_sort : Ok (f1 .sorted a st) Q = onS (seqR st a) fun p => p.1 = true ∧ p.2.length < 64 ∧ onE (allStrs p.2) (fun zs => Q (.l ((isort leN zs).map .str)) st) (onE (allInts p.2) (fun zs => Q (.l ((isort (fun i j => decide (i ≤ j)) zs).map .int)) st) (sortOk p.2 = true ∧ Q (.l (isort leT p.2)) st)) := by
  simp only [f1]
  cases seqR st a with
  | none => rfl
  | some p =>
    obtain ⟨k, xs⟩ := p
    cases k with
    | false => simp [k_bad, on_some]
    | true =>
      simp only [on_some]
      rw [k_ite]
      by_cases h : xs.length < 64
      · simp only [h, if_true, true_and]
        cases allStrs xs with
        | some zs => rfl
        | none =>
          simp only [onE_none]
          cases allInts xs with
          | some zs => rfl
          | none =>
            simp only [onE_none]
            by_cases h2 : sortOk xs = true
            · simp only [h2, if_true, true_and]; rfl
            · simp [h2, k_bad]
      · simp [h, k_bad]
theorem as_nil : allStrs [] = some [] := rfl
theorem as_cons {zs : List Val} : allStrs (.str x :: zs) = (allStrs zs).map fun l => x :: l := rfl
theorem lb_cc {m n : Nat} {xs ys : List Nat} : (m :: xs == n :: ys) = (m == n && xs == ys) := rfl
theorem lb_nc {n : Nat} {ys : List Nat} : (([] : List Nat) == n :: ys) = false := rfl
theorem lb_cn {n : Nat} {ys : List Nat} : (n :: ys == ([] : List Nat)) = false := rfl
theorem lb_nn : (([] : List Nat) == []) = true := rfl
theorem p_slr {n : Nat} {lo hi : Option Int} : Ok (fsl (.v (.ref n)) lo hi st) Q = onS (lstAt st n) fun xs => Q (.l (cut xs lo hi)) st := by
  simp only [fsl, seqR, seqV]
  cases lstAt st n <;> rfl
theorem p_sll {lo hi : Option Int} : Ok (fsl (.l xs) lo hi st) Q = Q (.l (cut xs lo hi)) st := rfl
theorem vb_ss : (Val.str x == Val.str y) = (x == y) := rfl
theorem set_ne {n m : Nat} {o : Obj} (h : n ≠ m) : (List.set st n o)[m]? = st[m]? := List.getElem?_set_ne h
theorem set_self {n : Nat} {o o' : Obj} (h : st[n]? = some o') : (List.set st n o)[n]? = some o := List.getElem?_set_self (List.getElem?_eq_some_iff.mp h).1
theorem eq_l0 {l : Nat} (e : st[l]? = some (.lst xs)) : eqR st (.v (.ref l)) (.l []) = some xs.isEmpty := by
  have e2 : seqR st (.v (.ref l)) = some (true, xs) := by simp [seqR, seqV, lstAt, e]
  have e3 : seqR st (.l []) = some (true, []) := rfl
  unfold eqR
  rw [e2, e3]
  cases xs <;> rfl
end
/-- a block, by what stands after its first statement -/
theorem seq_ok {cs : List Fn} {n : Nat} {s t : S} {ρ : Env} {st : Store} {Q : Out → Store → Prop} (P : Env → Store → Prop) (h : Ok (ex cs n s ρ st) fun o st1 => ∃ ρ1, o = .nx ρ1 ∧ P ρ1 st1) (k : ∀ ρ1 st1, P ρ1 st1 → Ok (ex cs n t ρ1 st1) Q) : Ok (ex cs n (.seq s t) ρ st) Q := by
  rw [s_seq]
  refine Ok.imp h fun o st1 q => ?_
  obtain ⟨ρ1, rfl, p⟩ := q
  exact k ρ1 st1 p
end Mi
end
section
set_option Elab.async false
set_option linter.all false
namespace Mi
/-- a comprehension that changes nothing -/
theorem comp_pure {w : List (Nat × List Val)} {t : T} {c : Env → Store → Res Bool} {f : Env → Store → Res RV} {ρ : Env} (P : Val → Prop) {Q : List Val → Store → Prop} {xs : List Val} {st : Store} (hs : stands w st = true) (hl : xs.length ≤ top)
    (step : ∀ x ∈ xs, ∃ ρ1, bindT t x ρ = some ρ1 ∧ Ok (c ρ1 st) fun k st1 => st1 = st ∧ (k = true → Ok (f ρ1 st) fun r st2 => st2 = st ∧ ∃ v, r = .v v ∧ P v))
    (fin : ∀ acc : List Val, (∀ a ∈ acc, P a) → acc.length ≤ xs.length → Q acc st) : Ok (compLoop w t c f ρ xs [] st) Q := by
  refine comp_inv (fun ys acc st1 => st1 = st ∧ (∀ y ∈ ys, y ∈ xs) ∧ (∀ a ∈ acc, P a) ∧ acc.length + ys.length ≤ xs.length) ?_ ?_ ?_ xs [] st ⟨rfl, fun _ h => h, fun _ h => absurd h List.not_mem_nil, by simp⟩
  · rintro _ _ _ ⟨rfl, _⟩; exact hs
  · rintro x ys acc st1 ⟨rfl, h1, h2, h3⟩
    obtain ⟨ρ1, e, z⟩ := step x (h1 x List.mem_cons_self)
    refine ⟨ρ1, e, Ok.imp z ?_⟩
    rintro k st2 ⟨rfl, z⟩
    simp only [List.length_cons] at h3
    cases k with
    | false => exact ⟨rfl, fun y hy => h1 y (List.mem_cons_of_mem _ hy), h2, by omega⟩
    | true =>
      refine Ok.imp (z rfl) ?_
      rintro r st3 ⟨rfl, v, rfl, pv⟩
      refine ⟨by omega, rfl, fun y hy => h1 y (List.mem_cons_of_mem _ hy), ?_, ?_⟩
      · intro a ha
        rcases List.mem_append.mp ha with ha | ha
        · exact h2 a ha
        · rw [List.mem_singleton.mp ha]; exact pv
      · simp only [settle, List.length_append, List.length_cons, List.length_nil]; omega
  · rintro acc st1 ⟨rfl, _, h2, h3⟩
    exact fin acc h2 (by simpa using h3)
theorem walk_l {st : Store} {n : Nat} {xs : List Val} {q : RV} (e : st[n]? = some (.lst xs)) : walk .seq (.v (.ref n)) q st = some (xs, [(n, xs)]) := by
  simp only [walk, seqR, seqV, lstAt, e]; rfl
theorem stands_l {st : Store} {n : Nat} {xs : List Val} (e : st[n]? = some (.lst xs)) : stands [(n, xs)] st = true := by
  simp [stands, lstAt, e]
theorem q_strs {st : Store} {n : Nat} : ∀ {xs ys : List (List Nat)}, eqAll (eqV (n + 1) st) (xs.map .str) (ys.map .str) = some (xs == ys)
  | [], [] => rfl
  | [], _ :: _ => rfl
  | _ :: _, [] => rfl
  | x :: xs, y :: ys => by
    rw [List.map_cons, List.map_cons, q_cons, q_strs (xs := xs) (ys := ys)]
    rfl
theorem walk_t {st : Store} {xs : List Val} {q : RV} : walk .seq (.v (.tup xs)) q st = some (xs, []) := rfl
theorem stands_0 {st : Store} : stands [] st = true := rfl
theorem walk_el {st : Store} {xs : List Val} {q : RV} : walk .enum (.l xs) q st = some (zipE xs, []) := rfl
theorem mem_zipE {x : Val} {xs : List Val} (h : x ∈ zipE xs) : ∃ (k : Nat) (v : Val), v ∈ xs ∧ x = .tup [.int (k : Int), v] := by
  simp only [zipE, List.mem_map] at h
  obtain ⟨⟨v, k⟩, hm, rfl⟩ := h
  exact ⟨k, v, List.fst_mem_of_mem_zipIdx hm, rfl⟩
theorem walk_r {st : Store} {n : Nat} {q : RV} (h : (n : Int) < 2 ^ 62) : walk .range1 (.v (.int n)) q st = some (rng 0 n, []) := by
  simp only [walk]
  rw [if_pos (by omega)]; rfl
theorem mem_rng {x : Val} {lo : Int} {n : Nat} (h : x ∈ rng lo n) : ∃ i : Int, lo ≤ i ∧ i < lo + n ∧ x = .int i := by
  simp only [rng, List.mem_map, List.mem_range] at h
  obtain ⟨a, ha, rfl⟩ := h
  exact ⟨_, by omega, by omega, rfl⟩
end Mi
end
section
set_option linter.all false
set_option autoImplicit false
/-! PvCore: values without a store, trees of draws, the interpreter of Mini's syntax over them. -/
namespace Mi

inductive PV where
  | non
  | bl (b : Bool)
  | int (i : Int)
  | str (x : List Nat)
  | tup (xs : List PV)
  | lst (xs : List PV)
  | dic (ks vs : List PV)
  | deck

mutual
def PV.beq : PV → PV → Bool
  | .non, .non => true
  | .bl a, .bl b => a == b
  | .int a, .int b => a == b
  | .str a, .str b => a == b
  | .tup a, .tup b => PV.beqs a b
  | .lst a, .lst b => PV.beqs a b
  | .dic a b, .dic c d => PV.beqs a c && PV.beqs b d
  | .deck, .deck => true
  | _, _ => false
def PV.beqs : List PV → List PV → Bool
  | [], [] => true
  | x :: xs, y :: ys => PV.beq x y && PV.beqs xs ys
  | _, _ => false
end
mutual
theorem PV.beq_refl : ∀ a : PV, PV.beq a a = true
  | .non => by simp [PV.beq]
  | .bl b => by simp [PV.beq]
  | .int b => by simp [PV.beq]
  | .str b => by simp [PV.beq]
  | .tup xs => by simp [PV.beq, PV.beqs_refl xs]
  | .lst xs => by simp [PV.beq, PV.beqs_refl xs]
  | .dic a b => by simp [PV.beq, PV.beqs_refl a, PV.beqs_refl b]
  | .deck => by simp [PV.beq]
theorem PV.beqs_refl : ∀ a : List PV, PV.beqs a a = true
  | [] => by simp [PV.beqs]
  | x :: xs => by simp [PV.beqs, PV.beq_refl x, PV.beqs_refl xs]
end
mutual
theorem PV.eq_of_beq : ∀ a b : PV, PV.beq a b = true → a = b
  | .non, b, h => by cases b <;> simp_all [PV.beq]
  | .bl _, b, h => by cases b <;> simp_all [PV.beq]
  | .int _, b, h => by cases b <;> simp_all [PV.beq]
  | .str _, b, h => by cases b <;> simp_all [PV.beq]
  | .tup xs, b, h => by
    cases b with
    | tup ys => rw [PV.eq_of_beqs xs ys (by simpa [PV.beq] using h)]
    | _ => simp [PV.beq] at h
  | .lst xs, b, h => by
    cases b with
    | lst ys => rw [PV.eq_of_beqs xs ys (by simpa [PV.beq] using h)]
    | _ => simp [PV.beq] at h
  | .dic xs us, b, h => by
    cases b with
    | dic ys vs =>
      simp only [PV.beq, Bool.and_eq_true] at h
      rw [PV.eq_of_beqs xs ys h.1, PV.eq_of_beqs us vs h.2]
    | _ => simp [PV.beq] at h
  | .deck, b, h => by cases b <;> simp_all [PV.beq]
theorem PV.eq_of_beqs : ∀ a b : List PV, PV.beqs a b = true → a = b
  | [], b, h => by cases b <;> simp_all [PV.beqs]
  | x :: xs, b, h => by
    cases b with
    | nil => simp [PV.beqs] at h
    | cons y ys =>
      simp only [PV.beqs, Bool.and_eq_true] at h
      rw [PV.eq_of_beq x y h.1, PV.eq_of_beqs xs ys h.2]
end
instance : BEq PV := ⟨PV.beq⟩
instance : LawfulBEq PV where
  rfl := fun {a} => PV.beq_refl a
  eq_of_beq := fun {a b} h => PV.eq_of_beq a b h
instance : DecidableEq PV := fun a b => if h : PV.beq a b = true then .isTrue (PV.eq_of_beq a b h) else .isFalse fun e => h (e ▸ PV.beq_refl a)

/-- what comes: a value, an error, nothing that is known; or a draw, of each number below m -/
inductive Tr (α : Type) where
  | ret (a : α)
  | exc (c : Nat) (p : List PV)
  | bad
  | draw (m : Int) (k : Int → Tr α)
def Tr.bind {α β : Type} : Tr α → (α → Tr β) → Tr β
  | .ret a, f => f a
  | .exc c p, _ => .exc c p
  | .bad, _ => .bad
  | .draw m k, f => .draw m fun i => (k i).bind f
def liftT {α : Type} : Option α → Tr α
  | some a => .ret a
  | none => .bad
/-- a test -/
def whenT {α : Type} (b : Bool) (t : Tr α) : Tr α := if b then t else .bad
/-- no error -/
def Tr.noX {α : Type} : Tr α → Tr α
  | .exc _ _ => .bad
  | .draw m k => .draw m fun i => (k i).noX
  | t => t
abbrev PEnv := List (Option PV)
abbrev PFn := List PV → Tr PV
inductive POut where
  | nx (π : PEnv) | rt (p : PV) | bk (π : PEnv) | ct (π : PEnv)

mutual
/-- no list, no dict, no deck within -/
def PV.nr : PV → Bool
  | .tup xs => PV.nrs xs
  | .lst _ => false
  | .dic _ _ => false
  | .deck => false
  | _ => true
def PV.nrs : List PV → Bool
  | [] => true
  | x :: xs => PV.nr x && PV.nrs xs
end
def seqP : PV → Option (Bool × List PV)
  | .tup xs => some (false, xs)
  | .lst xs => some (true, xs)
  | _ => none
def truthP : PV → Option Bool
  | .non => some false
  | .bl b => some b
  | .int i => some (i != 0)
  | .str x => if x.length ≤ top then some (!x.isEmpty) else none
  | .tup xs => some (!xs.isEmpty)
  | .lst xs => some (!xs.isEmpty)
  | .dic ks _ => some (!ks.isEmpty)
  | .deck => none
def eqFlatP : PV → PV → Option Bool
  | .non, .non => some true
  | .bl a, .bl b => some (a == b)
  | .bl a, .int j => some (b2i a == j)
  | .int i, .bl b => some (i == b2i b)
  | .int i, .int j => some (i == j)
  | .str x, .str y => some (x == y)
  | .non, .bl _ | .non, .int _ | .non, .str _ => some false
  | .bl _, .non | .bl _, .str _ => some false
  | .int _, .non | .int _, .str _ => some false
  | .str _, .non | .str _, .bl _ | .str _, .int _ => some false
  | _, _ => none
def isFlatP : PV → Bool
  | .non | .bl _ | .int _ | .str _ => true
  | _ => false
def eqAllP (f : PV → PV → Option Bool) : List PV → List PV → Option Bool
  | [], [] => some true
  | x :: xs, y :: ys => (f x y).bind fun b => (eqAllP f xs ys).bind fun c => some (b && c)
  | [], _ :: _ => some false
  | _ :: _, [] => some false
def eqP : Nat → PV → PV → Option Bool
  | 0, _, _ => none
  | n + 1, a, b => match seqP a, seqP b with
    | some (k, xs), some (j, ys) => if k == j then (if k && xs.length != ys.length then some false else eqAllP (eqP n) xs ys) else some false
    | some _, none => if isFlatP b then some false else none
    | none, some _ => if isFlatP a then some false else none
    | none, none => eqFlatP a b
def anyEqP (x : PV) : List PV → Option Bool
  | [] => some false
  | y :: ys => (eqP 60 y x).bind fun b => (anyEqP x ys).bind fun c => some (b || c)
def placeEqP (x : PV) : List PV → Option Nat
  | [] => none
  | y :: ys => (eqP 60 y x).bind fun b => if b then (anyEqP x ys).map fun _ => 0 else (placeEqP x ys).map (· + 1)
def countEqP (x : PV) : List PV → Option Nat
  | [] => some 0
  | y :: ys => (eqP 60 y x).bind fun b => (countEqP x ys).map fun n => if b then n + 1 else n
def datP : Nat → PV → Option PySem.PyData
  | 0, _ => none
  | n + 1, a => match seqP a with
    | some (true, xs) => (xs.mapM (datP n)).map .list
    | some (false, xs) => (xs.mapM (datP n)).map .tuple
    | none => match a with
      | .non => some .none
      | .bl b => some (.bool b)
      | .int i => if i.natAbs.log2 < 1920 then some (.int i) else none
      | .str x => if x.all (fun c => decide (c < 4294967296)) then some (.str (toStr x)) else none
      | _ => none
def allIntsP : List PV → Option (List Int)
  | [] => some []
  | .int i :: r => (allIntsP r).map fun l => i :: l
  | _ => none
def allStrsP : List PV → Option (List (List Nat))
  | [] => some []
  | .str i :: r => (allStrsP r).map fun l => i :: l
  | _ => none
mutual
def ktkP : PV → List (Int ⊕ List Nat)
  | .non => []
  | .bl b => [.inl (if b then 1 else 0)]
  | .int n => [.inl n]
  | .str x => [.inr x]
  | .tup xs => ktksP xs
  | _ => []
def ktksP : List PV → List (Int ⊕ List Nat)
  | [] => [.inl 0]
  | x :: xs => .inl 1 :: (ktkP x ++ ktksP xs)
end
mutual
def alikeP : PV → PV → Bool
  | .non, .non => true
  | .bl _, .bl _ => true
  | .int _, .int _ => true
  | .str _, .str _ => true
  | .tup xs, .tup ys => alikePs xs ys
  | _, _ => false
def alikePs : List PV → List PV → Bool
  | x :: xs, y :: ys => alikeP x y && alikePs xs ys
  | [], _ => true
  | _ :: _, [] => true
end
mutual
def pdep : PV → Nat
  | .tup xs => pdeps xs + 1
  | _ => 0
def pdeps : List PV → Nat
  | [] => 0
  | x :: xs => max (pdep x) (pdeps xs)
end
def leTP (a b : PV) : Bool := !ltK (ktkP b) (ktkP a)
def tup1P : PV → Bool
  | .tup (x :: xs) => PV.nr x && PV.nrs xs
  | _ => false
def sortOkP (xs : List PV) : Bool := xs.all fun x => tup1P x && decide (pdep x ≤ 60) && xs.all (alikeP x)
def rngP (lo : Int) (n : Nat) : List PV := (List.range n).map fun (i : Nat) => PV.int (lo + (i : Int))
def keyP : PV → Bool
  | .int _ => true
  | .str _ => true
  | _ => false
def getP (k : PV) : List PV → List PV → Option PV
  | k' :: ks, v :: vs => if k' == k then some v else getP k ks vs
  | _, _ => none
def p1 (o : O1) (a : PV) : Tr PV := match o with
  | .neg => match a with
    | .int i => .ret (.int (-i))
    | _ => .bad
  | .abs => match a with
    | .int i => .ret (.int (if i < 0 then -i else i))
    | _ => .bad
  | .int => match a with
    | .int i => .ret (.int i)
    | .bl b => .ret (.int (if b then 1 else 0))
    | _ => .bad
  | .len => match seqP a with
    | some (_, xs) => .ret (.int xs.length)
    | none => match a with
      | .str x => whenT (decide (x.length ≤ top)) (.ret (.int x.length))
      | .dic ks _ => .ret (.int ks.length)
      | _ => .bad
  | .str => match a with
    | .int i => whenT (decide (i.natAbs.log2 < 1920)) (.ret (.str (PySem.Str.ofString (toString i)).cps.toList))
    | _ => .bad
  | .repr => match datP 60 a with
    | some d => whenT (decide (dsz d ≤ top)) (.ret (.str d.shown.cps.toList))
    | none => .bad
  | .tuple => match seqP a with
    | some (_, xs) => .ret (.tup xs)
    | none => .bad
  | .list => match seqP a with
    | some (_, xs) => .ret (.lst xs)
    | none => .bad
  | .sorted => match seqP a with
    | some (true, xs) => whenT (decide (xs.length < 64)) (match allStrsP xs with
      | some ys => .ret (.lst ((isort leN ys).map .str))
      | none => match allIntsP xs with
        | some ys => .ret (.lst ((isort (fun a b => decide (a ≤ b)) ys).map .int))
        | none => whenT (sortOkP xs) (.ret (.lst (isort leTP xs))))
    | _ => .bad
  | .sum => match seqP a with
    | some (true, xs) => match allIntsP xs with
      | some ys => .ret (.int ys.sum)
      | none => .bad
    | _ => .bad
  | .isNon => .ret (.bl (a == .non))
  | .notNon => .ret (.bl (!(a == .non)))
  | .isStr => match a with
    | .str _ => .ret (.bl true)
    | .deck => .bad
    | _ => .ret (.bl false)
  | .isInt => match a with
    | .int _ => .ret (.bl true)
    | .bl _ => .ret (.bl true)
    | .deck => .bad
    | _ => .ret (.bl false)
  | .isTup => match a with
    | .tup _ => .ret (.bl true)
    | .deck => .bad
    | _ => .ret (.bl false)
  | .isBool => match a with
    | .bl _ => .ret (.bl true)
    | .deck => .bad
    | _ => .ret (.bl false)
  | .pop => .bad
  | .rev => match seqP a with
    | some (true, xs) => .ret (.lst xs.reverse)
    | _ => .bad
  | .lmax => match seqP a with
    | some (true, xs) => match allIntsP xs with
      | some (y :: ys) => .ret (.int (maxI y ys))
      | _ => .bad
    | _ => .bad
  | .lmin => match seqP a with
    | some (true, xs) => match allIntsP xs with
      | some (y :: ys) => .ret (.int (minI y ys))
      | _ => .bad
    | _ => .bad
  | .isTrue => match a with
    | .bl b => .ret (.bl b)
    | _ => .bad
  | .notTrue => match a with
    | .bl b => .ret (.bl (!b))
    | _ => .bad
  | .rngL => match a with
    | .int j => whenT (rngOk 0 j) (.ret (.lst (rngP 0 (j - 0).toNat)))
    | _ => .bad
  | .rngT => match a with
    | .int j => whenT (rngOk 0 j) (.ret (.tup (rngP 0 (j - 0).toNat)))
    | _ => .bad
def cmpP (p : Int → Int → Bool) (a b : PV) : Tr PV := match a, b with
  | .int i, .int j => .ret (.bl (p i j))
  | _, _ => .bad
def p2 (o : O2) (a b : PV) : Tr PV := match o with
  | .add => match a, b with
    | .int i, .int j => .ret (.int (i + j))
    | .str x, .str y => whenT (decide (x.length + y.length ≤ top)) (.ret (.str (x ++ y)))
    | .tup x, .tup y => whenT (decide (x.length + y.length ≤ top)) (.ret (.tup (x ++ y)))
    | .lst x, .lst y => whenT (decide (x.length + y.length ≤ top)) (.ret (.lst (x ++ y)))
    | _, _ => .bad
  | .sub => match a, b with
    | .int i, .int j => .ret (.int (i - j))
    | _, _ => .bad
  | .mul => match a, b with
    | .int i, .int j => whenT (decide (i.natAbs < 2 ^ 64 ∨ j.natAbs < 2 ^ 64 ∨ i.natAbs.log2 + j.natAbs.log2 < 1000000)) (.ret (.int (i * j)))
    | .tup xs, .int j => whenT (decide (2 ≤ j ∧ j ≤ 1000 ∧ xs.length ≤ 1000) && !xs.isEmpty) (.ret (.tup (List.replicate j.toNat xs).flatten))
    | .lst xs, .int j => whenT (decide (-(2 ^ 63) ≤ j ∧ j < 2 ^ 63 ∧ xs.length * j.toNat ≤ top)) (.ret (.lst (List.replicate j.toNat xs).flatten))
    | _, _ => .bad
  | .mod => match a, b with
    | .int i, .int j => whenT (decide (0 < j)) (.ret (.int (i % j)))
    | _, _ => .bad
  | .fdiv => match a, b with
    | .int i, .int j => whenT (decide (0 < j ∧ j.natAbs.log2 < 9000)) (.ret (.int (i / j)))
    | _, _ => .bad
  | .pow => match a, b with
    | .int i, .int j => whenT (decide (0 ≤ j ∧ j ≤ 1000000 ∧ i.natAbs < 2 ^ 64)) (.ret (.int (i ^ j.toNat)))
    | _, _ => .bad
  | .eq => liftT ((eqP 61 a b).map .bl)
  | .ne => liftT ((eqP 61 a b).map fun b => .bl (!b))
  | .lt => cmpP (fun i j => decide (i < j)) a b
  | .le => cmpP (fun i j => decide (i ≤ j)) a b
  | .gt => cmpP (fun i j => decide (j < i)) a b
  | .ge => cmpP (fun i j => decide (j ≤ i)) a b
  | .isin => match a, seqP b with
    | .lst _, _ => .bad
    | a, some (_, ys) => liftT ((anyEqP a ys).map .bl)
    | _, none => .bad
  | .notin => match a, seqP b with
    | .lst _, _ => .bad
    | a, some (_, ys) => liftT ((anyEqP a ys).map fun b => .bl (!b))
    | _, none => .bad
  | .ix => match seqP a, b with
    | some (_, xs), .int i => liftT (at' xs i)
    | some _, _ => .bad
    | none, _ => match a with
      | .dic ks vs => if keyP b then liftT (getP b ks vs) else .bad
      | _ => .bad
  | .append => .bad
  | .extend => .bad
  | .popAt => .bad
  | .index => match a with
    | .lst xs => match b with
      | .lst _ => .bad
      | _ => liftT ((placeEqP b xs).map fun (n : Nat) => PV.int (n : Int))
    | _ => .bad
  | .count => match a with
    | .lst xs => match b with
      | .lst _ => .bad
      | _ => liftT ((countEqP b xs).map fun (n : Nat) => PV.int (n : Int))
    | _ => .bad
  | .max2 => match a, b with
    | .int i, .int j => .ret (.int (if j > i then j else i))
    | _, _ => .bad
  | .min2 => match a, b with
    | .int i, .int j => .ret (.int (if j < i then j else i))
    | _, _ => .bad
  | .rngL2 => match a, b with
    | .int i, .int j => whenT (rngOk i j) (.ret (.lst (rngP i (j - i).toNat)))
    | _, _ => .bad
  | .rngT2 => match a, b with
    | .int i, .int j => whenT (rngOk i j) (.ret (.tup (rngP i (j - i).toNat)))
    | _, _ => .bad
/-- a[lo:hi] -/
def psl (a : PV) (lo hi : Option Int) : Tr PV := match a with
  | .lst xs => .ret (.lst (cut xs lo hi))
  | .tup xs => .ret (.tup (cut xs lo hi))
  | .str x => whenT (decide (x.length ≤ top)) (.ret (.str (cut x lo hi)))
  | _ => .bad
mutual
def bindP : T → PV → PEnv → Option PEnv
  | .sl i, v, ρ => if i < ρ.length then some (ρ.set i (some v)) else none
  | .tp ts, v, ρ => match v with
    | .tup xs => bindPs ts xs ρ
    | _ => none
  | _, _, _ => none
def bindPs : T → List PV → PEnv → Option PEnv
  | .nil, [], ρ => some ρ
  | .cons t ts, x :: xs, ρ => (bindP t x ρ).bind fun ρ' => bindPs ts xs ρ'
  | _, _, _ => none
end
def zipEP (xs : List PV) : List PV := (xs.zipIdx).map fun p => .tup [.int p.2, p.1]
@[irreducible] def range1P (j : Int) : Option (List PV) := if -(2 ^ 62) ≤ j ∧ j < 2 ^ 62 then some (rngP 0 j.toNat) else none
@[irreducible] def range2P (i j : Int) : Option (List PV) := if -(2 ^ 62) ≤ i ∧ i < 2 ^ 62 ∧ -(2 ^ 62) ≤ j ∧ j < 2 ^ 62 then some (rngP i (j - i).toNat) else none
def walkP (k : IK) (a b : PV) : Option (List PV) := match k with
  | .seq => (seqP a).map fun p => p.2
  | .range1 => match a with
    | .int j => range1P j
    | _ => none
  | .range2 => match a, b with
    | .int i, .int j => range2P i j
    | _, _ => none
  | .enum => (seqP a).map fun p => zipEP p.2
  | .zip => match seqP a, seqP b with
    | some (k, xs), some (j, ys) => if k == j then some ((xs.zip ys).map fun p => .tup [p.1, p.2]) else none
    | _, _ => none
def wipeP (ρ : PEnv) : List Nat → PEnv
  | [] => ρ
  | v :: vs => (wipeP ρ vs).set v none
def compP (tg : T) (c : PEnv → Tr Bool) (f : PEnv → Tr PV) (ρ : PEnv) : List PV → List PV → Tr (List PV)
  | [], acc => .ret acc
  | x :: xs, acc => (liftT (bindP tg x ρ)).bind fun ρ1 => (c ρ1).bind fun b =>
      if b then (f ρ1).bind fun r => whenT (decide (acc.length < top)) (compP tg c f ρ xs (acc ++ [r])) else compP tg c f ρ xs acc
def forP (tg : T) (f : PEnv → Tr POut) : List PV → PEnv → Tr POut
  | [], ρ => .ret (.nx ρ)
  | x :: xs, ρ => (liftT (bindP tg x ρ)).bind fun ρ1 => (f ρ1).bind fun o => match o with
      | .nx ρ2 => forP tg f xs ρ2
      | .ct ρ2 => forP tg f xs ρ2
      | .bk ρ2 => .ret (.nx ρ2)
      | .rt r => .ret (.rt r)
def whileP (c : PEnv → Tr Bool) (f : PEnv → Tr POut) : Nat → PEnv → Tr POut
  | 0, _ => .bad
  | n + 1, ρ => (c ρ).bind fun b => if b then (f ρ).bind fun o => match o with
      | .nx ρ2 => whileP c f n ρ2
      | .ct ρ2 => whileP c f n ρ2
      | .bk ρ2 => .ret (.nx ρ2)
      | .rt r => .ret (.rt r)
    else .ret (.nx ρ)
mutual
def v2p : Val → PV
  | .non => .non
  | .bl b => .bl b
  | .int i => .int i
  | .str x => .str x
  | .tup xs => .tup (v2ps xs)
  | .ref _ => .deck
def v2ps : List Val → List PV
  | [] => []
  | x :: xs => v2p x :: v2ps xs
end
def permP (kw : List Nat) (rs : List PV) : List PV := match kw with
  | [] => rs
  | _ => kw.filterMap fun i => rs[i]?
def dicP : List PV → Option (List PV × List PV)
  | [] => some ([], [])
  | k :: v :: r => if keyP k then (dicP r).map fun l => (k :: l.1, v :: l.2) else none
  | _ => none
/-- the keys of a dict that is written down are unlike -/
def nodupP : List PV → Bool
  | [] => true
  | k :: ks => !(ks.any fun j => j == k) && nodupP ks
def optIP (no : Bool) (f : Tr PV) : Tr (Option Int) :=
  if no then .ret none else f.bind fun r => match r with
    | .int i => .ret (some i)
    | _ => .bad
def opt2P (no : Bool) (f : Tr PV) : Tr PV := if no then .ret .non else f
def truthT (p : PV) : Tr Bool := liftT (truthP p)
def optCP (no : Bool) (f : Tr PV) : Tr Bool := if no then .ret true else f.bind truthT
def isVP : PV → Bool
  | .lst _ => false
  | _ => true
def kif {α : Type} (b : Bool) (x y : α) : α := if b then x else y
section
variable (cs : List PFn)
mutual
def pev : E → PEnv → Tr PV
  | .k v, _ => whenT v.nr (.ret (v2p v))
  | .x i, ρ => liftT ((ρ[i]?).bind id)
  | .g _ v, _ => whenT v.nr (.ret (v2p v))
  | .nil, _ => .bad
  | .cons _ _, _ => .bad
  | .tup es, ρ => (pevs es ρ).bind fun rs => whenT (decide (rs.length ≤ top)) (.ret (.tup rs))
  | .lst es, ρ => (pevs es ρ).bind fun rs => whenT (decide (rs.length ≤ top)) (.ret (.lst rs))
  | .dic t es, ρ => (pevs es ρ).bind fun rs => (liftT (dicP rs)).bind fun p => whenT (!t && nodupP p.1 && decide (p.1.length ≤ 15)) (.ret (.dic p.1 p.2))
  | .op1 o a, ρ => (pev a ρ).bind fun r => p1 o r
  | .op2 o a b, ρ => (pev a ρ).bind fun r => (pev b ρ).bind fun q => p2 o r q
  | .op3 _ _ _ _, _ => .bad
  | .sl a lo hi, ρ => (pev a ρ).bind fun r => (optIP (isNil lo) (pev lo ρ)).bind fun l => (optIP (isNil hi) (pev hi ρ)).bind fun h => psl r l h
  | .and a b, ρ => (pev a ρ).bind fun r => match r with
    | .bl k => kif k (pev b ρ) (.ret (.bl false))
    | _ => .bad
  | .or a b, ρ => (pev a ρ).bind fun r => match r with
    | .bl k => kif k (.ret (.bl true)) (pev b ρ)
    | _ => .bad
  | .not a, ρ => (pev a ρ).bind fun r => (truthT r).bind fun b => .ret (.bl (!b))
  | .ite c a b, ρ => (pev c ρ).bind fun r => (truthT r).bind fun k => kif k (pev a ρ) (pev b ρ)
  | .chain o p a b c, ρ => (pev a ρ).bind fun r => (pev b ρ).bind fun q => whenT (isVP r && isVP q) ((p2 o r q).bind fun z => match z with
    | .bl k => kif k ((pev c ρ).bind fun u => p2 p q u) (.ret (.bl false))
    | _ => .bad)
  | .call m j kw es, ρ => (pevs es ρ).bind fun rs => match cs[j]? with
    | some f => if m then whenT (PV.nrs rs) ((f (permP kw rs)).bind fun r => match r with
        | .lst xs => whenT (PV.nrs xs) (.ret (.lst xs))
        | r => whenT r.nr (.ret r)) else f (permP kw rs)
    | none => .bad
  | .comp own tg k a b c e, ρ => (pev a ρ).bind fun r => (opt2P (isNil b) (pev b ρ)).bind fun q => (liftT (walkP k r q)).bind fun xs =>
      ((compP tg (fun ρ' => optCP (isNil c) (pev c ρ')) (fun ρ' => pev e ρ') (wipeP ρ own) xs []).noX).bind fun l => .ret (.lst l)
def pevs : E → PEnv → Tr (List PV)
  | .nil, _ => .ret []
  | .cons h t, ρ => (pev h ρ).bind fun r => (pevs t ρ).bind fun rs => .ret (r :: rs)
  | _, _ => .bad
end
/-- a list's slot, and what stands there -/
def slotL (i : Nat) (ρ : PEnv) : Tr (List PV) := match ρ[i]? with
  | some (some (.lst xs)) => .ret xs
  | _ => .bad
/-- what is done to a list -/
def doL (o : O2) (xs : List PV) (p : PV) : Tr (List PV) := match o with
  | .append => whenT (decide (xs.length < top)) (.ret (xs ++ [p]))
  | .extend => match p with
    | .lst ys => whenT (decide (xs.length + ys.length ≤ top)) (.ret (xs ++ ys))
    | _ => .bad
  | _ => .bad
/-- o is an operation that changes a list -/
def isDo : O2 → Bool
  | .append | .extend => true
  | _ => false
variable (fuel : Nat)
def pex : S → PEnv → Tr POut
  | .skip, ρ => .ret (.nx ρ)
  | .seq s t, ρ => (pex s ρ).bind fun o => match o with
    | .nx ρ1 => pex t ρ1
    | o => .ret o
  | .asg (.tg t) e, ρ => (pev cs e ρ).bind fun r => (liftT (bindP t r ρ)).bind fun ρ1 => .ret (.nx ρ1)
  | .asg (.mv i j) e, ρ => (pev cs e ρ).bind fun r => (liftT (bindP (.sl i) r ρ)).bind fun ρ1 => .ret (.nx (ρ1.set j none))
  | .asg (.un ts) e, ρ => (pev cs e ρ).bind fun r => match r with
    | .lst xs => (liftT (bindPs ts xs ρ)).bind fun ρ1 => .ret (.nx ρ1)
    | _ => .bad
  | .asg (.sub (.x i) j) e, ρ => (pev cs e ρ).bind fun r => (slotL i ρ).bind fun xs => (pev cs j ρ).bind fun q => match q with
    | .int n => (liftT (ix xs.length n)).bind fun m => .ret (.nx (ρ.set i (some (.lst (xs.set m r)))))
    | _ => .bad
  | .asg _ _, _ => .bad
  | .ex (.op2 o (.x i) e), ρ => if isDo o then (pev cs e ρ).bind fun q => (slotL i ρ).bind fun xs => (doL o xs q).bind fun ys => .ret (.nx (ρ.set i (some (.lst ys)))) else .bad
  | .ex e, ρ => (pev cs e ρ).bind fun _ => .ret (.nx ρ)
  | .ret e, ρ => (pev cs e ρ).bind fun r => .ret (.rt r)
  | .retN, _ => .ret (.rt .non)
  | .ite c s t, ρ => (pev cs c ρ).bind fun r => (truthT r).bind fun b => kif b (pex s ρ) (pex t ρ)
  | .whil c s, ρ => whileP (fun ρ' => (pev cs c ρ').bind truthT) (fun ρ' => pex s ρ') fuel ρ
  | .fo tg k a b s, ρ => (pev cs a ρ).bind fun r => (opt2P (isNil b) (pev cs b ρ)).bind fun q => (liftT (walkP k r q)).bind fun xs => forP tg (fun ρ' => pex s ρ') xs ρ
  | .brk, ρ => .ret (.bk ρ)
  | .cont, ρ => .ret (.ct ρ)
  | .never, _ => .bad
end
def prun (d : Def) (cs : List PFn) : PFn := fun args =>
  if args.length = d.pars then
    (pex cs FUEL d.body (args.map some ++ List.replicate (d.slots - args.length) none)).bind fun o => match o with
      | .rt r => .ret r
      | .nx _ => .ret .non
      | _ => .bad
  else .bad
end Mi
end
section
set_option linter.all false
set_option autoImplicit false
/-! PvRel: how values without a store lie in Mini's store; the operations. -/
namespace Mi

/-- where the deck's dict and its list stand -/
abbrev DD := Option (Nat × Nat)
def inD (D : DD) (n : Nat) : Prop := ∃ d l, D = some (d, l) ∧ (n = d ∨ n = l)

section
variable (st : Store) (D : DD) (B : Nat → Prop)
mutual
inductive PR : PV → Val → Prop
  | non : PR .non .non
  | bl (b : Bool) : PR (.bl b) (.bl b)
  | int (i : Int) : PR (.int i) (.int i)
  | str (x : List Nat) : PR (.str x) (.str x)
  | tup {ps : List PV} {vs : List Val} : PRs ps vs → PR (.tup ps) (.tup vs)
  | lst {n : Nat} {ps : List PV} {xs : List Val} : ¬ B n → st[n]? = some (.lst xs) → PRs ps xs → PR (.lst ps) (.ref n)
  | dic {n : Nat} {ks vs : List PV} {kvs : List (Val × Val)} : ¬ B n → st[n]? = some (.dic false kvs) → PRs ks (kvs.map Prod.fst) → PRs vs (kvs.map Prod.snd) → PR (.dic ks vs) (.ref n)
  | deck {d l : Nat} : D = some (d, l) → PR .deck (.ref d)
inductive PRs : List PV → List Val → Prop
  | nil : PRs [] []
  | cons {p : PV} {ps : List PV} {v : Val} {vs : List Val} : PR p v → PRs ps vs → PRs (p :: ps) (v :: vs)
end
/-- a value, or a list that nobody holds -/
def RS : PV → RV → Prop
  | p, .v v => PR st D B p v
  | p, .l xs => ∃ ps, p = .lst ps ∧ PRs st D B ps xs
/-- or a list of a slot's own -/
def RW (A : Nat → Prop) (p : PV) (r : RV) : Prop := RS st D B p r ∨ ∃ n ps xs, r = .v (.ref n) ∧ p = .lst ps ∧ A n ∧ st[n]? = some (.lst xs) ∧ PRs st D B ps xs
def RSs : List PV → List RV → Prop
  | [], [] => True
  | p :: ps, r :: rs => RS st D B p r ∧ RSs ps rs
  | _, _ => False
end
section
variable {st st' : Store} {D : DD} {B B' : Nat → Prop}
theorem lt_of_at {α : Type} {l : List α} {n : Nat} {x : α} (h : l[n]? = some x) : n < l.length := (List.getElem?_eq_some_iff.mp h).1
mutual
theorem PR.mono (hs : ∀ n, ¬ B n → n < st.length → st'[n]? = st[n]?) (hb : ∀ n, B' n → n < st.length → B n) : ∀ {p : PV} {v : Val}, PR st D B p v → PR st' D B' p v
  | _, _, .non => .non
  | _, _, .bl b => .bl b
  | _, _, .int i => .int i
  | _, _, .str x => .str x
  | _, _, .tup h => .tup (PRs.mono hs hb h)
  | _, _, .lst hn e h => .lst (fun b => hn (hb _ b (lt_of_at e))) ((hs _ hn (lt_of_at e)).trans e) (PRs.mono hs hb h)
  | _, _, .dic hn e h1 h2 => .dic (fun b => hn (hb _ b (lt_of_at e))) ((hs _ hn (lt_of_at e)).trans e) (PRs.mono hs hb h1) (PRs.mono hs hb h2)
  | _, _, .deck e => .deck e
theorem PRs.mono (hs : ∀ n, ¬ B n → n < st.length → st'[n]? = st[n]?) (hb : ∀ n, B' n → n < st.length → B n) : ∀ {p : List PV} {v : List Val}, PRs st D B p v → PRs st' D B' p v
  | _, _, .nil => .nil
  | _, _, .cons h1 h2 => .cons (PR.mono hs hb h1) (PRs.mono hs hb h2)
end
theorem RS.mono (hs : ∀ n, ¬ B n → n < st.length → st'[n]? = st[n]?) (hb : ∀ n, B' n → n < st.length → B n) {p : PV} {r : RV} (h : RS st D B p r) : RS st' D B' p r := by
  cases r with
  | v v => exact PR.mono hs hb h
  | l xs => obtain ⟨ps, e, h⟩ := h; exact ⟨ps, e, h.mono hs hb⟩
theorem RSs.mono (hs : ∀ n, ¬ B n → n < st.length → st'[n]? = st[n]?) (hb : ∀ n, B' n → n < st.length → B n) : ∀ {ps : List PV} {rs : List RV}, RSs st D B ps rs → RSs st' D B' ps rs
  | [], [], _ => trivial
  | _ :: _, _ :: _, h => ⟨h.1.mono hs hb, RSs.mono hs hb h.2⟩
  | [], _ :: _, h => h.elim
  | _ :: _, [], h => h.elim
theorem PRs.len : ∀ {ps : List PV} {vs : List Val}, PRs st D B ps vs → ps.length = vs.length
  | _, _, .nil => rfl
  | _, _, .cons _ h => by simp [PRs.len h]
theorem PRs.get : ∀ {ps : List PV} {vs : List Val}, PRs st D B ps vs → ∀ {n : Nat} {p : PV}, ps[n]? = some p → ∃ v, vs[n]? = some v ∧ PR st D B p v
  | _, _, .nil, n, p, e => by simp at e
  | _, _, .cons h hs, 0, p, e => by simp at e; subst e; exact ⟨_, rfl, h⟩
  | _, _, .cons h hs, n + 1, p, e => by simpa using PRs.get hs (n := n) (p := p) (by simpa using e)
theorem PRs.app : ∀ {ps qs : List PV} {vs ws : List Val}, PRs st D B ps vs → PRs st D B qs ws → PRs st D B (ps ++ qs) (vs ++ ws)
  | _, _, _, _, .nil, g => g
  | _, _, _, _, .cons h hs, g => .cons h (hs.app g)
theorem PRs.set : ∀ {ps : List PV} {vs : List Val} {p : PV} {v : Val}, PRs st D B ps vs → PR st D B p v → ∀ n, PRs st D B (ps.set n p) (vs.set n v)
  | _, _, _, _, .nil, _, _ => .nil
  | _, _, _, _, .cons h hs, g, 0 => .cons g hs
  | _, _, _, _, .cons h hs, g, n + 1 => .cons h (hs.set g n)
theorem PRs.drop : ∀ {ps : List PV} {vs : List Val}, PRs st D B ps vs → ∀ n, PRs st D B (ps.drop n) (vs.drop n)
  | _, _, h, 0 => h
  | _, _, .nil, n + 1 => .nil
  | _, _, .cons h hs, n + 1 => hs.drop n
theorem PRs.take : ∀ {ps : List PV} {vs : List Val}, PRs st D B ps vs → ∀ n, PRs st D B (ps.take n) (vs.take n)
  | _, _, h, 0 => .nil
  | _, _, .nil, n + 1 => .nil
  | _, _, .cons h hs, n + 1 => .cons h (hs.take n)
theorem PRs.cut {ps : List PV} {vs : List Val} (h : PRs st D B ps vs) (lo hi : Option Int) : PRs st D B (Mi.cut ps lo hi) (Mi.cut vs lo hi) := by
  unfold Mi.cut
  rw [h.len]
  exact (h.drop _).take _
theorem PRs.rev : ∀ {ps : List PV} {vs : List Val}, PRs st D B ps vs → PRs st D B ps.reverse vs.reverse
  | _, _, .nil => .nil
  | _, _, .cons h hs => by simpa using hs.rev.app (.cons h .nil)
theorem PRs.reps {ps : List PV} {vs : List Val} (h : PRs st D B ps vs) : ∀ n, PRs st D B (List.replicate n ps).flatten (List.replicate n vs).flatten
  | 0 => .nil
  | n + 1 => by simpa [List.replicate_succ] using h.app (h.reps n)
theorem PRs.strs : ∀ (l : List (List Nat)), PRs st D B (l.map .str) (l.map .str)
  | [] => .nil
  | x :: xs => .cons (.str x) (PRs.strs xs)
theorem PRs.intsOf : ∀ (l : List Int), PRs st D B (l.map .int) (l.map .int)
  | [] => .nil
  | x :: xs => .cons (.int x) (PRs.intsOf xs)
mutual
theorem PR.of_v : ∀ (v : Val), v.nr = true → PR st D B (v2p v) v
  | .non, _ => .non
  | .bl b, _ => .bl b
  | .int i, _ => .int i
  | .str x, _ => .str x
  | .tup xs, h => .tup (PRs.of_v xs h)
  | .ref _, h => by simp [Val.nr] at h
theorem PRs.of_v : ∀ (v : List Val), Val.nrs v = true → PRs st D B (v2ps v) v
  | [], _ => .nil
  | x :: xs, h => by
    simp only [Val.nrs, Bool.and_eq_true] at h
    exact .cons (PR.of_v x h.1) (PRs.of_v xs h.2)
end
mutual
/-- what has no list within hangs on no store -/
theorem PR.nr : ∀ {p : PV} {v : Val}, PR st D B p v → p.nr = true → v.nr = true ∧ ∀ st1 D1 B1, PR st1 D1 B1 p v
  | _, _, .non, _ => ⟨rfl, fun _ _ _ => .non⟩
  | _, _, .bl b, _ => ⟨rfl, fun _ _ _ => .bl b⟩
  | _, _, .int i, _ => ⟨rfl, fun _ _ _ => .int i⟩
  | _, _, .str x, _ => ⟨rfl, fun _ _ _ => .str x⟩
  | _, _, .tup h, e => ⟨(PRs.nr h e).1, fun st1 D1 B1 => .tup ((PRs.nr h e).2 st1 D1 B1)⟩
  | _, _, .lst _ _ _, e => by simp [PV.nr] at e
  | _, _, .dic _ _ _ _, e => by simp [PV.nr] at e
  | _, _, .deck _, e => by simp [PV.nr] at e
theorem PRs.nr : ∀ {p : List PV} {v : List Val}, PRs st D B p v → PV.nrs p = true → Val.nrs v = true ∧ ∀ st1 D1 B1, PRs st1 D1 B1 p v
  | _, _, .nil, _ => ⟨rfl, fun _ _ _ => .nil⟩
  | _, _, .cons h hs, e => by
    simp only [PV.nrs, Bool.and_eq_true] at e
    have a := PR.nr h e.1
    have b := PRs.nr hs e.2
    exact ⟨by simp [Val.nrs, a.1, b.1], fun st1 D1 B1 => .cons (a.2 st1 D1 B1) (b.2 st1 D1 B1)⟩
end
/-! ### what can be seen -/
variable {A : Nat → Prop} {p q : PV} {r s : RV}
theorem RW.seq (h : RW st D B A p r) {k : Bool} {ps : List PV} (e : seqP p = some (k, ps)) : ∃ xs, seqR st r = some (k, xs) ∧ PRs st D B ps xs := by
  rcases h with h | ⟨n, qs, xs, rfl, rfl, _, e1, h⟩
  · cases r with
    | v v =>
      cases h with
      | tup h => cases e; exact ⟨_, rfl, h⟩
      | lst hn e1 h => cases e; exact ⟨_, by simp [seqR, seqV, lstAt, e1], h⟩
      | _ => cases e
    | l xs =>
      obtain ⟨qs, rfl, h⟩ := h
      cases e
      exact ⟨_, rfl, h⟩
  · cases e
    exact ⟨_, by simp [seqR, seqV, lstAt, e1], h⟩
theorem RW.int {i : Int} (h : RW st D B A (.int i) r) : r = .v (.int i) := by
  rcases h with h | ⟨_, _, _, _, e, _⟩
  · cases r with
    | v v => cases h; rfl
    | l xs => obtain ⟨_, e, _⟩ := h; cases e
  · cases e
theorem RW.bl {i : Bool} (h : RW st D B A (.bl i) r) : r = .v (.bl i) := by
  rcases h with h | ⟨_, _, _, _, e, _⟩
  · cases r with
    | v v => cases h; rfl
    | l xs => obtain ⟨_, e, _⟩ := h; cases e
  · cases e
theorem RW.str {i : List Nat} (h : RW st D B A (.str i) r) : r = .v (.str i) := by
  rcases h with h | ⟨_, _, _, _, e, _⟩
  · cases r with
    | v v => cases h; rfl
    | l xs => obtain ⟨_, e, _⟩ := h; cases e
  · cases e
theorem RW.non (h : RW st D B A .non r) : r = .v .non := by
  rcases h with h | ⟨_, _, _, _, e, _⟩
  · cases r with
    | v v => cases h; rfl
    | l xs => obtain ⟨_, e, _⟩ := h; cases e
  · cases e
theorem RW.tup {ps : List PV} (h : RW st D B A (.tup ps) r) : ∃ vs, r = .v (.tup vs) ∧ PRs st D B ps vs := by
  rcases h with h | ⟨_, _, _, _, e, _⟩
  · cases r with
    | v v => cases h with | tup h => exact ⟨_, rfl, h⟩
    | l xs => obtain ⟨_, e, _⟩ := h; cases e
  · cases e
theorem RW.dic {ks vs : List PV} (h : RW st D B A (.dic ks vs) r) : ∃ n kvs, r = .v (.ref n) ∧ st[n]? = some (.dic false kvs) ∧ PRs st D B ks (kvs.map Prod.fst) ∧ PRs st D B vs (kvs.map Prod.snd) := by
  rcases h with h | ⟨_, _, _, _, e, _⟩
  · cases r with
    | v v => cases h with | dic _ e h1 h2 => exact ⟨_, _, rfl, e, h1, h2⟩
    | l xs => obtain ⟨_, e, _⟩ := h; cases e
  · cases e
theorem RW.own {ps : List PV} (h : RW st D B A (.lst ps) r) : ∃ xs, ownL st r = some xs ∧ seqR st r = some (true, xs) ∧ PRs st D B ps xs ∧ (r = .l xs ∨ ∃ n, r = .v (.ref n)) := by
  rcases h with h | ⟨n, qs, xs, rfl, e, _, e1, h⟩
  · cases r with
    | v v => cases h with | lst _ e h => exact ⟨_, by simp [ownL, e], by simp [seqR, seqV, lstAt, e], h, .inr ⟨_, rfl⟩⟩
    | l xs => obtain ⟨_, e, h⟩ := h; cases e; exact ⟨_, rfl, rfl, h, .inl rfl⟩
  · cases e; exact ⟨_, by simp [ownL, e1], by simp [seqR, seqV, lstAt, e1], h, .inr ⟨_, rfl⟩⟩
/-- no list: a value -/
theorem RW.notl (h : RW st D B A p r) (hp : isVP p = true) : ∃ v, r = .v v ∧ PR st D B p v := by
  rcases h with h | ⟨n, qs, xs, rfl, rfl, _⟩
  · cases r with
    | v v => exact ⟨_, rfl, h⟩
    | l xs => obtain ⟨_, rfl, h⟩ := h; cases hp
  · cases hp
theorem RS.w (h : RS st D B p r) : RW st D B A p r := .inl h
theorem RW.truth (h : RW st D B A p r) {b : Bool} (e : truthP p = some b) : truthV st r = some b := by
  cases p with
  | non => cases h.non; exact e
  | bl _ => cases h.bl; exact e
  | int _ => cases h.int; exact e
  | str _ => cases h.str; exact e
  | tup ps => obtain ⟨vs, rfl, h'⟩ := h.tup; cases h' with
    | nil => exact e
    | cons _ _ => exact e
  | lst ps =>
    have hl : ∀ {qs : List PV} {xs : List Val}, PRs st D B qs xs → xs.isEmpty = qs.isEmpty := fun h => by cases h <;> rfl
    rcases h with h | ⟨n, qs, xs, rfl, e', _, e1, h⟩
    · cases r with
      | v v => cases h with | lst _ e1 h => simp only [truthV, e1, hl h]; exact e
      | l xs => obtain ⟨_, e', h⟩ := h; cases e'; simp only [truthV, hl h]; exact e
    · cases e'; simp only [truthV, e1, hl h]; exact e
  | dic ks vs =>
    obtain ⟨n, kvs, rfl, e1, h1, _⟩ := h.dic
    simp only [truthV, e1]
    cases kvs with
    | nil => cases h1; exact e
    | cons _ _ => cases h1; exact e
  | deck => cases e
/-! ### equality -/
theorem PR.flat {v : Val} (h : PR st D B p v) (e : isFlatP p = true) : isFlat v = true ∧ seqV st v = none ∧ seqP p = none := by
  cases h <;> first | exact ⟨rfl, rfl, rfl⟩ | cases e
theorem PR.seq {v : Val} (h : PR st D B p v) {k : Bool} {ps : List PV} (e : seqP p = some (k, ps)) : ∃ xs, seqV st v = some (k, xs) ∧ PRs st D B ps xs := by
  cases h with
  | tup h => cases e; exact ⟨_, rfl, h⟩
  | lst hn e1 h => cases e; exact ⟨_, by simp [seqV, lstAt, e1], h⟩
  | _ => cases e
theorem eqFlat_sim {v w : Val} (h : PR st D B p v) (g : PR st D B q w) {b : Bool} (e : eqFlatP p q = some b) : eqFlat v w = some b := by
  cases h <;> cases g <;> first | exact e | cases e
theorem eqFlat_seq {v w : Val} (h : PR st D B p v) (g : PR st D B q w) {b : Bool} (e : eqFlatP p q = some b) : seqV st v = none ∧ seqV st w = none := by
  cases h <;> cases g <;> first | exact ⟨rfl, rfl⟩ | cases e
theorem eqAll_sim {f : PV → PV → Option Bool} {g : Val → Val → Option Bool} (hf : ∀ {p q : PV} {v w : Val} {b : Bool}, PR st D B p v → PR st D B q w → f p q = some b → g v w = some b) : ∀ {ps qs : List PV} {vs ws : List Val} {b : Bool}, PRs st D B ps vs → PRs st D B qs ws → eqAllP f ps qs = some b → eqAll g vs ws = some b
  | _, _, _, _, _, .nil, .nil, e => e
  | _, _, _, _, _, .nil, .cons _ _, e => e
  | _, _, _, _, _, .cons _ _, .nil, e => e
  | _, _, _, _, _, .cons h hs, .cons k ks, e => by
    simp only [eqAllP, Option.bind_eq_some_iff] at e
    obtain ⟨b, e1, c, e2, e3⟩ := e
    simp only [eqAll, hf h k e1, eqAll_sim hf hs ks e2, Option.bind_some]
    exact e3
theorem eqV_sim : ∀ (n : Nat) {p q : PV} {v w : Val} {b : Bool}, PR st D B p v → PR st D B q w → eqP n p q = some b → eqV n st v w = some b
  | 0, _, _, _, _, _, _, _, e => by cases e
  | n + 1, p, q, v, w, b, h, g, e => by
    unfold eqP at e
    unfold eqV
    cases ep : seqP p with
    | some kp =>
      obtain ⟨k, ps⟩ := kp
      obtain ⟨xs, e1, h1⟩ := h.seq ep
      rw [ep] at e
      rw [e1]
      cases eq : seqP q with
      | some kq =>
        obtain ⟨j, qs⟩ := kq
        obtain ⟨ys, e2, h2⟩ := g.seq eq
        rw [eq] at e
        rw [e2]
        dsimp only at e ⊢
        rw [h1.len, h2.len] at e
        split at e
        · rw [if_pos ‹_›]
          split at e
          · rw [if_pos ‹_›]; exact e
          · rw [if_neg ‹_›]; exact eqAll_sim (eqV_sim n) h1 h2 e
        · rw [if_neg ‹_›]; exact e
      | none =>
        rw [eq] at e
        dsimp only at e
        split at e
        · rename_i hb
          obtain ⟨a1, a2, _⟩ := g.flat hb
          rw [a2]; dsimp only; rw [a1, if_pos rfl]; exact e
        · cases e
    | none =>
      rw [ep] at e
      cases eq : seqP q with
      | some kq =>
        obtain ⟨j, qs⟩ := kq
        obtain ⟨ys, e2, h2⟩ := g.seq eq
        rw [eq] at e
        rw [e2]
        dsimp only at e
        split at e
        · rename_i hb
          obtain ⟨a1, a2, _⟩ := h.flat hb
          rw [a2]; dsimp only; rw [a1, if_pos rfl]; exact e
        · cases e
      | none =>
        rw [eq] at e
        dsimp only at e
        obtain ⟨a1, a2⟩ := eqFlat_seq h g e
        rw [a1, a2]
        exact eqFlat_sim h g e
theorem RW.notseq (h : RW st D B A p r) (e : isFlatP p = true) : ∃ v, r = .v v ∧ isFlat v = true ∧ seqR st r = none ∧ PR st D B p v := by
  obtain ⟨v, rfl, h'⟩ := h.notl (by cases p <;> first | rfl | cases e)
  obtain ⟨a1, a2, _⟩ := h'.flat e
  exact ⟨v, rfl, a1, a2, h'⟩
theorem eqFlatP_flat {p q : PV} {b : Bool} (e : eqFlatP p q = some b) : isFlatP p = true ∧ isFlatP q = true := by
  cases p <;> cases q <;> first | exact ⟨rfl, rfl⟩ | cases e
theorem eqR_sim {b : Bool} (h : RW st D B A p r) (g : RW st D B A q s) (e : eqP 61 p q = some b) : eqR st r s = some b := by
  unfold eqP at e
  unfold eqR
  cases ep : seqP p with
  | some kp =>
    obtain ⟨k, ps⟩ := kp
    obtain ⟨xs, e1, h1⟩ := h.seq ep
    rw [ep] at e
    rw [e1]
    cases eq : seqP q with
    | some kq =>
      obtain ⟨j, qs⟩ := kq
      obtain ⟨ys, e2, h2⟩ := g.seq eq
      rw [eq] at e
      rw [e2]
      dsimp only at e ⊢
      rw [h1.len, h2.len] at e
      split at e
      · rw [if_pos ‹_›]
        split at e
        · rw [if_pos ‹_›]; exact e
        · rw [if_neg ‹_›]; exact eqAll_sim (eqV_sim 60) h1 h2 e
      · rw [if_neg ‹_›]; exact e
    | none =>
      rw [eq] at e
      dsimp only at e
      split at e
      · rename_i hb
        obtain ⟨v, rfl, a1, a2, _⟩ := g.notseq hb
        rw [a2]; dsimp only; rw [a1, if_pos rfl]; exact e
      · cases e
  | none =>
    rw [ep] at e
    cases eq : seqP q with
    | some kq =>
      obtain ⟨j, qs⟩ := kq
      obtain ⟨ys, e2, h2⟩ := g.seq eq
      rw [eq] at e
      rw [e2]
      dsimp only at e
      split at e
      · rename_i hb
        obtain ⟨v, rfl, a1, a2, _⟩ := h.notseq hb
        rw [a2]; dsimp only; rw [a1, if_pos rfl]; exact e
      · cases e
    | none =>
      rw [eq] at e
      dsimp only at e
      obtain ⟨f1, f2⟩ := eqFlatP_flat e
      obtain ⟨v, rfl, _, a1, h⟩ := h.notseq f1
      obtain ⟨w, rfl, _, a2, g⟩ := g.notseq f2
      rw [a1, a2]
      exact eqFlat_sim h g e
theorem anyEq_sim {x : PV} {v : Val} (hx : PR st D B x v) : ∀ {ps : List PV} {vs : List Val} {b : Bool}, PRs st D B ps vs → anyEqP x ps = some b → anyEq st v vs = some b
  | _, _, _, .nil, e => e
  | _, _, _, .cons h hs, e => by
    simp only [anyEqP, Option.bind_eq_some_iff] at e
    obtain ⟨b, e1, c, e2, e3⟩ := e
    simp only [anyEq, eqV_sim 60 h hx e1, anyEq_sim hx hs e2, Option.bind_some]
    exact e3
theorem placeEq_sim {x : PV} {v : Val} (hx : PR st D B x v) : ∀ {ps : List PV} {vs : List Val} {b : Nat}, PRs st D B ps vs → placeEqP x ps = some b → placeEq st v vs = some b
  | _, _, _, .nil, e => e
  | _, _, _, .cons h hs, e => by
    simp only [placeEqP, Option.bind_eq_some_iff] at e
    obtain ⟨b, e1, e2⟩ := e
    simp only [placeEq, eqV_sim 60 h hx e1, Option.bind_some]
    cases b with
    | true =>
      simp only [if_true, Option.map_eq_some_iff] at e2 ⊢
      obtain ⟨a, e2, e3⟩ := e2
      exact ⟨a, anyEq_sim hx hs e2, e3⟩
    | false =>
      simp only [Bool.false_eq_true, if_false, Option.map_eq_some_iff] at e2 ⊢
      obtain ⟨a, e2, e3⟩ := e2
      exact ⟨a, placeEq_sim hx hs e2, e3⟩
theorem countEq_sim {x : PV} {v : Val} (hx : PR st D B x v) : ∀ {ps : List PV} {vs : List Val} {b : Nat}, PRs st D B ps vs → countEqP x ps = some b → countEq st v vs = some b
  | _, _, _, .nil, e => e
  | _, _, _, .cons h hs, e => by
    simp only [countEqP, Option.bind_eq_some_iff, Option.map_eq_some_iff] at e
    obtain ⟨b, e1, a, e2, e3⟩ := e
    simp only [countEq, eqV_sim 60 h hx e1, countEq_sim hx hs e2, Option.bind_some, Option.map_some, e3]
/-! ### data -/
theorem mapM_sim {f : PV → Option PySem.PyData} {g : Val → Option PySem.PyData} (hf : ∀ {p : PV} {v : Val} {d : PySem.PyData}, PR st D B p v → f p = some d → g v = some d) : ∀ {ps : List PV} {vs : List Val} {ds : List PySem.PyData}, PRs st D B ps vs → ps.mapM f = some ds → vs.mapM g = some ds
  | _, _, _, .nil, e => by simpa using e
  | _, _, _, .cons h hs, e => by
    rw [List.mapM_cons] at e ⊢
    simp only [Option.pure_def, Option.bind_eq_bind, Option.bind_eq_some_iff] at e ⊢
    obtain ⟨d, e1, l, e2, e3⟩ := e
    exact ⟨d, hf h e1, l, mapM_sim hf hs e2, e3⟩
theorem dat_sim : ∀ (n : Nat) {p : PV} {v : Val} {d : PySem.PyData}, PR st D B p v → datP n p = some d → datF n st v = some d
  | 0, _, _, _, _, e => by cases e
  | n + 1, p, v, d, h, e => by
    unfold datP at e
    unfold datF
    cases h with
    | tup h =>
      simp only [seqP, seqV, Option.map_eq_some_iff] at e ⊢
      obtain ⟨l, e1, e2⟩ := e
      exact ⟨l, mapM_sim (dat_sim n) h e1, e2⟩
    | lst _ e1 h =>
      simp only [seqP, seqV, lstAt, e1, Option.map_some, Option.map_eq_some_iff] at e ⊢
      obtain ⟨l, e1, e2⟩ := e
      exact ⟨l, mapM_sim (dat_sim n) h e1, e2⟩
    | dic _ _ _ _ => cases e
    | deck _ => cases e
    | _ => exact e
theorem datR_sim {d : PySem.PyData} (h : RW st D B A p r) (e : datP 60 p = some d) : datR st r = some d := by
  rcases h with h | ⟨n, ps, xs, rfl, rfl, _, e1, h⟩
  · cases r with
    | v v => exact dat_sim 60 h e
    | l xs =>
      obtain ⟨ps, rfl, h⟩ := h
      unfold datP at e
      simp only [seqP, Option.map_eq_some_iff] at e
      obtain ⟨l, e1, e2⟩ := e
      simp only [datR, mapM_sim (dat_sim 59) h e1, Option.map_some, e2]
  · unfold datP at e
    simp only [seqP, Option.map_eq_some_iff] at e
    obtain ⟨l, e2, e3⟩ := e
    unfold datR datF
    simp only [seqV, lstAt, e1, Option.map_some]
    rw [mapM_sim (dat_sim 59) h e2, Option.map_some, e3]
theorem strs_sim : ∀ {ps : List PV} {vs : List Val} {l : List (List Nat)}, PRs st D B ps vs → allStrsP ps = some l → allStrs vs = some l
  | _, _, _, .nil, e => e
  | _, _, _, .cons (.str x) hs, e => by
    simp only [allStrsP, Option.map_eq_some_iff] at e
    obtain ⟨l, e1, rfl⟩ := e
    simp [allStrs, strs_sim hs e1]
  | _, _, _, .cons .non hs, e => by cases e
  | _, _, _, .cons (.bl _) hs, e => by cases e
  | _, _, _, .cons (.int _) hs, e => by cases e
  | _, _, _, .cons (.tup _) hs, e => by cases e
  | _, _, _, .cons (.lst _ _ _) hs, e => by cases e
  | _, _, _, .cons (.dic _ _ _ _) hs, e => by cases e
  | _, _, _, .cons (.deck _) hs, e => by cases e
theorem ints_sim : ∀ {ps : List PV} {vs : List Val} {l : List Int}, PRs st D B ps vs → allIntsP ps = some l → allInts vs = some l
  | _, _, _, .nil, e => e
  | _, _, _, .cons (.int x) hs, e => by
    simp only [allIntsP, Option.map_eq_some_iff] at e
    obtain ⟨l, e1, rfl⟩ := e
    simp [allInts, ints_sim hs e1]
  | _, _, _, .cons .non hs, e => by cases e
  | _, _, _, .cons (.bl _) hs, e => by cases e
  | _, _, _, .cons (.str _) hs, e => by cases e
  | _, _, _, .cons (.tup _) hs, e => by cases e
  | _, _, _, .cons (.lst _ _ _) hs, e => by cases e
  | _, _, _, .cons (.dic _ _ _ _) hs, e => by cases e
  | _, _, _, .cons (.deck _) hs, e => by cases e
theorem nstrs_sim : ∀ {ps : List PV} {vs : List Val}, PRs st D B ps vs → ps ≠ [] → ∀ l, allIntsP ps = some l → allStrs vs = none
  | _, _, .nil, e, _, _ => absurd rfl e
  | _, _, .cons (.int x) hs, _, _, _ => rfl
  | _, _, .cons .non hs, _, _, e => by cases e
  | _, _, .cons (.bl _) hs, _, _, e => by cases e
  | _, _, .cons (.str _) hs, _, _, e => by cases e
  | _, _, .cons (.tup _) hs, _, _, e => by cases e
  | _, _, .cons (.lst _ _ _) hs, _, _, e => by cases e
  | _, _, .cons (.dic _ _ _ _) hs, _, _, e => by cases e
  | _, _, .cons (.deck _) hs, _, _, e => by cases e
end
/-! ### trees and results -/
section
variable {α β γ δ : Type}
/-- the result is that of some way through the tree -/
def Sim (R : α → β → Store → Prop) : Tr α → Res β → Prop
  | .ret a, r => ∃ b st, r = .ok b st ∧ R a b st
  | .exc _ _, _ => True
  | .bad, _ => True
  | .draw m k, r => 1 ≤ m → m ≤ 2 ^ 4000 → ∃ i, 0 ≤ i ∧ i < m ∧ Sim R (k i) r
theorem Sim.bind {R : α → β → Store → Prop} {R' : γ → δ → Store → Prop} {f : α → Tr γ} {g : β → Store → Res δ} : ∀ {t : Tr α} {r : Res β}, Sim R t r → (∀ a b st, R a b st → Sim R' (f a) (g b st)) → Sim R' (t.bind f) (r.bind g)
  | .ret a, r, h, k => by obtain ⟨b, st, rfl, h⟩ := h; exact k a b st h
  | .exc _ _, _, _, _ => trivial
  | .bad, _, _, _ => trivial
  | .draw m j, r, h, k => fun h1 h2 => by
    obtain ⟨i, i0, i1, h⟩ := h h1 h2
    exact ⟨i, i0, i1, Sim.bind h k⟩
theorem Sim.imp {R R' : α → β → Store → Prop} : ∀ {t : Tr α} {r : Res β}, Sim R t r → (∀ a b st, R a b st → R' a b st) → Sim R' t r
  | .ret a, r, h, k => by obtain ⟨b, st, rfl, h⟩ := h; exact ⟨b, st, rfl, k a b st h⟩
  | .exc _ _, _, _, _ => trivial
  | .bad, _, _, _ => trivial
  | .draw m j, r, h, k => fun h1 h2 => by
    obtain ⟨i, i0, i1, h⟩ := h h1 h2
    exact ⟨i, i0, i1, Sim.imp h k⟩
theorem Sim.lift {R : α → β → Store → Prop} {o : Option α} {r : Res β} (h : ∀ a, o = some a → ∃ b st, r = .ok b st ∧ R a b st) : Sim R (liftT o) r := by
  cases o with
  | none => trivial
  | some a => exact h a rfl
theorem Sim.when {R : α → β → Store → Prop} {b : Bool} {t : Tr α} {r : Res β} (h : b = true → Sim R t r) : Sim R (whenT b t) r := by
  cases b with
  | false => trivial
  | true => exact h rfl
theorem Sim.noX {R : α → β → Store → Prop} : ∀ {t : Tr α} {r : Res β}, Sim R t r → Sim R t.noX (Mi.noX r)
  | .ret a, r, h => by obtain ⟨b, st, rfl, h⟩ := h; exact ⟨b, st, rfl, h⟩
  | .exc _ _, _, _ => trivial
  | .bad, _, _ => trivial
  | .draw m j, r, h => fun h1 h2 => by
    obtain ⟨i, i0, i1, h⟩ := h h1 h2
    exact ⟨i, i0, i1, Sim.noX h⟩
end
end Mi
end
section
set_option linter.all false
set_option autoImplicit false
/-! PvOps: operations, walks, targets: those of the store do what those without do. -/
namespace Mi
section
variable {st : Store} {D : DD} {B A : Nat → Prop} {p q : PV} {r s : RV}
/-- the post of an operation -/
def OpR (st : Store) (D : DD) (B : Nat → Prop) (q : PV) (s : RV) (st' : Store) : Prop := st' = st ∧ RS st D B q s ∧ ∀ ps, q = .lst ps → ∃ xs, s = .l xs
theorem opr {v : Val} (h : PR st D B q v) (hq : isVP q = true) : OpR st D B q (.v v) st := ⟨rfl, h, fun _ e => by subst e; cases hq⟩
theorem oprl {ps : List PV} {xs : List Val} (h : PRs st D B ps xs) : OpR st D B (.lst ps) (.l xs) st := ⟨rfl, ⟨_, rfl, h⟩, fun _ _ => ⟨_, rfl⟩⟩
theorem sim_ret {α β : Type} {R : α → β → Store → Prop} {a : α} {b : β} {st : Store} (h : R a b st) : Sim R (.ret a) (.ok b st) := ⟨b, st, rfl, h⟩
mutual
theorem ktk_sim : ∀ {p : PV} {v : Val}, PR st D B p v → p.nr = true → ktkP p = ktk v ∧ pdep p = vdep v
  | _, _, .non, _ => ⟨rfl, rfl⟩
  | _, _, .bl b, _ => ⟨rfl, rfl⟩
  | _, _, .int i, _ => ⟨rfl, rfl⟩
  | _, _, .str x, _ => ⟨rfl, rfl⟩
  | _, _, .tup h, e => by
    obtain ⟨a, b⟩ := ktks_sim h (by simpa [PV.nr] using e)
    exact ⟨by rw [ktkP, ktk, a], by rw [pdep, vdep, b]⟩
  | _, _, .lst _ _ _, e => by simp [PV.nr] at e
  | _, _, .dic _ _ _ _, e => by simp [PV.nr] at e
  | _, _, .deck _, e => by simp [PV.nr] at e
theorem ktks_sim : ∀ {p : List PV} {v : List Val}, PRs st D B p v → PV.nrs p = true → ktksP p = ktks v ∧ pdeps p = vdeps v
  | _, _, .nil, _ => ⟨rfl, rfl⟩
  | _, _, .cons h hs, e => by
    simp only [PV.nrs, Bool.and_eq_true] at e
    obtain ⟨a, b⟩ := ktk_sim h e.1
    obtain ⟨a', b'⟩ := ktks_sim hs e.2
    exact ⟨by rw [ktksP, ktks, a, a'], by rw [pdeps, vdeps, b, b']⟩
end
mutual
theorem alike_sim : ∀ {p q : PV} {v w : Val}, PR st D B p v → PR st D B q w → alikeP p q = true → alikeV v w = true
  | _, _, _, _, .non, g, e => by cases g <;> simp [alikeP] at e; rfl
  | _, _, _, _, .bl b, g, e => by cases g <;> simp [alikeP] at e; rfl
  | _, _, _, _, .int i, g, e => by cases g <;> simp [alikeP] at e; rfl
  | _, _, _, _, .str x, g, e => by cases g <;> simp [alikeP] at e; rfl
  | _, _, _, _, .tup h, g, e => by
    cases g <;> simp [alikeP] at e
    rename_i g
    simpa [alikeV] using alikes_sim h g e
  | _, _, _, _, .lst _ _ _, g, e => by simp [alikeP] at e
  | _, _, _, _, .dic _ _ _ _, g, e => by simp [alikeP] at e
  | _, _, _, _, .deck _, g, e => by simp [alikeP] at e
theorem alikes_sim : ∀ {p q : List PV} {v w : List Val}, PRs st D B p v → PRs st D B q w → alikePs p q = true → alikeVs v w = true
  | _, _, _, _, .nil, _, _ => by simp [alikeVs]
  | _, _, _, _, .cons _ _, .nil, _ => by simp [alikeVs]
  | _, _, _, _, .cons h hs, .cons g gs, e => by
    simp only [alikePs, Bool.and_eq_true] at e
    simp only [alikeVs, Bool.and_eq_true]
    exact ⟨alike_sim h g e.1, alikes_sim hs gs e.2⟩
end
theorem tup1_sim {p : PV} {v : Val} (h : PR st D B p v) (e : tup1P p = true) : tup1 v = true ∧ p.nr = true := by
  cases h with
  | tup h =>
    cases h with
    | nil => simp [tup1P] at e
    | cons a b =>
      simp only [tup1P, Bool.and_eq_true] at e
      exact ⟨by simp [tup1, (PR.nr a e.1).1, (PRs.nr b e.2).1], by simp [PV.nr, PV.nrs, e.1, e.2]⟩
  | _ => simp [tup1P] at e
theorem PRs.mem : ∀ {ps : List PV} {vs : List Val}, PRs st D B ps vs → ∀ {v : Val}, v ∈ vs → ∃ p ∈ ps, PR st D B p v
  | _, _, .nil, _, h => by simp at h
  | _, _, .cons h hs, v, hv => by
    rcases List.mem_cons.mp hv with rfl | hv
    · exact ⟨_, List.mem_cons_self, h⟩
    · obtain ⟨p, a, b⟩ := PRs.mem hs hv
      exact ⟨p, List.mem_cons_of_mem _ a, b⟩
theorem PRs.perm_nr {ps : List PV} {vs : List Val} (h : PRs st D B ps vs) : True := trivial
theorem insT_sim {p : PV} {v : Val} (h : PR st D B p v) (hn : p.nr = true) : ∀ {ps : List PV} {vs : List Val}, PRs st D B ps vs → PV.nrs ps = true → PRs st D B (insV leTP p ps) (insV leT v vs) ∧ PV.nrs (insV leTP p ps) = true
  | _, _, .nil, _ => ⟨.cons h .nil, by simp [insV, PV.nrs, hn]⟩
  | _, _, .cons (p := q) (v := w) g gs, e => by
    have e0 := e
    simp only [PV.nrs, Bool.and_eq_true] at e
    have e1 : leTP p q = leT v w := by unfold leTP leT; rw [(ktk_sim h hn).1, (ktk_sim g e.1).1]
    unfold insV
    rw [e1]
    split
    · exact ⟨.cons h (.cons g gs), by simp [PV.nrs, hn, e.1, e.2]⟩
    · obtain ⟨a, b⟩ := insT_sim h hn gs e.2
      exact ⟨.cons g a, by simp [PV.nrs, e.1, b]⟩
theorem isortT_sim : ∀ {ps : List PV} {vs : List Val}, PRs st D B ps vs → PV.nrs ps = true → PRs st D B (isort leTP ps) (isort leT vs) ∧ PV.nrs (isort leTP ps) = true
  | _, _, .nil, _ => ⟨.nil, rfl⟩
  | _, _, .cons g gs, e => by
    simp only [PV.nrs, Bool.and_eq_true] at e
    obtain ⟨a, b⟩ := isortT_sim gs e.2
    exact insT_sim g e.1 a b
theorem nrs_all : ∀ {ps : List PV}, (∀ p ∈ ps, p.nr = true) → PV.nrs ps = true
  | [], _ => rfl
  | p :: ps, h => by simp [PV.nrs, h p List.mem_cons_self, nrs_all fun q hq => h q (List.mem_cons_of_mem _ hq)]
theorem sortOk_sim {ps : List PV} {vs : List Val} (h : PRs st D B ps vs) (hk : sortOkP ps = true) (hne : ps ≠ []) : allStrs vs = none ∧ allInts vs = none ∧ sortOk vs = true ∧ PRs st D B (isort leTP ps) (isort leT vs) := by
  have hk' : ∀ x ∈ ps, tup1P x = true ∧ pdep x ≤ 60 ∧ ∀ y ∈ ps, alikeP x y = true := fun x hx => by
    have := List.all_eq_true.mp hk x hx
    simp only [Bool.and_eq_true, decide_eq_true_eq] at this
    exact ⟨this.1.1, this.1.2, fun y hy => List.all_eq_true.mp this.2 y hy⟩
  have nr : ∀ x ∈ ps, x.nr = true := fun x hx => by
    have := (hk' x hx).1
    unfold tup1P at this
    split at this
    · simpa [PV.nr, PV.nrs] using this
    · cases this
  have h1 : ∀ v ∈ vs, tup1 v = true ∧ vdep v ≤ 60 ∧ ∀ w ∈ vs, alikeV v w = true := fun v hv => by
    obtain ⟨p, hp, r⟩ := h.mem hv
    obtain ⟨a, b, c⟩ := hk' p hp
    refine ⟨(tup1_sim r a).1, by rw [← (ktk_sim r (nr p hp)).2]; exact b, fun w hw => ?_⟩
    obtain ⟨q, hq, r'⟩ := h.mem hw
    exact alike_sim r r' (c q hq)
  have h2 : sortOk vs = true := List.all_eq_true.mpr fun v hv => by
    obtain ⟨a, b, c⟩ := h1 v hv
    simp only [Bool.and_eq_true, decide_eq_true_eq]
    exact ⟨⟨a, b⟩, List.all_eq_true.mpr c⟩
  have h3 : ∃ v ws, vs = v :: ws ∧ tup1 v = true := by
    cases h with
    | nil => exact absurd rfl hne
    | cons a b => exact ⟨_, _, rfl, (h1 _ List.mem_cons_self).1⟩
  obtain ⟨v, ws, rfl, hv⟩ := h3
  refine ⟨?_, ?_, h2, (isortT_sim h (nrs_all nr)).1⟩
  · cases v <;> simp [tup1] at hv; rfl
  · cases v <;> simp [tup1] at hv; rfl
theorem is_l {o : O1} {ps : List PV} (h : RW st D B A (.lst ps) r) (hl : ∀ xs, f1 o (.l xs) st = .ok (.v (.bl false)) st) (hr : ∀ n, f1 o (.v (.ref n)) st = refF st n) : Sim (OpR st D B) (.ret (.bl false)) (f1 o r st) := by
  have : f1 o r st = .ok (.v (.bl false)) st := by
    obtain ⟨xs, e1, _, _, h2⟩ := h.own
    rcases h2 with rfl | ⟨n, rfl⟩
    · exact hl _
    · rw [hr]
      simp only [ownL] at e1
      split at e1
      · rename_i e; simp only [refF, e]
      · cases e1
  rw [this]
  exact sim_ret (opr (.bl _) rfl)
theorem is_d {o : O1} {ks vs : List PV} (h : RW st D B A (.dic ks vs) r) (hr : ∀ n, f1 o (.v (.ref n)) st = refF st n) : Sim (OpR st D B) (.ret (.bl false)) (f1 o r st) := by
  obtain ⟨n, kvs, rfl, e, _, _⟩ := h.dic
  rw [hr]
  simp only [refF, e]
  exact sim_ret (opr (.bl _) rfl)
theorem rngs_sim (i : Int) (n : Nat) : PRs st D B (rngP i n) (rng i n) := by
  have e1 : rngP i n = ((List.range n).map fun (k : Nat) => i + (k : Int)).map PV.int := by simp [rngP]
  have e2 : rng i n = ((List.range n).map fun (k : Nat) => i + (k : Int)).map Val.int := by simp [rng]
  rw [e1, e2]
  exact PRs.intsOf _
theorem p1_sim (o : O1) (h : RW st D B A p r) : Sim (OpR st D B) (p1 o p) (f1 o r st) := by
  cases o with
  | neg => cases p <;> first | trivial | (cases h.int; exact sim_ret (opr (.int _) rfl))
  | abs => cases p <;> first | trivial | (cases h.int; exact sim_ret (opr (.int _) rfl))
  | int => cases p <;> first | trivial | (cases h.int; exact sim_ret (opr (.int _) rfl)) | (cases h.bl; exact sim_ret (opr (.int _) rfl))
  | len =>
    cases p with
    | tup ps =>
      obtain ⟨xs, e, h1⟩ := h.seq (k := false) (ps := ps) rfl
      simp only [p1, seqP, f1, e, h1.len]
      exact sim_ret (opr (.int _) rfl)
    | lst ps =>
      obtain ⟨xs, e, h1⟩ := h.seq (k := true) (ps := ps) rfl
      simp only [p1, seqP, f1, e, h1.len]
      exact sim_ret (opr (.int _) rfl)
    | str x =>
      cases h.str
      refine Sim.when fun hx => ?_
      rw [show f1 .len (.v (.str x)) st = if x.length ≤ top then .ok (.v (.int x.length)) st else .bad from rfl, if_pos (of_decide_eq_true hx)]
      exact sim_ret (opr (.int _) rfl)
    | dic ks vs =>
      obtain ⟨n, kvs, rfl, e, h1, _⟩ := h.dic
      have e1 : ks.length = kvs.length := by simpa using h1.len
      simp only [p1, seqP, f1, seqR, seqV, lstAt, e, dicAt, Option.map_none, e1]
      exact sim_ret (opr (.int _) rfl)
    | _ => trivial
  | str =>
    cases p <;> first | trivial | skip
    cases h.int
    refine Sim.when fun hx => ?_
    simp only [f1]
    rw [if_pos (of_decide_eq_true hx)]
    exact sim_ret (opr (.str _) rfl)
  | repr =>
    unfold p1
    dsimp only
    split
    · rename_i d e
      refine Sim.when fun hx => ?_
      simp only [f1, datR_sim h e]
      rw [if_pos (of_decide_eq_true hx)]
      exact sim_ret (opr (.str _) rfl)
    · trivial
  | tuple =>
    cases p <;> first | trivial | skip
    · obtain ⟨xs, e, h1⟩ := h.seq rfl
      simp only [p1, seqP, f1, e]
      exact sim_ret (opr (.tup h1) rfl)
    · obtain ⟨xs, e, h1⟩ := h.seq rfl
      simp only [p1, seqP, f1, e]
      exact sim_ret (opr (.tup h1) rfl)
  | list =>
    cases p <;> first | trivial | skip
    · obtain ⟨xs, e, h1⟩ := h.seq rfl
      simp only [p1, seqP, f1, e]
      exact sim_ret (oprl h1)
    · obtain ⟨xs, e, h1⟩ := h.seq rfl
      simp only [p1, seqP, f1, e]
      exact sim_ret (oprl h1)
  | sorted =>
    cases p <;> first | trivial | skip
    rename_i ps
    obtain ⟨xs, e, h1⟩ := h.seq (k := true) (ps := ps) rfl
    simp only [p1, seqP]
    refine Sim.when fun hx => ?_
    have hx' := of_decide_eq_true hx
    rw [h1.len] at hx'
    simp only [f1, e, hx', if_true]
    cases es : allStrsP ps with
    | some ys => simp only [strs_sim h1 es]; exact sim_ret (oprl (PRs.strs _))
    | none =>
      cases ei : allIntsP ps with
      | none =>
        refine Sim.when fun hk => ?_
        obtain ⟨g1, g2, g3, g4⟩ := sortOk_sim h1 hk (fun e => by subst e; cases es)
        simp only [g1, g2, g3, if_true]
        exact sim_ret (oprl g4)
      | some ys =>
        have : ps ≠ [] := fun e => by subst e; cases es
        simp only [nstrs_sim h1 this ys ei, ints_sim h1 ei]
        exact sim_ret (oprl (PRs.intsOf _))
  | sum =>
    cases p <;> first | trivial | skip
    rename_i ps
    obtain ⟨xs, e, h1⟩ := h.seq (k := true) (ps := ps) rfl
    simp only [p1, seqP]
    cases ei : allIntsP ps with
    | none => trivial
    | some ys =>
      simp only [f1, e, ints_sim h1 ei]
      exact sim_ret (opr (.int _) rfl)
  | lmax =>
    cases p <;> first | trivial | skip
    rename_i ps
    obtain ⟨xs, e, h1⟩ := h.seq (k := true) (ps := ps) rfl
    simp only [p1, seqP]
    cases ei : allIntsP ps with
    | none => trivial
    | some ys =>
      cases ys with
      | nil => trivial
      | cons y ys =>
        simp only [f1, e, ints_sim h1 ei]
        exact sim_ret (opr (.int _) rfl)
  | lmin =>
    cases p <;> first | trivial | skip
    rename_i ps
    obtain ⟨xs, e, h1⟩ := h.seq (k := true) (ps := ps) rfl
    simp only [p1, seqP]
    cases ei : allIntsP ps with
    | none => trivial
    | some ys =>
      cases ys with
      | nil => trivial
      | cons y ys =>
        simp only [f1, e, ints_sim h1 ei]
        exact sim_ret (opr (.int _) rfl)
  | isTrue => cases p <;> first | trivial | (cases h.bl; exact sim_ret (opr (.bl _) rfl))
  | notTrue => cases p <;> first | trivial | (cases h.bl; exact sim_ret (opr (.bl _) rfl))
  | rngL =>
    cases p <;> first | trivial | skip
    cases h.int
    refine Sim.when fun hx => ?_
    simp only [f1, hx, if_true]
    exact sim_ret (oprl (rngs_sim _ _))
  | rngT =>
    cases p <;> first | trivial | skip
    cases h.int
    refine Sim.when fun hx => ?_
    simp only [f1, hx, if_true]
    exact sim_ret (opr (.tup (rngs_sim _ _)) rfl)
  | isNon =>
    refine ⟨.v (.bl (p == .non)), st, ?_, opr (.bl _) rfl⟩
    rcases h with h | ⟨n, ps, xs, rfl, rfl, _⟩
    · cases r with
      | v v => cases h <;> rfl
      | l xs => obtain ⟨ps, rfl, _⟩ := h; rfl
    · rfl
  | notNon =>
    refine ⟨.v (.bl (!(p == .non))), st, ?_, opr (.bl _) rfl⟩
    rcases h with h | ⟨n, ps, xs, rfl, rfl, _⟩
    · cases r with
      | v v => cases h <;> rfl
      | l xs => obtain ⟨ps, rfl, _⟩ := h; rfl
    · rfl
  | isStr =>
    cases p with
    | str x => cases h.str; exact sim_ret (opr (.bl _) rfl)
    | int x => cases h.int; exact sim_ret (opr (.bl _) rfl)
    | bl x => cases h.bl; exact sim_ret (opr (.bl _) rfl)
    | non => cases h.non; exact sim_ret (opr (.bl _) rfl)
    | tup x => obtain ⟨vs, rfl, h⟩ := h.tup; exact sim_ret (opr (.bl _) rfl)
    | lst ps => exact is_l h (fun _ => rfl) (fun _ => rfl)
    | dic ks vs => exact is_d h (fun _ => rfl)
    | deck => trivial
  | isInt =>
    cases p with
    | str x => cases h.str; exact sim_ret (opr (.bl _) rfl)
    | int x => cases h.int; exact sim_ret (opr (.bl _) rfl)
    | bl x => cases h.bl; exact sim_ret (opr (.bl _) rfl)
    | non => cases h.non; exact sim_ret (opr (.bl _) rfl)
    | tup x => obtain ⟨vs, rfl, h⟩ := h.tup; exact sim_ret (opr (.bl _) rfl)
    | lst ps => exact is_l h (fun _ => rfl) (fun _ => rfl)
    | dic ks vs => exact is_d h (fun _ => rfl)
    | deck => trivial
  | isTup =>
    cases p with
    | str x => cases h.str; exact sim_ret (opr (.bl _) rfl)
    | int x => cases h.int; exact sim_ret (opr (.bl _) rfl)
    | bl x => cases h.bl; exact sim_ret (opr (.bl _) rfl)
    | non => cases h.non; exact sim_ret (opr (.bl _) rfl)
    | tup x => obtain ⟨vs, rfl, h⟩ := h.tup; exact sim_ret (opr (.bl _) rfl)
    | lst ps => exact is_l h (fun _ => rfl) (fun _ => rfl)
    | dic ks vs => exact is_d h (fun _ => rfl)
    | deck => trivial
  | isBool =>
    cases p with
    | str x => cases h.str; exact sim_ret (opr (.bl _) rfl)
    | int x => cases h.int; exact sim_ret (opr (.bl _) rfl)
    | bl x => cases h.bl; exact sim_ret (opr (.bl _) rfl)
    | non => cases h.non; exact sim_ret (opr (.bl _) rfl)
    | tup x => obtain ⟨vs, rfl, h⟩ := h.tup; exact sim_ret (opr (.bl _) rfl)
    | lst ps => exact is_l h (fun _ => rfl) (fun _ => rfl)
    | dic ks vs => exact is_d h (fun _ => rfl)
    | deck => trivial
  | pop => trivial
  | rev =>
    cases p <;> first | trivial | skip
    rename_i ps
    obtain ⟨xs, e, h1⟩ := h.seq (k := true) (ps := ps) rfl
    simp only [p1, seqP, f1, e]
    exact sim_ret (oprl h1.rev)
theorem key_eq {k : PV} {v : Val} {b : PV} {w : Val} (h : PR st D B k v) (g : PR st D B b w) (hb : keyP b = true) : (k == b) = (v == w) := by
  have c1 : ∀ {a b : Int}, (PV.int a == PV.int b) = (Val.int a == Val.int b) := fun {a b} => by
    show PV.beq _ _ = Val.beq _ _
    simp [PV.beq, Val.beq]
  have c2 : ∀ {a b : List Nat}, (PV.str a == PV.str b) = (Val.str a == Val.str b) := fun {a b} => by
    show PV.beq _ _ = Val.beq _ _
    simp [PV.beq, Val.beq]
  cases g <;> first | cases hb | skip
  · cases h <;> first | exact c1 | rfl
  · cases h <;> first | exact c2 | rfl
theorem get_sim {b : PV} {w : Val} (g : PR st D B b w) (hb : keyP b = true) : ∀ {ks vs : List PV} {kvs : List (Val × Val)} {z : PV}, PRs st D B ks (kvs.map Prod.fst) → PRs st D B vs (kvs.map Prod.snd) → getP b ks vs = some z → ∃ u, kget kvs w = some u ∧ PR st D B z u
  | ks, vs, [], z, h1, h2, e => by
    cases ks with
    | nil => cases e
    | cons _ _ => cases h1
  | ks, vs, (k, v) :: kvs, z, h1, h2, e => by
    cases ks with
    | nil => cases h1
    | cons k' ks =>
      cases vs with
      | nil => cases h2
      | cons v' vs =>
        cases h1 with
        | cons a1 b1 =>
          cases h2 with
          | cons a2 b2 =>
            unfold getP at e
            unfold kget
            rw [← key_eq a1 g hb]
            split at e
            · rw [if_pos ‹_›]; cases e; exact ⟨_, rfl, a2⟩
            · rw [if_neg ‹_›]; exact get_sim g hb b1 b2 e
theorem at_sim {ps : List PV} {xs : List Val} (h : PRs st D B ps xs) {i : Int} {z : PV} (e : at' ps i = some z) : ∃ u, at' xs i = some u ∧ PR st D B z u := by
  unfold at' at e ⊢
  rw [← h.len]
  cases hi : ix ps.length i with
  | none => rw [hi] at e; cases e
  | some j => rw [hi] at e; exact h.get e
theorem cmp_sim {f : Int → Int → Bool} (h : RW st D B A p r) (g : RW st D B A q s) : Sim (OpR st D B) (cmpP f p q) (cmpI f r s st) := by
  cases p <;> first | trivial | skip
  cases q <;> first | trivial | skip
  cases h.int; cases g.int
  exact sim_ret (opr (.bl _) rfl)
/-- as OpR, but for a part of a list -/
def OpX (st : Store) (D : DD) (B : Nat → Prop) (o : O2) (q : PV) (s : RV) (st' : Store) : Prop := st' = st ∧ RS st D B q s ∧ (o ≠ .ix → ∀ ps, q = .lst ps → ∃ xs, s = .l xs)
theorem OpR.x {o : O2} {q : PV} {s : RV} {st' : Store} (h : OpR st D B q s st') : OpX st D B o q s st' := ⟨h.1, h.2.1, fun _ => h.2.2⟩
theorem p2_sim (o : O2) (h : RW st D B A p r) (g : RW st D B A q s) : Sim (OpX st D B o) (p2 o p q) (f2 o r s st) := by
  cases o with
  | add =>
    refine Sim.imp ?_ fun _ _ _ => OpR.x
    cases p <;> first | trivial | skip
    · cases q <;> first | trivial | skip
      cases h.int; cases g.int; exact sim_ret (opr (.int _) rfl)
    · cases q <;> first | trivial | skip
      cases h.str; cases g.str
      refine Sim.when fun hx => ?_
      simp only [f2]
      rw [if_pos (of_decide_eq_true hx)]
      exact sim_ret (opr (.str _) rfl)
    · cases q <;> first | trivial | skip
      obtain ⟨xs, rfl, h1⟩ := h.tup
      obtain ⟨ys, rfl, g1⟩ := g.tup
      refine Sim.when fun hx => ?_
      rw [h1.len, g1.len] at hx
      simp only [f2]
      rw [if_pos (of_decide_eq_true hx)]
      exact sim_ret (opr (.tup (h1.app g1)) rfl)
    · cases q <;> first | trivial | skip
      obtain ⟨xs, e1, _, h1, h2⟩ := h.own
      obtain ⟨ys, e2, _, g1, g2⟩ := g.own
      refine Sim.when fun hx => ?_
      rw [h1.len, g1.len] at hx
      have : f2 .add r s st = if xs.length + ys.length ≤ top then .ok (.l (xs ++ ys)) st else .bad := by
        rcases h2 with rfl | ⟨n, rfl⟩ <;> rcases g2 with rfl | ⟨m, rfl⟩ <;> simp only [f2, e1, e2]
      rw [this, if_pos (of_decide_eq_true hx)]
      exact sim_ret (oprl (h1.app g1))
  | sub =>
    refine Sim.imp ?_ fun _ _ _ => OpR.x
    cases p <;> first | trivial | skip
    cases q <;> first | trivial | skip
    cases h.int; cases g.int; exact sim_ret (opr (.int _) rfl)
  | mul =>
    refine Sim.imp ?_ fun _ _ _ => OpR.x
    cases p <;> first | trivial | skip
    · cases q <;> first | trivial | skip
      cases h.int; cases g.int
      refine Sim.when fun hx => ?_
      simp only [f2]
      rw [if_pos (of_decide_eq_true hx)]
      exact sim_ret (opr (.int _) rfl)
    · cases q <;> first | trivial | skip
      obtain ⟨xs, rfl, h1⟩ := h.tup
      cases g.int
      refine Sim.when fun hx => ?_
      simp only [Bool.and_eq_true, decide_eq_true_eq, h1.len] at hx
      simp only [f2]
      have : xs ≠ [] := fun e => by subst e; cases h1; cases hx.2
      rw [if_pos ⟨hx.1.1, hx.1.2.1, hx.1.2.2, this⟩]
      exact sim_ret (opr (.tup (h1.reps _)) rfl)
    · cases q with
      | int j =>
        obtain ⟨xs, e1, _, h1, h2⟩ := h.own
        cases g.int
        refine Sim.when fun hx => ?_
        rw [h1.len] at hx
        have : f2 .mul r (.v (.int j)) st = if -(2 ^ 63) ≤ j ∧ j < 2 ^ 63 ∧ xs.length * j.toNat ≤ top then .ok (.l (List.replicate j.toNat xs).flatten) st else .bad := by
          rcases h2 with rfl | ⟨n, rfl⟩ <;> simp only [f2, e1]
        rw [this, if_pos (of_decide_eq_true hx)]
        exact sim_ret (oprl (h1.reps _))
      | _ => trivial
  | mod =>
    refine Sim.imp ?_ fun _ _ _ => OpR.x
    cases p <;> first | trivial | skip
    cases q <;> first | trivial | skip
    cases h.int; cases g.int
    refine Sim.when fun hx => ?_
    simp only [f2]
    rw [if_pos (of_decide_eq_true hx)]
    exact sim_ret (opr (.int _) rfl)
  | fdiv =>
    refine Sim.imp ?_ fun _ _ _ => OpR.x
    cases p <;> first | trivial | skip
    cases q <;> first | trivial | skip
    cases h.int; cases g.int
    refine Sim.when fun hx => ?_
    simp only [f2]
    rw [if_pos (of_decide_eq_true hx)]
    exact sim_ret (opr (.int _) rfl)
  | pow =>
    refine Sim.imp ?_ fun _ _ _ => OpR.x
    cases p <;> first | trivial | skip
    cases q <;> first | trivial | skip
    cases h.int; cases g.int
    refine Sim.when fun hx => ?_
    simp only [f2]
    rw [if_pos (of_decide_eq_true hx)]
    exact sim_ret (opr (.int _) rfl)
  | eq =>
    refine Sim.lift fun a e => ?_
    simp only [Option.map_eq_some_iff] at e
    obtain ⟨b, e, rfl⟩ := e
    simp only [f2, eqR_sim h g e]
    exact ⟨_, _, rfl, (opr (.bl _) rfl).x⟩
  | ne =>
    refine Sim.lift fun a e => ?_
    simp only [Option.map_eq_some_iff] at e
    obtain ⟨b, e, rfl⟩ := e
    simp only [f2, eqR_sim h g e]
    exact ⟨_, _, rfl, (opr (.bl _) rfl).x⟩
  | lt => exact Sim.imp (cmp_sim h g) fun _ _ _ => OpR.x
  | le => exact Sim.imp (cmp_sim h g) fun _ _ _ => OpR.x
  | gt => exact Sim.imp (cmp_sim h g) fun _ _ _ => OpR.x
  | ge => exact Sim.imp (cmp_sim h g) fun _ _ _ => OpR.x
  | isin =>
    refine Sim.imp ?_ fun _ _ _ => OpR.x
    by_cases hp : isVP p = true
    · obtain ⟨v, rfl, h1⟩ := h.notl hp
      cases eq : seqP q with
      | none => cases p <;> first | (simp only [p2, eq]; trivial) | cases hp
      | some kq =>
        obtain ⟨j, qs⟩ := kq
        obtain ⟨ys, e2, g1⟩ := g.seq eq
        have : p2 .isin p q = liftT ((anyEqP p qs).map .bl) := by cases p <;> first | (simp only [p2, eq]; done) | cases hp
        rw [this]
        refine Sim.lift fun a e => ?_
        simp only [Option.map_eq_some_iff] at e
        obtain ⟨b, e, rfl⟩ := e
        simp only [f2, e2, anyEq_sim h1 g1 e]
        exact ⟨_, _, rfl, opr (.bl _) rfl⟩
    · cases p <;> first | trivial | exact absurd rfl hp
  | notin =>
    refine Sim.imp ?_ fun _ _ _ => OpR.x
    by_cases hp : isVP p = true
    · obtain ⟨v, rfl, h1⟩ := h.notl hp
      cases eq : seqP q with
      | none => cases p <;> first | (simp only [p2, eq]; trivial) | cases hp
      | some kq =>
        obtain ⟨j, qs⟩ := kq
        obtain ⟨ys, e2, g1⟩ := g.seq eq
        have : p2 .notin p q = liftT ((anyEqP p qs).map fun b => .bl (!b)) := by cases p <;> first | (simp only [p2, eq]; done) | cases hp
        rw [this]
        refine Sim.lift fun a e => ?_
        simp only [Option.map_eq_some_iff] at e
        obtain ⟨b, e, rfl⟩ := e
        simp only [f2, e2, anyEq_sim h1 g1 e]
        exact ⟨_, _, rfl, opr (.bl _) rfl⟩
    · cases p <;> first | trivial | exact absurd rfl hp
  | ix =>
    cases ep : seqP p with
    | some kp =>
      obtain ⟨k, ps⟩ := kp
      obtain ⟨xs, e1, h1⟩ := h.seq ep
      by_cases hq : ∃ i, q = .int i
      · obtain ⟨i, rfl⟩ := hq
        cases g.int
        simp only [p2, ep]
        refine Sim.lift fun a e => ?_
        obtain ⟨u, e2, h2⟩ := at_sim h1 e
        simp only [f2, e1, e2]
        exact ⟨_, _, rfl, rfl, h2, fun z => absurd rfl z⟩
      · have : p2 .ix p q = .bad := by
          cases q <;> first | (simp only [p2, ep]; done) | exact absurd ⟨_, rfl⟩ hq
        rw [this]; trivial
    | none =>
      cases p with
      | dic ks vs =>
        obtain ⟨n, kvs, rfl, e1, h1, h2⟩ := h.dic
        by_cases hq : keyP q = true
        · obtain ⟨w, rfl, g1⟩ := g.notl (by cases q <;> first | rfl | cases hq)
          have : p2 .ix (.dic ks vs) q = liftT (getP q ks vs) := by cases q <;> first | rfl | cases hq
          rw [this]
          refine Sim.lift fun a e => ?_
          obtain ⟨u, e2, h3⟩ := get_sim g1 hq h1 h2 e
          have hk : keyOk false w = true := by cases g1 <;> first | rfl | cases hq
          have : f2 .ix (.v (.ref n)) (.v w) st = .ok (.v u) st := by
            simp only [f2, seqR, seqV, lstAt, e1, Option.map_none, dicAt, hk, if_true, e2]; rfl
          rw [this]
          exact ⟨_, _, rfl, rfl, h3, fun z => absurd rfl z⟩
        · have : p2 .ix (.dic ks vs) q = .bad := by cases q <;> first | rfl | exact absurd rfl hq
          rw [this]; trivial
      | tup _ => cases ep
      | lst _ => cases ep
      | _ => trivial
  | append => trivial
  | extend => trivial
  | popAt => trivial
  | index =>
    refine Sim.imp ?_ fun _ _ _ => OpR.x
    cases p <;> first | trivial | skip
    rename_i ps
    obtain ⟨xs, e1, h1⟩ := h.seq (k := true) (ps := ps) rfl
    by_cases hq : isVP q = true
    · obtain ⟨w, rfl, g1⟩ := g.notl hq
      have : p2 .index (.lst ps) q = liftT ((placeEqP q ps).map fun (n : Nat) => PV.int (n : Int)) := by cases q <;> first | rfl | cases hq
      rw [this]
      refine Sim.lift fun a e => ?_
      simp only [Option.map_eq_some_iff] at e
      obtain ⟨b, e, rfl⟩ := e
      simp only [f2, e1, placeEq_sim g1 h1 e]
      exact ⟨_, _, rfl, opr (.int _) rfl⟩
    · cases q <;> first | trivial | exact absurd rfl hq
  | count =>
    refine Sim.imp ?_ fun _ _ _ => OpR.x
    cases p <;> first | trivial | skip
    rename_i ps
    obtain ⟨xs, e1, h1⟩ := h.seq (k := true) (ps := ps) rfl
    by_cases hq : isVP q = true
    · obtain ⟨w, rfl, g1⟩ := g.notl hq
      have : p2 .count (.lst ps) q = liftT ((countEqP q ps).map fun (n : Nat) => PV.int (n : Int)) := by cases q <;> first | rfl | cases hq
      rw [this]
      refine Sim.lift fun a e => ?_
      simp only [Option.map_eq_some_iff] at e
      obtain ⟨b, e, rfl⟩ := e
      simp only [f2, e1, countEq_sim g1 h1 e]
      exact ⟨_, _, rfl, opr (.int _) rfl⟩
    · cases q <;> first | trivial | exact absurd rfl hq
  | max2 => 
    refine Sim.imp ?_ fun _ _ _ => OpR.x
    cases p <;> first | trivial | skip
    cases q <;> first | trivial | skip
    cases h.int; cases g.int
    exact sim_ret (opr (.int _) rfl)
  | min2 =>
    refine Sim.imp ?_ fun _ _ _ => OpR.x
    cases p <;> first | trivial | skip
    cases q <;> first | trivial | skip
    cases h.int; cases g.int
    exact sim_ret (opr (.int _) rfl)
  | rngL2 =>
    refine Sim.imp ?_ fun _ _ _ => OpR.x
    cases p <;> first | trivial | skip
    cases q <;> first | trivial | skip
    cases h.int; cases g.int
    refine Sim.when fun hx => ?_
    simp only [f2, hx, if_true]
    exact sim_ret (oprl (rngs_sim _ _))
  | rngT2 =>
    refine Sim.imp ?_ fun _ _ _ => OpR.x
    cases p <;> first | trivial | skip
    cases q <;> first | trivial | skip
    cases h.int; cases g.int
    refine Sim.when fun hx => ?_
    simp only [f2, hx, if_true]
    exact sim_ret (opr (.tup (rngs_sim _ _)) rfl)
/-- a method's receiver is a list -/
theorem pre2_sim {o : O2} (h : RW st D B A p r) {z : PV} (e : p2 o p z ≠ .bad) : pre2 o r st = true := by
  cases o <;> first | rfl | (exact absurd rfl e) | skip
  · cases p <;> first | exact absurd rfl e | skip
    obtain ⟨xs, e1, _⟩ := h.seq (k := true) rfl
    simp [pre2, e1]
  · cases p <;> first | exact absurd rfl e | skip
    obtain ⟨xs, e1, _⟩ := h.seq (k := true) rfl
    simp [pre2, e1]
theorem psl_sim {lo hi : Option Int} (h : RW st D B A p r) : Sim (OpR st D B) (psl p lo hi) (fsl r lo hi st) := by
  cases p <;> first | trivial | skip
  · cases h.str
    refine Sim.when fun hx => ?_
    simp only [fsl, seqR, seqV]
    rw [if_pos (of_decide_eq_true hx)]
    exact sim_ret (opr (.str _) rfl)
  · obtain ⟨xs, e, h1⟩ := h.seq (k := false) rfl
    simp only [fsl, e]
    exact sim_ret (opr (.tup (h1.cut _ _)) rfl)
  · obtain ⟨xs, e, h1⟩ := h.seq (k := true) rfl
    simp only [fsl, e]
    exact sim_ret (oprl (h1.cut _ _))
/-! ### walks -/
theorem rng_sim (lo : Int) (n : Nat) : PRs st D B (rngP lo n) (rng lo n) := by
  unfold rngP rng
  generalize List.range n = l
  induction l with
  | nil => exact .nil
  | cons x xs ih => exact .cons (.int _) ih
theorem zipE_sim {ps : List PV} {xs : List Val} (h : PRs st D B ps xs) : PRs st D B (zipEP ps) (zipE xs) := by
  unfold zipEP zipE
  generalize 0 = k
  induction ps generalizing xs k with
  | nil => cases h; exact .nil
  | cons p ps ih => cases h with | cons h1 h2 => exact .cons (.tup (.cons (.int _) (.cons h1 .nil))) (ih h2 (k + 1))
theorem zip_sim : ∀ {ps qs : List PV} {xs ys : List Val}, PRs st D B ps xs → PRs st D B qs ys → PRs st D B ((ps.zip qs).map fun p => .tup [p.1, p.2]) ((xs.zip ys).map fun p => .tup [p.1, p.2])
  | _, _, _, _, .nil, _ => .nil
  | _, _, _, _, .cons _ _, .nil => .nil
  | _, _, _, _, .cons h hs, .cons g gs => .cons (.tup (.cons h (.cons g .nil))) (zip_sim hs gs)
/-- the lists that a walk watches: where they stand -/
def srcs (r : RV) (n : Nat) : Prop := r = .v (.ref n)
theorem watch_mem {r : RV} {xs : List Val} {m : Nat × List Val} (h : m ∈ watch r xs) : srcs r m.1 ∧ m.2 = xs := by
  cases r with
  | v v =>
    cases v with
    | ref n => simp only [watch, List.mem_singleton] at h; subst h; exact ⟨rfl, rfl⟩
    | _ => simp [watch] at h
  | l _ => simp [watch] at h
theorem walk_sim {k : IK} {ps : List PV} (h : RW st D B A p r) (g : k = .zip ∨ k = .range2 → RW st D B A q s) (e : walkP k p q = some ps) : ∃ xs w, walk k r s st = some (xs, w) ∧ PRs st D B ps xs ∧ (∀ m ∈ w, (srcs r m.1 ∨ (srcs s m.1 ∧ k = .zip)) ∧ lstAt st m.1 = some m.2) := by
  have hl : ∀ {z : RV} {kk : Bool} {xs : List Val}, seqR st z = some (kk, xs) → ∀ m ∈ watch z xs, lstAt st m.1 = some m.2 := by
    intro z kk xs e m hm
    obtain ⟨e1, e2⟩ := watch_mem hm
    unfold srcs at e1
    rw [e1] at e
    simp only [seqR, seqV] at e
    cases h : lstAt st m.1 with
    | none => rw [h] at e; cases e
    | some ys => rw [h] at e; cases e; rw [e2]
  cases k with
  | seq =>
    simp only [walkP, Option.map_eq_some_iff] at e
    obtain ⟨⟨kk, qs⟩, e1, rfl⟩ := e
    obtain ⟨xs, e2, h1⟩ := h.seq e1
    exact ⟨xs, watch r xs, by simp [walk, e2], h1, fun m hm => ⟨.inl (watch_mem hm).1, hl e2 m hm⟩⟩
  | range1 =>
    cases p <;> first | cases e | skip
    simp only [walkP, range1P] at e
    split at e <;> cases e
    cases h.int
    exact ⟨_, [], by simp only [walk]; rw [if_pos ‹_›], rng_sim _ _, fun m hm => nomatch hm⟩
  | range2 =>
    cases p <;> first | cases e | skip
    cases q <;> first | cases e | skip
    simp only [walkP, range2P] at e
    split at e <;> cases e
    cases h.int
    cases (g (.inr rfl)).int
    exact ⟨_, [], by simp only [walk]; rw [if_pos ‹_›], rng_sim _ _, fun m hm => nomatch hm⟩
  | enum =>
    simp only [walkP, Option.map_eq_some_iff] at e
    obtain ⟨⟨kk, qs⟩, e1, rfl⟩ := e
    obtain ⟨xs, e2, h1⟩ := h.seq e1
    cases kk with
    | true => exact ⟨_, watch r xs, by simp [walk, e2], zipE_sim h1, fun m hm => ⟨.inl (watch_mem hm).1, hl e2 m hm⟩⟩
    | false => exact ⟨_, [], by simp [walk, e2], zipE_sim h1, fun m hm => nomatch hm⟩
  | zip =>
    simp only [walkP] at e
    cases e1 : seqP p with
    | none => rw [e1] at e; cases e
    | some kp =>
      cases e2 : seqP q with
      | none => rw [e1, e2] at e; cases e
      | some kq =>
        obtain ⟨k, ps⟩ := kp
        obtain ⟨j, qs⟩ := kq
        rw [e1, e2] at e
        dsimp only at e
        split at e <;> cases e
        obtain ⟨xs, a1, h1⟩ := h.seq e1
        obtain ⟨ys, a2, h2⟩ := (g (.inl rfl)).seq e2
        refine ⟨_, watch r xs ++ watch s ys, by simp only [walk, a1, a2]; rw [if_pos ‹_›], zip_sim h1 h2, fun m hm => ?_⟩
        rcases List.mem_append.mp hm with hm | hm
        · exact ⟨.inl (watch_mem hm).1, hl a1 m hm⟩
        · exact ⟨.inr ⟨(watch_mem hm).1, rfl⟩, hl a2 m hm⟩
end
end Mi
end
section
set_option linter.all false
set_option autoImplicit false
/-! PvSim: the interpreter without a store is followed by Mini's. -/
namespace Mi
/-! ### what is looked at ahead -/
section
variable (W : List Nat)
/-- the value may be a list that a slot owns -/
def escs : E → Bool
  | .x i => W.contains i
  | .ite _ a b => escs a || escs b
  | .and _ b => escs b
  | .or _ b => escs b
  | .cons h t => escs h || escs t
  | _ => false
/-- 1: a list for sure; 2: one that nobody holds -/
def kd : E → Nat
  | .x i => if W.contains i then 1 else 0
  | .lst _ => 2
  | .comp _ _ _ _ _ _ _ => 2
  | .op1 .list _ => 2
  | .op1 .sorted _ => 2
  | .op1 .rev _ => 2
  | .op2 .add a b => if kd a = 0 ∧ kd b = 0 then 0 else 2
  | .op2 .mul a _ => if kd a = 0 then 0 else 2
  | .sl a _ _ => if kd a = 0 then 0 else 2
  | .ite _ a b => min (kd a) (kd b)
  | _ => 0
def chkT : T → Bool
  | .sl i => !W.contains i
  | .tp ts => chkT ts
  | .nil => true
  | .cons t ts => chkT t && chkT ts
variable (F : List Bool)
def chkE : E → Bool
  | .k _ => true
  | .x _ => true
  | .g _ _ => true
  | .nil => true
  | .cons h t => chkE h && chkE t
  | .tup es => chkE es && !escs W es
  | .lst es => chkE es && !escs W es
  | .dic _ es => chkE es && !escs W es
  | .op1 _ a => chkE a
  | .op2 _ a b => chkE a && chkE b
  | .op3 _ _ _ _ => false
  | .sl a lo hi => chkE a && chkE lo && chkE hi
  | .and a b => chkE a && chkE b
  | .or a b => chkE a && chkE b
  | .not a => chkE a
  | .ite c a b => chkE c && chkE a && chkE b
  | .chain _ _ a b c => chkE a && chkE b && chkE c
  | .call _ j _ es => chkE es && (!escs W es || F.getD j false)
  | .comp _ tg _ a b c e => chkE a && chkE b && chkE c && chkE e && chkT W tg && !escs W e
/-- the slots whose lists are changed -/
def mutS : S → List Nat
  | .seq s t => mutS s ++ mutS t
  | .asg (.sub (.x i) _) _ => [i]
  | .asg (.mv i j) _ => [i, j]
  | .ex (.op2 o (.x i) _) => if isDo o then [i] else []
  | .ite _ s t => mutS s ++ mutS t
  | .whil _ s => mutS s
  | .fo _ _ _ _ s => mutS s
  | _ => []
/-- what is walked is not changed by the walk's body -/
def chkSrc (M : List Nat) (a : E) : Bool := !escs W a || (match a with | .x i => !M.contains i | _ => false)
def ownT : T → E → Bool
  | .sl i, e => W.contains i && decide (kd W e = 2)
  | _, _ => false
/-- side by side -/
def chkPar : T → E → Bool
  | .nil, .nil => true
  | .cons t ts, .cons e es => chkE W F e && ((chkT W t && !escs W e) || ownT W t e) && chkPar ts es
  | _, _ => false
def chkW : S → Bool
  | .skip => true
  | .seq s t => chkW s && chkW t
  | .asg (.tg (.sl i)) e => chkE W F e && (if W.contains i then decide (kd W e = 2) else !escs W e)
  | .asg (.tg (.tp ts)) (.tup es) => chkPar W F ts es
  | .asg (.tg t) e => chkE W F e && chkT W t && !escs W e
  | .asg (.mv i j) e => W.contains i && W.contains j && !(i == j) && (match e with
    | .x k => k == j
    | .ite c (.x k) (.x l) => chkE W F c && k == j && l == i
    | _ => false)
  | .asg (.un ts) e => chkE W F e && chkT W ts && !escs W e
  | .asg (.sub (.x i) j) e => W.contains i && chkE W F e && !escs W e && chkE W F j
  | .asg _ _ => false
  | .ex (.op2 o (.x i) e) => chkE W F e && (!isDo o || (W.contains i && (decide (o = .extend) || !escs W e)))
  | .ex e => chkE W F e
  | .ret e => chkE W F e
  | .retN => true
  | .ite c s t => chkE W F c && chkW s && chkW t
  | .whil c s => chkE W F c && chkW s
  | .fo tg _ a b s => chkE W F a && chkE W F b && chkT W tg && chkSrc W (mutS s) a && chkSrc W (mutS s) b && chkW s
  | .brk => true
  | .cont => true
  | .never => true
end
theorem kd_le (W : List Nat) : ∀ e : E, kd W e ≤ 2
  | .x i => by unfold kd; split <;> omega
  | .op2 o a b => by
    cases o <;> simp only [kd] <;> first | omega | (split <;> omega)
  | .op1 o a => by cases o <;> simp only [kd] <;> omega
  | .sl a _ _ => by unfold kd; split <;> omega
  | .ite _ a b => by have := kd_le W a; unfold kd; omega
  | .lst _ => Nat.le_refl _
  | .comp _ _ _ _ _ _ _ => Nat.le_refl _
  | .k _ => Nat.zero_le _
  | .g _ _ => Nat.zero_le _
  | .nil => Nat.zero_le _
  | .cons _ _ => Nat.zero_le _
  | .tup _ => Nat.zero_le _
  | .dic _ _ => Nat.zero_le _
  | .op3 _ _ _ _ => Nat.zero_le _
  | .and _ _ => Nat.zero_le _
  | .or _ _ => Nat.zero_le _
  | .not _ => Nat.zero_le _
  | .chain _ _ _ _ _ => Nat.zero_le _
  | .call _ _ _ _ => Nat.zero_le _
/-! ### states -/
section
variable (ok : Nat → Obj → Obj → Prop)
/-- the deck stands where it stands -/
def DK (D : DD) (st : Store) : Prop := ∀ d l, D = some (d, l) → d ≠ l ∧ ∃ o1 o2, st[d]? = some o1 ∧ st[l]? = some o2 ∧ ok l o1 o2
end
structure Ext (D : DD) (st st' : Store) : Prop where
  len : st.length ≤ st'.length
  same : ∀ n, n < st.length → ¬ inD D n → st'[n]? = st[n]?
theorem Ext.refl {D : DD} {st : Store} : Ext D st st := ⟨Nat.le_refl _, fun _ _ _ => rfl⟩
theorem Ext.trans {D : DD} {a b c : Store} (h : Ext D a b) (g : Ext D b c) : Ext D a c := ⟨Nat.le_trans h.len g.len, fun n l i => (g.same n (Nat.lt_of_lt_of_le l h.len) i).trans (h.same n l i)⟩
theorem DK.app {ok : Nat → Obj → Obj → Prop} {D : DD} {st : Store} (h : DK ok D st) (x : Store) : DK ok D (st ++ x) := fun d l e => by
  obtain ⟨n, o1, o2, a, b, c⟩ := h d l e
  exact ⟨n, o1, o2, (List.getElem?_append_left (lt_of_at a)).trans a, (List.getElem?_append_left (lt_of_at b)).trans b, c⟩
theorem Ext.app {D : DD} {st : Store} (x : Store) : Ext D st (st ++ x) := ⟨by simp, fun n l _ => List.getElem?_append_left l⟩
theorem DK.set {ok : Nat → Obj → Obj → Prop} {D : DD} {st : Store} (h : DK ok D st) {n : Nat} (hn : ¬ inD D n) (o : Obj) : DK ok D (st.set n o) := fun d l e => by
  obtain ⟨ne, o1, o2, a, b, c⟩ := h d l e
  refine ⟨ne, o1, o2, ?_, ?_, c⟩
  · rw [List.getElem?_set_ne]; exact a
    exact fun z => hn ⟨d, l, e, .inl z⟩
  · rw [List.getElem?_set_ne]; exact b
    exact fun z => hn ⟨d, l, e, .inr z⟩
/-- a function does what one without a store does -/
def SimF (ok : Nat → Obj → Obj → Prop) (p : PFn) (f : Fn) : Prop := ∀ (D : DD) (st : Store) (B : Nat → Prop) (ps : List PV) (vs : List Val), DK ok D st → (∀ n, inD D n → B n) → (∀ n, B n → n < st.length) → PRs st D B ps vs →
  Sim (fun q r st' => RS st' D B q r ∧ Ext D st st' ∧ DK ok D st') (p ps) (f vs st)
/-- and hands back nothing that stands in the store -/
def SimN (ok : Nat → Obj → Obj → Prop) (p : PFn) (f : Fn) : Prop := ∀ (D : DD) (st : Store) (B : Nat → Prop) (ps : List PV) (vs : List Val), DK ok D st → (∀ n, inD D n → B n) → (∀ n, B n → n < st.length) → PRs st D B ps vs →
  Sim (fun q r st' => (RS st' D B q r ∧ q.nr = true) ∧ Ext D st st' ∧ DK ok D st') (p ps) (f vs st)
def nrOnly (p : PFn) : PFn := fun args => (p args).bind fun r => whenT r.nr (.ret r)
theorem SimF.n {ok : Nat → Obj → Obj → Prop} {p : PFn} {f : Fn} (h : SimF ok p f) : SimN ok (nrOnly p) f := fun D st B ps vs h1 h2 h3 h4 => by
  have e : f vs st = (f vs st).bind fun r st' => .ok r st' := by cases f vs st <;> rfl
  rw [e]
  refine Sim.bind (h D st B ps vs h1 h2 h3 h4) fun q r st' z => ?_
  exact Sim.when fun hq => sim_ret ⟨⟨z.1, hq⟩, z.2⟩
theorem SimN.f {ok : Nat → Obj → Obj → Prop} {p : PFn} {f : Fn} (h : SimN ok p f) : SimF ok p f := fun D st B ps vs h1 h2 h3 h4 => (h D st B ps vs h1 h2 h3 h4).imp fun _ _ _ z => ⟨z.1.1, z.2⟩
def CsR (ok : Nat → Obj → Obj → Prop) (F : List Bool) (ps : List PFn) (cs : List Fn) : Prop := ∀ j p, ps[j]? = some p → ∃ f, cs[j]? = some f ∧ SimF ok p f ∧ (F.getD j false = true → SimN ok p f)
theorem CsR.nil {ok : Nat → Obj → Obj → Prop} : CsR ok [] [] [] := fun j p e => by simp at e
theorem CsR.consF {ok : Nat → Obj → Obj → Prop} {F : List Bool} {ps : List PFn} {cs : List Fn} {p : PFn} {f : Fn} (h : SimF ok p f) (g : CsR ok F ps cs) : CsR ok (false :: F) (p :: ps) (f :: cs) := fun j q e => by
  cases j with
  | zero => cases e; exact ⟨f, rfl, h, fun z => by simp at z⟩
  | succ j => exact g j q e
theorem CsR.consN {ok : Nat → Obj → Obj → Prop} {F : List Bool} {ps : List PFn} {cs : List Fn} {p : PFn} {f : Fn} (h : SimN ok p f) (g : CsR ok F ps cs) : CsR ok (true :: F) (p :: ps) (f :: cs) := fun j q e => by
  cases j with
  | zero => cases e; exact ⟨f, rfl, h.f, fun _ => h⟩
  | succ j => exact g j q e

/-- slots: the owned ones, the others -/
structure EI (W : List Nat) (base : Nat) (st : Store) (D : DD) (B : Nat → Prop) (O : Nat → Nat) (ρ : Env) (π : PEnv) : Prop where
  own : ∀ i p, i ∈ W → π[i]? = some (some p) → ∃ ps xs, p = .lst ps ∧ ρ[i]? = some (some (.ref (O i))) ∧ st[O i]? = some (.lst xs) ∧ PRs st D B ps xs ∧ base ≤ O i ∧ B (O i) ∧ ¬ inD D (O i)
  inj : ∀ i j p q, i ∈ W → j ∈ W → π[i]? = some (some p) → π[j]? = some (some q) → O i = O j → i = j
  val : ∀ i p, i ∉ W → π[i]? = some (some p) → ∃ v, ρ[i]? = some (some v) ∧ PR st D B p v
  len : π.length = ρ.length
  bD : ∀ n, inD D n → B n
  bl : ∀ n, B n → n < st.length
  bs : base ≤ st.length
section
variable {W : List Nat} {base : Nat} {st st' : Store} {D : DD} {B : Nat → Prop} {O : Nat → Nat} {ρ : Env} {π : PEnv} {F : List Bool} {ok : Nat → Obj → Obj → Prop}
theorem EI.hs (h : EI W base st D B O ρ π) (e : Ext D st st') : ∀ n, ¬ B n → n < st.length → st'[n]? = st[n]? := fun n hb hl => e.same n hl fun z => hb (h.bD n z)
theorem EI.ext (h : EI W base st D B O ρ π) (e : Ext D st st') : EI W base st' D B O ρ π where
  own i p hi hp := by
    obtain ⟨ps, xs, e1, e2, e3, e4, e5, e6, e7⟩ := h.own i p hi hp
    exact ⟨ps, xs, e1, e2, (e.same _ (lt_of_at e3) e7).trans e3, e4.mono (h.hs e) (fun _ b _ => b), e5, e6, e7⟩
  inj := h.inj
  val i p hi hp := by
    obtain ⟨v, e1, e2⟩ := h.val i p hi hp
    exact ⟨v, e1, e2.mono (h.hs e) (fun _ b _ => b)⟩
  len := h.len
  bD := h.bD
  bl n hn := Nat.lt_of_lt_of_le (h.bl n hn) e.len
  bs := Nat.le_trans h.bs e.len
/-- a value, or a slot's own list -/
def WV (W : List Nat) (O : Nat → Nat) (π : PEnv) (st : Store) (D : DD) (B : Nat → Prop) (b : Bool) (p : PV) (r : RV) : Prop := RS st D B p r ∨ (b = true ∧ ∃ i ∈ W, π[i]? = some (some p) ∧ r = .v (.ref (O i)))
def WVs (W : List Nat) (O : Nat → Nat) (π : PEnv) (st : Store) (D : DD) (B : Nat → Prop) (b : Bool) : List PV → List RV → Prop
  | [], [] => True
  | p :: ps, r :: rs => WV W O π st D B b p r ∧ WVs W O π st D B b ps rs
  | _, _ => False
variable {b : Bool} {p : PV} {r : RV}
theorem WV.ext (h : WV W O π st D B b p r) (g : EI W base st D B O ρ π) (e : Ext D st st') : WV W O π st' D B b p r := by
  rcases h with h | h
  · exact .inl (h.mono (g.hs e) (fun _ b _ => b))
  · exact .inr h
theorem WV.rw (h : WV W O π st D B b p r) (g : EI W base st D B O ρ π) : RW st D B (fun _ => True) p r := by
  rcases h with h | ⟨_, i, hi, hp, rfl⟩
  · exact .inl h
  · obtain ⟨ps, xs, e1, e2, e3, e4, _⟩ := g.own i p hi hp
    exact .inr ⟨_, ps, xs, rfl, e1, trivial, e3, e4⟩
theorem WV.strict (h : WV W O π st D B false p r) : RS st D B p r := by
  rcases h with h | ⟨h, _⟩
  · exact h
  · cases h
theorem WV.mono {b' : Bool} (h : WV W O π st D B b p r) (i : b = true → b' = true) : WV W O π st D B b' p r := by
  rcases h with h | ⟨h1, h2⟩
  · exact .inl h
  · exact .inr ⟨i h1, h2⟩
theorem WVs.ext (g : EI W base st D B O ρ π) (e : Ext D st st') : ∀ {ps : List PV} {rs : List RV}, WVs W O π st D B b ps rs → WVs W O π st' D B b ps rs
  | [], [], _ => trivial
  | _ :: _, _ :: _, h => ⟨h.1.ext g e, WVs.ext g e h.2⟩
  | [], _ :: _, h => h.elim
  | _ :: _, [], h => h.elim
theorem WVs.mono {b' : Bool} (i : b = true → b' = true) : ∀ {ps : List PV} {rs : List RV}, WVs W O π st D B b ps rs → WVs W O π st D B b' ps rs
  | [], [], _ => trivial
  | _ :: _, _ :: _, h => ⟨h.1.mono i, WVs.mono i h.2⟩
  | [], _ :: _, h => h.elim
  | _ :: _, [], h => h.elim
theorem WVs.strict : ∀ {ps : List PV} {rs : List RV}, WVs W O π st D B false ps rs → RSs st D B ps rs
  | [], [], _ => trivial
  | _ :: _, _ :: _, h => ⟨h.1.strict, WVs.strict h.2⟩
  | [], _ :: _, h => h.elim
  | _ :: _, [], h => h.elim
/-- with nothing barred but the deck -/
theorem WVs.weak (g : EI W base st D B O ρ π) : ∀ {ps : List PV} {rs : List RV}, WVs W O π st D B b ps rs → RSs st D (inD D) ps rs
  | [], [], _ => trivial
  | p :: _, r :: _, h => by
    refine ⟨?_, WVs.weak g h.2⟩
    rcases h.1 with h | ⟨_, i, hi, hp, rfl⟩
    · exact h.mono (fun _ _ _ => rfl) (fun n z _ => g.bD n z)
    · obtain ⟨ps, xs, rfl, e2, e3, e4, _, _, e7⟩ := g.own i p hi hp
      exact .lst e7 e3 (e4.mono (fun _ _ _ => rfl) (fun n z _ => g.bD n z))
  | [], _ :: _, h => h.elim
  | _ :: _, [], h => h.elim
theorem RSs.length : ∀ {ps : List PV} {rs : List RV}, RSs st D B ps rs → ps.length = rs.length
  | [], [], _ => rfl
  | _ :: _, _ :: _, h => by simp [RSs.length h.2]
  | [], _ :: _, h => h.elim
  | _ :: _, [], h => h.elim
/-! ### a new list moves into the store -/
theorem settle_sim (h : RS st D B p r) (hd : DK ok D st) (hb : ∀ n, B n → n < st.length) : PR (settle r st).2 D B p (settle r st).1 ∧ Ext D st (settle r st).2 ∧ DK ok D (settle r st).2 := by
  cases r with
  | v v => exact ⟨h, .refl, hd⟩
  | l xs =>
    obtain ⟨ps, rfl, h⟩ := h
    refine ⟨.lst (n := st.length) (xs := xs) (fun z => Nat.lt_irrefl _ (hb _ z)) (by simp [settle]) (h.mono (fun n _ hl => ?_) (fun _ b _ => b)), .app _, hd.app _⟩
    simp only [settle]
    exact List.getElem?_append_left hl
theorem settles_sim : ∀ {ps : List PV} {rs : List RV} {st : Store}, RSs st D B ps rs → DK ok D st → (∀ n, inD D n → B n) → (∀ n, B n → n < st.length) → PRs (settles rs st).2 D B ps (settles rs st).1 ∧ Ext D st (settles rs st).2 ∧ DK ok D (settles rs st).2
  | [], [], st, _, hd, _, hb => ⟨.nil, .refl, hd⟩
  | p :: ps, r :: rs, st, h, hd, hD, hb => by
    obtain ⟨a1, a2, a3⟩ := settle_sim h.1 hd hb
    have hm : ∀ n, ¬ B n → n < st.length → (settle r st).2[n]? = st[n]? := fun n h1 h2 => a2.same n h2 fun z => h1 (hD n z)
    obtain ⟨b1, b2, b3⟩ := settles_sim (h.2.mono hm (fun _ b _ => b)) a3 hD (fun n z => Nat.lt_of_lt_of_le (hb n z) a2.len)
    refine ⟨.cons (a1.mono (fun n h1 h2 => b2.same n h2 fun z => h1 (hD n z)) (fun _ b _ => b)) b1, a2.trans b2, b3⟩
  | [], _ :: _, _, h, _, _, _ => h.elim
  | _ :: _, [], _, h, _, _, _ => h.elim
theorem RSs.get : ∀ {ps : List PV} {rs : List RV}, RSs st D B ps rs → ∀ i : Nat, (∃ (p : PV) (r : RV), ps[i]? = some p ∧ rs[i]? = some r ∧ RS st D B p r) ∨ (ps[i]? = none ∧ rs[i]? = none)
  | [], [], _, i => .inr (by simp)
  | p :: _, r :: _, h, 0 => .inl ⟨p, r, rfl, rfl, h.1⟩
  | _ :: _, _ :: _, h, i + 1 => by simpa using RSs.get h.2 i
  | [], _ :: _, h, _ => h.elim
  | _ :: _, [], h, _ => h.elim
theorem perm_sim {ps : List PV} {rs : List RV} (h : RSs st D B ps rs) (kw : List Nat) : RSs st D B (permP kw ps) (permute kw rs) := by
  have go : ∀ l : List Nat, RSs st D B (l.filterMap fun i => ps[i]?) (l.filterMap fun i => rs[i]?) := by
    intro l
    induction l with
    | nil => exact trivial
    | cons i l ih =>
      rcases h.get i with ⟨p, r, e1, e2, h1⟩ | ⟨e1, e2⟩
      · rw [List.filterMap_cons, List.filterMap_cons, e1, e2]; exact ⟨h1, ih⟩
      · rw [List.filterMap_cons, List.filterMap_cons, e1, e2]; exact ih
  cases kw with
  | nil => exact h
  | cons k kw => exact go (k :: kw)
/-! ### targets -/
theorem EI.set (h : EI W base st D B O ρ π) {i : Nat} (hi : i ∉ W) {v : Val} (hp : PR st D B p v) : EI W base st D B O (ρ.set i (some v)) (π.set i (some p)) where
  own j q hj hq := by
    have : i ≠ j := fun e => hi (e ▸ hj)
    rw [List.getElem?_set_ne this] at hq
    obtain ⟨ps, xs, e1, e2, e3⟩ := h.own j q hj hq
    exact ⟨ps, xs, e1, by rw [List.getElem?_set_ne this]; exact e2, e3⟩
  inj j k q s hj hk hq hs := by
    have n1 : i ≠ j := fun e => hi (e ▸ hj)
    have n2 : i ≠ k := fun e => hi (e ▸ hk)
    rw [List.getElem?_set_ne n1] at hq
    rw [List.getElem?_set_ne n2] at hs
    exact h.inj j k q s hj hk hq hs
  val j q hj hq := by
    by_cases e : i = j
    · subst e
      have hl : i < π.length := by have := lt_of_at hq; simpa using this
      rw [List.getElem?_set_self hl] at hq
      cases hq
      exact ⟨v, by rw [List.getElem?_set_self (by rw [← h.len]; exact hl)], hp⟩
    · rw [List.getElem?_set_ne e] at hq
      obtain ⟨v, e1, e2⟩ := h.val j q hj hq
      exact ⟨v, by rw [List.getElem?_set_ne e]; exact e1, e2⟩
  len := by simp [h.len]
  bD := h.bD
  bl := h.bl
  bs := h.bs
mutual
theorem bind_sim : ∀ (t : T) {p : PV} {v : Val} {ρ : Env} {π π1 : PEnv}, chkT W t = true → EI W base st D B O ρ π → PR st D B p v → bindP t p π = some π1 → ∃ ρ1, bindT t v ρ = some ρ1 ∧ EI W base st D B O ρ1 π1 ∧ ∀ j ∈ W, π1[j]? = π[j]?
  | .sl i, p, v, ρ, π, π1, hc, h, hp, e => by
    have hi : i ∉ W := by simpa [chkT] using hc
    unfold bindP at e
    split at e
    · cases e
      refine ⟨_, by unfold bindT; rw [if_pos (by rw [← h.len]; assumption)], h.set hi hp, fun j hj => ?_⟩
      have n1 : i ≠ j := fun e => hi (e ▸ hj)
      rw [List.getElem?_set_ne n1]
    · cases e
  | .tp ts, p, v, ρ, π, π1, hc, h, hp, e => by
    cases hp with
    | tup hp => exact binds_sim ts (by simpa [chkT] using hc) h hp e
    | _ => cases e
  | .nil, p, v, ρ, π, π1, hc, h, hp, e => by cases e
  | .cons _ _, p, v, ρ, π, π1, hc, h, hp, e => by cases e
theorem binds_sim : ∀ (t : T) {ps : List PV} {vs : List Val} {ρ : Env} {π π1 : PEnv}, chkT W t = true → EI W base st D B O ρ π → PRs st D B ps vs → bindPs t ps π = some π1 → ∃ ρ1, bindTs t vs ρ = some ρ1 ∧ EI W base st D B O ρ1 π1 ∧ ∀ j ∈ W, π1[j]? = π[j]?
  | .nil, ps, vs, ρ, π, π1, hc, h, hp, e => by
    cases hp with
    | nil => cases e; exact ⟨ρ, rfl, h, fun _ _ => rfl⟩
    | cons _ _ => cases e
  | .cons t ts, ps, vs, ρ, π, π1, hc, h, hp, e => by
    cases hp with
    | nil => cases e
    | cons hp hps =>
      simp only [chkT, Bool.and_eq_true] at hc
      simp only [bindPs, Option.bind_eq_some_iff] at e
      obtain ⟨π2, e1, e2⟩ := e
      obtain ⟨ρ2, a1, a2, a3⟩ := bind_sim t hc.1 h hp e1
      obtain ⟨ρ3, b1, b2, b3⟩ := binds_sim ts hc.2 a2 hps e2
      exact ⟨ρ3, by simp [bindTs, a1, b1], b2, fun j hj => (b3 j hj).trans (a3 j hj)⟩
  | .sl _, ps, vs, ρ, π, π1, hc, h, hp, e => by cases hp <;> cases e
  | .tp _, ps, vs, ρ, π, π1, hc, h, hp, e => by cases hp <;> cases e
end
theorem EI.wipe1 (h : EI W base st D B O ρ π) (i : Nat) : EI W base st D B O (ρ.set i none) (π.set i none) := by
  have hg : ∀ {j : Nat} {q : PV}, (π.set i none)[j]? = some (some q) → i ≠ j ∧ π[j]? = some (some q) := fun {j q} e => by
    by_cases ij : i = j
    · subst ij
      have hl : i < π.length := by have := lt_of_at e; simpa using this
      rw [List.getElem?_set_self hl] at e; cases e
    · exact ⟨ij, by rwa [List.getElem?_set_ne ij] at e⟩
  exact {
    own := fun j q hj hq => by
      obtain ⟨ne, hq⟩ := hg hq
      obtain ⟨ps, xs, e1, e2, e3⟩ := h.own j q hj hq
      exact ⟨ps, xs, e1, by rw [List.getElem?_set_ne ne]; exact e2, e3⟩
    inj := fun j k q s hj hk hq hs => h.inj j k q s hj hk (hg hq).2 (hg hs).2
    val := fun j q hj hq => by
      obtain ⟨ne, hq⟩ := hg hq
      obtain ⟨v, e1, e2⟩ := h.val j q hj hq
      exact ⟨v, by rw [List.getElem?_set_ne ne]; exact e1, e2⟩
    len := by simp [h.len]
    bD := h.bD
    bl := h.bl
    bs := h.bs }
/-- a slot is given up -/
theorem EI.drop (h : EI W base st D B O ρ π) (i : Nat) : EI W base st D B O ρ (π.set i none) := by
  have hg : ∀ {j : Nat} {q : PV}, (π.set i none)[j]? = some (some q) → i ≠ j ∧ π[j]? = some (some q) := fun {j q} e => by
    by_cases ij : i = j
    · subst ij
      have hl : i < π.length := by have := lt_of_at e; simpa using this
      rw [List.getElem?_set_self hl] at e; cases e
    · exact ⟨ij, by rwa [List.getElem?_set_ne ij] at e⟩
  exact {
    own := fun j q hj hq => h.own j q hj (hg hq).2
    inj := fun j k q s hj hk hq hs => h.inj j k q s hj hk (hg hq).2 (hg hs).2
    val := fun j q hj hq => h.val j q hj (hg hq).2
    len := by simp [h.len]
    bD := h.bD
    bl := h.bl
    bs := h.bs }
/-- a slot's own list goes to another slot -/
theorem EI.move (h : EI W base st D B O ρ π) {i j : Nat} {p : PV} (hi : i ∈ W) (hj : j ∈ W) (ij : i ≠ j) (hp : π[j]? = some (some p)) :
    EI W base st D B (fun k => if k = i then O j else O k) (ρ.set i (some (.ref (O j)))) ((π.set i (some p)).set j none) := by
  have hg : ∀ {k : Nat} {q : PV}, ((π.set i (some p)).set j none)[k]? = some (some q) → k ≠ j ∧ ((k = i ∧ q = p ∧ i < π.length) ∨ (k ≠ i ∧ π[k]? = some (some q))) := fun {k q} e => by
    by_cases kj : k = j
    · subst kj
      have hl : k < (π.set i (some p)).length := by have := lt_of_at e; simpa using this
      rw [List.getElem?_set_self hl] at e; cases e
    · rw [List.getElem?_set_ne (Ne.symm kj)] at e
      refine ⟨kj, ?_⟩
      by_cases ki : k = i
      · subst ki
        have hl : k < π.length := by have := lt_of_at e; simpa using this
        rw [List.getElem?_set_self hl] at e
        cases e
        exact .inl ⟨rfl, rfl, hl⟩
      · rw [List.getElem?_set_ne (Ne.symm ki)] at e
        exact .inr ⟨ki, e⟩
  exact {
    own := fun k q hk hq => by
      obtain ⟨kj, h1 | h1⟩ := hg hq
      · obtain ⟨rfl, rfl, hl⟩ := h1
        obtain ⟨ps, xs, e1, e2, e3⟩ := h.own j q hj hp
        refine ⟨ps, xs, e1, ?_, ?_⟩
        · simp only [if_true]; exact List.getElem?_set_self (by rw [← h.len]; exact hl)
        · simpa using e3
      · obtain ⟨ki, hq⟩ := h1
        obtain ⟨ps, xs, e1, e2, e3⟩ := h.own k q hk hq
        refine ⟨ps, xs, e1, ?_, ?_⟩
        · rw [List.getElem?_set_ne (Ne.symm ki)]; simp only [ki, if_false]; exact e2
        · simpa only [ki, if_false] using e3
    inj := fun k l q s hk hl hq hs e => by
      obtain ⟨kj, h1 | h1⟩ := hg hq
      · obtain ⟨ki, _, hl1⟩ := h1
        obtain ⟨lj, h2 | h2⟩ := hg hs
        · exact ki.trans h2.1.symm
        · obtain ⟨li, hs'⟩ := h2
          simp only [ki, if_true, li, if_false] at e
          exact absurd (h.inj j l p s hj hl hp hs' e).symm lj
      · obtain ⟨ki, hq'⟩ := h1
        obtain ⟨lj, h2 | h2⟩ := hg hs
        · obtain ⟨li, _, _⟩ := h2
          simp only [li, if_true, ki, if_false] at e
          exact absurd (h.inj k j q p hk hj hq' hp e) kj
        · obtain ⟨li, hs'⟩ := h2
          simp only [ki, li, if_false] at e
          exact h.inj k l _ _ hk hl hq' hs' e
    val := fun k q hk hq => by
      obtain ⟨kj, h1 | h1⟩ := hg hq
      · obtain ⟨rfl, _, _⟩ := h1; exact absurd hi hk
      · obtain ⟨ki, hq⟩ := h1
        obtain ⟨v, e1, e2⟩ := h.val k q hk hq
        exact ⟨v, by rw [List.getElem?_set_ne (Ne.symm ki)]; exact e1, e2⟩
    len := by simp [h.len]
    bD := h.bD
    bl := h.bl
    bs := h.bs }
theorem EI.wipe (h : EI W base st D B O ρ π) : ∀ l : List Nat, EI W base st D B O (wipeE ρ l) (wipeP π l)
  | [] => h
  | i :: l => (EI.wipe h l).wipe1 i
/-! ### trees: what holds of all their ends -/
def allT {α : Type} (P : α → Prop) : Tr α → Prop
  | .ret a => P a
  | .draw _ k => ∀ i, allT P (k i)
  | _ => True
theorem Sim.and {α β : Type} {R : α → β → Store → Prop} {P : α → Prop} : ∀ {t : Tr α} {r : Res β}, Sim R t r → allT P t → Sim (fun a b st => R a b st ∧ P a) t r
  | .ret a, r, h, g => by obtain ⟨b, st, rfl, h⟩ := h; exact ⟨b, st, rfl, h, g⟩
  | .exc _ _, _, _, _ => trivial
  | .bad, _, _, _ => trivial
  | .draw m j, r, h, g => fun h1 h2 => by
    obtain ⟨i, i0, i1, h⟩ := h h1 h2
    exact ⟨i, i0, i1, Sim.and h (g i)⟩
def isLst (p : PV) : Prop := ∃ ps, p = .lst ps
theorem allT_when {α : Type} {P : α → Prop} {b : Bool} {t : Tr α} (h : allT P t) : allT P (whenT b t) := by
  cases b with
  | false => trivial
  | true => exact h
theorem add_lst1 {ps : List PV} {q : PV} : allT isLst (p2 .add (.lst ps) q) := by
  cases q <;> first | trivial | exact allT_when ⟨_, rfl⟩
theorem add_lst2 {ps : List PV} {q : PV} : allT isLst (p2 .add q (.lst ps)) := by
  cases q <;> first | trivial | exact allT_when ⟨_, rfl⟩
theorem mul_lst {ps : List PV} {q : PV} : allT isLst (p2 .mul (.lst ps) q) := by
  cases q <;> first | trivial | exact allT_when ⟨_, rfl⟩
theorem psl_lst {ps : List PV} {lo hi : Option Int} : allT isLst (psl (.lst ps) lo hi) := ⟨_, rfl⟩
theorem op1_lst {o : O1} (ho : o = .list ∨ o = .sorted ∨ o = .rev) : allT isLst (p1 o p) := by
  rcases ho with rfl | rfl | rfl
  · cases p <;> first | trivial | exact ⟨_, rfl⟩
  · cases p <;> first | trivial | skip
    simp only [p1, seqP]
    refine allT_when ?_
    split
    · exact ⟨_, rfl⟩
    · split
      · exact ⟨_, rfl⟩
      · exact allT_when ⟨_, rfl⟩
  · cases p <;> first | trivial | exact ⟨_, rfl⟩
/-! ### expressions -/
/-- the post of an expression -/
structure PE (W : List Nat) (ok : Nat → Obj → Obj → Prop) (st : Store) (D : DD) (B : Nat → Prop) (O : Nat → Nat) (π : PEnv) (b : Bool) (k : Nat) (p : PV) (r : RV) (st' : Store) : Prop where
  wv : WV W O π st' D B b p r
  ext : Ext D st st'
  dk : DK ok D st'
  ls : 1 ≤ k → isLst p
  fr : k = 2 → ∃ xs, r = .l xs
structure PEs (W : List Nat) (ok : Nat → Obj → Obj → Prop) (st : Store) (D : DD) (B : Nat → Prop) (O : Nat → Nat) (π : PEnv) (b : Bool) (p : List PV) (r : List RV) (st' : Store) : Prop where
  wv : WVs W O π st' D B b p r
  ext : Ext D st st'
  dk : DK ok D st'
theorem PE.of (h : RS st' D B p r) (e : Ext D st st') (d : DK ok D st') : PE W ok st D B O π b 0 p r st' := ⟨.inl h, e, d, fun z => by omega, fun z => by omega⟩
theorem PE.bas {b : Bool} (h : RS st' D B p r) (e : Ext D st st') (d : DK ok D st') {k : Nat} (hk : k = 0) : PE W ok st D B O π b k p r st' := ⟨.inl h, e, d, fun z => by omega, fun z => by omega⟩
theorem PE.basV {b : Bool} {v : Val} (h : PR st' D B p v) (e : Ext D st st') (d : DK ok D st') {k : Nat} (hk : k = 0) : PE W ok st D B O π b k p (.v v) st' := PE.bas (r := .v v) h e d hk
theorem RSs.prs_tup (hd : DK ok D st) (hD : ∀ n, inD D n → B n) (hb : ∀ n, B n → n < st.length) {ps : List PV} {rs : List RV} (h : RSs st D B ps rs) : PRs (settles rs st).2 D B ps (settles rs st).1 := (settles_sim h hd hD hb).1
theorem dic_sim : ∀ {ps : List PV} {vs : List Val} {l : List PV × List PV}, PRs st D B ps vs → dicP ps = some l → ∃ kvs, dicOf false vs = some kvs ∧ PRs st D B l.1 (kvs.map Prod.fst) ∧ PRs st D B l.2 (kvs.map Prod.snd)
  | [], vs, l, h, e => by cases h; cases e; exact ⟨[], rfl, .nil, .nil⟩
  | [_], vs, l, h, e => by cases e
  | k :: v :: ps, vs, l, h, e => by
    cases h with
    | @cons _ _ kv _ h1 h2 =>
      cases h2 with
      | @cons _ _ vv _ h2 h3 =>
        unfold dicP at e
        split at e
        · rename_i hk
          simp only [Option.map_eq_some_iff] at e
          obtain ⟨l', e1, rfl⟩ := e
          obtain ⟨kvs, a1, a2, a3⟩ := dic_sim h3 e1
          refine ⟨(kv, vv) :: kvs, ?_, .cons h1 a2, .cons h2 a3⟩
          unfold dicOf
          have : keyOk false kv = true := by cases h1 <;> first | rfl | cases hk
          rw [this, if_pos rfl, a1]; rfl
        · cases e
theorem key_of {k : PV} (h : keyP k = true) {v : Val} (g : PR st D B k v) : keyOk false v = true := by cases g <;> first | rfl | cases h
/-- keys that are written down, all unlike -/
theorem merge_id : ∀ {ks : List PV} {more acc : List (Val × Val)}, (∀ k ∈ ks, keyP k = true) → PRs st D B ks (more.map Prod.fst) → nodupP ks = true → (∀ a ∈ acc, ∀ k ∈ more, (a.1 == k.1) = false) → mergeD acc more = acc ++ more
  | [], more, acc, _, h, _, _ => by
    cases more with
    | nil => simp [mergeD]
    | cons _ _ => cases h
  | k :: ks, more, acc, hk, h, hn, ha => by
    cases more with
    | nil => cases h
    | cons m more =>
      cases h with
      | cons h1 h2 =>
        simp only [nodupP, Bool.and_eq_true, Bool.not_eq_true'] at hn
        have e1 : kput acc m.1 m.2 = acc ++ [m] := by
          unfold kput
          rw [if_neg]
          rw [Bool.not_eq_true, List.any_eq_false]
          intro a hm
          simp [ha a hm m List.mem_cons_self]
        have hd : ∀ a ∈ more, (m.1 == a.1) = false := by
          intro a hm
          have hp : ∀ {js : List PV} {l : List (Val × Val)}, PRs st D B js (l.map Prod.fst) → ∀ a ∈ l, ∃ j ∈ js, PR st D B j a.1 := by
            intro js l
            induction l generalizing js with
            | nil => intro _ a h; cases h
            | cons x l ih =>
              intro h a hm
              cases h with
              | cons g1 g2 =>
                rcases List.mem_cons.mp hm with rfl | hm
                · exact ⟨_, List.mem_cons_self, g1⟩
                · obtain ⟨j, hj, g⟩ := ih g2 a hm
                  exact ⟨j, List.mem_cons_of_mem _ hj, g⟩
          obtain ⟨j, hj, g⟩ := hp h2 a hm
          have := List.any_eq_false.mp hn.1 j hj
          have e2 := key_eq g h1 (hk k List.mem_cons_self)
          have e3 : (a.1 == m.1) = false := by rw [← e2]; simpa using this
          exact Bool.eq_false_iff.mpr fun z => by
            have z' : a.1 = m.1 := (eq_of_beq z).symm
            rw [z'] at e3
            simp at e3
        show mergeD (kput acc m.1 m.2) more = _
        rw [e1, merge_id (fun k h => hk k (List.mem_cons_of_mem _ h)) h2 hn.2 (acc := acc ++ [m]) ?_]
        · simp
        · intro a h k hm
          rcases List.mem_append.mp h with h | h
          · exact ha a h k (List.mem_cons_of_mem _ hm)
          · rw [List.mem_singleton.mp h]; exact hd k hm
theorem dicP_keys : ∀ {ps : List PV} {l : List PV × List PV}, dicP ps = some l → ∀ k ∈ l.1, keyP k = true
  | [], l, e => by cases e; intro k h; cases h
  | [_], l, e => by cases e
  | k :: v :: ps, l, e => by
    unfold dicP at e
    split at e
    · rename_i hk
      simp only [Option.map_eq_some_iff] at e
      obtain ⟨l', e1, rfl⟩ := e
      intro j hj
      rcases List.mem_cons.mp hj with rfl | hj
      · exact hk
      · exact dicP_keys e1 j hj
    · cases e
end
end Mi
end
section
set_option linter.all false
set_option autoImplicit false
/-! PvSim2: expressions. -/
namespace Mi
section
variable {W : List Nat} {base : Nat} {D : DD} {B : Nat → Prop} {O : Nat → Nat} {F : List Bool} {ok : Nat → Obj → Obj → Prop} {ps : List PFn} {cs : List Fn}
theorem comp_sim {tg : T} {c : PEnv → Tr Bool} {f : PEnv → Tr PV} {c' : Env → Store → Res Bool} {f' : Env → Store → Res RV} {ρ : Env} {π : PEnv} {w : List (Nat × List Val)} (ht : chkT W tg = true) (hw : ∀ m ∈ w, ¬ inD D m.1)
    (hc : ∀ (π1 : PEnv) (ρ1 : Env) (st : Store), EI W base st D B O ρ1 π1 → DK ok D st → Sim (fun b b' st' => b = b' ∧ Ext D st st' ∧ DK ok D st') (c π1) (c' ρ1 st))
    (hf : ∀ (π1 : PEnv) (ρ1 : Env) (st : Store), EI W base st D B O ρ1 π1 → DK ok D st → Sim (fun p r st' => RS st' D B p r ∧ Ext D st st' ∧ DK ok D st') (f π1) (f' ρ1 st)) :
    ∀ {qs : List PV} {xs : List Val} {acc : List PV} {accV : List Val} {st : Store}, PRs st D B qs xs → PRs st D B acc accV → EI W base st D B O ρ π → DK ok D st → stands w st = true →
      Sim (fun l l' st' => PRs st' D B l l' ∧ Ext D st st' ∧ DK ok D st') (compP tg c f π qs acc) (compLoop w tg c' f' ρ xs accV st) := by
  have keep : ∀ {st st' : Store}, Ext D st st' → stands w st = true → stands w st' = true := by
    intro st st' e h
    unfold stands at h ⊢
    rw [List.all_eq_true] at h ⊢
    intro m hm
    have := h m hm
    rw [beq_iff_eq] at this ⊢
    unfold lstAt at this ⊢
    cases hh : st[m.1]? with
    | none => rw [hh] at this; cases this
    | some o => rw [e.same m.1 (lt_of_at hh) (hw m hm), ← this, hh]
  intro qs
  induction qs with
  | nil =>
    intro xs acc accV st h ha he hd hs
    cases h
    unfold compLoop
    rw [if_pos hs]
    exact sim_ret ⟨ha, .refl, hd⟩
  | cons q qs ih =>
    intro xs acc accV st h ha he hd hs
    cases h with
    | cons h1 h2 =>
      unfold compLoop compP
      rw [if_pos hs]
      cases hb : bindP tg q π with
      | none => trivial
      | some π1 =>
        obtain ⟨ρ1, e1, e2, _⟩ := bind_sim tg ht he h1 hb
        rw [e1]
        show Sim _ ((c π1).bind _) _
        refine Sim.bind (hc π1 ρ1 st e2 hd) ?_
        rintro b b' st1 ⟨rfl, x1, d1⟩
        cases b with
        | false =>
          simp only [Bool.false_eq_true, if_false]
          refine (ih (h2.mono (he.hs x1) (fun _ b _ => b)) (ha.mono (he.hs x1) (fun _ b _ => b)) (he.ext x1) d1 (keep x1 hs)).imp ?_
          rintro l l' st2 ⟨g1, g2, g3⟩
          exact ⟨g1, x1.trans g2, g3⟩
        | true =>
          simp only [if_true]
          refine Sim.bind (hf π1 ρ1 st1 (e2.ext x1) d1) ?_
          rintro p r st2 ⟨g1, x2, d2⟩
          refine Sim.when fun hl => ?_
          have hl' : accV.length < top := by rw [← ha.len]; exact of_decide_eq_true hl
          rw [if_pos hl']
          have x12 := x1.trans x2
          obtain ⟨s1, s2, s3⟩ := settle_sim g1 d2 (he.ext x12).bl
          have x := x12.trans s2
          refine (ih (h2.mono (he.hs x) (fun _ b _ => b)) ((ha.mono (he.hs x) (fun _ b _ => b)).app (.cons s1 .nil)) (he.ext x) s3 (keep x hs)).imp ?_
          rintro l l' st3 ⟨g1, g2, g3⟩
          exact ⟨g1, x.trans g2, g3⟩
theorem pure_sim {p : PFn} {f : Fn} (h : SimF ok p f) {st : Store} {qs : List PV} {rs : List RV} (hr : RSs st D B qs rs) (hd : DK ok D st) (hn : PV.nrs qs = true) :
    Sim (fun q r st' => RS st' D B q r ∧ Ext D st st' ∧ DK ok D st') ((p qs).bind fun r => match r with
        | .lst xs => whenT (PV.nrs xs) (.ret (.lst xs))
        | r => whenT r.nr (.ret r)) (pureCall f rs st) := by
  have key : ∀ {qs : List PV} {rs : List RV}, RSs st D B qs rs → PV.nrs qs = true → rs.all nrR = true ∧ (settles rs []).2 = [] ∧ PRs [] none (fun _ => False) qs (settles rs []).1 := by
    intro qs
    induction qs with
    | nil => intro rs h _; cases rs with
      | nil => exact ⟨rfl, rfl, .nil⟩
      | cons _ _ => exact h.elim
    | cons q qs ih =>
      intro rs h hn
      cases rs with
      | nil => exact h.elim
      | cons r rs =>
        simp only [PV.nrs, Bool.and_eq_true] at hn
        obtain ⟨a1, a2, a3⟩ := ih h.2 hn.2
        cases r with
        | l xs => obtain ⟨ps, rfl, _⟩ := h.1; cases hn.1
        | v v =>
          obtain ⟨n1, n2⟩ := PR.nr h.1 hn.1
          refine ⟨by simp only [List.all_cons, nrR, n1, a1, Bool.and_self], ?_, ?_⟩
          · simp only [settles, settle]; exact a2
          · simp only [settles, settle]; exact .cons (n2 _ _ _) a3
  obtain ⟨k1, k2, k3⟩ := key hr hn
  unfold pureCall
  rw [if_pos k1, k2]
  have hs := h none [] (fun _ => False) qs (settles rs []).1 (fun d l e => by cases e) (fun n z => by obtain ⟨_, _, e, _⟩ := z; cases e) (fun n z => z.elim) k3
  have e : ∀ z : Res RV, pureRes st z = pureRes st (z.bind fun r st' => .ok r st') := fun z => by cases z <;> rfl
  generalize f (settles rs []).1 [] = z at hs
  clear k3
  revert hs
  generalize p qs = t
  intro hs
  induction t with
  | ret q =>
    obtain ⟨r, st1, rfl, g1, _, _⟩ := hs
    show Sim _ (match q with | .lst xs => whenT (PV.nrs xs) (.ret (.lst xs)) | r => whenT r.nr (.ret r)) _
    have flat : ∀ v, r = .v v → q.nr = true → Sim (fun q r st' => RS st' D B q r ∧ Ext D st st' ∧ DK ok D st') (.ret q) (pureRes st (.ok r st1)) := by
      rintro v rfl hq
      obtain ⟨n1, n2⟩ := PR.nr g1 hq
      have : pureRes st (.ok (.v v) st1) = .ok (.v v) st := by
        simp only [pureRes]
        cases v <;> first | (simp only [pureVal, n1, if_true]; done) | cases n1
      rw [this]
      exact sim_ret ⟨n2 _ _ _, .refl, hd⟩
    have hv : isVP q = true → ∃ v, r = .v v := fun hq => by
      cases r with
      | v v => exact ⟨v, rfl⟩
      | l xs => obtain ⟨ps, rfl, _⟩ := g1; cases hq
    cases q with
    | lst xs =>
      refine Sim.when fun hx => ?_
      cases r with
      | v v =>
        cases g1 with
        | @lst n _ ys _ e1 g2 =>
          obtain ⟨n1, n2⟩ := PRs.nr g2 hx
          simp only [pureRes, pureVal, e1, n1, if_true]
          exact sim_ret ⟨⟨_, rfl, n2 _ _ _⟩, .refl, hd⟩
      | l ys =>
        obtain ⟨qs', e, g2⟩ := g1
        cases e
        obtain ⟨n1, n2⟩ := PRs.nr g2 hx
        simp only [pureRes, n1, if_true]
        exact sim_ret ⟨⟨_, rfl, n2 _ _ _⟩, .refl, hd⟩
    | non => obtain ⟨v, e⟩ := hv rfl; exact Sim.when fun hq => flat v e hq
    | bl _ => obtain ⟨v, e⟩ := hv rfl; exact Sim.when fun hq => flat v e hq
    | int _ => obtain ⟨v, e⟩ := hv rfl; exact Sim.when fun hq => flat v e hq
    | str _ => obtain ⟨v, e⟩ := hv rfl; exact Sim.when fun hq => flat v e hq
    | tup _ => obtain ⟨v, e⟩ := hv rfl; exact Sim.when fun hq => flat v e hq
    | dic _ _ => exact Sim.when fun hq => by cases hq
    | deck => exact Sim.when fun hq => by cases hq
  | exc _ _ => trivial
  | bad => trivial
  | draw m k ih =>
    intro h1 h2
    obtain ⟨i, i0, i1, g⟩ := hs h1 h2
    exact ⟨i, i0, i1, ih i g⟩
theorem pre2_t {o : O2} (ho : o ≠ .index ∧ o ≠ .count ∧ o ≠ .append ∧ o ≠ .extend ∧ o ≠ .popAt) (r : RV) (st : Store) : pre2 o r st = true := by
  cases o <;> first | rfl | (exfalso; simp at ho)
theorem Tr.bind_bad {α β : Type} : ∀ (t : Tr α), Sim (fun (_ : β) (_ : RV) (_ : Store) => False) (t.bind fun _ => Tr.bad) (.bad)
  | .ret _ => trivial
  | .exc _ _ => trivial
  | .bad => trivial
  | .draw m k => fun h1 h2 => ⟨0, Int.le_refl _, by omega, Tr.bind_bad (k 0)⟩
/-- nothing is claimed where all ends are bad -/
theorem sim_bads {α β γ : Type} {R : β → γ → Store → Prop} {f : α → Tr β} (hf : ∀ a, f a = .bad) : ∀ (t : Tr α) (r : Res γ), Sim R (t.bind f) r
  | .ret a, r => by show Sim R (f a) r; rw [hf]; trivial
  | .exc _ _, _ => trivial
  | .bad, _ => trivial
  | .draw m k, r => fun h1 h2 => ⟨0, Int.le_refl _, by omega, sim_bads hf (k 0) r⟩
mutual
theorem ev_sim (hcs : CsR ok F ps cs) : ∀ (e : E) {st : Store} {ρ : Env} {π : PEnv}, chkE W F e = true → EI W base st D B O ρ π → DK ok D st → Sim (PE W ok st D B O π (escs W e) (kd W e)) (pev ps e π) (ev cs e ρ st)
  | .k v, st, ρ, π, hc, he, hd => Sim.when fun hv => sim_ret (PE.of (PR.of_v v hv) .refl hd)
  | .g nm v, st, ρ, π, hc, he, hd => Sim.when fun hv => sim_ret (PE.of (PR.of_v v hv) .refl hd)
  | .nil, st, ρ, π, hc, he, hd => trivial
  | .cons _ _, st, ρ, π, hc, he, hd => trivial
  | .op3 _ _ _ _, st, ρ, π, hc, he, hd => trivial
  | .x i, st, ρ, π, hc, he, hd => by
    refine Sim.lift fun p e => ?_
    have e' : π[i]? = some (some p) := by
      cases h : π[i]? with
      | none => rw [h] at e; cases e
      | some o => rw [h] at e; simp only [Option.bind_some, id] at e; rw [e]
    by_cases hi : i ∈ W
    · have hi' : W.contains i = true := by simpa using hi
      obtain ⟨qs, xs, e1, e2, e3, e4, e5, e6, e7⟩ := he.own i p hi e'
      refine ⟨.v (.ref (O i)), st, by simp only [ev, e2], .inr ⟨hi', i, hi, e', rfl⟩, .refl, hd, fun _ => ⟨qs, e1⟩, fun z => ?_⟩
      simp only [kd, hi', if_true] at z
      omega
    · have hi' : W.contains i = false := by simpa using hi
      obtain ⟨v, e1, e2⟩ := he.val i p hi e'
      exact ⟨.v v, st, by simp only [ev, e1], PE.basV e2 .refl hd (by simp only [kd, hi']; rfl)⟩
  | .tup es, st, ρ, π, hc, he, hd => by
    simp only [chkE, Bool.and_eq_true, Bool.not_eq_true'] at hc
    simp only [pev, ev]
    refine Sim.bind (evs_sim hcs es hc.1 he hd) fun qs rs st1 h => ?_
    have hr := (hc.2 ▸ h.wv).strict
    refine Sim.when fun hl => ?_
    rw [hr.length] at hl
    rw [if_pos (of_decide_eq_true hl)]
    have he1 := he.ext h.ext
    obtain ⟨a1, a2, a3⟩ := settles_sim hr h.dk he1.bD he1.bl
    exact sim_ret (PE.of (.tup a1) (h.ext.trans a2) a3)
  | .lst es, st, ρ, π, hc, he, hd => by
    simp only [chkE, Bool.and_eq_true, Bool.not_eq_true'] at hc
    simp only [pev, ev]
    refine Sim.bind (evs_sim hcs es hc.1 he hd) fun qs rs st1 h => ?_
    have hr := (hc.2 ▸ h.wv).strict
    refine Sim.when fun hl => ?_
    rw [hr.length] at hl
    rw [if_pos (of_decide_eq_true hl)]
    have he1 := he.ext h.ext
    obtain ⟨a1, a2, a3⟩ := settles_sim hr h.dk he1.bD he1.bl
    exact sim_ret ⟨.inl ⟨_, rfl, a1⟩, h.ext.trans a2, a3, fun _ => ⟨_, rfl⟩, fun _ => ⟨_, rfl⟩⟩
  | .dic t es, st, ρ, π, hc, he, hd => by
    simp only [chkE, Bool.and_eq_true, Bool.not_eq_true'] at hc
    simp only [pev, ev]
    refine Sim.bind (evs_sim hcs es hc.1 he hd) fun qs rs st1 h => ?_
    have hr := (hc.2 ▸ h.wv).strict
    have he1 := he.ext h.ext
    obtain ⟨a1, a2, a3⟩ := settles_sim hr h.dk he1.bD he1.bl
    cases hdic : dicP qs with
    | none => trivial
    | some l =>
      show Sim _ (whenT _ _) _
      refine Sim.when fun hx => ?_
      simp only [Bool.and_eq_true, Bool.not_eq_true', decide_eq_true_eq] at hx
      obtain ⟨⟨rfl, hn⟩, hl⟩ := hx
      obtain ⟨kvs, b1, b2, b3⟩ := dic_sim a1 hdic
      have hlen : l.1.length = kvs.length := by simpa using b2.len
      simp only [b1]
      rw [if_pos ⟨by omega, .inl trivial⟩, merge_id (acc := []) (dicP_keys hdic) b2 hn (fun a h => nomatch h)]
      have x2 : Ext D st1 ((settles rs st1).2 ++ [Mi.Obj.dic false ([] ++ kvs)]) := a2.trans (.app _)
      have x3 := h.ext.trans x2
      have hm : ∀ n, ¬ B n → n < (settles rs st1).2.length → ((settles rs st1).2 ++ [Mi.Obj.dic false ([] ++ kvs)])[n]? = (settles rs st1).2[n]? := fun n _ hl => List.getElem?_append_left hl
      refine sim_ret (PE.of (.dic (n := (settles rs st1).2.length) (kvs := kvs) (fun z => Nat.lt_irrefl _ ((he1.ext a2).bl _ z)) ?_ (b2.mono hm fun _ b _ => b) (b3.mono hm fun _ b _ => b)) x3 (a3.app _))
      rw [List.getElem?_concat_length]; rfl
  | .op1 o a, st, ρ, π, hc, he, hd => by
    simp only [chkE] at hc
    simp only [pev, ev]
    refine Sim.bind (ev_sim hcs a hc he hd) fun p r st1 h => ?_
    have hw := h.wv.rw (he.ext h.ext)
    by_cases ho : o = .list ∨ o = .sorted ∨ o = .rev
    · refine ((p1_sim o hw).and (op1_lst ho)).imp ?_
      rintro q s st2 ⟨⟨rfl, g1, g2⟩, g3⟩
      exact ⟨.inl g1, h.ext, h.dk, fun _ => g3, fun _ => by obtain ⟨ps, e⟩ := g3; exact g2 ps e⟩
    · refine (p1_sim o hw).imp ?_
      rintro q s st2 ⟨rfl, g1, g2⟩
      exact PE.bas g1 h.ext h.dk (by cases o <;> first | rfl | (exfalso; simp at ho))
  | .op2 o a b, st, ρ, π, hc, he, hd => by
    simp only [chkE, Bool.and_eq_true] at hc
    simp only [pev, ev]
    refine Sim.bind (ev_sim hcs a hc.1 he hd) fun p r st1 h => ?_
    have he1 := he.ext h.ext
    have hpre : pre2 o r st1 = true ∨ ∀ q, p2 o p q = .bad := by
      by_cases hq : ∃ q, p2 o p q ≠ .bad
      · obtain ⟨q, hq⟩ := hq; exact .inl (pre2_sim (h.wv.rw he1) hq)
      · exact .inr fun q => Classical.not_not.mp fun z => hq ⟨q, z⟩
    rcases hpre with hpre | hbad
    · rw [if_pos hpre]
      refine Sim.bind (ev_sim hcs b hc.2 he1 h.dk) fun q s st2 g => ?_
      have he2 := he1.ext g.ext
      have hw := (h.wv.ext he1 g.ext).rw he2
      have gw := g.wv.rw he2
      have x := h.ext.trans g.ext
      by_cases hl : o ≠ .ix ∧ kd W (.op2 o a b) ≠ 0
      · have hlst : allT isLst (p2 o p q) := by
          cases o <;> first | (exfalso; exact hl.2 rfl) | skip
          · have : ¬ (kd W a = 0 ∧ kd W b = 0) := fun z => hl.2 (by simp only [kd]; rw [if_pos z])
            by_cases ha : kd W a = 0
            · obtain ⟨l, rfl⟩ := g.ls (by have : kd W b ≠ 0 := fun z => this ⟨ha, z⟩; omega)
              exact add_lst2
            · obtain ⟨l, rfl⟩ := h.ls (by omega)
              exact add_lst1
          · have : kd W a ≠ 0 := fun z => hl.2 (by simp only [kd]; rw [if_pos z])
            obtain ⟨l, rfl⟩ := h.ls (by omega)
            exact mul_lst
        refine ((p2_sim o hw gw).and hlst).imp ?_
        rintro z u st3 ⟨⟨rfl, g1, g2⟩, g3⟩
        exact ⟨.inl g1, x, g.dk, fun _ => g3, fun _ => by obtain ⟨l, e⟩ := g3; exact g2 hl.1 l e⟩
      · have hk : kd W (.op2 o a b) = 0 := by
          by_cases ho : o = .ix
          · subst ho; rfl
          · exact Classical.not_not.mp fun z => hl ⟨ho, z⟩
        refine (p2_sim o hw gw).imp ?_
        rintro z u st3 ⟨rfl, g1, g2⟩
        exact PE.bas g1 x g.dk hk
    · exact sim_bads hbad _ _
  | .sl a lo hi, st, ρ, π, hc, he, hd => by
    simp only [chkE, Bool.and_eq_true] at hc
    simp only [pev, ev]
    have hopt : ∀ (e : E) (no : Bool) {st : Store} {ρ : Env}, chkE W F e = true → EI W base st D B O ρ π → DK ok D st → (no = true ∨ Sim (PE W ok st D B O π (escs W e) (kd W e)) (pev ps e π) (ev cs e ρ st)) → Sim (fun i j st' => i = j ∧ Ext D st st' ∧ DK ok D st') (optIP no (pev ps e π)) (optI no (ev cs e ρ) st) := by
      intro e no st ρ h1 h2 h3 h4
      cases no with
      | true => exact sim_ret ⟨rfl, .refl, h3⟩
      | false =>
        simp only [optIP, optI, Bool.false_eq_true, if_false]
        rcases h4 with h4 | h4
        · cases h4
        · refine Sim.bind h4 fun p r st1 h => ?_
          cases p <;> first | trivial | skip
          cases (h.wv.rw (h2.ext h.ext)).int
          exact sim_ret ⟨rfl, h.ext, h.dk⟩
    refine Sim.bind (ev_sim hcs a hc.1.1 he hd) fun p r st1 h => ?_
    have he1 := he.ext h.ext
    refine Sim.bind (hopt lo _ hc.1.2 he1 h.dk (.inr (ev_sim hcs lo hc.1.2 he1 h.dk))) ?_
    rintro i j st2 ⟨rfl, x2, d2⟩
    have he2 := he1.ext x2
    refine Sim.bind (hopt hi _ hc.2 he2 d2 (.inr (ev_sim hcs hi hc.2 he2 d2))) ?_
    rintro i' j' st3 ⟨rfl, x3, d3⟩
    have he3 := he2.ext x3
    have hw := ((h.wv.ext he1 x2).ext he2 x3).rw he3
    have x := (h.ext.trans x2).trans x3
    by_cases hk : kd W a = 0
    · refine (psl_sim hw).imp ?_
      rintro z u st4 ⟨rfl, g1, g2⟩
      exact PE.bas g1 x d3 (by simp only [kd]; rw [if_pos hk])
    · obtain ⟨l, rfl⟩ := h.ls (by omega)
      refine ((psl_sim hw).and psl_lst).imp ?_
      rintro z u st4 ⟨⟨rfl, g1, g2⟩, g3⟩
      exact ⟨.inl g1, x, d3, fun _ => g3, fun _ => by obtain ⟨l, e⟩ := g3; exact g2 l e⟩
  | .and a b, st, ρ, π, hc, he, hd => by
    simp only [chkE, Bool.and_eq_true] at hc
    simp only [pev, ev]
    refine Sim.bind (ev_sim hcs a hc.1 he hd) fun p r st1 h => ?_
    cases p <;> first | trivial | skip
    rename_i k
    have he1 := he.ext h.ext
    cases (h.wv.rw he1).bl
    cases k with
    | true =>
      refine (ev_sim hcs b hc.2 he1 h.dk).imp fun q s st2 g => ?_
      exact ⟨g.wv, h.ext.trans g.ext, g.dk, fun z => by simp only [kd] at z; omega, fun z => by simp only [kd] at z; omega⟩
    | false => exact sim_ret (PE.basV (.bl _) h.ext h.dk rfl)
  | .or a b, st, ρ, π, hc, he, hd => by
    simp only [chkE, Bool.and_eq_true] at hc
    simp only [pev, ev]
    refine Sim.bind (ev_sim hcs a hc.1 he hd) fun p r st1 h => ?_
    cases p <;> first | trivial | skip
    rename_i k
    have he1 := he.ext h.ext
    cases (h.wv.rw he1).bl
    cases k with
    | false =>
      refine (ev_sim hcs b hc.2 he1 h.dk).imp fun q s st2 g => ?_
      exact ⟨g.wv, h.ext.trans g.ext, g.dk, fun z => by simp only [kd] at z; omega, fun z => by simp only [kd] at z; omega⟩
    | true => exact sim_ret (PE.basV (.bl _) h.ext h.dk rfl)
  | .not a, st, ρ, π, hc, he, hd => by
    simp only [chkE] at hc
    simp only [pev, ev]
    refine Sim.bind (ev_sim hcs a hc he hd) fun p r st1 h => ?_
    have hw := h.wv.rw (he.ext h.ext)
    unfold truthT truthR
    cases ht : truthP p with
    | none => trivial
    | some k =>
      rw [hw.truth ht]
      exact sim_ret (PE.basV (.bl _) h.ext h.dk rfl)
  | .ite c a b, st, ρ, π, hc, he, hd => by
    simp only [chkE, Bool.and_eq_true] at hc
    simp only [pev, ev]
    refine Sim.bind (ev_sim hcs c hc.1.1 he hd) fun p r st1 h => ?_
    have he1 := he.ext h.ext
    have hw := h.wv.rw he1
    unfold truthT truthR
    cases ht : truthP p with
    | none => trivial
    | some k =>
      rw [hw.truth ht]
      cases k with
      | true =>
        refine (ev_sim hcs a hc.1.2 he1 h.dk).imp fun q s st2 g => ?_
        exact ⟨g.wv.mono fun z => by simp [escs, z], h.ext.trans g.ext, g.dk, fun z => g.ls (by simp only [kd] at z; omega), fun z => by
          simp only [kd] at z
          by_cases h2 : kd W a = 2
          · exact g.fr h2
          · exfalso
            have := kd_le W a; have := kd_le W b; omega⟩
      | false =>
        refine (ev_sim hcs b hc.2 he1 h.dk).imp fun q s st2 g => ?_
        exact ⟨g.wv.mono fun z => by simp [escs, z], h.ext.trans g.ext, g.dk, fun z => g.ls (by simp only [kd] at z; omega), fun z => by
          simp only [kd] at z
          by_cases h2 : kd W b = 2
          · exact g.fr h2
          · exfalso
            have := kd_le W a; have := kd_le W b; omega⟩
  | .chain o p a b c, st, ρ, π, hc, he, hd => by
    simp only [chkE, Bool.and_eq_true] at hc
    simp only [pev, ev]
    refine Sim.bind (ev_sim hcs a hc.1.1 he hd) fun x r st1 h => ?_
    have he1 := he.ext h.ext
    refine Sim.bind (ev_sim hcs b hc.1.2 he1 h.dk) fun y s st2 g => ?_
    have he2 := he1.ext g.ext
    have hw := (h.wv.ext he1 g.ext).rw he2
    have gw := g.wv.rw he2
    refine Sim.when fun hv => ?_
    simp only [Bool.and_eq_true] at hv
    obtain ⟨v, rfl, _⟩ := hw.notl hv.1
    obtain ⟨w, rfl, _⟩ := gw.notl hv.2
    simp only [isV, Bool.and_self, if_true]
    refine Sim.bind (p2_sim o hw gw) ?_
    rintro z u st3 ⟨rfl, g1, g2⟩
    cases z <;> first | trivial | skip
    rename_i k
    cases (RS.w (A := fun _ => True) g1).bl
    cases k with
    | true =>
      refine Sim.bind (ev_sim hcs c hc.2 he2 g.dk) fun y' s' st4 g' => ?_
      have he4 := he2.ext g'.ext
      refine (p2_sim p ((g.wv.ext he2 g'.ext).rw he4) (g'.wv.rw he4)).imp ?_
      rintro z u st5 ⟨rfl, g1, g2⟩
      exact PE.bas g1 ((h.ext.trans g.ext).trans g'.ext) g'.dk rfl
    | false => exact sim_ret (PE.basV (.bl _) (h.ext.trans g.ext) g.dk rfl)
  | .call m j kw es, st, ρ, π, hc, he, hd => by
    simp only [chkE, Bool.and_eq_true, Bool.or_eq_true, Bool.not_eq_true'] at hc
    simp only [pev, ev]
    refine Sim.bind (evs_sim hcs es hc.1 he hd) fun qs rs st1 h => ?_
    have he1 := he.ext h.ext
    cases hj : ps[j]? with
    | none => trivial
    | some p =>
      obtain ⟨f, e1, e2, e3⟩ := hcs j p hj
      simp only [e1]
      cases m with
      | true =>
        simp only [if_true]
        refine Sim.when fun hn => ?_
        have hr : RSs st1 D B qs rs := by
          have : ∀ {qs : List PV} {rs : List RV}, WVs W O π st1 D B (escs W es) qs rs → PV.nrs qs = true → RSs st1 D B qs rs := by
            intro qs
            induction qs with
            | nil => intro rs h _; cases rs with
              | nil => trivial
              | cons _ _ => exact h.elim
            | cons q qs ih =>
              intro rs h hn
              cases rs with
              | nil => exact h.elim
              | cons r rs =>
                simp only [PV.nrs, Bool.and_eq_true] at hn
                refine ⟨?_, ih h.2 hn.2⟩
                rcases h.1 with h | ⟨_, i, hi, hp, rfl⟩
                · exact h
                · obtain ⟨l, xs, rfl, _⟩ := he1.own i q hi hp
                  cases hn.1
          exact this h.wv hn
        have hn' : PV.nrs (permP kw qs) = true := by
          have all : ∀ {l : List PV}, PV.nrs l = true ↔ ∀ x ∈ l, x.nr = true := by
            intro l
            induction l with
            | nil => simp [PV.nrs]
            | cons x l ih => simp [PV.nrs, ih]
          rw [all] at hn ⊢
          intro x hx
          cases kw with
          | nil => exact hn x hx
          | cons k kw =>
            obtain ⟨i, _, hi⟩ := List.mem_filterMap.mp hx
            exact hn x (List.mem_of_getElem? hi)
        refine (pure_sim e2 (perm_sim hr kw) h.dk hn').imp ?_
        rintro q r st2 ⟨g1, g2, g3⟩
        exact PE.bas g1 (h.ext.trans g2) g3 rfl
      | false =>
        simp only [Bool.false_eq_true, if_false]
        by_cases hb : escs W es = true
        · have hF : F.getD j false = true := by
            rcases hc.2 with z | z
            · rw [hb] at z; cases z
            · exact z
          have hr := perm_sim (h.wv.weak he1) kw
          have hbl : ∀ n, inD D n → n < st1.length := fun n z => he1.bl n (he1.bD n z)
          obtain ⟨a1, a2, a3⟩ := settles_sim hr h.dk (fun _ z => z) hbl
          refine (e3 hF D _ _ _ _ a3 (fun _ z => z) (fun n z => Nat.lt_of_lt_of_le (hbl n z) a2.len) a1).imp ?_
          rintro q r st2 ⟨⟨g1, g0⟩, g2, g3⟩
          refine PE.bas ?_ ((h.ext.trans a2).trans g2) g3 rfl
          cases r with
          | v v => exact (PR.nr g1 g0).2 _ _ _
          | l xs => obtain ⟨_, rfl, _⟩ := g1; cases g0
        · have hr := perm_sim ((Bool.eq_false_iff.mpr hb ▸ h.wv).strict) kw
          obtain ⟨a1, a2, a3⟩ := settles_sim hr h.dk he1.bD he1.bl
          refine (e2 D _ B _ _ a3 he1.bD (he1.ext a2).bl a1).imp ?_
          rintro q r st2 ⟨g1, g2, g3⟩
          exact PE.bas g1 ((h.ext.trans a2).trans g2) g3 rfl
  | .comp own tg k a b c e, st, ρ, π, hc, he, hd => by
    simp only [chkE, Bool.and_eq_true, Bool.not_eq_true'] at hc
    obtain ⟨⟨⟨⟨⟨ha, hb⟩, hcc⟩, hee⟩, ht⟩, hes⟩ := hc
    simp only [pev, ev]
    refine Sim.bind (ev_sim hcs a ha he hd) fun p r st1 h => ?_
    have he1 := he.ext h.ext
    have hq : Sim (fun q s st2 => (isNil b = false → WV W O π st2 D B (escs W b) q s) ∧ (isNil b = true → q = .non ∧ s = .v .non) ∧ Ext D st1 st2 ∧ DK ok D st2) (opt2P (isNil b) (pev ps b π)) (opt2 (isNil b) (ev cs b ρ) st1) := by
      have hbs := ev_sim hcs b hb he1 h.dk
      generalize isNil b = nb at hbs ⊢
      cases nb with
      | true => exact ⟨.v .non, st1, rfl, fun z => (by cases z), fun _ => ⟨rfl, rfl⟩, .refl, h.dk⟩
      | false => exact hbs.imp fun q s st2 g => ⟨fun _ => g.wv, fun z => (by cases z), g.ext, g.dk⟩
    refine Sim.bind hq ?_
    rintro q s st2 ⟨g1, g2, x2, d2⟩
    have he2 := he1.ext x2
    have hw0 := h.wv.ext he1 x2
    have hw := hw0.rw he2
    have gwv : WV W O π st2 D B (escs W b) q s := by
      cases hn : isNil b with
      | true => obtain ⟨rfl, rfl⟩ := g2 hn; exact .inl .non
      | false => exact g1 hn
    have gw := gwv.rw he2
    cases hwk : walkP k p q with
    | none => trivial
    | some qs =>
      obtain ⟨xs, w, e1, e2, e3⟩ := walk_sim hw (fun _ => gw) hwk
      rw [e1]
      have nD : ∀ {p : PV} {r : RV} {bb : Bool} {n : Nat}, WV W O π st2 D B bb p r → srcs r n → (∃ kp, seqP p = some kp) → ¬ inD D n := by
        rintro p r bb n hv hs ⟨kp, hk⟩
        unfold srcs at hs
        subst hs
        rcases hv with hv | ⟨_, i, hi, hp, hr⟩
        · cases hv with
          | lst hn _ _ => exact fun z => hn (he2.bD n z)
          | dic _ _ _ _ => cases hk
          | deck _ => cases hk
        · cases hr
          obtain ⟨_, _, _, _, _, _, _, _, e7⟩ := he2.own i _ hi hp
          exact e7
      have hsq : ∀ m ∈ w, ¬ inD D m.1 := by
        intro m hm
        obtain ⟨hsr, _⟩ := e3 m hm
        rcases hsr with hsr | ⟨hsr, rfl⟩
        · cases k with
          | range1 => cases p <;> first | (exfalso; simp [walkP] at hwk; done) | skip
                      cases hw.int; cases hsr
          | range2 => cases p <;> first | (exfalso; simp [walkP] at hwk; done) | skip
                      cases hw.int; cases hsr
          | seq => exact nD hw0 hsr (by simp only [walkP, Option.map_eq_some_iff] at hwk; obtain ⟨kp, z, _⟩ := hwk; exact ⟨kp, z⟩)
          | enum => exact nD hw0 hsr (by simp only [walkP, Option.map_eq_some_iff] at hwk; obtain ⟨kp, z, _⟩ := hwk; exact ⟨kp, z⟩)
          | zip => exact nD hw0 hsr (by
              cases z : seqP p with
              | none => simp [walkP, z] at hwk
              | some kp => exact ⟨kp, rfl⟩)
        · refine nD gwv hsr ?_
          cases z : seqP q with
          | none => cases z' : seqP p <;> simp [walkP, z, z'] at hwk
          | some kp => exact ⟨kp, rfl⟩
      have hstands : stands w st2 = true := by
        unfold stands
        rw [List.all_eq_true]
        intro m hm
        rw [(e3 m hm).2]
        simp
      have hcc' : ∀ (π1 : PEnv) (ρ1 : Env) (st : Store), EI W base st D B O ρ1 π1 → DK ok D st → Sim (fun b b' st' => b = b' ∧ Ext D st st' ∧ DK ok D st') (optCP (isNil c) (pev ps c π1)) (optC (isNil c) (ev cs c ρ1) st) := by
        intro π1 ρ1 st h1 h2
        cases hn : isNil c with
        | true => exact sim_ret ⟨rfl, .refl, h2⟩
        | false =>
          simp only [optCP, optC, Bool.false_eq_true, if_false]
          refine Sim.bind (ev_sim hcs c hcc h1 h2) fun p r st1 h => ?_
          have hw := h.wv.rw (h1.ext h.ext)
          unfold truthT truthR
          cases ht : truthP p with
          | none => trivial
          | some k => rw [hw.truth ht]; exact sim_ret ⟨rfl, h.ext, h.dk⟩
      have hf' : ∀ (π1 : PEnv) (ρ1 : Env) (st : Store), EI W base st D B O ρ1 π1 → DK ok D st → Sim (fun p r st' => RS st' D B p r ∧ Ext D st st' ∧ DK ok D st') (pev ps e π1) (ev cs e ρ1 st) := fun π1 ρ1 st h1 h2 => (ev_sim hcs e hee h1 h2).imp fun p r st' g => ⟨(hes ▸ g.wv).strict, g.ext, g.dk⟩
      show Sim _ ((compP tg _ _ (wipeP π own) qs []).noX.bind _) _
      refine Sim.bind (Sim.noX (comp_sim ht hsq hcc' hf' e2 (.nil : PRs st2 D B [] []) (he2.wipe own) d2 hstands)) ?_
      rintro l l' st3 ⟨g1, g2, g3⟩
      exact sim_ret ⟨.inl ⟨_, rfl, g1⟩, (h.ext.trans x2).trans g2, g3, fun _ => ⟨_, rfl⟩, fun _ => ⟨_, rfl⟩⟩
theorem evs_sim (hcs : CsR ok F ps cs) : ∀ (e : E) {st : Store} {ρ : Env} {π : PEnv}, chkE W F e = true → EI W base st D B O ρ π → DK ok D st → Sim (PEs W ok st D B O π (escs W e)) (pevs ps e π) (evs cs e ρ st)
  | .nil, st, ρ, π, hc, he, hd => sim_ret ⟨trivial, .refl, hd⟩
  | .cons h t, st, ρ, π, hc, he, hd => by
    simp only [chkE, Bool.and_eq_true] at hc
    simp only [pevs, evs]
    refine Sim.bind (ev_sim hcs h hc.1 he hd) fun p r st1 g => ?_
    have he1 := he.ext g.ext
    refine Sim.bind (evs_sim hcs t hc.2 he1 g.dk) fun qs rs st2 g2 => ?_
    exact sim_ret ⟨⟨(g.wv.ext he1 g2.ext).mono fun z => by simp [escs, z], g2.wv.mono fun z => by simp [escs, z]⟩, g.ext.trans g2.ext, g2.dk⟩
  | .k _, st, ρ, π, hc, he, hd => by simp only [pevs]; trivial
  | .x _, st, ρ, π, hc, he, hd => by simp only [pevs]; trivial
  | .g _ _, st, ρ, π, hc, he, hd => by simp only [pevs]; trivial
  | .tup _, st, ρ, π, hc, he, hd => by simp only [pevs]; trivial
  | .lst _, st, ρ, π, hc, he, hd => by simp only [pevs]; trivial
  | .dic _ _, st, ρ, π, hc, he, hd => by simp only [pevs]; trivial
  | .op1 _ _, st, ρ, π, hc, he, hd => by simp only [pevs]; trivial
  | .op2 _ _ _, st, ρ, π, hc, he, hd => by simp only [pevs]; trivial
  | .op3 _ _ _ _, st, ρ, π, hc, he, hd => by simp only [pevs]; trivial
  | .sl _ _ _, st, ρ, π, hc, he, hd => by simp only [pevs]; trivial
  | .and _ _, st, ρ, π, hc, he, hd => by simp only [pevs]; trivial
  | .or _ _, st, ρ, π, hc, he, hd => by simp only [pevs]; trivial
  | .not _, st, ρ, π, hc, he, hd => by simp only [pevs]; trivial
  | .ite _ _ _, st, ρ, π, hc, he, hd => by simp only [pevs]; trivial
  | .chain _ _ _ _ _, st, ρ, π, hc, he, hd => by simp only [pevs]; trivial
  | .call _ _ _ _, st, ρ, π, hc, he, hd => by simp only [pevs]; trivial
  | .comp _ _ _ _ _ _ _, st, ρ, π, hc, he, hd => by simp only [pevs]; trivial
end
end
end Mi
end
section
set_option linter.all false
set_option autoImplicit false
/-! PvSim3: statements, functions. -/
namespace Mi
theorem Res.assoc {α β γ : Type} (a : Res α) (f : α → Store → Res β) (g : β → Store → Res γ) : (a.bind f).bind g = a.bind fun x st => (f x st).bind g := by
  cases a <;> rfl
theorem b_assocT0 {α β γ : Type} {t : Tr α} {f : α → Tr β} {g : β → Tr γ} : (t.bind f).bind g = t.bind fun a => (f a).bind g := by
  induction t with
  | draw m k ih => show Tr.draw m _ = Tr.draw m _; congr 1; funext i; exact ih i
  | _ => rfl
def liveS (π : PEnv) (i : Nat) : Prop := ∃ p, π[i]? = some (some p)
/-- what is kept from a state to a later one; M: the slots whose lists may be changed -/
structure Kp (W M : List Nat) (D : DD) (st : Store) (B : Nat → Prop) (O : Nat → Nat) (π : PEnv) (st' : Store) (B' : Nat → Prop) (O' : Nat → Nat) (π' : PEnv) : Prop where
  len : st.length ≤ st'.length
  same : ∀ n, n < st.length → ¬ inD D n → (∀ i, i ∈ W → i ∈ M → liveS π i → O i ≠ n) → st'[n]? = st[n]?
  own : ∀ i, i ∈ W → liveS π' i → (∃ k, k ∈ W ∧ (k = i ∨ k ∈ M) ∧ liveS π k ∧ O' i = O k) ∨ st.length ≤ O' i
  bar : ∀ n, B n → B' n
  new : ∀ n, B' n → n < st.length → B n
section
variable {W M M' : List Nat} {D : DD} {st st' st'' : Store} {B B' B'' B0 : Nat → Prop} {O O' O'' : Nat → Nat} {π π' π'' : PEnv} {base : Nat} {ρ ρ' : Env} {ok : Nat → Obj → Obj → Prop} {F : List Bool} {ps : List PFn} {cs : List Fn}
theorem Kp.ofExt (h : Ext D st st') : Kp W M D st B O π st' B O π := ⟨h.len, fun n a b _ => h.same n a b, fun i hi l => .inl ⟨i, hi, .inl rfl, l, rfl⟩, fun _ h => h, fun _ h _ => h⟩
theorem Kp.mono (h : Kp W M D st B O π st' B' O' π') (i : ∀ x ∈ M, x ∈ M') : Kp W M' D st B O π st' B' O' π' := ⟨h.len, fun n a b c => h.same n a b fun j hj hm => c j hj (i j hm), fun k hk hl => (h.own k hk hl).imp (fun ⟨x, a, b, c⟩ => ⟨x, a, b.imp id (i x), c⟩) id, h.bar, h.new⟩
theorem Kp.trans (h : Kp W M D st B O π st' B' O' π') (g : Kp W M D st' B' O' π' st'' B'' O'' π'') : Kp W M D st B O π st'' B'' O'' π'' where
  len := Nat.le_trans h.len g.len
  same n a b c := by
    refine (g.same n (Nat.lt_of_lt_of_le a h.len) b fun i hi hm hl e => ?_).trans (h.same n a b c)
    rcases h.own i hi hl with ⟨k, hk, km, l, eo⟩ | hge
    · exact c k hk (by rcases km with rfl | km; exact hm; exact km) l (eo ▸ e)
    · omega
  own i hi hl := by
    rcases g.own i hi hl with ⟨k, hk, km, l, e⟩ | hge
    · rcases h.own k hk l with ⟨k', hk', km', l', e'⟩ | hge
      · exact .inl ⟨k', hk', (by rcases km' with rfl | km'; exact km; exact .inr km'), l', e.trans e'⟩
      · exact .inr (e ▸ hge)
    · exact .inr (Nat.le_trans h.len hge)
  bar n hb := g.bar n (h.bar n hb)
  new n hb hl := h.new n (g.new n hb (Nat.lt_of_lt_of_le hl h.len)) hl
theorem Kp.pre {π1 : PEnv} (h : Kp W M D st B O π1 st' B' O' π') (e : ∀ j ∈ W, π1[j]? = π[j]?) : Kp W M D st B O π st' B' O' π' where
  len := h.len
  same n a b c := h.same n a b fun i hi hm ⟨p, hp⟩ => c i hi hm ⟨p, (e i hi).symm.trans hp⟩
  own i hi hl := by
    rcases h.own i hi hl with ⟨k, hk, km, ⟨p, hp⟩, eo⟩ | hge
    · exact .inl ⟨k, hk, km, ⟨p, (e k hk).symm.trans hp⟩, eo⟩
    · exact .inr hge
  bar := h.bar
  new := h.new
theorem Kp.post {π1 : PEnv} (h : Kp W M D st B O π st' B' O' π') (e : ∀ j ∈ W, π1[j]? = π'[j]?) : Kp W M D st B O π st' B' O' π1 where
  len := h.len
  same := h.same
  own i hi hl := h.own i hi (by obtain ⟨p, hp⟩ := hl; exact ⟨p, (e i hi).symm.trans hp⟩)
  bar := h.bar
  new := h.new
/-- what is not barred stays -/
theorem Kp.hs (h : Kp W M D st B O π st' B' O' π') (g : EI W base st D B O ρ π) : ∀ n, ¬ B n → n < st.length → st'[n]? = st[n]? := fun n hb hl => h.same n hl (fun z => hb (g.bD n z)) fun i hi hm ⟨p, hp⟩ e => by
  obtain ⟨_, _, _, _, _, _, _, e6, _⟩ := g.own i p hi hp
  exact hb (e ▸ e6)
theorem Kp.low (h : Kp W M D st B O π st' B' O' π') (g : EI W base st D B O ρ π) : ∀ n, n < base → ¬ inD D n → st'[n]? = st[n]? := fun n hl hd => h.same n (Nat.lt_of_lt_of_le hl g.bs) hd fun i hi hm ⟨p, hp⟩ e => by
  obtain ⟨_, _, _, _, _, _, e5, _, _⟩ := g.own i p hi hp
  omega
/-- the post of a statement -/
def PS (W M : List Nat) (ok : Nat → Obj → Obj → Prop) (base : Nat) (D : DD) (B0 : Nat → Prop) (st : Store) (B : Nat → Prop) (O : Nat → Nat) (π : PEnv) (o' : POut) (o : Out) (st' : Store) : Prop := match o', o with
  | .nx π', .nx ρ' => ∃ B' O', EI W base st' D B' O' ρ' π' ∧ Kp W M D st B O π st' B' O' π' ∧ DK ok D st'
  | .bk π', .bk ρ' => ∃ B' O', EI W base st' D B' O' ρ' π' ∧ Kp W M D st B O π st' B' O' π' ∧ DK ok D st'
  | .ct π', .ct ρ' => ∃ B' O', EI W base st' D B' O' ρ' π' ∧ Kp W M D st B O π st' B' O' π' ∧ DK ok D st'
  | .rt p, .rt r => RS st' D B0 p r ∧ st.length ≤ st'.length ∧ (∀ n, n < base → ¬ inD D n → st'[n]? = st[n]?) ∧ DK ok D st'
  | _, _ => False
theorem PS.mono {o' : POut} {o : Out} (h : PS W M ok base D B0 st B O π o' o st') (i : ∀ x ∈ M, x ∈ M') : PS W M' ok base D B0 st B O π o' o st' := by
  cases o' <;> cases o <;> first | exact h.elim | skip
  · obtain ⟨B', O', a, b, c⟩ := h; exact ⟨B', O', a, b.mono i, c⟩
  · exact h
  · obtain ⟨B', O', a, b, c⟩ := h; exact ⟨B', O', a, b.mono i, c⟩
  · obtain ⟨B', O', a, b, c⟩ := h; exact ⟨B', O', a, b.mono i, c⟩
theorem PS.trans {o' : POut} {o : Out} (k : Kp W M D st B O π st' B' O' π') (e : EI W base st D B O ρ π) (h : PS W M ok base D B0 st' B' O' π' o' o st'') : PS W M ok base D B0 st B O π o' o st'' := by
  cases o' <;> cases o <;> first | exact h.elim | skip
  · obtain ⟨B', O', a, b, c⟩ := h; exact ⟨B', O', a, k.trans b, c⟩
  · obtain ⟨a, b, c, d⟩ := h
    exact ⟨a, Nat.le_trans k.len b, fun n x y => (c n x y).trans (k.low e n x y), d⟩
  · obtain ⟨B', O', a, b, c⟩ := h; exact ⟨B', O', a, k.trans b, c⟩
  · obtain ⟨B', O', a, b, c⟩ := h; exact ⟨B', O', a, k.trans b, c⟩
theorem PS.pre {π1 : PEnv} {o' : POut} {o : Out} (e : ∀ j ∈ W, π1[j]? = π[j]?) (h : PS W M ok base D B0 st B O π1 o' o st') : PS W M ok base D B0 st B O π o' o st' := by
  cases o' <;> cases o <;> first | exact h.elim | skip
  · obtain ⟨B', O', a, b, c⟩ := h; exact ⟨B', O', a, b.pre e, c⟩
  · exact h
  · obtain ⟨B', O', a, b, c⟩ := h; exact ⟨B', O', a, b.pre e, c⟩
  · obtain ⟨B', O', a, b, c⟩ := h; exact ⟨B', O', a, b.pre e, c⟩
/-! ### a slot's own list: a new one, a changed one -/
theorem EI.setOwn (h : EI W base st D B O ρ π) {i : Nat} (hi : i ∈ W) {qs : List PV} {xs : List Val} (hp : PRs st D B qs xs) :
    EI W base (st ++ [.lst xs]) D (fun n => B n ∨ n = st.length) (fun j => if j = i then st.length else O j) (ρ.set i (some (.ref st.length))) (π.set i (some (.lst qs))) := by
  have hs : ∀ n, ¬ B n → n < st.length → (st ++ [Mi.Obj.lst xs])[n]? = st[n]? := fun n _ hl => List.getElem?_append_left hl
  have hb : ∀ n, (B n ∨ n = st.length) → n < st.length → B n := fun n h hl => by
    rcases h with h | h
    · exact h
    · omega
  have hlt : ∀ {j : Nat} {q : PV}, j ∈ W → π[j]? = some (some q) → O j < st.length := fun hj hq => by
    obtain ⟨_, _, _, _, e3, _⟩ := h.own _ _ hj hq
    exact lt_of_at e3
  have hg : ∀ {j : Nat} {q : PV}, j ≠ i → (π.set i (some (.lst qs)))[j]? = some (some q) → π[j]? = some (some q) := fun {j q} ne e => by
    rwa [List.getElem?_set_ne (Ne.symm ne)] at e
  exact {
    own := fun j q hj hq => by
      by_cases e : j = i
      · subst e
        have hl : j < π.length := by have := lt_of_at hq; simpa using this
        rw [List.getElem?_set_self hl] at hq
        cases hq
        refine ⟨qs, xs, rfl, ?_, ?_, hp.mono hs hb, ?_, ?_, ?_⟩
        · simp only [if_true]; exact List.getElem?_set_self (by rw [← h.len]; exact hl)
        · simp
        · simp only [if_true]; exact h.bs
        · simp
        · simp only [if_true]
          exact fun z => Nat.lt_irrefl _ (h.bl _ (h.bD _ z))
      · obtain ⟨l, ys, e1, e2, e3, e4, e5, e6, e7⟩ := h.own j q hj (hg e hq)
        refine ⟨l, ys, e1, ?_, ?_, e4.mono hs hb, ?_, ?_, ?_⟩
        · rw [List.getElem?_set_ne (Ne.symm e)]; simp only [e, if_false]; exact e2
        · simp only [e, if_false]; exact (List.getElem?_append_left (lt_of_at e3)).trans e3
        · simp only [e, if_false]; exact e5
        · simp only [e, if_false]; exact .inl e6
        · simp only [e, if_false]; exact e7
    inj := fun j k q s hj hk hq hs' ejk => by
      by_cases e1 : j = i
      · by_cases e2 : k = i
        · exact e1.trans e2.symm
        · simp only [e1, if_true, e2, if_false] at ejk
          have := hlt hk (hg e2 hs')
          omega
      · by_cases e2 : k = i
        · simp only [e2, if_true, e1, if_false] at ejk
          have := hlt hj (hg e1 hq)
          omega
        · simp only [e1, e2, if_false] at ejk
          exact h.inj j k q s hj hk (hg e1 hq) (hg e2 hs') ejk
    val := fun j q hj hq => by
      have e : j ≠ i := fun e => hj (e ▸ hi)
      obtain ⟨v, e1, e2⟩ := h.val j q hj (hg e hq)
      exact ⟨v, by rw [List.getElem?_set_ne (Ne.symm e)]; exact e1, e2.mono hs hb⟩
    len := by simp [h.len]
    bD := fun n z => .inl (h.bD n z)
    bl := fun n z => by
      rcases z with z | z
      · have := h.bl n z; simp; omega
      · simp; omega
    bs := by have := h.bs; simp; omega }
theorem EI.chg (h : EI W base st D B O ρ π) {i : Nat} (hi : i ∈ W) {l qs : List PV} {xs : List Val} (hl : π[i]? = some (some (.lst l))) (hp : PRs st D B qs xs) :
    EI W base (st.set (O i) (.lst xs)) D B O ρ (π.set i (some (.lst qs))) := by
  obtain ⟨l', ys, e1, e2, e3, e4, e5, e6, e7⟩ := h.own i _ hi hl
  have hs : ∀ n, ¬ B n → n < st.length → (st.set (O i) (Mi.Obj.lst xs))[n]? = st[n]? := fun n hb _ => by
    rw [List.getElem?_set_ne]; exact fun z => hb (z ▸ e6)
  have hb : ∀ n, B n → n < st.length → B n := fun n h _ => h
  have hg : ∀ {j : Nat} {q : PV}, j ≠ i → (π.set i (some (.lst qs)))[j]? = some (some q) → π[j]? = some (some q) := fun {j q} ne e => by
    rwa [List.getElem?_set_ne (Ne.symm ne)] at e
  exact {
    own := fun j q hj hq => by
      by_cases e : j = i
      · subst e
        rw [List.getElem?_set_self (lt_of_at hl)] at hq
        cases hq
        exact ⟨qs, xs, rfl, e2, List.getElem?_set_self (lt_of_at e3), hp.mono hs hb, e5, e6, e7⟩
      · obtain ⟨l2, zs, a1, a2, a3, a4, a5, a6, a7⟩ := h.own j q hj (hg e hq)
        refine ⟨l2, zs, a1, a2, ?_, a4.mono hs hb, a5, a6, a7⟩
        rw [List.getElem?_set_ne]
        · exact a3
        · exact fun z => e (h.inj i j _ _ hi hj hl (hg e hq) z).symm
    inj := fun j k q s hj hk hq hs' ejk => by
      have lv : ∀ {j : Nat} {q : PV}, (π.set i (some (.lst qs)))[j]? = some (some q) → ∃ q', π[j]? = some (some q') := fun {j q} e => by
        by_cases ej : j = i
        · subst ej; exact ⟨_, hl⟩
        · exact ⟨_, hg ej e⟩
      obtain ⟨q', hq'⟩ := lv hq
      obtain ⟨s', hs''⟩ := lv hs'
      exact h.inj j k q' s' hj hk hq' hs'' ejk
    val := fun j q hj hq => by
      have e : j ≠ i := fun e => hj (e ▸ hi)
      obtain ⟨v, a1, a2⟩ := h.val j q hj (hg e hq)
      exact ⟨v, a1, a2.mono hs hb⟩
    len := by simp [h.len]
    bD := h.bD
    bl := fun n z => by simpa using h.bl n z
    bs := by simpa using h.bs }
theorem Kp.chg (h : EI W base st D B O ρ π) {i : Nat} (hi : i ∈ W) {l qs : List PV} {xs : List Val} (hl : π[i]? = some (some (.lst l))) : Kp W [i] D st B O π (st.set (O i) (.lst xs)) B O (π.set i (some (.lst qs))) where
  len := by simp
  same n a b c := List.getElem?_set_ne (c i hi (by simp) ⟨_, hl⟩)
  own j hj hv := by
    obtain ⟨q, hq⟩ := hv
    refine .inl ⟨j, hj, .inl rfl, ?_, rfl⟩
    by_cases e : j = i
    · subst e; exact ⟨_, hl⟩
    · rw [List.getElem?_set_ne (Ne.symm e)] at hq; exact ⟨_, hq⟩
  bar _ h := h
  new _ h _ := h
theorem slotL_some {α β : Type} {R : α → β → Store → Prop} {i : Nat} {k : List PV → Tr α} {r : Res β} (h : ∀ l, π[i]? = some (some (.lst l)) → Sim R (k l) r) : Sim R ((slotL i π).bind k) r := by
  unfold slotL
  split
  · exact h _ ‹_›
  · trivial
/-! ### loops -/
theorem for_sim {tg : T} {f : PEnv → Tr POut} {f' : Env → Store → Res Out} {w : List (Nat × List Val)} (ht : chkT W tg = true) (hB : ∀ n, B0 n → n < base)
    (hf : ∀ {st : Store} {B : Nat → Prop} {O : Nat → Nat} {ρ : Env} {π : PEnv}, (∀ n, B0 n → B n) → EI W base st D B O ρ π → DK ok D st → Sim (PS W M ok base D B0 st B O π) (f π) (f' ρ st)) :
    ∀ {qs : List PV} {xs : List Val} {st : Store} {B : Nat → Prop} {O : Nat → Nat} {ρ : Env} {π : PEnv}, (∀ n, B0 n → B n) → PRs st D B qs xs → EI W base st D B O ρ π → DK ok D st →
      (∀ m ∈ w, lstAt st m.1 = some m.2 ∧ ¬ inD D m.1 ∧ ∀ i, i ∈ W → i ∈ M → liveS π i → O i ≠ m.1) → Sim (PS W M ok base D B0 st B O π) (forP tg f qs π) (forLoop w tg f' xs ρ st) := by
  intro qs
  have hst : ∀ {st : Store} {π : PEnv} {O : Nat → Nat}, (∀ m ∈ w, lstAt st m.1 = some m.2 ∧ ¬ inD D m.1 ∧ ∀ i, i ∈ W → i ∈ M → liveS π i → O i ≠ m.1) → stands w st = true := by
    intro st π O h
    unfold stands
    rw [List.all_eq_true]
    intro m hm
    rw [(h m hm).1]
    simp
  induction qs with
  | nil =>
    intro xs st B O ρ π hb h he hd hw
    cases h
    unfold forLoop
    rw [if_pos (hst hw)]
    exact sim_ret ⟨B, O, he, .ofExt .refl, hd⟩
  | cons q qs ih =>
    intro xs st B O ρ π hb h he hd hw
    cases h with
    | @cons _ _ v vs h1 h2 =>
      unfold forLoop forP
      rw [if_pos (hst hw)]
      cases hbd : bindP tg q π with
      | none => trivial
      | some π1 =>
        obtain ⟨ρ1, e1, e2, e3⟩ := bind_sim tg ht he h1 hbd
        rw [e1]
        show Sim _ ((f π1).bind _) _
        refine Sim.bind (hf hb e2 hd) fun o' o st2 hp => ?_
        have hp := PS.pre e3 hp
        have go : ∀ {π2 : PEnv} {ρ2 : Env}, (∃ B' O', EI W base st2 D B' O' ρ2 π2 ∧ Kp W M D st B O π st2 B' O' π2 ∧ DK ok D st2) → Sim (PS W M ok base D B0 st B O π) (forP tg f qs π2) (forLoop w tg f' vs ρ2 st2) := by
          rintro π2 ρ2 ⟨B', O', a, b, c⟩
          refine (ih (fun n z => b.bar n (hb n z)) (h2.mono (b.hs he) b.new) a c fun m hm => ?_).imp fun _ _ _ z => PS.trans b he z
          obtain ⟨w1, w2, w3⟩ := hw m hm
          have hlt : m.1 < st.length := by
            unfold lstAt at w1
            cases hh : st[m.1]? with
            | none => rw [hh] at w1; cases w1
            | some o => exact lt_of_at hh
          refine ⟨?_, w2, fun i hi hm' hl e => ?_⟩
          · unfold lstAt at w1 ⊢
            rw [b.same m.1 hlt w2 w3]; exact w1
          · rcases b.own i hi hl with ⟨k, hk, km, l, eo⟩ | hge
            · exact w3 k hk (by rcases km with rfl | km; exact hm'; exact km) l (eo ▸ e)
            · omega
        cases o' <;> cases o <;> first | exact hp.elim | skip
        · exact go hp
        · exact sim_ret hp
        · exact sim_ret hp
        · exact go hp
theorem while_sim {c : PEnv → Tr Bool} {c' : Env → Store → Res Bool} {f : PEnv → Tr POut} {f' : Env → Store → Res Out}
    (hc : ∀ {st : Store} {B : Nat → Prop} {O : Nat → Nat} {ρ : Env} {π : PEnv}, EI W base st D B O ρ π → DK ok D st → Sim (fun b b' st' => b = b' ∧ Ext D st st' ∧ DK ok D st') (c π) (c' ρ st))
    (hf : ∀ {st : Store} {B : Nat → Prop} {O : Nat → Nat} {ρ : Env} {π : PEnv}, (∀ n, B0 n → B n) → EI W base st D B O ρ π → DK ok D st → Sim (PS W M ok base D B0 st B O π) (f π) (f' ρ st)) :
    ∀ {n : Nat} {st : Store} {B : Nat → Prop} {O : Nat → Nat} {ρ : Env} {π : PEnv}, (∀ n, B0 n → B n) → EI W base st D B O ρ π → DK ok D st → Sim (PS W M ok base D B0 st B O π) (whileP c f n π) (whileLoop c' f' n ρ st) := by
  intro n
  induction n with
  | zero => intros; trivial
  | succ n ih =>
    intro st B O ρ π hb he hd
    unfold whileP whileLoop
    refine Sim.bind (hc he hd) ?_
    rintro b b' st1 ⟨rfl, x1, d1⟩
    have he1 := he.ext x1
    have k1 : Kp W M D st B O π st1 B O π := .ofExt x1
    cases b with
    | false => exact sim_ret ⟨B, O, he1, k1, d1⟩
    | true =>
      refine Sim.bind (hf hb he1 d1) fun o' o st2 hp => ?_
      have go : ∀ {π2 : PEnv} {ρ2 : Env}, (∃ B' O', EI W base st2 D B' O' ρ2 π2 ∧ Kp W M D st1 B O π st2 B' O' π2 ∧ DK ok D st2) → Sim (PS W M ok base D B0 st B O π) (whileP c f n π2) (whileLoop c' f' n ρ2 st2) := by
        rintro π2 ρ2 ⟨B', O', a, b, c⟩
        exact (ih (fun n z => b.bar n (hb n z)) a c).imp fun _ _ _ z => PS.trans (k1.trans b) he z
      have hp' := PS.trans k1 he hp
      cases o' <;> cases o <;> first | exact hp.elim | skip
      · exact go hp
      · exact sim_ret hp'
      · exact sim_ret hp'
      · exact go hp
theorem asg_sim {t : T} {e : E} {fuel : Nat} (hcs : CsR ok F ps cs) (h1 : chkE W F e = true) (h2 : chkT W t = true) (h3 : escs W e = false) (he : EI W base st D B O ρ π) (hd : DK ok D st) :
    Sim (PS W [] ok base D B0 st B O π) ((pev ps e π).bind fun r => (liftT (bindP t r π)).bind fun ρ1 => .ret (.nx ρ1)) (ex cs fuel (.asg (.tg t) e) ρ st) := by
  simp only [ex]
  refine Sim.bind (ev_sim hcs e h1 he hd) fun p r st1 h => ?_
  have he1 := he.ext h.ext
  obtain ⟨a1, a2, a3⟩ := settle_sim (h3 ▸ h.wv).strict h.dk he1.bl
  have he2 := he1.ext a2
  cases hb : bindP t p π with
  | none => trivial
  | some π1 =>
    obtain ⟨ρ1, e1, e2, e3⟩ := bind_sim t h2 he2 a1 hb
    refine ⟨.nx ρ1, (settle r st1).2, ?_, B, O, e2, (Kp.ofExt (h.ext.trans a2)).post e3, a3⟩
    simp only [setG, e1, lift, Res.bind]
theorem un_sim {t : T} {e : E} {fuel : Nat} (hcs : CsR ok F ps cs) (h1 : chkE W F e = true) (h2 : chkT W t = true) (h3 : escs W e = false) (he : EI W base st D B O ρ π) (hd : DK ok D st) :
    Sim (PS W [] ok base D B0 st B O π) (pex ps fuel (.asg (.un t) e) π) (ex cs fuel (.asg (.un t) e) ρ st) := by
  simp only [ex, pex]
  refine Sim.bind (ev_sim hcs e h1 he hd) fun p r st1 h => ?_
  have he1 := he.ext h.ext
  obtain ⟨a1, a2, a3⟩ := settle_sim (h3 ▸ h.wv).strict h.dk he1.bl
  have he2 := he1.ext a2
  cases p <;> first | trivial | skip
  rename_i qs
  dsimp only
  generalize hq : settle r st1 = sv at a1 a2 a3 he2
  obtain ⟨v, st2⟩ := sv
  dsimp only at a1 a2 a3 he2 ⊢
  cases a1 with
  | @lst n _ xs hn e1 hx =>
    cases hb : bindPs t qs π with
    | none => trivial
    | some π1 =>
      obtain ⟨ρ1, e2, e3, e4⟩ := binds_sim t h2 he2 hx hb
      refine ⟨.nx ρ1, st2, ?_, B, O, e3, (Kp.ofExt (h.ext.trans a2)).post e4, a3⟩
      simp only [setG, lstAt, e1, e2, lift, Res.bind]
/-- what is put into slots side by side -/
def RP (W : List Nat) (st : Store) (D : DD) (B : Nat → Prop) : T → List PV → List RV → Prop
  | .nil, [], [] => True
  | .cons t ts, p :: ps, r :: rs => RS st D B p r ∧ (chkT W t = true ∨ ∃ i xs, t = .sl i ∧ i ∈ W ∧ r = .l xs) ∧ RP W st D B ts ps rs
  | _, _, _ => False
theorem RP.mono (hs : ∀ n, ¬ B n → n < st.length → st'[n]? = st[n]?) (hb : ∀ n, B' n → n < st.length → B n) : ∀ {t : T} {qs : List PV} {rs : List RV}, RP W st D B t qs rs → RP W st' D B' t qs rs
  | .nil, [], [], _ => trivial
  | .cons _ _, _ :: _, _ :: _, h => ⟨h.1.mono hs hb, h.2.1, RP.mono hs hb h.2.2⟩
  | .nil, _ :: _, _, h => h.elim
  | .nil, [], _ :: _, h => h.elim
  | .cons _ _, [], _, h => h.elim
  | .cons _ _, _ :: _, [], h => h.elim
  | .sl _, _, _, h => h.elim
  | .tp _, _, _, h => h.elim
theorem evp_sim (hcs : CsR ok F ps cs) : ∀ (t : T) (e : E) {st : Store}, chkPar W F t e = true → EI W base st D B O ρ π → DK ok D st → Sim (fun qs rs st' => RP W st' D B t qs rs ∧ Ext D st st' ∧ DK ok D st') (pevs ps e π) (evs cs e ρ st)
  | .nil, .nil, st, _, he, hd => sim_ret ⟨trivial, .refl, hd⟩
  | .cons t ts, .cons e es, st, hc, he, hd => by
    simp only [chkPar, Bool.and_eq_true] at hc
    simp only [pevs, evs]
    refine Sim.bind (ev_sim hcs e hc.1.1 he hd) fun p r st1 g => ?_
    have he1 := he.ext g.ext
    refine Sim.bind (evp_sim hcs ts es hc.2 he1 g.dk) ?_
    rintro qs rs st2 ⟨g1, g2, g3⟩
    have hm := he1.hs g2
    have hc2 := hc.1.2
    by_cases ht : chkT W t = true ∧ escs W e = false
    · exact sim_ret ⟨⟨(ht.2 ▸ g.wv).strict.mono hm (fun _ b _ => b), .inl ht.1, g1⟩, g.ext.trans g2, g3⟩
    · have : ownT W t e = true := by
        simp only [Bool.or_eq_true, Bool.and_eq_true, Bool.not_eq_true'] at hc2
        rcases hc2 with z | z
        · exact absurd z ht
        · exact z
      cases t <;> first | (cases this; done) | skip
      rename_i i
      simp only [ownT, Bool.and_eq_true, decide_eq_true_eq] at this
      obtain ⟨xs, rfl⟩ := g.fr this.2
      have hr : RS st1 D B p (.l xs) := by
        rcases g.wv with z | ⟨_, _, _, _, z⟩
        · exact z
        · cases z
      exact sim_ret ⟨⟨hr.mono hm (fun _ b _ => b), .inr ⟨i, xs, rfl, by simpa using this.1, rfl⟩, g1⟩, g.ext.trans g2, g3⟩
  | .nil, .cons _ _, _, h, _, _ => by cases h
  | .nil, .k _, _, h, _, _ => by cases h
  | .nil, .x _, _, h, _, _ => by cases h
  | .nil, .g _ _, _, h, _, _ => by cases h
  | .nil, .tup _, _, h, _, _ => by cases h
  | .nil, .lst _, _, h, _, _ => by cases h
  | .nil, .dic _ _, _, h, _, _ => by cases h
  | .nil, .op1 _ _, _, h, _, _ => by cases h
  | .nil, .op2 _ _ _, _, h, _, _ => by cases h
  | .nil, .op3 _ _ _ _, _, h, _, _ => by cases h
  | .nil, .sl _ _ _, _, h, _, _ => by cases h
  | .nil, .and _ _, _, h, _, _ => by cases h
  | .nil, .or _ _, _, h, _, _ => by cases h
  | .nil, .not _, _, h, _, _ => by cases h
  | .nil, .ite _ _ _, _, h, _, _ => by cases h
  | .nil, .chain _ _ _ _ _, _, h, _, _ => by cases h
  | .nil, .call _ _ _ _, _, h, _, _ => by cases h
  | .nil, .comp _ _ _ _ _ _ _, _, h, _, _ => by cases h
  | .cons t ts, .nil, _, h, _, _ => by cases h
  | .cons t ts, .k _, _, h, _, _ => by cases h
  | .cons t ts, .x _, _, h, _, _ => by cases h
  | .cons t ts, .g _ _, _, h, _, _ => by cases h
  | .cons t ts, .tup _, _, h, _, _ => by cases h
  | .cons t ts, .lst _, _, h, _, _ => by cases h
  | .cons t ts, .dic _ _, _, h, _, _ => by cases h
  | .cons t ts, .op1 _ _, _, h, _, _ => by cases h
  | .cons t ts, .op2 _ _ _, _, h, _, _ => by cases h
  | .cons t ts, .op3 _ _ _ _, _, h, _, _ => by cases h
  | .cons t ts, .sl _ _ _, _, h, _, _ => by cases h
  | .cons t ts, .and _ _, _, h, _, _ => by cases h
  | .cons t ts, .or _ _, _, h, _, _ => by cases h
  | .cons t ts, .not _, _, h, _, _ => by cases h
  | .cons t ts, .ite _ _ _, _, h, _, _ => by cases h
  | .cons t ts, .chain _ _ _ _ _, _, h, _, _ => by cases h
  | .cons t ts, .call _ _ _ _, _, h, _, _ => by cases h
  | .cons t ts, .comp _ _ _ _ _ _ _, _, h, _, _ => by cases h
  | .sl _, _, _, h, _, _ => by simp [chkPar] at h
  | .tp _, _, _, h, _, _ => by simp [chkPar] at h
theorem own_step (he : EI W base st D B O ρ π) {i : Nat} (hi : i ∈ W) {qs : List PV} {xs : List Val} (hp : PRs st D B qs xs) :
    Kp W M D st B O π (st ++ [.lst xs]) (fun n => B n ∨ n = st.length) (fun j => if j = i then st.length else O j) (π.set i (some (.lst qs))) := by
  refine ⟨by simp, fun n a b _ => List.getElem?_append_left a, ?_, fun n z => .inl z, ?_⟩
  · rintro j hj ⟨q, hq⟩
    by_cases ej : j = i
    · simp only [ej, if_true]; exact .inr (Nat.le_refl _)
    · simp only [ej, if_false]
      rw [List.getElem?_set_ne (Ne.symm ej)] at hq
      exact .inl ⟨j, hj, .inl rfl, ⟨q, hq⟩, rfl⟩
  · intro n z hl
    rcases z with z | z
    · exact z
    · omega
theorem par_sim : ∀ (t : T) {qs : List PV} {rs : List RV} {st : Store} {B : Nat → Prop} {O : Nat → Nat} {ρ : Env} {π π' : PEnv}, RP W st D B t qs rs → EI W base st D B O ρ π → DK ok D st → bindPs t qs π = some π' →
    ∃ ρ' B' O', bindTs t (settles rs st).1 ρ = some ρ' ∧ EI W base (settles rs st).2 D B' O' ρ' π' ∧ Kp W [] D st B O π (settles rs st).2 B' O' π' ∧ DK ok D (settles rs st).2
  | .nil, [], [], st, B, O, ρ, π, π', h, he, hd, e => by cases e; exact ⟨ρ, B, O, rfl, he, .ofExt .refl, hd⟩
  | .cons t ts, p :: qs, r :: rs, st, B, O, ρ, π, π', h, he, hd, e => by
    obtain ⟨h1, h2, h3⟩ := h
    simp only [bindPs, Option.bind_eq_some_iff] at e
    obtain ⟨π1, e1, e2⟩ := e
    rcases h2 with h2 | ⟨i, xs, rfl, hi, rfl⟩
    · obtain ⟨a1, a2, a3⟩ := settle_sim h1 hd he.bl
      have he1 := he.ext a2
      obtain ⟨ρ1, b1, b2, b3⟩ := bind_sim t h2 he1 a1 e1
      obtain ⟨ρ2, B', O', c1, c2, c3, c4⟩ := par_sim ts (h3.mono (he.hs a2) (fun _ b _ => b)) b2 a3 e2
      exact ⟨ρ2, B', O', by simp only [settles, bindTs, b1, Option.bind_some]; exact c1, c2, ((Kp.ofExt a2).post b3).trans c3, c4⟩
    · obtain ⟨l, rfl, hp⟩ := h1
      unfold bindP at e1
      split at e1
      · cases e1
        rename_i hl
        have hl' : i < ρ.length := by rw [← he.len]; exact hl
        have k1 := own_step (M := []) he hi hp
        have he1 := he.setOwn hi hp
        obtain ⟨ρ2, B', O', c1, c2, c3, c4⟩ := par_sim ts (h3.mono (fun n _ hl => List.getElem?_append_left hl) k1.new) he1 (hd.app _) e2
        exact ⟨ρ2, B', O', by simp only [settles, settle, bindTs, bindT, hl', if_true, Option.bind_some]; exact c1, c2, k1.trans c3, c4⟩
      · cases e1
  | .nil, _ :: _, _, _, _, _, _, _, _, h, _, _, _ => h.elim
  | .nil, [], _ :: _, _, _, _, _, _, _, h, _, _, _ => h.elim
  | .cons _ _, [], _, _, _, _, _, _, _, h, _, _, _ => h.elim
  | .cons _ _, _ :: _, [], _, _, _, _, _, _, h, _, _, _ => h.elim
  | .sl _, _, _, _, _, _, _, _, _, h, _, _, _ => h.elim
  | .tp _, _, _, _, _, _, _, _, _, h, _, _, _ => h.elim
/-- a walk's source: not changed by the walk's body -/
def SR (W M : List Nat) (O : Nat → Nat) (π : PEnv) (st : Store) (D : DD) (B : Nat → Prop) (p : PV) (r : RV) : Prop := RS st D B p r ∨ ∃ i ∈ W, i ∉ M ∧ π[i]? = some (some p) ∧ r = .v (.ref (O i))
theorem SR.wv {p : PV} {r : RV} (h : SR W M O π st D B p r) (b : Bool) : WV W O π st D B true p r := by
  rcases h with h | ⟨i, hi, _, h⟩
  · exact .inl h
  · exact .inr ⟨rfl, i, hi, h⟩
theorem SR.ext {p : PV} {r : RV} (h : SR W M O π st D B p r) (g : EI W base st D B O ρ π) (e : Ext D st st') : SR W M O π st' D B p r := by
  rcases h with h | h
  · exact .inl (h.mono (g.hs e) (fun _ b _ => b))
  · exact .inr h
theorem SR.notM {p : PV} {r : RV} {n : Nat} (h : SR W M O π st D B p r) (g : EI W base st D B O ρ π) (hs : srcs r n) (hk : ∃ kp, seqP p = some kp) : ¬ inD D n ∧ ∀ i, i ∈ W → i ∈ M → liveS π i → O i ≠ n := by
  unfold srcs at hs
  subst hs
  obtain ⟨kp, hk⟩ := hk
  rcases h with h | ⟨i, hi, hm, hp, hr⟩
  · cases h with
    | lst hn _ _ =>
      refine ⟨fun z => hn (g.bD n z), fun i hi _ ⟨p, hp⟩ e => ?_⟩
      obtain ⟨_, _, _, _, _, _, _, e6, _⟩ := g.own i p hi hp
      exact hn (e ▸ e6)
    | dic _ _ _ _ => cases hk
    | deck _ => cases hk
  · cases hr
    obtain ⟨_, _, _, _, _, _, _, _, e7⟩ := g.own i _ hi hp
    refine ⟨e7, fun j hj hjm ⟨p', hp'⟩ ej => ?_⟩
    have eij := g.inj j i _ _ hj hi hp' hp ej
    subst eij
    exact hm hjm
theorem src_sim (hcs : CsR ok F ps cs) (e : E) (hc : chkE W F e = true) (hs : chkSrc W M e = true) (he : EI W base st D B O ρ π) (hd : DK ok D st) : Sim (fun p r st' => SR W M O π st' D B p r ∧ Ext D st st' ∧ DK ok D st') (pev ps e π) (ev cs e ρ st) := by
  by_cases hes : escs W e = true
  · unfold chkSrc at hs
    rw [hes] at hs
    cases e <;> first | (cases hs; done) | skip
    rename_i i
    simp only [Bool.not_true, Bool.false_or, Bool.not_eq_true'] at hs
    have hi : i ∈ W := by simpa [escs] using hes
    have hm : i ∉ M := by simpa using hs
    refine Sim.lift fun p e => ?_
    have e' : π[i]? = some (some p) := by
      cases h : π[i]? with
      | none => rw [h] at e; cases e
      | some o => rw [h] at e; simp only [Option.bind_some, id] at e; rw [e]
    obtain ⟨qs, xs, e1, e2, e3, e4, e5, e6, e7⟩ := he.own i p hi e'
    exact ⟨.v (.ref (O i)), st, by simp only [ev, e2], .inr ⟨i, hi, hm, e', rfl⟩, .refl, hd⟩
  · exact (ev_sim hcs e hc he hd).imp fun p r st' h => ⟨.inl (Bool.eq_false_iff.mpr hes ▸ h.wv).strict, h.ext, h.dk⟩
theorem ex_sim (hcs : CsR ok F ps cs) (fuel : Nat) (hB : ∀ n, B0 n → n < base) : ∀ (s : S) {st : Store} {B : Nat → Prop} {O : Nat → Nat} {ρ : Env} {π : PEnv}, chkW W F s = true → (∀ n, B0 n → B n) → EI W base st D B O ρ π → DK ok D st → Sim (PS W (mutS s) ok base D B0 st B O π) (pex ps fuel s π) (ex cs fuel s ρ st)
  | .skip, st, B, O, ρ, π, hc, hb, he, hd => sim_ret ⟨B, O, he, .ofExt .refl, hd⟩
  | .seq s t, st, B, O, ρ, π, hc, hb, he, hd => by
    simp only [chkW, Bool.and_eq_true] at hc
    simp only [pex, ex]
    refine Sim.bind (ex_sim hcs fuel hB s hc.1 hb he hd) fun o' o st1 h => ?_
    have h := PS.mono h (M' := mutS (.seq s t)) fun x hx => by simp [mutS, hx]
    cases o' <;> cases o <;> first | exact h.elim | skip
    · obtain ⟨B', O', a, b, c⟩ := h
      exact (ex_sim hcs fuel hB t hc.2 (fun n z => b.bar n (hb n z)) a c).imp fun _ _ _ z => PS.trans b he (PS.mono z fun x hx => by simp [mutS, hx])
    · exact sim_ret h
    · exact sim_ret h
    · exact sim_ret h
  | .asg g e, st, B, O, ρ, π, hc, hb, he, hd => by
    cases g with
    | tg t =>
      cases t with
      | sl i =>
        by_cases hi : i ∈ W
        · simp only [chkW, Bool.and_eq_true] at hc
          rw [if_pos (by simpa using hi)] at hc
          simp only [pex, ex]
          refine Sim.bind (ev_sim hcs e hc.1 he hd) fun p r st1 h => ?_
          have hk := of_decide_eq_true hc.2
          obtain ⟨qs, rfl⟩ := h.ls (by omega)
          obtain ⟨xs, rfl⟩ := h.fr hk
          have he1 := he.ext h.ext
          have hp : PRs st1 D B qs xs := by
            rcases h.wv with z | ⟨_, _, _, _, z⟩
            · obtain ⟨_, e1, z⟩ := z; cases e1; exact z
            · cases z
          cases hbd : bindP (.sl i) (.lst qs) π with
          | none => trivial
          | some π1 =>
            unfold bindP at hbd
            split at hbd
            · cases hbd
              rename_i hl
              have hl' : i < ρ.length := by rw [← he.len]; exact hl
              refine ⟨.nx (ρ.set i (some (.ref st1.length))), st1 ++ [.lst xs], ?_, _, _, he1.setOwn hi hp, ?_, h.dk.app _⟩
              · simp only [settle, setG, bindT, hl', if_true, lift, Res.bind]
              · refine ⟨?_, ?_, ?_, fun n z => .inl z, ?_⟩
                · have := h.ext.len; simp; omega
                · intro n a b _
                  exact (List.getElem?_append_left (Nat.lt_of_lt_of_le a h.ext.len)).trans (h.ext.same n a b)
                · rintro j hj ⟨q, hq⟩
                  by_cases ej : j = i
                  · simp only [ej, if_true]; exact .inr h.ext.len
                  · simp only [ej, if_false]
                    rw [List.getElem?_set_ne (Ne.symm ej)] at hq
                    exact .inl ⟨j, hj, .inl rfl, ⟨q, hq⟩, rfl⟩
                · intro n z hl
                  rcases z with z | z
                  · exact z
                  · have := h.ext.len; omega
            · cases hbd
        · simp only [chkW, Bool.and_eq_true] at hc
          rw [if_neg (by simpa using hi)] at hc
          exact asg_sim hcs hc.1 (by simpa [chkT] using hi) (by simpa using hc.2) he hd
      | tp ts =>
        by_cases htup : ∃ es, e = .tup es
        · obtain ⟨es, rfl⟩ := htup
          simp only [chkW] at hc
          simp only [pex, pev, ex, ev, b_assocT0, Res.assoc]
          refine Sim.bind (evp_sim hcs ts es hc he hd) ?_
          rintro qs rs st1 ⟨g1, g2, g3⟩
          have hl : qs.length = rs.length := by
            clear hc
            have : ∀ {ts : T} {qs : List PV} {rs : List RV}, RP W st1 D B ts qs rs → qs.length = rs.length := by
              intro ts qs
              induction qs generalizing ts with
              | nil =>
                intro rs h
                cases rs with
                | nil => rfl
                | cons _ _ => cases ts <;> exact h.elim
              | cons q qs ih =>
                intro rs h
                cases rs with
                | nil => cases ts <;> exact h.elim
                | cons r rs =>
                  cases ts with
                  | cons t ts => simp only [List.length_cons, ih h.2.2]
                  | _ => exact h.elim
            exact this g1
          show Sim _ ((whenT _ _).bind _) _
          by_cases hlen : qs.length ≤ top
          · rw [decide_eq_true hlen]
            rw [if_pos (hl ▸ hlen)]
            show Sim _ ((liftT (bindPs ts qs π)).bind _) _
            cases hb : bindPs ts qs π with
            | none => trivial
            | some π1 =>
              obtain ⟨ρ2, B', O', c1, c2, c3, c4⟩ := par_sim ts g1 (he.ext g2) g3 hb
              refine ⟨.nx ρ2, (settles rs st1).2, ?_, B', O', c2, (Kp.ofExt g2).trans c3, c4⟩
              simp only [Res.bind, settle, setG, bindT, c1, lift]
          · rw [decide_eq_false hlen]; trivial
        · have hc : (chkE W F e && chkT W (.tp ts) && !escs W e) = true := by
            cases e <;> first | exact hc | exact absurd ⟨_, rfl⟩ htup
          simp only [Bool.and_eq_true] at hc
          exact asg_sim hcs hc.1.1 hc.1.2 (by simpa using hc.2) he hd
      | nil =>
        simp only [chkW, Bool.and_eq_true] at hc
        exact asg_sim hcs hc.1.1 hc.1.2 (by simpa using hc.2) he hd
      | cons t ts =>
        simp only [chkW, Bool.and_eq_true] at hc
        exact asg_sim hcs hc.1.1 hc.1.2 (by simpa using hc.2) he hd
    | mv i j =>
      simp only [chkW, Bool.and_eq_true, Bool.not_eq_true', beq_eq_false_iff_ne] at hc
      obtain ⟨⟨⟨hi, hj⟩, ij⟩, hc⟩ := hc
      have hi : i ∈ W := by simpa using hi
      have hj : j ∈ W := by simpa using hj
      have kmv : ∀ {st1 : Store}, Ext D st st1 → Kp W [i, j] D st B O π st1 B O π := fun x => .ofExt x
      have mvd : ∀ {st1 : Store} {p : PV}, EI W base st1 D B O ρ π → DK ok D st1 → π[j]? = some (some p) → Ext D st st1 → i < π.length →
          PS W [i, j] ok base D B0 st B O π (.nx ((π.set i (some p)).set j none)) (.nx (ρ.set i (some (.ref (O j))))) st1 := fun {st1 p} he1 d1 hp x hl => by
        refine ⟨B, _, he1.move hi hj ij hp, Kp.trans (kmv x) ⟨Nat.le_refl _, fun _ _ _ _ => rfl, fun k hk ⟨q, hq⟩ => ?_, fun _ h => h, fun _ h _ => h⟩, d1⟩
        left
        by_cases ki : k = i
        · exact ⟨j, hj, .inr (by simp), ⟨p, hp⟩, by simp [ki]⟩
        · refine ⟨k, hk, .inl rfl, ?_, by simp [ki]⟩
          by_cases kj : k = j
          · exact ⟨p, kj ▸ hp⟩
          · rw [List.getElem?_set_ne (Ne.symm kj), List.getElem?_set_ne (Ne.symm ki)] at hq
            exact ⟨q, hq⟩
      have kee : ∀ {st1 : Store} {p : PV}, EI W base st1 D B O ρ π → DK ok D st1 → π[i]? = some (some p) → Ext D st st1 → i < π.length → ρ[i]? = some (some (.ref (O i))) →
          PS W [i, j] ok base D B0 st B O π (.nx ((π.set i (some p)).set j none)) (.nx (ρ.set i (some (.ref (O i))))) st1 := fun {st1 p} he1 d1 hp x hl hr => by
        have e1 : π.set i (some p) = π := by
          refine List.ext_getElem? fun n => ?_
          by_cases ni : i = n
          · subst ni; rw [List.getElem?_set_self hl, hp]
          · rw [List.getElem?_set_ne ni]
        have e2 : ρ.set i (some (.ref (O i))) = ρ := by
          refine List.ext_getElem? fun n => ?_
          by_cases ni : i = n
          · subst ni; rw [List.getElem?_set_self (by rw [← he1.len]; exact hl), hr]
          · rw [List.getElem?_set_ne ni]
        rw [e1, e2]
        refine ⟨B, O, he1.drop j, Kp.trans (kmv x) ⟨Nat.le_refl _, fun _ _ _ _ => rfl, fun k hk ⟨q, hq⟩ => ?_, fun _ h => h, fun _ h _ => h⟩, d1⟩
        left
        refine ⟨k, hk, .inl rfl, ?_, rfl⟩
        by_cases kj : k = j
        · subst kj
          have hl' : k < π.length := by have := lt_of_at hq; simpa using this
          rw [List.getElem?_set_self hl'] at hq; cases hq
        · rw [List.getElem?_set_ne (Ne.symm kj)] at hq
          exact ⟨q, hq⟩
      have read : ∀ {k : Nat} {st1 : Store}, k ∈ W → EI W base st1 D B O ρ π → DK ok D st1 → Ext D st st1 →
          (∀ p, π[k]? = some (some p) → i < π.length → PS W [i, j] ok base D B0 st B O π (.nx ((π.set i (some p)).set j none)) (.nx (ρ.set i (some (.ref (O k))))) st1) →
          Sim (PS W [i, j] ok base D B0 st B O π) (((liftT ((π[k]?).bind id))).bind fun r => (liftT (bindP (.sl i) r π)).bind fun ρ1 => .ret (.nx (ρ1.set j none))) ((ev cs (.x k) ρ st1).bind fun r st2 =>
            (setG cs (.mv i j) (settle r st2).1 ρ (settle r st2).2).bind fun ρ1 st3 => .ok (.nx ρ1) st3) := fun {k st1} hk he1 d1 x hP => by
        cases hq : π[k]? with
        | none => trivial
        | some o =>
          cases o with
          | none => trivial
          | some p =>
            obtain ⟨l, xs, rfl, e2, e3, _⟩ := he1.own k p hk hq
            show Sim _ ((liftT (bindP (.sl i) (.lst l) π)).bind _) _
            by_cases hl : i < π.length
            · have hl' : i < ρ.length := by rw [← he1.len]; exact hl
              have e4 : ev cs (.x k) ρ st1 = .ok (.v (.ref (O k))) st1 := by simp only [ev, e2]
              simp only [bindP, hl, if_true]
              refine ⟨.nx (ρ.set i (some (.ref (O k)))), st1, ?_, hP _ hq hl⟩
              rw [e4]
              simp only [Res.bind, settle, setG, bindT, hl', if_true, lift]
            · simp only [bindP, hl, if_false]; trivial
      simp only [mutS]
      split at hc
      · rename_i k
        obtain rfl := eq_of_beq hc
        simp only [pex, ex, pev]
        exact read hj he hd .refl fun p hp hl => mvd he hd hp .refl hl
      · rename_i c k l
        simp only [Bool.and_eq_true] at hc
        obtain ⟨⟨hcc, hk⟩, hl⟩ := hc
        obtain rfl := eq_of_beq hk
        obtain rfl := eq_of_beq hl
        simp only [pex, ex, pev]
        rw [show ev cs (.ite c (.x k) (.x l)) ρ st = (ev cs c ρ st).bind fun r st1 => (truthR r st1).bind fun z st2 => if z then ev cs (.x k) ρ st2 else ev cs (.x l) ρ st2 from by rw [ev]]
        rw [Res.assoc, b_assocT0]
        refine Sim.bind (ev_sim hcs c hcc he hd) fun p r st1 h => ?_
        have he1 := he.ext h.ext
        have hw := h.wv.rw he1
        unfold truthT truthR
        cases htp : truthP p with
        | none => trivial
        | some z =>
          rw [hw.truth htp]
          cases z with
          | true => exact read hj he1 h.dk h.ext fun p hp hl => mvd he1 h.dk hp h.ext hl
          | false =>
            refine read hi he1 h.dk h.ext fun p hp hl => ?_
            obtain ⟨_, _, _, e2, _⟩ := he1.own _ _ hi hp
            exact kee he1 h.dk hp h.ext hl e2
      · cases hc
    | un ts =>
      simp only [chkW, Bool.and_eq_true] at hc
      exact un_sim hcs hc.1.1 hc.1.2 (by simpa using hc.2) he hd
    | sub o j =>
      cases o with
      | x i =>
        simp only [chkW, Bool.and_eq_true, Bool.not_eq_true'] at hc
        obtain ⟨⟨⟨hi, hce⟩, hes⟩, hcj⟩ := hc
        have hi : i ∈ W := by simpa using hi
        simp only [pex, ex]
        refine Sim.bind (ev_sim hcs e hce he hd) fun p r st1 h => ?_
        refine slotL_some fun l hl => ?_
        have he1 := he.ext h.ext
        obtain ⟨a1, a2, a3⟩ := settle_sim (hes ▸ h.wv).strict h.dk he1.bl
        have he2 := he1.ext a2
        obtain ⟨l0, ys, q1, q2, q3, q4, q5, q6, q7⟩ := he2.own i _ hi hl
        cases q1
        have hev : ev cs (.x i) ρ (settle r st1).2 = .ok (.v (.ref (O i))) (settle r st1).2 := by simp only [ev, q2]
        have hset : setG cs (.sub (.x i) j) (settle r st1).1 ρ (settle r st1).2 = (ev cs j ρ (settle r st1).2).bind fun q st3 => (fset (.v (.ref (O i))) q (settle r st1).1 st3).bind fun _ st4 => .ok ρ st4 := by
          simp only [setG]; rw [hev]; rfl
        show Sim _ _ ((setG cs (.sub (.x i) j) (settle r st1).1 ρ (settle r st1).2).bind _)
        rw [hset, Res.assoc]
        refine Sim.bind (ev_sim hcs j hcj he2 a3) fun q s st3 g => ?_
        cases q <;> first | trivial | skip
        rename_i n
        have he3 := he2.ext g.ext
        cases (g.wv.rw he3).int
        obtain ⟨l0, zs, u1, u2, u3, u4, u5, u6, u7⟩ := he3.own i _ hi hl
        cases u1
        show Sim _ ((liftT (ix l.length n)).bind _) _
        cases hx : ix l.length n with
        | none => trivial
        | some m =>
          have hx' : ix zs.length n = some m := by rw [← u4.len]; exact hx
          have hm : mutAt st3 (.v (.ref (O i))) = some (O i, zs) := by simp only [mutAt, u3]
          refine ⟨.nx ρ, st3.set (O i) (.lst (zs.set m (settle r st1).1)), ?_, B, O, he3.chg hi hl (u4.set (a1.mono (he2.hs g.ext) (fun _ b _ => b)) m), ?_, g.dk.set u7 _⟩
          · simp only [fset, hm, hx', Res.bind]
          · exact (Kp.ofExt ((h.ext.trans a2).trans g.ext)).trans (Kp.chg he3 hi hl)
      | _ => cases hc
    | nil => cases hc
    | cons _ _ => cases hc
  | .ex e, st, B, O, ρ, π, hc, hb, he, hd => by
    have gen : ∀ e : E, chkE W F e = true → ∀ M, Sim (PS W M ok base D B0 st B O π) ((pev ps e π).bind fun _ => .ret (.nx π)) (ex cs fuel (.ex e) ρ st) := by
      intro e hc M
      simp only [ex]
      refine Sim.bind (ev_sim hcs e hc he hd) fun p r st1 h => ?_
      exact sim_ret ⟨B, O, he.ext h.ext, .ofExt h.ext, h.dk⟩
    cases e with
    | op2 o a b =>
      cases a with
      | x i =>
        by_cases ho : isDo o = true
        · simp only [chkW, Bool.and_eq_true, Bool.or_eq_true, Bool.not_eq_true', ho, Bool.true_eq_false, false_or, decide_eq_true_eq] at hc
          obtain ⟨hcb, hi, hap⟩ := hc
          have hi : i ∈ W := by simpa using hi
          simp only [pex, ho, if_true, ex]
          rcases Classical.em (¬ ∃ l, π[i]? = some (some (.lst l))) with hlv | hlv
          · refine sim_bads (f := fun q => (slotL i π).bind fun xs => (doL o xs q).bind fun ys => Tr.ret (POut.nx (π.set i (some (.lst ys))))) (fun a => ?_) _ _
            unfold slotL
            split
            · exact absurd ⟨_, ‹_›⟩ hlv
            · rfl
          obtain ⟨l, hl⟩ := Classical.not_not.mp hlv
          have hsl : ∀ {γ : Type} (g : List PV → Tr γ), (slotL i π).bind g = g l := fun g => by simp only [slotL, hl]; rfl
          obtain ⟨l0, ys, q1, q2, q3, q4, q5, q6, q7⟩ := he.own i _ hi hl
          cases q1
          have hev : ev cs (.op2 o (.x i) b) ρ st = (ev cs b ρ st).bind fun q st2 => f2 o (.v (.ref (O i))) q st2 := by
            have hpre : pre2 o (.v (.ref (O i))) st = true := by cases o <;> first | (cases ho; done) | (simp only [pre2, seqR, seqV, lstAt, q3]; rfl)
            rw [ev]
            simp only [ev, q2, Res.bind, hpre, if_true]
          rw [hev]
          rw [Res.assoc]
          refine Sim.bind (ev_sim hcs b hcb he hd) fun p r st1 h => ?_
          rw [hsl]
          have he1 := he.ext h.ext
          obtain ⟨l0, zs, u1, u2, u3, u4, u5, u6, u7⟩ := he1.own i _ hi hl
          cases u1
          have hm : mutAt st1 (.v (.ref (O i))) = some (O i, zs) := by simp only [mutAt, u3]
          have hM : mutS (.ex (.op2 o (.x i) b)) = [i] := by simp only [mutS, ho, if_true]
          rw [hM]
          cases o <;> first | (cases ho; done) | skip
          · -- append
            have hes : escs W b = false := by
              rcases hap with z | z
              · cases z
              · exact z
            obtain ⟨a1, a2, a3⟩ := settle_sim (hes ▸ h.wv).strict h.dk he1.bl
            have he2 := he1.ext a2
            simp only [doL]
            show Sim _ ((whenT _ _).bind _) _
            by_cases hlen : l.length < top
            · rw [decide_eq_true hlen]
              have hlen' : zs.length < top := by rw [← u4.len]; exact hlen
              refine ⟨.nx ρ, (settle r st1).2.set (O i) (.lst (zs ++ [(settle r st1).1])), ?_, B, O, he2.chg hi hl ((u4.mono (he1.hs a2) (fun _ b _ => b)).app (.cons a1 .nil)), ?_, a3.set u7 _⟩
              · simp only [f2, hm, hlen', if_true, Res.bind]
              · exact (Kp.ofExt (h.ext.trans a2)).trans (Kp.chg he2 hi hl)
            · rw [decide_eq_false hlen]; trivial
          · -- extend
            have hw := h.wv.rw he1
            simp only [doL]
            cases p <;> first | trivial | skip
            rename_i qs
            obtain ⟨xs, o1, _, o2, _⟩ := hw.own
            show Sim _ ((whenT _ _).bind _) _
            by_cases hlen : l.length + qs.length ≤ top
            · rw [decide_eq_true hlen]
              have hlen' : zs.length + xs.length ≤ top := by rw [← u4.len, ← o2.len]; exact hlen
              refine ⟨.nx ρ, st1.set (O i) (.lst (zs ++ xs)), ?_, B, O, he1.chg hi hl (u4.app o2), ?_, h.dk.set u7 _⟩
              · simp only [f2, hm, o1, hlen', if_true, Res.bind]
              · exact (Kp.ofExt h.ext).trans (Kp.chg he1 hi hl)
            · rw [decide_eq_false hlen]; trivial
        · have ho : isDo o = false := Bool.eq_false_iff.mpr ho
          simp only [pex, ho, Bool.false_eq_true, if_false]
          trivial
      | _ => exact gen _ (by simpa [chkW] using hc) _
    | _ => exact gen _ (by simpa [chkW] using hc) _
  | .ret e, st, B, O, ρ, π, hc, hb, he, hd => by
    simp only [chkW] at hc
    simp only [pex, ex]
    refine Sim.bind (ev_sim hcs e hc he hd) fun p r st1 h => ?_
    have he1 := he.ext h.ext
    refine sim_ret ⟨?_, h.ext.len, (Kp.ofExt (W := W) (M := []) (B := B) (O := O) (π := π) h.ext).low he, h.dk⟩
    rcases h.wv with z | ⟨_, i, hi, hp, rfl⟩
    · exact z.mono (fun _ _ _ => rfl) (fun n z _ => hb n z)
    · obtain ⟨l, xs, rfl, e2, e3, e4, e5, e6, e7⟩ := he1.own i p hi hp
      exact .lst (fun z => by have := hB _ z; omega) e3 (e4.mono (fun _ _ _ => rfl) (fun n z _ => hb n z))
  | .retN, st, B, O, ρ, π, hc, hb, he, hd => sim_ret ⟨.non, Nat.le_refl _, fun _ _ _ => rfl, hd⟩
  | .ite c s t, st, B, O, ρ, π, hc, hb, he, hd => by
    simp only [chkW, Bool.and_eq_true] at hc
    simp only [pex, ex]
    refine Sim.bind (ev_sim hcs c hc.1.1 he hd) fun p r st1 h => ?_
    have he1 := he.ext h.ext
    have hw := h.wv.rw he1
    have k1 : Kp W (mutS (.ite c s t)) D st B O π st1 B O π := .ofExt h.ext
    unfold truthT truthR
    cases htp : truthP p with
    | none => trivial
    | some k =>
      rw [hw.truth htp]
      cases k with
      | true => exact (ex_sim hcs fuel hB s hc.1.2 hb he1 h.dk).imp fun _ _ _ z => PS.trans k1 he (PS.mono z fun x hx => by simp [mutS, hx])
      | false => exact (ex_sim hcs fuel hB t hc.2 hb he1 h.dk).imp fun _ _ _ z => PS.trans k1 he (PS.mono z fun x hx => by simp [mutS, hx])
  | .whil c s, st, B, O, ρ, π, hc, hb, he, hd => by
    simp only [chkW, Bool.and_eq_true] at hc
    simp only [pex, ex]
    refine while_sim (M := mutS s) (fun {st B O ρ π} he hd => ?_) (fun {st B O ρ π} hb he hd => ex_sim hcs fuel hB s hc.2 hb he hd) hb he hd
    refine Sim.bind (ev_sim hcs c hc.1 he hd) fun p r st1 h => ?_
    have hw := h.wv.rw (he.ext h.ext)
    unfold truthT truthR
    cases htp : truthP p with
    | none => trivial
    | some k => rw [hw.truth htp]; exact sim_ret ⟨rfl, h.ext, h.dk⟩
  | .fo tg k a b s', st, B, O, ρ, π, hc, hb, he, hd => by
    simp only [chkW, Bool.and_eq_true] at hc
    obtain ⟨⟨⟨⟨⟨ha, hbb⟩, ht⟩, hsa⟩, hsb⟩, hss⟩ := hc
    simp only [pex, ex]
    refine Sim.bind (src_sim hcs a ha hsa he hd) ?_
    rintro p r st1 ⟨h, x1, d1⟩
    have he1 := he.ext x1
    have hq : Sim (fun q s st2 => SR W (mutS s') O π st2 D B q s ∧ Ext D st1 st2 ∧ DK ok D st2) (opt2P (isNil b) (pev ps b π)) (opt2 (isNil b) (ev cs b ρ) st1) := by
      have hbs := src_sim hcs b hbb hsb he1 d1
      generalize isNil b = nb at hbs ⊢
      cases nb with
      | true => exact ⟨.v .non, st1, rfl, .inl .non, .refl, d1⟩
      | false => exact hbs
    refine Sim.bind hq ?_
    rintro q s st2 ⟨g, x2, d2⟩
    have he2 := he1.ext x2
    have h2 := h.ext he1 x2
    have hw := (h2.wv true).rw he2 
    have gw := (g.wv true).rw he2
    cases hwk : walkP k p q with
    | none => trivial
    | some qs =>
      obtain ⟨xs, w, e1, e2, e3⟩ := walk_sim hw (fun _ => gw) hwk
      rw [e1]
      have k2 : Kp W (mutS s') D st B O π st2 B O π := .ofExt (x1.trans x2)
      refine (for_sim (w := w) ht hB (fun {st B O ρ π} hb he hd => ex_sim hcs fuel hB s' hss hb he hd) hb e2 he2 d2 fun m hm => ?_).imp fun _ _ _ z => PS.trans k2 he z
      obtain ⟨hsr, hat⟩ := e3 m hm
      refine ⟨hat, ?_⟩
      rcases hsr with hsr | ⟨hsr, rfl⟩
      · refine h2.notM he2 hsr ?_
        cases k with
        | range1 => cases p <;> first | (exfalso; simp [walkP] at hwk; done) | skip
                    cases hw.int; cases hsr
        | range2 => cases p <;> first | (exfalso; simp [walkP] at hwk; done) | skip
                    cases hw.int; cases hsr
        | seq => simp only [walkP, Option.map_eq_some_iff] at hwk; obtain ⟨kp, z, _⟩ := hwk; exact ⟨kp, z⟩
        | enum => simp only [walkP, Option.map_eq_some_iff] at hwk; obtain ⟨kp, z, _⟩ := hwk; exact ⟨kp, z⟩
        | zip =>
          cases z : seqP p with
          | none => simp [walkP, z] at hwk
          | some kp => exact ⟨kp, rfl⟩
      · refine g.notM he2 hsr ?_
        cases z : seqP q with
        | none => cases z' : seqP p <;> simp [walkP, z, z'] at hwk
        | some kp => exact ⟨kp, rfl⟩
  | .brk, st, B, O, ρ, π, hc, hb, he, hd => sim_ret ⟨B, O, he, .ofExt .refl, hd⟩
  | .cont, st, B, O, ρ, π, hc, hb, he, hd => sim_ret ⟨B, O, he, .ofExt .refl, hd⟩
  | .never, st, B, O, ρ, π, hc, hb, he, hd => trivial
/-- a def's body is looked at: what it does is what the def without a store does -/
theorem run_sim {d : Def} (hcs : CsR ok F ps cs) (hW : (W.all fun i => decide (d.pars ≤ i)) = true) (hc : chkW W F d.body = true) : SimF ok (prun d ps) (run d cs) := by
  intro D st B qs vs hd hD hb hp
  unfold prun run
  rw [hp.len]
  split
  · rename_i hl
    have he : EI W st.length st D B (fun _ => 0) (vs.map some ++ List.replicate (d.slots - vs.length) none) (qs.map some ++ List.replicate (d.slots - vs.length) none) := by
      have hg : ∀ i, (qs.map some ++ List.replicate (d.slots - vs.length) none)[i]? = if h : i < qs.length then some (some qs[i]) else if i < qs.length + (d.slots - vs.length) then some none else none := by
        intro i
        split
        · rw [List.getElem?_append_left (by simpa using ‹i < qs.length›)]
          simp [‹i < qs.length›]
        · rw [List.getElem?_append_right (by simpa using ‹¬ i < qs.length›)]
          simp only [List.length_map, List.getElem?_replicate]
          split
          · rw [if_pos (by omega)]
          · rw [if_neg (by omega)]
      have hW' : ∀ i ∈ W, qs.length ≤ i := fun i hi => by
        have := List.all_eq_true.mp hW i hi
        rw [hp.len, hl]
        exact of_decide_eq_true this
      have hn : ∀ i p, i ∈ W → (qs.map some ++ List.replicate (d.slots - vs.length) none)[i]? ≠ some (some p) := fun i p hi e => by
        rw [hg, dif_neg (by have := hW' i hi; omega)] at e
        split at e <;> cases e
      exact {
        own := fun i p hi e => absurd e (hn i p hi)
        inj := fun i j p q hi _ e _ _ => absurd e (hn i p hi)
        val := fun i p hi e => by
          rw [hg] at e
          split at e
          · rename_i hlt
            cases e
            obtain ⟨v, e1, e2⟩ := hp.get (n := i) (List.getElem?_eq_getElem hlt)
            refine ⟨v, ?_, e2⟩
            rw [List.getElem?_append_left (by have := lt_of_at e1; simpa using this)]
            simp [e1]
          · split at e <;> cases e
        len := by simp [hp.len]
        bD := hD
        bl := hb
        bs := Nat.le_refl _ }
    have h := ex_sim (B0 := B) hcs FUEL hb d.body hc (fun _ h => h) he hd
    have e : ∀ z : Res Out, (match z with
        | .ok (.rt r) st1 => .ok r st1
        | .ok (.nx _) st1 => .ok (.v .non) st1
        | .ok _ _ => .bad
        | .exc c p st1 => .exc c p st1
        | .bad => (.bad : Res RV)) = z.bind fun o st1 => match o with
          | .rt r => .ok r st1
          | .nx _ => .ok (.v .non) st1
          | _ => .bad := fun z => by
      cases z with
      | ok o st => cases o <;> rfl
      | _ => rfl
    have fin : Sim (fun q r st' => RS st' D B q r ∧ Ext D st st' ∧ DK ok D st') ((pex ps FUEL d.body (qs.map some ++ List.replicate (d.slots - vs.length) none)).bind fun o => match o with
      | .rt r => .ret r
      | .nx _ => .ret .non
      | _ => .bad) ((ex cs FUEL d.body (vs.map some ++ List.replicate (d.slots - vs.length) none) st).bind fun o st1 => match o with
          | .rt r => .ok r st1
          | .nx _ => .ok (.v .non) st1
          | _ => .bad) := by
      refine Sim.bind h fun o' o st' z => ?_
      cases o' <;> cases o <;> first | exact z.elim | skip
      · obtain ⟨B', O', a, b, c⟩ := z
        exact sim_ret ⟨.non, ⟨b.len, b.low he⟩, c⟩
      · obtain ⟨a, b, c, d⟩ := z
        exact sim_ret ⟨a, ⟨b, c⟩, d⟩
      · trivial
      · trivial
    rw [← e] at fin
    exact fin
  · trivial
end
end Mi
end
section
set_option linter.all false
set_option autoImplicit false
/-! PvWp: what holds of all ends of a tree; how a law closes. -/
namespace Mi
section
variable {α β : Type}
/-- all ends are values, and so they are -/
def All0 : Tr α → (α → Prop) → Prop
  | .ret a, Q => Q a
  | .exc _ _, _ => False
  | .bad, _ => False
  | .draw m k, Q => 1 ≤ m ∧ m ≤ 2 ^ 4000 ∧ ∀ i, 0 ≤ i → i < m → All0 (k i) Q
theorem All0.imp_0 {P Q : α → Prop} : ∀ {t : Tr α}, All0 t P → (∀ a, P a → Q a) → All0 t Q
  | .ret a, h, k => k a h
  | .exc _ _, h, _ => h
  | .bad, h, _ => h
  | .draw m j, h, k => ⟨h.1, h.2.1, fun i i0 i1 => All0.imp_0 (h.2.2 i i0 i1) k⟩
theorem All0.bind_0 {P : α → Prop} {Q : β → Prop} {f : α → Tr β} : ∀ {t : Tr α}, All0 t P → (∀ a, P a → All0 (f a) Q) → All0 (t.bind f) Q
  | .ret a, h, k => k a h
  | .exc _ _, h, _ => h
  | .bad, h, _ => h
  | .draw m j, h, k => ⟨h.1, h.2.1, fun i i0 i1 => All0.bind_0 (h.2.2 i i0 i1) k⟩
theorem a_bind_0 {Q : β → Prop} {f : α → Tr β} {t : Tr α} : All0 (t.bind f) Q = All0 t fun a => All0 (f a) Q := by
  induction t with
  | ret a => rfl
  | exc _ _ => rfl
  | bad => rfl
  | draw m k ih =>
    show (1 ≤ m ∧ m ≤ 2 ^ 4000 ∧ ∀ i, 0 ≤ i → i < m → All0 ((k i).bind f) Q) = (1 ≤ m ∧ m ≤ 2 ^ 4000 ∧ ∀ i, 0 ≤ i → i < m → All0 (k i) fun a => All0 (f a) Q)
    simp only [ih]
theorem a_ret_0 {Q : α → Prop} {a : α} : All0 (.ret a) Q = Q a := rfl
theorem a_bad_0 {Q : α → Prop} : All0 .bad Q = False := rfl
theorem a_exc_0 {Q : α → Prop} {c : Nat} {p : List PV} : All0 (.exc c p) Q = False := rfl
theorem a_draw_0 {Q : α → Prop} {m : Int} {k : Int → Tr α} : All0 (.draw m k) Q = (1 ≤ m ∧ m ≤ 2 ^ 4000 ∧ ∀ i, 0 ≤ i → i < m → All0 (k i) Q) := rfl
theorem a_when_0 {Q : α → Prop} {b : Bool} {t : Tr α} : All0 (whenT b t) Q = (b = true ∧ All0 t Q) := by cases b <;> simp [whenT, a_bad_0]
theorem a_lift_0 {Q : α → Prop} {o : Option α} : All0 (liftT o) Q = ∃ a, o = some a ∧ Q a := by cases o <;> simp [liftT, a_bad_0, a_ret_0]
theorem a_some_0 {Q : α → Prop} {a : α} : All0 (liftT (some a)) Q = Q a := rfl
theorem a_none_0 {Q : α → Prop} : All0 (liftT (none : Option α)) Q = False := rfl
theorem a_noX_0 {Q : α → Prop} {t : Tr α} : All0 t.noX Q = All0 t Q := by
  induction t with
  | draw m k ih => show (1 ≤ m ∧ m ≤ 2 ^ 4000 ∧ ∀ i, 0 ≤ i → i < m → All0 ((k i).noX) Q) = _; simp only [ih]; rfl
  | _ => rfl
theorem a_kif_0 {Q : α → Prop} {b : Bool} {s t : Tr α} : All0 (kif b s t) Q = if b = true then All0 s Q else All0 t Q := by cases b <;> rfl
theorem a_ite_0 {Q : α → Prop} {c : Prop} [Decidable c] {s t : Tr α} : All0 (if c then s else t) Q = if c then All0 s Q else All0 t Q := by split <;> rfl
theorem All0.sim_0 {R : α → β → Store → Prop} {Q : α → Prop} : ∀ {t : Tr α} {r : Res β}, All0 t Q → Sim R t r → ∃ a b st, r = .ok b st ∧ Q a ∧ R a b st
  | .ret a, r, h, s => by obtain ⟨b, st, e, s⟩ := s; exact ⟨a, b, st, e, h, s⟩
  | .exc _ _, _, h, _ => h.elim
  | .bad, _, h, _ => h.elim
  | .draw m k, r, h, s => by
    obtain ⟨i, i0, i1, s⟩ := s h.1 h.2.1
    exact All0.sim_0 (h.2.2 i i0 i1) s
/-! ### binds, computed -/
theorem b_ret {a : α} {f : α → Tr β} : (Tr.ret a).bind f = f a := rfl
theorem b_badT {f : α → Tr β} : (Tr.bad : Tr α).bind f = .bad := rfl
theorem b_draw {m : Int} {k : Int → Tr α} {f : α → Tr β} : (Tr.draw m k).bind f = .draw m fun i => (k i).bind f := rfl
theorem b_assocT {γ : Type} {t : Tr α} {f : α → Tr β} {g : β → Tr γ} : (t.bind f).bind g = t.bind fun a => (f a).bind g := by
  induction t with
  | draw m k ih => show Tr.draw m _ = Tr.draw m _; congr 1; funext i; exact ih i
  | _ => rfl
theorem b_retT {t : Tr α} : t.bind .ret = t := by
  induction t with
  | draw m k ih => show Tr.draw m _ = Tr.draw m _; congr 1; funext i; exact ih i
  | _ => rfl
theorem w_true {t : Tr α} : whenT true t = t := rfl
theorem w_false {t : Tr α} : whenT false t = .bad := rfl
theorem l_someT {a : α} : liftT (some a) = .ret a := rfl
theorem l_noneT : liftT (none : Option α) = .bad := rfl
theorem kif_t {x y : α} : kif true x y = x := rfl
theorem kif_f {x y : α} : kif false x y = y := rfl
theorem b_kif {b : Bool} {s t : Tr α} {f : α → Tr β} : (kif b s t).bind f = kif b (s.bind f) (t.bind f) := by cases b <;> rfl
end
/-! ### by trying all draws -/
def AllB {α : Type} (Q : α → Bool) : Tr α → Bool
  | .ret a => Q a
  | .exc _ _ => false
  | .bad => false
  | .draw m k => decide (1 ≤ m) && decide (m ≤ 1000000) && (List.range m.toNat).all fun i => AllB Q (k (Int.ofNat i))
theorem AllB.sound_0 {α : Type} {Q : α → Bool} : ∀ {t : Tr α}, AllB Q t = true → All0 t fun a => Q a = true
  | .ret a, h => h
  | .exc _ _, h => by cases h
  | .bad, h => by cases h
  | .draw m k, h => by
    simp only [AllB, Bool.and_eq_true, decide_eq_true_eq, List.all_eq_true, List.mem_range] at h
    refine ⟨h.1.1, Int.le_trans h.1.2 ?_, fun i i0 i1 => ?_⟩
    · have : (2 : Int) ^ 20 ≤ 2 ^ 4000 := by
        have := Nat.pow_le_pow_right (n := 2) (by decide) (show 20 ≤ 4000 by decide)
        exact_mod_cast this
      omega
    · obtain ⟨n, rfl⟩ := Int.eq_ofNat_of_zero_le i0
      exact AllB.sound_0 (h.2 n (by omega))
/-! ### a law closes -/
theorem law_close_0 {d : Def} {cs : List Fn} {ps : List PFn} {W : List Nat} {F : List Bool} {ok : Nat → Obj → Obj → Prop} {j k : Nat} {rest : S} {f : Fn} {ns : List Int}
    (hp : d.pars = 1) (hbody : d.body = .seq (.asg (.tg (.sl j)) (.call false k [] (.cons (.x 0) .nil))) rest) (hk : cs[k]? = some f) (hj : 1 ≤ j ∧ j < d.slots)
    (hf : Ok (f [.ref 0] [.frz (ns.map .int)]) fun r st => ∃ e l, r = .v (.ref e) ∧ DK ok (some (e, l)) st)
    (hcs : CsR ok F ps cs) (hW : W.contains j = false) (hc : chkW W F rest = true)
    (h : All0 (pex ps FUEL rest ((List.replicate d.slots none).set j (some .deck))) fun o => o = .rt (.bl true)) :
    ∃ st', run d cs [.ref 0] [.frz (ns.map .int)] = .ok (.v (.bl true)) st' := by
  obtain ⟨r, st, e1, e, l, rfl, hd⟩ := Ok.ex hf
  obtain ⟨ne, o1, o2, a1, a2, a3⟩ := hd e l rfl
  have hlen : ([Val.ref 0].map some ++ List.replicate (d.slots - 1) none).length = d.slots := by simp; omega
  have hρ : ev cs (.call false k [] (.cons (.x 0) .nil)) ([Val.ref 0].map some ++ List.replicate (d.slots - 1) none) [.frz (ns.map .int)] = .ok (.v (.ref e)) st := by
    simp only [ev, evs, hk, Res.bind, permute, runCall, Bool.false_eq_true, if_false, settles, settle]
    exact e1
  have he : EI W st.length st (some (e, l)) (inD (some (e, l))) (fun _ => 0) (([Val.ref 0].map some ++ List.replicate (d.slots - 1) none).set j (some (.ref e))) ((List.replicate d.slots none).set j (some .deck)) := by
    have hg : ∀ {i : Nat} {p : PV}, ((List.replicate d.slots (none : Option PV)).set j (some .deck))[i]? = some (some p) → i = j ∧ p = .deck := fun {i p} h => by
      by_cases ij : j = i
      · subst ij
        rw [List.getElem?_set_self (by simpa using hj.2)] at h
        cases h; exact ⟨rfl, rfl⟩
      · rw [List.getElem?_set_ne ij] at h
        rw [List.getElem?_replicate] at h
        split at h <;> cases h
    have hjW : j ∉ W := by simpa using hW
    exact {
      own := fun i p hi h => by obtain ⟨rfl, _⟩ := hg h; exact absurd hi hjW
      inj := fun i i' p q hi _ h _ _ => by obtain ⟨rfl, _⟩ := hg h; exact absurd hi hjW
      val := fun i p _ h => by
        obtain ⟨rfl, rfl⟩ := hg h
        exact ⟨.ref e, List.getElem?_set_self (by rw [hlen]; exact hj.2), .deck rfl⟩
      len := by simp; omega
      bD := fun _ h => h
      bl := fun n ⟨e', l', h1, h2⟩ => by
        cases h1
        rcases h2 with rfl | rfl
        · exact lt_of_at a1
        · exact lt_of_at a2
      bs := Nat.le_refl _ }
  have hs := ex_sim (B0 := inD (some (e, l))) (base := st.length) hcs FUEL (fun n z => he.bl n z) rest hc (fun _ z => z) he hd
  obtain ⟨a, b, st', e2, rfl, hR⟩ := All0.sim_0 h hs
  refine ⟨st', ?_⟩
  cases b with
  | rt r =>
    have : r = .v (.bl true) := (RS.w (A := fun _ => True) hR.1).bl
    subst this
    unfold run
    simp only [List.length_cons, List.length_nil, hp, Nat.zero_add, if_true, hbody, ex, hρ, Res.bind, settle, setG, bindT]
    rw [if_pos (by rw [hlen]; exact hj.2)]
    simp only [lift, e2]
  | _ => exact hR.elim
end Mi
end
section
set_option linter.all false
set_option autoImplicit false
/-! PvWp2: what holds of all ends, clause by clause. -/
namespace Mi
section
variable {cs : List PFn} {ρ : PEnv} {Q : PV → Prop} {a b c d e es : E} {v : Val}
theorem a_k_0 : All0 (pev cs (.k v) ρ) Q = (v.nr = true ∧ Q (v2p v)) := by rw [pev, a_when_0]; rfl
theorem a_kS_0 {x : List Nat} : All0 (pev cs (.k (.str x)) ρ) Q = Q (.str x) := rfl
theorem a_kI_0 {i : Int} : All0 (pev cs (.k (.int i)) ρ) Q = Q (.int i) := rfl
theorem a_kB_0 {i : Bool} : All0 (pev cs (.k (.bl i)) ρ) Q = Q (.bl i) := rfl
theorem a_kN_0 : All0 (pev cs (.k .non) ρ) Q = Q .non := rfl
theorem a_g_0 {nm : List Nat} : All0 (pev cs (.g nm v) ρ) Q = (v.nr = true ∧ Q (v2p v)) := by rw [pev, a_when_0]; rfl
theorem a_gS_0 {nm x : List Nat} : All0 (pev cs (.g nm (.str x)) ρ) Q = Q (.str x) := rfl
theorem a_gI_0 {nm : List Nat} {i : Int} : All0 (pev cs (.g nm (.int i)) ρ) Q = Q (.int i) := rfl
theorem a_x_0 {i : Nat} : All0 (pev cs (.x i) ρ) Q = onS ρ[i]? fun o => onS o Q := by
  rw [pev]
  cases ρ[i]? with
  | none => rfl
  | some o => cases o <;> rfl
theorem a_tup_0 : All0 (pev cs (.tup es) ρ) Q = All0 (pevs cs es ρ) fun rs => rs.length ≤ top ∧ Q (.tup rs) := by
  rw [pev, a_bind_0]; congr 1; funext rs; rw [a_when_0, decide_eq_true_eq]; rfl
theorem a_lst_0 : All0 (pev cs (.lst es) ρ) Q = All0 (pevs cs es ρ) fun rs => rs.length ≤ top ∧ Q (.lst rs) := by
  rw [pev, a_bind_0]; congr 1; funext rs; rw [a_when_0, decide_eq_true_eq]; rfl
theorem a_dic_0 : All0 (pev cs (.dic false es) ρ) Q = All0 (pevs cs es ρ) fun rs => onS (dicP rs) fun p => (nodupP p.1 = true ∧ p.1.length ≤ 15) ∧ Q (.dic p.1 p.2) := by
  rw [pev, a_bind_0]; congr 1; funext rs; rw [a_bind_0]
  cases dicP rs with
  | none => rfl
  | some p =>
    show All0 (whenT _ _) Q = _
    rw [a_when_0]
    simp only [Bool.not_false, Bool.true_and, Bool.and_eq_true, decide_eq_true_eq]; rfl
theorem a_op1_0 {o : O1} : All0 (pev cs (.op1 o a) ρ) Q = All0 (pev cs a ρ) fun r => All0 (p1 o r) Q := by rw [pev, a_bind_0]
theorem a_op2_0 {o : O2} : All0 (pev cs (.op2 o a b) ρ) Q = All0 (pev cs a ρ) fun r => All0 (pev cs b ρ) fun q => All0 (p2 o r q) Q := by
  rw [pev, a_bind_0]; congr 1; funext r; rw [a_bind_0]
theorem a_optT_0 {f : Tr PV} {Q : Option Int → Prop} : All0 (optIP true f) Q = Q none := rfl
theorem a_optF_0 {f : Tr PV} {Q : Option Int → Prop} : All0 (optIP false f) Q = All0 f fun r => match r with | .int i => Q (some i) | _ => False := by
  simp only [optIP, Bool.false_eq_true, if_false, a_bind_0]
  congr 1; funext r; cases r <;> rfl
theorem a_sl_0 {lo hi : E} : All0 (pev cs (.sl a lo hi) ρ) Q = All0 (pev cs a ρ) fun r => All0 (optIP (isNil lo) (pev cs lo ρ)) fun l => All0 (optIP (isNil hi) (pev cs hi ρ)) fun h => All0 (psl r l h) Q := by
  rw [pev, a_bind_0]; congr 1; funext r; rw [a_bind_0]; congr 1; funext l; rw [a_bind_0]
theorem a_and_0 : All0 (pev cs (.and a b) ρ) Q = All0 (pev cs a ρ) fun r => match r with | .bl k => if k = true then All0 (pev cs b ρ) Q else Q (.bl false) | _ => False := by
  rw [pev, a_bind_0]; congr 1; funext r
  cases r <;> first | rfl | skip
  exact a_kif_0
theorem a_or_0 : All0 (pev cs (.or a b) ρ) Q = All0 (pev cs a ρ) fun r => match r with | .bl k => if k = true then Q (.bl true) else All0 (pev cs b ρ) Q | _ => False := by
  rw [pev, a_bind_0]; congr 1; funext r
  cases r <;> first | rfl | skip
  exact a_kif_0
theorem a_not_0 : All0 (pev cs (.not a) ρ) Q = All0 (pev cs a ρ) fun r => onS (truthP r) fun k => Q (.bl (!k)) := by
  rw [pev, a_bind_0]; congr 1; funext r
  unfold truthT
  cases truthP r <;> rfl
theorem a_iteE_0 : All0 (pev cs (.ite c a b) ρ) Q = All0 (pev cs c ρ) fun r => onS (truthP r) fun k => if k = true then All0 (pev cs a ρ) Q else All0 (pev cs b ρ) Q := by
  rw [pev, a_bind_0]; congr 1; funext r
  unfold truthT
  cases truthP r with
  | none => rfl
  | some k => exact a_kif_0
theorem a_chain_0 {o p : O2} : All0 (pev cs (.chain o p a b c) ρ) Q = All0 (pev cs a ρ) fun r => All0 (pev cs b ρ) fun q => (isVP r && isVP q) = true ∧ All0 (p2 o r q) fun z => match z with
    | .bl k => if k = true then All0 (pev cs c ρ) fun u => All0 (p2 p q u) Q else Q (.bl false)
    | _ => False := by
  rw [pev, a_bind_0]; congr 1; funext r; rw [a_bind_0]; congr 1; funext q; rw [a_when_0, a_bind_0]
  congr 2; funext z
  cases z <;> first | rfl | skip
  rename_i k
  show All0 (kif k _ _) Q = _
  rw [a_kif_0, a_bind_0]; rfl
theorem a_call_0 {j : Nat} {kw : List Nat} : All0 (pev cs (.call false j kw es) ρ) Q = All0 (pevs cs es ρ) fun rs => onS cs[j]? fun f => All0 (f (permP kw rs)) Q := by
  rw [pev, a_bind_0]; congr 1; funext rs
  cases cs[j]? <;> rfl
theorem a_nil_0 {Q : List PV → Prop} : All0 (pevs cs .nil ρ) Q = Q [] := by rw [pevs]; rfl
theorem a_cons_0 {Q : List PV → Prop} : All0 (pevs cs (.cons a b) ρ) Q = All0 (pev cs a ρ) fun r => All0 (pevs cs b ρ) fun rs => Q (r :: rs) := by
  rw [pevs, a_bind_0]; congr 1; funext r; rw [a_bind_0]; rfl
theorem a_comp_0 {own : List Nat} {t : T} {k : IK} : All0 (pev cs (.comp own t k a b c e) ρ) Q = All0 (pev cs a ρ) fun r => All0 (opt2P (isNil b) (pev cs b ρ)) fun q => onS (walkP k r q) fun xs =>
    All0 (compP t (fun ρ' => optCP (isNil c) (pev cs c ρ')) (fun ρ' => pev cs e ρ') (wipeP ρ own) xs []) fun l => Q (.lst l) := by
  rw [pev, a_bind_0]; congr 1; funext r; rw [a_bind_0]; congr 1; funext q; rw [a_bind_0]
  cases walkP k r q with
  | none => rfl
  | some xs =>
    show All0 (Tr.bind _ _) Q = _
    rw [a_bind_0, a_noX_0]; rfl
theorem a_op2T_0 {f : Tr PV} : All0 (opt2P true f) Q = Q .non := rfl
theorem a_op2F_0 {f : Tr PV} : All0 (opt2P false f) Q = All0 f Q := rfl
theorem a_optCT_0 {f : Tr PV} {Q : Bool → Prop} : All0 (optCP true f) Q = Q true := rfl
theorem a_optCF_0 {f : Tr PV} {Q : Bool → Prop} : All0 (optCP false f) Q = All0 f fun r => onS (truthP r) Q := by
  simp only [optCP, Bool.false_eq_true, if_false, a_bind_0]
  congr 1; funext r; unfold truthT; cases truthP r <;> rfl
end
section
variable {cs : List PFn} {ρ : PEnv} {n i : Nat} {Q : POut → Prop} {s t : S} {a b c e : E} {tg : T}
theorem h_skip_0 : All0 (pex cs n .skip ρ) Q = Q (.nx ρ) := rfl
theorem h_seq_0 : All0 (pex cs n (.seq s t) ρ) Q = All0 (pex cs n s ρ) fun o => match o with | .nx ρ1 => All0 (pex cs n t ρ1) Q | o => Q o := by
  rw [pex, a_bind_0]; congr 1; funext o; cases o <;> rfl
theorem h_asg_0 : All0 (pex cs n (.asg (.tg tg) e) ρ) Q = All0 (pev cs e ρ) fun r => onS (bindP tg r ρ) fun ρ1 => Q (.nx ρ1) := by
  rw [pex, a_bind_0]; congr 1; funext r; rw [a_bind_0]; cases bindP tg r ρ <;> rfl
def slotA (i : Nat) (ρ : PEnv) (Q : List PV → Prop) : Prop := onS ρ[i]? fun o => onS o fun p => match p with | .lst xs => Q xs | _ => False
theorem a_slot_0 {Q : List PV → Prop} : All0 (slotL i ρ) Q = slotA i ρ Q := by
  unfold slotL slotA
  cases ρ[i]? with
  | none => rfl
  | some o =>
    cases o with
    | none => rfl
    | some p => cases p <;> rfl
theorem h_mv_0 {j : Nat} : All0 (pex cs n (.asg (.mv i j) e) ρ) Q = All0 (pev cs e ρ) fun r => onS (bindP (.sl i) r ρ) fun ρ1 => Q (.nx (ρ1.set j none)) := by
  rw [pex, a_bind_0]; congr 1; funext r; rw [a_bind_0]; cases bindP (.sl i) r ρ <;> rfl
theorem h_un_0 : All0 (pex cs n (.asg (.un tg) e) ρ) Q = All0 (pev cs e ρ) fun r => match r with
      | .lst xs => onS (bindPs tg xs ρ) fun ρ1 => Q (.nx ρ1)
      | _ => False := by
  simp only [pex]
  rw [a_bind_0]
  congr 1; funext r
  cases r <;> first | rfl | skip
  rename_i xs
  dsimp only
  rw [a_bind_0]
  cases bindPs tg xs ρ <;> rfl
theorem h_sub_0 : All0 (pex cs n (.asg (.sub (.x i) a) e) ρ) Q = All0 (pev cs e ρ) fun r => slotA i ρ fun xs => All0 (pev cs a ρ) fun q => match q with | .int j => onS (ix xs.length j) fun m => Q (.nx (ρ.set i (some (.lst (xs.set m r))))) | _ => False := by
  rw [pex, a_bind_0]; congr 1; funext r; rw [a_bind_0, a_slot_0]; congr 1; funext xs; rw [a_bind_0]; congr 1; funext q
  cases q <;> first | rfl | skip
  rename_i j
  show All0 ((liftT (ix xs.length j)).bind _) Q = onS (ix xs.length j) _
  rw [a_bind_0]; cases ix xs.length j <;> rfl
theorem h_app_0 : All0 (pex cs n (.ex (.op2 .append (.x i) e)) ρ) Q = All0 (pev cs e ρ) fun q => slotA i ρ fun xs => xs.length < top ∧ Q (.nx (ρ.set i (some (.lst (xs ++ [q]))))) := by
  rw [pex]
  simp only [isDo, if_true]
  rw [a_bind_0]; congr 1; funext q; rw [a_bind_0, a_slot_0]; congr 1; funext xs; rw [a_bind_0]
  simp only [doL]
  rw [a_when_0, decide_eq_true_eq]; rfl
theorem h_ext_0 : All0 (pex cs n (.ex (.op2 .extend (.x i) e)) ρ) Q = All0 (pev cs e ρ) fun q => slotA i ρ fun xs => match q with | .lst ys => xs.length + ys.length ≤ top ∧ Q (.nx (ρ.set i (some (.lst (xs ++ ys))))) | _ => False := by
  rw [pex]
  simp only [isDo, if_true]
  rw [a_bind_0]; congr 1; funext q; rw [a_bind_0, a_slot_0]; congr 1; funext xs; rw [a_bind_0]
  cases q <;> first | rfl | skip
  simp only [doL]
  rw [a_when_0, decide_eq_true_eq]; rfl
theorem h_ret_0 : All0 (pex cs n (.ret e) ρ) Q = All0 (pev cs e ρ) fun r => Q (.rt r) := by rw [pex, a_bind_0]; rfl
theorem h_retN_0 : All0 (pex cs n .retN ρ) Q = Q (.rt .non) := rfl
theorem h_brk_0 : All0 (pex cs n .brk ρ) Q = Q (.bk ρ) := rfl
theorem h_cont_0 : All0 (pex cs n .cont ρ) Q = Q (.ct ρ) := rfl
theorem h_ite_0 : All0 (pex cs n (.ite c s t) ρ) Q = All0 (pev cs c ρ) fun r => onS (truthP r) fun k => if k = true then All0 (pex cs n s ρ) Q else All0 (pex cs n t ρ) Q := by
  rw [pex, a_bind_0]; congr 1; funext r
  unfold truthT
  cases truthP r with
  | none => rfl
  | some k => exact a_kif_0
theorem h_whl_0 : All0 (pex cs n (.whil c s) ρ) Q = All0 (whileP (fun ρ' => (pev cs c ρ').bind truthT) (fun ρ' => pex cs n s ρ') n ρ) Q := by rw [pex]
theorem h_fo_0 {k : IK} : All0 (pex cs n (.fo tg k a b s) ρ) Q = All0 (pev cs a ρ) fun r => All0 (opt2P (isNil b) (pev cs b ρ)) fun q => onS (walkP k r q) fun xs => All0 (forP tg (fun ρ' => pex cs n s ρ') xs ρ) Q := by
  rw [pex, a_bind_0]; congr 1; funext r; rw [a_bind_0]; congr 1; funext q; rw [a_bind_0]; cases walkP k r q <;> rfl
theorem h_run_0 {d : Def} {args : List PV} {Q : PV → Prop} : All0 (prun d cs args) Q = (args.length = d.pars ∧ All0 (pex cs FUEL d.body (args.map some ++ List.replicate (d.slots - args.length) none)) fun o => match o with | .rt r => Q r | .nx _ => Q .non | _ => False) := by
  unfold prun
  rw [a_ite_0]
  by_cases h : args.length = d.pars
  · rw [if_pos h, a_bind_0]
    simp only [h, true_and]
    congr 1; funext o; cases o <;> rfl
  · simp [h, a_bad_0]
/-- to the next statement, by what is known there -/
theorem seq_all_0 (P : PEnv → Prop) (h : All0 (pex cs n s ρ) fun o => match o with | .nx ρ1 => P ρ1 | o => Q o) (k : ∀ ρ1, P ρ1 → All0 (pex cs n t ρ1) Q) : All0 (pex cs n (.seq s t) ρ) Q := by
  rw [h_seq_0]
  refine All0.imp_0 h fun o q => ?_
  cases o with
  | nx ρ1 => exact k ρ1 q
  | _ => exact q
end
/-! ### operations -/
section
variable {Q : PV → Prop} {a b : PV} {i j : Int} {x y : List Nat} {xs ys : List PV} {k : Bool}
theorem o_eq_0 : All0 (p2 .eq a b) Q = onS (eqP 61 a b) fun k => Q (.bl k) := by simp only [p2]; cases eqP 61 a b <;> rfl
theorem o_ne_0 : All0 (p2 .ne a b) Q = onS (eqP 61 a b) fun k => Q (.bl (!k)) := by simp only [p2]; cases eqP 61 a b <;> rfl
theorem o_lt_0 : All0 (p2 .lt (.int i) (.int j)) Q = Q (.bl (decide (i < j))) := rfl
theorem o_le_0 : All0 (p2 .le (.int i) (.int j)) Q = Q (.bl (decide (i ≤ j))) := rfl
theorem o_gt_0 : All0 (p2 .gt (.int i) (.int j)) Q = Q (.bl (decide (j < i))) := rfl
theorem o_ge_0 : All0 (p2 .ge (.int i) (.int j)) Q = Q (.bl (decide (j ≤ i))) := rfl
theorem o_addI_0 : All0 (p2 .add (.int i) (.int j)) Q = Q (.int (i + j)) := rfl
theorem o_addS_0 : All0 (p2 .add (.str x) (.str y)) Q = (x.length + y.length ≤ top ∧ Q (.str (x ++ y))) := by simp only [p2]; rw [a_when_0, decide_eq_true_eq]; rfl
theorem o_addT_0 : All0 (p2 .add (.tup xs) (.tup ys)) Q = (xs.length + ys.length ≤ top ∧ Q (.tup (xs ++ ys))) := by simp only [p2]; rw [a_when_0, decide_eq_true_eq]; rfl
theorem o_addL_0 : All0 (p2 .add (.lst xs) (.lst ys)) Q = (xs.length + ys.length ≤ top ∧ Q (.lst (xs ++ ys))) := by simp only [p2]; rw [a_when_0, decide_eq_true_eq]; rfl
theorem o_sub_0 : All0 (p2 .sub (.int i) (.int j)) Q = Q (.int (i - j)) := rfl
theorem o_mulI_0 : All0 (p2 .mul (.int i) (.int j)) Q = ((i.natAbs < 2 ^ 64 ∨ j.natAbs < 2 ^ 64 ∨ i.natAbs.log2 + j.natAbs.log2 < 1000000) ∧ Q (.int (i * j))) := by simp only [p2]; rw [a_when_0, decide_eq_true_eq]; rfl
theorem o_mulT_0 : All0 (p2 .mul (.tup xs) (.int j)) Q = (((2 ≤ j ∧ j ≤ 1000 ∧ xs.length ≤ 1000) ∧ xs.isEmpty = false) ∧ Q (.tup (List.replicate j.toNat xs).flatten)) := by
  simp only [p2]; rw [a_when_0, Bool.and_eq_true, decide_eq_true_eq, Bool.not_eq_true']; rfl
theorem o_mulL_0 : All0 (p2 .mul (.lst xs) (.int j)) Q = ((-(2 ^ 63) ≤ j ∧ j < 2 ^ 63 ∧ xs.length * j.toNat ≤ top) ∧ Q (.lst (List.replicate j.toNat xs).flatten)) := by simp only [p2]; rw [a_when_0, decide_eq_true_eq]; rfl
theorem o_mod_0 : All0 (p2 .mod (.int i) (.int j)) Q = (0 < j ∧ Q (.int (i % j))) := by simp only [p2]; rw [a_when_0, decide_eq_true_eq]; rfl
theorem o_fdiv_0 : All0 (p2 .fdiv (.int i) (.int j)) Q = ((0 < j ∧ j.natAbs.log2 < 9000) ∧ Q (.int (i / j))) := by simp only [p2]; rw [a_when_0, decide_eq_true_eq]; rfl
theorem o_pow_0 : All0 (p2 .pow (.int i) (.int j)) Q = ((0 ≤ j ∧ j ≤ 1000000 ∧ i.natAbs < 2 ^ 64) ∧ Q (.int (i ^ j.toNat))) := by simp only [p2]; rw [a_when_0, decide_eq_true_eq]; rfl
theorem o_inT_0 (ha : isVP a = true) : All0 (p2 .isin a (.tup ys)) Q = onS (anyEqP a ys) fun k => Q (.bl k) := by
  have : p2 .isin a (.tup ys) = liftT ((anyEqP a ys).map .bl) := by cases a <;> first | rfl | cases ha
  rw [this]; cases anyEqP a ys <;> rfl
theorem o_inL_0 (ha : isVP a = true) : All0 (p2 .isin a (.lst ys)) Q = onS (anyEqP a ys) fun k => Q (.bl k) := by
  have : p2 .isin a (.lst ys) = liftT ((anyEqP a ys).map .bl) := by cases a <;> first | rfl | cases ha
  rw [this]; cases anyEqP a ys <;> rfl
theorem o_ninT_0 (ha : isVP a = true) : All0 (p2 .notin a (.tup ys)) Q = onS (anyEqP a ys) fun k => Q (.bl (!k)) := by
  have : p2 .notin a (.tup ys) = liftT ((anyEqP a ys).map fun b => .bl (!b)) := by cases a <;> first | rfl | cases ha
  rw [this]; cases anyEqP a ys <;> rfl
theorem o_ninL_0 (ha : isVP a = true) : All0 (p2 .notin a (.lst ys)) Q = onS (anyEqP a ys) fun k => Q (.bl (!k)) := by
  have : p2 .notin a (.lst ys) = liftT ((anyEqP a ys).map fun b => .bl (!b)) := by cases a <;> first | rfl | cases ha
  rw [this]; cases anyEqP a ys <;> rfl
theorem o_inTs_0 : All0 (p2 .isin (.str x) (.tup ys)) Q = onS (anyEqP (.str x) ys) fun k => Q (.bl k) := o_inT_0 rfl
theorem o_inTi_0 : All0 (p2 .isin (.int i) (.tup ys)) Q = onS (anyEqP (.int i) ys) fun k => Q (.bl k) := o_inT_0 rfl
theorem o_inTt_0 : All0 (p2 .isin (.tup xs) (.tup ys)) Q = onS (anyEqP (.tup xs) ys) fun k => Q (.bl k) := o_inT_0 rfl
theorem o_inLs_0 : All0 (p2 .isin (.str x) (.lst ys)) Q = onS (anyEqP (.str x) ys) fun k => Q (.bl k) := o_inL_0 rfl
theorem o_inLi_0 : All0 (p2 .isin (.int i) (.lst ys)) Q = onS (anyEqP (.int i) ys) fun k => Q (.bl k) := o_inL_0 rfl
theorem o_inLt_0 : All0 (p2 .isin (.tup xs) (.lst ys)) Q = onS (anyEqP (.tup xs) ys) fun k => Q (.bl k) := o_inL_0 rfl
theorem o_ninTs_0 : All0 (p2 .notin (.str x) (.tup ys)) Q = onS (anyEqP (.str x) ys) fun k => Q (.bl (!k)) := o_ninT_0 rfl
theorem o_ninTi_0 : All0 (p2 .notin (.int i) (.tup ys)) Q = onS (anyEqP (.int i) ys) fun k => Q (.bl (!k)) := o_ninT_0 rfl
theorem o_ninTt_0 : All0 (p2 .notin (.tup xs) (.tup ys)) Q = onS (anyEqP (.tup xs) ys) fun k => Q (.bl (!k)) := o_ninT_0 rfl
theorem o_ninLs_0 : All0 (p2 .notin (.str x) (.lst ys)) Q = onS (anyEqP (.str x) ys) fun k => Q (.bl (!k)) := o_ninL_0 rfl
theorem o_ninLi_0 : All0 (p2 .notin (.int i) (.lst ys)) Q = onS (anyEqP (.int i) ys) fun k => Q (.bl (!k)) := o_ninL_0 rfl
theorem o_ninLt_0 : All0 (p2 .notin (.tup xs) (.lst ys)) Q = onS (anyEqP (.tup xs) ys) fun k => Q (.bl (!k)) := o_ninL_0 rfl
theorem t_bl : truthP (.bl k) = some k := rfl
theorem t_non : truthP .non = some false := rfl
theorem t_int : truthP (.int i) = some (i != 0) := rfl
theorem t_tup : truthP (.tup xs) = some (!xs.isEmpty) := rfl
theorem t_lst : truthP (.lst xs) = some (!xs.isEmpty) := rfl
theorem v_lst : isVP (.lst xs) = false := rfl
theorem v_tup : isVP (.tup xs) = true := rfl
theorem v_int : isVP (.int i) = true := rfl
theorem v_str : isVP (.str x) = true := rfl
theorem v_bl : isVP (.bl k) = true := rfl
theorem v_non : isVP .non = true := rfl
theorem y_int : keyP (.int i) = true := rfl
theorem y_str : keyP (.str x) = true := rfl
theorem o_ixT_0 : All0 (p2 .ix (.tup xs) (.int i)) Q = onS (at' xs i) Q := by
  show All0 (liftT (at' xs i)) Q = _
  cases at' xs i <;> rfl
theorem o_ixL_0 : All0 (p2 .ix (.lst xs) (.int i)) Q = onS (at' xs i) Q := by
  show All0 (liftT (at' xs i)) Q = _
  cases at' xs i <;> rfl
theorem o_ixD_0 {ks vs : List PV} (hb : keyP b = true) : All0 (p2 .ix (.dic ks vs) b) Q = onS (getP b ks vs) Q := by
  have : p2 .ix (.dic ks vs) b = liftT (getP b ks vs) := by cases b <;> first | rfl | cases hb
  rw [this]; cases getP b ks vs <;> rfl
theorem o_index_0 (hb : isVP b = true) : All0 (p2 .index (.lst xs) b) Q = onS (placeEqP b xs) fun n => Q (.int (n : Int)) := by
  have : p2 .index (.lst xs) b = liftT ((placeEqP b xs).map fun (n : Nat) => PV.int (n : Int)) := by cases b <;> first | rfl | cases hb
  rw [this]; cases placeEqP b xs <;> rfl
theorem o_count_0 (hb : isVP b = true) : All0 (p2 .count (.lst xs) b) Q = onS (countEqP b xs) fun n => Q (.int (n : Int)) := by
  have : p2 .count (.lst xs) b = liftT ((countEqP b xs).map fun (n : Nat) => PV.int (n : Int)) := by cases b <;> first | rfl | cases hb
  rw [this]; cases countEqP b xs <;> rfl
theorem o_neg_0 : All0 (p1 .neg (.int i)) Q = Q (.int (-i)) := rfl
theorem o_abs_0 : All0 (p1 .abs (.int i)) Q = Q (.int (if i < 0 then -i else i)) := rfl
theorem o_int_0 : All0 (p1 .int (.int i)) Q = Q (.int i) := rfl
theorem o_intB_0 : All0 (p1 .int (.bl k)) Q = Q (.int (if k then 1 else 0)) := rfl
theorem o_lenT_0 : All0 (p1 .len (.tup xs)) Q = Q (.int xs.length) := rfl
theorem o_lenL_0 : All0 (p1 .len (.lst xs)) Q = Q (.int xs.length) := rfl
theorem o_lenS_0 : All0 (p1 .len (.str x)) Q = (x.length ≤ top ∧ Q (.int x.length)) := by
  show All0 (whenT _ _) Q = _
  rw [a_when_0, decide_eq_true_eq]; rfl
theorem o_tupT_0 : All0 (p1 .tuple (.tup xs)) Q = Q (.tup xs) := rfl
theorem o_tupL_0 : All0 (p1 .tuple (.lst xs)) Q = Q (.tup xs) := rfl
theorem o_lstT_0 : All0 (p1 .list (.tup xs)) Q = Q (.lst xs) := rfl
theorem o_lstL_0 : All0 (p1 .list (.lst xs)) Q = Q (.lst xs) := rfl
theorem o_rev_0 : All0 (p1 .rev (.lst xs)) Q = Q (.lst xs.reverse) := rfl
theorem o_isN_0 : All0 (p1 .isNon a) Q = Q (.bl (a == .non)) := rfl
theorem o_noN_0 : All0 (p1 .notNon a) Q = Q (.bl (!(a == .non))) := rfl
theorem n_non : (PV.non == PV.non) = true := rfl
theorem n_bl : (PV.bl k == PV.non) = false := rfl
theorem n_int : (PV.int i == PV.non) = false := rfl
theorem n_str : (PV.str x == PV.non) = false := rfl
theorem n_tup : (PV.tup xs == PV.non) = false := rfl
theorem n_lst : (PV.lst xs == PV.non) = false := rfl
/-- it is shown -/
def shows (p : PV) (x : List Nat) : Prop := ∃ d, datP 60 p = some d ∧ dsz d ≤ top ∧ x = d.shown.cps.toList
theorem o_repr_0 {x : List Nat} (h : shows a x) : All0 (p1 .repr a) Q = Q (.str x) := by
  obtain ⟨d, e, l, rfl⟩ := h
  simp only [p1, e]
  rw [a_when_0, decide_eq_true_eq]
  simp only [l, true_and]; rfl
theorem o_sortS_0 {zs : List (List Nat)} (h : allStrsP xs = some zs) : All0 (p1 .sorted (.lst xs)) Q = (xs.length < 64 ∧ Q (.lst ((isort leN zs).map .str))) := by
  simp only [p1, seqP]
  rw [a_when_0, decide_eq_true_eq]
  simp only [h]; rfl
theorem o_sortO_0 : All0 (p1 .sorted (.lst xs)) Q = (xs.length < 64 ∧ match allStrsP xs with
      | some ys => Q (.lst ((isort leN ys).map .str))
      | none => match allIntsP xs with
        | some ys => Q (.lst ((isort (fun a b => decide (a ≤ b)) ys).map .int))
        | none => sortOkP xs = true ∧ Q (.lst (isort leTP xs))) := by
  simp only [p1, seqP]
  rw [a_when_0, decide_eq_true_eq]
  cases allStrsP xs with
  | some ys => rfl
  | none => cases allIntsP xs with
    | some _ => rfl
    | none => dsimp only; rw [a_when_0]; rfl
theorem o_iSs_0 : All0 (p1 .isStr (.str x)) Q = Q (.bl true) := rfl
theorem o_iSi_0 : All0 (p1 .isStr (.int i)) Q = Q (.bl false) := rfl
theorem o_iSb_0 : All0 (p1 .isStr (.bl k)) Q = Q (.bl false) := rfl
theorem o_iSn_0 : All0 (p1 .isStr .non) Q = Q (.bl false) := rfl
theorem o_iSt_0 : All0 (p1 .isStr (.tup xs)) Q = Q (.bl false) := rfl
theorem o_iSl_0 : All0 (p1 .isStr (.lst xs)) Q = Q (.bl false) := rfl
theorem o_iIs_0 : All0 (p1 .isInt (.str x)) Q = Q (.bl false) := rfl
theorem o_iIi_0 : All0 (p1 .isInt (.int i)) Q = Q (.bl true) := rfl
theorem o_iIb_0 : All0 (p1 .isInt (.bl k)) Q = Q (.bl true) := rfl
theorem o_iIn_0 : All0 (p1 .isInt .non) Q = Q (.bl false) := rfl
theorem o_iIt_0 : All0 (p1 .isInt (.tup xs)) Q = Q (.bl false) := rfl
theorem o_iIl_0 : All0 (p1 .isInt (.lst xs)) Q = Q (.bl false) := rfl
theorem o_iTs_0 : All0 (p1 .isTup (.str x)) Q = Q (.bl false) := rfl
theorem o_iTi_0 : All0 (p1 .isTup (.int i)) Q = Q (.bl false) := rfl
theorem o_iTb_0 : All0 (p1 .isTup (.bl k)) Q = Q (.bl false) := rfl
theorem o_iTn_0 : All0 (p1 .isTup .non) Q = Q (.bl false) := rfl
theorem o_iTt_0 : All0 (p1 .isTup (.tup xs)) Q = Q (.bl true) := rfl
theorem o_iTl_0 : All0 (p1 .isTup (.lst xs)) Q = Q (.bl false) := rfl
theorem o_iBs_0 : All0 (p1 .isBool (.str x)) Q = Q (.bl false) := rfl
theorem o_iBi_0 : All0 (p1 .isBool (.int i)) Q = Q (.bl false) := rfl
theorem o_iBb_0 : All0 (p1 .isBool (.bl k)) Q = Q (.bl true) := rfl
theorem o_iBn_0 : All0 (p1 .isBool .non) Q = Q (.bl false) := rfl
theorem o_iBt_0 : All0 (p1 .isBool (.tup xs)) Q = Q (.bl false) := rfl
theorem o_iBl_0 : All0 (p1 .isBool (.lst xs)) Q = Q (.bl false) := rfl
theorem o_rngL_0 : All0 (p1 .rngL (.int i)) Q = (rngOk 0 i = true ∧ Q (.lst (rngP 0 (i - 0).toNat))) := by
  show All0 (whenT _ _) Q = _
  rw [a_when_0]; rfl
theorem o_rngT_0 : All0 (p1 .rngT (.int i)) Q = (rngOk 0 i = true ∧ Q (.tup (rngP 0 (i - 0).toNat))) := by
  show All0 (whenT _ _) Q = _
  rw [a_when_0]; rfl
theorem o_rngL2_0 : All0 (p2 .rngL2 (.int i) (.int j)) Q = (rngOk i j = true ∧ Q (.lst (rngP i (j - i).toNat))) := by
  show All0 (whenT _ _) Q = _
  rw [a_when_0]; rfl
theorem o_rngT2_0 : All0 (p2 .rngT2 (.int i) (.int j)) Q = (rngOk i j = true ∧ Q (.tup (rngP i (j - i).toNat))) := by
  show All0 (whenT _ _) Q = _
  rw [a_when_0]; rfl
theorem o_lmax_0 {y : Int} {ys : List Int} (h : allIntsP xs = some (y :: ys)) : All0 (p1 .lmax (.lst xs)) Q = Q (.int (maxI y ys)) := by
  simp only [p1, seqP, h]; rfl
theorem o_lmin_0 {y : Int} {ys : List Int} (h : allIntsP xs = some (y :: ys)) : All0 (p1 .lmin (.lst xs)) Q = Q (.int (minI y ys)) := by
  simp only [p1, seqP, h]; rfl
theorem o_isT_0  : All0 (p1 .isTrue (.bl k)) Q = Q (.bl k) := by
  rfl
theorem o_notT_0  : All0 (p1 .notTrue (.bl k)) Q = Q (.bl (!k)) := by
  rfl
theorem o_max2_0  : All0 (p2 .max2 (.int i) (.int j)) Q = Q (.int (if j > i then j else i)) := by
  rfl
theorem o_min2_0  : All0 (p2 .min2 (.int i) (.int j)) Q = Q (.int (if j < i then j else i)) := by
  rfl
theorem o_sortT_0 (h1 : allStrsP xs = none) (h2 : allIntsP xs = none) : All0 (p1 .sorted (.lst xs)) Q = (xs.length < 64 ∧ sortOkP xs = true ∧ Q (.lst (isort leTP xs))) := by
  simp only [p1, seqP]
  rw [a_when_0, decide_eq_true_eq]
  simp only [h1, h2]
  rw [a_when_0]; rfl
theorem tupS_eq {a b : List (List Nat)} : (PV.tup (a.map .str) = PV.tup (b.map .str)) = (a = b) := by
  apply propext
  refine ⟨fun h => ?_, fun h => h ▸ rfl⟩
  injection h with h
  induction a generalizing b with
  | nil => cases b with
    | nil => rfl
    | cons _ _ => cases h
  | cons x a ih => cases b with
    | nil => cases h
    | cons y b =>
      injection h with h1 h2
      injection h1 with h1
      rw [h1, ih h2]
theorem tupS_b {a b : List (List Nat)} : (PV.tup (a.map .str) = PV.tup (b.map .str)) = ((a == b) = true) := by
  rw [tupS_eq, beq_iff_eq]
theorem ite_b {k x y : Bool} : (if k = true then x = true else y = true) = ((bif k then x else y) = true) := by cases k <;> simp
theorem o_slL_0 {lo hi : Option Int} : All0 (psl (.lst xs) lo hi) Q = Q (.lst (cut xs lo hi)) := rfl
theorem o_slT_0 {lo hi : Option Int} : All0 (psl (.tup xs) lo hi) Q = Q (.tup (cut xs lo hi)) := rfl
end
theorem rep_none {k : Nat} : List.replicate (k + 1) (none : Option PV) = none :: List.replicate k none := rfl
theorem rep_none0 : List.replicate 0 (none : Option PV) = [] := rfl
theorem flat_rep {α : Type} {x : α} : ∀ {n : Nat}, (List.replicate n [x]).flatten = List.replicate n x
  | 0 => rfl
  | n + 1 => by rw [List.replicate_succ, List.flatten_cons, flat_rep]; rfl
/-- a tuple with another item at a place -/
theorem cut_lo {α : Type} {xs : List α} {s : Int} (h0 : 0 ≤ s) (h1 : s ≤ xs.length) : cut xs none (some s) = xs.take s.toNat := by
  unfold cut cutIx
  dsimp only
  rw [if_neg (by omega)]
  simp only [List.drop_zero, Nat.sub_zero]
  rw [Nat.min_eq_left (by omega)]
theorem cut_hi {α : Type} {xs : List α} {s : Int} (h0 : 0 ≤ s) (h1 : s ≤ xs.length) : cut xs (some s) none = xs.drop s.toNat := by
  unfold cut cutIx
  dsimp only
  rw [if_neg (by omega), Nat.min_eq_left (by omega)]
  exact List.take_of_length_le (by simp)
theorem cut_set {α : Type} {xs : List α} {x : α} {s : Int} (h0 : 0 ≤ s) (h1 : s < xs.length) : cut xs none (some s) ++ [x] ++ cut xs (some (s + 1)) none = xs.set s.toNat x := by
  rw [cut_lo h0 (by omega), cut_hi (by omega) (by omega), List.set_eq_take_append_cons_drop, if_pos (by omega), List.append_assoc]
  congr 2
  rw [show (s + 1).toNat = s.toNat + 1 by omega]; rfl
theorem cut_ins {α : Type} {xs : List α} {x : α} {s : Int} (h0 : 0 ≤ s) (h1 : s ≤ xs.length) : cut xs none (some s) ++ [x] ++ cut xs (some s) none = xs.take s.toNat ++ x :: xs.drop s.toNat := by
  rw [cut_lo h0 h1, cut_hi h0 h1]; simp
theorem at_int {α : Type} {xs : List α} {s : Int} (h0 : 0 ≤ s) (h1 : s < xs.length) : ∃ x, at' xs s = some x ∧ x ∈ xs ∧ xs[s.toNat]? = some x := by
  have hl : s.toNat < xs.length := by omega
  refine ⟨xs[s.toNat], ?_, List.getElem_mem hl, List.getElem?_eq_getElem hl⟩
  unfold at' ix
  rw [if_pos h0, if_pos (by omega)]
  exact List.getElem?_eq_getElem hl
theorem ix_int {n : Nat} {s : Int} (h0 : 0 ≤ s) (h1 : s < n) : ix n s = some s.toNat := by
  unfold ix; rw [if_pos h0, if_pos h1]
theorem w_seqT {xs : List PV} {q : PV} : walkP .seq (.tup xs) q = some xs := rfl
theorem w_seqL {xs : List PV} {q : PV} : walkP .seq (.lst xs) q = some xs := rfl
theorem w_enT {xs : List PV} {q : PV} : walkP .enum (.tup xs) q = some (zipEP xs) := rfl
theorem w_enL {xs : List PV} {q : PV} : walkP .enum (.lst xs) q = some (zipEP xs) := rfl
theorem w_zipT {xs ys : List PV} : walkP .zip (.tup xs) (.tup ys) = some ((xs.zip ys).map fun p => .tup [p.1, p.2]) := rfl
theorem w_zipL {xs ys : List PV} : walkP .zip (.lst xs) (.lst ys) = some ((xs.zip ys).map fun p => .tup [p.1, p.2]) := rfl
theorem w_r1 {n : Nat} {q : PV} (h : n ≤ 1000000) : walkP .range1 (.int (n : Int)) q = some (rngP 0 n) := by
  simp only [walkP, range1P]; rw [if_pos (by omega)]; rfl
theorem w_r1l {n : Nat} {q : PV} (h : n ≤ 1000000) : walkP .range1 (.int (no_index (OfNat.ofNat n : Int))) q = some (rngP 0 n) := w_r1 h
theorem w_r2 {a b : Int} (h : 0 ≤ a ∧ a ≤ 1000000 ∧ 0 ≤ b ∧ b ≤ 1000000) : walkP .range2 (.int a) (.int b) = some (rngP a (b - a).toNat) := by
  simp only [walkP, range2P]; rw [if_pos (by omega)]
theorem len_rng {a : Int} {n : Nat} : (rngP a n).length = n := by simp [rngP]
theorem mem_rngP {a : Int} {n : Nat} {x : PV} (h : x ∈ rngP a n) : ∃ i : Int, a ≤ i ∧ i < a + n ∧ x = .int i := by
  simp only [rngP, List.mem_map, List.mem_range] at h
  obtain ⟨k, hk, rfl⟩ := h
  exact ⟨_, by omega, by omega, rfl⟩
theorem rng_0 {a : Int} : rngP a 0 = [] := rfl
theorem rng_s {a : Int} {n : Nat} : rngP a (n + 1) = .int a :: rngP (a + 1) n := by
  simp only [rngP, List.range_succ_eq_map, List.map_cons, List.map_map]
  rw [show a + ((0 : Nat) : Int) = a by omega]
  congr 1
  apply List.map_congr_left
  intro k _
  simp only [Function.comp, Nat.succ_eq_add_one]
  congr 1
  omega
theorem maps_ex {α : Type} {e : α → PV} : ∀ {ps : List PV}, (∀ p ∈ ps, ∃ x, p = e x) → ∃ xs : List α, ps = xs.map e
  | [], _ => ⟨[], rfl⟩
  | p :: ps, h => by
    obtain ⟨x, rfl⟩ := h p List.mem_cons_self
    obtain ⟨xs, rfl⟩ := maps_ex (ps := ps) fun q hq => h q (List.mem_cons_of_mem _ hq)
    exact ⟨x :: xs, rfl⟩
/-! ### equality -/
section
variable {n : Nat} {i j : Int} {x y : List Nat} {xs ys : List PV} {k l : Bool} {p q : PV} {a b : PV}
theorem e_ss : eqP (n + 1) (.str x) (.str y) = some (x == y) := rfl
theorem e_ii : eqP (n + 1) (.int i) (.int j) = some (i == j) := rfl
theorem e_bb : eqP (n + 1) (.bl k) (.bl l) = some (k == l) := rfl
theorem e_tt : eqP (n + 1) (.tup xs) (.tup ys) = eqAllP (eqP n) xs ys := rfl
theorem e_ll : eqP (n + 1) (.lst xs) (.lst ys) = if xs.length != ys.length then some false else eqAllP (eqP n) xs ys := rfl
theorem e_al0 {f : PV → PV → Option Bool} : eqAllP f [] [] = some true := rfl
theorem e_al1 {f : PV → PV → Option Bool} : eqAllP f [] (q :: ys) = some false := rfl
theorem e_al2 {f : PV → PV → Option Bool} : eqAllP f (p :: xs) [] = some false := rfl
theorem e_al3 {f : PV → PV → Option Bool} : eqAllP f (p :: xs) (q :: ys) = (f p q).bind fun b => (eqAllP f xs ys).bind fun c => some (b && c) := rfl
theorem e_l0 : eqP (n + 1) (.lst xs) (.lst []) = some xs.isEmpty := by
  rw [e_ll]
  cases xs with
  | nil => rfl
  | cons x xs => rfl
theorem e_t0 : eqP (n + 1) (.tup xs) (.tup []) = some xs.isEmpty := by
  cases xs with
  | nil => rfl
  | cons x xs => rfl
theorem e_alr {f : PV → PV → Option Bool} : eqAllP f xs [] = some xs.isEmpty := by cases xs <;> rfl
theorem e_llc : eqP (n + 1) (.lst xs) (.lst (q :: ys)) = if xs.length != (q :: ys).length then some false else eqAllP (eqP n) xs (q :: ys) := rfl
theorem e_ny0 : anyEqP a [] = some false := rfl
theorem e_ny1 : anyEqP a (p :: xs) = (eqP 60 p a).bind fun b => (anyEqP a xs).bind fun c => some (b || c) := rfl
theorem e_nS {zs : List (List Nat)} : anyEqP (.str x) (zs.map .str) = some (zs.contains x) := by
  induction zs with
  | nil => rfl
  | cons z zs ih =>
    rw [List.map_cons, e_ny1, ih]
    simp only [e_ss, Option.bind_some, List.contains_cons]
    rw [show (z == x) = (x == z) from Bool.eq_iff_iff.mpr ⟨fun h => by rw [eq_of_beq h]; exact beq_self_eq_true _, fun h => by rw [eq_of_beq h]; exact beq_self_eq_true _⟩]
mutual
/-- data without lists; how deep -/
def PV.dp : PV → Nat
  | .tup xs => PV.dps xs + 1
  | .lst xs => PV.dps xs + 1
  | _ => 0
def PV.dps : List PV → Nat
  | [] => 0
  | x :: xs => max (PV.dp x) (PV.dps xs)
end
end
/-! ### loops -/
section
variable {tg : T} {c : PEnv → Tr Bool} {f : PEnv → Tr PV} {ρ : PEnv}
theorem l_c0_0 {acc : List PV} {Q : List PV → Prop} : All0 (compP tg c f ρ [] acc) Q = Q acc := rfl
theorem l_c1_0 {x : PV} {xs acc : List PV} {Q : List PV → Prop} : All0 (compP tg c f ρ (x :: xs) acc) Q = onS (bindP tg x ρ) fun ρ1 => All0 (c ρ1) fun b => if b = true then All0 (f ρ1) fun r => acc.length < top ∧ All0 (compP tg c f ρ xs (acc ++ [r])) Q else All0 (compP tg c f ρ xs acc) Q := by
  rw [compP, a_bind_0]
  cases bindP tg x ρ with
  | none => rfl
  | some ρ1 =>
    show All0 (Tr.bind _ _) Q = _
    rw [a_bind_0]
    show _ = All0 (c ρ1) _
    congr 1; funext b
    rw [a_ite_0, a_bind_0]
    congr 1
    congr 1; funext r
    rw [a_when_0, decide_eq_true_eq]
/-- each item by itself -/
theorem comp_all_0 {P : PV → Prop} {Q : List PV → Prop} {xs : List PV} (hl : xs.length ≤ top)
    (step : ∀ x ∈ xs, onS (bindP tg x ρ) fun ρ1 => All0 (c ρ1) fun b => b = true → All0 (f ρ1) P) (fin : ∀ l : List PV, (∀ a ∈ l, P a) → l.length ≤ xs.length → Q l) : All0 (compP tg c f ρ xs []) Q := by
  have go : ∀ (ys acc : List PV), (∀ y ∈ ys, y ∈ xs) → (∀ a ∈ acc, P a) → acc.length + ys.length ≤ xs.length → All0 (compP tg c f ρ ys acc) Q := by
    intro ys
    induction ys with
    | nil => intro acc _ h1 h2; exact fin acc h1 (by simpa using h2)
    | cons y ys ih =>
      intro acc hm h1 h2
      rw [l_c1_0]
      have := step y (hm y List.mem_cons_self)
      simp only [List.length_cons] at h2
      cases hb : bindP tg y ρ with
      | none => rw [hb] at this; exact this.elim
      | some ρ1 =>
        rw [hb] at this
        refine All0.imp_0 this fun b h => ?_
        cases b with
        | false => exact ih acc (fun z hz => hm z (List.mem_cons_of_mem _ hz)) h1 (by omega)
        | true =>
          refine All0.imp_0 (h rfl) fun r hr => ⟨by omega, ih _ (fun z hz => hm z (List.mem_cons_of_mem _ hz)) ?_ (by simp; omega)⟩
          intro a ha
          rcases List.mem_append.mp ha with ha | ha
          · exact h1 a ha
          · rw [List.mem_singleton.mp ha]; exact hr
  exact go xs [] (fun _ h => h) (fun _ h => nomatch h) (by simp)
/-- each item by itself, none left out -/
theorem comp_each_0 {P : PV → Prop} {Q : List PV → Prop} {xs : List PV} (hl : xs.length ≤ top)
    (step : ∀ x ∈ xs, onS (bindP tg x ρ) fun ρ1 => All0 (c ρ1) fun b => b = true ∧ All0 (f ρ1) P) (fin : ∀ l : List PV, (∀ a ∈ l, P a) → l.length = xs.length → Q l) : All0 (compP tg c f ρ xs []) Q := by
  have go : ∀ (ys acc : List PV), (∀ y ∈ ys, y ∈ xs) → (∀ a ∈ acc, P a) → acc.length + ys.length = xs.length → All0 (compP tg c f ρ ys acc) Q := by
    intro ys
    induction ys with
    | nil => intro acc _ h1 h2; exact fin acc h1 (by simpa using h2)
    | cons y ys ih =>
      intro acc hm h1 h2
      rw [l_c1_0]
      have := step y (hm y List.mem_cons_self)
      simp only [List.length_cons] at h2
      cases hb : bindP tg y ρ with
      | none => rw [hb] at this; exact this.elim
      | some ρ1 =>
        rw [hb] at this
        refine All0.imp_0 this ?_
        rintro b ⟨rfl, h⟩
        refine All0.imp_0 h fun r hr => ⟨by omega, ih _ (fun z hz => hm z (List.mem_cons_of_mem _ hz)) ?_ (by simp; omega)⟩
        intro a ha
        rcases List.mem_append.mp ha with ha | ha
        · exact h1 a ha
        · rw [List.mem_singleton.mp ha]; exact hr
  exact go xs [] (fun _ h => h) (fun _ h => nomatch h) (by simp)
/-- a comprehension's very list -/
theorem comp_eq_0 {g : PV → Bool} {h : PV → PV} {Q : List PV → Prop} {xs : List PV} (hl : xs.length ≤ top)
    (step : ∀ x ∈ xs, onS (bindP tg x ρ) fun ρ1 => All0 (c ρ1) fun b => b = g x ∧ (b = true → All0 (f ρ1) fun r => r = h x)) (fin : Q ((xs.filter g).map h)) : All0 (compP tg c f ρ xs []) Q := by
  have go : ∀ (ys acc : List PV), (∀ y ∈ ys, y ∈ xs) → acc.length + ys.length ≤ xs.length → Q (acc ++ (ys.filter g).map h) → All0 (compP tg c f ρ ys acc) Q := by
    intro ys
    induction ys with
    | nil => intro acc _ _ h1; simpa [l_c0_0] using h1
    | cons y ys ih =>
      intro acc hm h2 h1
      rw [l_c1_0]
      have := step y (hm y List.mem_cons_self)
      simp only [List.length_cons] at h2
      cases hb : bindP tg y ρ with
      | none => rw [hb] at this; exact this.elim
      | some ρ1 =>
        rw [hb] at this
        refine All0.imp_0 this ?_
        rintro b ⟨rfl, hh⟩
        cases hg : g y with
        | false =>
          simp only [Bool.false_eq_true, if_false]
          refine ih acc (fun z hz => hm z (List.mem_cons_of_mem _ hz)) (by omega) ?_
          rw [List.filter_cons, hg] at h1
          exact h1
        | true =>
          simp only [if_true]
          refine All0.imp_0 (hh hg) ?_
          rintro r rfl
          refine ⟨by omega, ih _ (fun z hz => hm z (List.mem_cons_of_mem _ hz)) (by simp; omega) ?_⟩
          rw [List.filter_cons, hg] at h1
          simpa using h1
  exact go xs [] (fun _ h => h) (by simp) (by simpa using fin)
variable {s : PEnv → Tr POut}
theorem l_f0_0 {Q : POut → Prop} : All0 (forP tg s [] ρ) Q = Q (.nx ρ) := rfl
theorem l_f1_0 {Q : POut → Prop} {x : PV} {xs : List PV} : All0 (forP tg s (x :: xs) ρ) Q = onS (bindP tg x ρ) fun ρ1 => All0 (s ρ1) fun o => match o with
      | .nx ρ2 => All0 (forP tg s xs ρ2) Q
      | .ct ρ2 => All0 (forP tg s xs ρ2) Q
      | .bk ρ2 => Q (.nx ρ2)
      | .rt r => Q (.rt r) := by
  rw [forP, a_bind_0]
  cases bindP tg x ρ with
  | none => rfl
  | some ρ1 =>
    show All0 (Tr.bind _ _) Q = _
    rw [a_bind_0]
    show _ = All0 (s ρ1) _
    congr 1; funext o
    cases o <;> rfl
theorem for_all_0 (J : List PV → PEnv → Prop) {Q : POut → Prop}
    (step : ∀ x xs ρ, J (x :: xs) ρ → onS (bindP tg x ρ) fun ρ1 => All0 (s ρ1) fun o => match o with
      | .nx ρ2 => J xs ρ2
      | .ct ρ2 => J xs ρ2
      | .bk ρ2 => Q (.nx ρ2)
      | .rt r => Q (.rt r)) (fin : ∀ ρ, J [] ρ → Q (.nx ρ)) : ∀ (xs : List PV) (ρ : PEnv), J xs ρ → All0 (forP tg s xs ρ) Q
  | [], ρ, h => fin ρ h
  | x :: xs, ρ, h => by
    rw [l_f1_0]
    have := step x xs ρ h
    cases hb : bindP tg x ρ with
    | none => rw [hb] at this; exact this.elim
    | some ρ1 =>
      rw [hb] at this
      refine All0.imp_0 this fun o q => ?_
      cases o with
      | nx ρ2 => exact for_all_0 J step fin xs ρ2 q
      | ct ρ2 => exact for_all_0 J step fin xs ρ2 q
      | bk ρ2 => exact q
      | rt r => exact q
end
end Mi
end
section
set_option linter.all false
set_option autoImplicit false
set_option maxRecDepth 100000
/-! PvAll: All, as a word that is not unfolded. -/
namespace Mi
/-- as All0, but nothing unfolds it, Lean's kernel neither -/
structure All {α : Type} (t : Tr α) (Q : α → Prop) : Prop where
  out : All0 t Q
/-- as on_some; the kernel need not compute to see it -/
theorem on_some2 {α : Type} {a : α} {Q : α → Prop} : onS (some a) Q = Q a := propext ⟨fun h => h, fun h => h⟩
theorem on_none2 {α : Type} {Q : α → Prop} : onS (none : Option α) Q = False := propext ⟨fun h => h, fun h => h⟩
theorem All_def {α : Type} (t : Tr α) (Q : α → Prop) : All t Q = All0 t Q := propext ⟨fun h => h.out, fun h => ⟨h⟩⟩
section
variable {α β : Type}
theorem All.imp {P Q : α → Prop} : ∀ {t : Tr α}, All t P → (∀ a, P a → Q a) → All t Q := by
  simp only [All_def] at *
  first | exact All0.imp_0 | (apply All0.imp_0 <;> assumption)
theorem All.bind {P : α → Prop} {Q : β → Prop} {f : α → Tr β} : ∀ {t : Tr α}, All t P → (∀ a, P a → All (f a) Q) → All (t.bind f) Q := by
  simp only [All_def] at *
  first | exact All0.bind_0 | (apply All0.bind_0 <;> assumption)
theorem a_bind {Q : β → Prop} {f : α → Tr β} {t : Tr α} : All (t.bind f) Q = All t fun a => All (f a) Q := by
  simp only [All_def] at *
  first | exact a_bind_0 | (apply a_bind_0 <;> assumption)
theorem a_ret {Q : α → Prop} {a : α} : All (.ret a) Q = Q a := by
  simp only [All_def] at *
  first | exact a_ret_0 | (apply a_ret_0 <;> assumption)
theorem a_bad {Q : α → Prop} : All .bad Q = False := by
  simp only [All_def] at *
  first | exact a_bad_0 | (apply a_bad_0 <;> assumption)
theorem a_exc {Q : α → Prop} {c : Nat} {p : List PV} : All (.exc c p) Q = False := by
  simp only [All_def] at *
  first | exact a_exc_0 | (apply a_exc_0 <;> assumption)
theorem a_draw {Q : α → Prop} {m : Int} {k : Int → Tr α} : All (.draw m k) Q = (1 ≤ m ∧ m ≤ 2 ^ 4000 ∧ ∀ i, 0 ≤ i → i < m → All (k i) Q) := by
  simp only [All_def] at *
  first | exact a_draw_0 | (apply a_draw_0 <;> assumption)
theorem a_when {Q : α → Prop} {b : Bool} {t : Tr α} : All (whenT b t) Q = (b = true ∧ All t Q) := by
  simp only [All_def] at *
  first | exact a_when_0 | (apply a_when_0 <;> assumption)
theorem a_lift {Q : α → Prop} {o : Option α} : All (liftT o) Q = ∃ a, o = some a ∧ Q a := by
  simp only [All_def] at *
  first | exact a_lift_0 | (apply a_lift_0 <;> assumption)
theorem a_some {Q : α → Prop} {a : α} : All (liftT (some a)) Q = Q a := by
  simp only [All_def] at *
  first | exact a_some_0 | (apply a_some_0 <;> assumption)
theorem a_none {Q : α → Prop} : All (liftT (none : Option α)) Q = False := by
  simp only [All_def] at *
  first | exact a_none_0 | (apply a_none_0 <;> assumption)
theorem a_noX {Q : α → Prop} {t : Tr α} : All t.noX Q = All t Q := by
  simp only [All_def] at *
  first | exact a_noX_0 | (apply a_noX_0 <;> assumption)
theorem a_kif {Q : α → Prop} {b : Bool} {s t : Tr α} : All (kif b s t) Q = if b = true then All s Q else All t Q := by
  simp only [All_def] at *
  first | exact a_kif_0 | (apply a_kif_0 <;> assumption)
theorem a_ite {Q : α → Prop} {c : Prop} [Decidable c] {s t : Tr α} : All (if c then s else t) Q = if c then All s Q else All t Q := by
  simp only [All_def] at *
  first | exact a_ite_0 | (apply a_ite_0 <;> assumption)
theorem All.sim {R : α → β → Store → Prop} {Q : α → Prop} : ∀ {t : Tr α} {r : Res β}, All t Q → Sim R t r → ∃ a b st, r = .ok b st ∧ Q a ∧ R a b st := by
  simp only [All_def] at *
  first | exact All0.sim_0 | (apply All0.sim_0 <;> assumption)
end
theorem AllB.sound {α : Type} {Q : α → Bool} : ∀ {t : Tr α}, AllB Q t = true → All t fun a => Q a = true := by
  simp only [All_def] at *
  first | exact AllB.sound_0 | (apply AllB.sound_0 <;> assumption)
theorem law_close {d : Def} {cs : List Fn} {ps : List PFn} {W : List Nat} {F : List Bool} {ok : Nat → Obj → Obj → Prop} {j k : Nat} {rest : S} {f : Fn} {ns : List Int}
    (hp : d.pars = 1) (hbody : d.body = .seq (.asg (.tg (.sl j)) (.call false k [] (.cons (.x 0) .nil))) rest) (hk : cs[k]? = some f) (hj : 1 ≤ j ∧ j < d.slots)
    (hf : Ok (f [.ref 0] [.frz (ns.map .int)]) fun r st => ∃ e l, r = .v (.ref e) ∧ DK ok (some (e, l)) st)
    (hcs : CsR ok F ps cs) (hW : W.contains j = false) (hc : chkW W F rest = true)
    (h : All (pex ps FUEL rest ((List.replicate d.slots none).set j (some .deck))) fun o => o = .rt (.bl true)) :
    ∃ st', run d cs [.ref 0] [.frz (ns.map .int)] = .ok (.v (.bl true)) st' := by
  simp only [All_def] at *
  first | exact law_close_0 | (apply law_close_0 <;> assumption)
section
variable {cs : List PFn} {ρ : PEnv} {Q : PV → Prop} {a b c d e es : E} {v : Val}
theorem a_k : All (pev cs (.k v) ρ) Q = (v.nr = true ∧ Q (v2p v)) := by
  simp only [All_def] at *
  first | exact a_k_0 | (apply a_k_0 <;> assumption)
theorem a_kS {x : List Nat} : All (pev cs (.k (.str x)) ρ) Q = Q (.str x) := by
  simp only [All_def] at *
  first | exact a_kS_0 | (apply a_kS_0 <;> assumption)
theorem a_kI {i : Int} : All (pev cs (.k (.int i)) ρ) Q = Q (.int i) := by
  simp only [All_def] at *
  first | exact a_kI_0 | (apply a_kI_0 <;> assumption)
theorem a_kB {i : Bool} : All (pev cs (.k (.bl i)) ρ) Q = Q (.bl i) := by
  simp only [All_def] at *
  first | exact a_kB_0 | (apply a_kB_0 <;> assumption)
theorem a_kN : All (pev cs (.k .non) ρ) Q = Q .non := by
  simp only [All_def] at *
  first | exact a_kN_0 | (apply a_kN_0 <;> assumption)
theorem a_g {nm : List Nat} : All (pev cs (.g nm v) ρ) Q = (v.nr = true ∧ Q (v2p v)) := by
  simp only [All_def] at *
  first | exact a_g_0 | (apply a_g_0 <;> assumption)
theorem a_gS {nm x : List Nat} : All (pev cs (.g nm (.str x)) ρ) Q = Q (.str x) := by
  simp only [All_def] at *
  first | exact a_gS_0 | (apply a_gS_0 <;> assumption)
theorem a_gI {nm : List Nat} {i : Int} : All (pev cs (.g nm (.int i)) ρ) Q = Q (.int i) := by
  simp only [All_def] at *
  first | exact a_gI_0 | (apply a_gI_0 <;> assumption)
theorem a_x {i : Nat} : All (pev cs (.x i) ρ) Q = onS ρ[i]? fun o => onS o Q := by
  simp only [All_def] at *
  first | exact a_x_0 | (apply a_x_0 <;> assumption)
theorem a_tup : All (pev cs (.tup es) ρ) Q = All (pevs cs es ρ) fun rs => rs.length ≤ top ∧ Q (.tup rs) := by
  simp only [All_def] at *
  first | exact a_tup_0 | (apply a_tup_0 <;> assumption)
theorem a_lst : All (pev cs (.lst es) ρ) Q = All (pevs cs es ρ) fun rs => rs.length ≤ top ∧ Q (.lst rs) := by
  simp only [All_def] at *
  first | exact a_lst_0 | (apply a_lst_0 <;> assumption)
theorem a_dic : All (pev cs (.dic false es) ρ) Q = All (pevs cs es ρ) fun rs => onS (dicP rs) fun p => (nodupP p.1 = true ∧ p.1.length ≤ 15) ∧ Q (.dic p.1 p.2) := by
  simp only [All_def] at *
  first | exact a_dic_0 | (apply a_dic_0 <;> assumption)
theorem a_op1 {o : O1} : All (pev cs (.op1 o a) ρ) Q = All (pev cs a ρ) fun r => All (p1 o r) Q := by
  simp only [All_def] at *
  first | exact a_op1_0 | (apply a_op1_0 <;> assumption)
theorem a_op2 {o : O2} : All (pev cs (.op2 o a b) ρ) Q = All (pev cs a ρ) fun r => All (pev cs b ρ) fun q => All (p2 o r q) Q := by
  simp only [All_def] at *
  first | exact a_op2_0 | (apply a_op2_0 <;> assumption)
theorem a_optT {f : Tr PV} {Q : Option Int → Prop} : All (optIP true f) Q = Q none := by
  simp only [All_def] at *
  first | exact a_optT_0 | (apply a_optT_0 <;> assumption)
theorem a_optF {f : Tr PV} {Q : Option Int → Prop} : All (optIP false f) Q = All f fun r => match r with | .int i => Q (some i) | _ => False := by
  simp only [All_def] at *
  first | exact a_optF_0 | (apply a_optF_0 <;> assumption)
theorem a_sl {lo hi : E} : All (pev cs (.sl a lo hi) ρ) Q = All (pev cs a ρ) fun r => All (optIP (isNil lo) (pev cs lo ρ)) fun l => All (optIP (isNil hi) (pev cs hi ρ)) fun h => All (psl r l h) Q := by
  simp only [All_def] at *
  first | exact a_sl_0 | (apply a_sl_0 <;> assumption)
theorem a_and : All (pev cs (.and a b) ρ) Q = All (pev cs a ρ) fun r => match r with | .bl k => if k = true then All (pev cs b ρ) Q else Q (.bl false) | _ => False := by
  simp only [All_def] at *
  first | exact a_and_0 | (apply a_and_0 <;> assumption)
theorem a_or : All (pev cs (.or a b) ρ) Q = All (pev cs a ρ) fun r => match r with | .bl k => if k = true then Q (.bl true) else All (pev cs b ρ) Q | _ => False := by
  simp only [All_def] at *
  first | exact a_or_0 | (apply a_or_0 <;> assumption)
theorem a_not : All (pev cs (.not a) ρ) Q = All (pev cs a ρ) fun r => onS (truthP r) fun k => Q (.bl (!k)) := by
  simp only [All_def] at *
  first | exact a_not_0 | (apply a_not_0 <;> assumption)
theorem a_iteE : All (pev cs (.ite c a b) ρ) Q = All (pev cs c ρ) fun r => onS (truthP r) fun k => if k = true then All (pev cs a ρ) Q else All (pev cs b ρ) Q := by
  simp only [All_def] at *
  first | exact a_iteE_0 | (apply a_iteE_0 <;> assumption)
theorem a_chain {o p : O2} : All (pev cs (.chain o p a b c) ρ) Q = All (pev cs a ρ) fun r => All (pev cs b ρ) fun q => (isVP r && isVP q) = true ∧ All (p2 o r q) fun z => match z with
    | .bl k => if k = true then All (pev cs c ρ) fun u => All (p2 p q u) Q else Q (.bl false)
    | _ => False := by
  simp only [All_def] at *
  first | exact a_chain_0 | (apply a_chain_0 <;> assumption)
theorem a_call {j : Nat} {kw : List Nat} : All (pev cs (.call false j kw es) ρ) Q = All (pevs cs es ρ) fun rs => onS cs[j]? fun f => All (f (permP kw rs)) Q := by
  simp only [All_def] at *
  first | exact a_call_0 | (apply a_call_0 <;> assumption)
theorem a_nil {Q : List PV → Prop} : All (pevs cs .nil ρ) Q = Q [] := by
  simp only [All_def] at *
  first | exact a_nil_0 | (apply a_nil_0 <;> assumption)
theorem a_cons {Q : List PV → Prop} : All (pevs cs (.cons a b) ρ) Q = All (pev cs a ρ) fun r => All (pevs cs b ρ) fun rs => Q (r :: rs) := by
  simp only [All_def] at *
  first | exact a_cons_0 | (apply a_cons_0 <;> assumption)
theorem a_comp {own : List Nat} {t : T} {k : IK} : All (pev cs (.comp own t k a b c e) ρ) Q = All (pev cs a ρ) fun r => All (opt2P (isNil b) (pev cs b ρ)) fun q => onS (walkP k r q) fun xs =>
    All (compP t (fun ρ' => optCP (isNil c) (pev cs c ρ')) (fun ρ' => pev cs e ρ') (wipeP ρ own) xs []) fun l => Q (.lst l) := by
  simp only [All_def] at *
  first | exact a_comp_0 | (apply a_comp_0 <;> assumption)
theorem a_op2T {f : Tr PV} : All (opt2P true f) Q = Q .non := by
  simp only [All_def] at *
  first | exact a_op2T_0 | (apply a_op2T_0 <;> assumption)
theorem a_op2F {f : Tr PV} : All (opt2P false f) Q = All f Q := by
  simp only [All_def] at *
  first | exact a_op2F_0 | (apply a_op2F_0 <;> assumption)
theorem a_optCT {f : Tr PV} {Q : Bool → Prop} : All (optCP true f) Q = Q true := by
  simp only [All_def] at *
  first | exact a_optCT_0 | (apply a_optCT_0 <;> assumption)
theorem a_optCF {f : Tr PV} {Q : Bool → Prop} : All (optCP false f) Q = All f fun r => onS (truthP r) Q := by
  simp only [All_def] at *
  first | exact a_optCF_0 | (apply a_optCF_0 <;> assumption)
end
section
variable {cs : List PFn} {ρ : PEnv} {n i : Nat} {Q : POut → Prop} {s t : S} {a b c e : E} {tg : T}
theorem h_skip : All (pex cs n .skip ρ) Q = Q (.nx ρ) := by
  simp only [All_def] at *
  first | exact h_skip_0 | (apply h_skip_0 <;> assumption)
theorem h_seq : All (pex cs n (.seq s t) ρ) Q = All (pex cs n s ρ) fun o => match o with | .nx ρ1 => All (pex cs n t ρ1) Q | o => Q o := by
  simp only [All_def] at *
  first | exact h_seq_0 | (apply h_seq_0 <;> assumption)
theorem h_asg : All (pex cs n (.asg (.tg tg) e) ρ) Q = All (pev cs e ρ) fun r => onS (bindP tg r ρ) fun ρ1 => Q (.nx ρ1) := by
  simp only [All_def] at *
  first | exact h_asg_0 | (apply h_asg_0 <;> assumption)
theorem a_slot {Q : List PV → Prop} : All (slotL i ρ) Q = slotA i ρ Q := by
  simp only [All_def] at *
  first | exact a_slot_0 | (apply a_slot_0 <;> assumption)
theorem h_mv {j : Nat} : All (pex cs n (.asg (.mv i j) e) ρ) Q = All (pev cs e ρ) fun r => onS (bindP (.sl i) r ρ) fun ρ1 => Q (.nx (ρ1.set j none)) := by
  simp only [All_def]
  exact h_mv_0
theorem h_un : All (pex cs n (.asg (.un tg) e) ρ) Q = All (pev cs e ρ) fun r => match r with
      | .lst xs => onS (bindPs tg xs ρ) fun ρ1 => Q (.nx ρ1)
      | _ => False := by
  simp only [All_def]
  exact h_un_0
theorem h_sub : All (pex cs n (.asg (.sub (.x i) a) e) ρ) Q = All (pev cs e ρ) fun r => slotA i ρ fun xs => All (pev cs a ρ) fun q => match q with | .int j => onS (ix xs.length j) fun m => Q (.nx (ρ.set i (some (.lst (xs.set m r))))) | _ => False := by
  simp only [All_def] at *
  first | exact h_sub_0 | (apply h_sub_0 <;> assumption)
theorem h_app : All (pex cs n (.ex (.op2 .append (.x i) e)) ρ) Q = All (pev cs e ρ) fun q => slotA i ρ fun xs => xs.length < top ∧ Q (.nx (ρ.set i (some (.lst (xs ++ [q]))))) := by
  simp only [All_def] at *
  first | exact h_app_0 | (apply h_app_0 <;> assumption)
theorem h_ext : All (pex cs n (.ex (.op2 .extend (.x i) e)) ρ) Q = All (pev cs e ρ) fun q => slotA i ρ fun xs => match q with | .lst ys => xs.length + ys.length ≤ top ∧ Q (.nx (ρ.set i (some (.lst (xs ++ ys))))) | _ => False := by
  simp only [All_def] at *
  first | exact h_ext_0 | (apply h_ext_0 <;> assumption)
theorem h_ret : All (pex cs n (.ret e) ρ) Q = All (pev cs e ρ) fun r => Q (.rt r) := by
  simp only [All_def] at *
  first | exact h_ret_0 | (apply h_ret_0 <;> assumption)
theorem h_retN : All (pex cs n .retN ρ) Q = Q (.rt .non) := by
  simp only [All_def] at *
  first | exact h_retN_0 | (apply h_retN_0 <;> assumption)
theorem h_brk : All (pex cs n .brk ρ) Q = Q (.bk ρ) := by
  simp only [All_def] at *
  first | exact h_brk_0 | (apply h_brk_0 <;> assumption)
theorem h_cont : All (pex cs n .cont ρ) Q = Q (.ct ρ) := by
  simp only [All_def] at *
  first | exact h_cont_0 | (apply h_cont_0 <;> assumption)
theorem h_ite : All (pex cs n (.ite c s t) ρ) Q = All (pev cs c ρ) fun r => onS (truthP r) fun k => if k = true then All (pex cs n s ρ) Q else All (pex cs n t ρ) Q := by
  simp only [All_def] at *
  first | exact h_ite_0 | (apply h_ite_0 <;> assumption)
theorem h_whl : All (pex cs n (.whil c s) ρ) Q = All (whileP (fun ρ' => (pev cs c ρ').bind truthT) (fun ρ' => pex cs n s ρ') n ρ) Q := by
  simp only [All_def] at *
  first | exact h_whl_0 | (apply h_whl_0 <;> assumption)
theorem h_fo {k : IK} : All (pex cs n (.fo tg k a b s) ρ) Q = All (pev cs a ρ) fun r => All (opt2P (isNil b) (pev cs b ρ)) fun q => onS (walkP k r q) fun xs => All (forP tg (fun ρ' => pex cs n s ρ') xs ρ) Q := by
  simp only [All_def] at *
  first | exact h_fo_0 | (apply h_fo_0 <;> assumption)
theorem h_run {d : Def} {args : List PV} {Q : PV → Prop} : All (prun d cs args) Q = (args.length = d.pars ∧ All (pex cs FUEL d.body (args.map some ++ List.replicate (d.slots - args.length) none)) fun o => match o with | .rt r => Q r | .nx _ => Q .non | _ => False) := by
  simp only [All_def] at *
  first | exact h_run_0 | (apply h_run_0 <;> assumption)
theorem seq_all (P : PEnv → Prop) (h : All (pex cs n s ρ) fun o => match o with | .nx ρ1 => P ρ1 | o => Q o) (k : ∀ ρ1, P ρ1 → All (pex cs n t ρ1) Q) : All (pex cs n (.seq s t) ρ) Q := by
  simp only [All_def] at *
  first | exact seq_all_0 | (apply seq_all_0 <;> assumption)
end
section
variable {Q : PV → Prop} {a b : PV} {i j : Int} {x y : List Nat} {xs ys : List PV} {k : Bool}
theorem o_eq : All (p2 .eq a b) Q = onS (eqP 61 a b) fun k => Q (.bl k) := by
  simp only [All_def] at *
  first | exact o_eq_0 | (apply o_eq_0 <;> assumption)
theorem o_ne : All (p2 .ne a b) Q = onS (eqP 61 a b) fun k => Q (.bl (!k)) := by
  simp only [All_def] at *
  first | exact o_ne_0 | (apply o_ne_0 <;> assumption)
theorem o_lt : All (p2 .lt (.int i) (.int j)) Q = Q (.bl (decide (i < j))) := by
  simp only [All_def] at *
  first | exact o_lt_0 | (apply o_lt_0 <;> assumption)
theorem o_le : All (p2 .le (.int i) (.int j)) Q = Q (.bl (decide (i ≤ j))) := by
  simp only [All_def] at *
  first | exact o_le_0 | (apply o_le_0 <;> assumption)
theorem o_gt : All (p2 .gt (.int i) (.int j)) Q = Q (.bl (decide (j < i))) := by
  simp only [All_def] at *
  first | exact o_gt_0 | (apply o_gt_0 <;> assumption)
theorem o_ge : All (p2 .ge (.int i) (.int j)) Q = Q (.bl (decide (j ≤ i))) := by
  simp only [All_def] at *
  first | exact o_ge_0 | (apply o_ge_0 <;> assumption)
theorem o_addI : All (p2 .add (.int i) (.int j)) Q = Q (.int (i + j)) := by
  simp only [All_def] at *
  first | exact o_addI_0 | (apply o_addI_0 <;> assumption)
theorem o_addS : All (p2 .add (.str x) (.str y)) Q = (x.length + y.length ≤ top ∧ Q (.str (x ++ y))) := by
  simp only [All_def] at *
  first | exact o_addS_0 | (apply o_addS_0 <;> assumption)
theorem o_addT : All (p2 .add (.tup xs) (.tup ys)) Q = (xs.length + ys.length ≤ top ∧ Q (.tup (xs ++ ys))) := by
  simp only [All_def] at *
  first | exact o_addT_0 | (apply o_addT_0 <;> assumption)
theorem o_addL : All (p2 .add (.lst xs) (.lst ys)) Q = (xs.length + ys.length ≤ top ∧ Q (.lst (xs ++ ys))) := by
  simp only [All_def] at *
  first | exact o_addL_0 | (apply o_addL_0 <;> assumption)
theorem o_sub : All (p2 .sub (.int i) (.int j)) Q = Q (.int (i - j)) := by
  simp only [All_def] at *
  first | exact o_sub_0 | (apply o_sub_0 <;> assumption)
theorem o_mulI : All (p2 .mul (.int i) (.int j)) Q = ((i.natAbs < 2 ^ 64 ∨ j.natAbs < 2 ^ 64 ∨ i.natAbs.log2 + j.natAbs.log2 < 1000000) ∧ Q (.int (i * j))) := by
  simp only [All_def] at *
  first | exact o_mulI_0 | (apply o_mulI_0 <;> assumption)
theorem o_mulT : All (p2 .mul (.tup xs) (.int j)) Q = (((2 ≤ j ∧ j ≤ 1000 ∧ xs.length ≤ 1000) ∧ xs.isEmpty = false) ∧ Q (.tup (List.replicate j.toNat xs).flatten)) := by
  simp only [All_def] at *
  first | exact o_mulT_0 | (apply o_mulT_0 <;> assumption)
theorem o_mulL : All (p2 .mul (.lst xs) (.int j)) Q = ((-(2 ^ 63) ≤ j ∧ j < 2 ^ 63 ∧ xs.length * j.toNat ≤ top) ∧ Q (.lst (List.replicate j.toNat xs).flatten)) := by
  simp only [All_def] at *
  first | exact o_mulL_0 | (apply o_mulL_0 <;> assumption)
theorem o_mod : All (p2 .mod (.int i) (.int j)) Q = (0 < j ∧ Q (.int (i % j))) := by
  simp only [All_def] at *
  first | exact o_mod_0 | (apply o_mod_0 <;> assumption)
theorem o_fdiv : All (p2 .fdiv (.int i) (.int j)) Q = ((0 < j ∧ j.natAbs.log2 < 9000) ∧ Q (.int (i / j))) := by
  simp only [All_def] at *
  first | exact o_fdiv_0 | (apply o_fdiv_0 <;> assumption)
theorem o_pow : All (p2 .pow (.int i) (.int j)) Q = ((0 ≤ j ∧ j ≤ 1000000 ∧ i.natAbs < 2 ^ 64) ∧ Q (.int (i ^ j.toNat))) := by
  simp only [All_def] at *
  first | exact o_pow_0 | (apply o_pow_0 <;> assumption)
theorem o_inT (ha : isVP a = true) : All (p2 .isin a (.tup ys)) Q = onS (anyEqP a ys) fun k => Q (.bl k) := by
  simp only [All_def] at *
  first | exact o_inT_0 | (apply o_inT_0 <;> assumption)
theorem o_inL (ha : isVP a = true) : All (p2 .isin a (.lst ys)) Q = onS (anyEqP a ys) fun k => Q (.bl k) := by
  simp only [All_def] at *
  first | exact o_inL_0 | (apply o_inL_0 <;> assumption)
theorem o_ninT (ha : isVP a = true) : All (p2 .notin a (.tup ys)) Q = onS (anyEqP a ys) fun k => Q (.bl (!k)) := by
  simp only [All_def] at *
  first | exact o_ninT_0 | (apply o_ninT_0 <;> assumption)
theorem o_ninL (ha : isVP a = true) : All (p2 .notin a (.lst ys)) Q = onS (anyEqP a ys) fun k => Q (.bl (!k)) := by
  simp only [All_def] at *
  first | exact o_ninL_0 | (apply o_ninL_0 <;> assumption)
theorem o_inTs : All (p2 .isin (.str x) (.tup ys)) Q = onS (anyEqP (.str x) ys) fun k => Q (.bl k) := by
  simp only [All_def] at *
  first | exact o_inTs_0 | (apply o_inTs_0 <;> assumption)
theorem o_inTi : All (p2 .isin (.int i) (.tup ys)) Q = onS (anyEqP (.int i) ys) fun k => Q (.bl k) := by
  simp only [All_def] at *
  first | exact o_inTi_0 | (apply o_inTi_0 <;> assumption)
theorem o_inTt : All (p2 .isin (.tup xs) (.tup ys)) Q = onS (anyEqP (.tup xs) ys) fun k => Q (.bl k) := by
  simp only [All_def] at *
  first | exact o_inTt_0 | (apply o_inTt_0 <;> assumption)
theorem o_inLs : All (p2 .isin (.str x) (.lst ys)) Q = onS (anyEqP (.str x) ys) fun k => Q (.bl k) := by
  simp only [All_def] at *
  first | exact o_inLs_0 | (apply o_inLs_0 <;> assumption)
theorem o_inLi : All (p2 .isin (.int i) (.lst ys)) Q = onS (anyEqP (.int i) ys) fun k => Q (.bl k) := by
  simp only [All_def] at *
  first | exact o_inLi_0 | (apply o_inLi_0 <;> assumption)
theorem o_inLt : All (p2 .isin (.tup xs) (.lst ys)) Q = onS (anyEqP (.tup xs) ys) fun k => Q (.bl k) := by
  simp only [All_def] at *
  first | exact o_inLt_0 | (apply o_inLt_0 <;> assumption)
theorem o_ninTs : All (p2 .notin (.str x) (.tup ys)) Q = onS (anyEqP (.str x) ys) fun k => Q (.bl (!k)) := by
  simp only [All_def] at *
  first | exact o_ninTs_0 | (apply o_ninTs_0 <;> assumption)
theorem o_ninTi : All (p2 .notin (.int i) (.tup ys)) Q = onS (anyEqP (.int i) ys) fun k => Q (.bl (!k)) := by
  simp only [All_def] at *
  first | exact o_ninTi_0 | (apply o_ninTi_0 <;> assumption)
theorem o_ninTt : All (p2 .notin (.tup xs) (.tup ys)) Q = onS (anyEqP (.tup xs) ys) fun k => Q (.bl (!k)) := by
  simp only [All_def] at *
  first | exact o_ninTt_0 | (apply o_ninTt_0 <;> assumption)
theorem o_ninLs : All (p2 .notin (.str x) (.lst ys)) Q = onS (anyEqP (.str x) ys) fun k => Q (.bl (!k)) := by
  simp only [All_def] at *
  first | exact o_ninLs_0 | (apply o_ninLs_0 <;> assumption)
theorem o_ninLi : All (p2 .notin (.int i) (.lst ys)) Q = onS (anyEqP (.int i) ys) fun k => Q (.bl (!k)) := by
  simp only [All_def] at *
  first | exact o_ninLi_0 | (apply o_ninLi_0 <;> assumption)
theorem o_ninLt : All (p2 .notin (.tup xs) (.lst ys)) Q = onS (anyEqP (.tup xs) ys) fun k => Q (.bl (!k)) := by
  simp only [All_def] at *
  first | exact o_ninLt_0 | (apply o_ninLt_0 <;> assumption)
theorem o_ixT : All (p2 .ix (.tup xs) (.int i)) Q = onS (at' xs i) Q := by
  simp only [All_def] at *
  first | exact o_ixT_0 | (apply o_ixT_0 <;> assumption)
theorem o_ixL : All (p2 .ix (.lst xs) (.int i)) Q = onS (at' xs i) Q := by
  simp only [All_def] at *
  first | exact o_ixL_0 | (apply o_ixL_0 <;> assumption)
theorem o_ixD {ks vs : List PV} (hb : keyP b = true) : All (p2 .ix (.dic ks vs) b) Q = onS (getP b ks vs) Q := by
  simp only [All_def] at *
  first | exact o_ixD_0 | (apply o_ixD_0 <;> assumption)
theorem o_index (hb : isVP b = true) : All (p2 .index (.lst xs) b) Q = onS (placeEqP b xs) fun n => Q (.int (n : Int)) := by
  simp only [All_def] at *
  first | exact o_index_0 | (apply o_index_0 <;> assumption)
theorem o_count (hb : isVP b = true) : All (p2 .count (.lst xs) b) Q = onS (countEqP b xs) fun n => Q (.int (n : Int)) := by
  simp only [All_def] at *
  first | exact o_count_0 | (apply o_count_0 <;> assumption)
theorem o_neg : All (p1 .neg (.int i)) Q = Q (.int (-i)) := by
  simp only [All_def] at *
  first | exact o_neg_0 | (apply o_neg_0 <;> assumption)
theorem o_abs : All (p1 .abs (.int i)) Q = Q (.int (if i < 0 then -i else i)) := by
  simp only [All_def] at *
  first | exact o_abs_0 | (apply o_abs_0 <;> assumption)
theorem o_int : All (p1 .int (.int i)) Q = Q (.int i) := by
  simp only [All_def] at *
  first | exact o_int_0 | (apply o_int_0 <;> assumption)
theorem o_intB : All (p1 .int (.bl k)) Q = Q (.int (if k then 1 else 0)) := by
  simp only [All_def] at *
  first | exact o_intB_0 | (apply o_intB_0 <;> assumption)
theorem o_lenT : All (p1 .len (.tup xs)) Q = Q (.int xs.length) := by
  simp only [All_def] at *
  first | exact o_lenT_0 | (apply o_lenT_0 <;> assumption)
theorem o_lenL : All (p1 .len (.lst xs)) Q = Q (.int xs.length) := by
  simp only [All_def] at *
  first | exact o_lenL_0 | (apply o_lenL_0 <;> assumption)
theorem o_lenS : All (p1 .len (.str x)) Q = (x.length ≤ top ∧ Q (.int x.length)) := by
  simp only [All_def] at *
  first | exact o_lenS_0 | (apply o_lenS_0 <;> assumption)
theorem o_tupT : All (p1 .tuple (.tup xs)) Q = Q (.tup xs) := by
  simp only [All_def] at *
  first | exact o_tupT_0 | (apply o_tupT_0 <;> assumption)
theorem o_tupL : All (p1 .tuple (.lst xs)) Q = Q (.tup xs) := by
  simp only [All_def] at *
  first | exact o_tupL_0 | (apply o_tupL_0 <;> assumption)
theorem o_lstT : All (p1 .list (.tup xs)) Q = Q (.lst xs) := by
  simp only [All_def] at *
  first | exact o_lstT_0 | (apply o_lstT_0 <;> assumption)
theorem o_lstL : All (p1 .list (.lst xs)) Q = Q (.lst xs) := by
  simp only [All_def] at *
  first | exact o_lstL_0 | (apply o_lstL_0 <;> assumption)
theorem o_rev : All (p1 .rev (.lst xs)) Q = Q (.lst xs.reverse) := by
  simp only [All_def] at *
  first | exact o_rev_0 | (apply o_rev_0 <;> assumption)
theorem o_isN : All (p1 .isNon a) Q = Q (.bl (a == .non)) := by
  simp only [All_def] at *
  first | exact o_isN_0 | (apply o_isN_0 <;> assumption)
theorem o_noN : All (p1 .notNon a) Q = Q (.bl (!(a == .non))) := by
  simp only [All_def] at *
  first | exact o_noN_0 | (apply o_noN_0 <;> assumption)
theorem o_repr {x : List Nat} (h : shows a x) : All (p1 .repr a) Q = Q (.str x) := by
  simp only [All_def] at *
  first | exact o_repr_0 | (apply o_repr_0 <;> assumption)
theorem o_sortS {zs : List (List Nat)} (h : allStrsP xs = some zs) : All (p1 .sorted (.lst xs)) Q = (xs.length < 64 ∧ Q (.lst ((isort leN zs).map .str))) := by
  simp only [All_def] at *
  first | exact o_sortS_0 | (apply o_sortS_0 <;> assumption)
theorem o_sortO : All (p1 .sorted (.lst xs)) Q = (xs.length < 64 ∧ match allStrsP xs with
      | some ys => Q (.lst ((isort leN ys).map .str))
      | none => match allIntsP xs with
        | some ys => Q (.lst ((isort (fun a b => decide (a ≤ b)) ys).map .int))
        | none => sortOkP xs = true ∧ Q (.lst (isort leTP xs))) := by
  simp only [All_def] at *
  first | exact o_sortO_0 | (apply o_sortO_0 <;> assumption)
theorem o_iSs : All (p1 .isStr (.str x)) Q = Q (.bl true) := by
  simp only [All_def]
  exact o_iSs_0
theorem o_iSi : All (p1 .isStr (.int i)) Q = Q (.bl false) := by
  simp only [All_def]
  exact o_iSi_0
theorem o_iSb : All (p1 .isStr (.bl k)) Q = Q (.bl false) := by
  simp only [All_def]
  exact o_iSb_0
theorem o_iSn : All (p1 .isStr .non) Q = Q (.bl false) := by
  simp only [All_def]
  exact o_iSn_0
theorem o_iSt : All (p1 .isStr (.tup xs)) Q = Q (.bl false) := by
  simp only [All_def]
  exact o_iSt_0
theorem o_iSl : All (p1 .isStr (.lst xs)) Q = Q (.bl false) := by
  simp only [All_def]
  exact o_iSl_0
theorem o_iIs : All (p1 .isInt (.str x)) Q = Q (.bl false) := by
  simp only [All_def]
  exact o_iIs_0
theorem o_iIi : All (p1 .isInt (.int i)) Q = Q (.bl true) := by
  simp only [All_def]
  exact o_iIi_0
theorem o_iIb : All (p1 .isInt (.bl k)) Q = Q (.bl true) := by
  simp only [All_def]
  exact o_iIb_0
theorem o_iIn : All (p1 .isInt .non) Q = Q (.bl false) := by
  simp only [All_def]
  exact o_iIn_0
theorem o_iIt : All (p1 .isInt (.tup xs)) Q = Q (.bl false) := by
  simp only [All_def]
  exact o_iIt_0
theorem o_iIl : All (p1 .isInt (.lst xs)) Q = Q (.bl false) := by
  simp only [All_def]
  exact o_iIl_0
theorem o_iTs : All (p1 .isTup (.str x)) Q = Q (.bl false) := by
  simp only [All_def]
  exact o_iTs_0
theorem o_iTi : All (p1 .isTup (.int i)) Q = Q (.bl false) := by
  simp only [All_def]
  exact o_iTi_0
theorem o_iTb : All (p1 .isTup (.bl k)) Q = Q (.bl false) := by
  simp only [All_def]
  exact o_iTb_0
theorem o_iTn : All (p1 .isTup .non) Q = Q (.bl false) := by
  simp only [All_def]
  exact o_iTn_0
theorem o_iTt : All (p1 .isTup (.tup xs)) Q = Q (.bl true) := by
  simp only [All_def]
  exact o_iTt_0
theorem o_iTl : All (p1 .isTup (.lst xs)) Q = Q (.bl false) := by
  simp only [All_def]
  exact o_iTl_0
theorem o_iBs : All (p1 .isBool (.str x)) Q = Q (.bl false) := by
  simp only [All_def]
  exact o_iBs_0
theorem o_iBi : All (p1 .isBool (.int i)) Q = Q (.bl false) := by
  simp only [All_def]
  exact o_iBi_0
theorem o_iBb : All (p1 .isBool (.bl k)) Q = Q (.bl true) := by
  simp only [All_def]
  exact o_iBb_0
theorem o_iBn : All (p1 .isBool .non) Q = Q (.bl false) := by
  simp only [All_def]
  exact o_iBn_0
theorem o_iBt : All (p1 .isBool (.tup xs)) Q = Q (.bl false) := by
  simp only [All_def]
  exact o_iBt_0
theorem o_iBl : All (p1 .isBool (.lst xs)) Q = Q (.bl false) := by
  simp only [All_def]
  exact o_iBl_0
theorem o_rngL : All (p1 .rngL (.int i)) Q = (rngOk 0 i = true ∧ Q (.lst (rngP 0 (i - 0).toNat))) := by
  simp only [All_def]
  exact o_rngL_0
theorem o_rngT : All (p1 .rngT (.int i)) Q = (rngOk 0 i = true ∧ Q (.tup (rngP 0 (i - 0).toNat))) := by
  simp only [All_def]
  exact o_rngT_0
theorem o_rngL2 : All (p2 .rngL2 (.int i) (.int j)) Q = (rngOk i j = true ∧ Q (.lst (rngP i (j - i).toNat))) := by
  simp only [All_def]
  exact o_rngL2_0
theorem o_rngT2 : All (p2 .rngT2 (.int i) (.int j)) Q = (rngOk i j = true ∧ Q (.tup (rngP i (j - i).toNat))) := by
  simp only [All_def]
  exact o_rngT2_0
theorem o_lmax {y : Int} {ys : List Int} (h : allIntsP xs = some (y :: ys)) : All (p1 .lmax (.lst xs)) Q = Q (.int (maxI y ys)) := by
  simp only [All_def] at *
  first | exact o_lmax_0 | (apply o_lmax_0 <;> assumption)
theorem o_lmin {y : Int} {ys : List Int} (h : allIntsP xs = some (y :: ys)) : All (p1 .lmin (.lst xs)) Q = Q (.int (minI y ys)) := by
  simp only [All_def] at *
  first | exact o_lmin_0 | (apply o_lmin_0 <;> assumption)
theorem o_isT  : All (p1 .isTrue (.bl k)) Q = Q (.bl k) := by
  simp only [All_def] at *
  first | exact o_isT_0 | (apply o_isT_0 <;> assumption)
theorem o_notT  : All (p1 .notTrue (.bl k)) Q = Q (.bl (!k)) := by
  simp only [All_def] at *
  first | exact o_notT_0 | (apply o_notT_0 <;> assumption)
theorem o_max2  : All (p2 .max2 (.int i) (.int j)) Q = Q (.int (if j > i then j else i)) := by
  simp only [All_def] at *
  first | exact o_max2_0 | (apply o_max2_0 <;> assumption)
theorem o_min2  : All (p2 .min2 (.int i) (.int j)) Q = Q (.int (if j < i then j else i)) := by
  simp only [All_def] at *
  first | exact o_min2_0 | (apply o_min2_0 <;> assumption)
theorem o_sortT (h1 : allStrsP xs = none) (h2 : allIntsP xs = none) : All (p1 .sorted (.lst xs)) Q = (xs.length < 64 ∧ sortOkP xs = true ∧ Q (.lst (isort leTP xs))) := by
  simp only [All_def] at *
  first | exact o_sortT_0 | (apply o_sortT_0 <;> assumption)
theorem o_slL {lo hi : Option Int} : All (psl (.lst xs) lo hi) Q = Q (.lst (cut xs lo hi)) := by
  simp only [All_def] at *
  first | exact o_slL_0 | (apply o_slL_0 <;> assumption)
theorem o_slT {lo hi : Option Int} : All (psl (.tup xs) lo hi) Q = Q (.tup (cut xs lo hi)) := by
  simp only [All_def] at *
  first | exact o_slT_0 | (apply o_slT_0 <;> assumption)
end
section
variable {n : Nat} {i j : Int} {x y : List Nat} {xs ys : List PV} {k l : Bool} {p q : PV} {a b : PV}
end
section
variable {tg : T} {c : PEnv → Tr Bool} {f : PEnv → Tr PV} {ρ : PEnv}
theorem l_c0 {acc : List PV} {Q : List PV → Prop} : All (compP tg c f ρ [] acc) Q = Q acc := by
  simp only [All_def] at *
  first | exact l_c0_0 | (apply l_c0_0 <;> assumption)
theorem l_c1 {x : PV} {xs acc : List PV} {Q : List PV → Prop} : All (compP tg c f ρ (x :: xs) acc) Q = onS (bindP tg x ρ) fun ρ1 => All (c ρ1) fun b => if b = true then All (f ρ1) fun r => acc.length < top ∧ All (compP tg c f ρ xs (acc ++ [r])) Q else All (compP tg c f ρ xs acc) Q := by
  simp only [All_def] at *
  first | exact l_c1_0 | (apply l_c1_0 <;> assumption)
theorem comp_all {P : PV → Prop} {Q : List PV → Prop} {xs : List PV} (hl : xs.length ≤ top)
    (step : ∀ x ∈ xs, onS (bindP tg x ρ) fun ρ1 => All (c ρ1) fun b => b = true → All (f ρ1) P) (fin : ∀ l : List PV, (∀ a ∈ l, P a) → l.length ≤ xs.length → Q l) : All (compP tg c f ρ xs []) Q := by
  simp only [All_def] at *
  first | exact comp_all_0 | (apply comp_all_0 <;> assumption)
theorem comp_each {P : PV → Prop} {Q : List PV → Prop} {xs : List PV} (hl : xs.length ≤ top)
    (step : ∀ x ∈ xs, onS (bindP tg x ρ) fun ρ1 => All (c ρ1) fun b => b = true ∧ All (f ρ1) P) (fin : ∀ l : List PV, (∀ a ∈ l, P a) → l.length = xs.length → Q l) : All (compP tg c f ρ xs []) Q := by
  simp only [All_def] at *
  first | exact comp_each_0 | (apply comp_each_0 <;> assumption)
theorem comp_eq {g : PV → Bool} {h : PV → PV} {Q : List PV → Prop} {xs : List PV} (hl : xs.length ≤ top)
    (step : ∀ x ∈ xs, onS (bindP tg x ρ) fun ρ1 => All (c ρ1) fun b => b = g x ∧ (b = true → All (f ρ1) fun r => r = h x)) (fin : Q ((xs.filter g).map h)) : All (compP tg c f ρ xs []) Q := by
  simp only [All_def] at *
  first | exact comp_eq_0 | (apply comp_eq_0 <;> assumption)
variable {s : PEnv → Tr POut}
theorem l_f0 {Q : POut → Prop} : All (forP tg s [] ρ) Q = Q (.nx ρ) := by
  simp only [All_def] at *
  first | exact l_f0_0 | (apply l_f0_0 <;> assumption)
theorem l_f1 {Q : POut → Prop} {x : PV} {xs : List PV} : All (forP tg s (x :: xs) ρ) Q = onS (bindP tg x ρ) fun ρ1 => All (s ρ1) fun o => match o with
      | .nx ρ2 => All (forP tg s xs ρ2) Q
      | .ct ρ2 => All (forP tg s xs ρ2) Q
      | .bk ρ2 => Q (.nx ρ2)
      | .rt r => Q (.rt r) := by
  simp only [All_def] at *
  first | exact l_f1_0 | (apply l_f1_0 <;> assumption)
theorem for_all (J : List PV → PEnv → Prop) {Q : POut → Prop}
    (step : ∀ x xs ρ, J (x :: xs) ρ → onS (bindP tg x ρ) fun ρ1 => All (s ρ1) fun o => match o with
      | .nx ρ2 => J xs ρ2
      | .ct ρ2 => J xs ρ2
      | .bk ρ2 => Q (.nx ρ2)
      | .rt r => Q (.rt r)) (fin : ∀ ρ, J [] ρ → Q (.nx ρ)) : ∀ (xs : List PV) (ρ : PEnv), J xs ρ → All (forP tg s xs ρ) Q := by
  simp only [All_def] at *
  first | exact for_all_0 | (apply for_all_0 <;> assumption)
end
end Mi
end
section
set_option linter.all false
set_option autoImplicit false
/-! PvDir: a tree without draws, by rewriting; the branches of a test are put together. -/
namespace Mi
section
variable {α β : Type} {k : Bool} {x y : α}
theorem m2_same : kif k x x = x := by cases k <;> rfl
theorem m2_ret {p q : PV} : kif k (Tr.ret p) (.ret q) = .ret (kif k p q) := by cases k <;> rfl
theorem m2_retL {p q : List PV} : kif k (Tr.ret p) (.ret q) = .ret (kif k p q) := by cases k <;> rfl
theorem m2_nx {p q : PEnv} : kif k (Tr.ret (POut.nx p)) (.ret (.nx q)) = .ret (.nx (kif k p q)) := by cases k <;> rfl
theorem m2_rt {p q : PV} : kif k (Tr.ret (POut.rt p)) (.ret (.rt q)) = .ret (.rt (kif k p q)) := by cases k <;> rfl
theorem m2_bad : kif k (Tr.bad : Tr α) .bad = .bad := by cases k <;> rfl
theorem m2_str {a b : List Nat} : kif k (PV.str a) (.str b) = .str (kif k a b) := by cases k <;> rfl
theorem m2_int {a b : Int} : kif k (PV.int a) (.int b) = .int (kif k a b) := by cases k <;> rfl
theorem m2_bl {a b : Bool} : kif k (PV.bl a) (.bl b) = .bl (kif k a b) := by cases k <;> rfl
theorem m2_tup {a b : List PV} : kif k (PV.tup a) (.tup b) = .tup (kif k a b) := by cases k <;> rfl
theorem m2_lst {a b : List PV} : kif k (PV.lst a) (.lst b) = .lst (kif k a b) := by cases k <;> rfl
theorem m2_cons {a b : α} {as bs : List α} : kif k (a :: as) (b :: bs) = kif k a b :: kif k as bs := by cases k <;> rfl
theorem m2_some {a b : α} : kif k (some a) (some b) = some (kif k a b) := by cases k <;> rfl
theorem m2_tf : kif k true false = k := by cases k <;> rfl
theorem m2_ft : kif k false true = !k := by cases k <;> rfl
theorem m2_kf {b : Bool} : kif k b false = (k && b) := by cases k <;> rfl
theorem m2_tb {b : Bool} : kif k true b = (k || b) := by cases k <;> rfl
theorem m2_kt {b : Bool} : kif k b true = (!k || b) := by cases k <;> cases b <;> rfl
theorem m2_fb {b : Bool} : kif k false b = (!k && b) := by cases k <;> rfl
theorem m2_len {a b : List α} : (kif k a b).length = kif k a.length b.length := by cases k <;> rfl
theorem m2_add {a b c : Nat} : kif k a b + c = kif k (a + c) (b + c) := by cases k <;> rfl
theorem m2_add2 {a b c : Nat} : c + kif k a b = kif k (c + a) (c + b) := by cases k <;> rfl
theorem m2_le {a b c : Nat} : decide (kif k a b ≤ c) = kif k (decide (a ≤ c)) (decide (b ≤ c)) := by cases k <;> rfl
theorem m2_lt {a b c : Nat} : decide (kif k a b < c) = kif k (decide (a < c)) (decide (b < c)) := by cases k <;> rfl
theorem m2_emp {a b : List α} : (kif k a b).isEmpty = kif k a.isEmpty b.isEmpty := by cases k <;> rfl
theorem m2_beqS {a b c : List Nat} : (kif k a b == c) = kif k (a == c) (b == c) := by cases k <;> rfl
theorem m2_beqI {a b c : Int} : (kif k a b == c) = kif k (a == c) (b == c) := by cases k <;> rfl
theorem m2_map {γ : Type} {h : α → γ} {a b : List α} : (kif k a b).map h = kif k (a.map h) (b.map h) := by cases k <;> rfl
theorem m2_as {a b : List PV} : allStrsP (kif k a b) = kif k (allStrsP a) (allStrsP b) := by cases k <;> rfl
theorem emp_app {a b : List α} : (a ++ b).isEmpty = (a.isEmpty && b.isEmpty) := by cases a <;> rfl
theorem emp_nil : ([] : List α).isEmpty = true := rfl
theorem emp_cons {a : α} {b : List α} : (a :: b).isEmpty = false := rfl
def appO2 (a b : Option (List (List Nat))) : Option (List (List Nat)) := match a, b with
  | some u, some v => some (u ++ v)
  | _, _ => none
theorem ap2_ss {u v : List (List Nat)} : appO2 (some u) (some v) = some (u ++ v) := rfl
theorem as2_ap : ∀ {xs ys : List PV}, allStrsP (xs ++ ys) = appO2 (allStrsP xs) (allStrsP ys)
  | [], ys => by cases h : allStrsP ys <;> simp [allStrsP, appO2, h]
  | x :: xs, ys => by
    cases x <;> simp only [List.cons_append, allStrsP] <;> first | rfl | skip
    rw [as2_ap]
    cases allStrsP xs <;> cases allStrsP ys <;> rfl
theorem as2_nil : allStrsP [] = some [] := rfl
theorem as2_cons {x : List Nat} {xs : List PV} : allStrsP (.str x :: xs) = appO2 (some [x]) (allStrsP xs) := by
  simp only [allStrsP]; cases allStrsP xs <;> rfl
theorem as2_map {zs : List (List Nat)} : allStrsP (zs.map .str) = some zs := by
  induction zs with
  | nil => rfl
  | cons z zs ih => simp only [List.map_cons, allStrsP, ih]; rfl
end
/-! ### words for what comes next -/
def xOp1 (o : O1) (t : Tr PV) : Tr PV := t.bind (p1 o)
def xOp2 (o : O2) (t u : Tr PV) : Tr PV := t.bind fun r => u.bind (p2 o r)
def xTup (t : Tr (List PV)) : Tr PV := t.bind fun rs => whenT (decide (rs.length ≤ top)) (.ret (.tup rs))
def xLst (t : Tr (List PV)) : Tr PV := t.bind fun rs => whenT (decide (rs.length ≤ top)) (.ret (.lst rs))
def xCons (t : Tr PV) (u : Tr (List PV)) : Tr (List PV) := t.bind fun r => u.bind fun rs => .ret (r :: rs)
def yAnd (cs : List PFn) (b : E) (ρ : PEnv) (r : PV) : Tr PV := match r with
  | .bl k => kif k (pev cs b ρ) (.ret (.bl false))
  | _ => .bad
def yOr (cs : List PFn) (b : E) (ρ : PEnv) (r : PV) : Tr PV := match r with
  | .bl k => kif k (.ret (.bl true)) (pev cs b ρ)
  | _ => .bad
def xAnd (cs : List PFn) (b : E) (ρ : PEnv) (t : Tr PV) : Tr PV := t.bind (yAnd cs b ρ)
def xOr (cs : List PFn) (b : E) (ρ : PEnv) (t : Tr PV) : Tr PV := t.bind (yOr cs b ρ)
def xNot (t : Tr PV) : Tr PV := t.bind fun r => (truthT r).bind fun b => .ret (.bl (!b))
def yIte (cs : List PFn) (a b : E) (ρ : PEnv) (o : Option Bool) : Tr PV := match o with
  | some k => kif k (pev cs a ρ) (pev cs b ρ)
  | none => .bad
def xIte (cs : List PFn) (a b : E) (ρ : PEnv) (t : Tr PV) : Tr PV := t.bind fun r => yIte cs a b ρ (truthP r)
def yCall (o : Option PFn) (kw : List Nat) (rs : List PV) : Tr PV := match o with
  | some f => f (permP kw rs)
  | none => .bad
def xCall (o : Option PFn) (kw : List Nat) (t : Tr (List PV)) : Tr PV := t.bind (yCall o kw)
def xOpt (t : Tr PV) : Tr (Option Int) := t.bind fun r => match r with
    | .int i => .ret (some i)
    | _ => .bad
def xSl (t : Tr PV) (l h : Tr (Option Int)) : Tr PV := t.bind fun r => l.bind fun l => h.bind fun h => psl r l h
def aft (cs : List PFn) (n : Nat) (t : S) (u : Tr POut) : Tr POut := u.bind fun o => match o with
  | .nx ρ1 => pex cs n t ρ1
  | o => .ret o
def yBind (o : Option PEnv) : Tr POut := match o with
  | some ρ => .ret (.nx ρ)
  | none => .bad
def xAsg (tg : T) (ρ : PEnv) (t : Tr PV) : Tr POut := t.bind fun r => yBind (bindP tg r ρ)
def yApp (i : Nat) (ρ : PEnv) (o : Option (Option PV)) (q : PV) : Tr POut := match o with
  | some (some (.lst xs)) => whenT (decide (xs.length < top)) (.ret (.nx (ρ.set i (some (.lst (xs ++ [q]))))))
  | _ => .bad
def yExt (i : Nat) (ρ : PEnv) (o : Option (Option PV)) (q : PV) : Tr POut := match o with
  | some (some (.lst xs)) => match q with
    | .lst ys => whenT (decide (xs.length + ys.length ≤ top)) (.ret (.nx (ρ.set i (some (.lst (xs ++ ys))))))
    | _ => .bad
  | _ => .bad
def xApp (i : Nat) (ρ : PEnv) (t : Tr PV) : Tr POut := t.bind (yApp i ρ ρ[i]?)
def xExt (i : Nat) (ρ : PEnv) (t : Tr PV) : Tr POut := t.bind (yExt i ρ ρ[i]?)
def xRet (t : Tr PV) : Tr POut := t.bind fun r => .ret (.rt r)
def yIf (cs : List PFn) (n : Nat) (s t : S) (ρ : PEnv) (o : Option Bool) : Tr POut := match o with
  | some k => kif k (pex cs n s ρ) (pex cs n t ρ)
  | none => .bad
def xIf (cs : List PFn) (n : Nat) (s t : S) (ρ : PEnv) (c : Tr PV) : Tr POut := c.bind fun r => yIf cs n s t ρ (truthP r)
def xOut (t : Tr POut) : Tr PV := t.bind fun o => match o with
      | .rt r => .ret r
      | .nx _ => .ret .non
      | _ => .bad
def yVar (o : Option (Option PV)) : Tr PV := match o with
  | some (some v) => .ret v
  | _ => .bad
section
variable {cs : List PFn} {ρ : PEnv} {a b c d e es : E} {v : Val} {k : Bool} {p q r : PV} {rs xs ys : List PV} {n i : Nat}
theorem g_kS {x : List Nat} : pev cs (.k (.str x)) ρ = .ret (.str x) := rfl
theorem g_kI {x : Int} : pev cs (.k (.int x)) ρ = .ret (.int x) := rfl
theorem g_kB {x : Bool} : pev cs (.k (.bl x)) ρ = .ret (.bl x) := rfl
theorem g_kN : pev cs (.k .non) ρ = .ret .non := rfl
theorem g_gS {m x : List Nat} : pev cs (.g m (.str x)) ρ = .ret (.str x) := rfl
theorem g_gI {m : List Nat} {x : Int} : pev cs (.g m (.int x)) ρ = .ret (.int x) := rfl
theorem g_k : pev cs (.k v) ρ = whenT v.nr (.ret (v2p v)) := rfl
theorem g_g {m : List Nat} : pev cs (.g m v) ρ = whenT v.nr (.ret (v2p v)) := rfl
theorem g_x : pev cs (.x i) ρ = yVar ρ[i]? := by
  rw [pev]
  cases ρ[i]? with
  | none => rfl
  | some o => cases o <;> rfl
theorem z_var : yVar (some (some p)) = .ret p := rfl
theorem g_tup : pev cs (.tup es) ρ = xTup (pevs cs es ρ) := by rw [pev]; rfl
theorem z_tup : xTup (.ret rs) = whenT (decide (rs.length ≤ top)) (.ret (.tup rs)) := rfl
theorem g_lst : pev cs (.lst es) ρ = xLst (pevs cs es ρ) := by rw [pev]; rfl
theorem z_lst : xLst (.ret rs) = whenT (decide (rs.length ≤ top)) (.ret (.lst rs)) := rfl
theorem g_op1 {o : O1} : pev cs (.op1 o a) ρ = xOp1 o (pev cs a ρ) := by rw [pev]; rfl
theorem z_op1 {o : O1} : xOp1 o (.ret p) = p1 o p := rfl
theorem g_op2 {o : O2} : pev cs (.op2 o a b) ρ = xOp2 o (pev cs a ρ) (pev cs b ρ) := by rw [pev]; rfl
theorem z_op2 {o : O2} : xOp2 o (.ret p) (.ret q) = p2 o p q := rfl
theorem g_sl {lo hi : E} : pev cs (.sl a lo hi) ρ = xSl (pev cs a ρ) (optIP (isNil lo) (pev cs lo ρ)) (optIP (isNil hi) (pev cs hi ρ)) := by rw [pev]; rfl
theorem z_sl {l h : Option Int} : xSl (.ret p) (.ret l) (.ret h) = psl p l h := rfl
theorem z_optT {f : Tr PV} : optIP true f = .ret none := rfl
theorem z_optF {f : Tr PV} : optIP false f = xOpt f := rfl
theorem z_opt {j : Int} : xOpt (.ret (.int j)) = .ret (some j) := rfl
theorem g_and : pev cs (.and a b) ρ = xAnd cs b ρ (pev cs a ρ) := by rw [pev]; rfl
theorem z_and : xAnd cs b ρ (.ret (.bl k)) = kif k (pev cs b ρ) (.ret (.bl false)) := rfl
theorem g_or : pev cs (.or a b) ρ = xOr cs b ρ (pev cs a ρ) := by rw [pev]; rfl
theorem z_or : xOr cs b ρ (.ret (.bl k)) = kif k (.ret (.bl true)) (pev cs b ρ) := rfl
theorem g_not : pev cs (.not a) ρ = xNot (pev cs a ρ) := by rw [pev]; rfl
theorem z_not : xNot (.ret (.bl k)) = .ret (.bl (!k)) := rfl
theorem g_ite : pev cs (.ite c a b) ρ = xIte cs a b ρ (pev cs c ρ) := by
  rw [pev]; unfold xIte; congr 1; funext r; unfold truthT; cases truthP r <;> rfl
theorem z_ite : xIte cs a b ρ (.ret p) = yIte cs a b ρ (truthP p) := rfl
theorem z_ite2 : yIte cs a b ρ (some k) = kif k (pev cs a ρ) (pev cs b ρ) := rfl
theorem g_call {j : Nat} {kw : List Nat} : pev cs (.call false j kw es) ρ = xCall cs[j]? kw (pevs cs es ρ) := by rw [pev]; unfold xCall; congr 1
theorem z_call {f : PFn} {kw : List Nat} : xCall (some f) kw (.ret rs) = f (permP kw rs) := rfl
theorem g_nil : pevs cs .nil ρ = .ret [] := by rw [pevs]
theorem g_cons : pevs cs (.cons a b) ρ = xCons (pev cs a ρ) (pevs cs b ρ) := by rw [pevs]; rfl
theorem z_cons : xCons (.ret p) (.ret rs) = .ret (p :: rs) := rfl
variable {s t : S} {tg : T} {f u w : Tr POut}
theorem j_skip : pex cs n .skip ρ = .ret (.nx ρ) := rfl
theorem j_seq : pex cs n (.seq s t) ρ = aft cs n t (pex cs n s ρ) := by rw [pex]; rfl
theorem z_aft1 : aft cs n t (.ret (.nx ρ)) = pex cs n t ρ := rfl
theorem z_aft2 : aft cs n t (.ret (.rt p)) = .ret (.rt p) := rfl
theorem z_aft3 : aft cs n t (kif k u w) = kif k (aft cs n t u) (aft cs n t w) := by cases k <;> rfl
theorem j_asg : pex cs n (.asg (.tg tg) e) ρ = xAsg tg ρ (pev cs e ρ) := by
  rw [pex]; unfold xAsg; congr 1; funext r; cases bindP tg r ρ <;> rfl
theorem z_asg : xAsg tg ρ (.ret p) = yBind (bindP tg p ρ) := rfl
theorem z_bind : yBind (some ρ) = .ret (.nx ρ) := rfl
theorem slotL_eq {γ : Type} {g : List PV → Tr γ} : (slotL i ρ).bind g = match ρ[i]? with | some (some (.lst xs)) => g xs | _ => .bad := by
  unfold slotL
  cases ρ[i]? with
  | none => rfl
  | some o =>
    cases o with
    | none => rfl
    | some p => cases p <;> rfl
theorem bind_comm {α β γ : Type} {o : Option α} {t : Tr β} {g : α → β → Tr γ} (h : ∀ x, t.bind (g x) = t.bind (g x)) : True := trivial
theorem j_ret : pex cs n (.ret e) ρ = xRet (pev cs e ρ) := by rw [pex]; rfl
theorem z_ret : xRet (.ret p) = .ret (.rt p) := rfl
theorem j_retN : pex cs n .retN ρ = .ret (.rt .non) := rfl
theorem j_ite : pex cs n (.ite c s t) ρ = xIf cs n s t ρ (pev cs c ρ) := by
  rw [pex]; unfold xIf; congr 1; funext r; unfold truthT; cases truthP r <;> rfl
theorem z_if : xIf cs n s t ρ (.ret p) = yIf cs n s t ρ (truthP p) := rfl
theorem z_if2 : yIf cs n s t ρ (some k) = kif k (pex cs n s ρ) (pex cs n t ρ) := rfl
theorem j_run {d : Def} {args : List PV} : prun d cs args = kif (decide (args.length = d.pars)) (xOut (pex cs FUEL d.body (args.map some ++ List.replicate (d.slots - args.length) none))) .bad := by
  unfold prun kif
  by_cases h : args.length = d.pars
  · rw [if_pos h, decide_eq_true h]; rfl
  · rw [if_neg h, decide_eq_false h]; rfl
theorem z_out1 : xOut (.ret (.rt p)) = .ret p := rfl
theorem z_out2 : xOut (.ret (.nx ρ)) = .ret .non := rfl
theorem z_out3 : xOut (kif k u w) = kif k (xOut u) (xOut w) := by cases k <;> rfl
theorem j_app : pex cs n (.ex (.op2 .append (.x i) e)) ρ = xApp i ρ (pev cs e ρ) := by
  rw [pex]
  unfold xApp
  simp only [isDo, if_true]
  congr 1; funext q
  rw [slotL_eq]
  cases ρ[i]? with
  | none => rfl
  | some o =>
    cases o with
    | none => rfl
    | some p =>
      cases p <;> first | rfl | skip
      rename_i xs
      simp only [yApp, doL]
      cases decide (xs.length < top) <;> rfl
theorem z_app1 : xApp i ρ (.ret q) = yApp i ρ ρ[i]? q := rfl
theorem j_ext : pex cs n (.ex (.op2 .extend (.x i) e)) ρ = xExt i ρ (pev cs e ρ) := by
  rw [pex]
  unfold xExt
  simp only [isDo, if_true]
  congr 1; funext q
  rw [slotL_eq]
  cases ρ[i]? with
  | none => rfl
  | some o =>
    cases o with
    | none => rfl
    | some p =>
      cases p <;> first | rfl | skip
      rename_i xs
      cases q <;> first | rfl | skip
      rename_i ys
      simp only [yExt, doL]
      cases decide (xs.length + ys.length ≤ top) <;> rfl
theorem z_ext1 : xExt i ρ (.ret q) = yExt i ρ ρ[i]? q := rfl
theorem z_app : yApp i ρ (some (some (.lst xs))) q = whenT (decide (xs.length < top)) (.ret (.nx (ρ.set i (some (.lst (xs ++ [q])))))) := rfl
theorem z_ext : yExt i ρ (some (some (.lst xs))) (.lst ys) = whenT (decide (xs.length + ys.length ≤ top)) (.ret (.nx (ρ.set i (some (.lst (xs ++ ys)))))) := rfl
/-! ### operations -/
variable {x y : List Nat} {m j : Int}
def yB (o : Option Bool) : Tr PV := match o with
  | some k => .ret (.bl k)
  | none => .bad
def yN (o : Option Bool) : Tr PV := match o with
  | some k => .ret (.bl (!k))
  | none => .bad
def yV (o : Option PV) : Tr PV := match o with
  | some k => .ret k
  | none => .bad
theorem z_B : yB (some k) = .ret (.bl k) := rfl
theorem z_N : yN (some k) = .ret (.bl (!k)) := rfl
theorem z_V : yV (some p) = .ret p := rfl
theorem u_eq : p2 .eq p q = yB (eqP 61 p q) := by simp only [p2]; cases eqP 61 p q <;> rfl
theorem u_ne : p2 .ne p q = yN (eqP 61 p q) := by simp only [p2]; cases eqP 61 p q <;> rfl
theorem u_lt : p2 .lt (.int m) (.int j) = .ret (.bl (decide (m < j))) := rfl
theorem u_le : p2 .le (.int m) (.int j) = .ret (.bl (decide (m ≤ j))) := rfl
theorem u_gt : p2 .gt (.int m) (.int j) = .ret (.bl (decide (j < m))) := rfl
theorem u_ge : p2 .ge (.int m) (.int j) = .ret (.bl (decide (j ≤ m))) := rfl
theorem u_addI : p2 .add (.int m) (.int j) = .ret (.int (m + j)) := rfl
theorem u_sub : p2 .sub (.int m) (.int j) = .ret (.int (m - j)) := rfl
theorem u_addT : p2 .add (.tup xs) (.tup ys) = whenT (decide (xs.length + ys.length ≤ top)) (.ret (.tup (xs ++ ys))) := rfl
theorem u_addL : p2 .add (.lst xs) (.lst ys) = whenT (decide (xs.length + ys.length ≤ top)) (.ret (.lst (xs ++ ys))) := rfl
theorem u_addS : p2 .add (.str x) (.str y) = whenT (decide (x.length + y.length ≤ top)) (.ret (.str (x ++ y))) := rfl
theorem u_inT : p2 .isin (.str x) (.tup ys) = yB (anyEqP (.str x) ys) := by
  show liftT _ = _
  cases anyEqP (.str x) ys <;> rfl
theorem u_inL : p2 .isin (.str x) (.lst ys) = yB (anyEqP (.str x) ys) := by
  show liftT _ = _
  cases anyEqP (.str x) ys <;> rfl
theorem u_ninT : p2 .notin (.str x) (.tup ys) = yN (anyEqP (.str x) ys) := by
  show liftT _ = _
  cases anyEqP (.str x) ys <;> rfl
theorem u_ninL : p2 .notin (.str x) (.lst ys) = yN (anyEqP (.str x) ys) := by
  show liftT _ = _
  cases anyEqP (.str x) ys <;> rfl
theorem u_ixT : p2 .ix (.tup xs) (.int m) = yV (at' xs m) := by
  show liftT _ = _
  cases at' xs m <;> rfl
theorem u_ixL : p2 .ix (.lst xs) (.int m) = yV (at' xs m) := by
  show liftT _ = _
  cases at' xs m <;> rfl
theorem u_int : p1 .int (.int m) = .ret (.int m) := rfl
theorem u_intB : p1 .int (.bl k) = .ret (.int (kif k 1 0)) := rfl
theorem u_lenT : p1 .len (.tup xs) = .ret (.int xs.length) := rfl
theorem u_lenL : p1 .len (.lst xs) = .ret (.int xs.length) := rfl
theorem u_tupT : p1 .tuple (.tup xs) = .ret (.tup xs) := rfl
theorem u_tupL : p1 .tuple (.lst xs) = .ret (.tup xs) := rfl
theorem u_lstT : p1 .list (.tup xs) = .ret (.lst xs) := rfl
theorem u_lstL : p1 .list (.lst xs) = .ret (.lst xs) := rfl
theorem u_isN : p1 .isNon p = .ret (.bl (p == .non)) := rfl
theorem u_noN : p1 .notNon p = .ret (.bl (!(p == .non))) := rfl
theorem u_slL {lo hi : Option Int} : psl (.lst xs) lo hi = .ret (.lst (cut xs lo hi)) := rfl
theorem u_slT {lo hi : Option Int} : psl (.tup xs) lo hi = .ret (.tup (cut xs lo hi)) := rfl
def yI (o : Option Nat) : Tr PV := match o with
  | some n => .ret (.int (n : Int))
  | none => .bad
theorem z_I {n : Nat} : yI (some n) = .ret (.int (n : Int)) := rfl
theorem u_index (hb : isVP p = true) : p2 .index (.lst xs) p = yI (placeEqP p xs) := by
  have : p2 .index (.lst xs) p = liftT ((placeEqP p xs).map fun (n : Nat) => PV.int (n : Int)) := by cases p <;> first | rfl | cases hb
  rw [this]; cases placeEqP p xs <;> rfl
theorem u_count (hb : isVP p = true) : p2 .count (.lst xs) p = yI (countEqP p xs) := by
  have : p2 .count (.lst xs) p = liftT ((countEqP p xs).map fun (n : Nat) => PV.int (n : Int)) := by cases p <;> first | rfl | cases hb
  rw [this]; cases countEqP p xs <;> rfl
theorem u_iSs : p1 .isStr (.str x) = .ret (.bl true) := rfl
theorem u_iSi : p1 .isStr (.int m) = .ret (.bl false) := rfl
theorem u_iSb : p1 .isStr (.bl k) = .ret (.bl false) := rfl
theorem u_iSn : p1 .isStr .non = .ret (.bl false) := rfl
theorem u_iSt : p1 .isStr (.tup xs) = .ret (.bl false) := rfl
theorem u_iSl : p1 .isStr (.lst xs) = .ret (.bl false) := rfl
theorem u_iIs : p1 .isInt (.str x) = .ret (.bl false) := rfl
theorem u_iIi : p1 .isInt (.int m) = .ret (.bl true) := rfl
theorem u_iIb : p1 .isInt (.bl k) = .ret (.bl true) := rfl
theorem u_iIn : p1 .isInt .non = .ret (.bl false) := rfl
theorem u_iIt : p1 .isInt (.tup xs) = .ret (.bl false) := rfl
theorem u_iIl : p1 .isInt (.lst xs) = .ret (.bl false) := rfl
theorem u_iTs : p1 .isTup (.str x) = .ret (.bl false) := rfl
theorem u_iTi : p1 .isTup (.int m) = .ret (.bl false) := rfl
theorem u_iTb : p1 .isTup (.bl k) = .ret (.bl false) := rfl
theorem u_iTn : p1 .isTup .non = .ret (.bl false) := rfl
theorem u_iTt : p1 .isTup (.tup xs) = .ret (.bl true) := rfl
theorem u_iTl : p1 .isTup (.lst xs) = .ret (.bl false) := rfl
theorem u_iBs : p1 .isBool (.str x) = .ret (.bl false) := rfl
theorem u_iBi : p1 .isBool (.int m) = .ret (.bl false) := rfl
theorem u_iBb : p1 .isBool (.bl k) = .ret (.bl true) := rfl
theorem u_iBn : p1 .isBool .non = .ret (.bl false) := rfl
theorem u_iBt : p1 .isBool (.tup xs) = .ret (.bl false) := rfl
theorem u_iBl : p1 .isBool (.lst xs) = .ret (.bl false) := rfl
theorem u_max2 : p2 .max2 (.int m) (.int j) = .ret (.int (if j > m then j else m)) := rfl
theorem u_min2 : p2 .min2 (.int m) (.int j) = .ret (.int (if j < m then j else m)) := rfl
theorem u_isT : p1 .isTrue (.bl k) = .ret (.bl k) := rfl
theorem u_notT : p1 .notTrue (.bl k) = .ret (.bl (!k)) := rfl
/-- sorted, of texts -/
def ySort (o : Option (List (List Nat))) : Tr PV := match o with
  | some zs => .ret (.lst ((isort leN zs).map .str))
  | none => .bad
theorem z_sort {zs : List (List Nat)} : ySort (some zs) = .ret (.lst ((isort leN zs).map .str)) := rfl
theorem u_sort (h : (allStrsP xs).isSome = true) : p1 .sorted (.lst xs) = whenT (decide (xs.length < 64)) (ySort (allStrsP xs)) := by
  simp only [p1, seqP]
  cases h2 : allStrsP xs with
  | none => rw [h2] at h; cases h
  | some zs => rfl
theorem is_some2 {α : Type} {x : α} : (some x).isSome = true := rfl
theorem All.of {α : Type} {t : Tr α} {x : α} {Q : α → Prop} (h : t = .ret x) (g : Q x) : All t Q := by rw [h, a_ret]; exact g
end
end Mi
end
section
set_option linter.all false
set_option autoImplicit false
/-! PvDom: strengths, ends, heads, manners. -/
namespace Mi
inductive St where
  | n | l | f
  deriving DecidableEq
inductive En where
  | a | c
  deriving DecidableEq
structure Hd where
  b : St
  c : St
  a : St
structure Mn where
  p : St
  c : St
  a : St
  ta : Bool
  tc : Bool
  pr : En
  sn : Bool
def St.s : St → List Nat
  | .n => [110, 111, 110, 101]
  | .l => [108, 97, 122, 121]
  | .f => [102, 111, 114, 99, 101, 100]
def En.s : En → List Nat
  | .a => [97, 98, 111, 114, 116]
  | .c => [99, 111, 109, 109, 105, 116]
def St.isF : St → Bool
  | .f => true
  | _ => false
def St.isN : St → Bool
  | .n => true
  | _ => false
def En.isC : En → Bool
  | .c => true
  | .a => false
def thS (ta tc : Bool) : List (List Nat) := (if ta then [[97, 98, 111, 114, 116]] else []) ++ (if tc then [[99, 111, 109, 109, 105, 116]] else [])
def St.e (x : St) : PV := .str x.s
def En.e (x : En) : PV := .str x.s
def Hd.e (h : Hd) : PV := .tup [.str h.b.s, .str h.c.s, .str h.a.s]
def Mn.e (m : Mn) : PV := .tup [.str m.p.s, .str m.c.s, .str m.a.s, .tup ((thS m.ta m.tc).map .str), .str m.pr.s, .bl m.sn]
theorem st_f {x : St} : (x.s == [102, 111, 114, 99, 101, 100]) = x.isF := by cases x <;> rfl
theorem st_n {x : St} : (x.s == [110, 111, 110, 101]) = x.isN := by cases x <;> rfl
theorem en_c {x : En} : (x.s == [99, 111, 109, 109, 105, 116]) = x.isC := by cases x <;> rfl
theorem en_a {x : En} : (x.s == [97, 98, 111, 114, 116]) = !x.isC := by cases x <;> rfl
theorem th_a {x y : Bool} : (thS x y).contains [97, 98, 111, 114, 116] = x := by cases x <;> cases y <;> rfl
theorem th_c {x y : Bool} : (thS x y).contains [99, 111, 109, 109, 105, 116] = y := by cases x <;> cases y <;> rfl
/-- the words of what is lacking -/
def lkB (hc pf pn hb af cf ta tc pC sn : Bool) : List (List Nat) :=
  isort leN ((if hc then [] else [[104, 101, 97, 100, 32, 99, 111, 109, 109, 105, 116, 116, 101, 100]]) ++ (if !pf && !sn then [[112, 114, 101, 112, 97, 114, 101, 100]] else []) ++ (if pC && !hb then [[98, 101, 103, 117, 110]] else []) ++ (if pC && !ta then [[116, 104, 97, 110, 107, 115, 32, 97, 98, 111, 114, 116]] else []) ++ (if pC && !af && !pn then [[97, 98, 111, 114, 116, 101, 100]] else []) ++ (if !pC || (sn && !pf) then (if cf then [] else [[99, 111, 109, 109, 105, 116, 116, 101, 100]]) ++ (if tc then [] else [[116, 104, 97, 110, 107, 115, 32, 99, 111, 109, 109, 105, 116]]) else []))
def lk (h : Hd) (m : Mn) : List (List Nat) := lkB h.c.isF m.p.isF m.p.isN h.b.isF m.a.isF m.c.isF m.ta m.tc m.pr.isC m.sn
/-- whether nothing is lacking -/
def fit (h : Hd) (m : Mn) : Bool := (lk h m).isEmpty
/-! ### looks at values -/
def isS (p : PV) : Bool := match p with
  | .str x => x == [110, 111, 110, 101] || x == [108, 97, 122, 121] || x == [102, 111, 114, 99, 101, 100]
  | _ => false
def isEnd (p : PV) : Bool := match p with
  | .str x => x == [97, 98, 111, 114, 116] || x == [99, 111, 109, 109, 105, 116]
  | _ => false
def isTh (p : PV) : Bool := match p with
  | .tup [] => true
  | .tup [.str x] => x == [97, 98, 111, 114, 116] || x == [99, 111, 109, 109, 105, 116]
  | .tup [.str x, .str y] => x == [97, 98, 111, 114, 116] && y == [99, 111, 109, 109, 105, 116]
  | _ => false
def isBl (p : PV) : Bool := match p with
  | .bl _ => true
  | _ => false
def isHead (p : PV) : Bool := match p with
  | .tup [a, b, c] => isS a && isS b && isS c
  | _ => false
def isManner (p : PV) : Bool := match p with
  | .tup [a, b, c, d, e, f] => isS a && isS b && isS c && isTh d && isEnd e && isBl f
  | _ => false
theorem isS_e {p : PV} (h : isS p = true) : ∃ x : St, p = x.e := by
  cases p <;> first | (cases h; done) | skip
  simp only [isS, Bool.or_eq_true, beq_iff_eq] at h
  rcases h with (rfl | rfl) | rfl
  · exact ⟨.n, rfl⟩
  · exact ⟨.l, rfl⟩
  · exact ⟨.f, rfl⟩
theorem isEnd_e {p : PV} (h : isEnd p = true) : ∃ x : En, p = x.e := by
  cases p <;> first | (cases h; done) | skip
  simp only [isEnd, Bool.or_eq_true, beq_iff_eq] at h
  rcases h with rfl | rfl
  · exact ⟨.a, rfl⟩
  · exact ⟨.c, rfl⟩
theorem isTh_e {p : PV} (h : isTh p = true) : ∃ a c : Bool, p = .tup ((thS a c).map .str) := by
  unfold isTh at h
  split at h
  · exact ⟨false, false, rfl⟩
  · simp only [Bool.or_eq_true, beq_iff_eq] at h
    rcases h with rfl | rfl
    · exact ⟨true, false, rfl⟩
    · exact ⟨false, true, rfl⟩
  · simp only [Bool.and_eq_true, beq_iff_eq] at h
    obtain ⟨rfl, rfl⟩ := h
    exact ⟨true, true, rfl⟩
  · cases h
theorem isHead_e {p : PV} (h : isHead p = true) : ∃ x : Hd, p = x.e := by
  unfold isHead at h
  split at h
  · simp only [Bool.and_eq_true] at h
    obtain ⟨a, rfl⟩ := isS_e h.1.1
    obtain ⟨b, rfl⟩ := isS_e h.1.2
    obtain ⟨c, rfl⟩ := isS_e h.2
    exact ⟨⟨a, b, c⟩, rfl⟩
  · cases h
theorem isManner_e {p : PV} (h : isManner p = true) : ∃ x : Mn, p = x.e := by
  unfold isManner at h
  split at h
  · rename_i a b c d e f
    simp only [Bool.and_eq_true] at h
    obtain ⟨⟨⟨⟨⟨h1, h2⟩, h3⟩, h4⟩, h5⟩, h6⟩ := h
    obtain ⟨a, rfl⟩ := isS_e h1
    obtain ⟨b, rfl⟩ := isS_e h2
    obtain ⟨c, rfl⟩ := isS_e h3
    obtain ⟨x, y, rfl⟩ := isTh_e h4
    obtain ⟨e, rfl⟩ := isEnd_e h5
    cases f <;> first | (cases h6; done) | skip
    rename_i f
    exact ⟨⟨a, b, c, x, y, e, f⟩, rfl⟩
  · cases h
theorem Hd.is (h : Hd) : isHead h.e = true := by
  obtain ⟨a, b, c⟩ := h
  cases a <;> cases b <;> cases c <;> rfl
/-! ### they are shown -/
mutual
/-- the datum of a value without references -/
def dP : PV → PySem.PyData
  | .bl b => .bool b
  | .int i => .int i
  | .str x => .str (toStr x)
  | .tup xs => .tuple (dPs xs)
  | .lst xs => .list (dPs xs)
  | _ => .none
def dPs : List PV → List PySem.PyData
  | [] => []
  | x :: xs => dP x :: dPs xs
end
mutual
/-- it can be shown, by so many levels, in so many signs -/
def vkP : Nat → PV → Bool
  | 0, _ => false
  | n + 1, v => match v with
    | .non => true
    | .bl _ => true
    | .int i => decide (i.natAbs.log2 < 1920)
    | .str x => x.all fun c => decide (c < 4294967296)
    | .tup xs => vkPs n xs
    | .lst xs => vkPs n xs
    | _ => false
def vkPs : Nat → List PV → Bool
  | _, [] => true
  | n, x :: xs => vkP n x && vkPs n xs
end
mutual
theorem datP_of : ∀ (n : Nat) (v : PV), vkP n v = true → datP n v = some (dP v)
  | 0, v, h => by simp [vkP] at h
  | n + 1, .non, _ => rfl
  | n + 1, .bl _, _ => rfl
  | n + 1, .int i, h => by
    simp only [vkP, decide_eq_true_eq] at h
    simp [datP, seqP, h, dP]
  | n + 1, .str x, h => by
    simp only [vkP] at h
    simp [datP, seqP, h, dP]
  | n + 1, .tup xs, h => by
    simp only [vkP] at h
    simp [datP, seqP, datPs_of n xs h, dP]
  | n + 1, .lst xs, h => by
    simp only [vkP] at h
    simp [datP, seqP, datPs_of n xs h, dP]
  | n + 1, .dic _ _, h => by simp [vkP] at h
  | n + 1, .deck, h => by simp [vkP] at h
theorem datPs_of : ∀ (n : Nat) (xs : List PV), vkPs n xs = true → xs.mapM (datP n) = some (dPs xs)
  | _, [], _ => by simp [dPs]
  | n, x :: xs, h => by
    simp only [vkPs, Bool.and_eq_true] at h
    rw [List.mapM_cons, datP_of n x h.1, datPs_of n xs h.2]
    simp [dPs]
end
/-- the text of a value -/
def txP (v : PV) : List Nat := (dP v).shown.cps.toList
/-- it can be shown -/
def Sh (v : PV) (n m : Nat) : Prop := vkP n v = true ∧ dsz (dP v) ≤ m
def Shs (v : List PV) (n m : Nat) : Prop := vkPs n v = true ∧ dszs (dPs v) ≤ m
theorem o_repr' {a : PV} {Q : PV → Prop} {m : Nat} (h : Sh a 60 m) (hm : m ≤ top) : All (p1 .repr a) Q = Q (.str (txP a)) := o_repr ⟨dP a, datP_of 60 a h.1, Nat.le_trans h.2 hm, rfl⟩
mutual
theorem vkP.mono : ∀ {n m : Nat} {v : PV}, vkP n v = true → n ≤ m → vkP m v = true
  | 0, _, v, h, _ => by simp [vkP] at h
  | n + 1, 0, v, h, l => by omega
  | n + 1, m + 1, .non, h, l => rfl
  | n + 1, m + 1, .bl _, h, l => rfl
  | n + 1, m + 1, .int _, h, l => h
  | n + 1, m + 1, .str _, h, l => h
  | n + 1, m + 1, .tup xs, h, l => by
    simp only [vkP] at h ⊢
    exact vkPs.mono h (by omega)
  | n + 1, m + 1, .lst xs, h, l => by
    simp only [vkP] at h ⊢
    exact vkPs.mono h (by omega)
  | n + 1, m + 1, .dic _ _, h, l => by simp [vkP] at h
  | n + 1, m + 1, .deck, h, l => by simp [vkP] at h
theorem vkPs.mono : ∀ {n m : Nat} {v : List PV}, vkPs n v = true → n ≤ m → vkPs m v = true
  | _, _, [], _, _ => by simp [vkPs]
  | n, m, x :: xs, h, l => by
    simp only [vkPs, Bool.and_eq_true] at h ⊢
    exact ⟨vkP.mono h.1 l, vkPs.mono h.2 l⟩
end
theorem Sh.mono {v : PV} {n m n' m' : Nat} (h : Sh v n m) (a : n ≤ n') (b : m ≤ m') : Sh v n' m' := ⟨vkP.mono h.1 a, Nat.le_trans h.2 b⟩
theorem Shs.nil {n : Nat} : Shs [] n 0 := ⟨by simp [vkPs], by simp [dPs, dszs]⟩
theorem Shs.cons {v : PV} {vs : List PV} {n a b : Nat} (h : Sh v n a) (g : Shs vs n b) : Shs (v :: vs) n (a + 2 + b) := ⟨by simp [vkPs, h.1, g.1], by have := h.2; have := g.2; simp only [dPs, dszs]; omega⟩
theorem Sh.tup {vs : List PV} {n a : Nat} (h : Shs vs n a) : Sh (.tup vs) (n + 1) (a + 3) := ⟨by simp [vkP, h.1], by have := h.2; simp only [dP, dsz]; omega⟩
theorem Sh.lst {vs : List PV} {n a : Nat} (h : Shs vs n a) : Sh (.lst vs) (n + 1) (a + 2) := ⟨by simp [vkP, h.1], by have := h.2; simp only [dP, dsz]; omega⟩
theorem Sh.bl {b : Bool} {n : Nat} : Sh (.bl b) (n + 1) 5 := ⟨rfl, by simp [dP, dsz]⟩
theorem Sh.non {n : Nat} : Sh .non (n + 1) 4 := ⟨rfl, by simp [dP, dsz]⟩
theorem Shs.of {vs : List PV} {n a : Nat} (h : ∀ v ∈ vs, Sh v n a) : Shs vs n ((a + 2) * vs.length) := by
  induction vs with
  | nil => exact ⟨by simp [vkPs], by simp [dPs, dszs]⟩
  | cons v vs ih =>
    have := Shs.cons (h v List.mem_cons_self) (ih fun w hw => h w (List.mem_cons_of_mem _ hw))
    refine ⟨this.1, Nat.le_trans this.2 ?_⟩
    simp only [List.length_cons, Nat.mul_add]; omega
theorem St.sh {x : St} : Sh (.str x.s) 1 62 := by cases x <;> exact ⟨rfl, by decide⟩
theorem En.sh {x : En} : Sh (.str x.s) 1 62 := by cases x <;> exact ⟨rfl, by decide⟩
theorem thS_sh {x y : Bool} : Sh (.tup ((thS x y).map .str)) 2 200 := by cases x <;> cases y <;> exact ⟨rfl, by decide⟩
theorem Hd.sh {h : Hd} : Sh h.e 2 300 := (Sh.tup (.cons St.sh (.cons St.sh (.cons St.sh .nil)))).mono (by decide) (by decide)
theorem Mn.sh {m : Mn} : Sh m.e 3 600 := (Sh.tup (.cons (St.sh.mono (by decide) (Nat.le_refl _)) (.cons (St.sh.mono (by decide) (Nat.le_refl _)) (.cons (St.sh.mono (by decide) (Nat.le_refl _)) (.cons thS_sh (.cons (En.sh.mono (by decide) (Nat.le_refl _)) (.cons .bl .nil))))))).mono (by decide) (by decide)
theorem lkB_sh : ∀ a b c d e f g h i j : Bool, vkPs 1 ((lkB a b c d e f g h i j).map .str) = true ∧ dszs (dPs ((lkB a b c d e f g h i j).map .str)) ≤ 2000 := by decide +kernel
theorem lk_sh {h : Hd} {m : Mn} : Shs ((lk h m).map .str) 1 2000 := lkB_sh _ _ _ _ _ _ _ _ _ _
/-- a protocol -/
structure Pr where
  h : Hd
  ms : List Mn
def Pr.e (p : Pr) : PV := .tup [p.h.e, .tup (p.ms.map Mn.e)]
theorem Mn.shs {ms : List Mn} : Shs (ms.map Mn.e) 3 (602 * ms.length) := by
  have := Shs.of (n := 3) (a := 600) (vs := ms.map Mn.e) fun v hv => by
    obtain ⟨m, _, rfl⟩ := List.mem_map.mp hv
    exact Mn.sh
  simpa using this
theorem Pr.sh {p : Pr} {n : Nat} (h : p.ms.length ≤ n) : Sh p.e 5 (400 + 602 * n) := by
  have := Sh.tup (Shs.cons (n := 4) (Hd.sh (h := p.h) |>.mono (by decide) (Nat.le_refl _)) (.cons (Sh.tup (Mn.shs (ms := p.ms))) .nil))
  exact this.mono (by decide) (by have := Nat.mul_le_mul_left 602 h; omega)
theorem maps_of {α : Type} {e : α → PV} {P : PV → Bool} (hP : ∀ p, P p = true → ∃ x, p = e x) : ∀ {ps : List PV}, (∀ p ∈ ps, P p = true) → ∃ xs : List α, ps = xs.map e
  | [], _ => ⟨[], rfl⟩
  | p :: ps, h => by
    obtain ⟨x, rfl⟩ := hP p (h p List.mem_cons_self)
    obtain ⟨xs, rfl⟩ := maps_of hP (ps := ps) fun q hq => h q (List.mem_cons_of_mem _ hq)
    exact ⟨x :: xs, rfl⟩
end Mi
end
section
set_option linter.all false
set_option autoImplicit false
/-! PvK: the interpreter's clauses as words of their own, so that Lean's kernel runs them fast: what is put into a slot is computed first. -/
namespace Mi
section
variable {α β : Type}
/-! ### computing first -/
def fNat (n : Nat) (k : Nat → α) : α := match n with
  | 0 => k 0
  | n + 1 => k (n + 1)
def fInt (i : Int) (k : Int → α) : α := match i with
  | .ofNat n => fNat n fun n => k (.ofNat n)
  | .negSucc n => fNat n fun n => k (.negSucc n)
def fStr : List Nat → (List Nat → α) → α
  | [], k => k []
  | x :: xs, k => fNat x fun y => fStr xs fun ys => k (y :: ys)
def fBool (b : Bool) (k : Bool → α) : α := match b with
  | true => k true
  | false => k false
mutual
def fV : PV → (PV → α) → α
  | .non, k => k .non
  | .bl b, k => fBool b fun b => k (.bl b)
  | .int i, k => fInt i fun i => k (.int i)
  | .str x, k => k (.str x)
  | .tup xs, k => fVs xs fun xs => k (.tup xs)
  | .lst xs, k => fVs xs fun xs => k (.lst xs)
  | .dic a b, k => fVs a fun a => fVs b fun b => k (.dic a b)
  | .deck, k => k .deck
def fVs : List PV → (List PV → α) → α
  | [], k => k []
  | x :: xs, k => fV x fun y => fVs xs fun ys => k (y :: ys)
end
def fEnv : PEnv → (PEnv → α) → α
  | [], k => k []
  | o :: ρ, k => fEnv ρ fun ρ => k (o :: ρ)
theorem fNat_eq (n : Nat) (k : Nat → α) : fNat n k = k n := by cases n <;> rfl
theorem fInt_eq (i : Int) (k : Int → α) : fInt i k = k i := by cases i <;> simp only [fInt, fNat_eq]
theorem fStr_eq : ∀ (x : List Nat) (k : List Nat → α), fStr x k = k x
  | [], k => rfl
  | x :: xs, k => by simp only [fStr, fNat_eq, fStr_eq xs]
theorem fBool_eq (b : Bool) (k : Bool → α) : fBool b k = k b := by cases b <;> rfl
mutual
theorem fV_eq : ∀ (x : PV) (k : PV → α), fV x k = k x
  | .non, k => rfl
  | .bl b, k => by simp only [fV, fBool_eq]
  | .int i, k => by simp only [fV, fInt_eq]
  | .str x, k => rfl
  | .tup xs, k => by simp only [fV, fVs_eq xs]
  | .lst xs, k => by simp only [fV, fVs_eq xs]
  | .dic a b, k => by simp only [fV, fVs_eq a, fVs_eq b]
  | .deck, k => rfl
theorem fVs_eq : ∀ (x : List PV) (k : List PV → α), fVs x k = k x
  | [], k => rfl
  | x :: xs, k => by simp only [fVs, fV_eq x, fVs_eq xs]
end
theorem fEnv_eq : ∀ (ρ : PEnv) (k : PEnv → α), fEnv ρ k = k ρ
  | [], k => rfl
  | o :: ρ, k => by simp only [fEnv, fEnv_eq ρ]
end
/-! ### the clauses -/
abbrev CE := PEnv → Tr PV
abbrev CEs := PEnv → Tr (List PV)
abbrev CS := PEnv → Tr POut
def lookK : Nat → PEnv → Tr PV
  | _, [] => .bad
  | 0, o :: _ => match o with
    | some v => .ret v
    | none => .bad
  | i + 1, _ :: ρ => lookK i ρ
theorem lookK_eq : ∀ (i : Nat) (ρ : PEnv), lookK i ρ = liftT ((ρ[i]?).bind id)
  | 0, [] => rfl
  | i + 1, [] => rfl
  | 0, o :: ρ => by cases o <;> rfl
  | i + 1, o :: ρ => by simp only [lookK, lookK_eq i ρ, List.getElem?_cons_succ]
def kK (p : PV) : CE := fun _ => .ret p
def kX (i : Nat) : CE := lookK i
def kBad : CE := fun _ => .bad
def kNil : CEs := fun _ => .ret []
def kCons (h : CE) (t : CEs) : CEs := fun ρ => (h ρ).bind fun r => (t ρ).bind fun rs => .ret (r :: rs)
def kTup (es : CEs) : CE := fun ρ => (es ρ).bind fun rs => whenT (decide (rs.length ≤ top)) (.ret (.tup rs))
def kLst (es : CEs) : CE := fun ρ => (es ρ).bind fun rs => whenT (decide (rs.length ≤ top)) (.ret (.lst rs))
def kDic (es : CEs) : CE := fun ρ => (es ρ).bind fun rs => (liftT (dicP rs)).bind fun p => whenT (!false && nodupP p.1 && decide (p.1.length ≤ 15)) (.ret (.dic p.1 p.2))
def kOp1 (o : O1) (a : CE) : CE := fun ρ => (a ρ).bind fun r => p1 o r
def kOp2 (o : O2) (a b : CE) : CE := fun ρ => (a ρ).bind fun r => (b ρ).bind fun q => p2 o r q
def kOpt (e : Option CE) : PEnv → Tr (Option Int) := fun ρ => match e with
  | none => .ret none
  | some f => (f ρ).bind fun r => match r with
    | .int i => .ret (some i)
    | _ => .bad
def kSl (a : CE) (lo hi : Option CE) : CE := fun ρ => (a ρ).bind fun r => (kOpt lo ρ).bind fun l => (kOpt hi ρ).bind fun h => psl r l h
def kAnd (a b : CE) : CE := fun ρ => (a ρ).bind fun r => match r with
    | .bl k => kif k (b ρ) (.ret (.bl false))
    | _ => .bad
def kOr (a b : CE) : CE := fun ρ => (a ρ).bind fun r => match r with
    | .bl k => kif k (.ret (.bl true)) (b ρ)
    | _ => .bad
def kNot (a : CE) : CE := fun ρ => (a ρ).bind fun r => (truthT r).bind fun b => .ret (.bl (!b))
def kIte (c a b : CE) : CE := fun ρ => (c ρ).bind fun r => (truthT r).bind fun k => kif k (a ρ) (b ρ)
def kChain (o p : O2) (a b c : CE) : CE := fun ρ => (a ρ).bind fun r => (b ρ).bind fun q => whenT (isVP r && isVP q) ((p2 o r q).bind fun z => match z with
    | .bl k => kif k ((c ρ).bind fun u => p2 p q u) (.ret (.bl false))
    | _ => .bad)
def kCall (f : PFn) (kw : List Nat) (es : CEs) : CE := fun ρ => (es ρ).bind fun rs => fVs (permP kw rs) fun rs => f rs
def kComp (own : List Nat) (tg : T) (k : IK) (a : CE) (b : Option CE) (c : Option CE) (e : CE) : CE := fun ρ => (a ρ).bind fun r => (match b with | none => (Tr.ret PV.non : Tr PV) | some b => b ρ).bind fun q => (liftT (walkP k r q)).bind fun xs => fVs xs fun xs =>
      ((compP tg (fun ρ' => fEnv ρ' fun ρ' => match c with | none => (Tr.ret true : Tr Bool) | some c => (c ρ').bind truthT) (fun ρ' => fEnv ρ' fun ρ' => e ρ') (wipeP ρ own) xs []).noX).bind fun l => .ret (.lst l)
def kSkip : CS := fun ρ => .ret (.nx ρ)
def kSeq (s t : CS) : CS := fun ρ => (s ρ).bind fun o => match o with
    | .nx ρ1 => t ρ1
    | o => .ret o
def kAsg (t : T) (e : CE) : CS := fun ρ => (e ρ).bind fun r => fV r fun r => (liftT (bindP t r ρ)).bind fun ρ1 => fEnv ρ1 fun ρ1 => .ret (.nx ρ1)
def kSub (i : Nat) (j e : CE) : CS := fun ρ => (e ρ).bind fun r => fV r fun r => (slotL i ρ).bind fun xs => (j ρ).bind fun q => match q with
    | .int n => (liftT (ix xs.length n)).bind fun m => fVs (xs.set m r) fun ys => fEnv (ρ.set i (some (.lst ys))) fun ρ1 => .ret (.nx ρ1)
    | _ => .bad
def kMv (i j : Nat) (e : CE) : CS := fun ρ => (e ρ).bind fun r => fV r fun r => (liftT (bindP (.sl i) r ρ)).bind fun ρ1 => fEnv (ρ1.set j none) fun ρ1 => .ret (.nx ρ1)
def kDo (o : O2) (i : Nat) (e : CE) : CS := fun ρ => (e ρ).bind fun q => fV q fun q => (slotL i ρ).bind fun xs => (doL o xs q).bind fun ys => fVs ys fun ys => fEnv (ρ.set i (some (.lst ys))) fun ρ1 => .ret (.nx ρ1)
def kEx (e : CE) : CS := fun ρ => (e ρ).bind fun _ => .ret (.nx ρ)
def kRet (e : CE) : CS := fun ρ => (e ρ).bind fun r => fV r fun r => .ret (.rt r)
def kRetN : CS := fun _ => .ret (.rt .non)
def kIf (c : CE) (s t : CS) : CS := fun ρ => (c ρ).bind fun r => (truthT r).bind fun b => kif b (s ρ) (t ρ)
def kWhl (c : CE) (s : CS) : CS := fun ρ => whileP (fun ρ' => (c ρ').bind truthT) s FUEL ρ
def kFor (tg : T) (k : IK) (a : CE) (b : Option CE) (s : CS) : CS := fun ρ => (a ρ).bind fun r => (match b with | none => (Tr.ret PV.non : Tr PV) | some b => b ρ).bind fun q => (liftT (walkP k r q)).bind fun xs => fVs xs fun xs => forP tg (fun ρ' => fEnv ρ' fun ρ' => s ρ') xs ρ
def kBrk : CS := fun ρ => .ret (.bk ρ)
def kCont : CS := fun ρ => .ret (.ct ρ)
def kRun (pars slots : Nat) (b : CS) : PFn := fun args =>
  if args.length = pars then
    (fEnv (args.map some ++ List.replicate (slots - args.length) none) b).bind fun o => match o with
      | .rt r => .ret r
      | .nx _ => .ret .non
      | _ => .bad
  else .bad
/-! ### they are the clauses -/
section
variable {cs : List PFn} {v : Val} {a b c e h t es lo hi : E} {i : Nat} {g : List Nat}
theorem kq_k {p : PV} (hv : v.nr = true) (hp : v2p v = p) : pev cs (.k v) = kK p := by funext ρ; simp only [pev, hv, hp] <;> rfl
theorem kq_g {p : PV} (hv : v.nr = true) (hp : v2p v = p) : pev cs (.g g v) = kK p := by funext ρ; simp only [pev, hv, hp] <;> rfl
def kKv (v : Val) : CE := fun _ => whenT v.nr (.ret (v2p v))
theorem kq_kv : pev cs (.k v) = kKv v := rfl
theorem kq_gv : pev cs (.g g v) = kKv v := rfl
theorem kKv_eq {p : PV} (h : (v.nr && (v2p v == p)) = true) : kKv v = kK p := by
  simp only [Bool.and_eq_true, beq_iff_eq] at h
  funext ρ
  simp only [kKv, kK, h.1, h.2]; rfl
theorem kq_x : pev cs (.x i) = kX i := by funext ρ; simp only [pev, kX, lookK_eq]
theorem kq_nil : pevs cs .nil = kNil := by funext ρ; simp only [pevs, kNil]
theorem kq_cons : pevs cs (.cons h t) = kCons (pev cs h) (pevs cs t) := by funext ρ; simp only [pevs, kCons]
theorem kq_tup : pev cs (.tup es) = kTup (pevs cs es) := by funext ρ; simp only [pev, kTup]
theorem kq_lst : pev cs (.lst es) = kLst (pevs cs es) := by funext ρ; simp only [pev, kLst]
theorem kq_dic : pev cs (.dic false es) = kDic (pevs cs es) := by funext ρ; simp only [pev, kDic]
theorem kq_op1 {o : O1} : pev cs (.op1 o a) = kOp1 o (pev cs a) := by funext ρ; simp only [pev, kOp1]
theorem kq_op2 {o : O2} : pev cs (.op2 o a b) = kOp2 o (pev cs a) (pev cs b) := by funext ρ; simp only [pev, kOp2]
/-- a part that may be left out -/
def kO (cs : List PFn) (e : E) : Option CE := if isNil e then none else some (pev cs e)
theorem kq_opt {ρ : PEnv} : optIP (isNil e) (pev cs e ρ) = kOpt (kO cs e) ρ := by
  unfold optIP kOpt kO
  cases isNil e <;> rfl
theorem kq_sl : pev cs (.sl a lo hi) = kSl (pev cs a) (kO cs lo) (kO cs hi) := by funext ρ; simp only [pev, kSl, kq_opt]
theorem kq_and : pev cs (.and a b) = kAnd (pev cs a) (pev cs b) := by funext ρ; simp only [pev, kAnd] <;> rfl
theorem kq_or : pev cs (.or a b) = kOr (pev cs a) (pev cs b) := by funext ρ; simp only [pev, kOr] <;> rfl
theorem kq_not : pev cs (.not a) = kNot (pev cs a) := by funext ρ; simp only [pev, kNot]
theorem kq_ite : pev cs (.ite c a b) = kIte (pev cs c) (pev cs a) (pev cs b) := by funext ρ; simp only [pev, kIte]
theorem kq_chain {o p : O2} : pev cs (.chain o p a b c) = kChain o p (pev cs a) (pev cs b) (pev cs c) := by funext ρ; simp only [pev, kChain] <;> rfl
theorem kq_call {j : Nat} {kw : List Nat} {f : PFn} (hj : cs[j]? = some f) : pev cs (.call false j kw es) = kCall f kw (pevs cs es) := by
  funext ρ; simp only [pev, kCall, hj, fVs_eq, Bool.false_eq_true, if_false]
def kCallO (o : Option PFn) (kw : List Nat) (es : CEs) : CE := fun ρ => (es ρ).bind fun rs => match o with
    | some f => f (permP kw rs)
    | none => .bad
theorem kq_callO {j : Nat} {kw : List Nat} : pev cs (.call false j kw es) = kCallO cs[j]? kw (pevs cs es) := by
  funext ρ; simp only [pev, kCallO, Bool.false_eq_true, if_false] <;> rfl
theorem kCallO_some {f : PFn} {kw : List Nat} {es : CEs} : kCallO (some f) kw es = kCall f kw es := by
  funext ρ; simp only [kCallO, kCall, fVs_eq]
theorem kO_nil : kO cs .nil = none := rfl
theorem kO_k {cs : List PFn} {v : Val} : kO cs (.k v) = some (pev cs (.k v)) := rfl
theorem kO_x {cs : List PFn} {i : Nat} : kO cs (.x i) = some (pev cs (.x i)) := rfl
theorem kO_g {cs : List PFn} {nm : List Nat} {v : Val} : kO cs (.g nm v) = some (pev cs (.g nm v)) := rfl
theorem kO_tup {cs : List PFn} {a : E} : kO cs (.tup a) = some (pev cs (.tup a)) := rfl
theorem kO_lst {cs : List PFn} {a : E} : kO cs (.lst a) = some (pev cs (.lst a)) := rfl
theorem kO_op1 {cs : List PFn} {o : O1} {a : E} : kO cs (.op1 o a) = some (pev cs (.op1 o a)) := rfl
theorem kO_op2 {cs : List PFn} {o : O2} {a b : E} : kO cs (.op2 o a b) = some (pev cs (.op2 o a b)) := rfl
theorem kO_sl {cs : List PFn} {a b c : E} : kO cs (.sl a b c) = some (pev cs (.sl a b c)) := rfl
theorem kO_and {cs : List PFn} {a b : E} : kO cs (.and a b) = some (pev cs (.and a b)) := rfl
theorem kO_or {cs : List PFn} {a b : E} : kO cs (.or a b) = some (pev cs (.or a b)) := rfl
theorem kO_not {cs : List PFn} {a : E} : kO cs (.not a) = some (pev cs (.not a)) := rfl
theorem kO_ite {cs : List PFn} {a b c : E} : kO cs (.ite a b c) = some (pev cs (.ite a b c)) := rfl
theorem kO_chain {cs : List PFn} {o p : O2} {a b c : E} : kO cs (.chain o p a b c) = some (pev cs (.chain o p a b c)) := rfl
theorem kO_call {cs : List PFn} {m : Bool} {j : Nat} {kw : List Nat} {a : E} : kO cs (.call m j kw a) = some (pev cs (.call m j kw a)) := rfl
theorem kO_comp {cs : List PFn} {own : List Nat} {tg : T} {ik : IK} {a b c d : E} : kO cs (.comp own tg ik a b c d) = some (pev cs (.comp own tg ik a b c d)) := rfl
theorem kq_comp {own : List Nat} {tg : T} {k : IK} : pev cs (.comp own tg k a b c e) = kComp own tg k (pev cs a) (kO cs b) (kO cs c) (pev cs e) := by
  funext ρ
  simp only [pev, kComp, fVs_eq, fEnv_eq]
  unfold opt2P optCP kO
  cases isNil b <;> cases isNil c <;> rfl
variable {s u : S} {tg : T} {n : Nat}
theorem kq_skip : pex cs FUEL .skip = kSkip := rfl
theorem kq_seq : pex cs FUEL (.seq s u) = kSeq (pex cs FUEL s) (pex cs FUEL u) := by funext ρ; simp only [pex, kSeq] <;> rfl
theorem kq_asg : pex cs FUEL (.asg (.tg tg) e) = kAsg tg (pev cs e) := by funext ρ; simp only [pex, kAsg, fV_eq, fEnv_eq]
theorem kq_mv {j : Nat} : pex cs FUEL (.asg (.mv i j) e) = kMv i j (pev cs e) := by funext ρ; simp only [pex, kMv, fV_eq, fEnv_eq]
theorem kq_sub : pex cs FUEL (.asg (.sub (.x i) a) e) = kSub i (pev cs a) (pev cs e) := by funext ρ; simp only [pex, kSub, fV_eq, fVs_eq, fEnv_eq] <;> rfl
theorem kq_do {o : O2} (h : isDo o = true) : pex cs FUEL (.ex (.op2 o (.x i) e)) = kDo o i (pev cs e) := by funext ρ; simp only [pex, kDo, h, fV_eq, fVs_eq, fEnv_eq, if_true]
theorem kq_ret : pex cs FUEL (.ret e) = kRet (pev cs e) := by funext ρ; simp only [pex, kRet, fV_eq]
theorem kq_retN : pex cs FUEL .retN = kRetN := rfl
theorem kq_if : pex cs FUEL (.ite c s u) = kIf (pev cs c) (pex cs FUEL s) (pex cs FUEL u) := by funext ρ; simp only [pex, kIf]
theorem kq_whl : pex cs FUEL (.whil c s) = kWhl (pev cs c) (pex cs FUEL s) := by funext ρ; simp only [pex, kWhl]
theorem kq_for {k : IK} : pex cs FUEL (.fo tg k a b s) = kFor tg k (pev cs a) (kO cs b) (pex cs FUEL s) := by
  funext ρ
  simp only [pex, kFor, fVs_eq, fEnv_eq]
  unfold opt2P kO
  cases isNil b <;> rfl
theorem kq_brk : pex cs FUEL .brk = kBrk := rfl
theorem kq_cont : pex cs FUEL .cont = kCont := rfl
theorem kq_run {d : Def} : prun d cs = kRun d.pars d.slots (pex cs FUEL d.body) := by
  funext args
  unfold prun kRun
  rw [fEnv_eq] <;> rfl
end
end Mi
end
section
set_option linter.all false
set_option autoImplicit false
/-! PvTy: loops over lists of typed things, ranges; counts. -/
namespace Mi
section
variable {tg : T} {c : PEnv → Tr Bool} {f : PEnv → Tr PV} {s : PEnv → Tr POut} {ρ : PEnv}
theorem filter_mapb {α : Type} {e : α → PV} {g : PV → Bool} {k : α → Bool} : ∀ {ms : List α}, (∀ m ∈ ms, g (e m) = k m) → (ms.map e).filter g = (ms.filter k).map e
  | [], _ => rfl
  | m :: ms, h => by
    rw [List.map_cons, List.filter_cons, List.filter_cons, h m List.mem_cons_self, filter_mapb fun x hx => h x (List.mem_cons_of_mem _ hx)]
    cases k m <;> rfl
/-- a comprehension over typed things -/
theorem comp_map {α : Type} {e : α → PV} (g : α → Bool) (h : α → PV) {ms : List α} {Q : List PV → Prop} (hl : ms.length ≤ top)
    (step : ∀ m ∈ ms, onS (bindP tg (e m) ρ) fun ρ1 => All (c ρ1) fun b => b = g m ∧ (b = true → All (f ρ1) fun r => r = h m)) (fin : Q ((ms.filter g).map h)) : All (compP tg c f ρ (ms.map e) []) Q := by
  have go : ∀ (ys : List α) (acc : List PV), (∀ y ∈ ys, y ∈ ms) → acc.length + ys.length ≤ ms.length → Q (acc ++ (ys.filter g).map h) → All (compP tg c f ρ (ys.map e) acc) Q := by
    intro ys
    induction ys with
    | nil => intro acc _ _ h1; rw [List.map_nil, l_c0]; simpa using h1
    | cons y ys ih =>
      intro acc hm h2 h1
      rw [List.map_cons, l_c1]
      have := step y (hm y List.mem_cons_self)
      simp only [List.length_cons] at h2
      cases hb : bindP tg (e y) ρ with
      | none => rw [hb] at this; exact this.elim
      | some ρ1 =>
        rw [hb, on_some] at this
        rw [on_some]
        refine All.imp this ?_
        rintro b ⟨rfl, hf⟩
        cases hg : g y with
        | false =>
          simp only [Bool.false_eq_true, if_false]
          refine ih acc (fun z hz => hm z (List.mem_cons_of_mem _ hz)) (by omega) ?_
          simpa [List.filter_cons, hg] using h1
        | true =>
          simp only [if_true]
          refine All.imp (hf hg) ?_
          rintro r rfl
          refine ⟨by omega, ih _ (fun z hz => hm z (List.mem_cons_of_mem _ hz)) (by simp; omega) ?_⟩
          simpa [List.filter_cons, hg] using h1
  exact go ms [] (fun _ h => h) (by simp) (by simpa using fin)
/-- a walk over typed things -/
theorem for_map {α : Type} {e : α → PV} (J : List α → List α → PEnv → Prop) {ms : List α} {Q : POut → Prop}
    (step : ∀ ds m rs ρ, J ds (m :: rs) ρ → onS (bindP tg (e m) ρ) fun ρ1 => All (s ρ1) fun o => match o with
      | .nx ρ2 => J (ds ++ [m]) rs ρ2
      | .ct ρ2 => J (ds ++ [m]) rs ρ2
      | .bk ρ2 => Q (.nx ρ2)
      | .rt r => Q (.rt r)) (fin : ∀ ρ, J ms [] ρ → Q (.nx ρ)) (h0 : J [] ms ρ) : All (forP tg s (ms.map e) ρ) Q := by
  refine for_all (fun xs ρ => ∃ ds rs, xs = rs.map e ∧ ms = ds ++ rs ∧ J ds rs ρ) ?_ ?_ _ _ ⟨[], ms, rfl, rfl, h0⟩
  · rintro x xs ρ ⟨ds, rs, e1, e2, j⟩
    cases rs with
    | nil => cases e1
    | cons m rs =>
      injection e1 with e1 e3
      subst e1 e3
      have := step ds m rs ρ j
      cases hb : bindP tg (e m) ρ with
      | none => rw [hb] at this; exact this.elim
      | some ρ1 =>
        rw [hb, on_some] at this
        rw [on_some]
        refine All.imp this ?_
        rintro o h
        cases o with
        | nx ρ2 => exact ⟨ds ++ [m], rs, rfl, by simp [e2], h⟩
        | ct ρ2 => exact ⟨ds ++ [m], rs, rfl, by simp [e2], h⟩
        | bk ρ2 => exact h
        | rt r => exact h
  · rintro ρ ⟨ds, rs, e1, e2, j⟩
    cases rs with
    | nil => rw [List.append_nil] at e2; subst e2; exact fin ρ j
    | cons _ _ => cases e1
/-- a walk over numbers -/
theorem for_rng (J : Nat → PEnv → Prop) {lo : Int} {n : Nat} {Q : POut → Prop}
    (step : ∀ k ρ, k < n → J k ρ → onS (bindP tg (.int (lo + (k : Int))) ρ) fun ρ1 => All (s ρ1) fun o => match o with
      | .nx ρ2 => J (k + 1) ρ2
      | .ct ρ2 => J (k + 1) ρ2
      | .bk ρ2 => Q (.nx ρ2)
      | .rt r => Q (.rt r)) (fin : ∀ ρ, J n ρ → Q (.nx ρ)) (h0 : J 0 ρ) : All (forP tg s (rngP lo n) ρ) Q := by
  have e0 : rngP lo n = (List.range n).map fun (i : Nat) => PV.int (lo + (i : Int)) := rfl
  rw [e0]
  refine for_map (fun ds rs ρ => rs = List.range' ds.length (n - ds.length) ∧ ds.length ≤ n ∧ J ds.length ρ) ?_ ?_ ⟨by simp [List.range_eq_range'], by simp, h0⟩
  · rintro ds m rs ρ ⟨e1, hn, j⟩
    have hl : ds.length < n := by
      rcases Nat.lt_or_ge ds.length n with h | h
      · exact h
      · rw [show n - ds.length = 0 by omega] at e1; cases e1
    rw [show n - ds.length = (n - (ds.length + 1)) + 1 by omega, List.range'_succ] at e1
    injection e1 with e1 e2
    subst e1
    have := step _ ρ hl j
    cases hb : bindP tg (.int (lo + (ds.length : Int))) ρ with
    | none => rw [hb] at this; exact this.elim
    | some ρ1 =>
      rw [hb, on_some] at this
      rw [on_some]
      refine All.imp this ?_
      rintro o h
      cases o with
      | nx ρ2 => exact ⟨by simpa using e2, by simp; omega, by simpa using h⟩
      | ct ρ2 => exact ⟨by simpa using e2, by simp; omega, by simpa using h⟩
      | bk ρ2 => exact h
      | rt r => exact h
  · rintro ρ ⟨_, _, j⟩
    rw [List.length_range] at j
    exact fin ρ j
/-- a comprehension over numbers -/
theorem comp_rng (g : Nat → Bool) (h : Nat → PV) {lo : Int} {n : Nat} {Q : List PV → Prop} (hl : n ≤ top)
    (step : ∀ k, k < n → onS (bindP tg (.int (lo + (k : Int))) ρ) fun ρ1 => All (c ρ1) fun b => b = g k ∧ (b = true → All (f ρ1) fun r => r = h k)) (fin : Q (((List.range n).filter g).map h)) : All (compP tg c f ρ (rngP lo n) []) Q := by
  have e0 : rngP lo n = (List.range n).map fun (i : Nat) => PV.int (lo + (i : Int)) := rfl
  rw [e0]
  exact comp_map g h (by simpa using hl) (fun k hk => step k (List.mem_range.mp hk)) fin
end
theorem h_never {cs : List PFn} {n : Nat} {ρ : PEnv} {Q : POut → Prop} : All (pex cs n .never ρ) Q = False := by rw [pex, a_bad]
theorem h_exC {cs : List PFn} {n j : Nat} {m : Bool} {kw : List Nat} {es : E} {ρ : PEnv} {Q : POut → Prop} : All (pex cs n (.ex (.call m j kw es)) ρ) Q = All (pev cs (.call m j kw es) ρ) fun _ => Q (.nx ρ) := by
  rw [pex, a_bind]
  · simp only [a_ret]
  · intro o i e h; cases h
/-! ### counts -/
section
variable {xs ys : List PV} {x : List Nat} {i : Int} {Q : PV → Prop}
theorem o_countS : All (p2 .count (.lst xs) (.str x)) Q = onS (countEqP (.str x) xs) fun n => Q (.int (n : Int)) := o_count rfl
theorem o_countI : All (p2 .count (.lst xs) (.int i)) Q = onS (countEqP (.int i) xs) fun n => Q (.int (n : Int)) := o_count rfl
theorem o_indexS : All (p2 .index (.lst xs) (.str x)) Q = onS (placeEqP (.str x) xs) fun n => Q (.int (n : Int)) := o_index rfl
theorem o_indexI : All (p2 .index (.lst xs) (.int i)) Q = onS (placeEqP (.int i) xs) fun n => Q (.int (n : Int)) := o_index rfl
theorem o_indexT : All (p2 .index (.lst xs) (.tup ys)) Q = onS (placeEqP (.tup ys) xs) fun n => Q (.int (n : Int)) := o_index rfl
end
theorem cnt_s {x : List Nat} : ∀ {l : List (List Nat)}, countEqP (.str x) (l.map .str) = some (l.count x)
  | [] => rfl
  | y :: l => by
    rw [List.map_cons, countEqP, cnt_s, List.count_cons]
    rw [show eqP 60 (.str y) (.str x) = some (y == x) from rfl]
    simp only [Option.bind_some, Option.map_some]
    cases y == x <;> rfl
def St.isL : St → Bool
  | .l => true
  | _ => false
theorem st_l {x : St} : (x.s == [108, 97, 122, 121]) = x.isL := by cases x <;> rfl
def b1 (b : Bool) : Int := if b then 1 else 0
theorem cnt_st {l : List St} {x : List Nat} {k : St → Bool} (h : ∀ s : St, (s.s == x) = k s) : (((l.map St.s).count x : Nat) : Int) = (l.map fun s => b1 (k s)).sum := by
  induction l with
  | nil => rfl
  | cons s l ih =>
    rw [List.map_cons, List.count_cons, h, List.map_cons, List.sum_cons, ← ih]
    unfold b1
    cases k s <;> simp <;> omega
theorem sum_app {l m : List Int} : (l ++ m).sum = l.sum + m.sum := by
  induction l with
  | nil => simp
  | cons a l ih => rw [List.cons_append, List.sum_cons, List.sum_cons, ih]; omega
theorem len_filter {α : Type} {ms : List α} {g : α → Bool} : ((ms.filter g).length : Int) = (ms.map fun m => b1 (g m)).sum := by
  induction ms with
  | nil => rfl
  | cons m ms ih =>
    rw [List.filter_cons, List.map_cons, List.sum_cons, ← ih]
    unfold b1
    cases g m <;> simp <;> omega
theorem sum_le {α : Type} {ms : List α} {g : α → Int} {k : Int} (h : ∀ m ∈ ms, g m ≤ k) : (ms.map g).sum ≤ k * ms.length := by
  induction ms with
  | nil => simp
  | cons m ms ih =>
    have h1 := h m List.mem_cons_self
    have h2 := ih fun x hx => h x (List.mem_cons_of_mem _ hx)
    rw [List.map_cons, List.sum_cons, List.length_cons]
    rw [show ((ms.length + 1 : Nat) : Int) = ms.length + 1 by omega, Int.mul_add]
    omega
theorem sum_nn {α : Type} {ms : List α} {g : α → Int} (h : ∀ m ∈ ms, 0 ≤ g m) : 0 ≤ (ms.map g).sum := by
  induction ms with
  | nil => simp
  | cons m ms ih =>
    have h1 := h m List.mem_cons_self
    have h2 := ih fun x hx => h x (List.mem_cons_of_mem _ hx)
    rw [List.map_cons, List.sum_cons]
    omega
def Hd.at (h : Hd) (e : En) : St := if e.isC then h.c else h.a
def Mn.at (m : Mn) (e : En) : St := if e.isC then m.c else m.a
def Mn.th (m : Mn) (e : En) : Bool := if e.isC then m.tc else m.ta
theorem th_e {x y : Bool} {e : En} : (thS x y).contains e.s = if e.isC then y else x := by cases x <;> cases y <;> cases e <;> rfl
theorem b1_nn {b : Bool} : 0 ≤ b1 b := by cases b <;> decide
theorem b1_le {b : Bool} : b1 b ≤ 1 := by cases b <;> decide
end Mi
end
section
set_option Elab.async false
set_option linter.all false
set_option autoImplicit false
set_option maxHeartbeats 0
set_option maxRecDepth 100000
/-! doubtbooks_k31_whole_the_least_ways, by Mini (printed by gen.py). -/
namespace Law
open PySem PySem.Spec L2 Mi
def topS (i : Nat) : Stmt := PySem.Challenge.pw_doubtbooks_k31_whole_the_least_ways.main.body.getD i (.Pass ⟨0, 0, 0, 0⟩)
/-! ### _law_lacks -/
abbrev s_law_lacks_q : Stmt := topS 23
def m_law_lacks_q : Mi.S := (.seq (.asg (.tg (.tp (.cons (.sl 2) (.cons (.sl 3) (.cons (.sl 4) (.cons (.sl 5) (.cons (.sl 6) (.cons (.sl 7) .nil)))))))) (.x 1)) (.seq (.asg (.tg (.sl 8)) (.lst .nil)) (.seq (.ite (.op2 .ne (.op2 .ix (.x 0) (.k (.int 1))) (.k (.str [102, 111, 114, 99, 101, 100]))) (.seq (.ex (.op2 .append (.x 8) (.k (.str [104, 101, 97, 100, 32, 99, 111, 109, 109, 105, 116, 116, 101, 100])))) .skip) .skip) (.seq (.ite (.and (.op2 .ne (.x 2) (.k (.str [102, 111, 114, 99, 101, 100]))) (.not (.x 7))) (.seq (.ex (.op2 .append (.x 8) (.k (.str [112, 114, 101, 112, 97, 114, 101, 100])))) .skip) .skip) (.seq (.ite (.and (.op2 .eq (.x 6) (.k (.str [99, 111, 109, 109, 105, 116]))) (.op2 .ne (.op2 .ix (.x 0) (.k (.int 0))) (.k (.str [102, 111, 114, 99, 101, 100])))) (.seq (.ex (.op2 .append (.x 8) (.k (.str [98, 101, 103, 117, 110])))) .skip) .skip) (.seq (.ite (.and (.op2 .eq (.x 6) (.k (.str [99, 111, 109, 109, 105, 116]))) (.op2 .notin (.k (.str [97, 98, 111, 114, 116])) (.x 5))) (.seq (.ex (.op2 .append (.x 8) (.k (.str [116, 104, 97, 110, 107, 115, 32, 97, 98, 111, 114, 116])))) .skip) .skip) (.seq (.ite (.and (.op2 .eq (.x 6) (.k (.str [99, 111, 109, 109, 105, 116]))) (.and (.op2 .ne (.x 4) (.k (.str [102, 111, 114, 99, 101, 100]))) (.op2 .ne (.x 2) (.k (.str [110, 111, 110, 101]))))) (.seq (.ex (.op2 .append (.x 8) (.k (.str [97, 98, 111, 114, 116, 101, 100])))) .skip) .skip) (.seq (.ite (.or (.op2 .eq (.x 6) (.k (.str [97, 98, 111, 114, 116]))) (.and (.x 7) (.op2 .ne (.x 2) (.k (.str [102, 111, 114, 99, 101, 100]))))) (.seq (.ite (.op2 .ne (.x 3) (.k (.str [102, 111, 114, 99, 101, 100]))) (.seq (.ex (.op2 .append (.x 8) (.k (.str [99, 111, 109, 109, 105, 116, 116, 101, 100])))) .skip) .skip) (.seq (.ite (.op2 .notin (.k (.str [99, 111, 109, 109, 105, 116])) (.x 5)) (.seq (.ex (.op2 .append (.x 8) (.k (.str [116, 104, 97, 110, 107, 115, 32, 99, 111, 109, 109, 105, 116])))) .skip) .skip) .skip)) .skip) (.seq (.ret (.op1 .tuple (.op1 .sorted (.x 8)))) .skip)))))))))
def d_law_lacks_q : Mi.Def := ⟨9, 2, m_law_lacks_q⟩
def fd_law_lacks_q : Mi.Fd := ⟨"_law_lacks", ["head", "manner"], []⟩
def c_law_lacks_q : Mi.Ctx := ⟨["head", "manner", "prepared", "committed", "aborted", "thanks", "presumed", "sent", "found"], defScope s_law_lacks_q, none, ["tuple", "sorted"], [], [], 0⟩
def f_law_lacks_q : Mi.Fn := Mi.run d_law_lacks_q []
theorem sc_law_lacks_q : FnScope c_law_lacks_q.N fd_law_lacks_q.ps (defScope s_law_lacks_q) := ⟨rfl, rfl, rfl, by decide +kernel, rfl, by decide +kernel, by decide +kernel⟩
theorem ok_law_lacks_q : chkSs m_law_lacks_q c_law_lacks_q (defBody s_law_lacks_q) = true := by decide +kernel
/-! ### _law_level -/
abbrev s_law_level_q : Stmt := topS 24
def m_law_level_q : Mi.S := (.seq (.ret (.op2 .index (.lst (.cons (.k (.str [110, 111, 110, 101])) (.cons (.k (.str [108, 97, 122, 121])) (.cons (.k (.str [102, 111, 114, 99, 101, 100])) .nil)))) (.x 0))) .skip)
def d_law_level_q : Mi.Def := ⟨1, 1, m_law_level_q⟩
def fd_law_level_q : Mi.Fd := ⟨"_law_level", ["strength"], []⟩
def c_law_level_q : Mi.Ctx := ⟨["strength"], defScope s_law_level_q, none, [], [], [], 0⟩
def f_law_level_q : Mi.Fn := Mi.run d_law_level_q []
theorem sc_law_level_q : FnScope c_law_level_q.N fd_law_level_q.ps (defScope s_law_level_q) := ⟨rfl, rfl, rfl, by decide +kernel, rfl, by decide +kernel, by decide +kernel⟩
theorem ok_law_level_q : chkSs m_law_level_q c_law_level_q (defBody s_law_level_q) = true := by decide +kernel
/-! ### _law_is_within -/
abbrev s_law_is_within_q : Stmt := topS 25
def m_law_is_within_q : Mi.S := (.seq (.asg (.tg (.tp (.cons (.tp (.cons (.sl 2) (.cons (.sl 3) .nil))) (.cons (.tp (.cons (.sl 4) (.cons (.sl 5) .nil))) .nil)))) (.tup (.cons (.x 0) (.cons (.x 1) .nil)))) (.seq (.ite (.or (.op2 .ne (.op2 .ix (.x 3) (.k (.int 4))) (.op2 .ix (.x 5) (.k (.int 4)))) (.and (.op2 .ix (.x 3) (.k (.int 5))) (.not (.op2 .ix (.x 5) (.k (.int 5)))))) (.seq (.ret (.k (.bl false))) .skip) .skip) (.seq (.ite (.op2 .ne (.comp [7] (.sl 7) .seq (.op2 .ix (.x 3) (.k (.int 3))) .nil (.op2 .notin (.x 7) (.op2 .ix (.x 5) (.k (.int 3)))) (.x 7)) (.lst .nil)) (.seq (.ret (.k (.bl false))) .skip) .skip) (.seq (.asg (.tg (.sl 6)) (.comp [8, 9] (.tp (.cons (.sl 8) (.cons (.sl 9) .nil))) .zip (.op2 .add (.x 2) (.sl (.x 3) .nil (.k (.int 3)))) (.op2 .add (.x 4) (.sl (.x 5) .nil (.k (.int 3)))) .nil (.tup (.cons (.call false 0 [] (.cons (.x 8) .nil)) (.cons (.call false 0 [] (.cons (.x 9) .nil)) .nil))))) (.seq (.ret (.op2 .eq (.comp [10] (.sl 10) .seq (.x 6) .nil (.op2 .gt (.op2 .ix (.x 10) (.k (.int 0))) (.op2 .ix (.x 10) (.k (.int 1)))) (.x 10)) (.lst .nil))) .skip)))))
def d_law_is_within_q : Mi.Def := ⟨11, 2, m_law_is_within_q⟩
def fd_law_is_within_q : Mi.Fd := ⟨"_law_is_within", ["one", "other"], []⟩
def c_law_is_within_q : Mi.Ctx := ⟨["one", "other", "head", "manner", "high", "wide", "levels", "end", "low", "top", "pair"], defScope s_law_is_within_q, none, ["zip"], [], [fd_law_level_q], 1⟩
def f_law_is_within_q : Mi.Fn := Mi.run d_law_is_within_q [f_law_level_q]
theorem sc_law_is_within_q : FnScope c_law_is_within_q.N fd_law_is_within_q.ps (defScope s_law_is_within_q) := ⟨rfl, rfl, rfl, by decide +kernel, rfl, by decide +kernel, by decide +kernel⟩
theorem ok_law_is_within_q : chkSs m_law_is_within_q c_law_is_within_q (defBody s_law_is_within_q) = true := by decide +kernel
/-! ### all_forced -/
abbrev s_all_forced : Stmt := topS 11
def m_all_forced : Mi.S := (.seq (.asg (.tg (.sl 1)) (.tup (.cons (.k (.str [102, 111, 114, 99, 101, 100])) (.cons (.k (.str [102, 111, 114, 99, 101, 100])) (.cons (.k (.str [102, 111, 114, 99, 101, 100])) .nil))))) (.seq (.ret (.tup (.cons (.x 1) (.cons (.op2 .add (.x 1) (.tup (.cons (.tup (.cons (.k (.str [97, 98, 111, 114, 116])) (.cons (.k (.str [99, 111, 109, 109, 105, 116])) .nil))) (.cons (.x 0) (.cons (.k (.bl false)) .nil))))) .nil)))) .skip))
def d_all_forced : Mi.Def := ⟨2, 1, m_all_forced⟩
def fd_all_forced : Mi.Fd := ⟨"all_forced", ["presumed"], []⟩
def c_all_forced : Mi.Ctx := ⟨["presumed", "all_three"], defScope s_all_forced, none, [], [], [], 0⟩
def f_all_forced : Mi.Fn := Mi.run d_all_forced []
theorem sc_all_forced : FnScope c_all_forced.N fd_all_forced.ps (defScope s_all_forced) := ⟨rfl, rfl, rfl, by decide +kernel, rfl, by decide +kernel, by decide +kernel⟩
theorem ok_all_forced : chkSs m_all_forced c_all_forced (defBody s_all_forced) = true := by decide +kernel
/-! ### lacks_for_abort -/
abbrev s_lacks_for_abort : Stmt := topS 2
def m_lacks_for_abort : Mi.S := (.seq (.asg (.tg (.sl 1)) (.ite (.op2 .eq (.op2 .ix (.x 0) (.k (.int 1))) (.g [70, 79, 82, 67, 69, 68] (.str [102, 111, 114, 99, 101, 100]))) (.lst .nil) (.lst (.cons (.k (.str [99, 111, 109, 109, 105, 116, 116, 101, 100])) .nil)))) (.seq (.ret (.ite (.op2 .isin (.k (.str [99, 111, 109, 109, 105, 116])) (.op2 .ix (.x 0) (.k (.int 3)))) (.x 1) (.op2 .add (.x 1) (.lst (.cons (.k (.str [116, 104, 97, 110, 107, 115, 32, 99, 111, 109, 109, 105, 116])) .nil))))) .skip))
def d_lacks_for_abort : Mi.Def := ⟨2, 1, m_lacks_for_abort⟩
def fd_lacks_for_abort : Mi.Fd := ⟨"lacks_for_abort", ["manner"], []⟩
def c_lacks_for_abort : Mi.Ctx := ⟨["manner", "found"], defScope s_lacks_for_abort, none, [], [([70, 79, 82, 67, 69, 68], (.str [102, 111, 114, 99, 101, 100]))], [], 0⟩
def f_lacks_for_abort : Mi.Fn := Mi.run d_lacks_for_abort []
theorem sc_lacks_for_abort : FnScope c_lacks_for_abort.N fd_lacks_for_abort.ps (defScope s_lacks_for_abort) := ⟨rfl, rfl, rfl, by decide +kernel, rfl, by decide +kernel, by decide +kernel⟩
theorem ok_lacks_for_abort : chkSs m_lacks_for_abort c_lacks_for_abort (defBody s_lacks_for_abort) = true := by decide +kernel
/-! ### lacks_for_commit -/
abbrev s_lacks_for_commit : Stmt := topS 3
def m_lacks_for_commit : Mi.S := (.seq (.asg (.tg (.sl 2)) (.ite (.op2 .eq (.op2 .ix (.x 0) (.k (.int 0))) (.g [70, 79, 82, 67, 69, 68] (.str [102, 111, 114, 99, 101, 100]))) (.lst .nil) (.lst (.cons (.k (.str [98, 101, 103, 117, 110])) .nil)))) (.seq (.ite (.and (.op2 .ne (.op2 .ix (.x 1) (.k (.int 2))) (.g [70, 79, 82, 67, 69, 68] (.str [102, 111, 114, 99, 101, 100]))) (.op2 .ne (.op2 .ix (.x 1) (.k (.int 0))) (.k (.str [110, 111, 110, 101])))) (.seq (.ex (.op2 .append (.x 2) (.k (.str [97, 98, 111, 114, 116, 101, 100])))) .skip) .skip) (.seq (.ret (.ite (.op2 .isin (.k (.str [97, 98, 111, 114, 116])) (.op2 .ix (.x 1) (.k (.int 3)))) (.x 2) (.op2 .add (.x 2) (.lst (.cons (.k (.str [116, 104, 97, 110, 107, 115, 32, 97, 98, 111, 114, 116])) .nil))))) .skip)))
def d_lacks_for_commit : Mi.Def := ⟨3, 2, m_lacks_for_commit⟩
def fd_lacks_for_commit : Mi.Fd := ⟨"lacks_for_commit", ["head", "manner"], []⟩
def c_lacks_for_commit : Mi.Ctx := ⟨["head", "manner", "found"], defScope s_lacks_for_commit, none, [], [([70, 79, 82, 67, 69, 68], (.str [102, 111, 114, 99, 101, 100]))], [], 0⟩
def f_lacks_for_commit : Mi.Fn := Mi.run d_lacks_for_commit []
theorem sc_lacks_for_commit : FnScope c_lacks_for_commit.N fd_lacks_for_commit.ps (defScope s_lacks_for_commit) := ⟨rfl, rfl, rfl, by decide +kernel, rfl, by decide +kernel, by decide +kernel⟩
theorem ok_lacks_for_commit : chkSs m_lacks_for_commit c_lacks_for_commit (defBody s_lacks_for_commit) = true := by decide +kernel
/-! ### lacks -/
abbrev s_lacks : Stmt := topS 4
def m_lacks : Mi.S := (.seq (.asg (.tg (.sl 2)) (.ite (.op2 .eq (.op2 .ix (.x 0) (.k (.int 1))) (.g [70, 79, 82, 67, 69, 68] (.str [102, 111, 114, 99, 101, 100]))) (.lst .nil) (.lst (.cons (.k (.str [104, 101, 97, 100, 32, 99, 111, 109, 109, 105, 116, 116, 101, 100])) .nil)))) (.seq (.asg (.tg (.tp (.cons (.sl 3) (.cons (.sl 4) .nil)))) (.tup (.cons (.op2 .eq (.op2 .ix (.x 1) (.k (.int 0))) (.g [70, 79, 82, 67, 69, 68] (.str [102, 111, 114, 99, 101, 100]))) (.cons (.op2 .ix (.x 1) (.k (.int 5))) .nil)))) (.seq (.ite (.and (.not (.x 3)) (.not (.x 4))) (.seq (.ex (.op2 .append (.x 2) (.k (.str [112, 114, 101, 112, 97, 114, 101, 100])))) .skip) .skip) (.seq (.ite (.op2 .eq (.op2 .ix (.x 1) (.k (.int 4))) (.k (.str [99, 111, 109, 109, 105, 116]))) (.seq (.ex (.op2 .extend (.x 2) (.call false 1 [] (.cons (.x 0) (.cons (.x 1) .nil))))) .skip) .skip) (.seq (.ite (.or (.op2 .eq (.op2 .ix (.x 1) (.k (.int 4))) (.k (.str [97, 98, 111, 114, 116]))) (.and (.x 4) (.not (.x 3)))) (.seq (.ex (.op2 .extend (.x 2) (.call false 0 [] (.cons (.x 1) .nil)))) .skip) .skip) (.seq (.ret (.op1 .tuple (.op1 .sorted (.x 2)))) .skip))))))
def d_lacks : Mi.Def := ⟨5, 2, m_lacks⟩
def fd_lacks : Mi.Fd := ⟨"lacks", ["head", "manner"], []⟩
def c_lacks : Mi.Ctx := ⟨["head", "manner", "found", "is_sure", "is_sent"], defScope s_lacks, none, ["tuple", "sorted"], [([70, 79, 82, 67, 69, 68], (.str [102, 111, 114, 99, 101, 100]))], [fd_lacks_for_abort, fd_lacks_for_commit], 1⟩
def f_lacks : Mi.Fn := Mi.run d_lacks [f_lacks_for_abort, f_lacks_for_commit]
theorem sc_lacks : FnScope c_lacks.N fd_lacks.ps (defScope s_lacks) := ⟨rfl, rfl, rfl, by decide +kernel, rfl, by decide +kernel, by decide +kernel⟩
theorem ok_lacks : chkSs m_lacks c_lacks (defBody s_lacks) = true := by decide +kernel
/-! ### fits -/
abbrev s_fits : Stmt := topS 5
def m_fits : Mi.S := (.seq (.ret (.op2 .eq (.call false 0 [] (.cons (.x 0) (.cons (.x 1) .nil))) (.tup .nil))) .skip)
def d_fits : Mi.Def := ⟨2, 2, m_fits⟩
def fd_fits : Mi.Fd := ⟨"fits", ["head", "manner"], []⟩
def c_fits : Mi.Ctx := ⟨["head", "manner"], defScope s_fits, none, [], [], [fd_lacks], 2⟩
def f_fits : Mi.Fn := Mi.run d_fits [f_lacks]
theorem sc_fits : FnScope c_fits.N fd_fits.ps (defScope s_fits) := ⟨rfl, rfl, rfl, by decide +kernel, rfl, by decide +kernel, by decide +kernel⟩
theorem ok_fits : chkSs m_fits c_fits (defBody s_fits) = true := by decide +kernel
/-! ### _law_draw -/
abbrev s_law_draw_q : Stmt := topS 16
def m_law_draw_q : Mi.S := (.seq (.ite (.op2 .lt (.x 1) (.k (.int 2))) (.seq (.ret (.k (.int 0))) .skip) .skip) (.seq (.ite (.op2 .ne (.op2 .ix (.x 0) (.k (.str [100, 101, 101, 112]))) (.lst .nil)) (.seq (.asg (.tg (.sl 2)) (.op1 .pop (.op2 .ix (.x 0) (.k (.str [100, 101, 101, 112]))))) (.seq (.ite (.op2 .ge (.x 2) (.x 1)) (.seq (.ex (.op2 .append (.op2 .ix (.x 0) (.k (.str [100, 101, 101, 112]))) (.op2 .fdiv (.x 2) (.x 1)))) .skip) .skip) (.seq (.ret (.op2 .mod (.op1 .int (.x 2)) (.x 1))) .skip))) .skip) (.seq (.asg (.tg (.sl 3)) (.op2 .mod (.op1 .int (.op2 .add (.op2 .mul (.op2 .ix (.x 0) (.k (.str [115, 116, 97, 116, 101]))) (.k (.int 1181783497276652981))) (.k (.int 88172645463325)))) (.k (.int 2305843009213693951)))) (.seq (.asg (.sub (.x 0) (.k (.str [115, 116, 97, 116, 101]))) (.x 3)) (.seq (.asg (.tg (.sl 4)) (.op2 .mod (.op1 .int (.op2 .add (.op2 .add (.op2 .mul (.x 3) (.x 3)) (.op2 .mul (.k (.int 374761393)) (.x 3))) (.k (.int 11)))) (.k (.int 2305843009213693921)))) (.seq (.ret (.op2 .mod (.op1 .int (.op2 .fdiv (.x 4) (.k (.int 1048576)))) (.x 1))) .skip))))))
def d_law_draw_q : Mi.Def := ⟨5, 2, m_law_draw_q⟩
def fd_law_draw_q : Mi.Fd := ⟨"_law_draw", ["deck", "many"], []⟩
def c_law_draw_q : Mi.Ctx := ⟨["deck", "many", "whole", "one", "two"], defScope s_law_draw_q, none, ["int"], [], [], 0⟩
def f_law_draw_q : Mi.Fn := Mi.run d_law_draw_q []
theorem sc_law_draw_q : FnScope c_law_draw_q.N fd_law_draw_q.ps (defScope s_law_draw_q) := ⟨rfl, rfl, rfl, by decide +kernel, rfl, by decide +kernel, by decide +kernel⟩
theorem ok_law_draw_q : chkSs m_law_draw_q c_law_draw_q (defBody s_law_draw_q) = true := by decide +kernel
/-! ### _law_pick -/
abbrev s_law_pick_q : Stmt := topS 17
def m_law_pick_q : Mi.S := (.seq (.ret (.op2 .ix (.x 1) (.call false 0 [] (.cons (.x 0) (.cons (.op1 .len (.x 1)) .nil))))) .skip)
def d_law_pick_q : Mi.Def := ⟨2, 2, m_law_pick_q⟩
def fd_law_pick_q : Mi.Fd := ⟨"_law_pick", ["deck", "items"], []⟩
def c_law_pick_q : Mi.Ctx := ⟨["deck", "items"], defScope s_law_pick_q, none, ["len"], [], [fd_law_draw_q], 1⟩
def f_law_pick_q : Mi.Fn := Mi.run d_law_pick_q [f_law_draw_q]
theorem sc_law_pick_q : FnScope c_law_pick_q.N fd_law_pick_q.ps (defScope s_law_pick_q) := ⟨rfl, rfl, rfl, by decide +kernel, rfl, by decide +kernel, by decide +kernel⟩
theorem ok_law_pick_q : chkSs m_law_pick_q c_law_pick_q (defBody s_law_pick_q) = true := by decide +kernel
/-! ### _law_fit_manner -/
abbrev s_law_fit_manner_q : Stmt := topS 20
def m_law_fit_manner_q : Mi.S := (.seq (.asg (.tg (.tp (.cons (.sl 2) (.cons (.sl 3) .nil)))) (.tup (.cons (.lst (.cons (.k (.str [110, 111, 110, 101])) (.cons (.k (.str [108, 97, 122, 121])) (.cons (.k (.str [102, 111, 114, 99, 101, 100])) .nil)))) (.cons (.tup (.cons (.k (.str [97, 98, 111, 114, 116])) (.cons (.k (.str [99, 111, 109, 109, 105, 116])) .nil))) .nil)))) (.seq (.asg (.tg (.tp (.cons (.sl 4) (.cons (.sl 5) .nil)))) (.tup (.cons (.ite (.op2 .eq (.op2 .ix (.x 1) (.k (.int 0))) (.k (.str [102, 111, 114, 99, 101, 100]))) (.call false 0 [] (.cons (.x 0) (.cons (.x 3) .nil))) (.k (.str [97, 98, 111, 114, 116]))) (.cons (.op2 .eq (.call false 1 [] (.cons (.x 0) (.cons (.k (.int 2)) .nil))) (.k (.int 0))) .nil)))) (.seq (.asg (.tg (.sl 6)) (.ite (.x 5) (.call false 0 [] (.cons (.x 0) (.cons (.x 2) .nil))) (.k (.str [102, 111, 114, 99, 101, 100])))) (.seq (.asg (.tg (.tp (.cons (.sl 7) (.cons (.sl 8) .nil)))) (.tup (.cons (.call false 0 [] (.cons (.x 0) (.cons (.x 2) .nil))) (.cons (.call false 0 [] (.cons (.x 0) (.cons (.x 2) .nil))) .nil)))) (.seq (.ite (.op2 .eq (.x 4) (.k (.str [97, 98, 111, 114, 116]))) (.seq (.ret (.tup (.cons (.x 6) (.cons (.k (.str [102, 111, 114, 99, 101, 100])) (.cons (.x 8) (.cons (.call false 0 [] (.cons (.x 0) (.cons (.lst (.cons (.tup (.cons (.k (.str [99, 111, 109, 109, 105, 116])) .nil)) (.cons (.x 3) .nil))) .nil))) (.cons (.x 4) (.cons (.x 5) .nil)))))))) .skip) .skip) (.seq (.ite (.op2 .ne (.x 6) (.k (.str [110, 111, 110, 101]))) (.seq (.asg (.tg (.sl 8)) (.k (.str [102, 111, 114, 99, 101, 100]))) .skip) .skip) (.seq (.ite (.op2 .ne (.x 6) (.k (.str [102, 111, 114, 99, 101, 100]))) (.seq (.ret (.tup (.cons (.x 6) (.cons (.k (.str [102, 111, 114, 99, 101, 100])) (.cons (.x 8) (.cons (.x 3) (.cons (.x 4) (.cons (.x 5) .nil)))))))) .skip) .skip) (.seq (.ret (.tup (.cons (.x 6) (.cons (.x 7) (.cons (.x 8) (.cons (.call false 0 [] (.cons (.x 0) (.cons (.lst (.cons (.tup (.cons (.k (.str [97, 98, 111, 114, 116])) .nil)) (.cons (.x 3) .nil))) .nil))) (.cons (.x 4) (.cons (.x 5) .nil)))))))) .skip))))))))
def d_law_fit_manner_q : Mi.Def := ⟨9, 2, m_law_fit_manner_q⟩
def fd_law_fit_manner_q : Mi.Fd := ⟨"_law_fit_manner", ["deck", "head"], []⟩
def c_law_fit_manner_q : Mi.Ctx := ⟨["deck", "head", "strengths", "both", "presumed", "sent", "prepared", "committed", "aborted"], defScope s_law_fit_manner_q, none, [], [], [fd_law_pick_q, fd_law_draw_q], 2⟩
def f_law_fit_manner_q : Mi.Fn := Mi.run d_law_fit_manner_q [f_law_pick_q, f_law_draw_q]
theorem sc_law_fit_manner_q : FnScope c_law_fit_manner_q.N fd_law_fit_manner_q.ps (defScope s_law_fit_manner_q) := ⟨rfl, rfl, rfl, by decide +kernel, rfl, by decide +kernel, by decide +kernel⟩
theorem ok_law_fit_manner_q : chkSs m_law_fit_manner_q c_law_fit_manner_q (defBody s_law_fit_manner_q) = true := by decide +kernel
/-! ### _law_fit_way -/
abbrev s_law_fit_way_q : Stmt := topS 27
def m_law_fit_way_q : Mi.S := (.seq (.asg (.tg (.sl 1)) (.lst (.cons (.k (.str [110, 111, 110, 101])) (.cons (.k (.str [108, 97, 122, 121])) (.cons (.k (.str [102, 111, 114, 99, 101, 100])) .nil))))) (.seq (.asg (.tg (.sl 2)) (.tup (.cons (.call false 1 [] (.cons (.x 0) (.cons (.op2 .add (.x 1) (.lst (.cons (.k (.str [102, 111, 114, 99, 101, 100])) .nil))) .nil))) (.cons (.k (.str [102, 111, 114, 99, 101, 100])) (.cons (.call false 1 [] (.cons (.x 0) (.cons (.x 1) .nil))) .nil))))) (.seq (.ret (.tup (.cons (.x 2) (.cons (.call false 0 [] (.cons (.x 0) (.cons (.x 2) .nil))) .nil)))) .skip)))
def d_law_fit_way_q : Mi.Def := ⟨3, 1, m_law_fit_way_q⟩
def fd_law_fit_way_q : Mi.Fd := ⟨"_law_fit_way", ["deck"], []⟩
def c_law_fit_way_q : Mi.Ctx := ⟨["deck", "strengths", "head"], defScope s_law_fit_way_q, none, [], [], [fd_law_fit_manner_q, fd_law_pick_q], 3⟩
def f_law_fit_way_q : Mi.Fn := Mi.run d_law_fit_way_q [f_law_fit_manner_q, f_law_pick_q]
theorem sc_law_fit_way_q : FnScope c_law_fit_way_q.N fd_law_fit_way_q.ps (defScope s_law_fit_way_q) := ⟨rfl, rfl, rfl, by decide +kernel, rfl, by decide +kernel, by decide +kernel⟩
theorem ok_law_fit_way_q : chkSs m_law_fit_way_q c_law_fit_way_q (defBody s_law_fit_way_q) = true := by decide +kernel
/-! ### _law_lower -/
abbrev s_law_lower_q : Stmt := topS 26
def m_law_lower_q : Mi.S := (.seq (.asg (.tg (.tp (.cons (.sl 1) (.cons (.sl 2) .nil)))) (.x 0)) (.seq (.asg (.tg (.sl 3)) (.lst (.cons (.tup .nil) .nil))) (.seq (.fo (.sl 4) .seq (.op2 .add (.x 1) (.sl (.x 2) .nil (.k (.int 3)))) .nil (.seq (.asg (.tg (.sl 5)) (.sl (.lst (.cons (.k (.str [110, 111, 110, 101])) (.cons (.k (.str [108, 97, 122, 121])) (.cons (.k (.str [102, 111, 114, 99, 101, 100])) .nil)))) .nil (.op2 .add (.call false 0 [] (.cons (.x 4) .nil)) (.k (.int 1))))) (.seq (.asg (.tg (.sl 6)) (.lst .nil)) (.seq (.fo (.sl 7) .seq (.x 3) .nil (.seq (.ex (.op2 .extend (.x 6) (.comp [11] (.sl 11) .seq (.x 5) .nil .nil (.op2 .add (.x 7) (.tup (.cons (.x 11) .nil)))))) .skip)) (.seq (.asg (.mv 3 6) (.x 6)) .skip))))) (.seq (.asg (.tg (.tp (.cons (.sl 8) (.cons (.sl 9) .nil)))) (.tup (.cons (.lst .nil) (.cons (.ite (.op2 .ix (.x 2) (.k (.int 5))) (.lst (.cons (.k (.bl false)) (.cons (.k (.bl true)) .nil))) (.lst (.cons (.k (.bl false)) .nil))) .nil)))) (.seq (.fo (.sl 10) .seq (.tup (.cons (.tup .nil) (.cons (.tup (.cons (.k (.str [97, 98, 111, 114, 116])) .nil)) (.cons (.tup (.cons (.k (.str [99, 111, 109, 109, 105, 116])) .nil)) (.cons (.tup (.cons (.k (.str [97, 98, 111, 114, 116])) (.cons (.k (.str [99, 111, 109, 109, 105, 116])) .nil))) .nil))))) .nil (.seq (.ite (.op2 .eq (.comp [12] (.sl 12) .seq (.x 10) .nil (.op2 .notin (.x 12) (.op2 .ix (.x 2) (.k (.int 3)))) (.x 12)) (.lst .nil)) (.seq (.fo (.sl 7) .seq (.x 3) .nil (.seq (.ex (.op2 .extend (.x 8) (.comp [13] (.sl 13) .seq (.x 9) .nil .nil (.tup (.cons (.sl (.x 7) .nil (.k (.int 3))) (.cons (.op2 .add (.sl (.x 7) (.k (.int 3)) .nil) (.tup (.cons (.x 10) (.cons (.op2 .ix (.x 2) (.k (.int 4))) (.cons (.x 13) .nil))))) .nil)))))) .skip)) .skip) .skip) .skip)) (.seq (.ret (.comp [14] (.sl 14) .seq (.x 8) .nil (.op2 .ne (.x 14) (.x 0)) (.x 14))) .skip))))))
def d_law_lower_q : Mi.Def := ⟨15, 1, m_law_lower_q⟩
def fd_law_lower_q : Mi.Fd := ⟨"_law_lower", ["way"], []⟩
def c_law_lower_q : Mi.Ctx := ⟨["way", "head", "manner", "found", "strength", "words", "longer", "own", "ways", "sendings", "thanks", "word", "end", "sent", "other"], defScope s_law_lower_q, none, [], [], [fd_law_level_q], 1⟩
def f_law_lower_q : Mi.Fn := Mi.run d_law_lower_q [f_law_level_q]
theorem sc_law_lower_q : FnScope c_law_lower_q.N fd_law_lower_q.ps (defScope s_law_lower_q) := ⟨rfl, rfl, rfl, by decide +kernel, rfl, by decide +kernel, by decide +kernel⟩
theorem ok_law_lower_q : chkSs m_law_lower_q c_law_lower_q (defBody s_law_lower_q) = true := by decide +kernel
/-! ### presumed_abort -/
abbrev s_presumed_abort : Stmt := topS 7
def m_presumed_abort : Mi.S := (.seq (.ret (.tup (.cons (.tup (.cons (.k (.str [110, 111, 110, 101])) (.cons (.k (.str [102, 111, 114, 99, 101, 100])) (.cons (.k (.str [110, 111, 110, 101])) .nil)))) (.cons (.tup (.cons (.k (.str [102, 111, 114, 99, 101, 100])) (.cons (.k (.str [102, 111, 114, 99, 101, 100])) (.cons (.k (.str [110, 111, 110, 101])) (.cons (.tup (.cons (.k (.str [99, 111, 109, 109, 105, 116])) .nil)) (.cons (.k (.str [97, 98, 111, 114, 116])) (.cons (.k (.bl false)) .nil))))))) .nil)))) .skip)
def d_presumed_abort : Mi.Def := ⟨0, 0, m_presumed_abort⟩
def fd_presumed_abort : Mi.Fd := ⟨"presumed_abort", [], []⟩
def c_presumed_abort : Mi.Ctx := ⟨[], defScope s_presumed_abort, none, [], [], [], 0⟩
def f_presumed_abort : Mi.Fn := Mi.run d_presumed_abort []
theorem sc_presumed_abort : FnScope c_presumed_abort.N fd_presumed_abort.ps (defScope s_presumed_abort) := ⟨rfl, rfl, rfl, by decide +kernel, rfl, by decide +kernel, by decide +kernel⟩
theorem ok_presumed_abort : chkSs m_presumed_abort c_presumed_abort (defBody s_presumed_abort) = true := by decide +kernel
/-! ### abort_with_work -/
abbrev s_abort_with_work : Stmt := topS 8
def m_abort_with_work : Mi.S := (.seq (.ret (.tup (.cons (.tup (.cons (.k (.str [110, 111, 110, 101])) (.cons (.k (.str [102, 111, 114, 99, 101, 100])) (.cons (.k (.str [110, 111, 110, 101])) .nil)))) (.cons (.tup (.cons (.k (.str [110, 111, 110, 101])) (.cons (.k (.str [102, 111, 114, 99, 101, 100])) (.cons (.k (.str [110, 111, 110, 101])) (.cons (.tup (.cons (.k (.str [99, 111, 109, 109, 105, 116])) .nil)) (.cons (.k (.str [97, 98, 111, 114, 116])) (.cons (.k (.bl true)) .nil))))))) .nil)))) .skip)
def d_abort_with_work : Mi.Def := ⟨0, 0, m_abort_with_work⟩
def fd_abort_with_work : Mi.Fd := ⟨"abort_with_work", [], []⟩
def c_abort_with_work : Mi.Ctx := ⟨[], defScope s_abort_with_work, none, [], [], [], 0⟩
def f_abort_with_work : Mi.Fn := Mi.run d_abort_with_work []
theorem sc_abort_with_work : FnScope c_abort_with_work.N fd_abort_with_work.ps (defScope s_abort_with_work) := ⟨rfl, rfl, rfl, by decide +kernel, rfl, by decide +kernel, by decide +kernel⟩
theorem ok_abort_with_work : chkSs m_abort_with_work c_abort_with_work (defBody s_abort_with_work) = true := by decide +kernel
/-! ### presumed_commit -/
abbrev s_presumed_commit : Stmt := topS 9
def m_presumed_commit : Mi.S := (.seq (.ret (.tup (.cons (.tup (.cons (.k (.str [102, 111, 114, 99, 101, 100])) (.cons (.k (.str [102, 111, 114, 99, 101, 100])) (.cons (.k (.str [110, 111, 110, 101])) .nil)))) (.cons (.tup (.cons (.k (.str [102, 111, 114, 99, 101, 100])) (.cons (.k (.str [110, 111, 110, 101])) (.cons (.k (.str [102, 111, 114, 99, 101, 100])) (.cons (.tup (.cons (.k (.str [97, 98, 111, 114, 116])) .nil)) (.cons (.k (.str [99, 111, 109, 109, 105, 116])) (.cons (.k (.bl false)) .nil))))))) .nil)))) .skip)
def d_presumed_commit : Mi.Def := ⟨0, 0, m_presumed_commit⟩
def fd_presumed_commit : Mi.Fd := ⟨"presumed_commit", [], []⟩
def c_presumed_commit : Mi.Ctx := ⟨[], defScope s_presumed_commit, none, [], [], [], 0⟩
def f_presumed_commit : Mi.Fn := Mi.run d_presumed_commit []
theorem sc_presumed_commit : FnScope c_presumed_commit.N fd_presumed_commit.ps (defScope s_presumed_commit) := ⟨rfl, rfl, rfl, by decide +kernel, rfl, by decide +kernel, by decide +kernel⟩
theorem ok_presumed_commit : chkSs m_presumed_commit c_presumed_commit (defBody s_presumed_commit) = true := by decide +kernel
/-! ### commit_with_work -/
abbrev s_commit_with_work : Stmt := topS 10
def m_commit_with_work : Mi.S := (.seq (.ret (.tup (.cons (.tup (.cons (.k (.str [102, 111, 114, 99, 101, 100])) (.cons (.k (.str [102, 111, 114, 99, 101, 100])) (.cons (.k (.str [110, 111, 110, 101])) .nil)))) (.cons (.tup (.cons (.k (.str [110, 111, 110, 101])) (.cons (.k (.str [102, 111, 114, 99, 101, 100])) (.cons (.k (.str [110, 111, 110, 101])) (.cons (.tup (.cons (.k (.str [97, 98, 111, 114, 116])) (.cons (.k (.str [99, 111, 109, 109, 105, 116])) .nil))) (.cons (.k (.str [99, 111, 109, 109, 105, 116])) (.cons (.k (.bl true)) .nil))))))) .nil)))) .skip)
def d_commit_with_work : Mi.Def := ⟨0, 0, m_commit_with_work⟩
def fd_commit_with_work : Mi.Fd := ⟨"commit_with_work", [], []⟩
def c_commit_with_work : Mi.Ctx := ⟨[], defScope s_commit_with_work, none, [], [], [], 0⟩
def f_commit_with_work : Mi.Fn := Mi.run d_commit_with_work []
theorem sc_commit_with_work : FnScope c_commit_with_work.N fd_commit_with_work.ps (defScope s_commit_with_work) := ⟨rfl, rfl, rfl, by decide +kernel, rfl, by decide +kernel, by decide +kernel⟩
theorem ok_commit_with_work : chkSs m_commit_with_work c_commit_with_work (defBody s_commit_with_work) = true := by decide +kernel
/-! ### least_ways -/
abbrev s_least_ways : Stmt := topS 13
def m_least_ways : Mi.S := (.seq (.ret (.op1 .tuple (.op1 .sorted (.lst (.cons (.call false 0 [] .nil) (.cons (.call false 1 [] .nil) (.cons (.call false 2 [] .nil) (.cons (.call false 3 [] .nil) .nil)))))))) .skip)
def d_least_ways : Mi.Def := ⟨0, 0, m_least_ways⟩
def fd_least_ways : Mi.Fd := ⟨"least_ways", [], []⟩
def c_least_ways : Mi.Ctx := ⟨[], defScope s_least_ways, none, ["tuple", "sorted"], [], [fd_presumed_abort, fd_abort_with_work, fd_presumed_commit, fd_commit_with_work], 1⟩
def f_least_ways : Mi.Fn := Mi.run d_least_ways [f_presumed_abort, f_abort_with_work, f_presumed_commit, f_commit_with_work]
theorem sc_least_ways : FnScope c_least_ways.N fd_least_ways.ps (defScope s_least_ways) := ⟨rfl, rfl, rfl, by decide +kernel, rfl, by decide +kernel, by decide +kernel⟩
theorem ok_least_ways : chkSs m_least_ways c_least_ways (defBody s_least_ways) = true := by decide +kernel
/-! ### _law_deck -/
abbrev s_law_deck_q : Stmt := topS 15
def m_law_deck_q : Mi.S := (.seq (.asg (.tg (.sl 1)) (.dic false (.cons (.k (.str [100, 101, 101, 112])) (.cons (.lst .nil) (.cons (.k (.str [115, 116, 97, 116, 101])) (.cons (.op2 .add (.k (.int 1572131)) (.op1 .len (.sl (.x 0) .nil (.k (.int 63))))) .nil)))))) (.seq (.fo (.sl 2) .seq (.sl (.x 0) .nil (.k (.int 63))) .nil (.seq (.asg (.tg (.sl 3)) (.op1 .abs (.x 2))) (.seq (.ite (.op2 .ge (.x 3) (.op2 .pow (.k (.int 10)) (.k (.int 18)))) (.seq (.asg (.sub (.x 1) (.k (.str [100, 101, 101, 112]))) (.op2 .add (.lst (.cons (.x 3) .nil)) (.op2 .ix (.x 1) (.k (.str [100, 101, 101, 112]))))) .skip) .skip) (.seq (.asg (.tg (.sl 4)) (.op2 .add (.op2 .mul (.op2 .add (.op2 .add (.op2 .add (.op2 .ix (.x 1) (.k (.str [115, 116, 97, 116, 101]))) (.op2 .mul (.k (.int 2)) (.x 3))) (.op1 .int (.op2 .lt (.x 2) (.k (.int 0))))) (.k (.int 1))) (.k (.int 1181783497276652981))) (.k (.int 521288629)))) (.seq (.asg (.sub (.x 1) (.k (.str [115, 116, 97, 116, 101]))) (.op2 .mod (.op1 .int (.x 4)) (.k (.int 2305843009213693951)))) .skip))))) (.seq (.ret (.x 1)) .skip)))
def d_law_deck_q : Mi.Def := ⟨5, 1, m_law_deck_q⟩
def fd_law_deck_q : Mi.Fd := ⟨"_law_deck", ["script"], []⟩
def c_law_deck_q : Mi.Ctx := ⟨["script", "deck", "cell", "whole", "state"], defScope s_law_deck_q, none, ["int", "abs", "len"], [], [], 0⟩
def f_law_deck_q : Mi.Fn := Mi.run d_law_deck_q []
theorem sc_law_deck_q : FnScope c_law_deck_q.N fd_law_deck_q.ps (defScope s_law_deck_q) := ⟨rfl, rfl, rfl, by decide +kernel, rfl, by decide +kernel, by decide +kernel⟩
theorem ok_law_deck_q : chkSs m_law_deck_q c_law_deck_q (defBody s_law_deck_q) = true := by decide +kernel
/-! ### law -/
abbrev s_law : Stmt := topS 28
def r_law : Mi.S := (.seq (.asg (.tg (.sl 2)) (.call false 7 [] .nil)) (.seq (.asg (.tg (.sl 3)) (.op1 .sorted (.lst (.cons (.call false 8 [] .nil) (.cons (.call false 9 [] .nil) (.cons (.call false 10 [] .nil) (.cons (.call false 11 [] .nil) .nil))))))) (.seq (.ite (.or (.op2 .ne (.op1 .repr (.x 2)) (.op1 .repr (.op1 .tuple (.x 3)))) (.or (.op2 .ne (.op1 .repr (.call false 7 [] .nil)) (.op1 .repr (.x 2))) (.op2 .ne (.op1 .len (.x 2)) (.k (.int 4))))) (.seq (.ret (.k (.bl false))) .skip) .skip) (.seq (.fo (.tp (.cons (.sl 4) (.cons (.sl 5) .nil))) .seq (.x 2) .nil (.seq (.ite (.or (.op2 .ne (.call false 0 [] (.cons (.x 4) (.cons (.x 5) .nil))) (.tup .nil)) (.op1 .notTrue (.call false 3 [] (.cons (.x 4) (.cons (.x 5) .nil))))) (.seq (.ret (.k (.bl false))) .skip) .skip) .skip)) (.seq (.fo (.tp (.cons (.sl 4) (.cons (.sl 5) .nil))) .seq (.call false 5 [] (.cons (.call false 6 [] (.cons (.x 1) (.cons (.x 2) .nil))) .nil)) .nil (.seq (.ite (.op2 .eq (.call false 0 [] (.cons (.x 4) (.cons (.x 5) .nil))) (.tup .nil)) (.seq (.ret (.k (.bl false))) .skip) .skip) .skip)) (.seq (.fo (.sl 6) .range1 (.k (.int 20)) .nil (.seq (.asg (.tg (.sl 7)) (.call false 4 [] (.cons (.x 1) .nil))) (.seq (.ite (.or (.op2 .eq (.comp [9] (.sl 9) .seq (.x 2) .nil (.call false 1 [] (.cons (.x 9) (.cons (.x 7) .nil))) (.x 9)) (.lst .nil)) (.op1 .notTrue (.call false 3 [] (.cons (.op2 .ix (.x 7) (.k (.int 0))) (.cons (.op2 .ix (.x 7) (.k (.int 1))) .nil))))) (.seq (.ret (.k (.bl false))) .skip) .skip) .skip))) (.seq (.fo (.sl 8) .seq (.tup (.cons (.k (.str [97, 98, 111, 114, 116])) (.cons (.k (.str [99, 111, 109, 109, 105, 116])) .nil))) .nil (.seq (.asg (.tg (.sl 7)) (.call false 2 [] (.cons (.x 8) .nil))) (.seq (.ite (.or (.op2 .ne (.op1 .len (.comp [9] (.sl 9) .seq (.x 2) .nil (.call false 1 [] (.cons (.x 9) (.cons (.x 7) .nil))) (.x 9))) (.k (.int 1))) (.op2 .ne (.call false 0 [] (.cons (.op2 .ix (.x 7) (.k (.int 0))) (.cons (.op2 .ix (.x 7) (.k (.int 1))) .nil))) (.tup .nil))) (.seq (.ret (.k (.bl false))) .skip) .skip) .skip))) (.seq (.ret (.k (.bl true))) .skip))))))))
def m_law : Mi.S := (.seq (.asg (.tg (.sl 1)) (.call false 12 [] (.cons (.x 0) .nil))) r_law)
def d_law : Mi.Def := ⟨10, 1, m_law⟩
def fd_law : Mi.Fd := ⟨"law", ["script"], []⟩
def c_law : Mi.Ctx := ⟨["script", "deck", "some", "due", "head", "manner", "turn", "way", "presumed", "own"], defScope s_law, none, ["len", "range", "repr", "tuple", "sorted"], [], [fd_law_lacks_q, fd_law_is_within_q, fd_all_forced, fd_fits, fd_law_fit_way_q, fd_law_lower_q, fd_law_pick_q, fd_least_ways, fd_presumed_abort, fd_abort_with_work, fd_presumed_commit, fd_commit_with_work, fd_law_deck_q], 4⟩
def f_law : Mi.Fn := Mi.run d_law [f_law_lacks_q, f_law_is_within_q, f_all_forced, f_fits, f_law_fit_way_q, f_law_lower_q, f_law_pick_q, f_least_ways, f_presumed_abort, f_abort_with_work, f_presumed_commit, f_commit_with_work, f_law_deck_q]
theorem sc_law : FnScope c_law.N fd_law.ps (defScope s_law) := ⟨rfl, rfl, rfl, by decide +kernel, rfl, by decide +kernel, by decide +kernel⟩
theorem ok_law : chkSs m_law c_law (defBody s_law) = true := by decide +kernel
/-! ### what the top has written -/
theorem all_mk {w : World} {K : PySem.W.Frag} {h : Heap} {mg : Str → Option Value} {fa : Addr} (X : K.In h) (G : h.Ns mainGlobals mg) (hfa : mg "law" = some (.ref fa))
    {f0 : Addr} {od0 an0 : Option Addr} {sl0 : Array (Option Value)} {oc0 kV0 dc0 pm0 cd0 ct0 : Value}
    (a0 : PySem.W.nsIn K mainGlobals "_law_lacks" = some (some (.ref f0))) (l0 : K.lookup f0 = some ⟨oc0, od0, .func (PySem.W.fnOf "_law_lacks" "_law_lacks" (defArgs s_law_lacks_q) (defBody s_law_lacks_q) (defScope s_law_lacks_q) .none kV0 dc0 pm0 an0 cd0 ct0), sl0⟩) (c0 : PySem.W.codeIn K cd0 "_law_lacks" = true) (k0 : PySem.W.keepIn K (.ref f0) = true)
    {f1 : Addr} {od1 an1 : Option Addr} {sl1 : Array (Option Value)} {oc1 kV1 dc1 pm1 cd1 ct1 : Value}
    (a1 : PySem.W.nsIn K mainGlobals "_law_level" = some (some (.ref f1))) (l1 : K.lookup f1 = some ⟨oc1, od1, .func (PySem.W.fnOf "_law_level" "_law_level" (defArgs s_law_level_q) (defBody s_law_level_q) (defScope s_law_level_q) .none kV1 dc1 pm1 an1 cd1 ct1), sl1⟩) (c1 : PySem.W.codeIn K cd1 "_law_level" = true) (k1 : PySem.W.keepIn K (.ref f1) = true)
    {f2 : Addr} {od2 an2 : Option Addr} {sl2 : Array (Option Value)} {oc2 kV2 dc2 pm2 cd2 ct2 : Value}
    (a2 : PySem.W.nsIn K mainGlobals "_law_is_within" = some (some (.ref f2))) (l2 : K.lookup f2 = some ⟨oc2, od2, .func (PySem.W.fnOf "_law_is_within" "_law_is_within" (defArgs s_law_is_within_q) (defBody s_law_is_within_q) (defScope s_law_is_within_q) .none kV2 dc2 pm2 an2 cd2 ct2), sl2⟩) (c2 : PySem.W.codeIn K cd2 "_law_is_within" = true) (k2 : PySem.W.keepIn K (.ref f2) = true)
    {f3 : Addr} {od3 an3 : Option Addr} {sl3 : Array (Option Value)} {oc3 kV3 dc3 pm3 cd3 ct3 : Value}
    (a3 : PySem.W.nsIn K mainGlobals "all_forced" = some (some (.ref f3))) (l3 : K.lookup f3 = some ⟨oc3, od3, .func (PySem.W.fnOf "all_forced" "all_forced" (defArgs s_all_forced) (defBody s_all_forced) (defScope s_all_forced) .none kV3 dc3 pm3 an3 cd3 ct3), sl3⟩) (c3 : PySem.W.codeIn K cd3 "all_forced" = true) (k3 : PySem.W.keepIn K (.ref f3) = true)
    {f4 : Addr} {od4 an4 : Option Addr} {sl4 : Array (Option Value)} {oc4 kV4 dc4 pm4 cd4 ct4 : Value}
    (a4 : PySem.W.nsIn K mainGlobals "lacks_for_abort" = some (some (.ref f4))) (l4 : K.lookup f4 = some ⟨oc4, od4, .func (PySem.W.fnOf "lacks_for_abort" "lacks_for_abort" (defArgs s_lacks_for_abort) (defBody s_lacks_for_abort) (defScope s_lacks_for_abort) .none kV4 dc4 pm4 an4 cd4 ct4), sl4⟩) (c4 : PySem.W.codeIn K cd4 "lacks_for_abort" = true) (k4 : PySem.W.keepIn K (.ref f4) = true)
    {f5 : Addr} {od5 an5 : Option Addr} {sl5 : Array (Option Value)} {oc5 kV5 dc5 pm5 cd5 ct5 : Value}
    (a5 : PySem.W.nsIn K mainGlobals "lacks_for_commit" = some (some (.ref f5))) (l5 : K.lookup f5 = some ⟨oc5, od5, .func (PySem.W.fnOf "lacks_for_commit" "lacks_for_commit" (defArgs s_lacks_for_commit) (defBody s_lacks_for_commit) (defScope s_lacks_for_commit) .none kV5 dc5 pm5 an5 cd5 ct5), sl5⟩) (c5 : PySem.W.codeIn K cd5 "lacks_for_commit" = true) (k5 : PySem.W.keepIn K (.ref f5) = true)
    {f6 : Addr} {od6 an6 : Option Addr} {sl6 : Array (Option Value)} {oc6 kV6 dc6 pm6 cd6 ct6 : Value}
    (a6 : PySem.W.nsIn K mainGlobals "lacks" = some (some (.ref f6))) (l6 : K.lookup f6 = some ⟨oc6, od6, .func (PySem.W.fnOf "lacks" "lacks" (defArgs s_lacks) (defBody s_lacks) (defScope s_lacks) .none kV6 dc6 pm6 an6 cd6 ct6), sl6⟩) (c6 : PySem.W.codeIn K cd6 "lacks" = true) (k6 : PySem.W.keepIn K (.ref f6) = true)
    {f7 : Addr} {od7 an7 : Option Addr} {sl7 : Array (Option Value)} {oc7 kV7 dc7 pm7 cd7 ct7 : Value}
    (a7 : PySem.W.nsIn K mainGlobals "fits" = some (some (.ref f7))) (l7 : K.lookup f7 = some ⟨oc7, od7, .func (PySem.W.fnOf "fits" "fits" (defArgs s_fits) (defBody s_fits) (defScope s_fits) .none kV7 dc7 pm7 an7 cd7 ct7), sl7⟩) (c7 : PySem.W.codeIn K cd7 "fits" = true) (k7 : PySem.W.keepIn K (.ref f7) = true)
    {f8 : Addr} {od8 an8 : Option Addr} {sl8 : Array (Option Value)} {oc8 kV8 dc8 pm8 cd8 ct8 : Value}
    (a8 : PySem.W.nsIn K mainGlobals "_law_draw" = some (some (.ref f8))) (l8 : K.lookup f8 = some ⟨oc8, od8, .func (PySem.W.fnOf "_law_draw" "_law_draw" (defArgs s_law_draw_q) (defBody s_law_draw_q) (defScope s_law_draw_q) .none kV8 dc8 pm8 an8 cd8 ct8), sl8⟩) (c8 : PySem.W.codeIn K cd8 "_law_draw" = true) (k8 : PySem.W.keepIn K (.ref f8) = true)
    {f9 : Addr} {od9 an9 : Option Addr} {sl9 : Array (Option Value)} {oc9 kV9 dc9 pm9 cd9 ct9 : Value}
    (a9 : PySem.W.nsIn K mainGlobals "_law_pick" = some (some (.ref f9))) (l9 : K.lookup f9 = some ⟨oc9, od9, .func (PySem.W.fnOf "_law_pick" "_law_pick" (defArgs s_law_pick_q) (defBody s_law_pick_q) (defScope s_law_pick_q) .none kV9 dc9 pm9 an9 cd9 ct9), sl9⟩) (c9 : PySem.W.codeIn K cd9 "_law_pick" = true) (k9 : PySem.W.keepIn K (.ref f9) = true)
    {f10 : Addr} {od10 an10 : Option Addr} {sl10 : Array (Option Value)} {oc10 kV10 dc10 pm10 cd10 ct10 : Value}
    (a10 : PySem.W.nsIn K mainGlobals "_law_fit_manner" = some (some (.ref f10))) (l10 : K.lookup f10 = some ⟨oc10, od10, .func (PySem.W.fnOf "_law_fit_manner" "_law_fit_manner" (defArgs s_law_fit_manner_q) (defBody s_law_fit_manner_q) (defScope s_law_fit_manner_q) .none kV10 dc10 pm10 an10 cd10 ct10), sl10⟩) (c10 : PySem.W.codeIn K cd10 "_law_fit_manner" = true) (k10 : PySem.W.keepIn K (.ref f10) = true)
    {f11 : Addr} {od11 an11 : Option Addr} {sl11 : Array (Option Value)} {oc11 kV11 dc11 pm11 cd11 ct11 : Value}
    (a11 : PySem.W.nsIn K mainGlobals "_law_fit_way" = some (some (.ref f11))) (l11 : K.lookup f11 = some ⟨oc11, od11, .func (PySem.W.fnOf "_law_fit_way" "_law_fit_way" (defArgs s_law_fit_way_q) (defBody s_law_fit_way_q) (defScope s_law_fit_way_q) .none kV11 dc11 pm11 an11 cd11 ct11), sl11⟩) (c11 : PySem.W.codeIn K cd11 "_law_fit_way" = true) (k11 : PySem.W.keepIn K (.ref f11) = true)
    {f12 : Addr} {od12 an12 : Option Addr} {sl12 : Array (Option Value)} {oc12 kV12 dc12 pm12 cd12 ct12 : Value}
    (a12 : PySem.W.nsIn K mainGlobals "_law_lower" = some (some (.ref f12))) (l12 : K.lookup f12 = some ⟨oc12, od12, .func (PySem.W.fnOf "_law_lower" "_law_lower" (defArgs s_law_lower_q) (defBody s_law_lower_q) (defScope s_law_lower_q) .none kV12 dc12 pm12 an12 cd12 ct12), sl12⟩) (c12 : PySem.W.codeIn K cd12 "_law_lower" = true) (k12 : PySem.W.keepIn K (.ref f12) = true)
    {f13 : Addr} {od13 an13 : Option Addr} {sl13 : Array (Option Value)} {oc13 kV13 dc13 pm13 cd13 ct13 : Value}
    (a13 : PySem.W.nsIn K mainGlobals "presumed_abort" = some (some (.ref f13))) (l13 : K.lookup f13 = some ⟨oc13, od13, .func (PySem.W.fnOf "presumed_abort" "presumed_abort" (defArgs s_presumed_abort) (defBody s_presumed_abort) (defScope s_presumed_abort) .none kV13 dc13 pm13 an13 cd13 ct13), sl13⟩) (c13 : PySem.W.codeIn K cd13 "presumed_abort" = true) (k13 : PySem.W.keepIn K (.ref f13) = true)
    {f14 : Addr} {od14 an14 : Option Addr} {sl14 : Array (Option Value)} {oc14 kV14 dc14 pm14 cd14 ct14 : Value}
    (a14 : PySem.W.nsIn K mainGlobals "abort_with_work" = some (some (.ref f14))) (l14 : K.lookup f14 = some ⟨oc14, od14, .func (PySem.W.fnOf "abort_with_work" "abort_with_work" (defArgs s_abort_with_work) (defBody s_abort_with_work) (defScope s_abort_with_work) .none kV14 dc14 pm14 an14 cd14 ct14), sl14⟩) (c14 : PySem.W.codeIn K cd14 "abort_with_work" = true) (k14 : PySem.W.keepIn K (.ref f14) = true)
    {f15 : Addr} {od15 an15 : Option Addr} {sl15 : Array (Option Value)} {oc15 kV15 dc15 pm15 cd15 ct15 : Value}
    (a15 : PySem.W.nsIn K mainGlobals "presumed_commit" = some (some (.ref f15))) (l15 : K.lookup f15 = some ⟨oc15, od15, .func (PySem.W.fnOf "presumed_commit" "presumed_commit" (defArgs s_presumed_commit) (defBody s_presumed_commit) (defScope s_presumed_commit) .none kV15 dc15 pm15 an15 cd15 ct15), sl15⟩) (c15 : PySem.W.codeIn K cd15 "presumed_commit" = true) (k15 : PySem.W.keepIn K (.ref f15) = true)
    {f16 : Addr} {od16 an16 : Option Addr} {sl16 : Array (Option Value)} {oc16 kV16 dc16 pm16 cd16 ct16 : Value}
    (a16 : PySem.W.nsIn K mainGlobals "commit_with_work" = some (some (.ref f16))) (l16 : K.lookup f16 = some ⟨oc16, od16, .func (PySem.W.fnOf "commit_with_work" "commit_with_work" (defArgs s_commit_with_work) (defBody s_commit_with_work) (defScope s_commit_with_work) .none kV16 dc16 pm16 an16 cd16 ct16), sl16⟩) (c16 : PySem.W.codeIn K cd16 "commit_with_work" = true) (k16 : PySem.W.keepIn K (.ref f16) = true)
    {f17 : Addr} {od17 an17 : Option Addr} {sl17 : Array (Option Value)} {oc17 kV17 dc17 pm17 cd17 ct17 : Value}
    (a17 : PySem.W.nsIn K mainGlobals "least_ways" = some (some (.ref f17))) (l17 : K.lookup f17 = some ⟨oc17, od17, .func (PySem.W.fnOf "least_ways" "least_ways" (defArgs s_least_ways) (defBody s_least_ways) (defScope s_least_ways) .none kV17 dc17 pm17 an17 cd17 ct17), sl17⟩) (c17 : PySem.W.codeIn K cd17 "least_ways" = true) (k17 : PySem.W.keepIn K (.ref f17) = true)
    {f18 : Addr} {od18 an18 : Option Addr} {sl18 : Array (Option Value)} {oc18 kV18 dc18 pm18 cd18 ct18 : Value}
    (a18 : PySem.W.nsIn K mainGlobals "_law_deck" = some (some (.ref f18))) (l18 : K.lookup f18 = some ⟨oc18, od18, .func (PySem.W.fnOf "_law_deck" "_law_deck" (defArgs s_law_deck_q) (defBody s_law_deck_q) (defScope s_law_deck_q) .none kV18 dc18 pm18 an18 cd18 ct18), sl18⟩) (c18 : PySem.W.codeIn K cd18 "_law_deck" = true) (k18 : PySem.W.keepIn K (.ref f18) = true)
    {f19 : Addr} {od19 an19 : Option Addr} {sl19 : Array (Option Value)} {oc19 kV19 dc19 pm19 cd19 ct19 : Value}
    (a19 : PySem.W.nsIn K mainGlobals "law" = some (some (.ref f19))) (l19 : K.lookup f19 = some ⟨oc19, od19, .func (PySem.W.fnOf "law" "law" (defArgs s_law) (defBody s_law) (defScope s_law) .none kV19 dc19 pm19 an19 cd19 ct19), sl19⟩) (c19 : PySem.W.codeIn K cd19 "law" = true) (k19 : PySem.W.keepIn K (.ref f19) = true)
    (z0 : PySem.W.nsIn K mainGlobals "tuple" = some none)
    (z1 : PySem.W.nsIn K mainGlobals "sorted" = some none)
    (z2 : PySem.W.nsIn K mainGlobals "zip" = some none)
    (z3 : PySem.W.nsIn K mainGlobals "int" = some none)
    (z4 : PySem.W.nsIn K mainGlobals "len" = some none)
    (z5 : PySem.W.nsIn K mainGlobals "abs" = some none)
    (z6 : PySem.W.nsIn K mainGlobals "range" = some none)
    (z7 : PySem.W.nsIn K mainGlobals "repr" = some none)
    {t0 : Tok} (gg0 : PySem.W.nsIn K mainGlobals "FORCED" = some (some (.str "forced" t0)))
    : ∃ fd : FuncData, (∀ (s : Shared) (v : Value), BindsTo s fd ⟨[v], []⟩ [("script", v)]) ∧ ∀ base : Heap, K.In base → base.Ns mainGlobals mg → FnM PySem.Challenge.pw_doubtbooks_k31_whole_the_least_ways w K mg base 5 fa fd ["script"] f_law := by
  have e := hfa.symm.trans (PySem.W.mg_of X G a19)
  cases e
  refine ⟨PySem.W.fnOf "law" "law" (defArgs s_law) (defBody s_law) (defScope s_law) .none kV19 dc19 pm19 an19 cd19 ct19, fun s v => .of_eq rfl, fun base B N => ?_⟩
  have y0 : mg "tuple" = none := PySem.W.mg_none_of X G z0
  have y1 : mg "sorted" = none := PySem.W.mg_none_of X G z1
  have y2 : mg "zip" = none := PySem.W.mg_none_of X G z2
  have y3 : mg "int" = none := PySem.W.mg_none_of X G z3
  have y4 : mg "len" = none := PySem.W.mg_none_of X G z4
  have y5 : mg "abs" = none := PySem.W.mg_none_of X G z5
  have y6 : mg "range" = none := PySem.W.mg_none_of X G z6
  have y7 : mg "repr" = none := PySem.W.mg_none_of X G z7
  have u0 : ∃ v u, mg (toStr [70, 79, 82, 67, 69, 68]) = some u ∧ RelV v u ∧ ∀ H μ N, VR K H μ N v (.str [102, 111, 114, 99, 101, 100]) := ⟨.str (toStr [102, 111, 114, 99, 101, 100]), _, PySem.W.mg_of X G gg0, ⟨_, rfl⟩, fun _ _ _ => .str _⟩
  have r0 : CalP PySem.Challenge.pw_doubtbooks_k31_whole_the_least_ways w K mg base 1 fd_law_lacks_q f_law_lacks_q _ _ := fn_mk (c := c_law_lacks_q) (fdd := fd_law_lacks_q) (stm := s_law_lacks_q) (d := d_law_lacks_q) B N a0 l0 c0 k0 sc_law_lacks_q rfl rfl rfl rfl ok_law_lacks_q ⟨y0, y1, trivial⟩ trivial trivial (fun _ _ _ _ _ _ us hl => match us, hl with | [_, _], _ => rfl) (fun _ _ _ _ _ _ p hp => nomatch hp)
  have r1 : CalP PySem.Challenge.pw_doubtbooks_k31_whole_the_least_ways w K mg base 1 fd_law_level_q f_law_level_q _ _ := fn_mk (c := c_law_level_q) (fdd := fd_law_level_q) (stm := s_law_level_q) (d := d_law_level_q) B N a1 l1 c1 k1 sc_law_level_q rfl rfl rfl rfl ok_law_level_q trivial trivial trivial (fun _ _ _ _ _ _ us hl => match us, hl with | [_], _ => rfl) (fun _ _ _ _ _ _ p hp => nomatch hp)
  have r2 : CalP PySem.Challenge.pw_doubtbooks_k31_whole_the_least_ways w K mg base 2 fd_law_is_within_q f_law_is_within_q _ _ := fn_mk (c := c_law_is_within_q) (fdd := fd_law_is_within_q) (stm := s_law_is_within_q) (d := d_law_is_within_q) B N a2 l2 c2 k2 sc_law_is_within_q rfl rfl rfl rfl ok_law_is_within_q ⟨y2, trivial⟩ trivial ⟨⟨_, _, r1.mono (by decide)⟩, trivial⟩ (fun _ _ _ _ _ _ us hl => match us, hl with | [_, _], _ => rfl) (fun _ _ _ _ _ _ p hp => nomatch hp)
  have r3 : CalP PySem.Challenge.pw_doubtbooks_k31_whole_the_least_ways w K mg base 1 fd_all_forced f_all_forced _ _ := fn_mk (c := c_all_forced) (fdd := fd_all_forced) (stm := s_all_forced) (d := d_all_forced) B N a3 l3 c3 k3 sc_all_forced rfl rfl rfl rfl ok_all_forced trivial trivial trivial (fun _ _ _ _ _ _ us hl => match us, hl with | [_], _ => rfl) (fun _ _ _ _ _ _ p hp => nomatch hp)
  have r4 : CalP PySem.Challenge.pw_doubtbooks_k31_whole_the_least_ways w K mg base 1 fd_lacks_for_abort f_lacks_for_abort _ _ := fn_mk (c := c_lacks_for_abort) (fdd := fd_lacks_for_abort) (stm := s_lacks_for_abort) (d := d_lacks_for_abort) B N a4 l4 c4 k4 sc_lacks_for_abort rfl rfl rfl rfl ok_lacks_for_abort trivial ⟨u0, trivial⟩ trivial (fun _ _ _ _ _ _ us hl => match us, hl with | [_], _ => rfl) (fun _ _ _ _ _ _ p hp => nomatch hp)
  have r5 : CalP PySem.Challenge.pw_doubtbooks_k31_whole_the_least_ways w K mg base 1 fd_lacks_for_commit f_lacks_for_commit _ _ := fn_mk (c := c_lacks_for_commit) (fdd := fd_lacks_for_commit) (stm := s_lacks_for_commit) (d := d_lacks_for_commit) B N a5 l5 c5 k5 sc_lacks_for_commit rfl rfl rfl rfl ok_lacks_for_commit trivial ⟨u0, trivial⟩ trivial (fun _ _ _ _ _ _ us hl => match us, hl with | [_, _], _ => rfl) (fun _ _ _ _ _ _ p hp => nomatch hp)
  have r6 : CalP PySem.Challenge.pw_doubtbooks_k31_whole_the_least_ways w K mg base 2 fd_lacks f_lacks _ _ := fn_mk (c := c_lacks) (fdd := fd_lacks) (stm := s_lacks) (d := d_lacks) B N a6 l6 c6 k6 sc_lacks rfl rfl rfl rfl ok_lacks ⟨y0, y1, trivial⟩ ⟨u0, trivial⟩ ⟨⟨_, _, r4.mono (by decide)⟩, ⟨_, _, r5.mono (by decide)⟩, trivial⟩ (fun _ _ _ _ _ _ us hl => match us, hl with | [_, _], _ => rfl) (fun _ _ _ _ _ _ p hp => nomatch hp)
  have r7 : CalP PySem.Challenge.pw_doubtbooks_k31_whole_the_least_ways w K mg base 3 fd_fits f_fits _ _ := fn_mk (c := c_fits) (fdd := fd_fits) (stm := s_fits) (d := d_fits) B N a7 l7 c7 k7 sc_fits rfl rfl rfl rfl ok_fits trivial trivial ⟨⟨_, _, r6.mono (by decide)⟩, trivial⟩ (fun _ _ _ _ _ _ us hl => match us, hl with | [_, _], _ => rfl) (fun _ _ _ _ _ _ p hp => nomatch hp)
  have r8 : CalP PySem.Challenge.pw_doubtbooks_k31_whole_the_least_ways w K mg base 1 fd_law_draw_q f_law_draw_q _ _ := fn_mk (c := c_law_draw_q) (fdd := fd_law_draw_q) (stm := s_law_draw_q) (d := d_law_draw_q) B N a8 l8 c8 k8 sc_law_draw_q rfl rfl rfl rfl ok_law_draw_q ⟨y3, trivial⟩ trivial trivial (fun _ _ _ _ _ _ us hl => match us, hl with | [_, _], _ => rfl) (fun _ _ _ _ _ _ p hp => nomatch hp)
  have r9 : CalP PySem.Challenge.pw_doubtbooks_k31_whole_the_least_ways w K mg base 2 fd_law_pick_q f_law_pick_q _ _ := fn_mk (c := c_law_pick_q) (fdd := fd_law_pick_q) (stm := s_law_pick_q) (d := d_law_pick_q) B N a9 l9 c9 k9 sc_law_pick_q rfl rfl rfl rfl ok_law_pick_q ⟨y4, trivial⟩ trivial ⟨⟨_, _, r8.mono (by decide)⟩, trivial⟩ (fun _ _ _ _ _ _ us hl => match us, hl with | [_, _], _ => rfl) (fun _ _ _ _ _ _ p hp => nomatch hp)
  have r10 : CalP PySem.Challenge.pw_doubtbooks_k31_whole_the_least_ways w K mg base 3 fd_law_fit_manner_q f_law_fit_manner_q _ _ := fn_mk (c := c_law_fit_manner_q) (fdd := fd_law_fit_manner_q) (stm := s_law_fit_manner_q) (d := d_law_fit_manner_q) B N a10 l10 c10 k10 sc_law_fit_manner_q rfl rfl rfl rfl ok_law_fit_manner_q trivial trivial ⟨⟨_, _, r9.mono (by decide)⟩, ⟨_, _, r8.mono (by decide)⟩, trivial⟩ (fun _ _ _ _ _ _ us hl => match us, hl with | [_, _], _ => rfl) (fun _ _ _ _ _ _ p hp => nomatch hp)
  have r11 : CalP PySem.Challenge.pw_doubtbooks_k31_whole_the_least_ways w K mg base 4 fd_law_fit_way_q f_law_fit_way_q _ _ := fn_mk (c := c_law_fit_way_q) (fdd := fd_law_fit_way_q) (stm := s_law_fit_way_q) (d := d_law_fit_way_q) B N a11 l11 c11 k11 sc_law_fit_way_q rfl rfl rfl rfl ok_law_fit_way_q trivial trivial ⟨⟨_, _, r10.mono (by decide)⟩, ⟨_, _, r9.mono (by decide)⟩, trivial⟩ (fun _ _ _ _ _ _ us hl => match us, hl with | [_], _ => rfl) (fun _ _ _ _ _ _ p hp => nomatch hp)
  have r12 : CalP PySem.Challenge.pw_doubtbooks_k31_whole_the_least_ways w K mg base 2 fd_law_lower_q f_law_lower_q _ _ := fn_mk (c := c_law_lower_q) (fdd := fd_law_lower_q) (stm := s_law_lower_q) (d := d_law_lower_q) B N a12 l12 c12 k12 sc_law_lower_q rfl rfl rfl rfl ok_law_lower_q trivial trivial ⟨⟨_, _, r1.mono (by decide)⟩, trivial⟩ (fun _ _ _ _ _ _ us hl => match us, hl with | [_], _ => rfl) (fun _ _ _ _ _ _ p hp => nomatch hp)
  have r13 : CalP PySem.Challenge.pw_doubtbooks_k31_whole_the_least_ways w K mg base 1 fd_presumed_abort f_presumed_abort _ _ := fn_mk (c := c_presumed_abort) (fdd := fd_presumed_abort) (stm := s_presumed_abort) (d := d_presumed_abort) B N a13 l13 c13 k13 sc_presumed_abort rfl rfl rfl rfl ok_presumed_abort trivial trivial trivial (fun _ _ _ _ _ _ us hl => match us, hl with | [], _ => rfl) (fun _ _ _ _ _ _ p hp => nomatch hp)
  have r14 : CalP PySem.Challenge.pw_doubtbooks_k31_whole_the_least_ways w K mg base 1 fd_abort_with_work f_abort_with_work _ _ := fn_mk (c := c_abort_with_work) (fdd := fd_abort_with_work) (stm := s_abort_with_work) (d := d_abort_with_work) B N a14 l14 c14 k14 sc_abort_with_work rfl rfl rfl rfl ok_abort_with_work trivial trivial trivial (fun _ _ _ _ _ _ us hl => match us, hl with | [], _ => rfl) (fun _ _ _ _ _ _ p hp => nomatch hp)
  have r15 : CalP PySem.Challenge.pw_doubtbooks_k31_whole_the_least_ways w K mg base 1 fd_presumed_commit f_presumed_commit _ _ := fn_mk (c := c_presumed_commit) (fdd := fd_presumed_commit) (stm := s_presumed_commit) (d := d_presumed_commit) B N a15 l15 c15 k15 sc_presumed_commit rfl rfl rfl rfl ok_presumed_commit trivial trivial trivial (fun _ _ _ _ _ _ us hl => match us, hl with | [], _ => rfl) (fun _ _ _ _ _ _ p hp => nomatch hp)
  have r16 : CalP PySem.Challenge.pw_doubtbooks_k31_whole_the_least_ways w K mg base 1 fd_commit_with_work f_commit_with_work _ _ := fn_mk (c := c_commit_with_work) (fdd := fd_commit_with_work) (stm := s_commit_with_work) (d := d_commit_with_work) B N a16 l16 c16 k16 sc_commit_with_work rfl rfl rfl rfl ok_commit_with_work trivial trivial trivial (fun _ _ _ _ _ _ us hl => match us, hl with | [], _ => rfl) (fun _ _ _ _ _ _ p hp => nomatch hp)
  have r17 : CalP PySem.Challenge.pw_doubtbooks_k31_whole_the_least_ways w K mg base 2 fd_least_ways f_least_ways _ _ := fn_mk (c := c_least_ways) (fdd := fd_least_ways) (stm := s_least_ways) (d := d_least_ways) B N a17 l17 c17 k17 sc_least_ways rfl rfl rfl rfl ok_least_ways ⟨y0, y1, trivial⟩ trivial ⟨⟨_, _, r13.mono (by decide)⟩, ⟨_, _, r14.mono (by decide)⟩, ⟨_, _, r15.mono (by decide)⟩, ⟨_, _, r16.mono (by decide)⟩, trivial⟩ (fun _ _ _ _ _ _ us hl => match us, hl with | [], _ => rfl) (fun _ _ _ _ _ _ p hp => nomatch hp)
  have r18 : CalP PySem.Challenge.pw_doubtbooks_k31_whole_the_least_ways w K mg base 1 fd_law_deck_q f_law_deck_q _ _ := fn_mk (c := c_law_deck_q) (fdd := fd_law_deck_q) (stm := s_law_deck_q) (d := d_law_deck_q) B N a18 l18 c18 k18 sc_law_deck_q rfl rfl rfl rfl ok_law_deck_q ⟨y3, y5, y4, trivial⟩ trivial trivial (fun _ _ _ _ _ _ us hl => match us, hl with | [_], _ => rfl) (fun _ _ _ _ _ _ p hp => nomatch hp)
  have r19 : CalP PySem.Challenge.pw_doubtbooks_k31_whole_the_least_ways w K mg base 5 fd_law f_law _ _ := fn_mk (c := c_law) (fdd := fd_law) (stm := s_law) (d := d_law) B N a19 l19 c19 k19 sc_law rfl rfl rfl rfl ok_law ⟨y4, y6, y7, y0, y1, trivial⟩ trivial ⟨⟨_, _, r0.mono (by decide)⟩, ⟨_, _, r2.mono (by decide)⟩, ⟨_, _, r3.mono (by decide)⟩, ⟨_, _, r7.mono (by decide)⟩, ⟨_, _, r11.mono (by decide)⟩, ⟨_, _, r12.mono (by decide)⟩, ⟨_, _, r9.mono (by decide)⟩, ⟨_, _, r17.mono (by decide)⟩, ⟨_, _, r13.mono (by decide)⟩, ⟨_, _, r14.mono (by decide)⟩, ⟨_, _, r15.mono (by decide)⟩, ⟨_, _, r16.mono (by decide)⟩, ⟨_, _, r18.mono (by decide)⟩, trivial⟩ (fun _ _ _ _ _ _ us hl => match us, hl with | [_], _ => rfl) (fun _ _ _ _ _ _ p hp => nomatch hp)
  exact r19.fn
end Law
end
section
set_option Elab.async false
set_option maxRecDepth 100000
set_option linter.all false
namespace Law
open Mi
def sDeep : List Nat := [100, 101, 101, 112]
def sState : List Nat := [115, 116, 97, 116, 101]
structure Dk (st : Store) (d l : Nat) : Prop where
  ne : d ≠ l
  dic : ∃ s : Int, 0 ≤ s ∧ s < 2305843009213693951 ∧ st[d]? = some (.dic false [(.str [100, 101, 101, 112], .ref l), (.str [115, 116, 97, 116, 101], .int s)])
  lst : ∃ xs : List Int, (∀ x ∈ xs, 0 ≤ x) ∧ xs.length ≤ 63 ∧ st[l]? = some (.lst (xs.map .int))
structure Fr (d l : Nat) (st st' : Store) : Prop where
  len : st.length ≤ st'.length
  same : ∀ n, n < st.length → n ≠ d → n ≠ l → st'[n]? = st[n]?
theorem Fr.refl {d l : Nat} {st : Store} : Fr d l st st := ⟨Nat.le_refl _, fun _ _ _ _ => rfl⟩
theorem Fr.trans {d l : Nat} {a b c : Store} (h : Fr d l a b) (g : Fr d l b c) : Fr d l a c := ⟨Nat.le_trans h.len g.len, fun n hn h1 h2 => (g.same n (Nat.lt_of_lt_of_le hn h.len) h1 h2).trans (h.same n hn h1 h2)⟩
theorem Fr.app {d l : Nat} {st : Store} {o : Obj} : Fr d l st (st ++ [o]) := ⟨by simp, fun n hn _ _ => List.getElem?_append_left hn⟩
theorem Fr.get {d l n : Nat} {st st' : Store} {o : Obj} (h : Fr d l st st') (e : st[n]? = some o) (h1 : n ≠ d) (h2 : n ≠ l) : st'[n]? = some o := (h.same n (List.getElem?_eq_some_iff.mp e).1 h1 h2).trans e
theorem Dk.app {d l : Nat} {st : Store} {o : Obj} (h : Dk st d l) : Dk (st ++ [o]) d l := by
  obtain ⟨ne, ⟨s, s0, s1, ed⟩, xs, x0, xl, el⟩ := h
  exact ⟨ne, ⟨s, s0, s1, by rw [List.getElem?_append_left (List.getElem?_eq_some_iff.mp ed).1]; exact ed⟩, xs, x0, xl, by rw [List.getElem?_append_left (List.getElem?_eq_some_iff.mp el).1]; exact el⟩
theorem Dk.ltd {d l : Nat} {st : Store} (h : Dk st d l) : d < st.length := by
  obtain ⟨_, ⟨s, _, _, ed⟩, _⟩ := h
  exact (List.getElem?_eq_some_iff.mp ed).1
theorem Dk.ltl {d l : Nat} {st : Store} (h : Dk st d l) : l < st.length := by
  obtain ⟨_, _, xs, _, _, el⟩ := h
  exact (List.getElem?_eq_some_iff.mp el).1
theorem draw_ok {st : Store} {d l : Nat} (h : Dk st d l) {m : Int} (hm : m ≤ 2 ^ 4000) : Ok (f_law_draw_q [.ref d, .int m] st) fun r st' => ∃ i : Int, r = .v (.int i) ∧ 0 ≤ i ∧ (i < m ∨ (m < 2 ∧ i = 0)) ∧ Dk st' d l ∧ Fr d l st st' := by
  obtain ⟨ne, ⟨s, s0, s1, ed⟩, xs, x0, xl, el⟩ := h
  unfold f_law_draw_q d_law_draw_q m_law_draw_q
  by_cases hm2 : m < 2
  · simp only [hm2, decide_true, ↓k_ok, ↓k_bad, ↓k_bind, ↓k_ite, ↓k_lift, ↓k_noX, ↓k_optT, ↓k_optF, ↓k_op2T, ↓k_op2F, ↓k_optCT, ↓k_optCF, ↓on_some, ↓on_none, ↓e_k, ↓e_g, ↓e_x, ↓e_tup, ↓e_lst, ↓e_op1, ↓e_op2, ↓e_op3, ↓e_sl, ↓e_and, ↓e_or, ↓e_not, ↓e_ite, ↓e_chain, ↓e_call, ↓e_nil, ↓e_cons, ↓e_dic, ↓e_comp, ↓s_skip, ↓s_seq, ↓s_asg, ↓s_ex, ↓s_ret, ↓s_retN, ↓s_brk, ↓s_cont, ↓s_ite, ↓s_fo, ↓g_tg, ↓g_sub, ↓r_run, ↓r_call, ↓r_pure, ↓l_for0, ↓l_for1, ↓l_comp0, ↓l_comp1, ↓p_eq, ↓p_ne, ↓p_lt, ↓p_le, ↓p_gt, ↓p_ge, ↓p_addI, ↓p_addS, ↓p_addT, ↓p_sub, ↓p_mul, ↓p_mod, ↓p_fdiv, ↓p_pow, ↓p_in, ↓p_notin, ↓p_ixT, ↓p_neg, ↓p_abs, ↓p_int, ↓p_intB, ↓p_lenS, ↓p_tuple, ↓p_list, ↓p_repr, ↓p_rev, ↓p_slT, ↓p_slr, ↓p_sll, ↓vb_ss, ↓p_addl, ↓p_addr, ↓p_ixl, ↓p_ixri, ↓p_ixrs, ↓p_app, ↓p_ext, ↓p_popa, ↓p_popz, ↓p_ins, ↓p_lenT, ↓p_lenl, ↓p_lenr, ↓p_set, ↓p_isN, ↓p_noN, ↓p_sort, ↓as_nil, ↓as_cons, ↓lb_cc, ↓lb_nc, ↓lb_cn, ↓lb_nn, ↓onE_some, ↓onE_none, ↓at_lit, ↓at_last, ↓q_ss, ↓q_ii, ↓q_bb, ↓q_tt, ↓q_ll, ↓q_vs, ↓q_vi, ↓q_vt, ↓q_nil, ↓q_nilc, ↓q_cnil, ↓q_cons, ↓q_any0, ↓q_any1, ↓q_anyS, seqR, seqV, truthV, settle, settles, isNil, pre2, pre3, intOf, bindT, bindTs, permute, isV, wipeE, List.length_cons, List.length_nil, List.getElem?_cons_zero, List.getElem?_cons_succ, List.set_cons_zero, List.set_cons_succ, List.map_cons, List.map_nil, List.replicate, List.append, List.cons_append, List.nil_append, true_and, and_true, if_true, if_false, Bool.false_eq_true, Option.bind, Bool.not_true, Bool.not_false, Bool.true_and, Bool.false_and, Bool.and_true, Bool.and_false, Bool.or_true, Bool.or_false, Bool.true_or, Bool.false_or, lstAt, ownL, mutAt, dicAt, Option.map, Option.map_some, Option.map_none, List.getElem?_nil, keyOk, Bool.or_self, Bool.and_self, Nat.zero_le, Nat.reduceAdd, Nat.reduceSub, Nat.reduceLT, Nat.reduceLeDiff, Nat.reduceEqDiff, Nat.reduceBEq, beq_self_eq_true, Nat.zero_add, Nat.add_zero, List.length_map, top, List.length_append, List.all_cons, List.all_nil, nrR, Val.nr, Val.nrs, pureVal, and_self, List.filterMap_cons, List.filterMap_nil, l_for0, l_for1, l_comp0, l_comp1, List.getElem?_concat_length, List.length_set]
    exact ⟨0, rfl, Int.le_refl _, .inr rfl, ⟨ne, ⟨s, s0, s1, ed⟩, xs, x0, xl, el⟩, .refl⟩
  · have hq := eq_l0 el
    have lg : m.natAbs.log2 < 9000 := by
      have h1 : (m.natAbs : Int) = m := Int.natAbs_of_nonneg (by omega)
      have h2 : m.natAbs ≤ 2 ^ 4000 := by
        have : (m.natAbs : Int) ≤ ((2 ^ 4000 : Nat) : Int) := by rw [h1]; exact_mod_cast hm
        exact_mod_cast this
      have : m.natAbs < 2 ^ 9000 := Nat.lt_of_le_of_lt h2 (Nat.pow_lt_pow_right (by decide) (by decide))
      exact (Nat.log2_lt (by omega)).mpr this
    rcases List.eq_nil_or_concat xs with rfl | ⟨ys, x, rfl⟩
    · have sd : ∀ o, (List.set st d o)[d]? = some o := fun o => set_self ed
      simp only [hm2, ed, el, hq, sd, decide_false, kget, kput, List.any_cons, List.any_nil, ↓k_ok, ↓k_bad, ↓k_bind, ↓k_ite, ↓k_lift, ↓k_noX, ↓k_optT, ↓k_optF, ↓k_op2T, ↓k_op2F, ↓k_optCT, ↓k_optCF, ↓on_some, ↓on_none, ↓e_k, ↓e_g, ↓e_x, ↓e_tup, ↓e_lst, ↓e_op1, ↓e_op2, ↓e_op3, ↓e_sl, ↓e_and, ↓e_or, ↓e_not, ↓e_ite, ↓e_chain, ↓e_call, ↓e_nil, ↓e_cons, ↓e_dic, ↓e_comp, ↓s_skip, ↓s_seq, ↓s_asg, ↓s_ex, ↓s_ret, ↓s_retN, ↓s_brk, ↓s_cont, ↓s_ite, ↓s_fo, ↓g_tg, ↓g_sub, ↓r_run, ↓r_call, ↓r_pure, ↓l_for0, ↓l_for1, ↓l_comp0, ↓l_comp1, ↓p_eq, ↓p_ne, ↓p_lt, ↓p_le, ↓p_gt, ↓p_ge, ↓p_addI, ↓p_addS, ↓p_addT, ↓p_sub, ↓p_mul, ↓p_mod, ↓p_fdiv, ↓p_pow, ↓p_in, ↓p_notin, ↓p_ixT, ↓p_neg, ↓p_abs, ↓p_int, ↓p_intB, ↓p_lenS, ↓p_tuple, ↓p_list, ↓p_repr, ↓p_rev, ↓p_slT, ↓p_slr, ↓p_sll, ↓vb_ss, ↓p_addl, ↓p_addr, ↓p_ixl, ↓p_ixri, ↓p_ixrs, ↓p_app, ↓p_ext, ↓p_popa, ↓p_popz, ↓p_ins, ↓p_lenT, ↓p_lenl, ↓p_lenr, ↓p_set, ↓p_isN, ↓p_noN, ↓p_sort, ↓as_nil, ↓as_cons, ↓lb_cc, ↓lb_nc, ↓lb_cn, ↓lb_nn, ↓onE_some, ↓onE_none, ↓at_lit, ↓at_last, ↓q_ss, ↓q_ii, ↓q_bb, ↓q_tt, ↓q_ll, ↓q_vs, ↓q_vi, ↓q_vt, ↓q_nil, ↓q_nilc, ↓q_cnil, ↓q_cons, ↓q_any0, ↓q_any1, ↓q_anyS, seqR, seqV, truthV, settle, settles, isNil, pre2, pre3, intOf, bindT, bindTs, permute, isV, wipeE, List.length_cons, List.length_nil, List.getElem?_cons_zero, List.getElem?_cons_succ, List.set_cons_zero, List.set_cons_succ, List.map_cons, List.map_nil, List.replicate, List.append, List.cons_append, List.nil_append, true_and, and_true, if_true, if_false, Bool.false_eq_true, Option.bind, Bool.not_true, Bool.not_false, Bool.true_and, Bool.false_and, Bool.and_true, Bool.and_false, Bool.or_true, Bool.or_false, Bool.true_or, Bool.false_or, lstAt, ownL, mutAt, dicAt, Option.map, Option.map_some, Option.map_none, List.getElem?_nil, keyOk, Bool.or_self, Bool.and_self, Nat.zero_le, Nat.reduceAdd, Nat.reduceSub, Nat.reduceLT, Nat.reduceLeDiff, Nat.reduceEqDiff, Nat.reduceBEq, beq_self_eq_true, Nat.zero_add, Nat.add_zero, List.length_map, top, List.length_append, List.all_cons, List.all_nil, nrR, Val.nr, Val.nrs, pureVal, and_self, List.filterMap_cons, List.filterMap_nil, l_for0, l_for1, l_comp0, l_comp1, List.getElem?_concat_length, List.length_set]
      refine ⟨.inr (.inl (by decide)), by decide, ?_⟩
      have v0 : 0 ≤ (s * 1181783497276652981 + 88172645463325) % 2305843009213693951 := Int.emod_nonneg _ (by decide)
      have v1 : (s * 1181783497276652981 + 88172645463325) % 2305843009213693951 < 2305843009213693951 := Int.emod_lt_of_pos _ (by decide)
      generalize (s * 1181783497276652981 + 88172645463325) % 2305843009213693951 = v at v0 v1
      refine ⟨.inl (by omega), .inl (by decide), by decide, ⟨by decide, by decide⟩, by omega, _, rfl, Int.emod_nonneg _ (by omega), .inl (Int.emod_lt_of_pos _ (by omega)), ⟨ne, ⟨v, v0, v1, set_self ed⟩, [], x0, xl, ?_⟩, by simp, fun n _ h1 h2 => set_ne (Ne.symm h1)⟩
      rw [set_ne ne]; exact el
    · rw [List.concat_eq_append] at *
      have hg : (List.map Val.int (ys ++ [x]))[ys.length + 1 - 1]? = some (.int x) := by simp
      have hdl : (List.map Val.int (ys ++ [x])).dropLast = ys.map .int := by simp
      have he : (List.map Val.int (ys ++ [x])).isEmpty = false := by simp
      have sl : ∀ o, (List.set st l o)[l]? = some o := fun o => set_self el
      have sd : ∀ o, (List.set st l o)[d]? = st[d]? := fun o => set_ne (Ne.symm ne)
      have hx0 : 0 ≤ x := x0 x (by simp)
      have hy : ∀ z ∈ ys, 0 ≤ z := fun z hz => x0 z (by simp [hz])
      have hyl : ys.length + 1 ≤ 63 := by simpa using xl
      by_cases hx : m ≤ x
      · simp only [hm2, ed, el, hq, hg, hdl, he, sl, sd, hx, decide_true, decide_false, kget, kput, List.set_set, ↓k_ok, ↓k_bad, ↓k_bind, ↓k_ite, ↓k_lift, ↓k_noX, ↓k_optT, ↓k_optF, ↓k_op2T, ↓k_op2F, ↓k_optCT, ↓k_optCF, ↓on_some, ↓on_none, ↓e_k, ↓e_g, ↓e_x, ↓e_tup, ↓e_lst, ↓e_op1, ↓e_op2, ↓e_op3, ↓e_sl, ↓e_and, ↓e_or, ↓e_not, ↓e_ite, ↓e_chain, ↓e_call, ↓e_nil, ↓e_cons, ↓e_dic, ↓e_comp, ↓s_skip, ↓s_seq, ↓s_asg, ↓s_ex, ↓s_ret, ↓s_retN, ↓s_brk, ↓s_cont, ↓s_ite, ↓s_fo, ↓g_tg, ↓g_sub, ↓r_run, ↓r_call, ↓r_pure, ↓l_for0, ↓l_for1, ↓l_comp0, ↓l_comp1, ↓p_eq, ↓p_ne, ↓p_lt, ↓p_le, ↓p_gt, ↓p_ge, ↓p_addI, ↓p_addS, ↓p_addT, ↓p_sub, ↓p_mul, ↓p_mod, ↓p_fdiv, ↓p_pow, ↓p_in, ↓p_notin, ↓p_ixT, ↓p_neg, ↓p_abs, ↓p_int, ↓p_intB, ↓p_lenS, ↓p_tuple, ↓p_list, ↓p_repr, ↓p_rev, ↓p_slT, ↓p_slr, ↓p_sll, ↓vb_ss, ↓p_addl, ↓p_addr, ↓p_ixl, ↓p_ixri, ↓p_ixrs, ↓p_app, ↓p_ext, ↓p_popa, ↓p_popz, ↓p_ins, ↓p_lenT, ↓p_lenl, ↓p_lenr, ↓p_set, ↓p_isN, ↓p_noN, ↓p_sort, ↓as_nil, ↓as_cons, ↓lb_cc, ↓lb_nc, ↓lb_cn, ↓lb_nn, ↓onE_some, ↓onE_none, ↓at_lit, ↓at_last, ↓q_ss, ↓q_ii, ↓q_bb, ↓q_tt, ↓q_ll, ↓q_vs, ↓q_vi, ↓q_vt, ↓q_nil, ↓q_nilc, ↓q_cnil, ↓q_cons, ↓q_any0, ↓q_any1, ↓q_anyS, seqR, seqV, truthV, settle, settles, isNil, pre2, pre3, intOf, bindT, bindTs, permute, isV, wipeE, List.length_cons, List.length_nil, List.getElem?_cons_zero, List.getElem?_cons_succ, List.set_cons_zero, List.set_cons_succ, List.map_cons, List.map_nil, List.replicate, List.append, List.cons_append, List.nil_append, true_and, and_true, if_true, if_false, Bool.false_eq_true, Option.bind, Bool.not_true, Bool.not_false, Bool.true_and, Bool.false_and, Bool.and_true, Bool.and_false, Bool.or_true, Bool.or_false, Bool.true_or, Bool.false_or, lstAt, ownL, mutAt, dicAt, Option.map, Option.map_some, Option.map_none, List.getElem?_nil, keyOk, Bool.or_self, Bool.and_self, Nat.zero_le, Nat.reduceAdd, Nat.reduceSub, Nat.reduceLT, Nat.reduceLeDiff, Nat.reduceEqDiff, Nat.reduceBEq, beq_self_eq_true, Nat.zero_add, Nat.add_zero, List.length_map, top, List.length_append, List.all_cons, List.all_nil, nrR, Val.nr, Val.nrs, pureVal, and_self, List.filterMap_cons, List.filterMap_nil, l_for0, l_for1, l_comp0, l_comp1, List.getElem?_concat_length, List.length_set]
        refine ⟨⟨by omega, lg⟩, by omega, by omega, _, rfl, Int.emod_nonneg _ (by omega), .inl (Int.emod_lt_of_pos _ (by omega)), ⟨ne, ⟨s, s0, s1, ?_⟩, ys ++ [x / m], fun z hz => ?_, by simpa using hyl, ?_⟩, by simp, fun n _ h1 h2 => set_ne (Ne.symm h2)⟩
        · rw [set_ne (Ne.symm ne)]; exact ed
        · rcases List.mem_append.mp hz with h | h
          · exact hy z h
          · simp at h; subst h; exact Int.ediv_nonneg hx0 (by omega)
        · rw [set_self el]; simp
      · simp only [hm2, ed, el, hq, hg, hdl, he, sl, sd, hx, decide_false, kget, kput, ↓k_ok, ↓k_bad, ↓k_bind, ↓k_ite, ↓k_lift, ↓k_noX, ↓k_optT, ↓k_optF, ↓k_op2T, ↓k_op2F, ↓k_optCT, ↓k_optCF, ↓on_some, ↓on_none, ↓e_k, ↓e_g, ↓e_x, ↓e_tup, ↓e_lst, ↓e_op1, ↓e_op2, ↓e_op3, ↓e_sl, ↓e_and, ↓e_or, ↓e_not, ↓e_ite, ↓e_chain, ↓e_call, ↓e_nil, ↓e_cons, ↓e_dic, ↓e_comp, ↓s_skip, ↓s_seq, ↓s_asg, ↓s_ex, ↓s_ret, ↓s_retN, ↓s_brk, ↓s_cont, ↓s_ite, ↓s_fo, ↓g_tg, ↓g_sub, ↓r_run, ↓r_call, ↓r_pure, ↓l_for0, ↓l_for1, ↓l_comp0, ↓l_comp1, ↓p_eq, ↓p_ne, ↓p_lt, ↓p_le, ↓p_gt, ↓p_ge, ↓p_addI, ↓p_addS, ↓p_addT, ↓p_sub, ↓p_mul, ↓p_mod, ↓p_fdiv, ↓p_pow, ↓p_in, ↓p_notin, ↓p_ixT, ↓p_neg, ↓p_abs, ↓p_int, ↓p_intB, ↓p_lenS, ↓p_tuple, ↓p_list, ↓p_repr, ↓p_rev, ↓p_slT, ↓p_slr, ↓p_sll, ↓vb_ss, ↓p_addl, ↓p_addr, ↓p_ixl, ↓p_ixri, ↓p_ixrs, ↓p_app, ↓p_ext, ↓p_popa, ↓p_popz, ↓p_ins, ↓p_lenT, ↓p_lenl, ↓p_lenr, ↓p_set, ↓p_isN, ↓p_noN, ↓p_sort, ↓as_nil, ↓as_cons, ↓lb_cc, ↓lb_nc, ↓lb_cn, ↓lb_nn, ↓onE_some, ↓onE_none, ↓at_lit, ↓at_last, ↓q_ss, ↓q_ii, ↓q_bb, ↓q_tt, ↓q_ll, ↓q_vs, ↓q_vi, ↓q_vt, ↓q_nil, ↓q_nilc, ↓q_cnil, ↓q_cons, ↓q_any0, ↓q_any1, ↓q_anyS, seqR, seqV, truthV, settle, settles, isNil, pre2, pre3, intOf, bindT, bindTs, permute, isV, wipeE, List.length_cons, List.length_nil, List.getElem?_cons_zero, List.getElem?_cons_succ, List.set_cons_zero, List.set_cons_succ, List.map_cons, List.map_nil, List.replicate, List.append, List.cons_append, List.nil_append, true_and, and_true, if_true, if_false, Bool.false_eq_true, Option.bind, Bool.not_true, Bool.not_false, Bool.true_and, Bool.false_and, Bool.and_true, Bool.and_false, Bool.or_true, Bool.or_false, Bool.true_or, Bool.false_or, lstAt, ownL, mutAt, dicAt, Option.map, Option.map_some, Option.map_none, List.getElem?_nil, keyOk, Bool.or_self, Bool.and_self, Nat.zero_le, Nat.reduceAdd, Nat.reduceSub, Nat.reduceLT, Nat.reduceLeDiff, Nat.reduceEqDiff, Nat.reduceBEq, beq_self_eq_true, Nat.zero_add, Nat.add_zero, List.length_map, top, List.length_append, List.all_cons, List.all_nil, nrR, Val.nr, Val.nrs, pureVal, and_self, List.filterMap_cons, List.filterMap_nil, l_for0, l_for1, l_comp0, l_comp1, List.getElem?_concat_length, List.length_set]
        refine ⟨by omega, _, rfl, Int.emod_nonneg _ (by omega), .inl (Int.emod_lt_of_pos _ (by omega)), ⟨ne, ⟨s, s0, s1, ?_⟩, ys, hy, by omega, ?_⟩, by simp, fun n _ h1 h2 => set_ne (Ne.symm h2)⟩
        · rw [set_ne (Ne.symm ne)]; exact ed
        · exact set_self el
/-- the deck that a script makes -/
def JD (rest : List Val) (ρ : Env) (st : Store) : Prop := ∃ (w0 w1 w2 : Option Val) (l : Nat) (s : Int) (ys zs : List Int), rest = zs.map .int ∧ ρ = [some (.ref 0), some (.ref 2), w0, w1, w2] ∧ 2 ≠ l ∧ 0 ≤ s ∧ s < 2305843009213693951 ∧
  st[2]? = some (.dic false [(.str [100, 101, 101, 112], .ref l), (.str [115, 116, 97, 116, 101], .int s)]) ∧ st[l]? = some (.lst (ys.map .int)) ∧ (∀ y ∈ ys, 0 ≤ y) ∧ ys.length + zs.length ≤ 63
theorem deck_ok0 {ns : List Int} (hn : ns.length ≤ 63) : Ok (f_law_deck_q [.ref 0] [.frz (ns.map .int)]) fun r st' => ∃ d l, r = .v (.ref d) ∧ Dk st' d l := by
  have hc : cut (ns.map Val.int) none (some 63) = ns.map .int := by
    show ((ns.map Val.int).drop 0).take (min 63 (ns.map Val.int).length - 0) = _
    rw [List.drop_zero, List.take_of_length_le]
    simp; omega
  unfold f_law_deck_q d_law_deck_q m_law_deck_q
  simp only [hc, kget, kput, dicOf, mergeD, List.foldl_cons, List.foldl_nil, List.any_nil, List.any_cons, walk, watch, ↓k_ok, ↓k_bad, ↓k_bind, ↓k_ite, ↓k_lift, ↓k_noX, ↓k_optT, ↓k_optF, ↓k_op2T, ↓k_op2F, ↓k_optCT, ↓k_optCF, ↓on_some, ↓on_none, ↓e_k, ↓e_g, ↓e_x, ↓e_tup, ↓e_lst, ↓e_op1, ↓e_op2, ↓e_op3, ↓e_sl, ↓e_and, ↓e_or, ↓e_not, ↓e_ite, ↓e_chain, ↓e_call, ↓e_nil, ↓e_cons, ↓e_dic, ↓e_comp, ↓s_skip, ↓s_seq, ↓s_asg, ↓s_ex, ↓s_ret, ↓s_retN, ↓s_brk, ↓s_cont, ↓s_ite, ↓s_fo, ↓g_tg, ↓g_sub, ↓r_run, ↓r_call, ↓r_pure, ↓l_for0, ↓l_for1, ↓l_comp0, ↓l_comp1, ↓p_eq, ↓p_ne, ↓p_lt, ↓p_le, ↓p_gt, ↓p_ge, ↓p_addI, ↓p_addS, ↓p_addT, ↓p_sub, ↓p_mul, ↓p_mod, ↓p_fdiv, ↓p_pow, ↓p_in, ↓p_notin, ↓p_ixT, ↓p_neg, ↓p_abs, ↓p_int, ↓p_intB, ↓p_lenS, ↓p_tuple, ↓p_list, ↓p_repr, ↓p_rev, ↓p_slT, ↓p_slr, ↓p_sll, ↓vb_ss, ↓p_addl, ↓p_addr, ↓p_ixl, ↓p_ixri, ↓p_ixrs, ↓p_app, ↓p_ext, ↓p_popa, ↓p_popz, ↓p_ins, ↓p_lenT, ↓p_lenl, ↓p_lenr, ↓p_set, ↓p_isN, ↓p_noN, ↓p_sort, ↓as_nil, ↓as_cons, ↓lb_cc, ↓lb_nc, ↓lb_cn, ↓lb_nn, ↓onE_some, ↓onE_none, ↓at_lit, ↓at_last, ↓q_ss, ↓q_ii, ↓q_bb, ↓q_tt, ↓q_ll, ↓q_vs, ↓q_vi, ↓q_vt, ↓q_nil, ↓q_nilc, ↓q_cnil, ↓q_cons, ↓q_any0, ↓q_any1, ↓q_anyS, seqR, seqV, truthV, settle, settles, isNil, pre2, pre3, intOf, bindT, bindTs, permute, isV, wipeE, List.length_cons, List.length_nil, List.getElem?_cons_zero, List.getElem?_cons_succ, List.set_cons_zero, List.set_cons_succ, List.map_cons, List.map_nil, List.replicate, List.append, List.cons_append, List.nil_append, true_and, and_true, if_true, if_false, Bool.false_eq_true, Option.bind, Bool.not_true, Bool.not_false, Bool.true_and, Bool.false_and, Bool.and_true, Bool.and_false, Bool.or_true, Bool.or_false, Bool.true_or, Bool.false_or, lstAt, ownL, mutAt, dicAt, Option.map, Option.map_some, Option.map_none, List.getElem?_nil, keyOk, Bool.or_self, Bool.and_self, Nat.zero_le, Nat.reduceAdd, Nat.reduceSub, Nat.reduceLT, Nat.reduceLeDiff, Nat.reduceEqDiff, Nat.reduceBEq, beq_self_eq_true, Nat.zero_add, Nat.add_zero, List.length_map, top, List.length_append, List.all_cons, List.all_nil, nrR, Val.nr, Val.nrs, pureVal, and_self, List.filterMap_cons, List.filterMap_nil, l_for0, l_for1, l_comp0, l_comp1, List.getElem?_concat_length, List.length_set]
  refine ⟨.inl trivial, ?_⟩
  refine for_inv JD (fun _ _ _ _ => rfl) ?_ ?_ (ns.map .int) _ _ ⟨none, none, none, 1, 1572131 + ns.length, [], ns, rfl, rfl, by decide, by omega, by omega, rfl, rfl, by simp, by simpa using hn⟩
  · rintro x xs ρ st ⟨w0, w1, w2, l, s, ys, zs, e, rfl, ne, s0, s1, ed, el, hy, hl⟩
    cases zs with
    | nil => cases e
    | cons z zs =>
      cases e
      refine ⟨_, rfl, ?_⟩
      have hz : (0 : Int) ≤ (if z < 0 then -z else z) := by split <;> omega
      generalize hw : (if z < 0 then -z else z) = w at hz
      have sd : ∀ o, (List.set st 2 o)[2]? = some o := fun o => set_self ed
      have hm : ∀ (v : Int), 0 ≤ v % 2305843009213693951 ∧ v % 2305843009213693951 < 2305843009213693951 := fun v => ⟨Int.emod_nonneg _ (by decide), Int.emod_lt_of_pos _ (by decide)⟩
      have hp : (10 : Int) ^ Int.toNat 18 = 1000000000000000000 := by decide
      have l2 : 2 < st.length := (List.getElem?_eq_some_iff.mp ed).1
      have ap : ∀ o, (st ++ [o])[2]? = st[2]? := fun o => List.getElem?_append_left l2
      have sa : ∀ (o x : Mi.Obj), (List.set (st ++ [o]) 2 x)[2]? = some x := fun o x => set_self ((ap o).trans ed)
      by_cases hb : (1000000000000000000 : Int) ≤ w
      · simp only [hw, hb, hp, ed, el, sd, ap, sa, decide_true, kget, kput, List.any_cons, List.any_nil, List.set_set, ↓k_ok, ↓k_bad, ↓k_bind, ↓k_ite, ↓k_lift, ↓k_noX, ↓k_optT, ↓k_optF, ↓k_op2T, ↓k_op2F, ↓k_optCT, ↓k_optCF, ↓on_some, ↓on_none, ↓e_k, ↓e_g, ↓e_x, ↓e_tup, ↓e_lst, ↓e_op1, ↓e_op2, ↓e_op3, ↓e_sl, ↓e_and, ↓e_or, ↓e_not, ↓e_ite, ↓e_chain, ↓e_call, ↓e_nil, ↓e_cons, ↓e_dic, ↓e_comp, ↓s_skip, ↓s_seq, ↓s_asg, ↓s_ex, ↓s_ret, ↓s_retN, ↓s_brk, ↓s_cont, ↓s_ite, ↓s_fo, ↓g_tg, ↓g_sub, ↓r_run, ↓r_call, ↓r_pure, ↓l_for0, ↓l_for1, ↓l_comp0, ↓l_comp1, ↓p_eq, ↓p_ne, ↓p_lt, ↓p_le, ↓p_gt, ↓p_ge, ↓p_addI, ↓p_addS, ↓p_addT, ↓p_sub, ↓p_mul, ↓p_mod, ↓p_fdiv, ↓p_pow, ↓p_in, ↓p_notin, ↓p_ixT, ↓p_neg, ↓p_abs, ↓p_int, ↓p_intB, ↓p_lenS, ↓p_tuple, ↓p_list, ↓p_repr, ↓p_rev, ↓p_slT, ↓p_slr, ↓p_sll, ↓vb_ss, ↓p_addl, ↓p_addr, ↓p_ixl, ↓p_ixri, ↓p_ixrs, ↓p_app, ↓p_ext, ↓p_popa, ↓p_popz, ↓p_ins, ↓p_lenT, ↓p_lenl, ↓p_lenr, ↓p_set, ↓p_isN, ↓p_noN, ↓p_sort, ↓as_nil, ↓as_cons, ↓lb_cc, ↓lb_nc, ↓lb_cn, ↓lb_nn, ↓onE_some, ↓onE_none, ↓at_lit, ↓at_last, ↓q_ss, ↓q_ii, ↓q_bb, ↓q_tt, ↓q_ll, ↓q_vs, ↓q_vi, ↓q_vt, ↓q_nil, ↓q_nilc, ↓q_cnil, ↓q_cons, ↓q_any0, ↓q_any1, ↓q_anyS, seqR, seqV, truthV, settle, settles, isNil, pre2, pre3, intOf, bindT, bindTs, permute, isV, wipeE, List.length_cons, List.length_nil, List.getElem?_cons_zero, List.getElem?_cons_succ, List.set_cons_zero, List.set_cons_succ, List.map_cons, List.map_nil, List.replicate, List.append, List.cons_append, List.nil_append, true_and, and_true, if_true, if_false, Bool.false_eq_true, Option.bind, Bool.not_true, Bool.not_false, Bool.true_and, Bool.false_and, Bool.and_true, Bool.and_false, Bool.or_true, Bool.or_false, Bool.true_or, Bool.false_or, lstAt, ownL, mutAt, dicAt, Option.map, Option.map_some, Option.map_none, List.getElem?_nil, keyOk, Bool.or_self, Bool.and_self, Nat.zero_le, Nat.reduceAdd, Nat.reduceSub, Nat.reduceLT, Nat.reduceLeDiff, Nat.reduceEqDiff, Nat.reduceBEq, beq_self_eq_true, Nat.zero_add, Nat.add_zero, List.length_map, top, List.length_append, List.all_cons, List.all_nil, nrR, Val.nr, Val.nrs, pureVal, and_self, List.filterMap_cons, List.filterMap_nil, l_for0, l_for1, l_comp0, l_comp1, List.getElem?_concat_length, List.length_set]
        have hl' : ys.length + (zs.length + 1) ≤ 63 := by simpa using hl
        refine ⟨by decide, by omega, .inl (by decide), .inr (.inl (by decide)), by decide, _, _, _, st.length, _, w :: ys, zs, rfl, rfl, by omega, (hm _).1, (hm _).2, sa _ _, ?_, fun y h => ?_, by simp; omega⟩
        · rw [set_ne (by omega), List.getElem?_concat_length]; rfl
        · rcases List.mem_cons.mp h with rfl | h
          · exact hz
          · exact hy y h
      · simp only [hw, hb, hp, ed, el, sd, decide_false, kget, kput, List.any_cons, List.any_nil, List.set_set, ↓k_ok, ↓k_bad, ↓k_bind, ↓k_ite, ↓k_lift, ↓k_noX, ↓k_optT, ↓k_optF, ↓k_op2T, ↓k_op2F, ↓k_optCT, ↓k_optCF, ↓on_some, ↓on_none, ↓e_k, ↓e_g, ↓e_x, ↓e_tup, ↓e_lst, ↓e_op1, ↓e_op2, ↓e_op3, ↓e_sl, ↓e_and, ↓e_or, ↓e_not, ↓e_ite, ↓e_chain, ↓e_call, ↓e_nil, ↓e_cons, ↓e_dic, ↓e_comp, ↓s_skip, ↓s_seq, ↓s_asg, ↓s_ex, ↓s_ret, ↓s_retN, ↓s_brk, ↓s_cont, ↓s_ite, ↓s_fo, ↓g_tg, ↓g_sub, ↓r_run, ↓r_call, ↓r_pure, ↓l_for0, ↓l_for1, ↓l_comp0, ↓l_comp1, ↓p_eq, ↓p_ne, ↓p_lt, ↓p_le, ↓p_gt, ↓p_ge, ↓p_addI, ↓p_addS, ↓p_addT, ↓p_sub, ↓p_mul, ↓p_mod, ↓p_fdiv, ↓p_pow, ↓p_in, ↓p_notin, ↓p_ixT, ↓p_neg, ↓p_abs, ↓p_int, ↓p_intB, ↓p_lenS, ↓p_tuple, ↓p_list, ↓p_repr, ↓p_rev, ↓p_slT, ↓p_slr, ↓p_sll, ↓vb_ss, ↓p_addl, ↓p_addr, ↓p_ixl, ↓p_ixri, ↓p_ixrs, ↓p_app, ↓p_ext, ↓p_popa, ↓p_popz, ↓p_ins, ↓p_lenT, ↓p_lenl, ↓p_lenr, ↓p_set, ↓p_isN, ↓p_noN, ↓p_sort, ↓as_nil, ↓as_cons, ↓lb_cc, ↓lb_nc, ↓lb_cn, ↓lb_nn, ↓onE_some, ↓onE_none, ↓at_lit, ↓at_last, ↓q_ss, ↓q_ii, ↓q_bb, ↓q_tt, ↓q_ll, ↓q_vs, ↓q_vi, ↓q_vt, ↓q_nil, ↓q_nilc, ↓q_cnil, ↓q_cons, ↓q_any0, ↓q_any1, ↓q_anyS, seqR, seqV, truthV, settle, settles, isNil, pre2, pre3, intOf, bindT, bindTs, permute, isV, wipeE, List.length_cons, List.length_nil, List.getElem?_cons_zero, List.getElem?_cons_succ, List.set_cons_zero, List.set_cons_succ, List.map_cons, List.map_nil, List.replicate, List.append, List.cons_append, List.nil_append, true_and, and_true, if_true, if_false, Bool.false_eq_true, Option.bind, Bool.not_true, Bool.not_false, Bool.true_and, Bool.false_and, Bool.and_true, Bool.and_false, Bool.or_true, Bool.or_false, Bool.true_or, Bool.false_or, lstAt, ownL, mutAt, dicAt, Option.map, Option.map_some, Option.map_none, List.getElem?_nil, keyOk, Bool.or_self, Bool.and_self, Nat.zero_le, Nat.reduceAdd, Nat.reduceSub, Nat.reduceLT, Nat.reduceLeDiff, Nat.reduceEqDiff, Nat.reduceBEq, beq_self_eq_true, Nat.zero_add, Nat.add_zero, List.length_map, top, List.length_append, List.all_cons, List.all_nil, nrR, Val.nr, Val.nrs, pureVal, and_self, List.filterMap_cons, List.filterMap_nil, l_for0, l_for1, l_comp0, l_comp1, List.getElem?_concat_length, List.length_set]
        have hl' : ys.length + (zs.length + 1) ≤ 63 := by simpa using hl
        refine ⟨by decide, .inl (by decide), .inr (.inl (by decide)), by decide, _, _, _, l, _, ys, zs, rfl, rfl, ne, (hm _).1, (hm _).2, sd _, ?_, hy, by omega⟩
        rw [set_ne ne]; exact el
  · rintro ρ st ⟨w0, w1, w2, l, s, ys, zs, e, rfl, ne, s0, s1, ed, el, hy, hl⟩
    simp only [↓k_ok, ↓k_bad, ↓k_bind, ↓k_ite, ↓k_lift, ↓k_noX, ↓k_optT, ↓k_optF, ↓k_op2T, ↓k_op2F, ↓k_optCT, ↓k_optCF, ↓on_some, ↓on_none, ↓e_k, ↓e_g, ↓e_x, ↓e_tup, ↓e_lst, ↓e_op1, ↓e_op2, ↓e_op3, ↓e_sl, ↓e_and, ↓e_or, ↓e_not, ↓e_ite, ↓e_chain, ↓e_call, ↓e_nil, ↓e_cons, ↓e_dic, ↓e_comp, ↓s_skip, ↓s_seq, ↓s_asg, ↓s_ex, ↓s_ret, ↓s_retN, ↓s_brk, ↓s_cont, ↓s_ite, ↓s_fo, ↓g_tg, ↓g_sub, ↓r_run, ↓r_call, ↓r_pure, ↓l_for0, ↓l_for1, ↓l_comp0, ↓l_comp1, ↓p_eq, ↓p_ne, ↓p_lt, ↓p_le, ↓p_gt, ↓p_ge, ↓p_addI, ↓p_addS, ↓p_addT, ↓p_sub, ↓p_mul, ↓p_mod, ↓p_fdiv, ↓p_pow, ↓p_in, ↓p_notin, ↓p_ixT, ↓p_neg, ↓p_abs, ↓p_int, ↓p_intB, ↓p_lenS, ↓p_tuple, ↓p_list, ↓p_repr, ↓p_rev, ↓p_slT, ↓p_slr, ↓p_sll, ↓vb_ss, ↓p_addl, ↓p_addr, ↓p_ixl, ↓p_ixri, ↓p_ixrs, ↓p_app, ↓p_ext, ↓p_popa, ↓p_popz, ↓p_ins, ↓p_lenT, ↓p_lenl, ↓p_lenr, ↓p_set, ↓p_isN, ↓p_noN, ↓p_sort, ↓as_nil, ↓as_cons, ↓lb_cc, ↓lb_nc, ↓lb_cn, ↓lb_nn, ↓onE_some, ↓onE_none, ↓at_lit, ↓at_last, ↓q_ss, ↓q_ii, ↓q_bb, ↓q_tt, ↓q_ll, ↓q_vs, ↓q_vi, ↓q_vt, ↓q_nil, ↓q_nilc, ↓q_cnil, ↓q_cons, ↓q_any0, ↓q_any1, ↓q_anyS, seqR, seqV, truthV, settle, settles, isNil, pre2, pre3, intOf, bindT, bindTs, permute, isV, wipeE, List.length_cons, List.length_nil, List.getElem?_cons_zero, List.getElem?_cons_succ, List.set_cons_zero, List.set_cons_succ, List.map_cons, List.map_nil, List.replicate, List.append, List.cons_append, List.nil_append, true_and, and_true, if_true, if_false, Bool.false_eq_true, Option.bind, Bool.not_true, Bool.not_false, Bool.true_and, Bool.false_and, Bool.and_true, Bool.and_false, Bool.or_true, Bool.or_false, Bool.true_or, Bool.false_or, lstAt, ownL, mutAt, dicAt, Option.map, Option.map_some, Option.map_none, List.getElem?_nil, keyOk, Bool.or_self, Bool.and_self, Nat.zero_le, Nat.reduceAdd, Nat.reduceSub, Nat.reduceLT, Nat.reduceLeDiff, Nat.reduceEqDiff, Nat.reduceBEq, beq_self_eq_true, Nat.zero_add, Nat.add_zero, List.length_map, top, List.length_append, List.all_cons, List.all_nil, nrR, Val.nr, Val.nrs, pureVal, and_self, List.filterMap_cons, List.filterMap_nil, l_for0, l_for1, l_comp0, l_comp1, List.getElem?_concat_length, List.length_set]
    exact ⟨2, l, rfl, ne, ⟨s, s0, s1, ed⟩, ys, hy, by omega, el⟩
/-- the deck, as two objects -/
def okD (l : Nat) (o1 o2 : Mi.Obj) : Prop := ∃ (s : Int) (xs : List Int), 0 ≤ s ∧ s < 2305843009213693951 ∧ o1 = .dic false [(.str [100, 101, 101, 112], .ref l), (.str [115, 116, 97, 116, 101], .int s)] ∧ (∀ x ∈ xs, 0 ≤ x) ∧ xs.length ≤ 63 ∧ o2 = .lst (xs.map .int)
theorem dk_of {st : Store} {d l : Nat} (h : Dk st d l) : DK okD (some (d, l)) st := fun d' l' e => by
  cases e
  obtain ⟨ne, ⟨s, s0, s1, ed⟩, xs, x0, xl, el⟩ := h
  exact ⟨ne, _, _, ed, el, s, xs, s0, s1, rfl, x0, xl, rfl⟩
theorem of_dk {st : Store} {d l : Nat} (h : DK okD (some (d, l)) st) : Dk st d l := by
  obtain ⟨ne, o1, o2, ed, el, s, xs, s0, s1, rfl, x0, xl, rfl⟩ := h d l rfl
  exact ⟨ne, ⟨s, s0, s1, ed⟩, xs, x0, xl, el⟩
theorem deck_ok {ns : List Int} (hn : ns.length ≤ 63) : Ok (f_law_deck_q [.ref 0] [.frz (ns.map .int)]) fun r st => ∃ e l, r = .v (.ref e) ∧ DK okD (some (e, l)) st := by
  refine Ok.imp (deck_ok0 hn) ?_
  rintro r st ⟨d, l, rfl, h⟩
  exact ⟨d, l, rfl, dk_of h⟩
/-- a draw -/
def p_law_draw_q : Mi.PFn := fun args => match args with
  | [.deck, .int m] => if m < 2 then .ret (.int 0) else .draw m fun i => .ret (.int i)
  | _ => .bad
theorem sim_bad {f : Fn} : SimF okD (fun _ => .bad) f := fun _ _ _ _ _ _ _ _ _ => trivial
theorem sim_law_draw_q : SimF okD p_law_draw_q f_law_draw_q := by
  intro D st B ps vs hd hD hb hp
  unfold p_law_draw_q
  split
  · rename_i m
    cases hp with
    | cons h1 h2 =>
      cases h2 with
      | cons h2 h3 =>
        cases h3
        cases h2
        cases h1 with
        | @deck d l e =>
          subst e
          have go : m ≤ 2 ^ 4000 → ∃ i : Int, 0 ≤ i ∧ (i < m ∨ (m < 2 ∧ i = 0)) ∧ ∃ st', f_law_draw_q [.ref d, .int m] st = .ok (.v (.int i)) st' ∧ Ext (some (d, l)) st st' ∧ DK okD (some (d, l)) st' := by
            intro hm
            obtain ⟨r, st', e, i, rfl, i0, i1, k, f⟩ := Ok.ex (draw_ok (of_dk hd) hm)
            refine ⟨i, i0, i1, st', e, ⟨f.len, fun n hl hn => f.same n hl (fun z => hn ⟨d, l, rfl, .inl z⟩) (fun z => hn ⟨d, l, rfl, .inr z⟩)⟩, dk_of k⟩
          by_cases h2 : m < 2
          · rw [if_pos h2]
            have p2 : (1 : Int) ≤ 2 ^ 4000 := by
              have : (1 : Nat) ≤ 2 ^ 4000 := Nat.one_le_two_pow
              exact_mod_cast this
            obtain ⟨i, i0, i1, st', e, x, k⟩ := go (by omega)
            have : i = 0 := by omega
            subst this
            exact ⟨_, st', e, .int 0, x, k⟩
          · rw [if_neg h2]
            intro g1 g2
            obtain ⟨i, i0, i1, st', e, x, k⟩ := go g2
            exact ⟨i, i0, by omega, _, st', e, .int i, x, k⟩
  · trivial
end Law
end
section
set_option Elab.async false
set_option linter.all false
set_option autoImplicit false
set_option maxRecDepth 100000
namespace Law
open Mi
def p_law_lacks_q : Mi.PFn := Mi.prun d_law_lacks_q []
theorem sim_law_lacks_q : SimF okD p_law_lacks_q f_law_lacks_q := run_sim (W := [8]) (F := []) CsR.nil (by decide +kernel) (by decide +kernel)
def p_law_level_q : Mi.PFn := Mi.prun d_law_level_q []
theorem sim_law_level_q : SimF okD p_law_level_q f_law_level_q := run_sim (W := []) (F := []) CsR.nil (by decide +kernel) (by decide +kernel)
def p_law_is_within_q : Mi.PFn := Mi.prun d_law_is_within_q [p_law_level_q]
theorem sim_law_is_within_q : SimF okD p_law_is_within_q f_law_is_within_q := run_sim (W := []) (F := [false]) (CsR.consF sim_law_level_q CsR.nil) (by decide +kernel) (by decide +kernel)
def p_all_forced : Mi.PFn := Mi.prun d_all_forced []
theorem sim_all_forced : SimF okD p_all_forced f_all_forced := run_sim (W := []) (F := []) CsR.nil (by decide +kernel) (by decide +kernel)
def p_lacks_for_abort : Mi.PFn := Mi.prun d_lacks_for_abort []
theorem sim_lacks_for_abort : SimF okD p_lacks_for_abort f_lacks_for_abort := run_sim (W := []) (F := []) CsR.nil (by decide +kernel) (by decide +kernel)
def p_lacks_for_commit : Mi.PFn := Mi.prun d_lacks_for_commit []
theorem sim_lacks_for_commit : SimF okD p_lacks_for_commit f_lacks_for_commit := run_sim (W := [2]) (F := []) CsR.nil (by decide +kernel) (by decide +kernel)
def p_lacks : Mi.PFn := Mi.prun d_lacks [p_lacks_for_abort, p_lacks_for_commit]
theorem sim_lacks : SimF okD p_lacks f_lacks := run_sim (W := [2]) (F := [false, false]) (CsR.consF sim_lacks_for_abort (CsR.consF sim_lacks_for_commit CsR.nil)) (by decide +kernel) (by decide +kernel)
def p_fits : Mi.PFn := Mi.prun d_fits [p_lacks]
theorem sim_fits : SimF okD p_fits f_fits := run_sim (W := []) (F := [false]) (CsR.consF sim_lacks CsR.nil) (by decide +kernel) (by decide +kernel)
def p_law_pick_q : Mi.PFn := Mi.prun d_law_pick_q [p_law_draw_q]
theorem sim_law_pick_q : SimF okD p_law_pick_q f_law_pick_q := run_sim (W := []) (F := [false]) (CsR.consF sim_law_draw_q CsR.nil) (by decide +kernel) (by decide +kernel)
def p_law_fit_manner_q : Mi.PFn := Mi.prun d_law_fit_manner_q [p_law_pick_q, p_law_draw_q]
theorem sim_law_fit_manner_q : SimF okD p_law_fit_manner_q f_law_fit_manner_q := run_sim (W := []) (F := [false, false]) (CsR.consF sim_law_pick_q (CsR.consF sim_law_draw_q CsR.nil)) (by decide +kernel) (by decide +kernel)
def p_law_fit_way_q : Mi.PFn := Mi.prun d_law_fit_way_q [p_law_fit_manner_q, p_law_pick_q]
theorem sim_law_fit_way_q : SimF okD p_law_fit_way_q f_law_fit_way_q := run_sim (W := []) (F := [false, false]) (CsR.consF sim_law_fit_manner_q (CsR.consF sim_law_pick_q CsR.nil)) (by decide +kernel) (by decide +kernel)
def p_law_lower_q : Mi.PFn := Mi.prun d_law_lower_q [p_law_level_q]
theorem sim_law_lower_q : SimF okD p_law_lower_q f_law_lower_q := run_sim (W := [6, 8, 3]) (F := [false]) (CsR.consF sim_law_level_q CsR.nil) (by decide +kernel) (by decide +kernel)
def p_presumed_abort : Mi.PFn := Mi.prun d_presumed_abort []
theorem sim_presumed_abort : SimF okD p_presumed_abort f_presumed_abort := run_sim (W := []) (F := []) CsR.nil (by decide +kernel) (by decide +kernel)
def p_abort_with_work : Mi.PFn := Mi.prun d_abort_with_work []
theorem sim_abort_with_work : SimF okD p_abort_with_work f_abort_with_work := run_sim (W := []) (F := []) CsR.nil (by decide +kernel) (by decide +kernel)
def p_presumed_commit : Mi.PFn := Mi.prun d_presumed_commit []
theorem sim_presumed_commit : SimF okD p_presumed_commit f_presumed_commit := run_sim (W := []) (F := []) CsR.nil (by decide +kernel) (by decide +kernel)
def p_commit_with_work : Mi.PFn := Mi.prun d_commit_with_work []
theorem sim_commit_with_work : SimF okD p_commit_with_work f_commit_with_work := run_sim (W := []) (F := []) CsR.nil (by decide +kernel) (by decide +kernel)
def p_least_ways : Mi.PFn := Mi.prun d_least_ways [p_presumed_abort, p_abort_with_work, p_presumed_commit, p_commit_with_work]
theorem sim_least_ways : SimF okD p_least_ways f_least_ways := run_sim (W := []) (F := [false, false, false, false]) (CsR.consF sim_presumed_abort (CsR.consF sim_abort_with_work (CsR.consF sim_presumed_commit (CsR.consF sim_commit_with_work CsR.nil)))) (by decide +kernel) (by decide +kernel)
def psl_law : List Mi.PFn := [p_law_lacks_q, p_law_is_within_q, p_all_forced, p_fits, p_law_fit_way_q, p_law_lower_q, p_law_pick_q, p_least_ways, p_presumed_abort, p_abort_with_work, p_presumed_commit, p_commit_with_work, (fun _ => .bad)]
theorem close_law {ns : List Int} (hn : ns.length ≤ 63) (h : All (pex psl_law FUEL r_law ((List.replicate 10 none).set 1 (some .deck))) fun o => o = .rt (.bl true)) : ∃ st', f_law [.ref 0] [.frz (ns.map .int)] = .ok (.v (.bl true)) st' :=
  law_close (d := d_law) (ok := okD) (W := []) (F := [false, false, false, false, false, false, false, false, false, false, false, false, false]) (j := 1) (k := 12) (rest := r_law) rfl rfl rfl ⟨by decide, by decide⟩ (deck_ok hn) (CsR.consF sim_law_lacks_q (CsR.consF sim_law_is_within_q (CsR.consF sim_all_forced (CsR.consF sim_fits (CsR.consF sim_law_fit_way_q (CsR.consF sim_law_lower_q (CsR.consF sim_law_pick_q (CsR.consF sim_least_ways (CsR.consF sim_presumed_abort (CsR.consF sim_abort_with_work (CsR.consF sim_presumed_commit (CsR.consF sim_commit_with_work (CsR.consF sim_bad CsR.nil))))))))))))) (by decide +kernel) (by decide +kernel) h
end Law
end
section
set_option Elab.async false
set_option linter.all false
set_option autoImplicit false
set_option maxHeartbeats 0
set_option maxRecDepth 100000
namespace Law
open Mi
def k_law_level_q : Mi.PFn := kRun 1 1 (kSeq (kRet (kOp2 .index (kLst (kCons (kK (.str [110, 111, 110, 101])) (kCons (kK (.str [108, 97, 122, 121])) (kCons (kK (.str [102, 111, 114, 99, 101, 100])) kNil)))) (kX 0))) kSkip)
theorem kp_law_level_q : p_law_level_q = k_law_level_q := by
  simp only [p_law_level_q, d_law_level_q, m_law_level_q, k_law_level_q, kq_run, kq_kv, kq_gv, kq_x, kq_nil, kq_cons, kq_tup, kq_lst, kq_dic, kq_op1, kq_op2, kq_sl, kq_and, kq_or, kq_not, kq_ite, kq_chain, kq_callO, kq_comp, kq_skip, kq_seq, kq_asg, kq_mv, kq_sub, kq_do (o := .append) rfl, kq_do (o := .extend) rfl, kq_ret, kq_retN, kq_if, kq_whl, kq_for, kq_brk, kq_cont, kO_nil, kO_k, kO_x, kO_g, kO_tup, kO_lst, kO_op1, kO_op2, kO_sl, kO_and, kO_or, kO_not, kO_ite, kO_chain, kO_call, kO_comp, kCallO_some, List.getElem?_cons_zero, List.getElem?_cons_succ, kO_nil] <;> rfl
def k_law_lower_q : Mi.PFn := kRun 1 15 (kSeq (kAsg (.tp (.cons (.sl 1) (.cons (.sl 2) .nil))) (kX 0)) (kSeq (kAsg (.sl 3) (kLst (kCons (kTup kNil) kNil))) (kSeq (kFor (.sl 4) .seq (kOp2 .add (kX 1) (kSl (kX 2) none (some (kK (.int 3))))) none (kSeq (kAsg (.sl 5) (kSl (kLst (kCons (kK (.str [110, 111, 110, 101])) (kCons (kK (.str [108, 97, 122, 121])) (kCons (kK (.str [102, 111, 114, 99, 101, 100])) kNil)))) none (some (kOp2 .add (kCall k_law_level_q [] (kCons (kX 4) kNil)) (kK (.int 1)))))) (kSeq (kAsg (.sl 6) (kLst kNil)) (kSeq (kFor (.sl 7) .seq (kX 3) none (kSeq (kDo .extend 6 (kComp [11] (.sl 11) .seq (kX 5) none none (kOp2 .add (kX 7) (kTup (kCons (kX 11) kNil))))) kSkip)) (kSeq (kMv 3 6 (kX 6)) kSkip))))) (kSeq (kAsg (.tp (.cons (.sl 8) (.cons (.sl 9) .nil))) (kTup (kCons (kLst kNil) (kCons (kIte (kOp2 .ix (kX 2) (kK (.int 5))) (kLst (kCons (kK (.bl false)) (kCons (kK (.bl true)) kNil))) (kLst (kCons (kK (.bl false)) kNil))) kNil)))) (kSeq (kFor (.sl 10) .seq (kTup (kCons (kTup kNil) (kCons (kTup (kCons (kK (.str [97, 98, 111, 114, 116])) kNil)) (kCons (kTup (kCons (kK (.str [99, 111, 109, 109, 105, 116])) kNil)) (kCons (kTup (kCons (kK (.str [97, 98, 111, 114, 116])) (kCons (kK (.str [99, 111, 109, 109, 105, 116])) kNil))) kNil))))) none (kSeq (kIf (kOp2 .eq (kComp [12] (.sl 12) .seq (kX 10) none (some (kOp2 .notin (kX 12) (kOp2 .ix (kX 2) (kK (.int 3))))) (kX 12)) (kLst kNil)) (kSeq (kFor (.sl 7) .seq (kX 3) none (kSeq (kDo .extend 8 (kComp [13] (.sl 13) .seq (kX 9) none none (kTup (kCons (kSl (kX 7) none (some (kK (.int 3)))) (kCons (kOp2 .add (kSl (kX 7) (some (kK (.int 3))) none) (kTup (kCons (kX 10) (kCons (kOp2 .ix (kX 2) (kK (.int 4))) (kCons (kX 13) kNil))))) kNil))))) kSkip)) kSkip) kSkip) kSkip)) (kSeq (kRet (kComp [14] (.sl 14) .seq (kX 8) none (some (kOp2 .ne (kX 14) (kX 0))) (kX 14))) kSkip))))))
theorem kp_law_lower_q : p_law_lower_q = k_law_lower_q := by
  simp only [p_law_lower_q, d_law_lower_q, m_law_lower_q, k_law_lower_q, kq_run, kq_kv, kq_gv, kq_x, kq_nil, kq_cons, kq_tup, kq_lst, kq_dic, kq_op1, kq_op2, kq_sl, kq_and, kq_or, kq_not, kq_ite, kq_chain, kq_callO, kq_comp, kq_skip, kq_seq, kq_asg, kq_mv, kq_sub, kq_do (o := .append) rfl, kq_do (o := .extend) rfl, kq_ret, kq_retN, kq_if, kq_whl, kq_for, kq_brk, kq_cont, kO_nil, kO_k, kO_x, kO_g, kO_tup, kO_lst, kO_op1, kO_op2, kO_sl, kO_and, kO_or, kO_not, kO_ite, kO_chain, kO_call, kO_comp, kCallO_some, List.getElem?_cons_zero, List.getElem?_cons_succ, kp_law_level_q] <;> rfl
def k_law_lacks_q : Mi.PFn := kRun 2 9 (kSeq (kAsg (.tp (.cons (.sl 2) (.cons (.sl 3) (.cons (.sl 4) (.cons (.sl 5) (.cons (.sl 6) (.cons (.sl 7) .nil))))))) (kX 1)) (kSeq (kAsg (.sl 8) (kLst kNil)) (kSeq (kIf (kOp2 .ne (kOp2 .ix (kX 0) (kK (.int 1))) (kK (.str [102, 111, 114, 99, 101, 100]))) (kSeq (kDo .append 8 (kK (.str [104, 101, 97, 100, 32, 99, 111, 109, 109, 105, 116, 116, 101, 100]))) kSkip) kSkip) (kSeq (kIf (kAnd (kOp2 .ne (kX 2) (kK (.str [102, 111, 114, 99, 101, 100]))) (kNot (kX 7))) (kSeq (kDo .append 8 (kK (.str [112, 114, 101, 112, 97, 114, 101, 100]))) kSkip) kSkip) (kSeq (kIf (kAnd (kOp2 .eq (kX 6) (kK (.str [99, 111, 109, 109, 105, 116]))) (kOp2 .ne (kOp2 .ix (kX 0) (kK (.int 0))) (kK (.str [102, 111, 114, 99, 101, 100])))) (kSeq (kDo .append 8 (kK (.str [98, 101, 103, 117, 110]))) kSkip) kSkip) (kSeq (kIf (kAnd (kOp2 .eq (kX 6) (kK (.str [99, 111, 109, 109, 105, 116]))) (kOp2 .notin (kK (.str [97, 98, 111, 114, 116])) (kX 5))) (kSeq (kDo .append 8 (kK (.str [116, 104, 97, 110, 107, 115, 32, 97, 98, 111, 114, 116]))) kSkip) kSkip) (kSeq (kIf (kAnd (kOp2 .eq (kX 6) (kK (.str [99, 111, 109, 109, 105, 116]))) (kAnd (kOp2 .ne (kX 4) (kK (.str [102, 111, 114, 99, 101, 100]))) (kOp2 .ne (kX 2) (kK (.str [110, 111, 110, 101]))))) (kSeq (kDo .append 8 (kK (.str [97, 98, 111, 114, 116, 101, 100]))) kSkip) kSkip) (kSeq (kIf (kOr (kOp2 .eq (kX 6) (kK (.str [97, 98, 111, 114, 116]))) (kAnd (kX 7) (kOp2 .ne (kX 2) (kK (.str [102, 111, 114, 99, 101, 100]))))) (kSeq (kIf (kOp2 .ne (kX 3) (kK (.str [102, 111, 114, 99, 101, 100]))) (kSeq (kDo .append 8 (kK (.str [99, 111, 109, 109, 105, 116, 116, 101, 100]))) kSkip) kSkip) (kSeq (kIf (kOp2 .notin (kK (.str [99, 111, 109, 109, 105, 116])) (kX 5)) (kSeq (kDo .append 8 (kK (.str [116, 104, 97, 110, 107, 115, 32, 99, 111, 109, 109, 105, 116]))) kSkip) kSkip) kSkip)) kSkip) (kSeq (kRet (kOp1 .tuple (kOp1 .sorted (kX 8)))) kSkip)))))))))
theorem kp_law_lacks_q : p_law_lacks_q = k_law_lacks_q := by
  simp only [p_law_lacks_q, d_law_lacks_q, m_law_lacks_q, k_law_lacks_q, kq_run, kq_kv, kq_gv, kq_x, kq_nil, kq_cons, kq_tup, kq_lst, kq_dic, kq_op1, kq_op2, kq_sl, kq_and, kq_or, kq_not, kq_ite, kq_chain, kq_callO, kq_comp, kq_skip, kq_seq, kq_asg, kq_mv, kq_sub, kq_do (o := .append) rfl, kq_do (o := .extend) rfl, kq_ret, kq_retN, kq_if, kq_whl, kq_for, kq_brk, kq_cont, kO_nil, kO_k, kO_x, kO_g, kO_tup, kO_lst, kO_op1, kO_op2, kO_sl, kO_and, kO_or, kO_not, kO_ite, kO_chain, kO_call, kO_comp, kCallO_some, List.getElem?_cons_zero, List.getElem?_cons_succ, kO_nil] <;> rfl
def k_law_pick_q : Mi.PFn := kRun 2 2 (kSeq (kRet (kOp2 .ix (kX 1) (kCall p_law_draw_q [] (kCons (kX 0) (kCons (kOp1 .len (kX 1)) kNil))))) kSkip)
theorem kp_law_pick_q : p_law_pick_q = k_law_pick_q := by
  simp only [p_law_pick_q, d_law_pick_q, m_law_pick_q, k_law_pick_q, kq_run, kq_kv, kq_gv, kq_x, kq_nil, kq_cons, kq_tup, kq_lst, kq_dic, kq_op1, kq_op2, kq_sl, kq_and, kq_or, kq_not, kq_ite, kq_chain, kq_callO, kq_comp, kq_skip, kq_seq, kq_asg, kq_mv, kq_sub, kq_do (o := .append) rfl, kq_do (o := .extend) rfl, kq_ret, kq_retN, kq_if, kq_whl, kq_for, kq_brk, kq_cont, kO_nil, kO_k, kO_x, kO_g, kO_tup, kO_lst, kO_op1, kO_op2, kO_sl, kO_and, kO_or, kO_not, kO_ite, kO_chain, kO_call, kO_comp, kCallO_some, List.getElem?_cons_zero, List.getElem?_cons_succ, kO_nil] <;> rfl
def k_law_fit_manner_q : Mi.PFn := kRun 2 9 (kSeq (kAsg (.tp (.cons (.sl 2) (.cons (.sl 3) .nil))) (kTup (kCons (kLst (kCons (kK (.str [110, 111, 110, 101])) (kCons (kK (.str [108, 97, 122, 121])) (kCons (kK (.str [102, 111, 114, 99, 101, 100])) kNil)))) (kCons (kTup (kCons (kK (.str [97, 98, 111, 114, 116])) (kCons (kK (.str [99, 111, 109, 109, 105, 116])) kNil))) kNil)))) (kSeq (kAsg (.tp (.cons (.sl 4) (.cons (.sl 5) .nil))) (kTup (kCons (kIte (kOp2 .eq (kOp2 .ix (kX 1) (kK (.int 0))) (kK (.str [102, 111, 114, 99, 101, 100]))) (kCall k_law_pick_q [] (kCons (kX 0) (kCons (kX 3) kNil))) (kK (.str [97, 98, 111, 114, 116]))) (kCons (kOp2 .eq (kCall p_law_draw_q [] (kCons (kX 0) (kCons (kK (.int 2)) kNil))) (kK (.int 0))) kNil)))) (kSeq (kAsg (.sl 6) (kIte (kX 5) (kCall k_law_pick_q [] (kCons (kX 0) (kCons (kX 2) kNil))) (kK (.str [102, 111, 114, 99, 101, 100])))) (kSeq (kAsg (.tp (.cons (.sl 7) (.cons (.sl 8) .nil))) (kTup (kCons (kCall k_law_pick_q [] (kCons (kX 0) (kCons (kX 2) kNil))) (kCons (kCall k_law_pick_q [] (kCons (kX 0) (kCons (kX 2) kNil))) kNil)))) (kSeq (kIf (kOp2 .eq (kX 4) (kK (.str [97, 98, 111, 114, 116]))) (kSeq (kRet (kTup (kCons (kX 6) (kCons (kK (.str [102, 111, 114, 99, 101, 100])) (kCons (kX 8) (kCons (kCall k_law_pick_q [] (kCons (kX 0) (kCons (kLst (kCons (kTup (kCons (kK (.str [99, 111, 109, 109, 105, 116])) kNil)) (kCons (kX 3) kNil))) kNil))) (kCons (kX 4) (kCons (kX 5) kNil)))))))) kSkip) kSkip) (kSeq (kIf (kOp2 .ne (kX 6) (kK (.str [110, 111, 110, 101]))) (kSeq (kAsg (.sl 8) (kK (.str [102, 111, 114, 99, 101, 100]))) kSkip) kSkip) (kSeq (kIf (kOp2 .ne (kX 6) (kK (.str [102, 111, 114, 99, 101, 100]))) (kSeq (kRet (kTup (kCons (kX 6) (kCons (kK (.str [102, 111, 114, 99, 101, 100])) (kCons (kX 8) (kCons (kX 3) (kCons (kX 4) (kCons (kX 5) kNil)))))))) kSkip) kSkip) (kSeq (kRet (kTup (kCons (kX 6) (kCons (kX 7) (kCons (kX 8) (kCons (kCall k_law_pick_q [] (kCons (kX 0) (kCons (kLst (kCons (kTup (kCons (kK (.str [97, 98, 111, 114, 116])) kNil)) (kCons (kX 3) kNil))) kNil))) (kCons (kX 4) (kCons (kX 5) kNil)))))))) kSkip))))))))
theorem kp_law_fit_manner_q : p_law_fit_manner_q = k_law_fit_manner_q := by
  simp only [p_law_fit_manner_q, d_law_fit_manner_q, m_law_fit_manner_q, k_law_fit_manner_q, kq_run, kq_kv, kq_gv, kq_x, kq_nil, kq_cons, kq_tup, kq_lst, kq_dic, kq_op1, kq_op2, kq_sl, kq_and, kq_or, kq_not, kq_ite, kq_chain, kq_callO, kq_comp, kq_skip, kq_seq, kq_asg, kq_mv, kq_sub, kq_do (o := .append) rfl, kq_do (o := .extend) rfl, kq_ret, kq_retN, kq_if, kq_whl, kq_for, kq_brk, kq_cont, kO_nil, kO_k, kO_x, kO_g, kO_tup, kO_lst, kO_op1, kO_op2, kO_sl, kO_and, kO_or, kO_not, kO_ite, kO_chain, kO_call, kO_comp, kCallO_some, List.getElem?_cons_zero, List.getElem?_cons_succ, kp_law_pick_q] <;> rfl
def k_law_fit_way_q : Mi.PFn := kRun 1 3 (kSeq (kAsg (.sl 1) (kLst (kCons (kK (.str [110, 111, 110, 101])) (kCons (kK (.str [108, 97, 122, 121])) (kCons (kK (.str [102, 111, 114, 99, 101, 100])) kNil))))) (kSeq (kAsg (.sl 2) (kTup (kCons (kCall k_law_pick_q [] (kCons (kX 0) (kCons (kOp2 .add (kX 1) (kLst (kCons (kK (.str [102, 111, 114, 99, 101, 100])) kNil))) kNil))) (kCons (kK (.str [102, 111, 114, 99, 101, 100])) (kCons (kCall k_law_pick_q [] (kCons (kX 0) (kCons (kX 1) kNil))) kNil))))) (kSeq (kRet (kTup (kCons (kX 2) (kCons (kCall k_law_fit_manner_q [] (kCons (kX 0) (kCons (kX 2) kNil))) kNil)))) kSkip)))
theorem kp_law_fit_way_q : p_law_fit_way_q = k_law_fit_way_q := by
  simp only [p_law_fit_way_q, d_law_fit_way_q, m_law_fit_way_q, k_law_fit_way_q, kq_run, kq_kv, kq_gv, kq_x, kq_nil, kq_cons, kq_tup, kq_lst, kq_dic, kq_op1, kq_op2, kq_sl, kq_and, kq_or, kq_not, kq_ite, kq_chain, kq_callO, kq_comp, kq_skip, kq_seq, kq_asg, kq_mv, kq_sub, kq_do (o := .append) rfl, kq_do (o := .extend) rfl, kq_ret, kq_retN, kq_if, kq_whl, kq_for, kq_brk, kq_cont, kO_nil, kO_k, kO_x, kO_g, kO_tup, kO_lst, kO_op1, kO_op2, kO_sl, kO_and, kO_or, kO_not, kO_ite, kO_chain, kO_call, kO_comp, kCallO_some, List.getElem?_cons_zero, List.getElem?_cons_succ, kp_law_fit_manner_q, kp_law_pick_q] <;> rfl
def k_presumed_abort : Mi.PFn := kRun 0 0 (kSeq (kRet (kTup (kCons (kTup (kCons (kK (.str [110, 111, 110, 101])) (kCons (kK (.str [102, 111, 114, 99, 101, 100])) (kCons (kK (.str [110, 111, 110, 101])) kNil)))) (kCons (kTup (kCons (kK (.str [102, 111, 114, 99, 101, 100])) (kCons (kK (.str [102, 111, 114, 99, 101, 100])) (kCons (kK (.str [110, 111, 110, 101])) (kCons (kTup (kCons (kK (.str [99, 111, 109, 109, 105, 116])) kNil)) (kCons (kK (.str [97, 98, 111, 114, 116])) (kCons (kK (.bl false)) kNil))))))) kNil)))) kSkip)
theorem kp_presumed_abort : p_presumed_abort = k_presumed_abort := by
  simp only [p_presumed_abort, d_presumed_abort, m_presumed_abort, k_presumed_abort, kq_run, kq_kv, kq_gv, kq_x, kq_nil, kq_cons, kq_tup, kq_lst, kq_dic, kq_op1, kq_op2, kq_sl, kq_and, kq_or, kq_not, kq_ite, kq_chain, kq_callO, kq_comp, kq_skip, kq_seq, kq_asg, kq_mv, kq_sub, kq_do (o := .append) rfl, kq_do (o := .extend) rfl, kq_ret, kq_retN, kq_if, kq_whl, kq_for, kq_brk, kq_cont, kO_nil, kO_k, kO_x, kO_g, kO_tup, kO_lst, kO_op1, kO_op2, kO_sl, kO_and, kO_or, kO_not, kO_ite, kO_chain, kO_call, kO_comp, kCallO_some, List.getElem?_cons_zero, List.getElem?_cons_succ, kO_nil] <;> rfl
def k_abort_with_work : Mi.PFn := kRun 0 0 (kSeq (kRet (kTup (kCons (kTup (kCons (kK (.str [110, 111, 110, 101])) (kCons (kK (.str [102, 111, 114, 99, 101, 100])) (kCons (kK (.str [110, 111, 110, 101])) kNil)))) (kCons (kTup (kCons (kK (.str [110, 111, 110, 101])) (kCons (kK (.str [102, 111, 114, 99, 101, 100])) (kCons (kK (.str [110, 111, 110, 101])) (kCons (kTup (kCons (kK (.str [99, 111, 109, 109, 105, 116])) kNil)) (kCons (kK (.str [97, 98, 111, 114, 116])) (kCons (kK (.bl true)) kNil))))))) kNil)))) kSkip)
theorem kp_abort_with_work : p_abort_with_work = k_abort_with_work := by
  simp only [p_abort_with_work, d_abort_with_work, m_abort_with_work, k_abort_with_work, kq_run, kq_kv, kq_gv, kq_x, kq_nil, kq_cons, kq_tup, kq_lst, kq_dic, kq_op1, kq_op2, kq_sl, kq_and, kq_or, kq_not, kq_ite, kq_chain, kq_callO, kq_comp, kq_skip, kq_seq, kq_asg, kq_mv, kq_sub, kq_do (o := .append) rfl, kq_do (o := .extend) rfl, kq_ret, kq_retN, kq_if, kq_whl, kq_for, kq_brk, kq_cont, kO_nil, kO_k, kO_x, kO_g, kO_tup, kO_lst, kO_op1, kO_op2, kO_sl, kO_and, kO_or, kO_not, kO_ite, kO_chain, kO_call, kO_comp, kCallO_some, List.getElem?_cons_zero, List.getElem?_cons_succ, kO_nil] <;> rfl
def k_presumed_commit : Mi.PFn := kRun 0 0 (kSeq (kRet (kTup (kCons (kTup (kCons (kK (.str [102, 111, 114, 99, 101, 100])) (kCons (kK (.str [102, 111, 114, 99, 101, 100])) (kCons (kK (.str [110, 111, 110, 101])) kNil)))) (kCons (kTup (kCons (kK (.str [102, 111, 114, 99, 101, 100])) (kCons (kK (.str [110, 111, 110, 101])) (kCons (kK (.str [102, 111, 114, 99, 101, 100])) (kCons (kTup (kCons (kK (.str [97, 98, 111, 114, 116])) kNil)) (kCons (kK (.str [99, 111, 109, 109, 105, 116])) (kCons (kK (.bl false)) kNil))))))) kNil)))) kSkip)
theorem kp_presumed_commit : p_presumed_commit = k_presumed_commit := by
  simp only [p_presumed_commit, d_presumed_commit, m_presumed_commit, k_presumed_commit, kq_run, kq_kv, kq_gv, kq_x, kq_nil, kq_cons, kq_tup, kq_lst, kq_dic, kq_op1, kq_op2, kq_sl, kq_and, kq_or, kq_not, kq_ite, kq_chain, kq_callO, kq_comp, kq_skip, kq_seq, kq_asg, kq_mv, kq_sub, kq_do (o := .append) rfl, kq_do (o := .extend) rfl, kq_ret, kq_retN, kq_if, kq_whl, kq_for, kq_brk, kq_cont, kO_nil, kO_k, kO_x, kO_g, kO_tup, kO_lst, kO_op1, kO_op2, kO_sl, kO_and, kO_or, kO_not, kO_ite, kO_chain, kO_call, kO_comp, kCallO_some, List.getElem?_cons_zero, List.getElem?_cons_succ, kO_nil] <;> rfl
def k_commit_with_work : Mi.PFn := kRun 0 0 (kSeq (kRet (kTup (kCons (kTup (kCons (kK (.str [102, 111, 114, 99, 101, 100])) (kCons (kK (.str [102, 111, 114, 99, 101, 100])) (kCons (kK (.str [110, 111, 110, 101])) kNil)))) (kCons (kTup (kCons (kK (.str [110, 111, 110, 101])) (kCons (kK (.str [102, 111, 114, 99, 101, 100])) (kCons (kK (.str [110, 111, 110, 101])) (kCons (kTup (kCons (kK (.str [97, 98, 111, 114, 116])) (kCons (kK (.str [99, 111, 109, 109, 105, 116])) kNil))) (kCons (kK (.str [99, 111, 109, 109, 105, 116])) (kCons (kK (.bl true)) kNil))))))) kNil)))) kSkip)
theorem kp_commit_with_work : p_commit_with_work = k_commit_with_work := by
  simp only [p_commit_with_work, d_commit_with_work, m_commit_with_work, k_commit_with_work, kq_run, kq_kv, kq_gv, kq_x, kq_nil, kq_cons, kq_tup, kq_lst, kq_dic, kq_op1, kq_op2, kq_sl, kq_and, kq_or, kq_not, kq_ite, kq_chain, kq_callO, kq_comp, kq_skip, kq_seq, kq_asg, kq_mv, kq_sub, kq_do (o := .append) rfl, kq_do (o := .extend) rfl, kq_ret, kq_retN, kq_if, kq_whl, kq_for, kq_brk, kq_cont, kO_nil, kO_k, kO_x, kO_g, kO_tup, kO_lst, kO_op1, kO_op2, kO_sl, kO_and, kO_or, kO_not, kO_ite, kO_chain, kO_call, kO_comp, kCallO_some, List.getElem?_cons_zero, List.getElem?_cons_succ, kO_nil] <;> rfl
def k_least_ways : Mi.PFn := kRun 0 0 (kSeq (kRet (kOp1 .tuple (kOp1 .sorted (kLst (kCons (kCall k_presumed_abort [] kNil) (kCons (kCall k_abort_with_work [] kNil) (kCons (kCall k_presumed_commit [] kNil) (kCons (kCall k_commit_with_work [] kNil) kNil)))))))) kSkip)
theorem kp_least_ways : p_least_ways = k_least_ways := by
  simp only [p_least_ways, d_least_ways, m_least_ways, k_least_ways, kq_run, kq_kv, kq_gv, kq_x, kq_nil, kq_cons, kq_tup, kq_lst, kq_dic, kq_op1, kq_op2, kq_sl, kq_and, kq_or, kq_not, kq_ite, kq_chain, kq_callO, kq_comp, kq_skip, kq_seq, kq_asg, kq_mv, kq_sub, kq_do (o := .append) rfl, kq_do (o := .extend) rfl, kq_ret, kq_retN, kq_if, kq_whl, kq_for, kq_brk, kq_cont, kO_nil, kO_k, kO_x, kO_g, kO_tup, kO_lst, kO_op1, kO_op2, kO_sl, kO_and, kO_or, kO_not, kO_ite, kO_chain, kO_call, kO_comp, kCallO_some, List.getElem?_cons_zero, List.getElem?_cons_succ, kp_presumed_abort, kp_abort_with_work, kp_presumed_commit, kp_commit_with_work] <;> rfl
end Law
end
section
set_option Elab.async false
set_option maxRecDepth 100000
set_option maxHeartbeats 0
set_option linter.all false
set_option autoImplicit false
namespace Law
open Mi
/-- what lacks tells -/
theorem lacks_eq (h : Hd) (m : Mn) : p_lacks [h.e, m.e] = .ret (.tup ((lk h m).map .str)) := by
  unfold p_lacks p_lacks_for_abort p_lacks_for_commit d_lacks d_lacks_for_abort d_lacks_for_commit m_lacks m_lacks_for_abort m_lacks_for_commit Hd.e Mn.e lk
  simp only [st_f, st_n, en_c, en_a, th_a, th_c, m2_same, m2_ret, m2_retL, m2_nx, m2_rt, m2_bad, m2_str, m2_int, m2_bl, m2_tup, m2_lst, m2_cons, m2_some, m2_tf, m2_ft, m2_kf, m2_tb, m2_kt, m2_fb, m2_len, m2_add, m2_add2, m2_le, m2_lt, m2_emp, m2_beqS, m2_beqI, m2_as, emp_app, emp_nil, emp_cons, ap2_ss, as2_ap, as2_nil, as2_cons, as2_map, g_kS, g_kI, g_kB, g_kN, g_gS, g_gI, g_k, g_g, g_x, z_var, g_tup, z_tup, g_lst, z_lst, g_op1, z_op1, g_op2, z_op2, g_sl, z_sl, z_optT, z_optF, z_opt, g_and, z_and, g_or, z_or, g_not, z_not, g_ite, z_ite, z_ite2, g_call, z_call, g_nil, g_cons, z_cons, j_skip, j_seq, z_aft1, z_aft2, z_aft3, j_asg, z_asg, z_bind, j_ret, z_ret, j_retN, j_ite, z_if, z_if2, j_run, z_out1, z_out2, z_out3, j_app, j_ext, z_app1, z_ext1, z_app, z_ext, z_B, z_N, z_V, u_eq, u_ne, u_lt, u_le, u_gt, u_ge, u_addI, u_sub, u_addT, u_addL, u_addS, u_inT, u_inL, u_ninT, u_ninL, u_ixT, u_ixL, u_int, u_intB, u_lenT, u_lenL, u_tupT, u_tupL, u_lstT, u_lstL, u_isN, u_noN, u_slL, u_slT, z_sort, u_sort, z_I, u_index, u_count, u_max2, u_min2, u_isT, u_notT, u_iSs, u_iSi, u_iSb, u_iSn, u_iSt, u_iSl, u_iIs, u_iIi, u_iIb, u_iIn, u_iIt, u_iIl, u_iTs, u_iTi, u_iTb, u_iTn, u_iTt, u_iTl, u_iBs, u_iBi, u_iBb, u_iBn, u_iBt, u_iBl, is_some2, w_true, w_false, kif_t, kif_f, n_non, n_bl, n_int, n_str, n_tup, n_lst, e_ss, e_ii, e_bb, e_tt, e_l0, e_t0, e_llc, e_alr, e_al1, e_al3, e_ny0, e_nS, e_ny1, decide_true, decide_false, t_bl, t_non, t_int, t_tup, t_lst, v_lst, v_tup, v_int, v_str, v_bl, v_non, y_int, y_str, isNil, bindP, bindPs, permP, wipeP, v2p, v2ps, Val.nr, Val.nrs, dicP, getP, nodupP, List.length_cons, List.length_nil, List.getElem?_cons_zero, List.getElem?_cons_succ, List.set_cons_zero, List.set_cons_succ, List.map_cons, List.map_nil, rep_none, rep_none0, List.append, List.cons_append, List.nil_append, true_and, and_true, if_true, if_false, Bool.false_eq_true, Option.bind, Bool.not_true, Bool.not_false, Bool.true_and, Bool.false_and, Bool.and_true, Bool.and_false, Bool.or_true, Bool.or_false, Bool.true_or, Bool.false_or, Option.map, Option.map_some, Option.map_none, List.getElem?_nil, Bool.or_self, Bool.and_self, Nat.zero_le, Nat.reduceAdd, Nat.reduceSub, Nat.reduceLT, Nat.reduceLeDiff, Nat.reduceEqDiff, Nat.reduceBEq, beq_self_eq_true, Nat.zero_add, Nat.add_zero, List.length_map, top, List.length_append, List.all_cons, List.all_nil, and_self, List.filterMap_cons, List.filterMap_nil, List.length_set, at_lit, at_last, w_seqT, w_seqL, w_enT, w_enL, w_zipT, w_zipL, seqP, Option.bind_some]
  refine congrArg (fun z => Tr.ret (PV.tup (List.map PV.str z))) ?_
  generalize h.c.isF = hc
  generalize m.p.isF = pf
  generalize m.p.isN = pn
  generalize h.b.isF = hb
  generalize m.a.isF = af
  generalize m.c.isF = cf
  generalize m.ta = ta
  generalize m.tc = tc
  generalize m.pr.isC = pC
  generalize m.sn = sn
  revert hc pf pn hb af cf ta tc pC sn
  decide +kernel
/-- what the law has -/
theorem law_lacks_eq (h : Hd) (m : Mn) : p_law_lacks_q [h.e, m.e] = .ret (.tup ((lk h m).map .str)) := by
  unfold p_law_lacks_q d_law_lacks_q m_law_lacks_q Hd.e Mn.e lk
  simp only [st_f, st_n, en_c, en_a, th_a, th_c, m2_same, m2_ret, m2_retL, m2_nx, m2_rt, m2_bad, m2_str, m2_int, m2_bl, m2_tup, m2_lst, m2_cons, m2_some, m2_tf, m2_ft, m2_kf, m2_tb, m2_kt, m2_fb, m2_len, m2_add, m2_add2, m2_le, m2_lt, m2_emp, m2_beqS, m2_beqI, m2_as, emp_app, emp_nil, emp_cons, ap2_ss, as2_ap, as2_nil, as2_cons, as2_map, g_kS, g_kI, g_kB, g_kN, g_gS, g_gI, g_k, g_g, g_x, z_var, g_tup, z_tup, g_lst, z_lst, g_op1, z_op1, g_op2, z_op2, g_sl, z_sl, z_optT, z_optF, z_opt, g_and, z_and, g_or, z_or, g_not, z_not, g_ite, z_ite, z_ite2, g_call, z_call, g_nil, g_cons, z_cons, j_skip, j_seq, z_aft1, z_aft2, z_aft3, j_asg, z_asg, z_bind, j_ret, z_ret, j_retN, j_ite, z_if, z_if2, j_run, z_out1, z_out2, z_out3, j_app, j_ext, z_app1, z_ext1, z_app, z_ext, z_B, z_N, z_V, u_eq, u_ne, u_lt, u_le, u_gt, u_ge, u_addI, u_sub, u_addT, u_addL, u_addS, u_inT, u_inL, u_ninT, u_ninL, u_ixT, u_ixL, u_int, u_intB, u_lenT, u_lenL, u_tupT, u_tupL, u_lstT, u_lstL, u_isN, u_noN, u_slL, u_slT, z_sort, u_sort, z_I, u_index, u_count, u_max2, u_min2, u_isT, u_notT, u_iSs, u_iSi, u_iSb, u_iSn, u_iSt, u_iSl, u_iIs, u_iIi, u_iIb, u_iIn, u_iIt, u_iIl, u_iTs, u_iTi, u_iTb, u_iTn, u_iTt, u_iTl, u_iBs, u_iBi, u_iBb, u_iBn, u_iBt, u_iBl, is_some2, w_true, w_false, kif_t, kif_f, n_non, n_bl, n_int, n_str, n_tup, n_lst, e_ss, e_ii, e_bb, e_tt, e_l0, e_t0, e_llc, e_alr, e_al1, e_al3, e_ny0, e_nS, e_ny1, decide_true, decide_false, t_bl, t_non, t_int, t_tup, t_lst, v_lst, v_tup, v_int, v_str, v_bl, v_non, y_int, y_str, isNil, bindP, bindPs, permP, wipeP, v2p, v2ps, Val.nr, Val.nrs, dicP, getP, nodupP, List.length_cons, List.length_nil, List.getElem?_cons_zero, List.getElem?_cons_succ, List.set_cons_zero, List.set_cons_succ, List.map_cons, List.map_nil, rep_none, rep_none0, List.append, List.cons_append, List.nil_append, true_and, and_true, if_true, if_false, Bool.false_eq_true, Option.bind, Bool.not_true, Bool.not_false, Bool.true_and, Bool.false_and, Bool.and_true, Bool.and_false, Bool.or_true, Bool.or_false, Bool.true_or, Bool.false_or, Option.map, Option.map_some, Option.map_none, List.getElem?_nil, Bool.or_self, Bool.and_self, Nat.zero_le, Nat.reduceAdd, Nat.reduceSub, Nat.reduceLT, Nat.reduceLeDiff, Nat.reduceEqDiff, Nat.reduceBEq, beq_self_eq_true, Nat.zero_add, Nat.add_zero, List.length_map, top, List.length_append, List.all_cons, List.all_nil, and_self, List.filterMap_cons, List.filterMap_nil, List.length_set, at_lit, at_last, w_seqT, w_seqL, w_enT, w_enL, w_zipT, w_zipL, seqP, Option.bind_some]
  refine congrArg (fun z => Tr.ret (PV.tup (List.map PV.str z))) ?_
  generalize h.c.isF = hc
  generalize m.p.isF = pf
  generalize m.p.isN = pn
  generalize h.b.isF = hb
  generalize m.a.isF = af
  generalize m.c.isF = cf
  generalize m.ta = ta
  generalize m.tc = tc
  generalize m.pr.isC = pC
  generalize m.sn = sn
  revert hc pf pn hb af cf ta tc pC sn
  decide +kernel
/-- a draw -/
theorem d_draw {m : Int} {Q : PV → Prop} (h : 2 ≤ m ∧ m ≤ 1000000) : All (p_law_draw_q [.deck, .int m]) Q = ∀ i : Int, 0 ≤ i → i < m → Q (.int i) := by
  unfold p_law_draw_q
  dsimp only
  rw [if_neg (by omega), a_draw]
  simp only [a_ret]
  apply propext
  refine ⟨fun z => z.2.2, fun z => ⟨by omega, ?_, z⟩⟩
  have : (2 : Int) ^ 20 ≤ 2 ^ 4000 := by
    have := Nat.pow_le_pow_right (n := 2) (by decide) (show 20 ≤ 4000 by decide)
    exact_mod_cast this
  omega
/-- a draw of one number -/
theorem d_draw1 {m : Int} {Q : PV → Prop} (h : m < 2) : All (p_law_draw_q [.deck, .int m]) Q = Q (.int 0) := by
  unfold p_law_draw_q
  dsimp only
  rw [if_pos h, a_ret]
theorem draw_all {m : Int} {Q : PV → Prop} (h : m ≤ 1000000) (k : ∀ i : Int, 0 ≤ i → (i < m ∨ i = 0) → Q (.int i)) : All (p_law_draw_q [.deck, .int m]) Q := by
  by_cases h2 : m < 2
  · rw [d_draw1 h2]; exact k 0 (by omega) (.inr rfl)
  · rw [d_draw (by omega)]; exact fun i i0 i1 => k i i0 (.inl i1)
theorem d_pickL {xs : List PV} {Q : PV → Prop} (h0 : xs ≠ []) (hl : xs.length ≤ 1000000) : All (p_law_pick_q [.deck, .lst xs]) Q = ∀ x ∈ xs, Q x := by
  unfold p_law_pick_q d_law_pick_q m_law_pick_q
  have hp : 0 < xs.length := List.length_pos_iff.mpr h0
  simp only [↓a_bind, ↓a_ret, ↓a_bad, ↓a_exc, ↓a_when, ↓a_some, ↓a_none, ↓a_noX, ↓a_kif, ↓a_ite, ↓a_kS, ↓a_kI, ↓a_kB, ↓a_kN, ↓a_k, ↓a_gS, ↓a_gI, ↓a_g, ↓a_x, ↓a_tup, ↓a_lst, ↓a_dic, ↓a_op1, ↓a_op2, ↓a_optT, ↓a_optF, ↓a_sl, ↓a_and, ↓a_or, ↓a_not, ↓a_iteE, ↓a_chain, ↓a_call, ↓a_nil, ↓a_cons, ↓a_comp, ↓a_op2T, ↓a_op2F, ↓a_optCT, ↓a_optCF, ↓h_skip, ↓h_never, ↓h_exC, ↓h_seq, ↓h_asg, ↓h_mv, ↓h_un, ↓h_sub, ↓h_app, ↓h_ext, ↓h_ret, ↓h_retN, ↓h_brk, ↓h_cont, ↓h_ite, ↓h_fo, ↓h_run, ↓on_some2, ↓on_none2, ↓o_eq, ↓o_ne, ↓o_lt, ↓o_le, ↓o_gt, ↓o_ge, ↓o_addI, ↓o_addS, ↓o_addT, ↓o_addL, ↓o_sub, ↓o_mulI, ↓o_mulT, ↓o_mulL, ↓o_mod, ↓o_fdiv, ↓o_pow, ↓o_inTs, ↓o_inTi, ↓o_inTt, ↓o_inLs, ↓o_inLi, ↓o_inLt, ↓o_ninTs, ↓o_ninTi, ↓o_ninTt, ↓o_ninLs, ↓o_ninLi, ↓o_ninLt, ↓o_ixT, ↓o_ixL, ↓o_ixD, ↓o_indexS, ↓o_indexI, ↓o_indexT, ↓o_countS, ↓o_countI, ↓o_iSs, ↓o_iSi, ↓o_iSb, ↓o_iSn, ↓o_iSt, ↓o_iSl, ↓o_iIs, ↓o_iIi, ↓o_iIb, ↓o_iIn, ↓o_iIt, ↓o_iIl, ↓o_iTs, ↓o_iTi, ↓o_iTb, ↓o_iTn, ↓o_iTt, ↓o_iTl, ↓o_iBs, ↓o_iBi, ↓o_iBb, ↓o_iBn, ↓o_iBt, ↓o_iBl, ↓o_rngL, ↓o_rngT, ↓o_rngL2, ↓o_rngT2, ↓o_isT, ↓o_notT, ↓o_max2, ↓o_min2, ↓o_neg, ↓o_abs, ↓o_int, ↓o_intB, ↓o_lenT, ↓o_lenL, ↓o_lenS, ↓o_tupT, ↓o_tupL, ↓o_lstT, ↓o_lstL, ↓o_rev, ↓o_isN, ↓o_noN, ↓o_slL, ↓o_slT, ↓n_non, ↓n_bl, ↓n_int, ↓n_str, ↓n_tup, ↓n_lst, ↓e_ss, ↓e_ii, ↓e_bb, ↓e_tt, ↓e_l0, ↓e_t0, ↓e_llc, ↓e_alr, ↓e_al1, ↓e_al3, ↓e_ny0, ↓e_nS, ↓e_ny1, slotA, t_bl, t_non, t_int, t_tup, t_lst, v_lst, v_tup, v_int, v_str, v_bl, v_non, y_int, y_str, isNil, bindP, bindPs, permP, wipeP, v2p, v2ps, Val.nr, Val.nrs, dicP, getP, nodupP, List.length_cons, List.length_nil, List.getElem?_cons_zero, List.getElem?_cons_succ, List.set_cons_zero, List.set_cons_succ, List.map_cons, List.map_nil, rep_none, rep_none0, List.append, List.cons_append, List.nil_append, true_and, and_true, if_true, if_false, Bool.false_eq_true, Option.bind, Bool.not_true, Bool.not_false, Bool.true_and, Bool.false_and, Bool.and_true, Bool.and_false, Bool.or_true, Bool.or_false, Bool.true_or, Bool.false_or, Option.map, Option.map_some, Option.map_none, List.getElem?_nil, Bool.or_self, Bool.and_self, Nat.zero_le, Nat.reduceAdd, Nat.reduceSub, Nat.reduceLT, Nat.reduceLeDiff, Nat.reduceEqDiff, Nat.reduceBEq, beq_self_eq_true, Nat.zero_add, Nat.add_zero, List.length_map, top, List.length_append, List.all_cons, List.all_nil, and_self, List.filterMap_cons, List.filterMap_nil, List.length_set, at_lit, at_last, w_seqT, w_seqL, w_enT, w_enL, w_zipT, w_zipL, seqP, Option.bind_some]
  apply propext
  by_cases h2 : (xs.length : Int) < 2
  · rw [d_draw1 h2]
    match xs, h0 with
    | [x], _ => simp [o_ixL, o_ixT, at_lit, on_some, at', ix]
    | _ :: _ :: _, _ => simp at h2; omega
  · rw [d_draw (by omega)]
    refine ⟨fun z x hx => ?_, fun z i i0 i1 => ?_⟩
    · obtain ⟨n, hn, rfl⟩ := List.mem_iff_getElem.mp hx
      have := z n (by omega) (by omega)
      obtain ⟨y, e1, _, e2⟩ := at_int (xs := xs) (s := (n : Int)) (by omega) (by omega)
      rw [o_ixL, e1, on_some] at this
      rw [Int.toNat_natCast, List.getElem?_eq_getElem hn] at e2
      cases e2; exact this
    · obtain ⟨y, e1, e2, _⟩ := at_int (xs := xs) i0 i1
      rw [o_ixL, e1, on_some]
      exact z y e2
theorem d_pickT {xs : List PV} {Q : PV → Prop} (h0 : xs ≠ []) (hl : xs.length ≤ 1000000) : All (p_law_pick_q [.deck, .tup xs]) Q = ∀ x ∈ xs, Q x := by
  unfold p_law_pick_q d_law_pick_q m_law_pick_q
  have hp : 0 < xs.length := List.length_pos_iff.mpr h0
  simp only [↓a_bind, ↓a_ret, ↓a_bad, ↓a_exc, ↓a_when, ↓a_some, ↓a_none, ↓a_noX, ↓a_kif, ↓a_ite, ↓a_kS, ↓a_kI, ↓a_kB, ↓a_kN, ↓a_k, ↓a_gS, ↓a_gI, ↓a_g, ↓a_x, ↓a_tup, ↓a_lst, ↓a_dic, ↓a_op1, ↓a_op2, ↓a_optT, ↓a_optF, ↓a_sl, ↓a_and, ↓a_or, ↓a_not, ↓a_iteE, ↓a_chain, ↓a_call, ↓a_nil, ↓a_cons, ↓a_comp, ↓a_op2T, ↓a_op2F, ↓a_optCT, ↓a_optCF, ↓h_skip, ↓h_never, ↓h_exC, ↓h_seq, ↓h_asg, ↓h_mv, ↓h_un, ↓h_sub, ↓h_app, ↓h_ext, ↓h_ret, ↓h_retN, ↓h_brk, ↓h_cont, ↓h_ite, ↓h_fo, ↓h_run, ↓on_some2, ↓on_none2, ↓o_eq, ↓o_ne, ↓o_lt, ↓o_le, ↓o_gt, ↓o_ge, ↓o_addI, ↓o_addS, ↓o_addT, ↓o_addL, ↓o_sub, ↓o_mulI, ↓o_mulT, ↓o_mulL, ↓o_mod, ↓o_fdiv, ↓o_pow, ↓o_inTs, ↓o_inTi, ↓o_inTt, ↓o_inLs, ↓o_inLi, ↓o_inLt, ↓o_ninTs, ↓o_ninTi, ↓o_ninTt, ↓o_ninLs, ↓o_ninLi, ↓o_ninLt, ↓o_ixT, ↓o_ixL, ↓o_ixD, ↓o_indexS, ↓o_indexI, ↓o_indexT, ↓o_countS, ↓o_countI, ↓o_iSs, ↓o_iSi, ↓o_iSb, ↓o_iSn, ↓o_iSt, ↓o_iSl, ↓o_iIs, ↓o_iIi, ↓o_iIb, ↓o_iIn, ↓o_iIt, ↓o_iIl, ↓o_iTs, ↓o_iTi, ↓o_iTb, ↓o_iTn, ↓o_iTt, ↓o_iTl, ↓o_iBs, ↓o_iBi, ↓o_iBb, ↓o_iBn, ↓o_iBt, ↓o_iBl, ↓o_rngL, ↓o_rngT, ↓o_rngL2, ↓o_rngT2, ↓o_isT, ↓o_notT, ↓o_max2, ↓o_min2, ↓o_neg, ↓o_abs, ↓o_int, ↓o_intB, ↓o_lenT, ↓o_lenL, ↓o_lenS, ↓o_tupT, ↓o_tupL, ↓o_lstT, ↓o_lstL, ↓o_rev, ↓o_isN, ↓o_noN, ↓o_slL, ↓o_slT, ↓n_non, ↓n_bl, ↓n_int, ↓n_str, ↓n_tup, ↓n_lst, ↓e_ss, ↓e_ii, ↓e_bb, ↓e_tt, ↓e_l0, ↓e_t0, ↓e_llc, ↓e_alr, ↓e_al1, ↓e_al3, ↓e_ny0, ↓e_nS, ↓e_ny1, slotA, t_bl, t_non, t_int, t_tup, t_lst, v_lst, v_tup, v_int, v_str, v_bl, v_non, y_int, y_str, isNil, bindP, bindPs, permP, wipeP, v2p, v2ps, Val.nr, Val.nrs, dicP, getP, nodupP, List.length_cons, List.length_nil, List.getElem?_cons_zero, List.getElem?_cons_succ, List.set_cons_zero, List.set_cons_succ, List.map_cons, List.map_nil, rep_none, rep_none0, List.append, List.cons_append, List.nil_append, true_and, and_true, if_true, if_false, Bool.false_eq_true, Option.bind, Bool.not_true, Bool.not_false, Bool.true_and, Bool.false_and, Bool.and_true, Bool.and_false, Bool.or_true, Bool.or_false, Bool.true_or, Bool.false_or, Option.map, Option.map_some, Option.map_none, List.getElem?_nil, Bool.or_self, Bool.and_self, Nat.zero_le, Nat.reduceAdd, Nat.reduceSub, Nat.reduceLT, Nat.reduceLeDiff, Nat.reduceEqDiff, Nat.reduceBEq, beq_self_eq_true, Nat.zero_add, Nat.add_zero, List.length_map, top, List.length_append, List.all_cons, List.all_nil, and_self, List.filterMap_cons, List.filterMap_nil, List.length_set, at_lit, at_last, w_seqT, w_seqL, w_enT, w_enL, w_zipT, w_zipL, seqP, Option.bind_some]
  apply propext
  by_cases h2 : (xs.length : Int) < 2
  · rw [d_draw1 h2]
    match xs, h0 with
    | [x], _ => simp [o_ixL, o_ixT, at_lit, on_some, at', ix]
    | _ :: _ :: _, _ => simp at h2; omega
  · rw [d_draw (by omega)]
    refine ⟨fun z x hx => ?_, fun z i i0 i1 => ?_⟩
    · obtain ⟨n, hn, rfl⟩ := List.mem_iff_getElem.mp hx
      have := z n (by omega) (by omega)
      obtain ⟨y, e1, _, e2⟩ := at_int (xs := xs) (s := (n : Int)) (by omega) (by omega)
      rw [o_ixT, e1, on_some] at this
      rw [Int.toNat_natCast, List.getElem?_eq_getElem hn] at e2
      cases e2; exact this
    · obtain ⟨y, e1, e2, _⟩ := at_int (xs := xs) i0 i1
      rw [o_ixT, e1, on_some]
      exact z y e2
theorem mem3 {α : Type} {a b c : α} {P : α → Prop} : (∀ x ∈ [a, b, c], P x) = (P a ∧ P b ∧ P c) := by simp
theorem mem2 {α : Type} {a b : α} {P : α → Prop} : (∀ x ∈ [a, b], P x) = (P a ∧ P b) := by simp
theorem mem1 {α : Type} {a : α} {P : α → Prop} : (∀ x ∈ [a], P x) = P a := by simp
theorem mem4 {α : Type} {a b c d : α} {P : α → Prop} : (∀ x ∈ [a, b, c, d], P x) = (P a ∧ P b ∧ P c ∧ P d) := by simp
abbrev Wy := Hd × Mn
def Wy.e (x : Wy) : PV := .tup [x.1.e, x.2.e]
def hPA : Hd := ⟨.n, .f, .n⟩
def mPA : Mn := ⟨.f, .f, .n, false, true, .a, false⟩
def mAW : Mn := ⟨.n, .f, .n, false, true, .a, true⟩
def hPC : Hd := ⟨.f, .f, .n⟩
def mPC : Mn := ⟨.f, .n, .f, true, false, .c, false⟩
def mCW : Mn := ⟨.n, .f, .n, true, true, .c, true⟩
/-- the least ways, ascending -/
def ways : List Wy := [(hPC, mPC), (hPC, mCW), (hPA, mPA), (hPA, mAW)]
theorem least_eq : p_least_ways [] = .ret (.tup (ways.map Wy.e)) := by
  rw [kp_least_ways]
  kernel_rfl
theorem way_pa : p_presumed_abort [] = .ret (Wy.e (hPA, mPA)) := by kernel_rfl
theorem way_aw : p_abort_with_work [] = .ret (Wy.e (hPA, mAW)) := by kernel_rfl
theorem way_pc : p_presumed_commit [] = .ret (Wy.e (hPC, mPC)) := by kernel_rfl
theorem way_cw : p_commit_with_work [] = .ret (Wy.e (hPC, mCW)) := by kernel_rfl
theorem sort_ways : p1 .sorted (.lst [Wy.e (hPA, mPA), Wy.e (hPA, mAW), Wy.e (hPC, mPC), Wy.e (hPC, mCW)]) = .ret (.lst (ways.map Wy.e)) := by kernel_rfl
def hasS (th : List PV) (x : List Nat) : Bool := th.any fun z => match z with
  | .str s => s == x
  | _ => false
theorem hasS_a {x y : Bool} : hasS ((thS x y).map .str) [97, 98, 111, 114, 116] = x := by cases x <;> cases y <;> rfl
theorem hasS_c {x y : Bool} : hasS ((thS x y).map .str) [99, 111, 109, 109, 105, 116] = y := by cases x <;> cases y <;> rfl
/-- it is no way that fits -/
def noFit (r : PV) : Bool := match r with
  | .tup [h, m] => isHead h && isManner m && (match h, m with
    | .tup [.str hb, .str hc, _], .tup [.str p, .str c, .str a, .tup th, .str pr, .bl sn] => !((hc == [102, 111, 114, 99, 101, 100]) && (p == [102, 111, 114, 99, 101, 100] || sn) && (!(pr == [99, 111, 109, 109, 105, 116]) || (hb == [102, 111, 114, 99, 101, 100] && hasS th [97, 98, 111, 114, 116] && (a == [102, 111, 114, 99, 101, 100] || p == [110, 111, 110, 101]))) && (!(pr == [97, 98, 111, 114, 116] || (sn && !(p == [102, 111, 114, 99, 101, 100]))) || (c == [102, 111, 114, 99, 101, 100] && hasS th [99, 111, 109, 109, 105, 116])))
    | _, _ => false)
  | _ => false
theorem fit_bool (h : Hd) (m : Mn) : fit h m = ((h.c.isF) && (m.p.isF || m.sn) && (!m.pr.isC || (h.b.isF && m.ta && (m.a.isF || m.p.isN))) && (!(!m.pr.isC || (m.sn && !m.p.isF)) || (m.c.isF && m.tc))) := by
  unfold fit lk
  generalize h.c.isF = hc
  generalize m.p.isF = pf
  generalize m.p.isN = pn
  generalize h.b.isF = hb
  generalize m.a.isF = af
  generalize m.c.isF = cf
  generalize m.ta = ta
  generalize m.tc = tc
  generalize m.pr.isC = pC
  generalize m.sn = sn
  revert hc pf pn hb af cf ta tc pC sn
  decide +kernel
theorem noFit_e {r : PV} (e : noFit r = true) : ∃ x : Wy, r = x.e ∧ fit x.1 x.2 = false := by
  unfold noFit at e
  split at e
  · rename_i h m
    rw [Bool.and_eq_true, Bool.and_eq_true] at e
    obtain ⟨h, rfl⟩ := isHead_e e.1.1
    obtain ⟨m, rfl⟩ := isManner_e e.1.2
    refine ⟨(h, m), rfl, ?_⟩
    have e2 := e.2
    simp only [Hd.e, Mn.e, hasS_a, hasS_c, st_f, st_n, en_c, en_a] at e2
    rw [fit_bool]
    generalize h.c.isF = hc at *
    generalize m.p.isF = pf at *
    generalize m.p.isN = pn at *
    generalize h.b.isF = hb at *
    generalize m.a.isF = af at *
    generalize m.c.isF = cf at *
    generalize m.ta = ta at *
    generalize m.tc = tc at *
    generalize m.pr.isC = pC at *
    generalize m.sn = sn at *
    clear e
    revert hc pf pn hb af cf ta tc pC sn
    decide +kernel
  · cases e
def lowOk (r : PV) : Bool := match r with
  | .lst l => decide (l.length ≤ 1000) && l.all noFit
  | _ => false
end Law
end
section
set_option Elab.async false
set_option maxRecDepth 100000
set_option maxHeartbeats 0
set_option linter.all false
set_option autoImplicit false
namespace Law
open Mi
theorem lower_1 : AllB lowOk (k_law_lower_q [Wy.e (hPA, mAW)]) = true := by kernel_rfl
theorem lower_2 : AllB lowOk (k_law_lower_q [Wy.e (hPA, mPA)]) = true := by kernel_rfl
theorem lower_3 : AllB lowOk (k_law_lower_q [Wy.e (hPC, mPC)]) = true := by kernel_rfl
theorem lower_4 : AllB lowOk (k_law_lower_q [Wy.e (hPC, mCW)]) = true := by kernel_rfl
end Law
end
section
set_option Elab.async false
set_option maxRecDepth 100000
set_option maxHeartbeats 0
set_option linter.all false
set_option autoImplicit false
namespace Law
open Mi
theorem lower_ok {x : Wy} (h : x ∈ ways) : All (p_law_lower_q [x.e]) fun r => ∃ l : List Wy, r = .lst (l.map Wy.e) ∧ l.length ≤ 1000 ∧ ∀ y ∈ l, fit y.1 y.2 = false := by
  have k : AllB lowOk (k_law_lower_q [x.e]) = true := by
    simp only [ways, List.mem_cons, List.not_mem_nil, or_false] at h
    rcases h with rfl | rfl | rfl | rfl
    · exact lower_3
    · exact lower_4
    · exact lower_2
    · exact lower_1
  rw [kp_law_lower_q]
  refine All.imp (AllB.sound k) fun r e => ?_
  unfold lowOk at e
  split at e
  · rename_i l
    rw [Bool.and_eq_true, decide_eq_true_eq] at e
    obtain ⟨e1, e2⟩ := e
    have : ∃ xs : List Wy, l = xs.map Wy.e ∧ ∀ y ∈ xs, fit y.1 y.2 = false := by
      clear e1 k
      induction l with
      | nil => exact ⟨[], rfl, by simp⟩
      | cons v l ih =>
        rw [List.all_cons, Bool.and_eq_true] at e2
        obtain ⟨y, rfl, hy⟩ := noFit_e e2.1
        obtain ⟨ys, rfl, hys⟩ := ih e2.2
        exact ⟨y :: ys, rfl, fun z hz => by rcases List.mem_cons.mp hz with rfl | hz; exact hy; exact hys z hz⟩
    obtain ⟨xs, rfl, hxs⟩ := this
    exact ⟨xs, rfl, by simpa using e1, hxs⟩
  · cases e
def lv : St → Int
  | .n => 0
  | .l => 1
  | .f => 2
theorem level_eq (s : St) : p_law_level_q [.str s.s] = .ret (.int (lv s)) := by
  cases s <;> kernel_rfl
/-- whether a way is another one, or weaker -/
def within (x y : Wy) : Bool := (x.2.pr.isC == y.2.pr.isC) && (!x.2.sn || y.2.sn) && (!x.2.ta || y.2.ta) && (!x.2.tc || y.2.tc) &&
  (decide (lv x.1.b ≤ lv y.1.b) && decide (lv x.1.c ≤ lv y.1.c) && decide (lv x.1.a ≤ lv y.1.a) && decide (lv x.2.p ≤ lv y.2.p) && decide (lv x.2.c ≤ lv y.2.c) && decide (lv x.2.a ≤ lv y.2.a))
theorem cut3 {a b c d e f : PV} : cut [a, b, c, d, e, f] none (some 3) = [a, b, c] := rfl
theorem within_ok (x y : Wy) : All (p_law_is_within_q [x.e, y.e]) fun r => r = .bl (within x y) := by
  obtain ⟨⟨xb, xc, xa⟩, ⟨xp, xmc, xma, xta, xtc, xpr, xsn⟩⟩ := x
  obtain ⟨⟨yb, yc, ya⟩, ⟨yp, ymc, yma, yta, ytc, ypr, ysn⟩⟩ := y
  unfold p_law_is_within_q d_law_is_within_q m_law_is_within_q Wy.e Hd.e Mn.e
  dsimp only
  rw [h_run]; refine ⟨rfl, ?_⟩
  refine seq_all (fun ρ => ρ = [some (.tup [.tup [.str xb.s, .str xc.s, .str xa.s], .tup [.str xp.s, .str xmc.s, .str xma.s, .tup ((thS xta xtc).map .str), .str xpr.s, .bl xsn]]), some (.tup [.tup [.str yb.s, .str yc.s, .str ya.s], .tup [.str yp.s, .str ymc.s, .str yma.s, .tup ((thS yta ytc).map .str), .str ypr.s, .bl ysn]]),
    some (.tup [.str xb.s, .str xc.s, .str xa.s]), some (.tup [.str xp.s, .str xmc.s, .str xma.s, .tup ((thS xta xtc).map .str), .str xpr.s, .bl xsn]), some (.tup [.str yb.s, .str yc.s, .str ya.s]), some (.tup [.str yp.s, .str ymc.s, .str yma.s, .tup ((thS yta ytc).map .str), .str ypr.s, .bl ysn]), none, none, none, none, none]) ?_ ?_
  · simp only [↓a_bind, ↓a_ret, ↓a_bad, ↓a_exc, ↓a_when, ↓a_some, ↓a_none, ↓a_noX, ↓a_kif, ↓a_ite, ↓a_kS, ↓a_kI, ↓a_kB, ↓a_kN, ↓a_k, ↓a_gS, ↓a_gI, ↓a_g, ↓a_x, ↓a_tup, ↓a_lst, ↓a_dic, ↓a_op1, ↓a_op2, ↓a_optT, ↓a_optF, ↓a_sl, ↓a_and, ↓a_or, ↓a_not, ↓a_iteE, ↓a_chain, ↓a_call, ↓a_nil, ↓a_cons, ↓a_comp, ↓a_op2T, ↓a_op2F, ↓a_optCT, ↓a_optCF, ↓h_skip, ↓h_never, ↓h_exC, ↓h_seq, ↓h_asg, ↓h_mv, ↓h_un, ↓h_sub, ↓h_app, ↓h_ext, ↓h_ret, ↓h_retN, ↓h_brk, ↓h_cont, ↓h_ite, ↓h_fo, ↓h_run, ↓on_some2, ↓on_none2, ↓o_eq, ↓o_ne, ↓o_lt, ↓o_le, ↓o_gt, ↓o_ge, ↓o_addI, ↓o_addS, ↓o_addT, ↓o_addL, ↓o_sub, ↓o_mulI, ↓o_mulT, ↓o_mulL, ↓o_mod, ↓o_fdiv, ↓o_pow, ↓o_inTs, ↓o_inTi, ↓o_inTt, ↓o_inLs, ↓o_inLi, ↓o_inLt, ↓o_ninTs, ↓o_ninTi, ↓o_ninTt, ↓o_ninLs, ↓o_ninLi, ↓o_ninLt, ↓o_ixT, ↓o_ixL, ↓o_ixD, ↓o_indexS, ↓o_indexI, ↓o_indexT, ↓o_countS, ↓o_countI, ↓o_iSs, ↓o_iSi, ↓o_iSb, ↓o_iSn, ↓o_iSt, ↓o_iSl, ↓o_iIs, ↓o_iIi, ↓o_iIb, ↓o_iIn, ↓o_iIt, ↓o_iIl, ↓o_iTs, ↓o_iTi, ↓o_iTb, ↓o_iTn, ↓o_iTt, ↓o_iTl, ↓o_iBs, ↓o_iBi, ↓o_iBb, ↓o_iBn, ↓o_iBt, ↓o_iBl, ↓o_rngL, ↓o_rngT, ↓o_rngL2, ↓o_rngT2, ↓o_isT, ↓o_notT, ↓o_max2, ↓o_min2, ↓o_neg, ↓o_abs, ↓o_int, ↓o_intB, ↓o_lenT, ↓o_lenL, ↓o_lenS, ↓o_tupT, ↓o_tupL, ↓o_lstT, ↓o_lstL, ↓o_rev, ↓o_isN, ↓o_noN, ↓o_slL, ↓o_slT, ↓n_non, ↓n_bl, ↓n_int, ↓n_str, ↓n_tup, ↓n_lst, ↓e_ss, ↓e_ii, ↓e_bb, ↓e_tt, ↓e_l0, ↓e_t0, ↓e_llc, ↓e_alr, ↓e_al1, ↓e_al3, ↓e_ny0, ↓e_nS, ↓e_ny1, slotA, t_bl, t_non, t_int, t_tup, t_lst, v_lst, v_tup, v_int, v_str, v_bl, v_non, y_int, y_str, isNil, bindP, bindPs, permP, wipeP, v2p, v2ps, Val.nr, Val.nrs, dicP, getP, nodupP, List.length_cons, List.length_nil, List.getElem?_cons_zero, List.getElem?_cons_succ, List.set_cons_zero, List.set_cons_succ, List.map_cons, List.map_nil, rep_none, rep_none0, List.append, List.cons_append, List.nil_append, true_and, and_true, if_true, if_false, Bool.false_eq_true, Option.bind, Bool.not_true, Bool.not_false, Bool.true_and, Bool.false_and, Bool.and_true, Bool.and_false, Bool.or_true, Bool.or_false, Bool.true_or, Bool.false_or, Option.map, Option.map_some, Option.map_none, List.getElem?_nil, Bool.or_self, Bool.and_self, Nat.zero_le, Nat.reduceAdd, Nat.reduceSub, Nat.reduceLT, Nat.reduceLeDiff, Nat.reduceEqDiff, Nat.reduceBEq, beq_self_eq_true, Nat.zero_add, Nat.add_zero, List.length_map, top, List.length_append, List.all_cons, List.all_nil, and_self, List.filterMap_cons, List.filterMap_nil, List.length_set, at_lit, at_last, w_seqT, w_seqL, w_enT, w_enL, w_zipT, w_zipL, seqP, Option.bind_some]
  rintro ρ rfl
  refine seq_all (fun ρ => (xpr.isC == ypr.isC && (!xsn || ysn)) = true ∧ ρ = [some (.tup [.tup [.str xb.s, .str xc.s, .str xa.s], .tup [.str xp.s, .str xmc.s, .str xma.s, .tup ((thS xta xtc).map .str), .str xpr.s, .bl xsn]]), some (.tup [.tup [.str yb.s, .str yc.s, .str ya.s], .tup [.str yp.s, .str ymc.s, .str yma.s, .tup ((thS yta ytc).map .str), .str ypr.s, .bl ysn]]), some (.tup [.str xb.s, .str xc.s, .str xa.s]), some (.tup [.str xp.s, .str xmc.s, .str xma.s, .tup ((thS xta xtc).map .str), .str xpr.s, .bl xsn]), some (.tup [.str yb.s, .str yc.s, .str ya.s]), some (.tup [.str yp.s, .str ymc.s, .str yma.s, .tup ((thS yta ytc).map .str), .str ypr.s, .bl ysn]), none, none, none, none, none]) ?_ ?_
  · have hpr : (xpr.s == ypr.s) = (xpr.isC == ypr.isC) := by cases xpr <;> cases ypr <;> rfl
    simp only [hpr, ↓a_bind, ↓a_ret, ↓a_bad, ↓a_exc, ↓a_when, ↓a_some, ↓a_none, ↓a_noX, ↓a_kif, ↓a_ite, ↓a_kS, ↓a_kI, ↓a_kB, ↓a_kN, ↓a_k, ↓a_gS, ↓a_gI, ↓a_g, ↓a_x, ↓a_tup, ↓a_lst, ↓a_dic, ↓a_op1, ↓a_op2, ↓a_optT, ↓a_optF, ↓a_sl, ↓a_and, ↓a_or, ↓a_not, ↓a_iteE, ↓a_chain, ↓a_call, ↓a_nil, ↓a_cons, ↓a_comp, ↓a_op2T, ↓a_op2F, ↓a_optCT, ↓a_optCF, ↓h_skip, ↓h_never, ↓h_exC, ↓h_seq, ↓h_asg, ↓h_mv, ↓h_un, ↓h_sub, ↓h_app, ↓h_ext, ↓h_ret, ↓h_retN, ↓h_brk, ↓h_cont, ↓h_ite, ↓h_fo, ↓h_run, ↓on_some2, ↓on_none2, ↓o_eq, ↓o_ne, ↓o_lt, ↓o_le, ↓o_gt, ↓o_ge, ↓o_addI, ↓o_addS, ↓o_addT, ↓o_addL, ↓o_sub, ↓o_mulI, ↓o_mulT, ↓o_mulL, ↓o_mod, ↓o_fdiv, ↓o_pow, ↓o_inTs, ↓o_inTi, ↓o_inTt, ↓o_inLs, ↓o_inLi, ↓o_inLt, ↓o_ninTs, ↓o_ninTi, ↓o_ninTt, ↓o_ninLs, ↓o_ninLi, ↓o_ninLt, ↓o_ixT, ↓o_ixL, ↓o_ixD, ↓o_indexS, ↓o_indexI, ↓o_indexT, ↓o_countS, ↓o_countI, ↓o_iSs, ↓o_iSi, ↓o_iSb, ↓o_iSn, ↓o_iSt, ↓o_iSl, ↓o_iIs, ↓o_iIi, ↓o_iIb, ↓o_iIn, ↓o_iIt, ↓o_iIl, ↓o_iTs, ↓o_iTi, ↓o_iTb, ↓o_iTn, ↓o_iTt, ↓o_iTl, ↓o_iBs, ↓o_iBi, ↓o_iBb, ↓o_iBn, ↓o_iBt, ↓o_iBl, ↓o_rngL, ↓o_rngT, ↓o_rngL2, ↓o_rngT2, ↓o_isT, ↓o_notT, ↓o_max2, ↓o_min2, ↓o_neg, ↓o_abs, ↓o_int, ↓o_intB, ↓o_lenT, ↓o_lenL, ↓o_lenS, ↓o_tupT, ↓o_tupL, ↓o_lstT, ↓o_lstL, ↓o_rev, ↓o_isN, ↓o_noN, ↓o_slL, ↓o_slT, ↓n_non, ↓n_bl, ↓n_int, ↓n_str, ↓n_tup, ↓n_lst, ↓e_ss, ↓e_ii, ↓e_bb, ↓e_tt, ↓e_l0, ↓e_t0, ↓e_llc, ↓e_alr, ↓e_al1, ↓e_al3, ↓e_ny0, ↓e_nS, ↓e_ny1, slotA, t_bl, t_non, t_int, t_tup, t_lst, v_lst, v_tup, v_int, v_str, v_bl, v_non, y_int, y_str, isNil, bindP, bindPs, permP, wipeP, v2p, v2ps, Val.nr, Val.nrs, dicP, getP, nodupP, List.length_cons, List.length_nil, List.getElem?_cons_zero, List.getElem?_cons_succ, List.set_cons_zero, List.set_cons_succ, List.map_cons, List.map_nil, rep_none, rep_none0, List.append, List.cons_append, List.nil_append, true_and, and_true, if_true, if_false, Bool.false_eq_true, Option.bind, Bool.not_true, Bool.not_false, Bool.true_and, Bool.false_and, Bool.and_true, Bool.and_false, Bool.or_true, Bool.or_false, Bool.true_or, Bool.false_or, Option.map, Option.map_some, Option.map_none, List.getElem?_nil, Bool.or_self, Bool.and_self, Nat.zero_le, Nat.reduceAdd, Nat.reduceSub, Nat.reduceLT, Nat.reduceLeDiff, Nat.reduceEqDiff, Nat.reduceBEq, beq_self_eq_true, Nat.zero_add, Nat.add_zero, List.length_map, top, List.length_append, List.all_cons, List.all_nil, and_self, List.filterMap_cons, List.filterMap_nil, List.length_set, at_lit, at_last, w_seqT, w_seqL, w_enT, w_enL, w_zipT, w_zipL, seqP, Option.bind_some]
    unfold within
    dsimp only
    cases xpr.isC <;> cases ypr.isC <;> cases xsn <;> cases ysn <;> simp
  rintro ρ ⟨hA, rfl⟩
  refine seq_all (fun ρ => ((!xta || yta) && (!xtc || ytc)) = true ∧ ρ = [some (.tup [.tup [.str xb.s, .str xc.s, .str xa.s], .tup [.str xp.s, .str xmc.s, .str xma.s, .tup ((thS xta xtc).map .str), .str xpr.s, .bl xsn]]), some (.tup [.tup [.str yb.s, .str yc.s, .str ya.s], .tup [.str yp.s, .str ymc.s, .str yma.s, .tup ((thS yta ytc).map .str), .str ypr.s, .bl ysn]]), some (.tup [.str xb.s, .str xc.s, .str xa.s]), some (.tup [.str xp.s, .str xmc.s, .str xma.s, .tup ((thS xta xtc).map .str), .str xpr.s, .bl xsn]), some (.tup [.str yb.s, .str yc.s, .str ya.s]), some (.tup [.str yp.s, .str ymc.s, .str yma.s, .tup ((thS yta ytc).map .str), .str ypr.s, .bl ysn]), none, none, none, none, none]) ?_ ?_
  · unfold within
    dsimp only
    cases xta <;> cases xtc <;> simp only [thS, th_a, th_c, if_true, if_false, Bool.false_eq_true, List.append_nil, List.nil_append, List.cons_append, List.map_nil, List.map_cons, ↓a_bind, ↓a_ret, ↓a_bad, ↓a_exc, ↓a_when, ↓a_some, ↓a_none, ↓a_noX, ↓a_kif, ↓a_ite, ↓a_kS, ↓a_kI, ↓a_kB, ↓a_kN, ↓a_k, ↓a_gS, ↓a_gI, ↓a_g, ↓a_x, ↓a_tup, ↓a_lst, ↓a_dic, ↓a_op1, ↓a_op2, ↓a_optT, ↓a_optF, ↓a_sl, ↓a_and, ↓a_or, ↓a_not, ↓a_iteE, ↓a_chain, ↓a_call, ↓a_nil, ↓a_cons, ↓a_comp, ↓a_op2T, ↓a_op2F, ↓a_optCT, ↓a_optCF, ↓h_skip, ↓h_never, ↓h_exC, ↓h_seq, ↓h_asg, ↓h_mv, ↓h_un, ↓h_sub, ↓h_app, ↓h_ext, ↓h_ret, ↓h_retN, ↓h_brk, ↓h_cont, ↓h_ite, ↓h_fo, ↓h_run, ↓on_some2, ↓on_none2, ↓o_eq, ↓o_ne, ↓o_lt, ↓o_le, ↓o_gt, ↓o_ge, ↓o_addI, ↓o_addS, ↓o_addT, ↓o_addL, ↓o_sub, ↓o_mulI, ↓o_mulT, ↓o_mulL, ↓o_mod, ↓o_fdiv, ↓o_pow, ↓o_inTs, ↓o_inTi, ↓o_inTt, ↓o_inLs, ↓o_inLi, ↓o_inLt, ↓o_ninTs, ↓o_ninTi, ↓o_ninTt, ↓o_ninLs, ↓o_ninLi, ↓o_ninLt, ↓o_ixT, ↓o_ixL, ↓o_ixD, ↓o_indexS, ↓o_indexI, ↓o_indexT, ↓o_countS, ↓o_countI, ↓o_iSs, ↓o_iSi, ↓o_iSb, ↓o_iSn, ↓o_iSt, ↓o_iSl, ↓o_iIs, ↓o_iIi, ↓o_iIb, ↓o_iIn, ↓o_iIt, ↓o_iIl, ↓o_iTs, ↓o_iTi, ↓o_iTb, ↓o_iTn, ↓o_iTt, ↓o_iTl, ↓o_iBs, ↓o_iBi, ↓o_iBb, ↓o_iBn, ↓o_iBt, ↓o_iBl, ↓o_rngL, ↓o_rngT, ↓o_rngL2, ↓o_rngT2, ↓o_isT, ↓o_notT, ↓o_max2, ↓o_min2, ↓o_neg, ↓o_abs, ↓o_int, ↓o_intB, ↓o_lenT, ↓o_lenL, ↓o_lenS, ↓o_tupT, ↓o_tupL, ↓o_lstT, ↓o_lstL, ↓o_rev, ↓o_isN, ↓o_noN, ↓o_slL, ↓o_slT, ↓n_non, ↓n_bl, ↓n_int, ↓n_str, ↓n_tup, ↓n_lst, ↓e_ss, ↓e_ii, ↓e_bb, ↓e_tt, ↓e_l0, ↓e_t0, ↓e_llc, ↓e_alr, ↓e_al1, ↓e_al3, ↓e_ny0, ↓e_nS, ↓e_ny1, ↓l_c0, ↓l_c1, ↓l_f0, ↓l_f1, slotA, t_bl, t_non, t_int, t_tup, t_lst, v_lst, v_tup, v_int, v_str, v_bl, v_non, y_int, y_str, isNil, bindP, bindPs, permP, wipeP, v2p, v2ps, Val.nr, Val.nrs, dicP, getP, nodupP, List.length_cons, List.length_nil, List.getElem?_cons_zero, List.getElem?_cons_succ, List.set_cons_zero, List.set_cons_succ, List.map_cons, List.map_nil, rep_none, rep_none0, List.append, List.cons_append, List.nil_append, true_and, and_true, if_true, if_false, Bool.false_eq_true, Option.bind, Bool.not_true, Bool.not_false, Bool.true_and, Bool.false_and, Bool.and_true, Bool.and_false, Bool.or_true, Bool.or_false, Bool.true_or, Bool.false_or, Option.map, Option.map_some, Option.map_none, List.getElem?_nil, Bool.or_self, Bool.and_self, Nat.zero_le, Nat.reduceAdd, Nat.reduceSub, Nat.reduceLT, Nat.reduceLeDiff, Nat.reduceEqDiff, Nat.reduceBEq, beq_self_eq_true, Nat.zero_add, Nat.add_zero, List.length_map, top, List.length_append, List.all_cons, List.all_nil, and_self, List.filterMap_cons, List.filterMap_nil, List.length_set, at_lit, at_last, w_seqT, w_seqL, w_enT, w_enL, w_zipT, w_zipL, seqP, Option.bind_some] <;> cases yta <;> cases ytc <;> simp [thS]
  rintro ρ ⟨hB, rfl⟩
  have dle : ∀ a b : Int, decide (a ≤ b) = !decide (b < a) := fun a b => by
    by_cases h : a ≤ b
    · rw [decide_eq_true h, decide_eq_false (by omega)]; rfl
    · rw [decide_eq_false h, decide_eq_true (by omega)]; rfl
  refine seq_all (fun ρ => ρ = [some (.tup [.tup [.str xb.s, .str xc.s, .str xa.s], .tup [.str xp.s, .str xmc.s, .str xma.s, .tup ((thS xta xtc).map .str), .str xpr.s, .bl xsn]]), some (.tup [.tup [.str yb.s, .str yc.s, .str ya.s], .tup [.str yp.s, .str ymc.s, .str yma.s, .tup ((thS yta ytc).map .str), .str ypr.s, .bl ysn]]), some (.tup [.str xb.s, .str xc.s, .str xa.s]), some (.tup [.str xp.s, .str xmc.s, .str xma.s, .tup ((thS xta xtc).map .str), .str xpr.s, .bl xsn]), some (.tup [.str yb.s, .str yc.s, .str ya.s]), some (.tup [.str yp.s, .str ymc.s, .str yma.s, .tup ((thS yta ytc).map .str), .str ypr.s, .bl ysn]), some (.lst [.tup [.int (lv xb), .int (lv yb)], .tup [.int (lv xc), .int (lv yc)], .tup [.int (lv xa), .int (lv ya)], .tup [.int (lv xp), .int (lv yp)], .tup [.int (lv xmc), .int (lv ymc)], .tup [.int (lv xma), .int (lv yma)]]), none, none, none, none]) ?_ ?_
  · simp only [cut3, level_eq, List.zip_cons_cons, List.zip_nil_left, ↓a_bind, ↓a_ret, ↓a_bad, ↓a_exc, ↓a_when, ↓a_some, ↓a_none, ↓a_noX, ↓a_kif, ↓a_ite, ↓a_kS, ↓a_kI, ↓a_kB, ↓a_kN, ↓a_k, ↓a_gS, ↓a_gI, ↓a_g, ↓a_x, ↓a_tup, ↓a_lst, ↓a_dic, ↓a_op1, ↓a_op2, ↓a_optT, ↓a_optF, ↓a_sl, ↓a_and, ↓a_or, ↓a_not, ↓a_iteE, ↓a_chain, ↓a_call, ↓a_nil, ↓a_cons, ↓a_comp, ↓a_op2T, ↓a_op2F, ↓a_optCT, ↓a_optCF, ↓h_skip, ↓h_never, ↓h_exC, ↓h_seq, ↓h_asg, ↓h_mv, ↓h_un, ↓h_sub, ↓h_app, ↓h_ext, ↓h_ret, ↓h_retN, ↓h_brk, ↓h_cont, ↓h_ite, ↓h_fo, ↓h_run, ↓on_some2, ↓on_none2, ↓o_eq, ↓o_ne, ↓o_lt, ↓o_le, ↓o_gt, ↓o_ge, ↓o_addI, ↓o_addS, ↓o_addT, ↓o_addL, ↓o_sub, ↓o_mulI, ↓o_mulT, ↓o_mulL, ↓o_mod, ↓o_fdiv, ↓o_pow, ↓o_inTs, ↓o_inTi, ↓o_inTt, ↓o_inLs, ↓o_inLi, ↓o_inLt, ↓o_ninTs, ↓o_ninTi, ↓o_ninTt, ↓o_ninLs, ↓o_ninLi, ↓o_ninLt, ↓o_ixT, ↓o_ixL, ↓o_ixD, ↓o_indexS, ↓o_indexI, ↓o_indexT, ↓o_countS, ↓o_countI, ↓o_iSs, ↓o_iSi, ↓o_iSb, ↓o_iSn, ↓o_iSt, ↓o_iSl, ↓o_iIs, ↓o_iIi, ↓o_iIb, ↓o_iIn, ↓o_iIt, ↓o_iIl, ↓o_iTs, ↓o_iTi, ↓o_iTb, ↓o_iTn, ↓o_iTt, ↓o_iTl, ↓o_iBs, ↓o_iBi, ↓o_iBb, ↓o_iBn, ↓o_iBt, ↓o_iBl, ↓o_rngL, ↓o_rngT, ↓o_rngL2, ↓o_rngT2, ↓o_isT, ↓o_notT, ↓o_max2, ↓o_min2, ↓o_neg, ↓o_abs, ↓o_int, ↓o_intB, ↓o_lenT, ↓o_lenL, ↓o_lenS, ↓o_tupT, ↓o_tupL, ↓o_lstT, ↓o_lstL, ↓o_rev, ↓o_isN, ↓o_noN, ↓o_slL, ↓o_slT, ↓n_non, ↓n_bl, ↓n_int, ↓n_str, ↓n_tup, ↓n_lst, ↓e_ss, ↓e_ii, ↓e_bb, ↓e_tt, ↓e_l0, ↓e_t0, ↓e_llc, ↓e_alr, ↓e_al1, ↓e_al3, ↓e_ny0, ↓e_nS, ↓e_ny1, ↓l_c0, ↓l_c1, ↓l_f0, ↓l_f1, slotA, t_bl, t_non, t_int, t_tup, t_lst, v_lst, v_tup, v_int, v_str, v_bl, v_non, y_int, y_str, isNil, bindP, bindPs, permP, wipeP, v2p, v2ps, Val.nr, Val.nrs, dicP, getP, nodupP, List.length_cons, List.length_nil, List.getElem?_cons_zero, List.getElem?_cons_succ, List.set_cons_zero, List.set_cons_succ, List.map_cons, List.map_nil, rep_none, rep_none0, List.append, List.cons_append, List.nil_append, true_and, and_true, if_true, if_false, Bool.false_eq_true, Option.bind, Bool.not_true, Bool.not_false, Bool.true_and, Bool.false_and, Bool.and_true, Bool.and_false, Bool.or_true, Bool.or_false, Bool.true_or, Bool.false_or, Option.map, Option.map_some, Option.map_none, List.getElem?_nil, Bool.or_self, Bool.and_self, Nat.zero_le, Nat.reduceAdd, Nat.reduceSub, Nat.reduceLT, Nat.reduceLeDiff, Nat.reduceEqDiff, Nat.reduceBEq, beq_self_eq_true, Nat.zero_add, Nat.add_zero, List.length_map, top, List.length_append, List.all_cons, List.all_nil, and_self, List.filterMap_cons, List.filterMap_nil, List.length_set, at_lit, at_last, w_seqT, w_seqL, w_enT, w_enL, w_zipT, w_zipL, seqP, Option.bind_some]
  rintro ρ rfl
  simp only [↓a_bind, ↓a_ret, ↓a_bad, ↓a_exc, ↓a_when, ↓a_some, ↓a_none, ↓a_noX, ↓a_kif, ↓a_ite, ↓a_kS, ↓a_kI, ↓a_kB, ↓a_kN, ↓a_k, ↓a_gS, ↓a_gI, ↓a_g, ↓a_x, ↓a_tup, ↓a_lst, ↓a_dic, ↓a_op1, ↓a_op2, ↓a_optT, ↓a_optF, ↓a_sl, ↓a_and, ↓a_or, ↓a_not, ↓a_iteE, ↓a_chain, ↓a_call, ↓a_nil, ↓a_cons, ↓a_comp, ↓a_op2T, ↓a_op2F, ↓a_optCT, ↓a_optCF, ↓h_skip, ↓h_never, ↓h_exC, ↓h_seq, ↓h_asg, ↓h_mv, ↓h_un, ↓h_sub, ↓h_app, ↓h_ext, ↓h_ret, ↓h_retN, ↓h_brk, ↓h_cont, ↓h_ite, ↓h_fo, ↓h_run, ↓on_some2, ↓on_none2, ↓o_eq, ↓o_ne, ↓o_lt, ↓o_le, ↓o_gt, ↓o_ge, ↓o_addI, ↓o_addS, ↓o_addT, ↓o_addL, ↓o_sub, ↓o_mulI, ↓o_mulT, ↓o_mulL, ↓o_mod, ↓o_fdiv, ↓o_pow, ↓o_inTs, ↓o_inTi, ↓o_inTt, ↓o_inLs, ↓o_inLi, ↓o_inLt, ↓o_ninTs, ↓o_ninTi, ↓o_ninTt, ↓o_ninLs, ↓o_ninLi, ↓o_ninLt, ↓o_ixT, ↓o_ixL, ↓o_ixD, ↓o_indexS, ↓o_indexI, ↓o_indexT, ↓o_countS, ↓o_countI, ↓o_iSs, ↓o_iSi, ↓o_iSb, ↓o_iSn, ↓o_iSt, ↓o_iSl, ↓o_iIs, ↓o_iIi, ↓o_iIb, ↓o_iIn, ↓o_iIt, ↓o_iIl, ↓o_iTs, ↓o_iTi, ↓o_iTb, ↓o_iTn, ↓o_iTt, ↓o_iTl, ↓o_iBs, ↓o_iBi, ↓o_iBb, ↓o_iBn, ↓o_iBt, ↓o_iBl, ↓o_rngL, ↓o_rngT, ↓o_rngL2, ↓o_rngT2, ↓o_isT, ↓o_notT, ↓o_max2, ↓o_min2, ↓o_neg, ↓o_abs, ↓o_int, ↓o_intB, ↓o_lenT, ↓o_lenL, ↓o_lenS, ↓o_tupT, ↓o_tupL, ↓o_lstT, ↓o_lstL, ↓o_rev, ↓o_isN, ↓o_noN, ↓o_slL, ↓o_slT, ↓n_non, ↓n_bl, ↓n_int, ↓n_str, ↓n_tup, ↓n_lst, ↓e_ss, ↓e_ii, ↓e_bb, ↓e_tt, ↓e_l0, ↓e_t0, ↓e_llc, ↓e_alr, ↓e_al1, ↓e_al3, ↓e_ny0, ↓e_nS, ↓e_ny1, slotA, t_bl, t_non, t_int, t_tup, t_lst, v_lst, v_tup, v_int, v_str, v_bl, v_non, y_int, y_str, isNil, bindP, bindPs, permP, wipeP, v2p, v2ps, Val.nr, Val.nrs, dicP, getP, nodupP, List.length_cons, List.length_nil, List.getElem?_cons_zero, List.getElem?_cons_succ, List.set_cons_zero, List.set_cons_succ, List.map_cons, List.map_nil, rep_none, rep_none0, List.append, List.cons_append, List.nil_append, true_and, and_true, if_true, if_false, Bool.false_eq_true, Option.bind, Bool.not_true, Bool.not_false, Bool.true_and, Bool.false_and, Bool.and_true, Bool.and_false, Bool.or_true, Bool.or_false, Bool.true_or, Bool.false_or, Option.map, Option.map_some, Option.map_none, List.getElem?_nil, Bool.or_self, Bool.and_self, Nat.zero_le, Nat.reduceAdd, Nat.reduceSub, Nat.reduceLT, Nat.reduceLeDiff, Nat.reduceEqDiff, Nat.reduceBEq, beq_self_eq_true, Nat.zero_add, Nat.add_zero, List.length_map, top, List.length_append, List.all_cons, List.all_nil, and_self, List.filterMap_cons, List.filterMap_nil, List.length_set, at_lit, at_last, w_seqT, w_seqL, w_enT, w_enL, w_zipT, w_zipL, seqP, Option.bind_some]
  refine comp_eq (g := fun p => match p with | .tup [.int a, .int b] => decide (b < a) | _ => false) (h := fun p => p) (by simp [top]) (fun p hp => ?_) ?_
  · simp only [List.mem_cons, List.not_mem_nil, or_false] at hp
    rcases hp with rfl | rfl | rfl | rfl | rfl | rfl <;> simp only [↓a_bind, ↓a_ret, ↓a_bad, ↓a_exc, ↓a_when, ↓a_some, ↓a_none, ↓a_noX, ↓a_kif, ↓a_ite, ↓a_kS, ↓a_kI, ↓a_kB, ↓a_kN, ↓a_k, ↓a_gS, ↓a_gI, ↓a_g, ↓a_x, ↓a_tup, ↓a_lst, ↓a_dic, ↓a_op1, ↓a_op2, ↓a_optT, ↓a_optF, ↓a_sl, ↓a_and, ↓a_or, ↓a_not, ↓a_iteE, ↓a_chain, ↓a_call, ↓a_nil, ↓a_cons, ↓a_comp, ↓a_op2T, ↓a_op2F, ↓a_optCT, ↓a_optCF, ↓h_skip, ↓h_never, ↓h_exC, ↓h_seq, ↓h_asg, ↓h_mv, ↓h_un, ↓h_sub, ↓h_app, ↓h_ext, ↓h_ret, ↓h_retN, ↓h_brk, ↓h_cont, ↓h_ite, ↓h_fo, ↓h_run, ↓on_some2, ↓on_none2, ↓o_eq, ↓o_ne, ↓o_lt, ↓o_le, ↓o_gt, ↓o_ge, ↓o_addI, ↓o_addS, ↓o_addT, ↓o_addL, ↓o_sub, ↓o_mulI, ↓o_mulT, ↓o_mulL, ↓o_mod, ↓o_fdiv, ↓o_pow, ↓o_inTs, ↓o_inTi, ↓o_inTt, ↓o_inLs, ↓o_inLi, ↓o_inLt, ↓o_ninTs, ↓o_ninTi, ↓o_ninTt, ↓o_ninLs, ↓o_ninLi, ↓o_ninLt, ↓o_ixT, ↓o_ixL, ↓o_ixD, ↓o_indexS, ↓o_indexI, ↓o_indexT, ↓o_countS, ↓o_countI, ↓o_iSs, ↓o_iSi, ↓o_iSb, ↓o_iSn, ↓o_iSt, ↓o_iSl, ↓o_iIs, ↓o_iIi, ↓o_iIb, ↓o_iIn, ↓o_iIt, ↓o_iIl, ↓o_iTs, ↓o_iTi, ↓o_iTb, ↓o_iTn, ↓o_iTt, ↓o_iTl, ↓o_iBs, ↓o_iBi, ↓o_iBb, ↓o_iBn, ↓o_iBt, ↓o_iBl, ↓o_rngL, ↓o_rngT, ↓o_rngL2, ↓o_rngT2, ↓o_isT, ↓o_notT, ↓o_max2, ↓o_min2, ↓o_neg, ↓o_abs, ↓o_int, ↓o_intB, ↓o_lenT, ↓o_lenL, ↓o_lenS, ↓o_tupT, ↓o_tupL, ↓o_lstT, ↓o_lstL, ↓o_rev, ↓o_isN, ↓o_noN, ↓o_slL, ↓o_slT, ↓n_non, ↓n_bl, ↓n_int, ↓n_str, ↓n_tup, ↓n_lst, ↓e_ss, ↓e_ii, ↓e_bb, ↓e_tt, ↓e_l0, ↓e_t0, ↓e_llc, ↓e_alr, ↓e_al1, ↓e_al3, ↓e_ny0, ↓e_nS, ↓e_ny1, slotA, t_bl, t_non, t_int, t_tup, t_lst, v_lst, v_tup, v_int, v_str, v_bl, v_non, y_int, y_str, isNil, bindP, bindPs, permP, wipeP, v2p, v2ps, Val.nr, Val.nrs, dicP, getP, nodupP, List.length_cons, List.length_nil, List.getElem?_cons_zero, List.getElem?_cons_succ, List.set_cons_zero, List.set_cons_succ, List.map_cons, List.map_nil, rep_none, rep_none0, List.append, List.cons_append, List.nil_append, true_and, and_true, if_true, if_false, Bool.false_eq_true, Option.bind, Bool.not_true, Bool.not_false, Bool.true_and, Bool.false_and, Bool.and_true, Bool.and_false, Bool.or_true, Bool.or_false, Bool.true_or, Bool.false_or, Option.map, Option.map_some, Option.map_none, List.getElem?_nil, Bool.or_self, Bool.and_self, Nat.zero_le, Nat.reduceAdd, Nat.reduceSub, Nat.reduceLT, Nat.reduceLeDiff, Nat.reduceEqDiff, Nat.reduceBEq, beq_self_eq_true, Nat.zero_add, Nat.add_zero, List.length_map, top, List.length_append, List.all_cons, List.all_nil, and_self, List.filterMap_cons, List.filterMap_nil, List.length_set, at_lit, at_last, w_seqT, w_seqL, w_enT, w_enL, w_zipT, w_zipL, seqP, Option.bind_some] <;> exact fun _ => trivial
  have fe : ∀ (l : List PV) (g : PV → Bool), ((l.filter g).map fun p => p).isEmpty = l.all fun p => !g p := fun l g => by
    induction l with
    | nil => rfl
    | cons x l ih =>
      rw [List.filter_cons, List.all_cons]
      cases hg : g x
      · simpa using ih
      · rfl
  simp only [fe, ↓a_bind, ↓a_ret, ↓a_bad, ↓a_exc, ↓a_when, ↓a_some, ↓a_none, ↓a_noX, ↓a_kif, ↓a_ite, ↓a_kS, ↓a_kI, ↓a_kB, ↓a_kN, ↓a_k, ↓a_gS, ↓a_gI, ↓a_g, ↓a_x, ↓a_tup, ↓a_lst, ↓a_dic, ↓a_op1, ↓a_op2, ↓a_optT, ↓a_optF, ↓a_sl, ↓a_and, ↓a_or, ↓a_not, ↓a_iteE, ↓a_chain, ↓a_call, ↓a_nil, ↓a_cons, ↓a_comp, ↓a_op2T, ↓a_op2F, ↓a_optCT, ↓a_optCF, ↓h_skip, ↓h_never, ↓h_exC, ↓h_seq, ↓h_asg, ↓h_mv, ↓h_un, ↓h_sub, ↓h_app, ↓h_ext, ↓h_ret, ↓h_retN, ↓h_brk, ↓h_cont, ↓h_ite, ↓h_fo, ↓h_run, ↓on_some2, ↓on_none2, ↓o_eq, ↓o_ne, ↓o_lt, ↓o_le, ↓o_gt, ↓o_ge, ↓o_addI, ↓o_addS, ↓o_addT, ↓o_addL, ↓o_sub, ↓o_mulI, ↓o_mulT, ↓o_mulL, ↓o_mod, ↓o_fdiv, ↓o_pow, ↓o_inTs, ↓o_inTi, ↓o_inTt, ↓o_inLs, ↓o_inLi, ↓o_inLt, ↓o_ninTs, ↓o_ninTi, ↓o_ninTt, ↓o_ninLs, ↓o_ninLi, ↓o_ninLt, ↓o_ixT, ↓o_ixL, ↓o_ixD, ↓o_indexS, ↓o_indexI, ↓o_indexT, ↓o_countS, ↓o_countI, ↓o_iSs, ↓o_iSi, ↓o_iSb, ↓o_iSn, ↓o_iSt, ↓o_iSl, ↓o_iIs, ↓o_iIi, ↓o_iIb, ↓o_iIn, ↓o_iIt, ↓o_iIl, ↓o_iTs, ↓o_iTi, ↓o_iTb, ↓o_iTn, ↓o_iTt, ↓o_iTl, ↓o_iBs, ↓o_iBi, ↓o_iBb, ↓o_iBn, ↓o_iBt, ↓o_iBl, ↓o_rngL, ↓o_rngT, ↓o_rngL2, ↓o_rngT2, ↓o_isT, ↓o_notT, ↓o_max2, ↓o_min2, ↓o_neg, ↓o_abs, ↓o_int, ↓o_intB, ↓o_lenT, ↓o_lenL, ↓o_lenS, ↓o_tupT, ↓o_tupL, ↓o_lstT, ↓o_lstL, ↓o_rev, ↓o_isN, ↓o_noN, ↓o_slL, ↓o_slT, ↓n_non, ↓n_bl, ↓n_int, ↓n_str, ↓n_tup, ↓n_lst, ↓e_ss, ↓e_ii, ↓e_bb, ↓e_tt, ↓e_l0, ↓e_t0, ↓e_llc, ↓e_alr, ↓e_al1, ↓e_al3, ↓e_ny0, ↓e_nS, ↓e_ny1, slotA, t_bl, t_non, t_int, t_tup, t_lst, v_lst, v_tup, v_int, v_str, v_bl, v_non, y_int, y_str, isNil, bindP, bindPs, permP, wipeP, v2p, v2ps, Val.nr, Val.nrs, dicP, getP, nodupP, List.length_cons, List.length_nil, List.getElem?_cons_zero, List.getElem?_cons_succ, List.set_cons_zero, List.set_cons_succ, List.map_cons, List.map_nil, rep_none, rep_none0, List.append, List.cons_append, List.nil_append, true_and, and_true, if_true, if_false, Bool.false_eq_true, Option.bind, Bool.not_true, Bool.not_false, Bool.true_and, Bool.false_and, Bool.and_true, Bool.and_false, Bool.or_true, Bool.or_false, Bool.true_or, Bool.false_or, Option.map, Option.map_some, Option.map_none, List.getElem?_nil, Bool.or_self, Bool.and_self, Nat.zero_le, Nat.reduceAdd, Nat.reduceSub, Nat.reduceLT, Nat.reduceLeDiff, Nat.reduceEqDiff, Nat.reduceBEq, beq_self_eq_true, Nat.zero_add, Nat.add_zero, List.length_map, top, List.length_append, List.all_cons, List.all_nil, and_self, List.filterMap_cons, List.filterMap_nil, List.length_set, at_lit, at_last, w_seqT, w_seqL, w_enT, w_enL, w_zipT, w_zipL, seqP, Option.bind_some]
  unfold within
  dsimp only
  rw [dle, dle, dle, dle, dle, dle]
  rw [Bool.and_eq_true] at hA hB
  simp only [hA.1, hA.2, hB.1, hB.2, Bool.true_and]
  simp only [Bool.and_assoc]
end Law
end
section
set_option Elab.async false
set_option maxRecDepth 100000
set_option maxHeartbeats 0
set_option linter.all false
set_option autoImplicit false
namespace Law
open Mi
theorem fits_eq (h : Hd) (m : Mn) : p_fits [h.e, m.e] = .ret (.bl (fit h m)) := by
  unfold p_fits d_fits m_fits fit
  simp only [lacks_eq, List.isEmpty_map, m2_same, m2_ret, m2_retL, m2_nx, m2_rt, m2_bad, m2_str, m2_int, m2_bl, m2_tup, m2_lst, m2_cons, m2_some, m2_tf, m2_ft, m2_kf, m2_tb, m2_kt, m2_fb, m2_len, m2_add, m2_add2, m2_le, m2_lt, m2_emp, m2_beqS, m2_beqI, m2_as, emp_app, emp_nil, emp_cons, ap2_ss, as2_ap, as2_nil, as2_cons, as2_map, g_kS, g_kI, g_kB, g_kN, g_gS, g_gI, g_k, g_g, g_x, z_var, g_tup, z_tup, g_lst, z_lst, g_op1, z_op1, g_op2, z_op2, g_sl, z_sl, z_optT, z_optF, z_opt, g_and, z_and, g_or, z_or, g_not, z_not, g_ite, z_ite, z_ite2, g_call, z_call, g_nil, g_cons, z_cons, j_skip, j_seq, z_aft1, z_aft2, z_aft3, j_asg, z_asg, z_bind, j_ret, z_ret, j_retN, j_ite, z_if, z_if2, j_run, z_out1, z_out2, z_out3, j_app, j_ext, z_app1, z_ext1, z_app, z_ext, z_B, z_N, z_V, u_eq, u_ne, u_lt, u_le, u_gt, u_ge, u_addI, u_sub, u_addT, u_addL, u_addS, u_inT, u_inL, u_ninT, u_ninL, u_ixT, u_ixL, u_int, u_intB, u_lenT, u_lenL, u_tupT, u_tupL, u_lstT, u_lstL, u_isN, u_noN, u_slL, u_slT, z_sort, u_sort, z_I, u_index, u_count, u_max2, u_min2, u_isT, u_notT, u_iSs, u_iSi, u_iSb, u_iSn, u_iSt, u_iSl, u_iIs, u_iIi, u_iIb, u_iIn, u_iIt, u_iIl, u_iTs, u_iTi, u_iTb, u_iTn, u_iTt, u_iTl, u_iBs, u_iBi, u_iBb, u_iBn, u_iBt, u_iBl, is_some2, w_true, w_false, kif_t, kif_f, n_non, n_bl, n_int, n_str, n_tup, n_lst, e_ss, e_ii, e_bb, e_tt, e_l0, e_t0, e_llc, e_alr, e_al1, e_al3, e_ny0, e_nS, e_ny1, decide_true, decide_false, t_bl, t_non, t_int, t_tup, t_lst, v_lst, v_tup, v_int, v_str, v_bl, v_non, y_int, y_str, isNil, bindP, bindPs, permP, wipeP, v2p, v2ps, Val.nr, Val.nrs, dicP, getP, nodupP, List.length_cons, List.length_nil, List.getElem?_cons_zero, List.getElem?_cons_succ, List.set_cons_zero, List.set_cons_succ, List.map_cons, List.map_nil, rep_none, rep_none0, List.append, List.cons_append, List.nil_append, true_and, and_true, if_true, if_false, Bool.false_eq_true, Option.bind, Bool.not_true, Bool.not_false, Bool.true_and, Bool.false_and, Bool.and_true, Bool.and_false, Bool.or_true, Bool.or_false, Bool.true_or, Bool.false_or, Option.map, Option.map_some, Option.map_none, List.getElem?_nil, Bool.or_self, Bool.and_self, Nat.zero_le, Nat.reduceAdd, Nat.reduceSub, Nat.reduceLT, Nat.reduceLeDiff, Nat.reduceEqDiff, Nat.reduceBEq, beq_self_eq_true, Nat.zero_add, Nat.add_zero, List.length_map, top, List.length_append, List.all_cons, List.all_nil, and_self, List.filterMap_cons, List.filterMap_nil, List.length_set, at_lit, at_last, w_seqT, w_seqL, w_enT, w_enL, w_zipT, w_zipL, seqP, Option.bind_some]
def yesFit (r : PV) : Bool := match r with
  | .tup [h, m] => isHead h && isManner m && (match h, m with
    | .tup [.str hb, .str hc, _], .tup [.str p, .str c, .str a, .tup th, .str pr, .bl sn] => ((hc == [102, 111, 114, 99, 101, 100]) && (p == [102, 111, 114, 99, 101, 100] || sn) && (!(pr == [99, 111, 109, 109, 105, 116]) || (hb == [102, 111, 114, 99, 101, 100] && hasS th [97, 98, 111, 114, 116] && (a == [102, 111, 114, 99, 101, 100] || p == [110, 111, 110, 101]))) && (!(!(pr == [99, 111, 109, 109, 105, 116]) || (sn && !(p == [102, 111, 114, 99, 101, 100]))) || (c == [102, 111, 114, 99, 101, 100] && hasS th [99, 111, 109, 109, 105, 116])))
    | _, _ => false)
  | _ => false
theorem yesFit_e {r : PV} (e : yesFit r = true) : ∃ x : Wy, r = x.e ∧ fit x.1 x.2 = true := by
  unfold yesFit at e
  split at e
  · rename_i h m
    rw [Bool.and_eq_true, Bool.and_eq_true] at e
    obtain ⟨h, rfl⟩ := isHead_e e.1.1
    obtain ⟨m, rfl⟩ := isManner_e e.1.2
    refine ⟨(h, m), rfl, ?_⟩
    have e2 := e.2
    simp only [Hd.e, Mn.e, hasS_a, hasS_c, st_f, st_n, en_c, en_a] at e2
    rw [fit_bool]
    exact e2
  · cases e
theorem fit_way_B : AllB yesFit (k_law_fit_way_q [.deck]) = true := by kernel_rfl
theorem fit_way_ok : All (p_law_fit_way_q [.deck]) fun r => ∃ x : Wy, r = x.e ∧ fit x.1 x.2 = true := by
  rw [kp_law_fit_way_q]
  exact All.imp (AllB.sound fit_way_B) fun r => yesFit_e
theorem lv_f (s : St) : decide (lv .f ≤ lv s) = s.isF := by cases s <;> rfl
theorem lv_n (s : St) : decide (lv .n ≤ lv s) = true := by cases s <;> rfl
theorem some_within {y : Wy} (h : fit y.1 y.2 = true) : ∃ x ∈ ways, within x y = true := by
  have hpn : (!y.2.p.isF || !y.2.p.isN) = true := by cases y.2.p <;> rfl
  have key : (within (hPC, mPC) y || within (hPC, mCW) y || within (hPA, mPA) y || within (hPA, mAW) y) = true := by
    rw [fit_bool] at h
    unfold within hPC mPC mCW hPA mPA mAW
    simp only [lv_f, lv_n, show En.isC .c = true from rfl, show En.isC .a = false from rfl]
    generalize y.1.c.isF = hc at *
    generalize y.2.p.isF = pf at *
    generalize y.2.p.isN = pn at *
    generalize y.1.b.isF = hb at *
    generalize y.2.a.isF = af at *
    generalize y.2.c.isF = cf at *
    generalize y.2.ta = ta at *
    generalize y.2.tc = tc at *
    generalize y.2.pr.isC = pC at *
    generalize y.2.sn = sn at *
    revert hc pf pn hb af cf ta tc pC sn
    decide +kernel
  simp only [Bool.or_eq_true] at key
  rcases key with ((k | k) | k) | k
  · exact ⟨_, by simp [ways], k⟩
  · exact ⟨_, by simp [ways], k⟩
  · exact ⟨_, by simp [ways], k⟩
  · exact ⟨_, by simp [ways], k⟩
theorem within_all (y : Wy) (h : fit y.1 y.2 = true) : ((ways.filter fun x => within x y).map Wy.e).isEmpty = false := by
  obtain ⟨x, hx, hw⟩ := some_within h
  have : x ∈ ways.filter fun x => within x y := List.mem_filter.mpr ⟨hx, hw⟩
  cases he : ways.filter fun x => within x y with
  | nil => rw [he] at this; cases this
  | cons _ _ => rfl
def yA : Wy := (⟨.f, .f, .f⟩, ⟨.f, .f, .f, true, true, .a, false⟩)
def yC : Wy := (⟨.f, .f, .f⟩, ⟨.f, .f, .f, true, true, .c, false⟩)
theorem forced_a : p_all_forced [.str [97, 98, 111, 114, 116]] = .ret yA.e := by kernel_rfl
theorem forced_c : p_all_forced [.str [99, 111, 109, 109, 105, 116]] = .ret yC.e := by kernel_rfl
theorem one_a : (ways.filter fun x => within x yA).length = 1 := by decide +kernel
theorem one_c : (ways.filter fun x => within x yC).length = 1 := by decide +kernel
theorem Wy.sh {x : Wy} : Sh x.e 4 2000 := (Sh.tup (n := 3) (.cons (Hd.sh.mono (by decide) (Nat.le_refl _)) (.cons Mn.sh .nil))).mono (by decide) (by decide)
theorem ways_sh : Sh (.tup (ways.map Wy.e)) 60 100000 := by
  have := Shs.of (n := 4) (a := 2000) (vs := ways.map Wy.e) fun v hv => by
    obtain ⟨m, _, rfl⟩ := List.mem_map.mp hv
    exact Wy.sh
  exact (Sh.tup this).mono (by decide) (by decide)
theorem ways_fit : ∀ x ∈ ways, fit x.1 x.2 = true := by
  intro x hx
  simp only [ways, List.mem_cons, List.not_mem_nil, or_false] at hx
  rcases hx with rfl | rfl | rfl | rfl <;> decide +kernel
theorem lk_fit {h : Hd} {m : Mn} (e : fit h m = true) : lk h m = [] := by
  unfold fit at e
  exact List.isEmpty_iff.mp e
theorem law_all : All (pex psl_law FUEL r_law ((List.replicate 10 none).set 1 (some .deck))) fun o => o = .rt (.bl true) := by
  unfold r_law psl_law
  refine seq_all (fun ρ => ρ = [none, some .deck, some (.tup (ways.map Wy.e)), none, none, none, none, none, none, none]) ?_ ?_
  · simp only [least_eq, ↓a_bind, ↓a_ret, ↓a_bad, ↓a_exc, ↓a_when, ↓a_some, ↓a_none, ↓a_noX, ↓a_kif, ↓a_ite, ↓a_kS, ↓a_kI, ↓a_kB, ↓a_kN, ↓a_k, ↓a_gS, ↓a_gI, ↓a_g, ↓a_x, ↓a_tup, ↓a_lst, ↓a_dic, ↓a_op1, ↓a_op2, ↓a_optT, ↓a_optF, ↓a_sl, ↓a_and, ↓a_or, ↓a_not, ↓a_iteE, ↓a_chain, ↓a_call, ↓a_nil, ↓a_cons, ↓a_comp, ↓a_op2T, ↓a_op2F, ↓a_optCT, ↓a_optCF, ↓h_skip, ↓h_never, ↓h_exC, ↓h_seq, ↓h_asg, ↓h_mv, ↓h_un, ↓h_sub, ↓h_app, ↓h_ext, ↓h_ret, ↓h_retN, ↓h_brk, ↓h_cont, ↓h_ite, ↓h_fo, ↓h_run, ↓on_some2, ↓on_none2, ↓o_eq, ↓o_ne, ↓o_lt, ↓o_le, ↓o_gt, ↓o_ge, ↓o_addI, ↓o_addS, ↓o_addT, ↓o_addL, ↓o_sub, ↓o_mulI, ↓o_mulT, ↓o_mulL, ↓o_mod, ↓o_fdiv, ↓o_pow, ↓o_inTs, ↓o_inTi, ↓o_inTt, ↓o_inLs, ↓o_inLi, ↓o_inLt, ↓o_ninTs, ↓o_ninTi, ↓o_ninTt, ↓o_ninLs, ↓o_ninLi, ↓o_ninLt, ↓o_ixT, ↓o_ixL, ↓o_ixD, ↓o_indexS, ↓o_indexI, ↓o_indexT, ↓o_countS, ↓o_countI, ↓o_iSs, ↓o_iSi, ↓o_iSb, ↓o_iSn, ↓o_iSt, ↓o_iSl, ↓o_iIs, ↓o_iIi, ↓o_iIb, ↓o_iIn, ↓o_iIt, ↓o_iIl, ↓o_iTs, ↓o_iTi, ↓o_iTb, ↓o_iTn, ↓o_iTt, ↓o_iTl, ↓o_iBs, ↓o_iBi, ↓o_iBb, ↓o_iBn, ↓o_iBt, ↓o_iBl, ↓o_rngL, ↓o_rngT, ↓o_rngL2, ↓o_rngT2, ↓o_isT, ↓o_notT, ↓o_max2, ↓o_min2, ↓o_neg, ↓o_abs, ↓o_int, ↓o_intB, ↓o_lenT, ↓o_lenL, ↓o_lenS, ↓o_tupT, ↓o_tupL, ↓o_lstT, ↓o_lstL, ↓o_rev, ↓o_isN, ↓o_noN, ↓o_slL, ↓o_slT, ↓n_non, ↓n_bl, ↓n_int, ↓n_str, ↓n_tup, ↓n_lst, ↓e_ss, ↓e_ii, ↓e_bb, ↓e_tt, ↓e_l0, ↓e_t0, ↓e_llc, ↓e_alr, ↓e_al1, ↓e_al3, ↓e_ny0, ↓e_nS, ↓e_ny1, slotA, t_bl, t_non, t_int, t_tup, t_lst, v_lst, v_tup, v_int, v_str, v_bl, v_non, y_int, y_str, isNil, bindP, bindPs, permP, wipeP, v2p, v2ps, Val.nr, Val.nrs, dicP, getP, nodupP, List.length_cons, List.length_nil, List.getElem?_cons_zero, List.getElem?_cons_succ, List.set_cons_zero, List.set_cons_succ, List.map_cons, List.map_nil, rep_none, rep_none0, List.append, List.cons_append, List.nil_append, true_and, and_true, if_true, if_false, Bool.false_eq_true, Option.bind, Bool.not_true, Bool.not_false, Bool.true_and, Bool.false_and, Bool.and_true, Bool.and_false, Bool.or_true, Bool.or_false, Bool.true_or, Bool.false_or, Option.map, Option.map_some, Option.map_none, List.getElem?_nil, Bool.or_self, Bool.and_self, Nat.zero_le, Nat.reduceAdd, Nat.reduceSub, Nat.reduceLT, Nat.reduceLeDiff, Nat.reduceEqDiff, Nat.reduceBEq, beq_self_eq_true, Nat.zero_add, Nat.add_zero, List.length_map, top, List.length_append, List.all_cons, List.all_nil, and_self, List.filterMap_cons, List.filterMap_nil, List.length_set, at_lit, at_last, w_seqT, w_seqL, w_enT, w_enL, w_zipT, w_zipL, seqP, Option.bind_some]
  rintro ρ rfl
  refine seq_all (fun ρ => ρ = [none, some .deck, some (.tup (ways.map Wy.e)), some (.lst (ways.map Wy.e)), none, none, none, none, none, none]) ?_ ?_
  · simp only [way_pa, way_aw, way_pc, way_cw, sort_ways, ↓a_bind, ↓a_ret, ↓a_bad, ↓a_exc, ↓a_when, ↓a_some, ↓a_none, ↓a_noX, ↓a_kif, ↓a_ite, ↓a_kS, ↓a_kI, ↓a_kB, ↓a_kN, ↓a_k, ↓a_gS, ↓a_gI, ↓a_g, ↓a_x, ↓a_tup, ↓a_lst, ↓a_dic, ↓a_op1, ↓a_op2, ↓a_optT, ↓a_optF, ↓a_sl, ↓a_and, ↓a_or, ↓a_not, ↓a_iteE, ↓a_chain, ↓a_call, ↓a_nil, ↓a_cons, ↓a_comp, ↓a_op2T, ↓a_op2F, ↓a_optCT, ↓a_optCF, ↓h_skip, ↓h_never, ↓h_exC, ↓h_seq, ↓h_asg, ↓h_mv, ↓h_un, ↓h_sub, ↓h_app, ↓h_ext, ↓h_ret, ↓h_retN, ↓h_brk, ↓h_cont, ↓h_ite, ↓h_fo, ↓h_run, ↓on_some2, ↓on_none2, ↓o_eq, ↓o_ne, ↓o_lt, ↓o_le, ↓o_gt, ↓o_ge, ↓o_addI, ↓o_addS, ↓o_addT, ↓o_addL, ↓o_sub, ↓o_mulI, ↓o_mulT, ↓o_mulL, ↓o_mod, ↓o_fdiv, ↓o_pow, ↓o_inTs, ↓o_inTi, ↓o_inTt, ↓o_inLs, ↓o_inLi, ↓o_inLt, ↓o_ninTs, ↓o_ninTi, ↓o_ninTt, ↓o_ninLs, ↓o_ninLi, ↓o_ninLt, ↓o_ixT, ↓o_ixL, ↓o_ixD, ↓o_indexS, ↓o_indexI, ↓o_indexT, ↓o_countS, ↓o_countI, ↓o_iSs, ↓o_iSi, ↓o_iSb, ↓o_iSn, ↓o_iSt, ↓o_iSl, ↓o_iIs, ↓o_iIi, ↓o_iIb, ↓o_iIn, ↓o_iIt, ↓o_iIl, ↓o_iTs, ↓o_iTi, ↓o_iTb, ↓o_iTn, ↓o_iTt, ↓o_iTl, ↓o_iBs, ↓o_iBi, ↓o_iBb, ↓o_iBn, ↓o_iBt, ↓o_iBl, ↓o_rngL, ↓o_rngT, ↓o_rngL2, ↓o_rngT2, ↓o_isT, ↓o_notT, ↓o_max2, ↓o_min2, ↓o_neg, ↓o_abs, ↓o_int, ↓o_intB, ↓o_lenT, ↓o_lenL, ↓o_lenS, ↓o_tupT, ↓o_tupL, ↓o_lstT, ↓o_lstL, ↓o_rev, ↓o_isN, ↓o_noN, ↓o_slL, ↓o_slT, ↓n_non, ↓n_bl, ↓n_int, ↓n_str, ↓n_tup, ↓n_lst, ↓e_ss, ↓e_ii, ↓e_bb, ↓e_tt, ↓e_l0, ↓e_t0, ↓e_llc, ↓e_alr, ↓e_al1, ↓e_al3, ↓e_ny0, ↓e_nS, ↓e_ny1, slotA, t_bl, t_non, t_int, t_tup, t_lst, v_lst, v_tup, v_int, v_str, v_bl, v_non, y_int, y_str, isNil, bindP, bindPs, permP, wipeP, v2p, v2ps, Val.nr, Val.nrs, dicP, getP, nodupP, List.length_cons, List.length_nil, List.getElem?_cons_zero, List.getElem?_cons_succ, List.set_cons_zero, List.set_cons_succ, List.map_cons, List.map_nil, rep_none, rep_none0, List.append, List.cons_append, List.nil_append, true_and, and_true, if_true, if_false, Bool.false_eq_true, Option.bind, Bool.not_true, Bool.not_false, Bool.true_and, Bool.false_and, Bool.and_true, Bool.and_false, Bool.or_true, Bool.or_false, Bool.true_or, Bool.false_or, Option.map, Option.map_some, Option.map_none, List.getElem?_nil, Bool.or_self, Bool.and_self, Nat.zero_le, Nat.reduceAdd, Nat.reduceSub, Nat.reduceLT, Nat.reduceLeDiff, Nat.reduceEqDiff, Nat.reduceBEq, beq_self_eq_true, Nat.zero_add, Nat.add_zero, List.length_map, top, List.length_append, List.all_cons, List.all_nil, and_self, List.filterMap_cons, List.filterMap_nil, List.length_set, at_lit, at_last, w_seqT, w_seqL, w_enT, w_enL, w_zipT, w_zipL, seqP, Option.bind_some]
  rintro ρ rfl
  refine seq_all (fun ρ => ρ = [none, some .deck, some (.tup (ways.map Wy.e)), some (.lst (ways.map Wy.e)), none, none, none, none, none, none]) ?_ ?_
  · have h4 : ways.length = 4 := rfl
    simp only [least_eq, h4, o_repr' ways_sh (by decide), ↓a_bind, ↓a_ret, ↓a_bad, ↓a_exc, ↓a_when, ↓a_some, ↓a_none, ↓a_noX, ↓a_kif, ↓a_ite, ↓a_kS, ↓a_kI, ↓a_kB, ↓a_kN, ↓a_k, ↓a_gS, ↓a_gI, ↓a_g, ↓a_x, ↓a_tup, ↓a_lst, ↓a_dic, ↓a_op1, ↓a_op2, ↓a_optT, ↓a_optF, ↓a_sl, ↓a_and, ↓a_or, ↓a_not, ↓a_iteE, ↓a_chain, ↓a_call, ↓a_nil, ↓a_cons, ↓a_comp, ↓a_op2T, ↓a_op2F, ↓a_optCT, ↓a_optCF, ↓h_skip, ↓h_never, ↓h_exC, ↓h_seq, ↓h_asg, ↓h_mv, ↓h_un, ↓h_sub, ↓h_app, ↓h_ext, ↓h_ret, ↓h_retN, ↓h_brk, ↓h_cont, ↓h_ite, ↓h_fo, ↓h_run, ↓on_some2, ↓on_none2, ↓o_eq, ↓o_ne, ↓o_lt, ↓o_le, ↓o_gt, ↓o_ge, ↓o_addI, ↓o_addS, ↓o_addT, ↓o_addL, ↓o_sub, ↓o_mulI, ↓o_mulT, ↓o_mulL, ↓o_mod, ↓o_fdiv, ↓o_pow, ↓o_inTs, ↓o_inTi, ↓o_inTt, ↓o_inLs, ↓o_inLi, ↓o_inLt, ↓o_ninTs, ↓o_ninTi, ↓o_ninTt, ↓o_ninLs, ↓o_ninLi, ↓o_ninLt, ↓o_ixT, ↓o_ixL, ↓o_ixD, ↓o_indexS, ↓o_indexI, ↓o_indexT, ↓o_countS, ↓o_countI, ↓o_iSs, ↓o_iSi, ↓o_iSb, ↓o_iSn, ↓o_iSt, ↓o_iSl, ↓o_iIs, ↓o_iIi, ↓o_iIb, ↓o_iIn, ↓o_iIt, ↓o_iIl, ↓o_iTs, ↓o_iTi, ↓o_iTb, ↓o_iTn, ↓o_iTt, ↓o_iTl, ↓o_iBs, ↓o_iBi, ↓o_iBb, ↓o_iBn, ↓o_iBt, ↓o_iBl, ↓o_rngL, ↓o_rngT, ↓o_rngL2, ↓o_rngT2, ↓o_isT, ↓o_notT, ↓o_max2, ↓o_min2, ↓o_neg, ↓o_abs, ↓o_int, ↓o_intB, ↓o_lenT, ↓o_lenL, ↓o_lenS, ↓o_tupT, ↓o_tupL, ↓o_lstT, ↓o_lstL, ↓o_rev, ↓o_isN, ↓o_noN, ↓o_slL, ↓o_slT, ↓n_non, ↓n_bl, ↓n_int, ↓n_str, ↓n_tup, ↓n_lst, ↓e_ss, ↓e_ii, ↓e_bb, ↓e_tt, ↓e_l0, ↓e_t0, ↓e_llc, ↓e_alr, ↓e_al1, ↓e_al3, ↓e_ny0, ↓e_nS, ↓e_ny1, slotA, t_bl, t_non, t_int, t_tup, t_lst, v_lst, v_tup, v_int, v_str, v_bl, v_non, y_int, y_str, isNil, bindP, bindPs, permP, wipeP, v2p, v2ps, Val.nr, Val.nrs, dicP, getP, nodupP, List.length_cons, List.length_nil, List.getElem?_cons_zero, List.getElem?_cons_succ, List.set_cons_zero, List.set_cons_succ, List.map_cons, List.map_nil, rep_none, rep_none0, List.append, List.cons_append, List.nil_append, true_and, and_true, if_true, if_false, Bool.false_eq_true, Option.bind, Bool.not_true, Bool.not_false, Bool.true_and, Bool.false_and, Bool.and_true, Bool.and_false, Bool.or_true, Bool.or_false, Bool.true_or, Bool.false_or, Option.map, Option.map_some, Option.map_none, List.getElem?_nil, Bool.or_self, Bool.and_self, Nat.zero_le, Nat.reduceAdd, Nat.reduceSub, Nat.reduceLT, Nat.reduceLeDiff, Nat.reduceEqDiff, Nat.reduceBEq, beq_self_eq_true, Nat.zero_add, Nat.add_zero, List.length_map, top, List.length_append, List.all_cons, List.all_nil, and_self, List.filterMap_cons, List.filterMap_nil, List.length_set, at_lit, at_last, w_seqT, w_seqL, w_enT, w_enL, w_zipT, w_zipL, seqP, Option.bind_some]
    trivial
  rintro ρ rfl
  refine seq_all (fun ρ => ∃ o4 o5, ρ = [none, some .deck, some (.tup (ways.map Wy.e)), some (.lst (ways.map Wy.e)), o4, o5, none, none, none, none]) ?_ ?_
  · simp only [↓a_bind, ↓a_ret, ↓a_bad, ↓a_exc, ↓a_when, ↓a_some, ↓a_none, ↓a_noX, ↓a_kif, ↓a_ite, ↓a_kS, ↓a_kI, ↓a_kB, ↓a_kN, ↓a_k, ↓a_gS, ↓a_gI, ↓a_g, ↓a_x, ↓a_tup, ↓a_lst, ↓a_dic, ↓a_op1, ↓a_op2, ↓a_optT, ↓a_optF, ↓a_sl, ↓a_and, ↓a_or, ↓a_not, ↓a_iteE, ↓a_chain, ↓a_call, ↓a_nil, ↓a_cons, ↓a_comp, ↓a_op2T, ↓a_op2F, ↓a_optCT, ↓a_optCF, ↓h_skip, ↓h_never, ↓h_exC, ↓h_seq, ↓h_asg, ↓h_mv, ↓h_un, ↓h_sub, ↓h_app, ↓h_ext, ↓h_ret, ↓h_retN, ↓h_brk, ↓h_cont, ↓h_ite, ↓h_fo, ↓h_run, ↓on_some2, ↓on_none2, ↓o_eq, ↓o_ne, ↓o_lt, ↓o_le, ↓o_gt, ↓o_ge, ↓o_addI, ↓o_addS, ↓o_addT, ↓o_addL, ↓o_sub, ↓o_mulI, ↓o_mulT, ↓o_mulL, ↓o_mod, ↓o_fdiv, ↓o_pow, ↓o_inTs, ↓o_inTi, ↓o_inTt, ↓o_inLs, ↓o_inLi, ↓o_inLt, ↓o_ninTs, ↓o_ninTi, ↓o_ninTt, ↓o_ninLs, ↓o_ninLi, ↓o_ninLt, ↓o_ixT, ↓o_ixL, ↓o_ixD, ↓o_indexS, ↓o_indexI, ↓o_indexT, ↓o_countS, ↓o_countI, ↓o_iSs, ↓o_iSi, ↓o_iSb, ↓o_iSn, ↓o_iSt, ↓o_iSl, ↓o_iIs, ↓o_iIi, ↓o_iIb, ↓o_iIn, ↓o_iIt, ↓o_iIl, ↓o_iTs, ↓o_iTi, ↓o_iTb, ↓o_iTn, ↓o_iTt, ↓o_iTl, ↓o_iBs, ↓o_iBi, ↓o_iBb, ↓o_iBn, ↓o_iBt, ↓o_iBl, ↓o_rngL, ↓o_rngT, ↓o_rngL2, ↓o_rngT2, ↓o_isT, ↓o_notT, ↓o_max2, ↓o_min2, ↓o_neg, ↓o_abs, ↓o_int, ↓o_intB, ↓o_lenT, ↓o_lenL, ↓o_lenS, ↓o_tupT, ↓o_tupL, ↓o_lstT, ↓o_lstL, ↓o_rev, ↓o_isN, ↓o_noN, ↓o_slL, ↓o_slT, ↓n_non, ↓n_bl, ↓n_int, ↓n_str, ↓n_tup, ↓n_lst, ↓e_ss, ↓e_ii, ↓e_bb, ↓e_tt, ↓e_l0, ↓e_t0, ↓e_llc, ↓e_alr, ↓e_al1, ↓e_al3, ↓e_ny0, ↓e_nS, ↓e_ny1, slotA, t_bl, t_non, t_int, t_tup, t_lst, v_lst, v_tup, v_int, v_str, v_bl, v_non, y_int, y_str, isNil, bindP, bindPs, permP, wipeP, v2p, v2ps, Val.nr, Val.nrs, dicP, getP, nodupP, List.length_cons, List.length_nil, List.getElem?_cons_zero, List.getElem?_cons_succ, List.set_cons_zero, List.set_cons_succ, List.map_cons, List.map_nil, rep_none, rep_none0, List.append, List.cons_append, List.nil_append, true_and, and_true, if_true, if_false, Bool.false_eq_true, Option.bind, Bool.not_true, Bool.not_false, Bool.true_and, Bool.false_and, Bool.and_true, Bool.and_false, Bool.or_true, Bool.or_false, Bool.true_or, Bool.false_or, Option.map, Option.map_some, Option.map_none, List.getElem?_nil, Bool.or_self, Bool.and_self, Nat.zero_le, Nat.reduceAdd, Nat.reduceSub, Nat.reduceLT, Nat.reduceLeDiff, Nat.reduceEqDiff, Nat.reduceBEq, beq_self_eq_true, Nat.zero_add, Nat.add_zero, List.length_map, top, List.length_append, List.all_cons, List.all_nil, and_self, List.filterMap_cons, List.filterMap_nil, List.length_set, at_lit, at_last, w_seqT, w_seqL, w_enT, w_enL, w_zipT, w_zipL, seqP, Option.bind_some]
    refine for_map (fun ds rs ρ => (∀ x ∈ rs, x ∈ ways) ∧ ∃ o4 o5, ρ = [none, some .deck, some (.tup (ways.map Wy.e)), some (.lst (ways.map Wy.e)), o4, o5, none, none, none, none]) ?_ ?_ ⟨fun x hx => hx, none, none, rfl⟩
    · rintro ds x rs ρ ⟨hm, o4, o5, rfl⟩
      have hf := ways_fit x (hm x List.mem_cons_self)
      simp only [Wy.e, law_lacks_eq, lk_fit hf, fits_eq, hf, ↓a_bind, ↓a_ret, ↓a_bad, ↓a_exc, ↓a_when, ↓a_some, ↓a_none, ↓a_noX, ↓a_kif, ↓a_ite, ↓a_kS, ↓a_kI, ↓a_kB, ↓a_kN, ↓a_k, ↓a_gS, ↓a_gI, ↓a_g, ↓a_x, ↓a_tup, ↓a_lst, ↓a_dic, ↓a_op1, ↓a_op2, ↓a_optT, ↓a_optF, ↓a_sl, ↓a_and, ↓a_or, ↓a_not, ↓a_iteE, ↓a_chain, ↓a_call, ↓a_nil, ↓a_cons, ↓a_comp, ↓a_op2T, ↓a_op2F, ↓a_optCT, ↓a_optCF, ↓h_skip, ↓h_never, ↓h_exC, ↓h_seq, ↓h_asg, ↓h_mv, ↓h_un, ↓h_sub, ↓h_app, ↓h_ext, ↓h_ret, ↓h_retN, ↓h_brk, ↓h_cont, ↓h_ite, ↓h_fo, ↓h_run, ↓on_some2, ↓on_none2, ↓o_eq, ↓o_ne, ↓o_lt, ↓o_le, ↓o_gt, ↓o_ge, ↓o_addI, ↓o_addS, ↓o_addT, ↓o_addL, ↓o_sub, ↓o_mulI, ↓o_mulT, ↓o_mulL, ↓o_mod, ↓o_fdiv, ↓o_pow, ↓o_inTs, ↓o_inTi, ↓o_inTt, ↓o_inLs, ↓o_inLi, ↓o_inLt, ↓o_ninTs, ↓o_ninTi, ↓o_ninTt, ↓o_ninLs, ↓o_ninLi, ↓o_ninLt, ↓o_ixT, ↓o_ixL, ↓o_ixD, ↓o_indexS, ↓o_indexI, ↓o_indexT, ↓o_countS, ↓o_countI, ↓o_iSs, ↓o_iSi, ↓o_iSb, ↓o_iSn, ↓o_iSt, ↓o_iSl, ↓o_iIs, ↓o_iIi, ↓o_iIb, ↓o_iIn, ↓o_iIt, ↓o_iIl, ↓o_iTs, ↓o_iTi, ↓o_iTb, ↓o_iTn, ↓o_iTt, ↓o_iTl, ↓o_iBs, ↓o_iBi, ↓o_iBb, ↓o_iBn, ↓o_iBt, ↓o_iBl, ↓o_rngL, ↓o_rngT, ↓o_rngL2, ↓o_rngT2, ↓o_isT, ↓o_notT, ↓o_max2, ↓o_min2, ↓o_neg, ↓o_abs, ↓o_int, ↓o_intB, ↓o_lenT, ↓o_lenL, ↓o_lenS, ↓o_tupT, ↓o_tupL, ↓o_lstT, ↓o_lstL, ↓o_rev, ↓o_isN, ↓o_noN, ↓o_slL, ↓o_slT, ↓n_non, ↓n_bl, ↓n_int, ↓n_str, ↓n_tup, ↓n_lst, ↓e_ss, ↓e_ii, ↓e_bb, ↓e_tt, ↓e_l0, ↓e_t0, ↓e_llc, ↓e_alr, ↓e_al1, ↓e_al3, ↓e_ny0, ↓e_nS, ↓e_ny1, slotA, t_bl, t_non, t_int, t_tup, t_lst, v_lst, v_tup, v_int, v_str, v_bl, v_non, y_int, y_str, isNil, bindP, bindPs, permP, wipeP, v2p, v2ps, Val.nr, Val.nrs, dicP, getP, nodupP, List.length_cons, List.length_nil, List.getElem?_cons_zero, List.getElem?_cons_succ, List.set_cons_zero, List.set_cons_succ, List.map_cons, List.map_nil, rep_none, rep_none0, List.append, List.cons_append, List.nil_append, true_and, and_true, if_true, if_false, Bool.false_eq_true, Option.bind, Bool.not_true, Bool.not_false, Bool.true_and, Bool.false_and, Bool.and_true, Bool.and_false, Bool.or_true, Bool.or_false, Bool.true_or, Bool.false_or, Option.map, Option.map_some, Option.map_none, List.getElem?_nil, Bool.or_self, Bool.and_self, Nat.zero_le, Nat.reduceAdd, Nat.reduceSub, Nat.reduceLT, Nat.reduceLeDiff, Nat.reduceEqDiff, Nat.reduceBEq, beq_self_eq_true, Nat.zero_add, Nat.add_zero, List.length_map, top, List.length_append, List.all_cons, List.all_nil, and_self, List.filterMap_cons, List.filterMap_nil, List.length_set, at_lit, at_last, w_seqT, w_seqL, w_enT, w_enL, w_zipT, w_zipL, seqP, Option.bind_some]
      exact ⟨fun y hy => hm y (List.mem_cons_of_mem _ hy), _, _, rfl⟩
    · rintro ρ ⟨_, o4, o5, rfl⟩
      exact ⟨_, _, rfl⟩
  rintro ρ ⟨o4, o5, rfl⟩
  refine seq_all (fun ρ => ∃ o4 o5, ρ = [none, some .deck, some (.tup (ways.map Wy.e)), some (.lst (ways.map Wy.e)), o4, o5, none, none, none, none]) ?_ ?_
  · simp only [↓a_bind, ↓a_ret, ↓a_bad, ↓a_exc, ↓a_when, ↓a_some, ↓a_none, ↓a_noX, ↓a_kif, ↓a_ite, ↓a_kS, ↓a_kI, ↓a_kB, ↓a_kN, ↓a_k, ↓a_gS, ↓a_gI, ↓a_g, ↓a_x, ↓a_tup, ↓a_lst, ↓a_dic, ↓a_op1, ↓a_op2, ↓a_optT, ↓a_optF, ↓a_sl, ↓a_and, ↓a_or, ↓a_not, ↓a_iteE, ↓a_chain, ↓a_call, ↓a_nil, ↓a_cons, ↓a_comp, ↓a_op2T, ↓a_op2F, ↓a_optCT, ↓a_optCF, ↓h_skip, ↓h_never, ↓h_exC, ↓h_seq, ↓h_asg, ↓h_mv, ↓h_un, ↓h_sub, ↓h_app, ↓h_ext, ↓h_ret, ↓h_retN, ↓h_brk, ↓h_cont, ↓h_ite, ↓h_fo, ↓h_run, ↓on_some2, ↓on_none2, ↓o_eq, ↓o_ne, ↓o_lt, ↓o_le, ↓o_gt, ↓o_ge, ↓o_addI, ↓o_addS, ↓o_addT, ↓o_addL, ↓o_sub, ↓o_mulI, ↓o_mulT, ↓o_mulL, ↓o_mod, ↓o_fdiv, ↓o_pow, ↓o_inTs, ↓o_inTi, ↓o_inTt, ↓o_inLs, ↓o_inLi, ↓o_inLt, ↓o_ninTs, ↓o_ninTi, ↓o_ninTt, ↓o_ninLs, ↓o_ninLi, ↓o_ninLt, ↓o_ixT, ↓o_ixL, ↓o_ixD, ↓o_indexS, ↓o_indexI, ↓o_indexT, ↓o_countS, ↓o_countI, ↓o_iSs, ↓o_iSi, ↓o_iSb, ↓o_iSn, ↓o_iSt, ↓o_iSl, ↓o_iIs, ↓o_iIi, ↓o_iIb, ↓o_iIn, ↓o_iIt, ↓o_iIl, ↓o_iTs, ↓o_iTi, ↓o_iTb, ↓o_iTn, ↓o_iTt, ↓o_iTl, ↓o_iBs, ↓o_iBi, ↓o_iBb, ↓o_iBn, ↓o_iBt, ↓o_iBl, ↓o_rngL, ↓o_rngT, ↓o_rngL2, ↓o_rngT2, ↓o_isT, ↓o_notT, ↓o_max2, ↓o_min2, ↓o_neg, ↓o_abs, ↓o_int, ↓o_intB, ↓o_lenT, ↓o_lenL, ↓o_lenS, ↓o_tupT, ↓o_tupL, ↓o_lstT, ↓o_lstL, ↓o_rev, ↓o_isN, ↓o_noN, ↓o_slL, ↓o_slT, ↓n_non, ↓n_bl, ↓n_int, ↓n_str, ↓n_tup, ↓n_lst, ↓e_ss, ↓e_ii, ↓e_bb, ↓e_tt, ↓e_l0, ↓e_t0, ↓e_llc, ↓e_alr, ↓e_al1, ↓e_al3, ↓e_ny0, ↓e_nS, ↓e_ny1, slotA, t_bl, t_non, t_int, t_tup, t_lst, v_lst, v_tup, v_int, v_str, v_bl, v_non, y_int, y_str, isNil, bindP, bindPs, permP, wipeP, v2p, v2ps, Val.nr, Val.nrs, dicP, getP, nodupP, List.length_cons, List.length_nil, List.getElem?_cons_zero, List.getElem?_cons_succ, List.set_cons_zero, List.set_cons_succ, List.map_cons, List.map_nil, rep_none, rep_none0, List.append, List.cons_append, List.nil_append, true_and, and_true, if_true, if_false, Bool.false_eq_true, Option.bind, Bool.not_true, Bool.not_false, Bool.true_and, Bool.false_and, Bool.and_true, Bool.and_false, Bool.or_true, Bool.or_false, Bool.true_or, Bool.false_or, Option.map, Option.map_some, Option.map_none, List.getElem?_nil, Bool.or_self, Bool.and_self, Nat.zero_le, Nat.reduceAdd, Nat.reduceSub, Nat.reduceLT, Nat.reduceLeDiff, Nat.reduceEqDiff, Nat.reduceBEq, beq_self_eq_true, Nat.zero_add, Nat.add_zero, List.length_map, top, List.length_append, List.all_cons, List.all_nil, and_self, List.filterMap_cons, List.filterMap_nil, List.length_set, at_lit, at_last, w_seqT, w_seqL, w_enT, w_enL, w_zipT, w_zipL, seqP, Option.bind_some]
    rw [d_pickT (by simp [ways]) (by simp [ways])]
    intro v hv
    obtain ⟨x, hx, rfl⟩ := List.mem_map.mp hv
    refine All.imp (lower_ok hx) ?_
    rintro r ⟨l, rfl, hl, hno⟩
    simp only [↓a_bind, ↓a_ret, ↓a_bad, ↓a_exc, ↓a_when, ↓a_some, ↓a_none, ↓a_noX, ↓a_kif, ↓a_ite, ↓a_kS, ↓a_kI, ↓a_kB, ↓a_kN, ↓a_k, ↓a_gS, ↓a_gI, ↓a_g, ↓a_x, ↓a_tup, ↓a_lst, ↓a_dic, ↓a_op1, ↓a_op2, ↓a_optT, ↓a_optF, ↓a_sl, ↓a_and, ↓a_or, ↓a_not, ↓a_iteE, ↓a_chain, ↓a_call, ↓a_nil, ↓a_cons, ↓a_comp, ↓a_op2T, ↓a_op2F, ↓a_optCT, ↓a_optCF, ↓h_skip, ↓h_never, ↓h_exC, ↓h_seq, ↓h_asg, ↓h_mv, ↓h_un, ↓h_sub, ↓h_app, ↓h_ext, ↓h_ret, ↓h_retN, ↓h_brk, ↓h_cont, ↓h_ite, ↓h_fo, ↓h_run, ↓on_some2, ↓on_none2, ↓o_eq, ↓o_ne, ↓o_lt, ↓o_le, ↓o_gt, ↓o_ge, ↓o_addI, ↓o_addS, ↓o_addT, ↓o_addL, ↓o_sub, ↓o_mulI, ↓o_mulT, ↓o_mulL, ↓o_mod, ↓o_fdiv, ↓o_pow, ↓o_inTs, ↓o_inTi, ↓o_inTt, ↓o_inLs, ↓o_inLi, ↓o_inLt, ↓o_ninTs, ↓o_ninTi, ↓o_ninTt, ↓o_ninLs, ↓o_ninLi, ↓o_ninLt, ↓o_ixT, ↓o_ixL, ↓o_ixD, ↓o_indexS, ↓o_indexI, ↓o_indexT, ↓o_countS, ↓o_countI, ↓o_iSs, ↓o_iSi, ↓o_iSb, ↓o_iSn, ↓o_iSt, ↓o_iSl, ↓o_iIs, ↓o_iIi, ↓o_iIb, ↓o_iIn, ↓o_iIt, ↓o_iIl, ↓o_iTs, ↓o_iTi, ↓o_iTb, ↓o_iTn, ↓o_iTt, ↓o_iTl, ↓o_iBs, ↓o_iBi, ↓o_iBb, ↓o_iBn, ↓o_iBt, ↓o_iBl, ↓o_rngL, ↓o_rngT, ↓o_rngL2, ↓o_rngT2, ↓o_isT, ↓o_notT, ↓o_max2, ↓o_min2, ↓o_neg, ↓o_abs, ↓o_int, ↓o_intB, ↓o_lenT, ↓o_lenL, ↓o_lenS, ↓o_tupT, ↓o_tupL, ↓o_lstT, ↓o_lstL, ↓o_rev, ↓o_isN, ↓o_noN, ↓o_slL, ↓o_slT, ↓n_non, ↓n_bl, ↓n_int, ↓n_str, ↓n_tup, ↓n_lst, ↓e_ss, ↓e_ii, ↓e_bb, ↓e_tt, ↓e_l0, ↓e_t0, ↓e_llc, ↓e_alr, ↓e_al1, ↓e_al3, ↓e_ny0, ↓e_nS, ↓e_ny1, slotA, t_bl, t_non, t_int, t_tup, t_lst, v_lst, v_tup, v_int, v_str, v_bl, v_non, y_int, y_str, isNil, bindP, bindPs, permP, wipeP, v2p, v2ps, Val.nr, Val.nrs, dicP, getP, nodupP, List.length_cons, List.length_nil, List.getElem?_cons_zero, List.getElem?_cons_succ, List.set_cons_zero, List.set_cons_succ, List.map_cons, List.map_nil, rep_none, rep_none0, List.append, List.cons_append, List.nil_append, true_and, and_true, if_true, if_false, Bool.false_eq_true, Option.bind, Bool.not_true, Bool.not_false, Bool.true_and, Bool.false_and, Bool.and_true, Bool.and_false, Bool.or_true, Bool.or_false, Bool.true_or, Bool.false_or, Option.map, Option.map_some, Option.map_none, List.getElem?_nil, Bool.or_self, Bool.and_self, Nat.zero_le, Nat.reduceAdd, Nat.reduceSub, Nat.reduceLT, Nat.reduceLeDiff, Nat.reduceEqDiff, Nat.reduceBEq, beq_self_eq_true, Nat.zero_add, Nat.add_zero, List.length_map, top, List.length_append, List.all_cons, List.all_nil, and_self, List.filterMap_cons, List.filterMap_nil, List.length_set, at_lit, at_last, w_seqT, w_seqL, w_enT, w_enL, w_zipT, w_zipL, seqP, Option.bind_some]
    refine for_map (fun ds rs ρ => (∀ x ∈ rs, fit x.1 x.2 = false) ∧ ∃ o4 o5, ρ = [none, some .deck, some (.tup (ways.map Wy.e)), some (.lst (ways.map Wy.e)), o4, o5, none, none, none, none]) ?_ ?_ ⟨hno, _, _, rfl⟩
    · rintro ds x rs ρ ⟨hm, o4, o5, rfl⟩
      have hf := hm x List.mem_cons_self
      have hf' : (lk x.1 x.2).isEmpty = false := hf
      simp only [Wy.e, law_lacks_eq, List.isEmpty_map, hf', ↓a_bind, ↓a_ret, ↓a_bad, ↓a_exc, ↓a_when, ↓a_some, ↓a_none, ↓a_noX, ↓a_kif, ↓a_ite, ↓a_kS, ↓a_kI, ↓a_kB, ↓a_kN, ↓a_k, ↓a_gS, ↓a_gI, ↓a_g, ↓a_x, ↓a_tup, ↓a_lst, ↓a_dic, ↓a_op1, ↓a_op2, ↓a_optT, ↓a_optF, ↓a_sl, ↓a_and, ↓a_or, ↓a_not, ↓a_iteE, ↓a_chain, ↓a_call, ↓a_nil, ↓a_cons, ↓a_comp, ↓a_op2T, ↓a_op2F, ↓a_optCT, ↓a_optCF, ↓h_skip, ↓h_never, ↓h_exC, ↓h_seq, ↓h_asg, ↓h_mv, ↓h_un, ↓h_sub, ↓h_app, ↓h_ext, ↓h_ret, ↓h_retN, ↓h_brk, ↓h_cont, ↓h_ite, ↓h_fo, ↓h_run, ↓on_some2, ↓on_none2, ↓o_eq, ↓o_ne, ↓o_lt, ↓o_le, ↓o_gt, ↓o_ge, ↓o_addI, ↓o_addS, ↓o_addT, ↓o_addL, ↓o_sub, ↓o_mulI, ↓o_mulT, ↓o_mulL, ↓o_mod, ↓o_fdiv, ↓o_pow, ↓o_inTs, ↓o_inTi, ↓o_inTt, ↓o_inLs, ↓o_inLi, ↓o_inLt, ↓o_ninTs, ↓o_ninTi, ↓o_ninTt, ↓o_ninLs, ↓o_ninLi, ↓o_ninLt, ↓o_ixT, ↓o_ixL, ↓o_ixD, ↓o_indexS, ↓o_indexI, ↓o_indexT, ↓o_countS, ↓o_countI, ↓o_iSs, ↓o_iSi, ↓o_iSb, ↓o_iSn, ↓o_iSt, ↓o_iSl, ↓o_iIs, ↓o_iIi, ↓o_iIb, ↓o_iIn, ↓o_iIt, ↓o_iIl, ↓o_iTs, ↓o_iTi, ↓o_iTb, ↓o_iTn, ↓o_iTt, ↓o_iTl, ↓o_iBs, ↓o_iBi, ↓o_iBb, ↓o_iBn, ↓o_iBt, ↓o_iBl, ↓o_rngL, ↓o_rngT, ↓o_rngL2, ↓o_rngT2, ↓o_isT, ↓o_notT, ↓o_max2, ↓o_min2, ↓o_neg, ↓o_abs, ↓o_int, ↓o_intB, ↓o_lenT, ↓o_lenL, ↓o_lenS, ↓o_tupT, ↓o_tupL, ↓o_lstT, ↓o_lstL, ↓o_rev, ↓o_isN, ↓o_noN, ↓o_slL, ↓o_slT, ↓n_non, ↓n_bl, ↓n_int, ↓n_str, ↓n_tup, ↓n_lst, ↓e_ss, ↓e_ii, ↓e_bb, ↓e_tt, ↓e_l0, ↓e_t0, ↓e_llc, ↓e_alr, ↓e_al1, ↓e_al3, ↓e_ny0, ↓e_nS, ↓e_ny1, slotA, t_bl, t_non, t_int, t_tup, t_lst, v_lst, v_tup, v_int, v_str, v_bl, v_non, y_int, y_str, isNil, bindP, bindPs, permP, wipeP, v2p, v2ps, Val.nr, Val.nrs, dicP, getP, nodupP, List.length_cons, List.length_nil, List.getElem?_cons_zero, List.getElem?_cons_succ, List.set_cons_zero, List.set_cons_succ, List.map_cons, List.map_nil, rep_none, rep_none0, List.append, List.cons_append, List.nil_append, true_and, and_true, if_true, if_false, Bool.false_eq_true, Option.bind, Bool.not_true, Bool.not_false, Bool.true_and, Bool.false_and, Bool.and_true, Bool.and_false, Bool.or_true, Bool.or_false, Bool.true_or, Bool.false_or, Option.map, Option.map_some, Option.map_none, List.getElem?_nil, Bool.or_self, Bool.and_self, Nat.zero_le, Nat.reduceAdd, Nat.reduceSub, Nat.reduceLT, Nat.reduceLeDiff, Nat.reduceEqDiff, Nat.reduceBEq, beq_self_eq_true, Nat.zero_add, Nat.add_zero, List.length_map, top, List.length_append, List.all_cons, List.all_nil, and_self, List.filterMap_cons, List.filterMap_nil, List.length_set, at_lit, at_last, w_seqT, w_seqL, w_enT, w_enL, w_zipT, w_zipL, seqP, Option.bind_some]
      exact ⟨fun y hy => hm y (List.mem_cons_of_mem _ hy), _, _, rfl⟩
    · rintro ρ ⟨_, o4, o5, rfl⟩
      exact ⟨_, _, rfl⟩
  rintro ρ ⟨o4, o5, rfl⟩
  refine seq_all (fun ρ => ∃ o6 o7, ρ = [none, some .deck, some (.tup (ways.map Wy.e)), some (.lst (ways.map Wy.e)), o4, o5, o6, o7, none, none]) ?_ ?_
  · simp only [w_r1l (n := 20) (by decide), ↓a_bind, ↓a_ret, ↓a_bad, ↓a_exc, ↓a_when, ↓a_some, ↓a_none, ↓a_noX, ↓a_kif, ↓a_ite, ↓a_kS, ↓a_kI, ↓a_kB, ↓a_kN, ↓a_k, ↓a_gS, ↓a_gI, ↓a_g, ↓a_x, ↓a_tup, ↓a_lst, ↓a_dic, ↓a_op1, ↓a_op2, ↓a_optT, ↓a_optF, ↓a_sl, ↓a_and, ↓a_or, ↓a_not, ↓a_iteE, ↓a_chain, ↓a_call, ↓a_nil, ↓a_cons, ↓a_comp, ↓a_op2T, ↓a_op2F, ↓a_optCT, ↓a_optCF, ↓h_skip, ↓h_never, ↓h_exC, ↓h_seq, ↓h_asg, ↓h_mv, ↓h_un, ↓h_sub, ↓h_app, ↓h_ext, ↓h_ret, ↓h_retN, ↓h_brk, ↓h_cont, ↓h_ite, ↓h_fo, ↓h_run, ↓on_some2, ↓on_none2, ↓o_eq, ↓o_ne, ↓o_lt, ↓o_le, ↓o_gt, ↓o_ge, ↓o_addI, ↓o_addS, ↓o_addT, ↓o_addL, ↓o_sub, ↓o_mulI, ↓o_mulT, ↓o_mulL, ↓o_mod, ↓o_fdiv, ↓o_pow, ↓o_inTs, ↓o_inTi, ↓o_inTt, ↓o_inLs, ↓o_inLi, ↓o_inLt, ↓o_ninTs, ↓o_ninTi, ↓o_ninTt, ↓o_ninLs, ↓o_ninLi, ↓o_ninLt, ↓o_ixT, ↓o_ixL, ↓o_ixD, ↓o_indexS, ↓o_indexI, ↓o_indexT, ↓o_countS, ↓o_countI, ↓o_iSs, ↓o_iSi, ↓o_iSb, ↓o_iSn, ↓o_iSt, ↓o_iSl, ↓o_iIs, ↓o_iIi, ↓o_iIb, ↓o_iIn, ↓o_iIt, ↓o_iIl, ↓o_iTs, ↓o_iTi, ↓o_iTb, ↓o_iTn, ↓o_iTt, ↓o_iTl, ↓o_iBs, ↓o_iBi, ↓o_iBb, ↓o_iBn, ↓o_iBt, ↓o_iBl, ↓o_rngL, ↓o_rngT, ↓o_rngL2, ↓o_rngT2, ↓o_isT, ↓o_notT, ↓o_max2, ↓o_min2, ↓o_neg, ↓o_abs, ↓o_int, ↓o_intB, ↓o_lenT, ↓o_lenL, ↓o_lenS, ↓o_tupT, ↓o_tupL, ↓o_lstT, ↓o_lstL, ↓o_rev, ↓o_isN, ↓o_noN, ↓o_slL, ↓o_slT, ↓n_non, ↓n_bl, ↓n_int, ↓n_str, ↓n_tup, ↓n_lst, ↓e_ss, ↓e_ii, ↓e_bb, ↓e_tt, ↓e_l0, ↓e_t0, ↓e_llc, ↓e_alr, ↓e_al1, ↓e_al3, ↓e_ny0, ↓e_nS, ↓e_ny1, slotA, t_bl, t_non, t_int, t_tup, t_lst, v_lst, v_tup, v_int, v_str, v_bl, v_non, y_int, y_str, isNil, bindP, bindPs, permP, wipeP, v2p, v2ps, Val.nr, Val.nrs, dicP, getP, nodupP, List.length_cons, List.length_nil, List.getElem?_cons_zero, List.getElem?_cons_succ, List.set_cons_zero, List.set_cons_succ, List.map_cons, List.map_nil, rep_none, rep_none0, List.append, List.cons_append, List.nil_append, true_and, and_true, if_true, if_false, Bool.false_eq_true, Option.bind, Bool.not_true, Bool.not_false, Bool.true_and, Bool.false_and, Bool.and_true, Bool.and_false, Bool.or_true, Bool.or_false, Bool.true_or, Bool.false_or, Option.map, Option.map_some, Option.map_none, List.getElem?_nil, Bool.or_self, Bool.and_self, Nat.zero_le, Nat.reduceAdd, Nat.reduceSub, Nat.reduceLT, Nat.reduceLeDiff, Nat.reduceEqDiff, Nat.reduceBEq, beq_self_eq_true, Nat.zero_add, Nat.add_zero, List.length_map, top, List.length_append, List.all_cons, List.all_nil, and_self, List.filterMap_cons, List.filterMap_nil, List.length_set, at_lit, at_last, w_seqT, w_seqL, w_enT, w_enL, w_zipT, w_zipL, seqP, Option.bind_some]
    refine for_rng (fun k ρ => ∃ o6 o7, ρ = [none, some .deck, some (.tup (ways.map Wy.e)), some (.lst (ways.map Wy.e)), o4, o5, o6, o7, none, none]) ?_ ?_ ⟨_, _, rfl⟩
    · rintro k ρ hk ⟨o6, o7, rfl⟩
      simp only [↓a_bind, ↓a_ret, ↓a_bad, ↓a_exc, ↓a_when, ↓a_some, ↓a_none, ↓a_noX, ↓a_kif, ↓a_ite, ↓a_kS, ↓a_kI, ↓a_kB, ↓a_kN, ↓a_k, ↓a_gS, ↓a_gI, ↓a_g, ↓a_x, ↓a_tup, ↓a_lst, ↓a_dic, ↓a_op1, ↓a_op2, ↓a_optT, ↓a_optF, ↓a_sl, ↓a_and, ↓a_or, ↓a_not, ↓a_iteE, ↓a_chain, ↓a_call, ↓a_nil, ↓a_cons, ↓a_comp, ↓a_op2T, ↓a_op2F, ↓a_optCT, ↓a_optCF, ↓h_skip, ↓h_never, ↓h_exC, ↓h_seq, ↓h_asg, ↓h_mv, ↓h_un, ↓h_sub, ↓h_app, ↓h_ext, ↓h_ret, ↓h_retN, ↓h_brk, ↓h_cont, ↓h_ite, ↓h_fo, ↓h_run, ↓on_some2, ↓on_none2, ↓o_eq, ↓o_ne, ↓o_lt, ↓o_le, ↓o_gt, ↓o_ge, ↓o_addI, ↓o_addS, ↓o_addT, ↓o_addL, ↓o_sub, ↓o_mulI, ↓o_mulT, ↓o_mulL, ↓o_mod, ↓o_fdiv, ↓o_pow, ↓o_inTs, ↓o_inTi, ↓o_inTt, ↓o_inLs, ↓o_inLi, ↓o_inLt, ↓o_ninTs, ↓o_ninTi, ↓o_ninTt, ↓o_ninLs, ↓o_ninLi, ↓o_ninLt, ↓o_ixT, ↓o_ixL, ↓o_ixD, ↓o_indexS, ↓o_indexI, ↓o_indexT, ↓o_countS, ↓o_countI, ↓o_iSs, ↓o_iSi, ↓o_iSb, ↓o_iSn, ↓o_iSt, ↓o_iSl, ↓o_iIs, ↓o_iIi, ↓o_iIb, ↓o_iIn, ↓o_iIt, ↓o_iIl, ↓o_iTs, ↓o_iTi, ↓o_iTb, ↓o_iTn, ↓o_iTt, ↓o_iTl, ↓o_iBs, ↓o_iBi, ↓o_iBb, ↓o_iBn, ↓o_iBt, ↓o_iBl, ↓o_rngL, ↓o_rngT, ↓o_rngL2, ↓o_rngT2, ↓o_isT, ↓o_notT, ↓o_max2, ↓o_min2, ↓o_neg, ↓o_abs, ↓o_int, ↓o_intB, ↓o_lenT, ↓o_lenL, ↓o_lenS, ↓o_tupT, ↓o_tupL, ↓o_lstT, ↓o_lstL, ↓o_rev, ↓o_isN, ↓o_noN, ↓o_slL, ↓o_slT, ↓n_non, ↓n_bl, ↓n_int, ↓n_str, ↓n_tup, ↓n_lst, ↓e_ss, ↓e_ii, ↓e_bb, ↓e_tt, ↓e_l0, ↓e_t0, ↓e_llc, ↓e_alr, ↓e_al1, ↓e_al3, ↓e_ny0, ↓e_nS, ↓e_ny1, slotA, t_bl, t_non, t_int, t_tup, t_lst, v_lst, v_tup, v_int, v_str, v_bl, v_non, y_int, y_str, isNil, bindP, bindPs, permP, wipeP, v2p, v2ps, Val.nr, Val.nrs, dicP, getP, nodupP, List.length_cons, List.length_nil, List.getElem?_cons_zero, List.getElem?_cons_succ, List.set_cons_zero, List.set_cons_succ, List.map_cons, List.map_nil, rep_none, rep_none0, List.append, List.cons_append, List.nil_append, true_and, and_true, if_true, if_false, Bool.false_eq_true, Option.bind, Bool.not_true, Bool.not_false, Bool.true_and, Bool.false_and, Bool.and_true, Bool.and_false, Bool.or_true, Bool.or_false, Bool.true_or, Bool.false_or, Option.map, Option.map_some, Option.map_none, List.getElem?_nil, Bool.or_self, Bool.and_self, Nat.zero_le, Nat.reduceAdd, Nat.reduceSub, Nat.reduceLT, Nat.reduceLeDiff, Nat.reduceEqDiff, Nat.reduceBEq, beq_self_eq_true, Nat.zero_add, Nat.add_zero, List.length_map, top, List.length_append, List.all_cons, List.all_nil, and_self, List.filterMap_cons, List.filterMap_nil, List.length_set, at_lit, at_last, w_seqT, w_seqL, w_enT, w_enL, w_zipT, w_zipL, seqP, Option.bind_some]
      refine All.imp fit_way_ok ?_
      rintro r ⟨y, rfl, hy⟩
      try simp only [↓a_bind, ↓a_ret, ↓a_bad, ↓a_exc, ↓a_when, ↓a_some, ↓a_none, ↓a_noX, ↓a_kif, ↓a_ite, ↓a_kS, ↓a_kI, ↓a_kB, ↓a_kN, ↓a_k, ↓a_gS, ↓a_gI, ↓a_g, ↓a_x, ↓a_tup, ↓a_lst, ↓a_dic, ↓a_op1, ↓a_op2, ↓a_optT, ↓a_optF, ↓a_sl, ↓a_and, ↓a_or, ↓a_not, ↓a_iteE, ↓a_chain, ↓a_call, ↓a_nil, ↓a_cons, ↓a_comp, ↓a_op2T, ↓a_op2F, ↓a_optCT, ↓a_optCF, ↓h_skip, ↓h_never, ↓h_exC, ↓h_seq, ↓h_asg, ↓h_mv, ↓h_un, ↓h_sub, ↓h_app, ↓h_ext, ↓h_ret, ↓h_retN, ↓h_brk, ↓h_cont, ↓h_ite, ↓h_fo, ↓h_run, ↓on_some2, ↓on_none2, ↓o_eq, ↓o_ne, ↓o_lt, ↓o_le, ↓o_gt, ↓o_ge, ↓o_addI, ↓o_addS, ↓o_addT, ↓o_addL, ↓o_sub, ↓o_mulI, ↓o_mulT, ↓o_mulL, ↓o_mod, ↓o_fdiv, ↓o_pow, ↓o_inTs, ↓o_inTi, ↓o_inTt, ↓o_inLs, ↓o_inLi, ↓o_inLt, ↓o_ninTs, ↓o_ninTi, ↓o_ninTt, ↓o_ninLs, ↓o_ninLi, ↓o_ninLt, ↓o_ixT, ↓o_ixL, ↓o_ixD, ↓o_indexS, ↓o_indexI, ↓o_indexT, ↓o_countS, ↓o_countI, ↓o_iSs, ↓o_iSi, ↓o_iSb, ↓o_iSn, ↓o_iSt, ↓o_iSl, ↓o_iIs, ↓o_iIi, ↓o_iIb, ↓o_iIn, ↓o_iIt, ↓o_iIl, ↓o_iTs, ↓o_iTi, ↓o_iTb, ↓o_iTn, ↓o_iTt, ↓o_iTl, ↓o_iBs, ↓o_iBi, ↓o_iBb, ↓o_iBn, ↓o_iBt, ↓o_iBl, ↓o_rngL, ↓o_rngT, ↓o_rngL2, ↓o_rngT2, ↓o_isT, ↓o_notT, ↓o_max2, ↓o_min2, ↓o_neg, ↓o_abs, ↓o_int, ↓o_intB, ↓o_lenT, ↓o_lenL, ↓o_lenS, ↓o_tupT, ↓o_tupL, ↓o_lstT, ↓o_lstL, ↓o_rev, ↓o_isN, ↓o_noN, ↓o_slL, ↓o_slT, ↓n_non, ↓n_bl, ↓n_int, ↓n_str, ↓n_tup, ↓n_lst, ↓e_ss, ↓e_ii, ↓e_bb, ↓e_tt, ↓e_l0, ↓e_t0, ↓e_llc, ↓e_alr, ↓e_al1, ↓e_al3, ↓e_ny0, ↓e_nS, ↓e_ny1, slotA, t_bl, t_non, t_int, t_tup, t_lst, v_lst, v_tup, v_int, v_str, v_bl, v_non, y_int, y_str, isNil, bindP, bindPs, permP, wipeP, v2p, v2ps, Val.nr, Val.nrs, dicP, getP, nodupP, List.length_cons, List.length_nil, List.getElem?_cons_zero, List.getElem?_cons_succ, List.set_cons_zero, List.set_cons_succ, List.map_cons, List.map_nil, rep_none, rep_none0, List.append, List.cons_append, List.nil_append, true_and, and_true, if_true, if_false, Bool.false_eq_true, Option.bind, Bool.not_true, Bool.not_false, Bool.true_and, Bool.false_and, Bool.and_true, Bool.and_false, Bool.or_true, Bool.or_false, Bool.true_or, Bool.false_or, Option.map, Option.map_some, Option.map_none, List.getElem?_nil, Bool.or_self, Bool.and_self, Nat.zero_le, Nat.reduceAdd, Nat.reduceSub, Nat.reduceLT, Nat.reduceLeDiff, Nat.reduceEqDiff, Nat.reduceBEq, beq_self_eq_true, Nat.zero_add, Nat.add_zero, List.length_map, top, List.length_append, List.all_cons, List.all_nil, and_self, List.filterMap_cons, List.filterMap_nil, List.length_set, at_lit, at_last, w_seqT, w_seqL, w_enT, w_enL, w_zipT, w_zipL, seqP, Option.bind_some]
      refine comp_map (fun x => within x y) Wy.e (by decide) (fun x hx => ?_) ?_
      · simp only [↓a_bind, ↓a_ret, ↓a_bad, ↓a_exc, ↓a_when, ↓a_some, ↓a_none, ↓a_noX, ↓a_kif, ↓a_ite, ↓a_kS, ↓a_kI, ↓a_kB, ↓a_kN, ↓a_k, ↓a_gS, ↓a_gI, ↓a_g, ↓a_x, ↓a_tup, ↓a_lst, ↓a_dic, ↓a_op1, ↓a_op2, ↓a_optT, ↓a_optF, ↓a_sl, ↓a_and, ↓a_or, ↓a_not, ↓a_iteE, ↓a_chain, ↓a_call, ↓a_nil, ↓a_cons, ↓a_comp, ↓a_op2T, ↓a_op2F, ↓a_optCT, ↓a_optCF, ↓h_skip, ↓h_never, ↓h_exC, ↓h_seq, ↓h_asg, ↓h_mv, ↓h_un, ↓h_sub, ↓h_app, ↓h_ext, ↓h_ret, ↓h_retN, ↓h_brk, ↓h_cont, ↓h_ite, ↓h_fo, ↓h_run, ↓on_some2, ↓on_none2, ↓o_eq, ↓o_ne, ↓o_lt, ↓o_le, ↓o_gt, ↓o_ge, ↓o_addI, ↓o_addS, ↓o_addT, ↓o_addL, ↓o_sub, ↓o_mulI, ↓o_mulT, ↓o_mulL, ↓o_mod, ↓o_fdiv, ↓o_pow, ↓o_inTs, ↓o_inTi, ↓o_inTt, ↓o_inLs, ↓o_inLi, ↓o_inLt, ↓o_ninTs, ↓o_ninTi, ↓o_ninTt, ↓o_ninLs, ↓o_ninLi, ↓o_ninLt, ↓o_ixT, ↓o_ixL, ↓o_ixD, ↓o_indexS, ↓o_indexI, ↓o_indexT, ↓o_countS, ↓o_countI, ↓o_iSs, ↓o_iSi, ↓o_iSb, ↓o_iSn, ↓o_iSt, ↓o_iSl, ↓o_iIs, ↓o_iIi, ↓o_iIb, ↓o_iIn, ↓o_iIt, ↓o_iIl, ↓o_iTs, ↓o_iTi, ↓o_iTb, ↓o_iTn, ↓o_iTt, ↓o_iTl, ↓o_iBs, ↓o_iBi, ↓o_iBb, ↓o_iBn, ↓o_iBt, ↓o_iBl, ↓o_rngL, ↓o_rngT, ↓o_rngL2, ↓o_rngT2, ↓o_isT, ↓o_notT, ↓o_max2, ↓o_min2, ↓o_neg, ↓o_abs, ↓o_int, ↓o_intB, ↓o_lenT, ↓o_lenL, ↓o_lenS, ↓o_tupT, ↓o_tupL, ↓o_lstT, ↓o_lstL, ↓o_rev, ↓o_isN, ↓o_noN, ↓o_slL, ↓o_slT, ↓n_non, ↓n_bl, ↓n_int, ↓n_str, ↓n_tup, ↓n_lst, ↓e_ss, ↓e_ii, ↓e_bb, ↓e_tt, ↓e_l0, ↓e_t0, ↓e_llc, ↓e_alr, ↓e_al1, ↓e_al3, ↓e_ny0, ↓e_nS, ↓e_ny1, slotA, t_bl, t_non, t_int, t_tup, t_lst, v_lst, v_tup, v_int, v_str, v_bl, v_non, y_int, y_str, isNil, bindP, bindPs, permP, wipeP, v2p, v2ps, Val.nr, Val.nrs, dicP, getP, nodupP, List.length_cons, List.length_nil, List.getElem?_cons_zero, List.getElem?_cons_succ, List.set_cons_zero, List.set_cons_succ, List.map_cons, List.map_nil, rep_none, rep_none0, List.append, List.cons_append, List.nil_append, true_and, and_true, if_true, if_false, Bool.false_eq_true, Option.bind, Bool.not_true, Bool.not_false, Bool.true_and, Bool.false_and, Bool.and_true, Bool.and_false, Bool.or_true, Bool.or_false, Bool.true_or, Bool.false_or, Option.map, Option.map_some, Option.map_none, List.getElem?_nil, Bool.or_self, Bool.and_self, Nat.zero_le, Nat.reduceAdd, Nat.reduceSub, Nat.reduceLT, Nat.reduceLeDiff, Nat.reduceEqDiff, Nat.reduceBEq, beq_self_eq_true, Nat.zero_add, Nat.add_zero, List.length_map, top, List.length_append, List.all_cons, List.all_nil, and_self, List.filterMap_cons, List.filterMap_nil, List.length_set, at_lit, at_last, w_seqT, w_seqL, w_enT, w_enL, w_zipT, w_zipL, seqP, Option.bind_some]
        refine All.imp (within_ok x y) ?_
        rintro r rfl
        simp only [↓a_bind, ↓a_ret, ↓a_bad, ↓a_exc, ↓a_when, ↓a_some, ↓a_none, ↓a_noX, ↓a_kif, ↓a_ite, ↓a_kS, ↓a_kI, ↓a_kB, ↓a_kN, ↓a_k, ↓a_gS, ↓a_gI, ↓a_g, ↓a_x, ↓a_tup, ↓a_lst, ↓a_dic, ↓a_op1, ↓a_op2, ↓a_optT, ↓a_optF, ↓a_sl, ↓a_and, ↓a_or, ↓a_not, ↓a_iteE, ↓a_chain, ↓a_call, ↓a_nil, ↓a_cons, ↓a_comp, ↓a_op2T, ↓a_op2F, ↓a_optCT, ↓a_optCF, ↓h_skip, ↓h_never, ↓h_exC, ↓h_seq, ↓h_asg, ↓h_mv, ↓h_un, ↓h_sub, ↓h_app, ↓h_ext, ↓h_ret, ↓h_retN, ↓h_brk, ↓h_cont, ↓h_ite, ↓h_fo, ↓h_run, ↓on_some2, ↓on_none2, ↓o_eq, ↓o_ne, ↓o_lt, ↓o_le, ↓o_gt, ↓o_ge, ↓o_addI, ↓o_addS, ↓o_addT, ↓o_addL, ↓o_sub, ↓o_mulI, ↓o_mulT, ↓o_mulL, ↓o_mod, ↓o_fdiv, ↓o_pow, ↓o_inTs, ↓o_inTi, ↓o_inTt, ↓o_inLs, ↓o_inLi, ↓o_inLt, ↓o_ninTs, ↓o_ninTi, ↓o_ninTt, ↓o_ninLs, ↓o_ninLi, ↓o_ninLt, ↓o_ixT, ↓o_ixL, ↓o_ixD, ↓o_indexS, ↓o_indexI, ↓o_indexT, ↓o_countS, ↓o_countI, ↓o_iSs, ↓o_iSi, ↓o_iSb, ↓o_iSn, ↓o_iSt, ↓o_iSl, ↓o_iIs, ↓o_iIi, ↓o_iIb, ↓o_iIn, ↓o_iIt, ↓o_iIl, ↓o_iTs, ↓o_iTi, ↓o_iTb, ↓o_iTn, ↓o_iTt, ↓o_iTl, ↓o_iBs, ↓o_iBi, ↓o_iBb, ↓o_iBn, ↓o_iBt, ↓o_iBl, ↓o_rngL, ↓o_rngT, ↓o_rngL2, ↓o_rngT2, ↓o_isT, ↓o_notT, ↓o_max2, ↓o_min2, ↓o_neg, ↓o_abs, ↓o_int, ↓o_intB, ↓o_lenT, ↓o_lenL, ↓o_lenS, ↓o_tupT, ↓o_tupL, ↓o_lstT, ↓o_lstL, ↓o_rev, ↓o_isN, ↓o_noN, ↓o_slL, ↓o_slT, ↓n_non, ↓n_bl, ↓n_int, ↓n_str, ↓n_tup, ↓n_lst, ↓e_ss, ↓e_ii, ↓e_bb, ↓e_tt, ↓e_l0, ↓e_t0, ↓e_llc, ↓e_alr, ↓e_al1, ↓e_al3, ↓e_ny0, ↓e_nS, ↓e_ny1, slotA, t_bl, t_non, t_int, t_tup, t_lst, v_lst, v_tup, v_int, v_str, v_bl, v_non, y_int, y_str, isNil, bindP, bindPs, permP, wipeP, v2p, v2ps, Val.nr, Val.nrs, dicP, getP, nodupP, List.length_cons, List.length_nil, List.getElem?_cons_zero, List.getElem?_cons_succ, List.set_cons_zero, List.set_cons_succ, List.map_cons, List.map_nil, rep_none, rep_none0, List.append, List.cons_append, List.nil_append, true_and, and_true, if_true, if_false, Bool.false_eq_true, Option.bind, Bool.not_true, Bool.not_false, Bool.true_and, Bool.false_and, Bool.and_true, Bool.and_false, Bool.or_true, Bool.or_false, Bool.true_or, Bool.false_or, Option.map, Option.map_some, Option.map_none, List.getElem?_nil, Bool.or_self, Bool.and_self, Nat.zero_le, Nat.reduceAdd, Nat.reduceSub, Nat.reduceLT, Nat.reduceLeDiff, Nat.reduceEqDiff, Nat.reduceBEq, beq_self_eq_true, Nat.zero_add, Nat.add_zero, List.length_map, top, List.length_append, List.all_cons, List.all_nil, and_self, List.filterMap_cons, List.filterMap_nil, List.length_set, at_lit, at_last, w_seqT, w_seqL, w_enT, w_enL, w_zipT, w_zipL, seqP, Option.bind_some]
        exact fun _ => trivial
      · have hye : y.e = .tup [y.1.e, y.2.e] := rfl
        simp only [within_all y hy, ↓a_bind, ↓a_ret, ↓a_bad, ↓a_exc, ↓a_when, ↓a_some, ↓a_none, ↓a_noX, ↓a_kif, ↓a_ite, ↓a_kS, ↓a_kI, ↓a_kB, ↓a_kN, ↓a_k, ↓a_gS, ↓a_gI, ↓a_g, ↓a_x, ↓a_tup, ↓a_lst, ↓a_dic, ↓a_op1, ↓a_op2, ↓a_optT, ↓a_optF, ↓a_sl, ↓a_and, ↓a_or, ↓a_not, ↓a_iteE, ↓a_chain, ↓a_call, ↓a_nil, ↓a_cons, ↓a_comp, ↓a_op2T, ↓a_op2F, ↓a_optCT, ↓a_optCF, ↓h_skip, ↓h_never, ↓h_exC, ↓h_seq, ↓h_asg, ↓h_mv, ↓h_un, ↓h_sub, ↓h_app, ↓h_ext, ↓h_ret, ↓h_retN, ↓h_brk, ↓h_cont, ↓h_ite, ↓h_fo, ↓h_run, ↓on_some2, ↓on_none2, ↓o_eq, ↓o_ne, ↓o_lt, ↓o_le, ↓o_gt, ↓o_ge, ↓o_addI, ↓o_addS, ↓o_addT, ↓o_addL, ↓o_sub, ↓o_mulI, ↓o_mulT, ↓o_mulL, ↓o_mod, ↓o_fdiv, ↓o_pow, ↓o_inTs, ↓o_inTi, ↓o_inTt, ↓o_inLs, ↓o_inLi, ↓o_inLt, ↓o_ninTs, ↓o_ninTi, ↓o_ninTt, ↓o_ninLs, ↓o_ninLi, ↓o_ninLt, ↓o_ixT, ↓o_ixL, ↓o_ixD, ↓o_indexS, ↓o_indexI, ↓o_indexT, ↓o_countS, ↓o_countI, ↓o_iSs, ↓o_iSi, ↓o_iSb, ↓o_iSn, ↓o_iSt, ↓o_iSl, ↓o_iIs, ↓o_iIi, ↓o_iIb, ↓o_iIn, ↓o_iIt, ↓o_iIl, ↓o_iTs, ↓o_iTi, ↓o_iTb, ↓o_iTn, ↓o_iTt, ↓o_iTl, ↓o_iBs, ↓o_iBi, ↓o_iBb, ↓o_iBn, ↓o_iBt, ↓o_iBl, ↓o_rngL, ↓o_rngT, ↓o_rngL2, ↓o_rngT2, ↓o_isT, ↓o_notT, ↓o_max2, ↓o_min2, ↓o_neg, ↓o_abs, ↓o_int, ↓o_intB, ↓o_lenT, ↓o_lenL, ↓o_lenS, ↓o_tupT, ↓o_tupL, ↓o_lstT, ↓o_lstL, ↓o_rev, ↓o_isN, ↓o_noN, ↓o_slL, ↓o_slT, ↓n_non, ↓n_bl, ↓n_int, ↓n_str, ↓n_tup, ↓n_lst, ↓e_ss, ↓e_ii, ↓e_bb, ↓e_tt, ↓e_l0, ↓e_t0, ↓e_llc, ↓e_alr, ↓e_al1, ↓e_al3, ↓e_ny0, ↓e_nS, ↓e_ny1, slotA, t_bl, t_non, t_int, t_tup, t_lst, v_lst, v_tup, v_int, v_str, v_bl, v_non, y_int, y_str, isNil, bindP, bindPs, permP, wipeP, v2p, v2ps, Val.nr, Val.nrs, dicP, getP, nodupP, List.length_cons, List.length_nil, List.getElem?_cons_zero, List.getElem?_cons_succ, List.set_cons_zero, List.set_cons_succ, List.map_cons, List.map_nil, rep_none, rep_none0, List.append, List.cons_append, List.nil_append, true_and, and_true, if_true, if_false, Bool.false_eq_true, Option.bind, Bool.not_true, Bool.not_false, Bool.true_and, Bool.false_and, Bool.and_true, Bool.and_false, Bool.or_true, Bool.or_false, Bool.true_or, Bool.false_or, Option.map, Option.map_some, Option.map_none, List.getElem?_nil, Bool.or_self, Bool.and_self, Nat.zero_le, Nat.reduceAdd, Nat.reduceSub, Nat.reduceLT, Nat.reduceLeDiff, Nat.reduceEqDiff, Nat.reduceBEq, beq_self_eq_true, Nat.zero_add, Nat.add_zero, List.length_map, top, List.length_append, List.all_cons, List.all_nil, and_self, List.filterMap_cons, List.filterMap_nil, List.length_set, at_lit, at_last, w_seqT, w_seqL, w_enT, w_enL, w_zipT, w_zipL, seqP, Option.bind_some]
        simp only [hye, fits_eq, hy, ↓a_bind, ↓a_ret, ↓a_bad, ↓a_exc, ↓a_when, ↓a_some, ↓a_none, ↓a_noX, ↓a_kif, ↓a_ite, ↓a_kS, ↓a_kI, ↓a_kB, ↓a_kN, ↓a_k, ↓a_gS, ↓a_gI, ↓a_g, ↓a_x, ↓a_tup, ↓a_lst, ↓a_dic, ↓a_op1, ↓a_op2, ↓a_optT, ↓a_optF, ↓a_sl, ↓a_and, ↓a_or, ↓a_not, ↓a_iteE, ↓a_chain, ↓a_call, ↓a_nil, ↓a_cons, ↓a_comp, ↓a_op2T, ↓a_op2F, ↓a_optCT, ↓a_optCF, ↓h_skip, ↓h_never, ↓h_exC, ↓h_seq, ↓h_asg, ↓h_mv, ↓h_un, ↓h_sub, ↓h_app, ↓h_ext, ↓h_ret, ↓h_retN, ↓h_brk, ↓h_cont, ↓h_ite, ↓h_fo, ↓h_run, ↓on_some2, ↓on_none2, ↓o_eq, ↓o_ne, ↓o_lt, ↓o_le, ↓o_gt, ↓o_ge, ↓o_addI, ↓o_addS, ↓o_addT, ↓o_addL, ↓o_sub, ↓o_mulI, ↓o_mulT, ↓o_mulL, ↓o_mod, ↓o_fdiv, ↓o_pow, ↓o_inTs, ↓o_inTi, ↓o_inTt, ↓o_inLs, ↓o_inLi, ↓o_inLt, ↓o_ninTs, ↓o_ninTi, ↓o_ninTt, ↓o_ninLs, ↓o_ninLi, ↓o_ninLt, ↓o_ixT, ↓o_ixL, ↓o_ixD, ↓o_indexS, ↓o_indexI, ↓o_indexT, ↓o_countS, ↓o_countI, ↓o_iSs, ↓o_iSi, ↓o_iSb, ↓o_iSn, ↓o_iSt, ↓o_iSl, ↓o_iIs, ↓o_iIi, ↓o_iIb, ↓o_iIn, ↓o_iIt, ↓o_iIl, ↓o_iTs, ↓o_iTi, ↓o_iTb, ↓o_iTn, ↓o_iTt, ↓o_iTl, ↓o_iBs, ↓o_iBi, ↓o_iBb, ↓o_iBn, ↓o_iBt, ↓o_iBl, ↓o_rngL, ↓o_rngT, ↓o_rngL2, ↓o_rngT2, ↓o_isT, ↓o_notT, ↓o_max2, ↓o_min2, ↓o_neg, ↓o_abs, ↓o_int, ↓o_intB, ↓o_lenT, ↓o_lenL, ↓o_lenS, ↓o_tupT, ↓o_tupL, ↓o_lstT, ↓o_lstL, ↓o_rev, ↓o_isN, ↓o_noN, ↓o_slL, ↓o_slT, ↓n_non, ↓n_bl, ↓n_int, ↓n_str, ↓n_tup, ↓n_lst, ↓e_ss, ↓e_ii, ↓e_bb, ↓e_tt, ↓e_l0, ↓e_t0, ↓e_llc, ↓e_alr, ↓e_al1, ↓e_al3, ↓e_ny0, ↓e_nS, ↓e_ny1, slotA, t_bl, t_non, t_int, t_tup, t_lst, v_lst, v_tup, v_int, v_str, v_bl, v_non, y_int, y_str, isNil, bindP, bindPs, permP, wipeP, v2p, v2ps, Val.nr, Val.nrs, dicP, getP, nodupP, List.length_cons, List.length_nil, List.getElem?_cons_zero, List.getElem?_cons_succ, List.set_cons_zero, List.set_cons_succ, List.map_cons, List.map_nil, rep_none, rep_none0, List.append, List.cons_append, List.nil_append, true_and, and_true, if_true, if_false, Bool.false_eq_true, Option.bind, Bool.not_true, Bool.not_false, Bool.true_and, Bool.false_and, Bool.and_true, Bool.and_false, Bool.or_true, Bool.or_false, Bool.true_or, Bool.false_or, Option.map, Option.map_some, Option.map_none, List.getElem?_nil, Bool.or_self, Bool.and_self, Nat.zero_le, Nat.reduceAdd, Nat.reduceSub, Nat.reduceLT, Nat.reduceLeDiff, Nat.reduceEqDiff, Nat.reduceBEq, beq_self_eq_true, Nat.zero_add, Nat.add_zero, List.length_map, top, List.length_append, List.all_cons, List.all_nil, and_self, List.filterMap_cons, List.filterMap_nil, List.length_set, at_lit, at_last, w_seqT, w_seqL, w_enT, w_enL, w_zipT, w_zipL, seqP, Option.bind_some]
        exact ⟨_, _, rfl⟩
    · rintro ρ ⟨o6, o7, rfl⟩
      exact ⟨_, _, rfl⟩
  rintro ρ ⟨o6, o7, rfl⟩
  have lA : fit yA.1 yA.2 = true := by decide +kernel
  have lC : fit yC.1 yC.2 = true := by decide +kernel
  refine seq_all (fun ρ => True) ?_ ?_
  · simp only [↓a_bind, ↓a_ret, ↓a_bad, ↓a_exc, ↓a_when, ↓a_some, ↓a_none, ↓a_noX, ↓a_kif, ↓a_ite, ↓a_kS, ↓a_kI, ↓a_kB, ↓a_kN, ↓a_k, ↓a_gS, ↓a_gI, ↓a_g, ↓a_x, ↓a_tup, ↓a_lst, ↓a_dic, ↓a_op1, ↓a_op2, ↓a_optT, ↓a_optF, ↓a_sl, ↓a_and, ↓a_or, ↓a_not, ↓a_iteE, ↓a_chain, ↓a_call, ↓a_nil, ↓a_cons, ↓a_comp, ↓a_op2T, ↓a_op2F, ↓a_optCT, ↓a_optCF, ↓h_skip, ↓h_never, ↓h_exC, ↓h_seq, ↓h_asg, ↓h_mv, ↓h_un, ↓h_sub, ↓h_app, ↓h_ext, ↓h_ret, ↓h_retN, ↓h_brk, ↓h_cont, ↓h_ite, ↓h_fo, ↓h_run, ↓on_some2, ↓on_none2, ↓o_eq, ↓o_ne, ↓o_lt, ↓o_le, ↓o_gt, ↓o_ge, ↓o_addI, ↓o_addS, ↓o_addT, ↓o_addL, ↓o_sub, ↓o_mulI, ↓o_mulT, ↓o_mulL, ↓o_mod, ↓o_fdiv, ↓o_pow, ↓o_inTs, ↓o_inTi, ↓o_inTt, ↓o_inLs, ↓o_inLi, ↓o_inLt, ↓o_ninTs, ↓o_ninTi, ↓o_ninTt, ↓o_ninLs, ↓o_ninLi, ↓o_ninLt, ↓o_ixT, ↓o_ixL, ↓o_ixD, ↓o_indexS, ↓o_indexI, ↓o_indexT, ↓o_countS, ↓o_countI, ↓o_iSs, ↓o_iSi, ↓o_iSb, ↓o_iSn, ↓o_iSt, ↓o_iSl, ↓o_iIs, ↓o_iIi, ↓o_iIb, ↓o_iIn, ↓o_iIt, ↓o_iIl, ↓o_iTs, ↓o_iTi, ↓o_iTb, ↓o_iTn, ↓o_iTt, ↓o_iTl, ↓o_iBs, ↓o_iBi, ↓o_iBb, ↓o_iBn, ↓o_iBt, ↓o_iBl, ↓o_rngL, ↓o_rngT, ↓o_rngL2, ↓o_rngT2, ↓o_isT, ↓o_notT, ↓o_max2, ↓o_min2, ↓o_neg, ↓o_abs, ↓o_int, ↓o_intB, ↓o_lenT, ↓o_lenL, ↓o_lenS, ↓o_tupT, ↓o_tupL, ↓o_lstT, ↓o_lstL, ↓o_rev, ↓o_isN, ↓o_noN, ↓o_slL, ↓o_slT, ↓n_non, ↓n_bl, ↓n_int, ↓n_str, ↓n_tup, ↓n_lst, ↓e_ss, ↓e_ii, ↓e_bb, ↓e_tt, ↓e_l0, ↓e_t0, ↓e_llc, ↓e_alr, ↓e_al1, ↓e_al3, ↓e_ny0, ↓e_nS, ↓e_ny1, slotA, t_bl, t_non, t_int, t_tup, t_lst, v_lst, v_tup, v_int, v_str, v_bl, v_non, y_int, y_str, isNil, bindP, bindPs, permP, wipeP, v2p, v2ps, Val.nr, Val.nrs, dicP, getP, nodupP, List.length_cons, List.length_nil, List.getElem?_cons_zero, List.getElem?_cons_succ, List.set_cons_zero, List.set_cons_succ, List.map_cons, List.map_nil, rep_none, rep_none0, List.append, List.cons_append, List.nil_append, true_and, and_true, if_true, if_false, Bool.false_eq_true, Option.bind, Bool.not_true, Bool.not_false, Bool.true_and, Bool.false_and, Bool.and_true, Bool.and_false, Bool.or_true, Bool.or_false, Bool.true_or, Bool.false_or, Option.map, Option.map_some, Option.map_none, List.getElem?_nil, Bool.or_self, Bool.and_self, Nat.zero_le, Nat.reduceAdd, Nat.reduceSub, Nat.reduceLT, Nat.reduceLeDiff, Nat.reduceEqDiff, Nat.reduceBEq, beq_self_eq_true, Nat.zero_add, Nat.add_zero, List.length_map, top, List.length_append, List.all_cons, List.all_nil, and_self, List.filterMap_cons, List.filterMap_nil, List.length_set, at_lit, at_last, w_seqT, w_seqL, w_enT, w_enL, w_zipT, w_zipL, seqP, Option.bind_some]
    refine for_all (fun rest ρ => (∀ x ∈ rest, x = .str [97, 98, 111, 114, 116] ∨ x = .str [99, 111, 109, 109, 105, 116]) ∧ ∃ o7 o8, ρ = [none, some .deck, some (.tup (ways.map Wy.e)), some (.lst (ways.map Wy.e)), o4, o5, o6, o7, o8, none]) ?_ ?_ _ _ ⟨by simp, _, _, rfl⟩
    · rintro x xs ρ ⟨hx, o7, o8, rfl⟩
      have hx' := fun y hy => hx y (List.mem_cons_of_mem _ hy)
      rcases hx x List.mem_cons_self with rfl | rfl
      · simp only [forced_a, ↓a_bind, ↓a_ret, ↓a_bad, ↓a_exc, ↓a_when, ↓a_some, ↓a_none, ↓a_noX, ↓a_kif, ↓a_ite, ↓a_kS, ↓a_kI, ↓a_kB, ↓a_kN, ↓a_k, ↓a_gS, ↓a_gI, ↓a_g, ↓a_x, ↓a_tup, ↓a_lst, ↓a_dic, ↓a_op1, ↓a_op2, ↓a_optT, ↓a_optF, ↓a_sl, ↓a_and, ↓a_or, ↓a_not, ↓a_iteE, ↓a_chain, ↓a_call, ↓a_nil, ↓a_cons, ↓a_comp, ↓a_op2T, ↓a_op2F, ↓a_optCT, ↓a_optCF, ↓h_skip, ↓h_never, ↓h_exC, ↓h_seq, ↓h_asg, ↓h_mv, ↓h_un, ↓h_sub, ↓h_app, ↓h_ext, ↓h_ret, ↓h_retN, ↓h_brk, ↓h_cont, ↓h_ite, ↓h_fo, ↓h_run, ↓on_some2, ↓on_none2, ↓o_eq, ↓o_ne, ↓o_lt, ↓o_le, ↓o_gt, ↓o_ge, ↓o_addI, ↓o_addS, ↓o_addT, ↓o_addL, ↓o_sub, ↓o_mulI, ↓o_mulT, ↓o_mulL, ↓o_mod, ↓o_fdiv, ↓o_pow, ↓o_inTs, ↓o_inTi, ↓o_inTt, ↓o_inLs, ↓o_inLi, ↓o_inLt, ↓o_ninTs, ↓o_ninTi, ↓o_ninTt, ↓o_ninLs, ↓o_ninLi, ↓o_ninLt, ↓o_ixT, ↓o_ixL, ↓o_ixD, ↓o_indexS, ↓o_indexI, ↓o_indexT, ↓o_countS, ↓o_countI, ↓o_iSs, ↓o_iSi, ↓o_iSb, ↓o_iSn, ↓o_iSt, ↓o_iSl, ↓o_iIs, ↓o_iIi, ↓o_iIb, ↓o_iIn, ↓o_iIt, ↓o_iIl, ↓o_iTs, ↓o_iTi, ↓o_iTb, ↓o_iTn, ↓o_iTt, ↓o_iTl, ↓o_iBs, ↓o_iBi, ↓o_iBb, ↓o_iBn, ↓o_iBt, ↓o_iBl, ↓o_rngL, ↓o_rngT, ↓o_rngL2, ↓o_rngT2, ↓o_isT, ↓o_notT, ↓o_max2, ↓o_min2, ↓o_neg, ↓o_abs, ↓o_int, ↓o_intB, ↓o_lenT, ↓o_lenL, ↓o_lenS, ↓o_tupT, ↓o_tupL, ↓o_lstT, ↓o_lstL, ↓o_rev, ↓o_isN, ↓o_noN, ↓o_slL, ↓o_slT, ↓n_non, ↓n_bl, ↓n_int, ↓n_str, ↓n_tup, ↓n_lst, ↓e_ss, ↓e_ii, ↓e_bb, ↓e_tt, ↓e_l0, ↓e_t0, ↓e_llc, ↓e_alr, ↓e_al1, ↓e_al3, ↓e_ny0, ↓e_nS, ↓e_ny1, slotA, t_bl, t_non, t_int, t_tup, t_lst, v_lst, v_tup, v_int, v_str, v_bl, v_non, y_int, y_str, isNil, bindP, bindPs, permP, wipeP, v2p, v2ps, Val.nr, Val.nrs, dicP, getP, nodupP, List.length_cons, List.length_nil, List.getElem?_cons_zero, List.getElem?_cons_succ, List.set_cons_zero, List.set_cons_succ, List.map_cons, List.map_nil, rep_none, rep_none0, List.append, List.cons_append, List.nil_append, true_and, and_true, if_true, if_false, Bool.false_eq_true, Option.bind, Bool.not_true, Bool.not_false, Bool.true_and, Bool.false_and, Bool.and_true, Bool.and_false, Bool.or_true, Bool.or_false, Bool.true_or, Bool.false_or, Option.map, Option.map_some, Option.map_none, List.getElem?_nil, Bool.or_self, Bool.and_self, Nat.zero_le, Nat.reduceAdd, Nat.reduceSub, Nat.reduceLT, Nat.reduceLeDiff, Nat.reduceEqDiff, Nat.reduceBEq, beq_self_eq_true, Nat.zero_add, Nat.add_zero, List.length_map, top, List.length_append, List.all_cons, List.all_nil, and_self, List.filterMap_cons, List.filterMap_nil, List.length_set, at_lit, at_last, w_seqT, w_seqL, w_enT, w_enL, w_zipT, w_zipL, seqP, Option.bind_some]
        refine comp_map (fun x => within x yA) Wy.e (by decide) (fun x hx => ?_) ?_
        · simp only [↓a_bind, ↓a_ret, ↓a_bad, ↓a_exc, ↓a_when, ↓a_some, ↓a_none, ↓a_noX, ↓a_kif, ↓a_ite, ↓a_kS, ↓a_kI, ↓a_kB, ↓a_kN, ↓a_k, ↓a_gS, ↓a_gI, ↓a_g, ↓a_x, ↓a_tup, ↓a_lst, ↓a_dic, ↓a_op1, ↓a_op2, ↓a_optT, ↓a_optF, ↓a_sl, ↓a_and, ↓a_or, ↓a_not, ↓a_iteE, ↓a_chain, ↓a_call, ↓a_nil, ↓a_cons, ↓a_comp, ↓a_op2T, ↓a_op2F, ↓a_optCT, ↓a_optCF, ↓h_skip, ↓h_never, ↓h_exC, ↓h_seq, ↓h_asg, ↓h_mv, ↓h_un, ↓h_sub, ↓h_app, ↓h_ext, ↓h_ret, ↓h_retN, ↓h_brk, ↓h_cont, ↓h_ite, ↓h_fo, ↓h_run, ↓on_some2, ↓on_none2, ↓o_eq, ↓o_ne, ↓o_lt, ↓o_le, ↓o_gt, ↓o_ge, ↓o_addI, ↓o_addS, ↓o_addT, ↓o_addL, ↓o_sub, ↓o_mulI, ↓o_mulT, ↓o_mulL, ↓o_mod, ↓o_fdiv, ↓o_pow, ↓o_inTs, ↓o_inTi, ↓o_inTt, ↓o_inLs, ↓o_inLi, ↓o_inLt, ↓o_ninTs, ↓o_ninTi, ↓o_ninTt, ↓o_ninLs, ↓o_ninLi, ↓o_ninLt, ↓o_ixT, ↓o_ixL, ↓o_ixD, ↓o_indexS, ↓o_indexI, ↓o_indexT, ↓o_countS, ↓o_countI, ↓o_iSs, ↓o_iSi, ↓o_iSb, ↓o_iSn, ↓o_iSt, ↓o_iSl, ↓o_iIs, ↓o_iIi, ↓o_iIb, ↓o_iIn, ↓o_iIt, ↓o_iIl, ↓o_iTs, ↓o_iTi, ↓o_iTb, ↓o_iTn, ↓o_iTt, ↓o_iTl, ↓o_iBs, ↓o_iBi, ↓o_iBb, ↓o_iBn, ↓o_iBt, ↓o_iBl, ↓o_rngL, ↓o_rngT, ↓o_rngL2, ↓o_rngT2, ↓o_isT, ↓o_notT, ↓o_max2, ↓o_min2, ↓o_neg, ↓o_abs, ↓o_int, ↓o_intB, ↓o_lenT, ↓o_lenL, ↓o_lenS, ↓o_tupT, ↓o_tupL, ↓o_lstT, ↓o_lstL, ↓o_rev, ↓o_isN, ↓o_noN, ↓o_slL, ↓o_slT, ↓n_non, ↓n_bl, ↓n_int, ↓n_str, ↓n_tup, ↓n_lst, ↓e_ss, ↓e_ii, ↓e_bb, ↓e_tt, ↓e_l0, ↓e_t0, ↓e_llc, ↓e_alr, ↓e_al1, ↓e_al3, ↓e_ny0, ↓e_nS, ↓e_ny1, slotA, t_bl, t_non, t_int, t_tup, t_lst, v_lst, v_tup, v_int, v_str, v_bl, v_non, y_int, y_str, isNil, bindP, bindPs, permP, wipeP, v2p, v2ps, Val.nr, Val.nrs, dicP, getP, nodupP, List.length_cons, List.length_nil, List.getElem?_cons_zero, List.getElem?_cons_succ, List.set_cons_zero, List.set_cons_succ, List.map_cons, List.map_nil, rep_none, rep_none0, List.append, List.cons_append, List.nil_append, true_and, and_true, if_true, if_false, Bool.false_eq_true, Option.bind, Bool.not_true, Bool.not_false, Bool.true_and, Bool.false_and, Bool.and_true, Bool.and_false, Bool.or_true, Bool.or_false, Bool.true_or, Bool.false_or, Option.map, Option.map_some, Option.map_none, List.getElem?_nil, Bool.or_self, Bool.and_self, Nat.zero_le, Nat.reduceAdd, Nat.reduceSub, Nat.reduceLT, Nat.reduceLeDiff, Nat.reduceEqDiff, Nat.reduceBEq, beq_self_eq_true, Nat.zero_add, Nat.add_zero, List.length_map, top, List.length_append, List.all_cons, List.all_nil, and_self, List.filterMap_cons, List.filterMap_nil, List.length_set, at_lit, at_last, w_seqT, w_seqL, w_enT, w_enL, w_zipT, w_zipL, seqP, Option.bind_some]
          refine All.imp (within_ok x yA) ?_
          rintro r rfl
          simp only [↓a_bind, ↓a_ret, ↓a_bad, ↓a_exc, ↓a_when, ↓a_some, ↓a_none, ↓a_noX, ↓a_kif, ↓a_ite, ↓a_kS, ↓a_kI, ↓a_kB, ↓a_kN, ↓a_k, ↓a_gS, ↓a_gI, ↓a_g, ↓a_x, ↓a_tup, ↓a_lst, ↓a_dic, ↓a_op1, ↓a_op2, ↓a_optT, ↓a_optF, ↓a_sl, ↓a_and, ↓a_or, ↓a_not, ↓a_iteE, ↓a_chain, ↓a_call, ↓a_nil, ↓a_cons, ↓a_comp, ↓a_op2T, ↓a_op2F, ↓a_optCT, ↓a_optCF, ↓h_skip, ↓h_never, ↓h_exC, ↓h_seq, ↓h_asg, ↓h_mv, ↓h_un, ↓h_sub, ↓h_app, ↓h_ext, ↓h_ret, ↓h_retN, ↓h_brk, ↓h_cont, ↓h_ite, ↓h_fo, ↓h_run, ↓on_some2, ↓on_none2, ↓o_eq, ↓o_ne, ↓o_lt, ↓o_le, ↓o_gt, ↓o_ge, ↓o_addI, ↓o_addS, ↓o_addT, ↓o_addL, ↓o_sub, ↓o_mulI, ↓o_mulT, ↓o_mulL, ↓o_mod, ↓o_fdiv, ↓o_pow, ↓o_inTs, ↓o_inTi, ↓o_inTt, ↓o_inLs, ↓o_inLi, ↓o_inLt, ↓o_ninTs, ↓o_ninTi, ↓o_ninTt, ↓o_ninLs, ↓o_ninLi, ↓o_ninLt, ↓o_ixT, ↓o_ixL, ↓o_ixD, ↓o_indexS, ↓o_indexI, ↓o_indexT, ↓o_countS, ↓o_countI, ↓o_iSs, ↓o_iSi, ↓o_iSb, ↓o_iSn, ↓o_iSt, ↓o_iSl, ↓o_iIs, ↓o_iIi, ↓o_iIb, ↓o_iIn, ↓o_iIt, ↓o_iIl, ↓o_iTs, ↓o_iTi, ↓o_iTb, ↓o_iTn, ↓o_iTt, ↓o_iTl, ↓o_iBs, ↓o_iBi, ↓o_iBb, ↓o_iBn, ↓o_iBt, ↓o_iBl, ↓o_rngL, ↓o_rngT, ↓o_rngL2, ↓o_rngT2, ↓o_isT, ↓o_notT, ↓o_max2, ↓o_min2, ↓o_neg, ↓o_abs, ↓o_int, ↓o_intB, ↓o_lenT, ↓o_lenL, ↓o_lenS, ↓o_tupT, ↓o_tupL, ↓o_lstT, ↓o_lstL, ↓o_rev, ↓o_isN, ↓o_noN, ↓o_slL, ↓o_slT, ↓n_non, ↓n_bl, ↓n_int, ↓n_str, ↓n_tup, ↓n_lst, ↓e_ss, ↓e_ii, ↓e_bb, ↓e_tt, ↓e_l0, ↓e_t0, ↓e_llc, ↓e_alr, ↓e_al1, ↓e_al3, ↓e_ny0, ↓e_nS, ↓e_ny1, slotA, t_bl, t_non, t_int, t_tup, t_lst, v_lst, v_tup, v_int, v_str, v_bl, v_non, y_int, y_str, isNil, bindP, bindPs, permP, wipeP, v2p, v2ps, Val.nr, Val.nrs, dicP, getP, nodupP, List.length_cons, List.length_nil, List.getElem?_cons_zero, List.getElem?_cons_succ, List.set_cons_zero, List.set_cons_succ, List.map_cons, List.map_nil, rep_none, rep_none0, List.append, List.cons_append, List.nil_append, true_and, and_true, if_true, if_false, Bool.false_eq_true, Option.bind, Bool.not_true, Bool.not_false, Bool.true_and, Bool.false_and, Bool.and_true, Bool.and_false, Bool.or_true, Bool.or_false, Bool.true_or, Bool.false_or, Option.map, Option.map_some, Option.map_none, List.getElem?_nil, Bool.or_self, Bool.and_self, Nat.zero_le, Nat.reduceAdd, Nat.reduceSub, Nat.reduceLT, Nat.reduceLeDiff, Nat.reduceEqDiff, Nat.reduceBEq, beq_self_eq_true, Nat.zero_add, Nat.add_zero, List.length_map, top, List.length_append, List.all_cons, List.all_nil, and_self, List.filterMap_cons, List.filterMap_nil, List.length_set, at_lit, at_last, w_seqT, w_seqL, w_enT, w_enL, w_zipT, w_zipL, seqP, Option.bind_some]
          exact fun _ => trivial
        · have hye : (yA).e = .tup [(yA).1.e, (yA).2.e] := rfl
          simp only [List.length_map, one_a, ↓a_bind, ↓a_ret, ↓a_bad, ↓a_exc, ↓a_when, ↓a_some, ↓a_none, ↓a_noX, ↓a_kif, ↓a_ite, ↓a_kS, ↓a_kI, ↓a_kB, ↓a_kN, ↓a_k, ↓a_gS, ↓a_gI, ↓a_g, ↓a_x, ↓a_tup, ↓a_lst, ↓a_dic, ↓a_op1, ↓a_op2, ↓a_optT, ↓a_optF, ↓a_sl, ↓a_and, ↓a_or, ↓a_not, ↓a_iteE, ↓a_chain, ↓a_call, ↓a_nil, ↓a_cons, ↓a_comp, ↓a_op2T, ↓a_op2F, ↓a_optCT, ↓a_optCF, ↓h_skip, ↓h_never, ↓h_exC, ↓h_seq, ↓h_asg, ↓h_mv, ↓h_un, ↓h_sub, ↓h_app, ↓h_ext, ↓h_ret, ↓h_retN, ↓h_brk, ↓h_cont, ↓h_ite, ↓h_fo, ↓h_run, ↓on_some2, ↓on_none2, ↓o_eq, ↓o_ne, ↓o_lt, ↓o_le, ↓o_gt, ↓o_ge, ↓o_addI, ↓o_addS, ↓o_addT, ↓o_addL, ↓o_sub, ↓o_mulI, ↓o_mulT, ↓o_mulL, ↓o_mod, ↓o_fdiv, ↓o_pow, ↓o_inTs, ↓o_inTi, ↓o_inTt, ↓o_inLs, ↓o_inLi, ↓o_inLt, ↓o_ninTs, ↓o_ninTi, ↓o_ninTt, ↓o_ninLs, ↓o_ninLi, ↓o_ninLt, ↓o_ixT, ↓o_ixL, ↓o_ixD, ↓o_indexS, ↓o_indexI, ↓o_indexT, ↓o_countS, ↓o_countI, ↓o_iSs, ↓o_iSi, ↓o_iSb, ↓o_iSn, ↓o_iSt, ↓o_iSl, ↓o_iIs, ↓o_iIi, ↓o_iIb, ↓o_iIn, ↓o_iIt, ↓o_iIl, ↓o_iTs, ↓o_iTi, ↓o_iTb, ↓o_iTn, ↓o_iTt, ↓o_iTl, ↓o_iBs, ↓o_iBi, ↓o_iBb, ↓o_iBn, ↓o_iBt, ↓o_iBl, ↓o_rngL, ↓o_rngT, ↓o_rngL2, ↓o_rngT2, ↓o_isT, ↓o_notT, ↓o_max2, ↓o_min2, ↓o_neg, ↓o_abs, ↓o_int, ↓o_intB, ↓o_lenT, ↓o_lenL, ↓o_lenS, ↓o_tupT, ↓o_tupL, ↓o_lstT, ↓o_lstL, ↓o_rev, ↓o_isN, ↓o_noN, ↓o_slL, ↓o_slT, ↓n_non, ↓n_bl, ↓n_int, ↓n_str, ↓n_tup, ↓n_lst, ↓e_ss, ↓e_ii, ↓e_bb, ↓e_tt, ↓e_l0, ↓e_t0, ↓e_llc, ↓e_alr, ↓e_al1, ↓e_al3, ↓e_ny0, ↓e_nS, ↓e_ny1, slotA, t_bl, t_non, t_int, t_tup, t_lst, v_lst, v_tup, v_int, v_str, v_bl, v_non, y_int, y_str, isNil, bindP, bindPs, permP, wipeP, v2p, v2ps, Val.nr, Val.nrs, dicP, getP, nodupP, List.length_cons, List.length_nil, List.getElem?_cons_zero, List.getElem?_cons_succ, List.set_cons_zero, List.set_cons_succ, List.map_cons, List.map_nil, rep_none, rep_none0, List.append, List.cons_append, List.nil_append, true_and, and_true, if_true, if_false, Bool.false_eq_true, Option.bind, Bool.not_true, Bool.not_false, Bool.true_and, Bool.false_and, Bool.and_true, Bool.and_false, Bool.or_true, Bool.or_false, Bool.true_or, Bool.false_or, Option.map, Option.map_some, Option.map_none, List.getElem?_nil, Bool.or_self, Bool.and_self, Nat.zero_le, Nat.reduceAdd, Nat.reduceSub, Nat.reduceLT, Nat.reduceLeDiff, Nat.reduceEqDiff, Nat.reduceBEq, beq_self_eq_true, Nat.zero_add, Nat.add_zero, List.length_map, top, List.length_append, List.all_cons, List.all_nil, and_self, List.filterMap_cons, List.filterMap_nil, List.length_set, at_lit, at_last, w_seqT, w_seqL, w_enT, w_enL, w_zipT, w_zipL, seqP, Option.bind_some]
          simp only [hye, law_lacks_eq, lk_fit lA, ↓a_bind, ↓a_ret, ↓a_bad, ↓a_exc, ↓a_when, ↓a_some, ↓a_none, ↓a_noX, ↓a_kif, ↓a_ite, ↓a_kS, ↓a_kI, ↓a_kB, ↓a_kN, ↓a_k, ↓a_gS, ↓a_gI, ↓a_g, ↓a_x, ↓a_tup, ↓a_lst, ↓a_dic, ↓a_op1, ↓a_op2, ↓a_optT, ↓a_optF, ↓a_sl, ↓a_and, ↓a_or, ↓a_not, ↓a_iteE, ↓a_chain, ↓a_call, ↓a_nil, ↓a_cons, ↓a_comp, ↓a_op2T, ↓a_op2F, ↓a_optCT, ↓a_optCF, ↓h_skip, ↓h_never, ↓h_exC, ↓h_seq, ↓h_asg, ↓h_mv, ↓h_un, ↓h_sub, ↓h_app, ↓h_ext, ↓h_ret, ↓h_retN, ↓h_brk, ↓h_cont, ↓h_ite, ↓h_fo, ↓h_run, ↓on_some2, ↓on_none2, ↓o_eq, ↓o_ne, ↓o_lt, ↓o_le, ↓o_gt, ↓o_ge, ↓o_addI, ↓o_addS, ↓o_addT, ↓o_addL, ↓o_sub, ↓o_mulI, ↓o_mulT, ↓o_mulL, ↓o_mod, ↓o_fdiv, ↓o_pow, ↓o_inTs, ↓o_inTi, ↓o_inTt, ↓o_inLs, ↓o_inLi, ↓o_inLt, ↓o_ninTs, ↓o_ninTi, ↓o_ninTt, ↓o_ninLs, ↓o_ninLi, ↓o_ninLt, ↓o_ixT, ↓o_ixL, ↓o_ixD, ↓o_indexS, ↓o_indexI, ↓o_indexT, ↓o_countS, ↓o_countI, ↓o_iSs, ↓o_iSi, ↓o_iSb, ↓o_iSn, ↓o_iSt, ↓o_iSl, ↓o_iIs, ↓o_iIi, ↓o_iIb, ↓o_iIn, ↓o_iIt, ↓o_iIl, ↓o_iTs, ↓o_iTi, ↓o_iTb, ↓o_iTn, ↓o_iTt, ↓o_iTl, ↓o_iBs, ↓o_iBi, ↓o_iBb, ↓o_iBn, ↓o_iBt, ↓o_iBl, ↓o_rngL, ↓o_rngT, ↓o_rngL2, ↓o_rngT2, ↓o_isT, ↓o_notT, ↓o_max2, ↓o_min2, ↓o_neg, ↓o_abs, ↓o_int, ↓o_intB, ↓o_lenT, ↓o_lenL, ↓o_lenS, ↓o_tupT, ↓o_tupL, ↓o_lstT, ↓o_lstL, ↓o_rev, ↓o_isN, ↓o_noN, ↓o_slL, ↓o_slT, ↓n_non, ↓n_bl, ↓n_int, ↓n_str, ↓n_tup, ↓n_lst, ↓e_ss, ↓e_ii, ↓e_bb, ↓e_tt, ↓e_l0, ↓e_t0, ↓e_llc, ↓e_alr, ↓e_al1, ↓e_al3, ↓e_ny0, ↓e_nS, ↓e_ny1, slotA, t_bl, t_non, t_int, t_tup, t_lst, v_lst, v_tup, v_int, v_str, v_bl, v_non, y_int, y_str, isNil, bindP, bindPs, permP, wipeP, v2p, v2ps, Val.nr, Val.nrs, dicP, getP, nodupP, List.length_cons, List.length_nil, List.getElem?_cons_zero, List.getElem?_cons_succ, List.set_cons_zero, List.set_cons_succ, List.map_cons, List.map_nil, rep_none, rep_none0, List.append, List.cons_append, List.nil_append, true_and, and_true, if_true, if_false, Bool.false_eq_true, Option.bind, Bool.not_true, Bool.not_false, Bool.true_and, Bool.false_and, Bool.and_true, Bool.and_false, Bool.or_true, Bool.or_false, Bool.true_or, Bool.false_or, Option.map, Option.map_some, Option.map_none, List.getElem?_nil, Bool.or_self, Bool.and_self, Nat.zero_le, Nat.reduceAdd, Nat.reduceSub, Nat.reduceLT, Nat.reduceLeDiff, Nat.reduceEqDiff, Nat.reduceBEq, beq_self_eq_true, Nat.zero_add, Nat.add_zero, List.length_map, top, List.length_append, List.all_cons, List.all_nil, and_self, List.filterMap_cons, List.filterMap_nil, List.length_set, at_lit, at_last, w_seqT, w_seqL, w_enT, w_enL, w_zipT, w_zipL, seqP, Option.bind_some]
          exact ⟨hx', _, _, rfl⟩
      · simp only [forced_c, ↓a_bind, ↓a_ret, ↓a_bad, ↓a_exc, ↓a_when, ↓a_some, ↓a_none, ↓a_noX, ↓a_kif, ↓a_ite, ↓a_kS, ↓a_kI, ↓a_kB, ↓a_kN, ↓a_k, ↓a_gS, ↓a_gI, ↓a_g, ↓a_x, ↓a_tup, ↓a_lst, ↓a_dic, ↓a_op1, ↓a_op2, ↓a_optT, ↓a_optF, ↓a_sl, ↓a_and, ↓a_or, ↓a_not, ↓a_iteE, ↓a_chain, ↓a_call, ↓a_nil, ↓a_cons, ↓a_comp, ↓a_op2T, ↓a_op2F, ↓a_optCT, ↓a_optCF, ↓h_skip, ↓h_never, ↓h_exC, ↓h_seq, ↓h_asg, ↓h_mv, ↓h_un, ↓h_sub, ↓h_app, ↓h_ext, ↓h_ret, ↓h_retN, ↓h_brk, ↓h_cont, ↓h_ite, ↓h_fo, ↓h_run, ↓on_some2, ↓on_none2, ↓o_eq, ↓o_ne, ↓o_lt, ↓o_le, ↓o_gt, ↓o_ge, ↓o_addI, ↓o_addS, ↓o_addT, ↓o_addL, ↓o_sub, ↓o_mulI, ↓o_mulT, ↓o_mulL, ↓o_mod, ↓o_fdiv, ↓o_pow, ↓o_inTs, ↓o_inTi, ↓o_inTt, ↓o_inLs, ↓o_inLi, ↓o_inLt, ↓o_ninTs, ↓o_ninTi, ↓o_ninTt, ↓o_ninLs, ↓o_ninLi, ↓o_ninLt, ↓o_ixT, ↓o_ixL, ↓o_ixD, ↓o_indexS, ↓o_indexI, ↓o_indexT, ↓o_countS, ↓o_countI, ↓o_iSs, ↓o_iSi, ↓o_iSb, ↓o_iSn, ↓o_iSt, ↓o_iSl, ↓o_iIs, ↓o_iIi, ↓o_iIb, ↓o_iIn, ↓o_iIt, ↓o_iIl, ↓o_iTs, ↓o_iTi, ↓o_iTb, ↓o_iTn, ↓o_iTt, ↓o_iTl, ↓o_iBs, ↓o_iBi, ↓o_iBb, ↓o_iBn, ↓o_iBt, ↓o_iBl, ↓o_rngL, ↓o_rngT, ↓o_rngL2, ↓o_rngT2, ↓o_isT, ↓o_notT, ↓o_max2, ↓o_min2, ↓o_neg, ↓o_abs, ↓o_int, ↓o_intB, ↓o_lenT, ↓o_lenL, ↓o_lenS, ↓o_tupT, ↓o_tupL, ↓o_lstT, ↓o_lstL, ↓o_rev, ↓o_isN, ↓o_noN, ↓o_slL, ↓o_slT, ↓n_non, ↓n_bl, ↓n_int, ↓n_str, ↓n_tup, ↓n_lst, ↓e_ss, ↓e_ii, ↓e_bb, ↓e_tt, ↓e_l0, ↓e_t0, ↓e_llc, ↓e_alr, ↓e_al1, ↓e_al3, ↓e_ny0, ↓e_nS, ↓e_ny1, slotA, t_bl, t_non, t_int, t_tup, t_lst, v_lst, v_tup, v_int, v_str, v_bl, v_non, y_int, y_str, isNil, bindP, bindPs, permP, wipeP, v2p, v2ps, Val.nr, Val.nrs, dicP, getP, nodupP, List.length_cons, List.length_nil, List.getElem?_cons_zero, List.getElem?_cons_succ, List.set_cons_zero, List.set_cons_succ, List.map_cons, List.map_nil, rep_none, rep_none0, List.append, List.cons_append, List.nil_append, true_and, and_true, if_true, if_false, Bool.false_eq_true, Option.bind, Bool.not_true, Bool.not_false, Bool.true_and, Bool.false_and, Bool.and_true, Bool.and_false, Bool.or_true, Bool.or_false, Bool.true_or, Bool.false_or, Option.map, Option.map_some, Option.map_none, List.getElem?_nil, Bool.or_self, Bool.and_self, Nat.zero_le, Nat.reduceAdd, Nat.reduceSub, Nat.reduceLT, Nat.reduceLeDiff, Nat.reduceEqDiff, Nat.reduceBEq, beq_self_eq_true, Nat.zero_add, Nat.add_zero, List.length_map, top, List.length_append, List.all_cons, List.all_nil, and_self, List.filterMap_cons, List.filterMap_nil, List.length_set, at_lit, at_last, w_seqT, w_seqL, w_enT, w_enL, w_zipT, w_zipL, seqP, Option.bind_some]
        refine comp_map (fun x => within x yC) Wy.e (by decide) (fun x hx => ?_) ?_
        · simp only [↓a_bind, ↓a_ret, ↓a_bad, ↓a_exc, ↓a_when, ↓a_some, ↓a_none, ↓a_noX, ↓a_kif, ↓a_ite, ↓a_kS, ↓a_kI, ↓a_kB, ↓a_kN, ↓a_k, ↓a_gS, ↓a_gI, ↓a_g, ↓a_x, ↓a_tup, ↓a_lst, ↓a_dic, ↓a_op1, ↓a_op2, ↓a_optT, ↓a_optF, ↓a_sl, ↓a_and, ↓a_or, ↓a_not, ↓a_iteE, ↓a_chain, ↓a_call, ↓a_nil, ↓a_cons, ↓a_comp, ↓a_op2T, ↓a_op2F, ↓a_optCT, ↓a_optCF, ↓h_skip, ↓h_never, ↓h_exC, ↓h_seq, ↓h_asg, ↓h_mv, ↓h_un, ↓h_sub, ↓h_app, ↓h_ext, ↓h_ret, ↓h_retN, ↓h_brk, ↓h_cont, ↓h_ite, ↓h_fo, ↓h_run, ↓on_some2, ↓on_none2, ↓o_eq, ↓o_ne, ↓o_lt, ↓o_le, ↓o_gt, ↓o_ge, ↓o_addI, ↓o_addS, ↓o_addT, ↓o_addL, ↓o_sub, ↓o_mulI, ↓o_mulT, ↓o_mulL, ↓o_mod, ↓o_fdiv, ↓o_pow, ↓o_inTs, ↓o_inTi, ↓o_inTt, ↓o_inLs, ↓o_inLi, ↓o_inLt, ↓o_ninTs, ↓o_ninTi, ↓o_ninTt, ↓o_ninLs, ↓o_ninLi, ↓o_ninLt, ↓o_ixT, ↓o_ixL, ↓o_ixD, ↓o_indexS, ↓o_indexI, ↓o_indexT, ↓o_countS, ↓o_countI, ↓o_iSs, ↓o_iSi, ↓o_iSb, ↓o_iSn, ↓o_iSt, ↓o_iSl, ↓o_iIs, ↓o_iIi, ↓o_iIb, ↓o_iIn, ↓o_iIt, ↓o_iIl, ↓o_iTs, ↓o_iTi, ↓o_iTb, ↓o_iTn, ↓o_iTt, ↓o_iTl, ↓o_iBs, ↓o_iBi, ↓o_iBb, ↓o_iBn, ↓o_iBt, ↓o_iBl, ↓o_rngL, ↓o_rngT, ↓o_rngL2, ↓o_rngT2, ↓o_isT, ↓o_notT, ↓o_max2, ↓o_min2, ↓o_neg, ↓o_abs, ↓o_int, ↓o_intB, ↓o_lenT, ↓o_lenL, ↓o_lenS, ↓o_tupT, ↓o_tupL, ↓o_lstT, ↓o_lstL, ↓o_rev, ↓o_isN, ↓o_noN, ↓o_slL, ↓o_slT, ↓n_non, ↓n_bl, ↓n_int, ↓n_str, ↓n_tup, ↓n_lst, ↓e_ss, ↓e_ii, ↓e_bb, ↓e_tt, ↓e_l0, ↓e_t0, ↓e_llc, ↓e_alr, ↓e_al1, ↓e_al3, ↓e_ny0, ↓e_nS, ↓e_ny1, slotA, t_bl, t_non, t_int, t_tup, t_lst, v_lst, v_tup, v_int, v_str, v_bl, v_non, y_int, y_str, isNil, bindP, bindPs, permP, wipeP, v2p, v2ps, Val.nr, Val.nrs, dicP, getP, nodupP, List.length_cons, List.length_nil, List.getElem?_cons_zero, List.getElem?_cons_succ, List.set_cons_zero, List.set_cons_succ, List.map_cons, List.map_nil, rep_none, rep_none0, List.append, List.cons_append, List.nil_append, true_and, and_true, if_true, if_false, Bool.false_eq_true, Option.bind, Bool.not_true, Bool.not_false, Bool.true_and, Bool.false_and, Bool.and_true, Bool.and_false, Bool.or_true, Bool.or_false, Bool.true_or, Bool.false_or, Option.map, Option.map_some, Option.map_none, List.getElem?_nil, Bool.or_self, Bool.and_self, Nat.zero_le, Nat.reduceAdd, Nat.reduceSub, Nat.reduceLT, Nat.reduceLeDiff, Nat.reduceEqDiff, Nat.reduceBEq, beq_self_eq_true, Nat.zero_add, Nat.add_zero, List.length_map, top, List.length_append, List.all_cons, List.all_nil, and_self, List.filterMap_cons, List.filterMap_nil, List.length_set, at_lit, at_last, w_seqT, w_seqL, w_enT, w_enL, w_zipT, w_zipL, seqP, Option.bind_some]
          refine All.imp (within_ok x yC) ?_
          rintro r rfl
          simp only [↓a_bind, ↓a_ret, ↓a_bad, ↓a_exc, ↓a_when, ↓a_some, ↓a_none, ↓a_noX, ↓a_kif, ↓a_ite, ↓a_kS, ↓a_kI, ↓a_kB, ↓a_kN, ↓a_k, ↓a_gS, ↓a_gI, ↓a_g, ↓a_x, ↓a_tup, ↓a_lst, ↓a_dic, ↓a_op1, ↓a_op2, ↓a_optT, ↓a_optF, ↓a_sl, ↓a_and, ↓a_or, ↓a_not, ↓a_iteE, ↓a_chain, ↓a_call, ↓a_nil, ↓a_cons, ↓a_comp, ↓a_op2T, ↓a_op2F, ↓a_optCT, ↓a_optCF, ↓h_skip, ↓h_never, ↓h_exC, ↓h_seq, ↓h_asg, ↓h_mv, ↓h_un, ↓h_sub, ↓h_app, ↓h_ext, ↓h_ret, ↓h_retN, ↓h_brk, ↓h_cont, ↓h_ite, ↓h_fo, ↓h_run, ↓on_some2, ↓on_none2, ↓o_eq, ↓o_ne, ↓o_lt, ↓o_le, ↓o_gt, ↓o_ge, ↓o_addI, ↓o_addS, ↓o_addT, ↓o_addL, ↓o_sub, ↓o_mulI, ↓o_mulT, ↓o_mulL, ↓o_mod, ↓o_fdiv, ↓o_pow, ↓o_inTs, ↓o_inTi, ↓o_inTt, ↓o_inLs, ↓o_inLi, ↓o_inLt, ↓o_ninTs, ↓o_ninTi, ↓o_ninTt, ↓o_ninLs, ↓o_ninLi, ↓o_ninLt, ↓o_ixT, ↓o_ixL, ↓o_ixD, ↓o_indexS, ↓o_indexI, ↓o_indexT, ↓o_countS, ↓o_countI, ↓o_iSs, ↓o_iSi, ↓o_iSb, ↓o_iSn, ↓o_iSt, ↓o_iSl, ↓o_iIs, ↓o_iIi, ↓o_iIb, ↓o_iIn, ↓o_iIt, ↓o_iIl, ↓o_iTs, ↓o_iTi, ↓o_iTb, ↓o_iTn, ↓o_iTt, ↓o_iTl, ↓o_iBs, ↓o_iBi, ↓o_iBb, ↓o_iBn, ↓o_iBt, ↓o_iBl, ↓o_rngL, ↓o_rngT, ↓o_rngL2, ↓o_rngT2, ↓o_isT, ↓o_notT, ↓o_max2, ↓o_min2, ↓o_neg, ↓o_abs, ↓o_int, ↓o_intB, ↓o_lenT, ↓o_lenL, ↓o_lenS, ↓o_tupT, ↓o_tupL, ↓o_lstT, ↓o_lstL, ↓o_rev, ↓o_isN, ↓o_noN, ↓o_slL, ↓o_slT, ↓n_non, ↓n_bl, ↓n_int, ↓n_str, ↓n_tup, ↓n_lst, ↓e_ss, ↓e_ii, ↓e_bb, ↓e_tt, ↓e_l0, ↓e_t0, ↓e_llc, ↓e_alr, ↓e_al1, ↓e_al3, ↓e_ny0, ↓e_nS, ↓e_ny1, slotA, t_bl, t_non, t_int, t_tup, t_lst, v_lst, v_tup, v_int, v_str, v_bl, v_non, y_int, y_str, isNil, bindP, bindPs, permP, wipeP, v2p, v2ps, Val.nr, Val.nrs, dicP, getP, nodupP, List.length_cons, List.length_nil, List.getElem?_cons_zero, List.getElem?_cons_succ, List.set_cons_zero, List.set_cons_succ, List.map_cons, List.map_nil, rep_none, rep_none0, List.append, List.cons_append, List.nil_append, true_and, and_true, if_true, if_false, Bool.false_eq_true, Option.bind, Bool.not_true, Bool.not_false, Bool.true_and, Bool.false_and, Bool.and_true, Bool.and_false, Bool.or_true, Bool.or_false, Bool.true_or, Bool.false_or, Option.map, Option.map_some, Option.map_none, List.getElem?_nil, Bool.or_self, Bool.and_self, Nat.zero_le, Nat.reduceAdd, Nat.reduceSub, Nat.reduceLT, Nat.reduceLeDiff, Nat.reduceEqDiff, Nat.reduceBEq, beq_self_eq_true, Nat.zero_add, Nat.add_zero, List.length_map, top, List.length_append, List.all_cons, List.all_nil, and_self, List.filterMap_cons, List.filterMap_nil, List.length_set, at_lit, at_last, w_seqT, w_seqL, w_enT, w_enL, w_zipT, w_zipL, seqP, Option.bind_some]
          exact fun _ => trivial
        · have hye : (yC).e = .tup [(yC).1.e, (yC).2.e] := rfl
          simp only [List.length_map, one_c, ↓a_bind, ↓a_ret, ↓a_bad, ↓a_exc, ↓a_when, ↓a_some, ↓a_none, ↓a_noX, ↓a_kif, ↓a_ite, ↓a_kS, ↓a_kI, ↓a_kB, ↓a_kN, ↓a_k, ↓a_gS, ↓a_gI, ↓a_g, ↓a_x, ↓a_tup, ↓a_lst, ↓a_dic, ↓a_op1, ↓a_op2, ↓a_optT, ↓a_optF, ↓a_sl, ↓a_and, ↓a_or, ↓a_not, ↓a_iteE, ↓a_chain, ↓a_call, ↓a_nil, ↓a_cons, ↓a_comp, ↓a_op2T, ↓a_op2F, ↓a_optCT, ↓a_optCF, ↓h_skip, ↓h_never, ↓h_exC, ↓h_seq, ↓h_asg, ↓h_mv, ↓h_un, ↓h_sub, ↓h_app, ↓h_ext, ↓h_ret, ↓h_retN, ↓h_brk, ↓h_cont, ↓h_ite, ↓h_fo, ↓h_run, ↓on_some2, ↓on_none2, ↓o_eq, ↓o_ne, ↓o_lt, ↓o_le, ↓o_gt, ↓o_ge, ↓o_addI, ↓o_addS, ↓o_addT, ↓o_addL, ↓o_sub, ↓o_mulI, ↓o_mulT, ↓o_mulL, ↓o_mod, ↓o_fdiv, ↓o_pow, ↓o_inTs, ↓o_inTi, ↓o_inTt, ↓o_inLs, ↓o_inLi, ↓o_inLt, ↓o_ninTs, ↓o_ninTi, ↓o_ninTt, ↓o_ninLs, ↓o_ninLi, ↓o_ninLt, ↓o_ixT, ↓o_ixL, ↓o_ixD, ↓o_indexS, ↓o_indexI, ↓o_indexT, ↓o_countS, ↓o_countI, ↓o_iSs, ↓o_iSi, ↓o_iSb, ↓o_iSn, ↓o_iSt, ↓o_iSl, ↓o_iIs, ↓o_iIi, ↓o_iIb, ↓o_iIn, ↓o_iIt, ↓o_iIl, ↓o_iTs, ↓o_iTi, ↓o_iTb, ↓o_iTn, ↓o_iTt, ↓o_iTl, ↓o_iBs, ↓o_iBi, ↓o_iBb, ↓o_iBn, ↓o_iBt, ↓o_iBl, ↓o_rngL, ↓o_rngT, ↓o_rngL2, ↓o_rngT2, ↓o_isT, ↓o_notT, ↓o_max2, ↓o_min2, ↓o_neg, ↓o_abs, ↓o_int, ↓o_intB, ↓o_lenT, ↓o_lenL, ↓o_lenS, ↓o_tupT, ↓o_tupL, ↓o_lstT, ↓o_lstL, ↓o_rev, ↓o_isN, ↓o_noN, ↓o_slL, ↓o_slT, ↓n_non, ↓n_bl, ↓n_int, ↓n_str, ↓n_tup, ↓n_lst, ↓e_ss, ↓e_ii, ↓e_bb, ↓e_tt, ↓e_l0, ↓e_t0, ↓e_llc, ↓e_alr, ↓e_al1, ↓e_al3, ↓e_ny0, ↓e_nS, ↓e_ny1, slotA, t_bl, t_non, t_int, t_tup, t_lst, v_lst, v_tup, v_int, v_str, v_bl, v_non, y_int, y_str, isNil, bindP, bindPs, permP, wipeP, v2p, v2ps, Val.nr, Val.nrs, dicP, getP, nodupP, List.length_cons, List.length_nil, List.getElem?_cons_zero, List.getElem?_cons_succ, List.set_cons_zero, List.set_cons_succ, List.map_cons, List.map_nil, rep_none, rep_none0, List.append, List.cons_append, List.nil_append, true_and, and_true, if_true, if_false, Bool.false_eq_true, Option.bind, Bool.not_true, Bool.not_false, Bool.true_and, Bool.false_and, Bool.and_true, Bool.and_false, Bool.or_true, Bool.or_false, Bool.true_or, Bool.false_or, Option.map, Option.map_some, Option.map_none, List.getElem?_nil, Bool.or_self, Bool.and_self, Nat.zero_le, Nat.reduceAdd, Nat.reduceSub, Nat.reduceLT, Nat.reduceLeDiff, Nat.reduceEqDiff, Nat.reduceBEq, beq_self_eq_true, Nat.zero_add, Nat.add_zero, List.length_map, top, List.length_append, List.all_cons, List.all_nil, and_self, List.filterMap_cons, List.filterMap_nil, List.length_set, at_lit, at_last, w_seqT, w_seqL, w_enT, w_enL, w_zipT, w_zipL, seqP, Option.bind_some]
          simp only [hye, law_lacks_eq, lk_fit lC, ↓a_bind, ↓a_ret, ↓a_bad, ↓a_exc, ↓a_when, ↓a_some, ↓a_none, ↓a_noX, ↓a_kif, ↓a_ite, ↓a_kS, ↓a_kI, ↓a_kB, ↓a_kN, ↓a_k, ↓a_gS, ↓a_gI, ↓a_g, ↓a_x, ↓a_tup, ↓a_lst, ↓a_dic, ↓a_op1, ↓a_op2, ↓a_optT, ↓a_optF, ↓a_sl, ↓a_and, ↓a_or, ↓a_not, ↓a_iteE, ↓a_chain, ↓a_call, ↓a_nil, ↓a_cons, ↓a_comp, ↓a_op2T, ↓a_op2F, ↓a_optCT, ↓a_optCF, ↓h_skip, ↓h_never, ↓h_exC, ↓h_seq, ↓h_asg, ↓h_mv, ↓h_un, ↓h_sub, ↓h_app, ↓h_ext, ↓h_ret, ↓h_retN, ↓h_brk, ↓h_cont, ↓h_ite, ↓h_fo, ↓h_run, ↓on_some2, ↓on_none2, ↓o_eq, ↓o_ne, ↓o_lt, ↓o_le, ↓o_gt, ↓o_ge, ↓o_addI, ↓o_addS, ↓o_addT, ↓o_addL, ↓o_sub, ↓o_mulI, ↓o_mulT, ↓o_mulL, ↓o_mod, ↓o_fdiv, ↓o_pow, ↓o_inTs, ↓o_inTi, ↓o_inTt, ↓o_inLs, ↓o_inLi, ↓o_inLt, ↓o_ninTs, ↓o_ninTi, ↓o_ninTt, ↓o_ninLs, ↓o_ninLi, ↓o_ninLt, ↓o_ixT, ↓o_ixL, ↓o_ixD, ↓o_indexS, ↓o_indexI, ↓o_indexT, ↓o_countS, ↓o_countI, ↓o_iSs, ↓o_iSi, ↓o_iSb, ↓o_iSn, ↓o_iSt, ↓o_iSl, ↓o_iIs, ↓o_iIi, ↓o_iIb, ↓o_iIn, ↓o_iIt, ↓o_iIl, ↓o_iTs, ↓o_iTi, ↓o_iTb, ↓o_iTn, ↓o_iTt, ↓o_iTl, ↓o_iBs, ↓o_iBi, ↓o_iBb, ↓o_iBn, ↓o_iBt, ↓o_iBl, ↓o_rngL, ↓o_rngT, ↓o_rngL2, ↓o_rngT2, ↓o_isT, ↓o_notT, ↓o_max2, ↓o_min2, ↓o_neg, ↓o_abs, ↓o_int, ↓o_intB, ↓o_lenT, ↓o_lenL, ↓o_lenS, ↓o_tupT, ↓o_tupL, ↓o_lstT, ↓o_lstL, ↓o_rev, ↓o_isN, ↓o_noN, ↓o_slL, ↓o_slT, ↓n_non, ↓n_bl, ↓n_int, ↓n_str, ↓n_tup, ↓n_lst, ↓e_ss, ↓e_ii, ↓e_bb, ↓e_tt, ↓e_l0, ↓e_t0, ↓e_llc, ↓e_alr, ↓e_al1, ↓e_al3, ↓e_ny0, ↓e_nS, ↓e_ny1, slotA, t_bl, t_non, t_int, t_tup, t_lst, v_lst, v_tup, v_int, v_str, v_bl, v_non, y_int, y_str, isNil, bindP, bindPs, permP, wipeP, v2p, v2ps, Val.nr, Val.nrs, dicP, getP, nodupP, List.length_cons, List.length_nil, List.getElem?_cons_zero, List.getElem?_cons_succ, List.set_cons_zero, List.set_cons_succ, List.map_cons, List.map_nil, rep_none, rep_none0, List.append, List.cons_append, List.nil_append, true_and, and_true, if_true, if_false, Bool.false_eq_true, Option.bind, Bool.not_true, Bool.not_false, Bool.true_and, Bool.false_and, Bool.and_true, Bool.and_false, Bool.or_true, Bool.or_false, Bool.true_or, Bool.false_or, Option.map, Option.map_some, Option.map_none, List.getElem?_nil, Bool.or_self, Bool.and_self, Nat.zero_le, Nat.reduceAdd, Nat.reduceSub, Nat.reduceLT, Nat.reduceLeDiff, Nat.reduceEqDiff, Nat.reduceBEq, beq_self_eq_true, Nat.zero_add, Nat.add_zero, List.length_map, top, List.length_append, List.all_cons, List.all_nil, and_self, List.filterMap_cons, List.filterMap_nil, List.length_set, at_lit, at_last, w_seqT, w_seqL, w_enT, w_enL, w_zipT, w_zipL, seqP, Option.bind_some]
          exact ⟨hx', _, _, rfl⟩
    · rintro ρ _
      trivial
  rintro ρ _
  simp only [↓a_bind, ↓a_ret, ↓a_bad, ↓a_exc, ↓a_when, ↓a_some, ↓a_none, ↓a_noX, ↓a_kif, ↓a_ite, ↓a_kS, ↓a_kI, ↓a_kB, ↓a_kN, ↓a_k, ↓a_gS, ↓a_gI, ↓a_g, ↓a_x, ↓a_tup, ↓a_lst, ↓a_dic, ↓a_op1, ↓a_op2, ↓a_optT, ↓a_optF, ↓a_sl, ↓a_and, ↓a_or, ↓a_not, ↓a_iteE, ↓a_chain, ↓a_call, ↓a_nil, ↓a_cons, ↓a_comp, ↓a_op2T, ↓a_op2F, ↓a_optCT, ↓a_optCF, ↓h_skip, ↓h_never, ↓h_exC, ↓h_seq, ↓h_asg, ↓h_mv, ↓h_un, ↓h_sub, ↓h_app, ↓h_ext, ↓h_ret, ↓h_retN, ↓h_brk, ↓h_cont, ↓h_ite, ↓h_fo, ↓h_run, ↓on_some2, ↓on_none2, ↓o_eq, ↓o_ne, ↓o_lt, ↓o_le, ↓o_gt, ↓o_ge, ↓o_addI, ↓o_addS, ↓o_addT, ↓o_addL, ↓o_sub, ↓o_mulI, ↓o_mulT, ↓o_mulL, ↓o_mod, ↓o_fdiv, ↓o_pow, ↓o_inTs, ↓o_inTi, ↓o_inTt, ↓o_inLs, ↓o_inLi, ↓o_inLt, ↓o_ninTs, ↓o_ninTi, ↓o_ninTt, ↓o_ninLs, ↓o_ninLi, ↓o_ninLt, ↓o_ixT, ↓o_ixL, ↓o_ixD, ↓o_indexS, ↓o_indexI, ↓o_indexT, ↓o_countS, ↓o_countI, ↓o_iSs, ↓o_iSi, ↓o_iSb, ↓o_iSn, ↓o_iSt, ↓o_iSl, ↓o_iIs, ↓o_iIi, ↓o_iIb, ↓o_iIn, ↓o_iIt, ↓o_iIl, ↓o_iTs, ↓o_iTi, ↓o_iTb, ↓o_iTn, ↓o_iTt, ↓o_iTl, ↓o_iBs, ↓o_iBi, ↓o_iBb, ↓o_iBn, ↓o_iBt, ↓o_iBl, ↓o_rngL, ↓o_rngT, ↓o_rngL2, ↓o_rngT2, ↓o_isT, ↓o_notT, ↓o_max2, ↓o_min2, ↓o_neg, ↓o_abs, ↓o_int, ↓o_intB, ↓o_lenT, ↓o_lenL, ↓o_lenS, ↓o_tupT, ↓o_tupL, ↓o_lstT, ↓o_lstL, ↓o_rev, ↓o_isN, ↓o_noN, ↓o_slL, ↓o_slT, ↓n_non, ↓n_bl, ↓n_int, ↓n_str, ↓n_tup, ↓n_lst, ↓e_ss, ↓e_ii, ↓e_bb, ↓e_tt, ↓e_l0, ↓e_t0, ↓e_llc, ↓e_alr, ↓e_al1, ↓e_al3, ↓e_ny0, ↓e_nS, ↓e_ny1, slotA, t_bl, t_non, t_int, t_tup, t_lst, v_lst, v_tup, v_int, v_str, v_bl, v_non, y_int, y_str, isNil, bindP, bindPs, permP, wipeP, v2p, v2ps, Val.nr, Val.nrs, dicP, getP, nodupP, List.length_cons, List.length_nil, List.getElem?_cons_zero, List.getElem?_cons_succ, List.set_cons_zero, List.set_cons_succ, List.map_cons, List.map_nil, rep_none, rep_none0, List.append, List.cons_append, List.nil_append, true_and, and_true, if_true, if_false, Bool.false_eq_true, Option.bind, Bool.not_true, Bool.not_false, Bool.true_and, Bool.false_and, Bool.and_true, Bool.and_false, Bool.or_true, Bool.or_false, Bool.true_or, Bool.false_or, Option.map, Option.map_some, Option.map_none, List.getElem?_nil, Bool.or_self, Bool.and_self, Nat.zero_le, Nat.reduceAdd, Nat.reduceSub, Nat.reduceLT, Nat.reduceLeDiff, Nat.reduceEqDiff, Nat.reduceBEq, beq_self_eq_true, Nat.zero_add, Nat.add_zero, List.length_map, top, List.length_append, List.all_cons, List.all_nil, and_self, List.filterMap_cons, List.filterMap_nil, List.length_set, at_lit, at_last, w_seqT, w_seqL, w_enT, w_enL, w_zipT, w_zipL, seqP, Option.bind_some]
theorem plain {ns : List Int} (hn : ns.length ≤ 63) : ∃ st', f_law [.ref 0] [.frz (ns.map .int)] = .ok (.v (.bl true)) st' := close_law hn law_all
end Law
end
open PySem PySem.W PyProof.Rows
set_option maxHeartbeats 0 in
theorem PySem.Challenge.cw_doubtbooks_k31_whole_the_least_ways_holds : PySem.Challenge.rw_doubtbooks_k31_whole_the_least_ways.Holds := by
  w_on; o_law; k_head; (case hw => w_witness2)
  k_fill
  refine Mi.walk_mini (l := PySem.Challenge.rw_doubtbooks_k31_whole_the_least_ways) (n := 63) (k := 5) (x := "script") (F := Law.f_law) rfl (by decide) rfl ⟨rfl, by decide, by decide⟩ (fun w h Y => PySem.W.kIn_of Y) ?L ?F (fun _ h => Law.plain h)
  case F =>
    intro w mg fa h KX G hmg
    refine' Law.all_mk KX G hmg ?a0 ?l0 ?c0 ?k0 ?a1 ?l1 ?c1 ?k1 ?a2 ?l2 ?c2 ?k2 ?a3 ?l3 ?c3 ?k3 ?a4 ?l4 ?c4 ?k4 ?a5 ?l5 ?c5 ?k5 ?a6 ?l6 ?c6 ?k6 ?a7 ?l7 ?c7 ?k7 ?a8 ?l8 ?c8 ?k8 ?a9 ?l9 ?c9 ?k9 ?a10 ?l10 ?c10 ?k10 ?a11 ?l11 ?c11 ?k11 ?a12 ?l12 ?c12 ?k12 ?a13 ?l13 ?c13 ?k13 ?a14 ?l14 ?c14 ?k14 ?a15 ?l15 ?c15 ?k15 ?a16 ?l16 ?c16 ?k16 ?a17 ?l17 ?c17 ?k17 ?a18 ?l18 ?c18 ?k18 ?a19 ?l19 ?c19 ?k19 ?z0 ?z1 ?z2 ?z3 ?z4 ?z5 ?z6 ?z7 ?gg0
    (case a0 => k_is); (case l0 => k_is); (case c0 => k_is); (case k0 => k_is); (case a1 => k_is); (case l1 => k_is); (case c1 => k_is); (case k1 => k_is); (case a2 => k_is); (case l2 => k_is); (case c2 => k_is); (case k2 => k_is); (case a3 => k_is); (case l3 => k_is); (case c3 => k_is); (case k3 => k_is); (case a4 => k_is); (case l4 => k_is); (case c4 => k_is); (case k4 => k_is); (case a5 => k_is); (case l5 => k_is); (case c5 => k_is); (case k5 => k_is); (case a6 => k_is); (case l6 => k_is); (case c6 => k_is); (case k6 => k_is); (case a7 => k_is); (case l7 => k_is); (case c7 => k_is); (case k7 => k_is); (case a8 => k_is); (case l8 => k_is); (case c8 => k_is); (case k8 => k_is); (case a9 => k_is); (case l9 => k_is); (case c9 => k_is); (case k9 => k_is); (case a10 => k_is); (case l10 => k_is); (case c10 => k_is); (case k10 => k_is); (case a11 => k_is); (case l11 => k_is); (case c11 => k_is); (case k11 => k_is); (case a12 => k_is); (case l12 => k_is); (case c12 => k_is); (case k12 => k_is); (case a13 => k_is); (case l13 => k_is); (case c13 => k_is); (case k13 => k_is); (case a14 => k_is); (case l14 => k_is); (case c14 => k_is); (case k14 => k_is); (case a15 => k_is); (case l15 => k_is); (case c15 => k_is); (case k15 => k_is); (case a16 => k_is); (case l16 => k_is); (case c16 => k_is); (case k16 => k_is); (case a17 => k_is); (case l17 => k_is); (case c17 => k_is); (case k17 => k_is); (case a18 => k_is); (case l18 => k_is); (case c18 => k_is); (case k18 => k_is); (case a19 => k_is); (case l19 => k_is); (case c19 => k_is); (case k19 => k_is); (case z0 => k_is); (case z1 => k_is); (case z2 => k_is); (case z3 => k_is); (case z4 => k_is); (case z5 => k_is); (case z6 => k_is); (case z7 => k_is); (case gg0 => k_is)
  case L =>
    intro p
    exact Mi.noList_ok (by rfl)
